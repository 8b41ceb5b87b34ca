import PyProof.Rows.All
import Wide.All
import OpenK.AllK
import Wide.FinOn
import HandS.ForMost
import HandS.Exc
import HandS.Wide
import HandS.Defaults
import HandS.RaiseMore
import HandS.Ends
import HandS.HeadEnd
import PySem.Challenge.RW_sipstack_k86_records_of_any_row
import KE.KStateDown
import HandS.Head0
import HandS.Head1
import HandS.Head2
import HandS.HeadHook1
import HandS.HeadHook2
set_option Elab.async false
set_option linter.all false
set_option maxRecDepth 100000
set_option maxHeartbeats 2000000
/-! G1: readings by values that reckon (a match in the place of there is), lists that are locked when they are made -/
namespace G
open PySem PySem.Spec PyProof.Rows L2

/-- a reading that asks more -/
theorem _root_.L2.PE.imp {X : Cx} {e : Expr} {t u : TE} (h : PE X e t) (i : ∀ σ H Q, u σ H Q → t σ H Q) : PE X e u := ⟨fun pins s σ H Q I q => h.run pins s σ H Q I (i σ H Q q)⟩
theorem _root_.L2.PT.imp {X : Cx} {e : Expr} {t u : TT} (h : PT X e t) (i : ∀ σ H Q, u σ H Q → t σ H Q) : PT X e u := ⟨fun pins s σ H Q I q => h.run pins s σ H Q I (i σ H Q q)⟩
theorem _root_.L2.PS.imp {X : Cx} {e : Stmt} {t u : TS} (h : PS X e t) (i : ∀ D σ H, u D σ H → t D σ H) : PS X e u := ⟨fun pins s σ H D I q => h.run pins s σ H D I (i D σ H q)⟩
theorem _root_.L2.PA.imp {X : Cx} {e : List Expr} {t u : TA} (h : PA X e t) (i : ∀ σ H Q, u σ H Q → t σ H Q) : PA X e u := ⟨fun pos pins s σ H Q I q => h.run pos pins s σ H Q I (i σ H Q q)⟩
/-- what is never read -/
def nE : TE := fun _ _ _ => False
def nT : TT := fun _ _ _ => False
def nS : TS := fun _ _ _ => False
def nA : TA := fun _ _ _ => False
theorem pe_n {X : Cx} {e : Expr} : PE X e nE := ⟨fun _ _ _ _ _ _ h => h.elim⟩
theorem pt_n {X : Cx} {e : Expr} : PT X e nT := ⟨fun _ _ _ _ _ _ h => h.elim⟩
theorem ps_n {X : Cx} {e : Stmt} : PS X e nS := ⟨fun _ _ _ _ _ _ h => h.elim⟩
theorem pss_n {X : Cx} {e : List Stmt} : PSs X e nS := ⟨fun _ _ _ _ _ _ h => h.elim⟩
theorem pa_n {X : Cx} {e : List Expr} : PA X e nA := ⟨fun _ _ _ _ _ _ _ h => h.elim⟩

/-! ### lists and tuples as they are read -/
def lstOf : Option HO → Option (List V)
  | some (.lst xs) => some xs
  | some (.frz _ (.lst xs)) => some xs
  | _ => none
def tupOf : Option HO → Option (List V)
  | some (.tup xs) => some xs
  | _ => none
theorem lstOf_rd {H : Hp} {a : Addr} {xs : List V} (h : lstOf (H a) = some xs) : Rd H a (.lst xs) := by
  cases e : H a with
  | none => rw [e] at h; cases h
  | some o =>
    rw [e] at h
    cases o with
    | lst ys => cases h; exact .inl e
    | frz ob u => cases u with
      | lst ys => cases h; exact .inr ⟨ob, e⟩
      | _ => cases h
    | _ => cases h
theorem lstOf_sq {K : PySem.W.Frag} {H : Hp} {a : Addr} {xs : List V} (h : lstOf (H a) = some xs) : SqL K H a xs := .inl (lstOf_rd h)
theorem tupOf_sq {K : PySem.W.Frag} {H : Hp} {a : Addr} {xs : List V} (h : tupOf (H a) = some xs) : SqT K H a xs := by
  cases e : H a with
  | none => rw [e] at h; cases h
  | some o =>
    rw [e] at h
    cases o with
    | tup ys => cases h; exact .inl (.inl e)
    | _ => cases h
/-- a new list's object: m: locked -/
def Fz (m : Bool) (ys : List V) (u : HO) : Prop := match m with
  | false => u = .lst ys
  | true => ∃ o, u = .frz o (.lst ys)
/-- a new list -/
def al (m : Bool) (ys : List V) (H : Hp) (Q : VK) : Prop := ∀ p u, H p = none → Fz m ys u → Q (.ref p) (upd H p u)
theorem Fz.lst {m : Bool} {ys : List V} {u : HO} (h : Fz m ys u) : lstOf (some u) = some ys := by
  cases m with
  | false => cases h; rfl
  | true => obtain ⟨o, rfl⟩ := h; rfl

section
variable {X : Cx} {pins : List (Addr × Obj)} {σ : L2.St} {H : Hp} {s : Shared}
/-- a tracked list is locked: from now on it is read alone -/
theorem Inv.lock {p : Addr} {ys : List V} (I : Inv X pins σ H s) (h : H p = some (.lst ys)) : ∃ o, Inv X pins σ (upd H p (.frz o (.lst ys))) s := by
  obtain ⟨hz, its, n, r, e⟩ := I.hok p _ h
  refine ⟨{ cls := .type "list", data := .seq its.toArray n }, ?_⟩
  have hne : ∀ b u, H b = some u → (∀ xs, u ≠ .lst xs) → b ≠ p := fun b u q z w => by
    rw [w, h] at q
    cases q
    exact z _ rfl
  have hb : Un X.fs X.ex X.H_0 (upd H p (.frz { cls := .type "list", data := .seq its.toArray n } (.lst ys))) X.s_0.heap s.heap :=
    { keep := I.base.keep
      slot := I.base.slot
      free := fun b o q z w => by
        have f := I.base.free b o q z w
        rw [upd_ne (fun e2 => by rw [e2, h] at f; cases f)]
        exact f
      there := I.base.there
      tups := fun b xs q => by
        have f := I.base.tups b xs q
        rw [upd_ne (hne b _ f (fun _ z => by cases z))]
        exact f
      frzs := fun b o u q => by
        have f := I.base.frzs b o u q
        rw [upd_ne (hne b _ f (fun _ z => by cases z))]
        exact f
      tbls := fun b ps q => by
        obtain ⟨more, f⟩ := I.base.tbls b ps q
        exact ⟨more, by rw [upd_ne (hne b _ f (fun _ z => by cases z))]; exact f⟩ }
  refine ⟨I.ok, I.os, I.bare, hb, I.loc, I.cell, ?_, fun x c e2 => ?_, fun q hq => ?_, fun b o q => ?_, I.len⟩
  · have f := I.free
    rw [upd_ne (fun e2 => by rw [e2, h] at f; cases f)]
    exact f
  · have f := I.freeC x c e2
    rw [upd_ne (fun e3 => by rw [e3, h] at f; cases f)]
    exact f
  · obtain ⟨a, b, c⟩ := I.pin q hq
    refine ⟨a, ?_, c⟩
    rw [upd_ne (fun e3 => by rw [e3, h] at b; cases b)]
    exact b
  · by_cases hbp : b = p
    · subst hbp
      rw [upd_same] at q
      cases q
      exact ⟨e, hz, its, n, r, e⟩
    · rw [upd_ne hbp] at q
      refine (I.hok b o q).stay (fun c u _ w => w) (fun c w => ?_) (fun c xs w => ?_)
      · rw [upd_ne (hne c _ w (fun _ z => by cases z))]; exact w
      · rw [upd_ne (hne c _ w (fun _ z => by cases z))]; exact w
/-- a list that was just made, as m has it -/
theorem Inv.madeL {m : Bool} {p : Addr} {ys : List V} {Q : VK} (I : Inv X pins σ (upd H p (.lst ys)) s) (hp : H p = none) (h : al m ys H Q) : EP X pins σ Q (.ref p) s := by
  cases m with
  | false => exact ⟨.ref p, _, I, rfl, h p _ hp rfl⟩
  | true =>
    obtain ⟨o, J⟩ := Inv.lock I upd_same
    rw [upd_upd] at J
    exact ⟨.ref p, _, J, rfl, h p _ hp ⟨o, rfl⟩⟩
end

/-! ### operators by values -/
def rAdd (m : Bool) : R2 := fun x y H Q => match x, y with
  | .int i, .int j => Q (.int (i + j)) H
  | .ref a, .ref b => (match lstOf (H a), lstOf (H b) with
    | some xs, some ys => xs.length + ys.length ≤ sizeLine ∧ al m (xs ++ ys) H Q
    | _, _ => False)
  | _, _ => False
def rSub : R2 := fun x y H Q => match x, y with
  | .int i, .int j => Q (.int (i - j)) H
  | _, _ => False
def rMul (m : Bool) : R2 := fun x y H Q => match x, y with
  | .int i, .int j => CMul i j ∧ Q (.int (i * j)) H
  | .ref a, .int k => (match H a with
    | some (.lst xs) => (-(2 ^ 63) ≤ k ∧ k < 2 ^ 63) ∧ xs.length * k.toNat ≤ sizeLine ∧ al m (List.replicate k.toNat xs).flatten H Q
    | _ => False)
  | _, _ => False
def rDiv : R2 := fun x y H Q => match x, y with
  | .int i, .int j => CDivW i j ∧ Q (.int (i / j)) H
  | _, _ => False
def rMod : R2 := fun x y H Q => match x, y with
  | .int i, .int j => 0 < j ∧ Q (.int (i % j)) H
  | _, _ => False
def rPow : R2 := fun x y H Q => match x, y with
  | .int i, .int j => CPow i j ∧ Q (.int (i ^ j.toNat)) H
  | _, _ => False
theorem OpR.imp {X : Cx} {f : Value → Value → Sem Value} {r r' : R2} (h : OpR X f r) (i : ∀ x y H Q, r' x y H Q → r x y H Q) : OpR X f r' :=
  fun pins s σ H x y v u Q I rx ry q => h pins s σ H x y v u Q I rx ry (i x y H Q q)
section
variable {X : Cx}
theorem or_sub : OpR X (binaryOp .Sub) rSub := OpR.imp op_sub fun x y H Q h => by
  cases x <;> cases y <;> first | exact ⟨_, _, rfl, rfl, h⟩ | exact h.elim
theorem or_div : OpR X (binaryOp .FloorDiv) rDiv := OpR.imp op_fdivW fun x y H Q h => by
  cases x <;> cases y <;> first | exact ⟨_, _, rfl, rfl, h⟩ | exact h.elim
theorem or_mod : OpR X (binaryOp .Mod) rMod := OpR.imp op_mod fun x y H Q h => by
  cases x <;> cases y <;> first | exact ⟨_, _, rfl, rfl, h⟩ | exact h.elim
theorem or_pow : OpR X (binaryOp .Pow) rPow := OpR.imp op_pow fun x y H Q h => by
  cases x <;> cases y <;> first | exact ⟨_, _, rfl, rfl, h⟩ | exact h.elim
/-- + of two lists, tracked or locked -/
theorem or_cat {m : Bool} : OpR X (binaryOp .Add) (fun x y H Q => ∃ a b xs ys, x = .ref a ∧ y = .ref b ∧ lstOf (H a) = some xs ∧ lstOf (H b) = some ys ∧ xs.length + ys.length ≤ sizeLine ∧ al m (xs ++ ys) H Q) := by
  intro pins s σ H x y v u Q I rx ry h
  obtain ⟨a, b, xs, ys, rfl, rfl, ha, hb, hz, q⟩ := h
  cases rx
  cases ry
  obtain ⟨za, ia, na, ra, ea⟩ := (lstOf_rd ha).ok I.hok
  obtain ⟨zb, ib, nb, rb, eb⟩ := (lstOf_rd hb).ok I.hok
  have la := ra.length
  have lb := rb.length
  refine PySem.P.add_list ea eb ?_ (by rw [List.size_toArray, List.size_toArray]; omega)
  rw [show ia.toArray ++ ib.toArray = (ia ++ ib).toArray by simp]
  have J := Inv.lnew (t' := s.toks) I (ra.append rb) (by rw [List.length_append]; omega)
  exact Inv.madeL J I.fresh q
theorem or_add {m : Bool} : OpR X (binaryOp .Add) (rAdd m) := OpR.imp (OpR.or op_add (or_cat (m := m))) fun x y H Q h => by
  cases x with
  | int i => cases y with
    | int j => exact .inl ⟨_, _, rfl, rfl, h⟩
    | _ => exact h.elim
  | ref a => cases y with
    | ref b =>
      have h' : (match lstOf (H a), lstOf (H b) with
        | some xs, some ys => xs.length + ys.length ≤ sizeLine ∧ al m (xs ++ ys) H Q
        | _, _ => False) := h
      cases ea : lstOf (H a) with
      | none => rw [ea] at h'; exact h'.elim
      | some xs => cases eb : lstOf (H b) with
        | none => rw [ea, eb] at h'; exact h'.elim
        | some ys =>
          rw [ea, eb] at h'
          exact .inr ⟨a, b, xs, ys, rfl, rfl, ea, eb, h'.1, h'.2⟩
    | _ => exact h.elim
  | _ => cases y <;> exact h.elim
theorem or_rep {m : Bool} : OpR X (binaryOp .Mult) (fun x y H Q => ∃ a k xs, x = .ref a ∧ y = .int k ∧ H a = some (.lst xs) ∧ (-(2 ^ 63) ≤ k ∧ k < 2 ^ 63) ∧ xs.length * k.toNat ≤ sizeLine ∧ al m (List.replicate k.toNat xs).flatten H Q) := by
  intro pins s σ H x y v u Q I rx ry h
  obtain ⟨a, k, xs, ex, ey, ha, ⟨h1, h2⟩, hz, q⟩ := h
  have z := op_rep (X := X) pins s σ H x y v u (fun v' H' => ∃ p, v' = .ref p ∧ H p = none ∧ H' = upd H p (.lst (List.replicate k.toNat xs).flatten)) I rx ry
    ⟨a, k, xs, ex, ey, ha, h1, h2, hz, fun p hp => ⟨p, rfl, hp, rfl⟩⟩
  refine thn z fun w s1 ⟨v', H', J, r, p, e1, hp, e2⟩ => ?_
  subst e1 e2
  cases r
  exact Inv.madeL J hp q
theorem or_mul {m : Bool} : OpR X (binaryOp .Mult) (rMul m) := OpR.imp (OpR.or op_mul (or_rep (m := m))) fun x y H Q h => by
  cases x with
  | int i => cases y with
    | int j => exact .inl ⟨_, _, rfl, rfl, h⟩
    | _ => exact h.elim
  | ref a => cases y with
    | int k =>
      have h' : (match H a with
        | some (.lst xs) => (-(2 ^ 63) ≤ k ∧ k < 2 ^ 63) ∧ xs.length * k.toNat ≤ sizeLine ∧ al m (List.replicate k.toNat xs).flatten H Q
        | _ => False) := h
      cases e : H a with
      | none => rw [e] at h'; exact h'.elim
      | some o =>
        rw [e] at h'
        cases o with
        | lst xs => exact .inr ⟨a, k, xs, rfl, rfl, e, h'⟩
        | _ => exact h'.elim
    | _ => exact h.elim
  | _ => cases y <;> exact h.elim
end

/-! ### comparisons, truth, length -/
def rCmpI (g : Int → Int → Bool) : R2 := fun x y H Q => match x, y with
  | .int i, .int j => Q (.bl (g i j)) H
  | _, _ => False
def rLt : R2 := rCmpI fun i j => decide (i < j)
def rLe : R2 := rCmpI fun i j => decide (i ≤ j)
def rGt : R2 := rCmpI fun i j => decide (j < i)
def rGe : R2 := rCmpI fun i j => decide (j ≤ i)
def rEq (K : PySem.W.Frag) : R2 := fun x y H Q => match scal x y with
  | true => Q (.bl (decide (x = y))) H
  | false => rEqD K x y H Q
def rNe (K : PySem.W.Frag) : R2 := fun x y H Q => match scal x y with
  | true => Q (.bl (!decide (x = y))) H
  | false => rNeD K x y H Q
def rIs : R2 := fun x y H Q => match y with
  | .non => Q (.bl (decide (x = .non))) H
  | _ => False
def rIsNot : R2 := fun x y H Q => match y with
  | .non => Q (.bl (!decide (x = .non))) H
  | _ => False
def rInG (K : PySem.W.Frag) (neg : Bool) : R2 := fun x y H Q => match y with
  | .ref b => (match lstOf (H b) with
    | some xs => (flatV x = true ∧ xs.all flatV = true) ∧ Q (.bl (if neg then !inV x xs else inV x xs)) H
    | none => rIn K neg x y H Q)
  | _ => False
section
variable {X : Cx}
theorem rCmpI_imp {g : Int → Int → Bool} {x y : V} {H : Hp} {Q : VK} (h : rCmpI g x y H Q) : ∃ i j, x = .int i ∧ y = .int j ∧ Q (.bl (g i j)) H := by
  cases x <;> cases y <;> first | exact ⟨_, _, rfl, rfl, h⟩ | exact h.elim
theorem or_lt : OpR X (compareOp .Lt) rLt := OpR.imp op_lt fun _ _ _ _ h => rCmpI_imp h
theorem or_le : OpR X (compareOp .LtE) rLe := OpR.imp op_le fun _ _ _ _ h => rCmpI_imp h
theorem or_gt : OpR X (compareOp .Gt) rGt := OpR.imp op_gt fun _ _ _ _ h => rCmpI_imp h
theorem or_ge : OpR X (compareOp .GtE) rGe := OpR.imp op_ge fun _ _ _ _ h => rCmpI_imp h
theorem or_eq (hu : X.A.units + 64 < cLine) : OpR X (compareOp .Eq) (rEq X.K) := OpR.imp (OpR.or op_eq (op_eqD hu)) fun x y H Q h => by
  unfold rEq at h
  cases e : scal x y with
  | true => rw [e] at h; exact .inl ⟨e, h⟩
  | false => rw [e] at h; exact .inr h
theorem or_ne (hu : X.A.units + 64 < cLine) : OpR X (compareOp .NotEq) (rNe X.K) := OpR.imp (OpR.or op_ne (op_neD hu)) fun x y H Q h => by
  unfold rNe at h
  cases e : scal x y with
  | true => rw [e] at h; exact .inl ⟨e, h⟩
  | false => rw [e] at h; exact .inr h
theorem or_is : OpR X (compareOp .Is) rIs := OpR.imp op_isN fun x y H Q h => by
  cases y <;> first | exact ⟨rfl, h⟩ | exact h.elim
theorem or_isnot : OpR X (compareOp .IsNot) rIsNot := OpR.imp op_notN fun x y H Q h => by
  cases y <;> first | exact ⟨rfl, h⟩ | exact h.elim
theorem rInG_imp {K : PySem.W.Frag} {neg : Bool} {x y : V} {H : Hp} {Q : VK} (h : rInG K neg x y H Q) : rIn K neg x y H Q := by
  cases y with
  | ref b =>
    have h' : (match lstOf (H b) with
      | some xs => (flatV x = true ∧ xs.all flatV = true) ∧ Q (.bl (if neg then !inV x xs else inV x xs)) H
      | none => rIn K neg x (.ref b) H Q) := h
    cases e : lstOf (H b) with
    | none => rw [e] at h'; exact h'
    | some xs => rw [e] at h'; exact ⟨b, xs, rfl, .inl (lstOf_sq e), h'.1.1, h'.1.2, h'.2⟩
  | _ => exact h.elim
theorem or_in : OpR X (compareOp .In) (rInG X.K false) := OpR.imp op_in_seq fun _ _ _ _ h => rInG_imp h
theorem or_notin : OpR X (compareOp .NotIn) (rInG X.K true) := OpR.imp op_notIn_seq fun _ _ _ _ h => rInG_imp h
end
/-- a value's truth -/
def truR (x : V) (H : Hp) (Q : Bool → Hp → Prop) : Prop := match x with
  | .non => Q false H
  | .bl b => Q b H
  | .int i => Q (i != 0) H
  | .ref p => (match lstOf (H p) with
    | some xs => Q (!xs.isEmpty) H
    | none => False)
  | _ => False
theorem truR_imp {K : PySem.W.Frag} {x : V} {H : Hp} {Q : Bool → Hp → Prop} (h : truR x H Q) : ∃ k, TruV K x H k ∧ Q k H := by
  cases x with
  | non => exact ⟨_, rfl, h⟩
  | bl b => exact ⟨_, rfl, h⟩
  | int i => exact ⟨_, rfl, h⟩
  | ref p =>
    have h' : (match lstOf (H p) with
      | some xs => Q (!xs.isEmpty) H
      | none => False) := h
    cases e : lstOf (H p) with
    | none => rw [e] at h'; exact h'.elim
    | some xs => rw [e] at h'; exact ⟨_, .inl ⟨xs, lstOf_sq e, rfl⟩, h'⟩
  | _ => exact h.elim
/-- a test by a value's truth -/
def tv (te : TE) : TT := fun σ H Q => te σ H fun x H' => truR x H' Q
/-- a test by a comparison -/
def tb (te : TE) : TT := fun σ H Q => te σ H fun x H' => match x with
  | .bl b => Q b H'
  | _ => False
/-- an item by its place -/
def rIx (K : PySem.W.Frag) : R2 := fun x y H Q => match x, y with
  | .ref p, .int i => (match lstOf (H p) with
    | some xs => (match atI xs i with
      | some v => Q v H
      | none => False)
    | none => (match tupOf (H p) with
      | some xs => (match atI xs i with
        | some v => Q v H
        | none => False)
      | none => L2.rIx K x y H Q))
  | _, _ => False
theorem rIx_imp {K : PySem.W.Frag} {x y : V} {H : Hp} {Q : VK} (h : rIx K x y H Q) : L2.rIx K x y H Q := by
  cases x with
  | ref p => cases y with
    | int i =>
      have h' : (match lstOf (H p) with
        | some xs => (match atI xs i with
          | some v => Q v H
          | none => False)
        | none => (match tupOf (H p) with
          | some xs => (match atI xs i with
            | some v => Q v H
            | none => False)
          | none => L2.rIx K (.ref p) (.int i) H Q)) := h
      cases e : lstOf (H p) with
      | some xs =>
        rw [e] at h'
        cases e2 : atI xs i with
        | none => simp only [e2] at h'
        | some v => simp only [e2] at h'; exact .inl ⟨p, xs, i, v, rfl, rfl, lstOf_sq e, e2, h'⟩
      | none =>
        rw [e] at h'
        cases e3 : tupOf (H p) with
        | none => simp only [e3] at h'; exact h'
        | some xs =>
          simp only [e3] at h'
          cases e2 : atI xs i with
          | none => simp only [e2] at h'
          | some v => simp only [e2] at h'; exact .inr (.inl ⟨p, xs, i, v, rfl, rfl, tupOf_sq e3, e2, h'⟩)
    | _ => exact h.elim
  | _ => cases y <;> exact h.elim
theorem xr_ix {X : Cx} : IxR X (rIx X.K) := fun a b pins s σ H x y v u Q I rx ry h hs => ix_seq a b pins s σ H x y v u Q I rx ry (rIx_imp h) hs
/-- a slice of a list -/
def rSl (m : Bool) : V → Option Int → Option Int → Hp → VK → Prop := fun x lo hi H Q => match x with
  | .ref a => (match lstOf (H a) with
    | some xs => al m (cutV xs lo hi) H Q
    | none => False)
  | _ => False
theorem sr_sl {X : Cx} {m : Bool} : SlR X (rSl m) := by
  intro pins s σ H x v vl vu lo hi sl Q I rx hs pl pu h
  cases x with
  | ref a =>
    have h' : (match lstOf (H a) with
      | some xs => al m (cutV xs lo hi) H Q
      | none => False) := h
    cases e : lstOf (H a) with
    | none => rw [e] at h'; exact h'.elim
    | some xs =>
      rw [e] at h'
      obtain ⟨T, id, h1, h2, h3⟩ := sl_list (X := X) pins s σ H (.ref a) v vl vu lo hi sl (fun v' H' => ∃ p, v' = .ref p ∧ H p = none ∧ H' = upd H p (.lst (cutV xs lo hi))) I rx hs pl pu ⟨a, xs, rfl, lstOf_sq e, fun p hp => ⟨p, rfl, hp, rfl⟩⟩
      refine ⟨T, id, h1, h2, thn h3 fun w s1 ⟨v', H', J, r, p, e1, hp, e2⟩ => ?_⟩
      subst e1 e2
      cases r
      exact Inv.madeL J hp h'
  | _ => exact h.elim
/-! ### built-in functions by values -/
def cLen (K : PySem.W.Frag) : List V → Hp → VK → Prop := fun vs H Q => match vs with
  | [.ref p] => (match lstOf (H p) with
    | some xs => Q (.int xs.length) H
    | none => (match tupOf (H p) with
      | some xs => Q (.int xs.length) H
      | none => ∃ ys, (SqL K H p ys ∨ SqT K H p ys) ∧ Q (.int ys.length) H))
  | _ => False
theorem cr_len {X : Cx} : CallR X (.builtin "len") (cLen X.K) := fun pins s σ H xs us Q I r h => by
  refine call_len_seq pins s σ H xs us Q I r ?_
  match xs, h with
  | [.ref p], h =>
    have h' : (match lstOf (H p) with
      | some xs => Q (.int xs.length) H
      | none => (match tupOf (H p) with
        | some xs => Q (.int xs.length) H
        | none => ∃ ys, (SqL X.K H p ys ∨ SqT X.K H p ys) ∧ Q (.int ys.length) H)) := h
    cases e : lstOf (H p) with
    | some ys => rw [e] at h'; exact ⟨p, ys, rfl, .inl (lstOf_sq e), h'⟩
    | none =>
      rw [e] at h'
      cases e2 : tupOf (H p) with
      | some ys => simp only [e2] at h'; exact ⟨p, ys, rfl, .inr (tupOf_sq e2), h'⟩
      | none => simp only [e2] at h'; obtain ⟨ys, a, b⟩ := h'; exact ⟨p, ys, rfl, a, b⟩
def cList (m : Bool) : List V → Hp → VK → Prop := fun vs H Q => match vs with
  | [.ref p] => (match lstOf (H p) with
    | some xs => al m xs H Q
    | none => (match tupOf (H p) with
      | some xs => al m xs H Q
      | none => False))
  | _ => False
theorem cr_list {X : Cx} {m : Bool} : CallR X (.type "list") (cList m) := fun pins s σ H xs us Q I r h => by
  match xs, h with
  | [.ref p], h =>
    have h' : (match lstOf (H p) with
      | some xs => al m xs H Q
      | none => (match tupOf (H p) with
        | some xs => al m xs H Q
        | none => False)) := h
    have go : ∀ ys, (SqL X.K H p ys ∨ SqT X.K H p ys) → al m ys H Q → wpAny (model X.prog X.w) X.A (call (.type "list") us) (EP X pins σ Q) X.xe s := fun ys hy q => by
      have z := call_list_of (X := X) pins s σ H [.ref p] us (fun v' H' => ∃ l, v' = .ref l ∧ H l = none ∧ H' = upd H l (.lst ys)) I r ⟨p, ys, rfl, hy, fun l hl => ⟨l, rfl, hl, rfl⟩⟩
      refine thn z fun w s1 ⟨v', H', J, r', l, e1, hl, e2⟩ => ?_
      subst e1 e2
      cases r'
      exact Inv.madeL J hl q
    cases e : lstOf (H p) with
    | some ys => rw [e] at h'; exact go ys (.inl (lstOf_sq e)) h'
    | none =>
      rw [e] at h'
      cases e2 : tupOf (H p) with
      | some ys => simp only [e2] at h'; exact go ys (.inr (tupOf_sq e2)) h'
      | none => simp only [e2] at h'
def cMin : List V → Hp → VK → Prop := fun vs H Q => match vs with
  | [.int i, .int j] => Q (.int (min i j)) H
  | _ => False
def cMax : List V → Hp → VK → Prop := fun vs H Q => match vs with
  | [.int i, .int j] => Q (.int (max i j)) H
  | _ => False
theorem cr_min {X : Cx} (hc : X.calm = true) : CallR X (.builtin "min") cMin := fun pins s σ H xs us Q I r h => by
  refine call_min2 hc pins s σ H xs us Q I r ?_
  match xs, h with
  | [.int i, .int j], h =>
    refine ⟨i, j, rfl, ?_⟩
    have e : (if j < i then j else i) = min i j := by omega
    rw [e]; exact h
theorem cr_max {X : Cx} (hc : X.calm = true) : CallR X (.builtin "max") cMax := fun pins s σ H xs us Q I r h => by
  refine call_max2 hc pins s σ H xs us Q I r ?_
  match xs, h with
  | [.int i, .int j], h =>
    refine ⟨i, j, rfl, ?_⟩
    have e : (if j > i then j else i) = max i j := by omega
    rw [e]; exact h
/-! ### methods of lists -/
def mAppend : V → List V → Hp → VK → Prop := fun x vs H Q => match x, vs with
  | .ref l, [y] => (match H l with
    | some (.lst xs) => xs.length < sizeLine ∧ Q .non (upd H l (.lst (xs ++ [y])))
    | _ => False)
  | _, _ => False
theorem mAppend_imp {x : V} {vs : List V} {H : Hp} {Q : VK} (h : mAppend x vs H Q) : ∃ l xs y, x = .ref l ∧ vs = [y] ∧ H l = some (.lst xs) ∧ xs.length < sizeLine ∧ Q .non (upd H l (.lst (xs ++ [y]))) := by
  unfold mAppend at h
  split at h
  · rename_i l y
    split at h
    · rename_i xs e
      exact ⟨l, xs, y, rfl, rfl, e, h.1, h.2⟩
    · exact h.elim
  · exact h.elim
/-- an item stored -/
def sItem : V → V → V → Hp → (Hp → Prop) → Prop := fun o i v H Q => match o, i with
  | .ref p, .int k => (match H p with
    | some (.lst xs) => (match ixN xs.length k with
      | some j => Q (upd H p (.lst (xs.set j v)))
      | none => False)
    | _ => False)
  | _, _ => False
theorem sr_item {X : Cx} : PSet X sItem := fun pins s σ H o i v ov iv u Q I ro ri rv h => by
  refine set_list pins s σ H o i v ov iv u Q I ro ri rv ?_
  unfold sItem at h
  split at h
  · rename_i p k
    split at h
    · rename_i xs e
      split at h
      · rename_i j e2
        exact ⟨p, xs, k, j, rfl, rfl, e, e2, h⟩
      · exact h.elim
    · exact h.elim
  · exact h.elim
end G

set_option maxHeartbeats 2000000
/-! G2: a text's reading, reckoned from its syntax; that it is one (Ok) -/
namespace G
open PySem PySem.Spec PyProof.Rows L2

/-! ### what is around: the module's constants, its defs, methods, classes, by names -/
structure Gam where
  K : PySem.W.Frag
  gl : Str → Option V
  /-- x is a def of the module, a class of its own -/
  df : Str → Prop
  fn : Str → List V → List (Str × V) → Hp → VK → XK → Prop
  /-- m is a method of the class -/
  mf : Addr → Str → Prop
  mt : Addr → Str → List V → List (Str × V) → Hp → VK → XK → Prop
  /-- x is a class of the module, called -/
  nc : Str → Prop
  nw : Str → List V → List (Str × V) → Hp → VK → XK → Prop
  /-- a class may have the field -/
  fl : Addr → Str → Prop
structure RoomG (k : Nat) (A : Around) : Prop where
  r : Room k A
  g : A.guards = some []
theorem RoomG.mono {j k : Nat} {A : Around} (r : RoomG k A) (h : j ≤ k) : RoomG j A := ⟨r.r.mono h, r.g⟩
/-- a def's promise, called where no repr runs -/
structure FnG (P : Program) (w : World) (K : PySem.W.Frag) (mg : Str → Option Value) (base : Heap) (k : Nat) (f : Addr) (fd : FuncData) (ps : List Str) (sp : Sp) : Prop where
  run : ∀ (A : Around) (outer : List Env) (s : Shared) (H : Hp) (args : Args) (us : List Value) (vs : List V) (Q : VK) (E : XK), RoomG k A → Env0 P w K mg base A outer s H → BindsTo s fd args (ps.zip us) → Vals vs us → sp vs H Q E →
    codeAny (model P w) A (.call (.ref f) args) (CR (L2.CX P w) outer P w H s Q E) s
theorem FnG.mono {P : Program} {w : World} {K : PySem.W.Frag} {mg : Str → Option Value} {base : Heap} {j k : Nat} {f : Addr} {fd : FuncData} {ps : List Str} {sp : Sp} (F : FnG P w K mg base j f fd ps sp) (h : j ≤ k) : FnG P w K mg base k f fd ps sp :=
  ⟨fun A outer s H args us vs Q E r => F.run A outer s H args us vs Q E (r.mono h)⟩
/-- how values, positional and by names, come to the parameters -/
def BindV (K : PySem.W.Frag) (fd : FuncData) (ps : List Str) (vs : List V) (kws : List (Str × V)) (vs' : List V) : Prop :=
  ∀ (s : Shared) (us ws : List Value), K.In s.heap → Vals vs us → Vals (kws.map (·.2)) ws → ∃ us', Vals vs' us' ∧ BindsTo s fd ⟨us, (kws.map (·.1)).zip ws⟩ (ps.zip us')
/-- a call of the def at f -/
def CallOk (P : Program) (w : World) (K : PySem.W.Frag) (mg : Str → Option Value) (base : Heap) (n : Nat) (f : Addr) (vs : List V) (kws : List (Str × V)) (H : Hp) (Q : VK) (E : XK) : Prop :=
  ∃ (fd : FuncData) (ps : List Str) (sp : Sp) (vs' : List V), FnG P w K mg base n f fd ps sp ∧ BindV K fd ps vs kws vs' ∧ sp vs' H Q E
/-- the built-in names that the readings know -/
def blts : List Str := ["len", "list", "min", "max", "range", "repr"]
structure GamOk (Γ : Gam) (P : Program) (w : World) (K : PySem.W.Frag) (mg : Str → Option Value) (base : Heap) (A : Around) : Prop where
  k : Γ.K = K
  gl : ∀ x v, Γ.gl x = some v → ∃ u, mg x = some u ∧ RelV v u
  df : ∀ x, Γ.df x → ∃ f, mg x = some (.ref f) ∧ PySem.W.keepIn K (.ref f) = true
  fn : ∀ x f vs kws H Q E, Γ.fn x vs kws H Q E → mg x = some (.ref f) → ∃ n, RoomG n A ∧ CallOk P w K mg base n f vs kws H Q E
  mf : ∀ C m, Γ.mf C m → ∃ f, Cls K C ∧ Meth K C m f
  mt : ∀ C m f vs kws H Q E, Γ.mt C m vs kws H Q E → Meth K C m f → ∃ n, RoomG n A ∧ CallOk P w K mg base n f vs kws H Q E
  fl : ∀ C f, Γ.fl C f → Cls K C ∧ NoAttr K C f
  free : ∀ x ∈ blts, mg x = none
/-- a def's names, its way with new lists -/
structure Df where
  N : List Str
  m : Bool := true
  /-- names and fields whose new lists stay as they are -/
  mu : List Str := []
  /-- the module's classes -/
  cls : List Str := []
  /-- names of lists that may be the module's own objects -/
  kl : List Str := []
def Df.slot (d : Df) (x : Str) : Nat := d.N.findIdx (· == x)
def Df.md (d : Df) (x : Str) : Bool := d.m && !d.mu.contains x
structure CtxOk (Γ : Gam) (d : Df) (X : Cx) (sc : Scope) (W : WX) : Prop where
  g : GamOk Γ X.prog X.w X.K X.mg X.base X.A
  n : X.N = d.N
  nd : d.N.Nodup
  scq : X.env.scope = sc
  calm : X.calm = true
  gd : X.A.guards = some []
  un : X.A.units + 128 < cLine
  tk : Takes X W
/-- where statements stand -/
structure CtxS (Γ : Gam) (d : Df) (X : Cx) (sc : Scope) (W : WX) : Prop extends CtxOk Γ d X sc W where
  po : PassesOwn (model X.prog X.w) X.A X.env X.xe
  fnl : ∀ x, X.fn x = true

/-! ### names -/
def vr (i : Nat) : TE := fun σ H Q => match σ[i]? with
  | some (some v) => Q v H
  | _ => False
def cv (v : V) : TE := fun _ H Q => Q v H
/-- a constant of the module -/
def gv (Γ : Gam) (x : Str) : TE := fun _ H Q => match Γ.gl x with
  | some v => Q v H
  | none => False
def isVis : Option NameKind → Bool
  | some .local => true
  | some .cell => true
  | some .free => true
  | _ => false
def isLoc : Option NameKind → Bool
  | some .local => true
  | some .cell => true
  | _ => false
def isGlob : Option NameKind → Bool
  | some .globalImplicit => true
  | _ => false
theorem isVis_ok {sc : Scope} {x : Str} (h : isVis (sc.names.lookup x) = true) : Vis sc x := by
  cases e : sc.names.lookup x with
  | none => rw [e] at h; cases h
  | some k => cases k <;> first | exact .inl e | exact .inr (.inl e) | exact .inr (.inr e) | (rw [e] at h; cases h)
theorem isLoc_ok {sc : Scope} {x : Str} (h : isLoc (sc.names.lookup x) = true) : Loc sc x := by
  cases e : sc.names.lookup x with
  | none => rw [e] at h; cases h
  | some k => cases k <;> first | exact .inl e | exact .inr e | (rw [e] at h; cases h)
theorem isGlob_ok {sc : Scope} {x : Str} (h : isGlob (sc.names.lookup x) = true) : sc.names.lookup x = some .globalImplicit := by
  cases e : sc.names.lookup x with
  | none => rw [e] at h; cases h
  | some k => cases k <;> first | rfl | (rw [e] at h; cases h)
theorem slot_ok {d : Df} {x : Str} (h : d.slot x < d.N.length) : d.N[d.slot x]? = some x := by
  have e : (d.N[d.slot x]'h == x) = true := List.findIdx_getElem (w := h)
  rw [List.getElem?_eq_getElem h]
  exact congrArg some (beq_iff_eq.mp e)
def nameE (Γ : Gam) (d : Df) (sc : Scope) (x : Str) : TE := match (x == ("__debug__" : Str)) || (x == ("__classdict__" : Str)) with
  | true => nE
  | false => match isVis (sc.names.lookup x) with
    | true => (match Nat.blt (d.slot x) d.N.length with
      | true => vr (d.slot x)
      | false => nE)
    | false => (match isGlob (sc.names.lookup x) with
      | true => gv Γ x
      | false => nE)
theorem vr_imp {i : Nat} {σ : L2.St} {H : Hp} {Q : VK} (h : vr i σ H Q) : tVar i σ H Q := by
  unfold vr at h
  split at h
  · rename_i v e; exact ⟨v, e, h⟩
  · exact h.elim
section
variable {Γ : Gam} {d : Df} {X : Cx} {sc : Scope} {W : WX}
theorem pe_name (C : CtxOk Γ d X sc W) {x : Str} {pos : Pos} : PE X (.Name x pos) (nameE Γ d sc x) := by
  unfold nameE
  cases hd : (x == ("__debug__" : Str)) || (x == ("__classdict__" : Str)) with
  | true => exact pe_n
  | false =>
    have hd2 := Bool.or_eq_false_iff.mp hd
    dsimp only
    cases hv : isVis (sc.names.lookup x) with
    | true =>
      dsimp only
      cases hs : Nat.blt (d.slot x) d.N.length with
      | false => exact pe_n
      | true =>
        have lt : d.slot x < d.N.length := Nat.le_of_ble_eq_true hs
        refine (pe_var (i := d.slot x) (by rw [C.n]; exact slot_ok lt) (by rw [C.scq]; exact isVis_ok hv) hd2.1 hd2.2).imp fun σ H Q h => vr_imp h
    | false =>
      dsimp only
      cases hg : isGlob (sc.names.lookup x) with
      | false => exact pe_n
      | true =>
        refine ⟨fun pins s σ H Q I h => ?_⟩
        have h' : (match Γ.gl x with
          | some v => Q v H
          | none => False) := h
        cases e : Γ.gl x with
        | none => rw [e] at h'; exact h'.elim
        | some v =>
          rw [e] at h'
          obtain ⟨u, hu, r⟩ := C.g.gl x v e
          exact (pe_glob (X := X) (by show X.env.scope.names.lookup x = _; rw [C.scq]; exact isGlob_ok hg) hu r hd2.1).run pins s σ H Q I h'
end
/-! ### lists of expressions -/
def noStar : Expr → Bool
  | .Starred _ _ => false
  | _ => true
theorem star_ok {e : Expr} {es : List Expr} {env : Env} (h : noStar e = true) : starEach (e :: es) env = (false, eval e env) :: starEach es env := by
  cases e <;> first | rfl | cases h
theorem star_any {es : List Expr} {env : Env} {pos : Pos} (h : es.all noStar = true) : (backTo pos (starEach es env)).any (·.1) = false := by
  induction es with
  | nil => rfl
  | cons e es ih =>
    obtain ⟨h1, h2⟩ := Bool.and_eq_true_iff.mp (show (noStar e && es.all noStar) = true from h)
    rw [star_ok h1]
    exact ih h2
theorem star_all {es : List Expr} {env : Env} {pos : Pos} (h : es.all noStar = true) : (backTo pos (starEach es env)).all (fun x => !x.1) = true := by
  induction es with
  | nil => rfl
  | cons e es ih =>
    obtain ⟨h1, h2⟩ := Bool.and_eq_true_iff.mp (show (noStar e && es.all noStar) = true from h)
    rw [star_ok h1]
    exact ih h2
/-- the readings of a list, from the left -/
def esA (f : Expr → TE) : List Expr → TA
  | [] => tNil
  | e :: es => (match noStar e with
    | true => tCons (f e) (esA f es)
    | false => nA)
theorem pa_es {X : Cx} {f : Expr → TE} (h : ∀ e, PE X e (f e)) : ∀ es : List Expr, PA X es (esA f es) := by
  intro es
  induction es with
  | nil => exact pa_nil
  | cons e es ih =>
    unfold esA
    cases hs : noStar e with
    | false => exact pa_n
    | true => exact pa_cons (h e) ih (star_ok hs)
/-- keywords -/
def kwNames (kws : List Keyword) : Option (List Str) := match kws with
  | [] => some []
  | ⟨some x, _, _⟩ :: r => (match kwNames r with
    | some l => some (x :: l)
    | none => none)
  | ⟨none, _, _⟩ :: _ => none
def ksA (f : Expr → TE) : List Keyword → TA
  | [] => tNil
  | ⟨_, e, _⟩ :: es => tCons (f e) (ksA f es)
theorem pk_ks {X : Cx} {f : Expr → TE} (h : ∀ e, PE X e (f e)) : ∀ ks : List Keyword, PK X ks (ksA f ks) := by
  intro ks
  induction ks with
  | nil => exact pk_nil
  | cons k ks ih =>
    obtain ⟨a, e, p⟩ := k
    exact pk_cons (h e) ih
theorem kw_names {ks : List Keyword} {l : List Str} {env : Env} {pos : Pos} (h : kwNames ks = some l) : (backToKw pos (keywordEach ks env)).all (·.1.isSome) = true ∧ (backToKw pos (keywordEach ks env)).filterMap (·.1) = l ∧
    (backToKw pos (keywordEach ks env)).any (·.1.isNone) = false := by
  induction ks generalizing l with
  | nil => cases h; exact ⟨rfl, rfl, rfl⟩
  | cons k ks ih =>
    obtain ⟨a, e, p⟩ := k
    cases a with
    | none => cases h
    | some x =>
      unfold kwNames at h
      cases r : kwNames ks with
      | none => rw [r] at h; cases h
      | some l' =>
        rw [r] at h
        cases h
        obtain ⟨h1, h2, h3⟩ := ih r
        refine ⟨?_, ?_, ?_⟩
        · exact h1
        · show x :: (backToKw pos (keywordEach ks env)).filterMap (·.1) = x :: l'
          rw [h2]
        · exact h3

/-! ### calls -/
/-- positional arguments, then keywords, handed to f: es, ks read by g -/
theorem run_args {X : Cx} {W : WX} {pins : List (Addr × Obj)} {σ : L2.St} {H : Hp} {s : Shared} {Q : VK} {first : List Value} {firstV : List V} {f : Addr} {es : List Expr} {ks : List Keyword} {names : List Str} {g : Expr → TE} {pos : Pos} {P : List V → List V → Hp → Prop}
    (hg : ∀ e, PE X e (g e)) (conv : ∀ vs zs H2, P vs zs H2 → zs.length = names.length ∧ ∃ n, RoomG n X.A ∧ CallOk X.prog X.w X.K X.mg X.base n f (firstV ++ vs) (names.zip zs) H2 Q fun c d H' => W c d σ H') (hk : PySem.W.keepIn X.K (.ref f) = true) (hs : es.all noStar = true) (hn : kwNames ks = some names) (rf : Vals firstV first) (tk : Takes X W) (I : L2.Inv X pins σ H s)
    (h : esA g es σ H fun vs H1 => ksA g ks σ H1 fun zs H2 => P vs zs H2) :
    wpAny (model X.prog X.w) X.A (callWith pos (.ref f) first (backTo pos (starEach es X.env)) (backToKw pos (keywordEach ks X.env))) (EP X pins σ Q) X.xe s := by
  obtain ⟨k1, k2, k3⟩ := kw_names (env := X.env) (pos := pos) hn
  have fin : ∀ (us ws : List Value) (vs zs : List V) (H2 : Hp) (s2 : Shared), L2.Inv X pins σ H2 s2 → Vals vs us → Vals zs ws →
      (zs.length = names.length ∧ ∃ n, RoomG n X.A ∧ CallOk X.prog X.w X.K X.mg X.base n f (firstV ++ vs) (names.zip zs) H2 Q fun c d H' => W c d σ H') →
      X.K.In s2.heap ∧ wpAny (model X.prog X.w) X.A (call (.ref f) (first ++ us) (((backToKw pos (keywordEach ks X.env)).filterMap (·.1)).zip ws)) (EP X pins σ Q) X.xe s2 := fun us ws vs zs H2 s2 J r rz ⟨hl, n, hr, hc⟩ => by
    refine ⟨J.kIn, ?_⟩
    rw [k2]
    have e1 : (names.zip zs).map (·.1) = names := List.map_fst_zip (by omega)
    have e2 : (names.zip zs).map (·.2) = zs := List.map_snd_zip (by omega)
    have z := hc
    obtain ⟨fd, ps, sp, vs', F, b, hsp⟩ := z
    obtain ⟨us', r', b'⟩ := b s2 (first ++ us) ws J.kIn (rf.append r) (by rw [e2]; exact rz)
    rw [e1] at b'
    refine wpAny_call (codeAny_mono (F.run X.A X.stack s2 H2 _ us' vs' Q _ hr J.env0 b' r' hsp) fun r s' hq => ?_)
    cases r with
    | error e => exact tk e s' (XE.of_call J (fun _ _ _ z => z) hq)
    | ok fl =>
      cases fl with
      | ret u => exact J.after hq
      | next => exact hq.elim
      | brk => exact hq.elim
      | cont => exact hq.elim
  cases es with
  | nil =>
    refine PySem.W.callWith_KW0 (h₀ := X.base) I.ok.mod.kin hk k1 ?_ (by rw [k3]; rfl)
    exact thn ((pk_ks hg ks).run pos pins s σ H _ I h) fun ws s2 ⟨zs, H2, J, rz, q⟩ => fin [] ws [] zs H2 s2 J .nil rz (conv _ _ _ q)
  | cons e es =>
    obtain ⟨h1, h2⟩ := Bool.and_eq_true_iff.mp (show (noStar e && es.all noStar) = true from hs)
    refine PySem.W.callWith_KW (h₀ := X.base) I.ok.mod.kin hk k1 ?_ (by rw [star_any hs, k3]; rfl) (star_ok h1)
    refine thn ((pa_es hg (e :: es)).run pos pins s σ H _ I h) fun us s1 ⟨vs, H1, J1, r, q⟩ => ?_
    exact thn ((pk_ks hg ks).run pos pins s1 σ H1 _ J1 q) fun ws s2 ⟨zs, H2, J, rz, q⟩ => fin us ws vs zs H2 s2 J r rz (conv _ _ _ q)
/-- f(e, .., k = v, ..) of a def of the module -/
def cfn (Γ : Gam) (W : WX) (x : Str) (t : TA) (names : List Str) (tk : TA) : TE := fun σ H Q => Γ.df x ∧ t σ H fun vs H1 => tk σ H1 fun zs H2 => zs.length = names.length ∧ Γ.fn x vs (names.zip zs) H2 Q fun c d H' => W c d σ H'
/-- o.m(e, .., k = v, ..) of an instance -/
def cmt (Γ : Gam) (W : WX) (to : TE) (m : Str) (t : TA) (names : List Str) (tk : TA) : TE := fun σ H Q => to σ H fun x H1 => match x with
  | .ref a => (match H1 a with
    | some (.ins C _ fs) => (Γ.mf C m ∧ fs.lookup m = none) ∧ t σ H1 fun vs H2 => tk σ H2 fun zs H3 => zs.length = names.length ∧ Γ.mt C m (x :: vs) (names.zip zs) H3 Q fun c d H' => W c d σ H'
    | _ => False)
  | _ => False
def baseOk : Expr → Bool
  | .Call (.Name _ _) [] [] _ => false
  | _ => true
theorem base_ok {o : Expr} {f : Str} {env : Env} {w : Sem Value} (h : baseOk o = true) : attributeBase o f env w = w := by
  cases o with
  | Call g args ks pos => cases g with
    | Name x p => cases args with
      | nil => cases ks with
        | nil => cases h
        | cons _ _ => rfl
      | cons _ _ => rfl
    | _ => rfl
  | _ => rfl
theorem meth_eval {o : Expr} {m : Str} {apos pos : Pos} {env : Env} {es : List Expr} {ks : List Keyword} {names : List Str} (hb : baseOk o = true) (hp : (apos.endLine == pos.line) = true) (hs : es.all noStar = true) (hn : kwNames ks = some names)
    (hl : decide (es.length + ks.length + (if ks.isEmpty then 0 else 1) < 30) = true) :
    eval (.Call (.Attribute o m apos) es ks pos) env = (do
      let ov ← eval o env
      standAt apos.atName
      let (f, first) ← holding [ov] (getMethod ov m (do return (← importBound o env).getD true))
      callWith pos f first (backTo pos (starEach es env)) (backToKw pos (keywordEach ks env))) := by
  have kl : ∀ (l : List Keyword) , (keywordEach l env).isEmpty = l.isEmpty := fun l => by
    cases l with
    | nil => rfl
    | cons k l => obtain ⟨a, e, p⟩ := k; rfl
  have f : methodCallForm (es.length + ks.length) (backTo pos (starEach es env)) (backToKw pos (keywordEach ks env)) = true := by
    obtain ⟨k1, k2, k3⟩ := kw_names (env := env) (pos := pos) hn
    have a1 := star_all (env := env) (pos := pos) hs
    have a2 : (backToKw pos (keywordEach ks env)).isEmpty = ks.isEmpty := by
      unfold backToKw
      rw [List.isEmpty_map]
      exact kl ks
    unfold methodCallForm
    rw [a2, k1]
    rw [show (backTo pos (starEach es env)).all (fun x => !x.1) = true from a1]
    exact hl
  show (do let ov ← attributeBase o m env (eval o env); standAt apos.atName; methodCall o m apos pos env ov (es.length + ks.length) (backTo pos (starEach es env)) (backToKw pos (keywordEach ks env))) = _
  rw [base_ok hb]
  unfold methodCall
  rw [f]
  unfold calleeOf methodCallPos
  rw [hp]
  rfl
section
variable {Γ : Gam} {d : Df} {X : Cx} {sc : Scope} {W : WX} {g : Expr → TE}
theorem pe_cfn (C : CtxOk Γ d X sc W) (hg : ∀ e, PE X e (g e)) {x : Str} {p pos : Pos} {es : List Expr} {ks : List Keyword} {names : List Str} (hx : isGlob (sc.names.lookup x) = true) (hdb : (x == ("__debug__" : Str)) = false) (hs : es.all noStar = true)
    (hn : kwNames ks = some names) : PE X (.Call (.Name x p) es ks pos) (cfn Γ W x (esA g es) names (ksA g ks)) := by
  refine ⟨fun pins s σ H Q I h => ?_⟩
  obtain ⟨hd, h⟩ := h
  obtain ⟨f, hf, hk⟩ := C.g.df x hd
  refine wpAny_Call_Name_kw (ld_glob I (by show X.env.scope.names.lookup x = _; rw [C.scq]; exact isGlob_ok hx) hf ?_ hdb)
  exact run_args (first := []) (firstV := []) hg (fun vs zs H2 q => ⟨q.1, C.g.fn x f _ _ _ _ _ q.2 hf⟩) hk hs hn .nil C.tk I h
theorem pe_cmt (C : CtxOk Γ d X sc W) (hg : ∀ e, PE X e (g e)) {o : Expr} {m : Str} {apos pos : Pos} {es : List Expr} {ks : List Keyword} {names : List Str} (hb : baseOk o = true) (hp : (apos.endLine == pos.line) = true) (hs : es.all noStar = true)
    (hn : kwNames ks = some names) (hl : decide (es.length + ks.length + (if ks.isEmpty then 0 else 1) < 30) = true) : PE X (.Call (.Attribute o m apos) es ks pos) (cmt Γ W (g o) m (esA g es) names (ksA g ks)) := by
  refine ⟨fun pins s σ H Q I h => ?_⟩
  refine PySem.W.methodCall_KW (pl := (do return (← importBound o X.env).getD true)) (thn ((hg o).run pins s σ H _ I h) fun u s1 ⟨x, H1, I1, rx, q⟩ => ?_) (meth_eval hb hp hs hn hl)
  cases x with
  | ref a =>
    have q' : (match H1 a with
      | some (.ins C _ fs) => (Γ.mf C m ∧ fs.lookup m = none) ∧ esA g es σ H1 fun vs H2 => ksA g ks σ H2 fun zs H3 => zs.length = names.length ∧ Γ.mt C m (.ref a :: vs) (names.zip zs) H3 Q fun c d H' => W c d σ H'
      | _ => False) := q
    cases e : H1 a with
    | none => rw [e] at q'; exact q'.elim
    | some ob =>
      rw [e] at q'
      cases ob with
      | ins Cc dx fs =>
        obtain ⟨⟨hmf, hl⟩, q'⟩ := q'
        obtain ⟨f, hc, hm⟩ := C.g.mf Cc m hmf
        obtain rfl : u = Value.ref a := rx
        refine getmeth_ok I1 e hc hm hl ?_
        exact run_args (first := [.ref a]) (firstV := [.ref a]) hg (fun vs zs H2 q => ⟨q.1, C.g.mt Cc m f _ _ _ _ _ q.2 hm⟩) hm.kp hs hn (.cons rfl .nil) C.tk I1 q'
      | _ => exact q'.elim
  | _ => exact q.elim
end
end G

set_option maxHeartbeats 4000000
/-! G3: the readings, one step of depth after another; that they are ones -/
namespace G
open PySem PySem.Spec PyProof.Rows L2

/-- fields -/
def fld (Γ : Gam) (te : TE) (f : Str) : TE := fun σ H Q => te σ H fun x H1 => match x with
  | .ref a => (match H1 a with
    | some (.ins C _ fs) => (match fs.lookup f with
      | some v => Γ.fl C f ∧ Q v H1
      | none => False)
    | _ => False)
  | _ => False
def sfld (Γ : Gam) (to tv : TE) (f : Str) : TS := fun D σ H => tv σ H fun y H1 => to σ H1 fun x H2 => match x with
  | .ref a => (match H2 a with
    | some (.ins C dx fs) => (Γ.fl C f ∧ fs.length < 1000) ∧ D.nx σ (upd H2 a (.ins C dx (putF f y fs)))
    | _ => False)
  | _ => False
/-- a display of a list, as m has it -/
def lst (m : Bool) (t : TA) : TE := fun σ H Q => t σ H fun xs H1 => xs.length ≤ sizeLine ∧ al m xs H1 Q
/-- what comes is locked, if it is a list that may be changed -/
def lk (m : Bool) (Q : VK) : VK := match m with
  | false => Q
  | true => fun v H => match v with
    | .ref a => (match H a with
      | some (.lst xs) => ∀ o, Q v (upd H a (.frz o (.lst xs)))
      | _ => Q v H)
    | _ => Q v H
def lkE (m : Bool) (t : TE) : TE := fun σ H Q => t σ H (lk m Q)
theorem pe_lkE {X : Cx} {m : Bool} {e : Expr} {t : TE} (h : PE X e t) : PE X e (lkE m t) := by
  cases m with
  | false => exact h
  | true =>
    refine ⟨fun pins s σ H Q I q => ?_⟩
    refine thn (h.run pins s σ H _ I q) fun u s1 ⟨x, H1, I1, r, q1⟩ => ?_
    cases x with
    | ref a =>
      have q2 : (match H1 a with
        | some (.lst xs) => ∀ o, Q (.ref a) (upd H1 a (.frz o (.lst xs)))
        | _ => Q (.ref a) H1) := q1
      cases e : H1 a with
      | none => rw [e] at q2; exact ⟨_, _, I1, r, q2⟩
      | some ob =>
        rw [e] at q2
        cases ob with
        | lst xs =>
          obtain ⟨o, J⟩ := Inv.lock I1 e
          exact ⟨_, _, J, r, q2 o⟩
        | _ => exact ⟨_, _, I1, r, q2⟩
    | _ => exact ⟨_, _, I1, r, q1⟩
theorem pe_lst {X : Cx} {m : Bool} {es : List Expr} {t : TA} {pos : Pos} (h : PA X es t) : PE X (.List es pos) (lst m t) := by
  refine ⟨fun pins s σ H Q I q => wpAny_List_spliced (thn (h.run pos pins s σ H _ I q) fun us s1 hh => ?_)⟩
  obtain ⟨xs, H1, J, r, z, q1⟩ := hh
  refine ⟨by rw [← r.length]; exact z, ?_⟩
  have K := J.laid (a := s1.heap.objs.size) (o := .lst xs) (t' := s1.toks) (fun b u w => Heap.get?_push_of_some { cls := .type "list", data := .seq us.toArray } w) (Nat.le_refl _) ⟨z, us, 0, r, Heap.get?_push_size _ rfl⟩
  exact Inv.madeL K (J.hok.fresh (Nat.le_refl _)) q1
theorem fld_imp {Γ : Gam} {te : TE} {X : Cx} {e : Expr} {f : Str} {pos : Pos} (hf : ∀ C f, Γ.fl C f → Cls X.K C ∧ NoAttr X.K C f) (hb : baseOk e = true) (he : PE X e te) : PE X (.Attribute e f pos) (fld Γ te f) := by
  refine ⟨fun pins s σ H Q I h => ?_⟩
  refine attr_of (base_ok hb) (thn (he.run pins s σ H _ I h) fun u s1 ⟨x, H1, I1, rx, q⟩ => ?_)
  cases x with
  | ref a =>
    have q' : (match H1 a with
      | some (.ins C _ fs) => (match fs.lookup f with
        | some v => Γ.fl C f ∧ Q v H1
        | none => False)
      | _ => False) := q
    cases e1 : H1 a with
    | none => rw [e1] at q'; exact q'.elim
    | some ob =>
      rw [e1] at q'
      cases ob with
      | ins C dx fs =>
        dsimp only at q'
        cases e2 : fs.lookup f with
        | none => rw [e2] at q'; exact q'.elim
        | some v =>
          rw [e2] at q'
          obtain ⟨hfl, q'⟩ := q'
          obtain ⟨hc, hn⟩ := hf C f hfl
          obtain rfl : u = Value.ref a := rx
          exact getattr_ok I1 e1 hc hn e2 fun w s2 I2 rw' => ⟨_, _, I2, rw', q'⟩
      | _ => exact q'.elim
  | _ => exact q.elim

/-! ### one step -/
structure Rd where
  /-- m: new lists are locked -/
  E : Bool → Scope → WX → Expr → TE
  T : Scope → WX → Expr → TT
  S : Scope → WX → Stmt → TS
def W0 : WX := fun _ _ _ _ => False
def binR (m : Bool) : Operator → Option R2
  | .Add => some (rAdd m)
  | .Sub => some rSub
  | .Mult => some (rMul m)
  | .FloorDiv => some rDiv
  | .Mod => some rMod
  | .Pow => some rPow
  | _ => none
def cmpR (K : PySem.W.Frag) (kb : Bool) : CmpOp → Option R2
  | .Lt => some rLt
  | .LtE => some rLe
  | .Gt => some rGt
  | .GtE => some rGe
  | .Eq => some (rEq K)
  | .NotEq => some (rNe K)
  | .Is => some rIs
  | .IsNot => some rIsNot
  | .In => some (match kb with
    | true => rIn K false
    | false => rInG K false)
  | .NotIn => some (match kb with
    | true => rIn K true
    | false => rInG K true)
theorem binR_ok {X : Cx} {m : Bool} {op : Operator} {r : R2} (h : binR m op = some r) : OpR X (binaryOp op) r := by
  cases op <;> first | (cases h; exact or_add) | (cases h; exact or_sub) | (cases h; exact or_mul) | (cases h; exact or_div) | (cases h; exact or_mod) | (cases h; exact or_pow) | cases h
theorem cmpR_ok {X : Cx} (hu : X.A.units + 64 < cLine) {kb : Bool} {op : CmpOp} {r : R2} (h : cmpR X.K kb op = some r) : OpR X (compareOp op) r := by
  cases op
  · cases h; exact or_eq hu
  · cases h; exact or_ne hu
  · cases h; exact or_lt
  · cases h; exact or_le
  · cases h; exact or_gt
  · cases h; exact or_ge
  · cases h; exact or_is
  · cases h; exact or_isnot
  · cases kb <;> (cases h; first | exact or_in | exact op_in_seq)
  · cases kb <;> (cases h; first | exact or_notin | exact op_notIn_seq)
/-- -a -/
def neg (t : TE) : TE := fun σ H Q => t σ H fun x H1 => match x with
  | .int i => Q (.int (-i)) H1
  | _ => False
/-- not a, of a truth -/
def notv (t : TE) : TE := fun σ H Q => t σ H fun x H1 => match x with
  | .bl b => Q (.bl (!b)) H1
  | _ => False
/-- a and b, a or b, of truths -/
def andv (t u : TE) : TE := fun σ H Q => t σ H fun x H1 => match x with
  | .bl true => u σ H1 Q
  | .bl false => Q (.bl false) H1
  | _ => False
def orv (t u : TE) : TE := fun σ H Q => t σ H fun x H1 => match x with
  | .bl true => Q (.bl true) H1
  | .bl false => u σ H1 Q
  | _ => False
def andL (f : Expr → TE) : List Expr → TE
  | [] => nE
  | [a] => f a
  | a :: r => andv (f a) (andL f r)
def orL (f : Expr → TE) : List Expr → TE
  | [] => nE
  | [a] => f a
  | a :: r => orv (f a) (orL f r)
def andT (f : Expr → TT) : List Expr → TT
  | [] => nT
  | [a] => f a
  | a :: r => tAnd (f a) (andT f r)
def orT (f : Expr → TT) : List Expr → TT
  | [] => nT
  | [a] => f a
  | a :: r => tOr (f a) (orT f r)
/-- a < b < c -/
def chain (r r' : R2) (ta tb tc : TE) : TE := fun σ H Q => ta σ H fun x H1 => tb σ H1 fun y H2 => r x y H2 fun z H3 => match z with
  | .bl true => tc σ H3 fun w H4 => r' y w H4 Q
  | .bl false => Q (.bl false) H3
  | _ => False
def plainIx : Expr → Bool
  | .Slice _ _ _ _ => false
  | _ => true
theorem plainIx_ok {e : Expr} (h : plainIx e = true) : PlainIx e := by
  intro o i
  cases e <;> first | rfl | cases h
/-- a slice's part -/
def prt (t : TE) : TO := fun σ H Q => t σ H fun x H1 => match x with
  | .int i => Q (some i) H1
  | _ => False
def part (f : Expr → TE) : Option Expr → TO
  | none => tNoPart
  | some e => prt (f e)
theorem po_part {X : Cx} {f : Expr → TE} (h : ∀ e, PE X e (f e)) (o : Option Expr) : PO X o (part f o) := by
  cases o with
  | none => exact po_none
  | some e =>
    refine ⟨fun pins s σ H Q I q => ?_⟩
    rw [evalPart_some]
    refine thn ((h e).run pins s σ H _ I q) fun u s1 ⟨x, H1, J, r, q1⟩ => ?_
    cases x with
    | int i => obtain ⟨t, rfl⟩ := r; exact ⟨_, H1, J, .int i t, q1⟩
    | _ => exact q1.elim
/-! ### what is walked -/
def iRange1 (t : TE) : TI := fun σ H R => t σ H fun x H1 => match x with
  | .int j => (-(2 ^ 62) ≤ j ∧ j < 2 ^ 62) ∧ R (Itr 0 j.toNat) H1
  | _ => False
def iRange2 (t u : TE) : TI := fun σ H R => t σ H fun x H1 => u σ H1 fun y H2 => match x, y with
  | .int i, .int j => (-(2 ^ 62) ≤ i ∧ i < 2 ^ 62 ∧ -(2 ^ 62) ≤ j ∧ j < 2 ^ 62) ∧ R (Itr i (j - i).toNat) H2
  | _, _ => False
def iSeq (K : PySem.W.Frag) (t : TE) : TI := fun σ H R => t σ H fun x H1 => match x with
  | .ref a => (match lstOf (H1 a) with
    | some _ => R (Itl K a) H1
    | none => False)
  | _ => False
def iSeqK (K : PySem.W.Frag) (t : TE) : TI := fun σ H R => t σ H fun x H1 => match x with
  | .ref a => (∃ xs, SqL K H1 a xs) ∧ R (Itl K a) H1
  | _ => False
/-- a name of such a list -/
def isK (d : Df) : Expr → Bool
  | .Name x _ => d.kl.contains x
  | _ => false
theorem PI_imp {X : Cx} {tg e : Expr} {t u : TI} (h : PI X tg e t) (i : ∀ σ H R, u σ H R → t σ H R) : PI X tg e u := ⟨fun pins s σ H R I q => h.run pins s σ H R I (i σ H R q)⟩
def isName (s : String) : Expr → Bool
  | .Name x _ => x == PySem.Str.ofString s
  | _ => false
/-- how iter is walked -/
def iterR (K : PySem.W.Frag) (d : Df) (sc : Scope) (f : Expr → TE) (e : Expr) : TI := match e with
  | .Name x p => (match isK d (.Name x p) with
    | true => iSeqK K (f (.Name x p))
    | false => iSeq K (f (.Name x p)))
  | .Call (.Name x _) [a] [] _ => (match x == ("range" : Str), isGlob (sc.names.lookup x), noStar a with
    | true, true, true => iRange1 (f a)
    | false, _, _ => iSeq K (f e)
    | _, _, _ => fun _ _ _ => False)
  | .Call (.Name x _) [a, b] [] _ => (match x == ("range" : Str), isGlob (sc.names.lookup x), noStar a && noStar b with
    | true, true, true => iRange2 (f a) (f b)
    | false, _, _ => iSeq K (f e)
    | _, _, _ => fun _ _ _ => False)
  | .Set _ _ _ => fun _ _ _ => False
  | e => iSeq K (f e)
theorem pi_seqK {X : Cx} {tg e : Expr} {t : TE} (h : PE X e t) : PI X tg e (iSeqK X.K t) := by
  refine ⟨fun pins s σ H R I q => ?_⟩
  refine thn (h.run pins s σ H _ I q) fun v s1 ⟨x, H1, J, r, q1⟩ => ?_
  cases x with
  | ref a =>
    obtain ⟨⟨xs, hq⟩, q2⟩ := q1
    cases r
    obtain ⟨its, rv, p, hz⟩ := J.list hq
    refine wpAny_pyIter_list p.isList ⟨s1.heap.objs.size, [s1.heap.objs.size], _, _, H1, rfl, J.kept (t' := s1.toks) fun b o w => Heap.get?_push_of_some _ w, turn_list a _, ⟨_, Heap.get?_push_size _ rfl, rfl, rfl⟩, fun b hb => ?_, q2⟩
    rw [List.mem_singleton.mp hb]
    exact J.fpOk (Nat.le_refl _) (J.hok.fresh (Nat.le_refl _))
  | _ => exact q1.elim
theorem pi_seq {X : Cx} {tg e : Expr} {t : TE} (h : PE X e t) : PI X tg e (iSeq X.K t) := by
  refine ⟨fun pins s σ H R I q => ?_⟩
  refine thn (h.run pins s σ H _ I q) fun v s1 ⟨x, H1, J, r, q1⟩ => ?_
  cases x with
  | ref a =>
    have q2 : (match lstOf (H1 a) with
      | some _ => R (Itl X.K a) H1
      | none => False) := q1
    cases e1 : lstOf (H1 a) with
    | none => rw [e1] at q2; exact q2.elim
    | some xs =>
      rw [e1] at q2
      have hq := lstOf_sq (K := X.K) e1
      cases r
      obtain ⟨its, rv, p, hz⟩ := J.list hq
      refine wpAny_pyIter_list p.isList ⟨s1.heap.objs.size, [s1.heap.objs.size], _, _, H1, rfl, J.kept (t' := s1.toks) fun b o w => Heap.get?_push_of_some _ w, turn_list a _, ⟨_, Heap.get?_push_size _ rfl, rfl, rfl⟩, fun b hb => ?_, q2⟩
      rw [List.mem_singleton.mp hb]
      exact J.fpOk (Nat.le_refl _) (J.hok.fresh (Nat.le_refl _))
  | _ => exact q1.elim

theorem iRange1_eq (t : TE) : iRange1 t = iRng1 (tCons t tNil) := by
  funext σ H R
  refine congrArg (t σ H) (funext fun x => funext fun H1 => propext ⟨fun h => ?_, fun ⟨j, e, h1, h2, h3⟩ => ?_⟩)
  · cases x <;> first | exact ⟨_, rfl, h.1.1, h.1.2, h.2⟩ | exact h.elim
  · have e2 : x = .int j := by simpa using e
    subst e2
    exact ⟨⟨h1, h2⟩, h3⟩
theorem iRange2_eq (t u : TE) : iRange2 t u = iRng2 (tCons t (tCons u tNil)) := by
  funext σ H R
  refine congrArg (t σ H) (funext fun x => funext fun H1 => congrArg (u σ H1) (funext fun y => funext fun H2 => propext ⟨fun h => ?_, fun ⟨i, j, e, h1, h2⟩ => ?_⟩))
  · cases x <;> cases y <;> first | exact ⟨_, _, rfl, h.1, h.2⟩ | exact h.elim
  · have e2 : x = .int i ∧ y = .int j := by simpa using e
    obtain ⟨rfl, rfl⟩ := e2
    exact ⟨h1, h2⟩
section
variable {X : Cx} {tg : Expr} {sc : Scope} {f : Expr → TE}
theorem pi_iter {d : Df} (hsc : X.env.scope = sc) (hm : X.mg "range" = none) (h : ∀ e, PE X e (f e)) (e : Expr) : PI X tg e (iterR X.K d sc f e) := by
  have gl : ∀ {x : Str}, isGlob (sc.names.lookup x) = true → Gl X x := fun {x} z => by
    show X.env.scope.names.lookup x = _
    rw [hsc]
    exact isGlob_ok z
  have nv : ∀ {e : Expr}, PI X tg e fun _ _ _ => False := fun {e} => ⟨fun _ _ _ _ _ _ z => z.elim⟩
  unfold iterR
  split
  · split
    · exact pi_seqK (h _)
    · exact pi_seq (h _)
  · rename_i x p a pos
    split
    · rename_i e1 e2 e3
      have hx : x = ("range" : Str) := beq_iff_eq.mp e1
      subst hx
      rw [iRange1_eq]
      exact pi_range1 (gl e2) hm (pa_cons (h a) pa_nil (star_ok e3)) (star_ok e3)
    · exact pi_seq (h _)
    · exact nv
  · rename_i x p a b pos
    split
    · rename_i e1 e2 e3
      have hx : x = ("range" : Str) := beq_iff_eq.mp e1
      subst hx
      obtain ⟨s1, s2⟩ := Bool.and_eq_true_iff.mp e3
      rw [iRange2_eq]
      exact pi_range2 (gl e2) hm (pa_cons (h a) (pa_cons (h b) pa_nil (star_ok s2)) (star_ok s1)) (by rw [star_ok s1, star_ok s2]; rfl) (star_ok s2)
    · exact pi_seq (h _)
    · exact nv
  · exact nv
  · exact pi_seq (h _)
end
def isNm : Expr → Bool
  | .Name _ _ => true
  | _ => false
/-- the target of a walk: a name, or names for a tuple -/
def nameG (d : Df) (sc : Scope) (e : Expr) : TG := match e with
  | .Name x _ => (match isLoc (sc.names.lookup x), Nat.blt (d.slot x) d.N.length with
    | true, true => gName (d.slot x)
    | _, _ => fun _ _ _ _ => False)
  | _ => fun _ _ _ _ => False
def namesG (d : Df) (sc : Scope) : List Expr → TGs
  | [] => gNil
  | e :: es => gCons (nameG d sc e) (namesG d sc es)
def tgtG (K : PySem.W.Frag) (d : Df) (sc : Scope) (e : Expr) : TG := match e with
  | .Tuple es _ _ => (match es.all isNm with
    | true => gTup K es.length (namesG d sc es)
    | false => fun _ _ _ _ => False)
  | e => nameG d sc e
section
variable {X : Cx} {d : Df} {sc : Scope}
theorem pg_nameG (hN : X.N = d.N) (nd : d.N.Nodup) (hl : ∀ x, isLoc (sc.names.lookup x) = true → Loc X.env.scope x ∧ (X.fn x = true ∨ X.env.scope.names.lookup x = some .local)) (e : Expr) : PG X e (nameG d sc e) := by
  have nv : ∀ {e : Expr}, PG X e fun _ _ _ _ => False := fun {e} => ⟨fun _ _ _ _ _ _ _ _ _ z => z.elim⟩
  unfold nameG
  split
  · rename_i x p
    split
    · rename_i e1 e2
      have lt : d.slot x < d.N.length := Nat.le_of_ble_eq_true e2
      obtain ⟨l1, l2⟩ := hl x e1
      exact pg_name (by rw [hN]; exact nd) (by rw [hN]; exact slot_ok lt) l1 l2
    · exact nv
  · exact nv
theorem assignEach_names : ∀ {es : List Expr} {env : Env}, es.all isNm = true → (assignEach es env).map (·.2) = es.map (fun e => assign e env) ∧ (assignEach es env).length = es.length ∧ (assignEach es env).findIdx? (·.1) = none
  | [], env, _ => ⟨rfl, rfl, rfl⟩
  | e :: es, env, h => by
    obtain ⟨h1, h2⟩ := Bool.and_eq_true_iff.mp (show (isNm e && es.all isNm) = true from h)
    obtain ⟨k1, k2, k3⟩ := assignEach_names (env := env) h2
    cases e with
    | Name x p =>
      refine ⟨?_, ?_, ?_⟩
      · show assign (.Name x p) env :: (assignEach es env).map (·.2) = _
        rw [k1]; rfl
      · show (assignEach es env).length + 1 = _
        rw [k2]; rfl
      · show ((false, assign (.Name x p) env) :: assignEach es env).findIdx? (·.1) = none
        rw [List.findIdx?_cons]
        simp [k3]
    | _ => cases h1
theorem pgs_namesG (hN : X.N = d.N) (nd : d.N.Nodup) (hl : ∀ x, isLoc (sc.names.lookup x) = true → Loc X.env.scope x ∧ (X.fn x = true ∨ X.env.scope.names.lookup x = some .local)) :
    ∀ es : List Expr, es.all isNm = true → PGs X es (namesG d sc es)
  | [], _ => pgs_nil
  | e :: es, h => by
    obtain ⟨h1, h2⟩ := Bool.and_eq_true_iff.mp (show (isNm e && es.all isNm) = true from h)
    refine pgs_cons (pg_nameG hN nd hl e) (pgs_namesG hN nd hl es h2) ?_
    cases e <;> first | rfl | cases h1
theorem pg_tgtG (hc : X.calm = true) (hN : X.N = d.N) (nd : d.N.Nodup) (hl : ∀ x, isLoc (sc.names.lookup x) = true → Loc X.env.scope x ∧ (X.fn x = true ∨ X.env.scope.names.lookup x = some .local)) (e : Expr) : PG X e (tgtG X.K d sc e) := by
  have nv : ∀ {e : Expr}, PG X e fun _ _ _ _ => False := fun {e} => ⟨fun _ _ _ _ _ _ _ _ _ z => z.elim⟩
  unfold tgtG
  split
  · rename_i es k pos
    cases h : es.all isNm with
    | false => exact nv
    | true =>
      obtain ⟨k1, k2, k3⟩ := assignEach_names (env := X.env) h
      exact pg_tup hc (pgs_namesG hN nd hl es h) k2 k3
  · exact pg_nameG hN nd hl e
end
end G

set_option maxHeartbeats 4000000
/-! G4: one step of depth: expressions, tests, statements; that it is sound -/
namespace G
open PySem PySem.Spec PyProof.Rows L2

/-! ### more built-in functions -/
def cLenK (K : PySem.W.Frag) : List V → Hp → VK → Prop := fun vs H Q => match vs with
  | [.ref p] => ∃ xs, SqL K H p xs ∧ Q (.int xs.length) H
  | _ => False
theorem cr_lenK {X : Cx} : CallR X (.builtin "len") (cLenK X.K) := fun pins s σ H xs us Q I r h => by
  refine call_len_seq pins s σ H xs us Q I r ?_
  match xs, h with
  | [.ref p], ⟨ys, h, q⟩ => exact ⟨p, ys, rfl, .inl h, q⟩
def rIxK (K : PySem.W.Frag) : R2 := fun x y H Q => match x, y with
  | .ref p, .int i => ∃ xs v, SqL K H p xs ∧ atI xs i = some v ∧ Q v H
  | _, _ => False
theorem xr_ixK {X : Cx} : IxR X (rIxK X.K) := fun a b pins s σ H x y v u Q I rx ry h hs => by
  refine ix_seq a b pins s σ H x y v u Q I rx ry ?_ hs
  cases x with
  | ref p => cases y with
    | int i => obtain ⟨xs, v, h1, h2, h3⟩ := h; exact .inl ⟨p, xs, i, v, rfl, rfl, h1, h2, h3⟩
    | _ => exact h.elim
  | _ => cases y <;> exact h.elim
def cRepr (K : PySem.W.Frag) : List V → Hp → VK → Prop := fun vs H Q => match vs with
  | [.ref a] => ∃ d, Dp K H (.ref a) d ∧ d.showable = true ∧ d.hasDict = false ∧ d.depth < 60 ∧ d.shown.length ≤ sizeLine ∧ Q (.str d.shown) H
  | _ => False
theorem cr_repr {X : Cx} (hg : X.A.guards = some []) (hu : X.A.units + 64 < cLine) : CallR X (.builtin "repr") (cRepr X.K) := fun pins s σ H xs us Q I r h => by
  match xs, h with
  | [.ref a], h =>
    obtain ⟨d, hd, h1, h2, h3, h4, q⟩ := h
    obtain ⟨u, rfl, rx⟩ := vals1 r
    cases rx
    obtain ⟨as, rd⟩ := Dp.reads I d _ _ hd rfl
    refine repr_of_reads' rd h1 (fun z => by rw [h2] at z; cases z) hg (by omega) (fun _ _ z => z) (fun h' u tk k => ⟨.str d.shown, H, I.kept k, ⟨u, rfl⟩, q⟩) h4
/-- a built-in function of the readings -/
inductive Bl where
  | len | list | min | max | repr
def blOf (x : Str) : Option Bl := match x == ("len" : Str) with
  | true => some .len
  | false => match x == ("list" : Str) with
    | true => some .list
    | false => match x == ("min" : Str) with
      | true => some .min
      | false => match x == ("max" : Str) with
        | true => some .max
        | false => match x == ("repr" : Str) with
          | true => some .repr
          | false => none
def blR (K : PySem.W.Frag) (m : Bool) : Bl → List V → Hp → VK → Prop
  | .len => cLen K
  | .list => cList m
  | .min => cMin
  | .max => cMax
  | .repr => cRepr K
def blK (K : PySem.W.Frag) (m kb : Bool) (b : Bl) : List V → Hp → VK → Prop := match b, kb with
  | .len, true => cLenK K
  | b, _ => blR K m b
theorem blOf_name {x : Str} {b : Bl} (h : blOf x = some b) : (b = .len ∧ x = "len") ∨ (b = .list ∧ x = "list") ∨ (b = .min ∧ x = "min") ∨ (b = .max ∧ x = "max") ∨ (b = .repr ∧ x = "repr") := by
  unfold blOf at h
  split at h
  · cases h; exact .inl ⟨rfl, beq_iff_eq.mp (by assumption)⟩
  · split at h
    · cases h; exact .inr (.inl ⟨rfl, beq_iff_eq.mp (by assumption)⟩)
    · split at h
      · cases h; exact .inr (.inr (.inl ⟨rfl, beq_iff_eq.mp (by assumption)⟩))
      · split at h
        · cases h; exact .inr (.inr (.inr (.inl ⟨rfl, beq_iff_eq.mp (by assumption)⟩)))
        · split at h
          · cases h; exact .inr (.inr (.inr (.inr ⟨rfl, beq_iff_eq.mp (by assumption)⟩)))
          · cases h
theorem pe_bl {X : Cx} (hc : X.calm = true) (hgd : X.A.guards = some []) (hu : X.A.units + 64 < cLine) (fr : ∀ x ∈ blts, X.mg x = none) {x : Str} {b : Bl} {m : Bool} {f : Expr → TE} {p pos : Pos} {e : Expr} {es : List Expr} (hb : blOf x = some b) (hg : Gl X x)
    (hs : (e :: es).all noStar = true) (h : ∀ e, PE X e (f e)) (kb : Bool) : PE X (.Call (.Name x p) (e :: es) [] pos) (tCB (blK X.K m kb b) (esA f (e :: es))) := by
  obtain ⟨h1, h2⟩ := Bool.and_eq_true_iff.mp (show (noStar e && es.all noStar) = true from hs)
  have key : ∀ {t : TA}, PA X (e :: es) t → PE X (.Call (.Name x p) (e :: es) [] pos) (tCB (blK X.K m kb b) t) := fun {t} ha => by
    rcases blOf_name hb with ⟨rfl, rfl⟩ | ⟨rfl, rfl⟩ | ⟨rfl, rfl⟩ | ⟨rfl, rfl⟩ | ⟨rfl, rfl⟩
    · cases kb with
      | false => exact pe_callB cr_len hg (fr _ (by decide)) PySem.boot_len ha (he := star_ok h1) (hpl := star_any h2)
      | true => exact pe_callB cr_lenK hg (fr _ (by decide)) PySem.boot_len ha (he := star_ok h1) (hpl := star_any h2)
    · exact pe_callTy cr_list hg (fr _ (by decide)) (by decide +kernel) ha (he := star_ok h1) (hpl := star_any h2)
    · exact pe_callB (cr_min hc) hg (fr _ (by decide)) (by decide +kernel) ha (he := star_ok h1) (hpl := star_any h2)
    · exact pe_callB (cr_max hc) hg (fr _ (by decide)) (by decide +kernel) ha (he := star_ok h1) (hpl := star_any h2)
    · exact pe_callB (cr_repr hgd hu) hg (fr _ (by decide)) (by decide +kernel) ha (he := star_ok h1) (hpl := star_any h2)
  exact key (pa_es h (e :: es))
/-- a method of a list -/
def mtd (r : V → List V → Hp → VK → Prop) (to : TE) (t : TA) : TE := fun σ H Q => to σ H fun x H1 => match x with
  | .ref p => (match lstOf (H1 p) with
    | some _ => t σ H1 fun vs H2 => r x vs H2 Q
    | none => False)
  | _ => False
theorem mt_app {X : Cx} : MtR X "list.append" mAppend := fun pins s σ H x xs v us Q I rx rs h => mt_append pins s σ H x xs v us Q I rx rs (mAppend_imp h)
theorem pe_mtd {X : Cx} {name : Str} {id : String} {r : V → List V → Hp → VK → Prop} {o : Expr} {to : TE} {t : TA} {apos cpos : Pos} {e : Expr} {es : List Expr} (slot : Slot "list" name id) (hty : typeOf (.builtin id) = pure (.type "method_descriptor")) (hm : MtR X id r)
    (hb : baseOk o = true) (hp : (apos.endLine == cpos.line) = true) (hs : (e :: es).all noStar = true) (hl : decide ((e :: es).length + 0 + 0 < 30) = true) (ho : PE X o to) (ha : PA X (e :: es) t) : PE X (.Call (.Attribute o name apos) (e :: es) [] cpos) (mtd r to t) := by
  obtain ⟨h1, h2⟩ := Bool.and_eq_true_iff.mp (show (noStar e && es.all noStar) = true from hs)
  refine ⟨fun pins s σ H Q I h => ?_⟩
  refine wpAny_Call_method_late (base_ok hb) (by rw [star_all hs]; exact hl) hp rfl (thn (ho.run pins s σ H _ I h) fun v s1 hh => ?_)
  obtain ⟨x, H1, I1, r1, q1⟩ := hh
  cases x with
  | ref p =>
    have q2 : (match lstOf (H1 p) with
      | some _ => t σ H1 fun vs H2 => r (.ref p) vs H2 Q
      | none => False) := q1
    cases e1 : lstOf (H1 p) with
    | none => rw [e1] at q2; exact q2.elim
    | some xs =>
      rw [e1] at q2
      obtain ⟨k1, k2⟩ := tyV_is (T := "list") I1 r1 (.inl ⟨rfl, xs, lstOf_sq e1⟩)
      refine ⟨"list", id, PySem.F.plainAttrs_list, slot, hty, k1, k2, ?_⟩
      have hA := ha.run cpos pins s1 σ H1 _ I1 q2
      rw [star_ok h1] at hA ⊢
      refine Calls.callWith_builtin (by show (false || (backTo cpos (starEach es X.env)).any (·.1)) = false; rw [star_any h2]; rfl) (Calls.evalArgs_plain ?_)
      exact thn hA fun us s2 ⟨vs, H2, I2, r2, q3⟩ => hm pins s2 σ H2 (.ref p) vs v us Q I2 r1 r2 q3
  | _ => exact q1.elim
section
variable (Γ : Gam) (d : Df)
/-- f(..), f a name -/
def callE (m : Bool) (sc : Scope) (W : WX) (f : Expr → TE) (x : Str) (es : List Expr) (ks : List Keyword) : TE := match isGlob (sc.names.lookup x) && !(x == ("__debug__" : Str)) && es.all noStar with
  | false => nE
  | true => match blOf x, es, ks with
    | some b, e :: r, [] => tCB (blK Γ.K m (isK d e) b) (esA f (e :: r))
    | some _, _, _ => nE
    | none, es, ks => (match kwNames ks, d.cls.contains x with
      | some names, false => cfn Γ W x (esA f es) names (ksA f ks)
      | _, _ => nE)
/-- o.m(..) -/
def callM (W : WX) (f : Expr → TE) (o : Expr) (m : Str) (apos pos : Pos) (es : List Expr) (ks : List Keyword) : TE := match baseOk o && (apos.endLine == pos.line) && es.all noStar && decide (es.length + ks.length + (if ks.isEmpty then 0 else 1) < 30) with
  | false => nE
  | true => match m == ("append" : Str), es, ks with
    | true, [e], [] => mtd mAppend (f o) (esA f [e])
    | true, _, _ => nE
    | false, es, ks => (match kwNames ks with
      | some names => cmt Γ W (f o) m (esA f es) names (ksA f ks)
      | none => nE)
def noSet : Expr → Bool
  | .Set _ _ _ => false
  | _ => true
theorem noSet_ok {e : Expr} (h : noSet e = true) {env : Env} : ∀ x, foldedSetIterable e env x = pure x := by
  intro x
  cases e <;> first | rfl | cases h
/-- a comprehension's own names, with their slots -/
def ownOf (scope : Scope) : List (Str × Nat) := (scope.names.filter fun y => isLoc (some y.2) && Nat.blt (d.slot y.1) d.N.length).map fun y => (y.1, d.slot y.1)
def compE (r : Rd) (sc : Scope) (f : Expr → TE) (elt tg iter : Expr) (ifs : List Expr) (scope : Scope) : TE := match blkC d.N sc scope (ownOf d scope) && noSet iter, ifs with
  | true, [] => tLc (iterR Γ.K d sc f iter) (tgtG Γ.K d scope tg) tYes (r.E d.m (relS scope sc) W0 elt) ((ownOf d scope).map (·.2))
  | true, [c] => tLc (iterR Γ.K d sc f iter) (tgtG Γ.K d scope tg) (r.T (relS scope sc) W0 c) (r.E d.m (relS scope sc) W0 elt) ((ownOf d scope).map (·.2))
  | _, _ => nE
def cmpE (r : Rd) (sc : Scope) (W : WX) (a : Expr) (ops : List CmpOp) (bs : List Expr) : TE := match ops, bs with
  | [op], [b] => (match cmpR Γ.K (isK d b) op, behindInMarks op b with
    | some g, false => tOp g (r.E d.m sc W a) (r.E d.m sc W b)
    | _, _ => nE)
  | [op, op'], [b, c] => (match cmpR Γ.K (isK d b) op, cmpR Γ.K (isK d c) op', lastMarks [op, op'] [b, c] with
    | some g, some g', false => chain g g' (r.E d.m sc W a) (r.E d.m sc W b) (r.E d.m sc W c)
    | _, _, _ => nE)
  | _, _ => nE
def stE (r : Rd) (m : Bool) (sc : Scope) (W : WX) (e : Expr) : TE := match e with
  | .Constant (.int i) _ _ => cv (.int i)
  | .Constant (.bool b) _ _ => cv (.bl b)
  | .Constant .none _ _ => cv .non
  | .Constant (.str x) _ _ => cv (.str x)
  | .Name x _ => nameE Γ d sc x
  | .BinOp a op b _ => (match binR m op with
    | some g => tOp g (r.E d.m sc W a) (r.E d.m sc W b)
    | none => nE)
  | .UnaryOp .USub a _ => neg (r.E d.m sc W a)
  | .UnaryOp .Not a _ => notv (r.E d.m sc W a)
  | .BoolOp .And es _ => andL (r.E d.m sc W) es
  | .BoolOp .Or es _ => orL (r.E d.m sc W) es
  | .IfExp c a b _ => tIf (r.T sc W c) (r.E m sc W a) (r.E m sc W b)
  | .List es _ => lst m (esA (r.E d.m sc W) es)
  | .Tuple es _ _ => tTup (esA (r.E d.m sc W) es)
  | .Compare a ops bs _ => cmpE Γ d r sc W a ops bs
  | .Attribute o f _ => (match baseOk o with
    | true => fld Γ (r.E d.m sc W o) f
    | false => nE)
  | .Subscript o (.Slice lo hi none _) _ => tSl (rSl m) (r.E d.m sc W o) (part (r.E d.m sc W) lo) (part (r.E d.m sc W) hi)
  | .Subscript o i _ => (match plainIx i with
    | true => tOp (match isK d o with
      | true => rIxK Γ.K
      | false => rIx Γ.K) (r.E d.m sc W o) (r.E d.m sc W i)
    | false => nE)
  | .Call (.Name x _) es ks _ => callE Γ d m sc W (r.E d.m sc W) x es ks
  | .Call (.Attribute o m apos) es ks pos => callM Γ W (r.E d.m sc W) o m apos pos es ks
  | .ListComp elt [⟨tg, iter, ifs, 0⟩] scope _ => lkE m (compE Γ d r sc (r.E d.m sc W) elt tg iter ifs scope)
  | _ => nE
def stT (r : Rd) (sc : Scope) (W : WX) (e : Expr) : TT := match e with
  | .Compare a ops bs pos => tb (cmpE Γ d r sc W a ops bs)
  | .BoolOp .And es _ => andT (r.T sc W) es
  | .BoolOp .Or es _ => orT (r.T sc W) es
  | .UnaryOp .Not a _ => tNot (r.T sc W a)
  | .IfExp _ _ _ _ => nT
  | .NamedExpr _ _ _ => nT
  | e => tv (r.E d.m sc W e)
/-! ### statements -/
def noComp : Expr → Bool
  | .ListComp _ _ _ _ => false
  | .SetComp _ _ _ _ => false
  | .DictComp _ _ _ _ _ => false
  | _ => true
def noTup : Expr → Bool
  | .Tuple _ _ _ => false
  | _ => true
/-- f = [..], the block's list stored behind the block's end, then locked, as m has it -/
def asgLc (m : Bool) (t : TE) (i : Nat) : TS := fun D σ H => t σ H fun v H1 => lk m (fun v2 H2 => D.nx (σ.set i (some v2)) H2) v H1
/-- a block of statements -/
def blkS (f : Stmt → TS) : List Stmt → TS
  | [] => tNext
  | [s] => f s
  | s :: r => tSeq (f s) (blkS f r)
def isLocal : Option NameKind → Bool
  | some .local => true
  | _ => false
def asgN (r : Rd) (sc : Scope) (W : WX) (x : Str) (ny : Pos) (e : Expr) : TS := match isLocal (sc.names.lookup x) && Nat.blt (d.slot x) d.N.length with
  | false => nS
  | true => match e with
    | .ListComp elt [⟨tg, iter, ifs, 0⟩] scope pos => (match (ny.line == pos.line) && !(scope.names.any fun y => y.1 == x && (y.2 == .local || y.2 == .cell)) with
      | true => asgLc (d.md x) (compE Γ d r sc (r.E d.m sc W) elt tg iter ifs scope) (d.slot x)
      | false => nS)
    | e => (match noComp e with
      | true => tAsg (r.E (d.md x) sc W e) (gName (d.slot x))
      | false => nS)
def asgT (r : Rd) (sc : Scope) (W : WX) (tg e : Expr) : TS := match tg with
  | .Name x ny => asgN Γ d r sc W x ny e
  | .Attribute o f _ => (match baseOk o && noComp e with
    | true => sfld Γ (r.E d.m sc W o) (r.E (d.md f) sc W e) f
    | false => nS)
  | .Subscript o i _ => (match noComp e && plainIx i with
    | true => tAsg (r.E d.m sc W e) (gSub (r.E d.m sc W o) (r.E d.m sc W i) sItem)
    | false => nS)
  | .Tuple ts k pos => (match noComp e && noTup e with
    | true => tAsg (r.E d.m sc W e) (tgtG Γ.K d sc (.Tuple ts k pos))
    | false => nS)
  | _ => nS
def stS (r : Rd) (sc : Scope) (W : WX) (s : Stmt) : TS := match s with
  | .Pass _ => tNext
  | .Break _ => tBreak
  | .Continue _ => tCont
  | .Expr (.Constant (.str _) _ _) _ => tNext
  | .Expr e _ => (match noComp e with
    | true => tDrop (r.E d.m sc W e)
    | false => nS)
  | .Return none _ => tRetN
  | .Return (some e) _ => tRet (lkE (d.md "return") (r.E (d.md "return") sc W e))
  | .If c a b _ => tIfS (r.T sc W c) (blkS (r.S sc W) a) (blkS (r.S sc W) b)
  | .While c a [] _ => tWhile (r.T sc W c) (blkS (r.S sc W) a)
  | .For tg it a [] _ => (match noSet it with
    | true => tFor (iterR Γ.K d sc (r.E d.m sc W) it) (tgtG Γ.K d sc tg) (blkS (r.S sc W) a)
    | false => nS)
  | .Assign [tg] e _ => asgT Γ d r sc W tg e
  | _ => nS
def step (r : Rd) : Rd := ⟨stE Γ d r, stT Γ d r, stS Γ d r⟩
def rd0 : Rd := ⟨fun _ _ _ _ => nE, fun _ _ _ => nT, fun _ _ _ => nS⟩
def rdN : Nat → Rd
  | 0 => rd0
  | n + 1 => step Γ d (rdN n)
end
end G

set_option maxHeartbeats 4000000
/-! G5: the readings are sound -/
namespace G
open PySem PySem.Spec PyProof.Rows L2

theorem tb_eq (t : TE) : tb t = tTest t := by
  funext σ H Q
  refine congrArg (t σ H) (funext fun x => funext fun H1 => propext ⟨fun h => ?_, fun ⟨k, e, h⟩ => ?_⟩)
  · cases x <;> first | exact ⟨_, rfl, h⟩ | exact h.elim
  · subst e; exact h
theorem andv_eq (t u : TE) : andv t u = tAndV t u := by
  funext σ H Q
  refine congrArg (t σ H) (funext fun x => funext fun H1 => propext ⟨fun h => ?_, fun ⟨k, e, h⟩ => ?_⟩)
  · cases x with
    | bl b => cases b <;> exact ⟨_, rfl, h⟩
    | _ => exact h.elim
  · subst e; cases k <;> exact h
theorem orv_eq (t u : TE) : orv t u = tOrV t u := by
  funext σ H Q
  refine congrArg (t σ H) (funext fun x => funext fun H1 => propext ⟨fun h => ?_, fun ⟨k, e, h⟩ => ?_⟩)
  · cases x with
    | bl b => cases b <;> exact ⟨_, rfl, h⟩
    | _ => exact h.elim
  · subst e; cases k <;> exact h
theorem notv_eq (t : TE) : notv t = tNotV t := by
  funext σ H Q
  refine congrArg (t σ H) (funext fun x => funext fun H1 => propext ⟨fun h => ?_, fun ⟨k, e, h⟩ => ?_⟩)
  · cases x <;> first | exact ⟨_, rfl, h⟩ | exact h.elim
  · subst e; exact h
theorem neg_eq (t : TE) : neg t = tUn (rU fun i => .int (-i)) t := by
  funext σ H Q
  refine congrArg (t σ H) (funext fun x => funext fun H1 => propext ⟨fun h => ?_, fun ⟨k, e, h⟩ => ?_⟩)
  · cases x <;> first | exact ⟨_, rfl, h⟩ | exact h.elim
  · subst e; exact h
theorem chain_eq (r r' : R2) (ta tb tc : TE) : chain r r' ta tb tc = tChain r r' ta tb tc := by
  funext σ H Q
  refine congrArg (ta σ H) (funext fun x => funext fun H1 => congrArg (tb σ H1) (funext fun y => funext fun H2 => congrArg (r x y H2) (funext fun z => funext fun H3 => propext ⟨fun h => ?_, fun ⟨k, e, h⟩ => ?_⟩)))
  · cases z with
    | bl b => cases b <;> exact ⟨_, rfl, h⟩
    | _ => exact h.elim
  · subst e; cases k <;> exact h
theorem pt_tv {X : Cx} {e : Expr} {t : TE} (h : PE X e t) (he : ∀ whole, isTrue e X.env whole = (do let v ← whole; standAt e.pos; holding [v] (truthy v))) : PT X e (tv t) :=
  ⟨fun pins s σ H Q I q => isTrue_plain (thn (h.run pins s σ H _ I q) fun v s1 ⟨x, H1, I1, r1, q1⟩ =>
    let ⟨k, e1, q2⟩ := truR_imp (K := X.K) q1
    tru_ok pins s1 σ H1 x v Q I1 r1 ⟨k, e1, q2⟩) (he _)⟩
theorem noComp_ok {e : Expr} (h : noComp e = true) {t : Option Expr} {l : Nat} {env : Env} : swapsWith e t l env = pure false := by
  cases e <;> first | rfl | cases h
theorem isLocal_ok {sc : Scope} {x : Str} (h : isLocal (sc.names.lookup x) = true) : sc.names.lookup x = some .local := by
  cases e : sc.names.lookup x with
  | none => rw [e] at h; cases h
  | some k => cases k <;> first | rfl | (rw [e] at h; cases h)

/-- a step's readings are sound -/
structure Ok (Γ : Gam) (d : Df) (r : Rd) : Prop where
  E : ∀ (X : Cx) (sc : Scope) (W : WX), CtxOk Γ d X sc W → ∀ (m : Bool) (e : Expr), PE X e (r.E m sc W e)
  T : ∀ (X : Cx) (sc : Scope) (W : WX), CtxOk Γ d X sc W → ∀ (e : Expr), PT X e (r.T sc W e)
  S : ∀ (X : Cx) (sc : Scope) (W : WX), CtxS Γ d X sc W → ∀ (s : Stmt), PS X s (r.S sc W s)
theorem ok0 {Γ : Gam} {d : Df} : Ok Γ d rd0 := ⟨fun _ _ _ _ _ _ => pe_n, fun _ _ _ _ _ => pt_n, fun _ _ _ _ _ => ps_n⟩
theorem takes0 {X : Cx} : Takes X W0 := fun u s' ⟨_, _, _, _, _, _, _, _, _, _, _, _, _, _, _, _, w⟩ => w.elim
section
variable {Γ : Gam} {d : Df} {r : Rd} {X : Cx} {sc : Scope} {W : WX}
theorem CtxOk.blk (C : CtxOk Γ d X sc W) {s : Shared} {H : Hp} {scope : Scope} {A : Addr} {cl : List (Str × Addr)} {fp : List Addr} : CtxOk Γ d (X.blk s H scope (compEnvC scope cl A X.env) fp) (relS scope sc) W0 :=
  ⟨C.g, C.n, C.nd, by show relS scope X.env.scope = _; rw [C.scq], C.calm, C.gd, C.un, takes0⟩
theorem own_ok (scope : Scope) (h : blkC d.N sc scope (ownOf d scope) = true) : BlkOk d.N sc scope (ownOf d scope) := blkOk_by h
theorem blk_hl {s : Shared} {H : Hp} {scope : Scope} {A : Addr} {cl : List (Str × Addr)} {fp : List Addr} (hs : X.env.scope = sc) : ∀ x, isLoc (scope.names.lookup x) = true → Loc (X.blk s H scope (compEnvC scope cl A X.env) fp).env.scope x ∧
    ((X.blk s H scope (compEnvC scope cl A X.env) fp).fn x = true ∨ (X.blk s H scope (compEnvC scope cl A X.env) fp).env.scope.names.lookup x = some .local) := fun x h => by
  have e : (X.blk s H scope (compEnvC scope cl A X.env) fp).env.scope = relS scope X.env.scope := rfl
  rw [e]
  rcases isLoc_ok h with k | k
  · have z := lookup_relS_keep (sc := X.env.scope) (by decide) k
    exact ⟨.inl z, .inr z⟩
  · have z := lookup_relS_keep (sc := X.env.scope) (by decide) k
    refine ⟨.inr z, .inl ?_⟩
    show (scope.names.lookup x == some .cell) = true
    rw [k]
    rfl
theorem pe_comp (O : Ok Γ d r) (C : CtxOk Γ d X sc W) {elt tg iter : Expr} {ifs : List Expr} {scope : Scope} {pos : Pos} : PE X (.ListComp elt [⟨tg, iter, ifs, 0⟩] scope pos) (compE Γ d r sc (r.E d.m sc W) elt tg iter ifs scope) := by
  unfold compE
  have K := C.g.k
  split
  · rename_i h
    obtain ⟨h1, h2⟩ := Bool.and_eq_true_iff.mp h
    have z := own_ok scope h1
    refine pe_lc C.calm (by rw [C.n]; exact C.nd) (by rw [K]; exact pi_iter C.scq (C.g.free _ (by decide)) (fun e => O.E X sc W C d.m e) iter) (by rw [C.n, C.scq]; exact z) (fun s H A cl fp => ?_) (fun s H A cl fp => pts_nil) (fun s H A cl fp => O.E _ _ _ C.blk d.m elt) (noSet_ok h2)
    rw [K]
    exact pg_tgtG (X := X.blk s H scope (compEnvC scope cl A X.env) fp) C.calm C.n C.nd (blk_hl C.scq) tg
  · rename_i c h
    obtain ⟨h1, h2⟩ := Bool.and_eq_true_iff.mp h
    have z := own_ok scope h1
    refine pe_lc C.calm (by rw [C.n]; exact C.nd) (by rw [K]; exact pi_iter C.scq (C.g.free _ (by decide)) (fun e => O.E X sc W C d.m e) iter) (by rw [C.n, C.scq]; exact z) (fun s H A cl fp => ?_) (fun s H A cl fp => pts_one (O.T _ _ _ C.blk c)) (fun s H A cl fp => O.E _ _ _ C.blk d.m elt) (noSet_ok h2)
    rw [K]
    exact pg_tgtG (X := X.blk s H scope (compEnvC scope cl A X.env) fp) C.calm C.n C.nd (blk_hl C.scq) tg
  · exact pe_n
theorem pe_callE (C : CtxOk Γ d X sc W) {f : Expr → TE} (hf : ∀ e, PE X e (f e)) {m : Bool} {x : Str} {p pos : Pos} {es : List Expr} {ks : List Keyword} : PE X (.Call (.Name x p) es ks pos) (callE Γ d m sc W f x es ks) := by
  unfold callE
  cases h : isGlob (sc.names.lookup x) && !(x == ("__debug__" : Str)) && es.all noStar with
  | false => exact pe_n
  | true =>
    simp only [Bool.and_eq_true, Bool.not_eq_true'] at h
    obtain ⟨⟨h1, h2⟩, h3⟩ := h
    have gl : Gl X x := by show X.env.scope.names.lookup x = _; rw [C.scq]; exact isGlob_ok h1
    dsimp only
    split
    · rename_i b e r hb
      rw [C.g.k]
      exact pe_bl C.calm C.gd (by have := C.un; omega) C.g.free hb gl h3 hf _
    · exact pe_n
    · split
      · rename_i names hn _
        exact pe_cfn C hf h1 h2 h3 hn
      · exact pe_n
theorem pe_callM (C : CtxOk Γ d X sc W) {f : Expr → TE} (hf : ∀ e, PE X e (f e)) {o : Expr} {m : Str} {apos pos : Pos} {es : List Expr} {ks : List Keyword} : PE X (.Call (.Attribute o m apos) es ks pos) (callM Γ W f o m apos pos es ks) := by
  unfold callM
  cases h : baseOk o && (apos.endLine == pos.line) && es.all noStar && decide (es.length + ks.length + (if ks.isEmpty then 0 else 1) < 30) with
  | false => exact pe_n
  | true =>
    simp only [Bool.and_eq_true] at h
    obtain ⟨⟨⟨h1, h2⟩, h3⟩, h4⟩ := h
    dsimp only
    split
    · rename_i e hm
      have hm' : m = ("append" : Str) := beq_iff_eq.mp hm
      subst hm'
      exact pe_mtd (id := "list.append") PySem.F.slot_list_append rfl mt_app h1 h2 h3 h4 (hf o) (pa_es hf [e])
    · exact pe_n
    · split
      · rename_i names hn
        exact pe_cmt C hf h1 h2 h3 hn h4
      · exact pe_n
theorem andL_ok {f : Expr → TE} (hf : ∀ e, PE X e (f e)) {pos : Pos} : ∀ es : List Expr, PE X (.BoolOp .And es pos) (andL f es)
  | [] => pe_n
  | [a] => pe_one (hf a)
  | a :: b :: r => by
    show PE X _ (andv (f a) (andL f (b :: r)))
    rw [andv_eq]
    exact pe_and (hf a) (andL_ok hf (b :: r))
theorem orL_ok {f : Expr → TE} (hf : ∀ e, PE X e (f e)) {pos : Pos} : ∀ es : List Expr, PE X (.BoolOp .Or es pos) (orL f es)
  | [] => pe_n
  | [a] => pe_one (hf a)
  | a :: b :: r => by
    show PE X _ (orv (f a) (orL f (b :: r)))
    rw [orv_eq]
    exact pe_or (hf a) (orL_ok hf (b :: r))
theorem andT_ok {f : Expr → TT} (hf : ∀ e, PT X e (f e)) {pos : Pos} : ∀ es : List Expr, PW X (.BoolOp .And es pos) (andT f es)
  | [] => ⟨fun _ _ _ _ _ _ _ h => h.elim⟩
  | [a] => pw_and1 (hf a)
  | a :: b :: r => pw_and (hf a) (andT_ok hf (b :: r))
theorem orT_ok {f : Expr → TT} (hf : ∀ e, PT X e (f e)) {pos : Pos} : ∀ es : List Expr, PW X (.BoolOp .Or es pos) (orT f es)
  | [] => ⟨fun _ _ _ _ _ _ _ h => h.elim⟩
  | [a] => pw_or1 (hf a)
  | a :: b :: r => pw_or (hf a) (orT_ok hf (b :: r))
theorem iter_okC (O : Ok Γ d r) (C : CtxOk Γ d X sc W) {tg : Expr} (e : Expr) : PI X tg e (iterR Γ.K d sc (r.E d.m sc W) e) := by
  rw [C.g.k]
  exact pi_iter C.scq (C.g.free _ (by decide)) (fun e => O.E X sc W C d.m e) e
theorem cmp_ok (O : Ok Γ d r) (C : CtxOk Γ d X sc W) {a : Expr} {ops : List CmpOp} {bs : List Expr} {pos : Pos} : PE X (.Compare a ops bs pos) (cmpE Γ d r sc W a ops bs) ∧ PT X (.Compare a ops bs pos) (tb (cmpE Γ d r sc W a ops bs)) := by
  have h : ∀ e, PE X e (r.E d.m sc W e) := O.E X sc W C d.m
  have hu : X.A.units + 64 < cLine := by have := C.un; omega
  have K := C.g.k
  have nv : ∀ {e : Expr}, PT X e (tb nE) := fun {e} => ⟨fun _ _ _ _ _ _ z => z.elim⟩
  unfold cmpE
  split
  · split
    · rename_i g hg hm
      rw [K] at hg
      rw [tb_eq]
      exact ⟨pe_cmpR (cmpR_ok hu hg) (h _) (h _) hm, pt_cmpR (cmpR_ok hu hg) (h _) (h _) hm⟩
    · exact ⟨pe_n, nv⟩
  · split
    · rename_i g g' hg hg' hm
      rw [K] at hg hg'
      rw [tb_eq, chain_eq]
      exact ⟨pe_chain (cmpR_ok hu hg) (cmpR_ok hu hg') (h _) (h _) (h _) hm, pt_chain (cmpR_ok hu hg) (cmpR_ok hu hg') (h _) (h _) (h _) hm⟩
    · exact ⟨pe_n, nv⟩
  · exact ⟨pe_n, nv⟩
theorem stE_ok (O : Ok Γ d r) (C : CtxOk Γ d X sc W) (m : Bool) (e : Expr) : PE X e (stE Γ d r m sc W e) := by
  have h : ∀ e, PE X e (r.E d.m sc W e) := O.E X sc W C d.m
  unfold stE
  split
  · exact pe_int
  · exact L2.pe_bl
  · exact pe_non
  · exact pe_str
  · exact pe_name C
  · split
    · rename_i g hg
      exact pe_op (binR_ok hg) (h _) (h _)
    · exact pe_n
  · rw [neg_eq]; exact pe_un un_neg (h _)
  · rw [notv_eq]; exact pe_not (h _)
  · exact andL_ok h _
  · exact orL_ok h _
  · exact pe_ifExp (O.T X sc W C _) (O.E X sc W C m _) (O.E X sc W C m _)
  · exact pe_lst (pa_es h _)
  · exact pe_tup (pa_es h _)
  · exact (cmp_ok O C).1
  · split
    · rename_i hb
      exact fld_imp (by rw [← C.g.k]; exact fun Cc f z => by rw [C.g.k]; exact C.g.fl Cc f z) hb (h _)
    · exact pe_n
  · exact pe_slice sr_sl (h _) (po_part h _) (po_part h _)
  · split
    · rename_i hp
      rw [C.g.k]
      split
      · exact pe_ix xr_ixK (h _) (h _) (plainIx_ok hp)
      · exact pe_ix xr_ix (h _) (h _) (plainIx_ok hp)
    · exact pe_n
  · exact pe_callE C h
  · exact pe_callM C h
  · exact pe_lkE (pe_comp O C)
  · exact pe_n
theorem stT_ok (O : Ok Γ d r) (C : CtxOk Γ d X sc W) (e : Expr) : PT X e (stT Γ d r sc W e) := by
  unfold stT
  split
  · exact (cmp_ok O C).2
  · exact (andT_ok (O.T X sc W C) _).pt
  · exact (orT_ok (O.T X sc W C) _).pt
  · exact pt_not (O.T X sc W C _)
  · exact pt_n
  · exact pt_n
  · rename_i e1 e2 e3 e4 e5 e6
    refine pt_tv (O.E X sc W C d.m _) fun whole => ?_
    cases e <;> first | rfl | (exfalso; exact e1 _ _ _ _ rfl) | (exfalso; exact e5 _ _ _ _ rfl) | (exfalso; exact e6 _ _ _ rfl) | skip
    · rename_i op es pos
      cases op
      · exact (e2 _ _ rfl).elim
      · exact (e3 _ _ rfl).elim
    · rename_i op a pos
      cases op <;> first | rfl | exact (e4 _ _ rfl).elim
end
end G

set_option maxHeartbeats 4000000
/-! G6: statements, and a def's promise by its reading -/
namespace G
open PySem PySem.Spec PyProof.Rows L2
section
variable {Γ : Gam} {d : Df} {r : Rd} {X : Cx} {sc : Scope} {W : WX}
theorem blkS_ok {f : Stmt → TS} (h : ∀ s, PS X s (f s)) : ∀ ss : List Stmt, PSs X ss (blkS f ss)
  | [] => pss_nil
  | [s] => pss_one (h s)
  | s :: t :: r => pss_cons (h s) (blkS_ok h (t :: r))
theorem lk_run {m : Bool} {Q : VK} {pins : List (Addr × Obj)} {σ : L2.St} {H : Hp} {s : Shared} {x : V} (I : Inv X pins σ H s) (q : lk m Q x H) : ∃ H', Inv X pins σ H' s ∧ Q x H' := by
  cases m with
  | false => exact ⟨H, I, q⟩
  | true =>
    cases x with
    | ref a =>
      have q2 : (match H a with
        | some (.lst xs) => ∀ o, Q (.ref a) (upd H a (.frz o (.lst xs)))
        | _ => Q (.ref a) H) := q
      cases e : H a with
      | none => rw [e] at q2; exact ⟨H, I, q2⟩
      | some ob =>
        rw [e] at q2
        cases ob with
        | lst xs =>
          obtain ⟨o, J⟩ := Inv.lock I e
          exact ⟨_, J, q2 o⟩
        | _ => exact ⟨H, I, q2⟩
    | _ => exact ⟨H, I, q⟩
theorem compE_cases (O : Ok Γ d r) (C : CtxOk Γ d X sc W) {elt tg iter : Expr} {ifs : List Expr} {scope : Scope} {pos py spos : Pos} {x : Str} (hx : isLocal (sc.names.lookup x) = true) (hs : d.slot x < d.N.length) (hl : (py.line == pos.line) = true)
    (ha : (scope.names.any fun y => y.1 == x && (y.2 == .local || y.2 == .cell)) = false) : PS X (.Assign [.Name x py] (.ListComp elt [⟨tg, iter, ifs, 0⟩] scope pos) spos) (tAsg (compE Γ d r sc (r.E d.m sc W) elt tg iter ifs scope) (gName (d.slot x))) := by
  have K := C.g.k
  have hy : X.env.scope.names.lookup x = some .local := by rw [C.scq]; exact isLocal_ok hx
  have hN : X.N[d.slot x]? = some x := by rw [C.n]; exact slot_ok hs
  have nv : ∀ {st : Stmt}, PS X st (tAsg nE (gName (d.slot x))) := fun {st} => ⟨fun _ _ _ _ _ _ z => z.elim⟩
  unfold compE
  split
  · rename_i h
    obtain ⟨h1, h2⟩ := Bool.and_eq_true_iff.mp h
    have z := own_ok scope h1
    refine ⟨fun pins s σ H D I q => ?_⟩
    refine (ps_setLc (X := X) (py := py) (spos := spos) (pos := pos) (ifs := []) C.calm (by rw [C.n]; exact C.nd) hN hy (sw_true I.ok.kind hy hl ha) (iter_okC O C iter) (by rw [C.n, C.scq]; exact z) (fun s H A cl fp => ?_) (fun s H A cl fp => pts_nil) (fun s H A cl fp => O.E _ _ _ C.blk d.m elt) (noSet_ok h2)).run pins s σ H D I q
    rw [K]
    exact pg_tgtG (X := X.blk s H scope (compEnvC scope cl A X.env) fp) C.calm C.n C.nd (blk_hl C.scq) tg
  · rename_i c h
    obtain ⟨h1, h2⟩ := Bool.and_eq_true_iff.mp h
    have z := own_ok scope h1
    refine ⟨fun pins s σ H D I q => ?_⟩
    refine (ps_setLc (X := X) (py := py) (spos := spos) (pos := pos) (ifs := [c]) C.calm (by rw [C.n]; exact C.nd) hN hy (sw_true I.ok.kind hy hl ha) (iter_okC O C iter) (by rw [C.n, C.scq]; exact z) (fun s H A cl fp => ?_) (fun s H A cl fp => pts_one (O.T _ _ _ C.blk c)) (fun s H A cl fp => O.E _ _ _ C.blk d.m elt) (noSet_ok h2)).run pins s σ H D I q
    rw [K]
    exact pg_tgtG (X := X.blk s H scope (compEnvC scope cl A X.env) fp) C.calm C.n C.nd (blk_hl C.scq) tg
  · exact nv
theorem asgLc_ok {m : Bool} {i : Nat} {st : Stmt} {t : TE} (hi : i < X.N.length) (h : PS X st (tAsg t (gName i))) : PS X st (asgLc m t i) := by
  refine ⟨fun pins s σ H D I q => ?_⟩
  have hl : i < σ.length := by rw [I.len]; exact hi
  let nx : L2.St → Hp → Prop := fun σ' H' => match σ'[i]? with
    | some (some v) => σ' = σ.set i (some v) ∧ lk m (fun v2 H2 => D.nx (σ.set i (some v2)) H2) v H'
    | _ => False
  have e : (fun (x : V) (H1 : Hp) => nx (σ.set i (some x)) H1) = fun v H1 => lk m (fun v2 H2 => D.nx (σ.set i (some v2)) H2) v H1 := by
    funext x H1
    show (match (σ.set i (some x))[i]? with
    | some (some v) => σ.set i (some x) = σ.set i (some v) ∧ lk m (fun v2 H2 => D.nx (σ.set i (some v2)) H2) v H1
    | _ => False) = _
    rw [List.getElem?_set_self hl]
    exact propext ⟨fun z => z.2, fun z => ⟨rfl, z⟩⟩
  have q' : tAsg t (gName i) { D with nx := nx } σ H := by
    show t σ H fun x H1 => nx (σ.set i (some x)) H1
    rw [e]
    exact q
  refine thn (h.run pins s σ H _ I q') fun f s1 z => ?_
  cases f with
  | next =>
    obtain ⟨σ', H', J, z⟩ := z
    have z' : (match σ'[i]? with
    | some (some v) => σ' = σ.set i (some v) ∧ lk m (fun v2 H2 => D.nx (σ.set i (some v2)) H2) v H'
    | _ => False) := z
    split at z'
    · rename_i v _
      obtain ⟨e1, z'⟩ := z'
      subst e1
      exact (fun ⟨H2, J2, z2⟩ => ⟨_, H2, J2, z2⟩) (lk_run (m := m) J z')
    · exact z'.elim
  | ret v => exact z
  | brk => exact z
  | cont => exact z
theorem asgN_ok (O : Ok Γ d r) (C : CtxS Γ d X sc W) {x : Str} {ny pos : Pos} {e : Expr} : PS X (.Assign [.Name x ny] e pos) (asgN Γ d r sc W x ny e) := by
  have B := C.toCtxOk
  unfold asgN
  cases h : isLocal (sc.names.lookup x) && Nat.blt (d.slot x) d.N.length with
  | false => exact ps_n
  | true =>
    obtain ⟨h1, h2⟩ := Bool.and_eq_true_iff.mp h
    have lt : d.slot x < d.N.length := Nat.le_of_ble_eq_true h2
    have hy : X.env.scope.names.lookup x = some .local := by rw [C.scq]; exact isLocal_ok h1
    have hN : X.N[d.slot x]? = some x := by rw [C.n]; exact slot_ok lt
    dsimp only
    split
    · rename_i elt tg iter ifs scope cpos
      split
      · rename_i hh
        simp only [Bool.and_eq_true, Bool.not_eq_true'] at hh
        exact asgLc_ok (by rw [C.n]; exact lt) (compE_cases O B h1 lt hh.1 hh.2)
      · exact ps_n
    · split
      · rename_i hc
        exact ps_set (by rw [C.n]; exact C.nd) hN (.inl hy) (O.E X sc W B _ _) (noComp_ok hc) (.inr hy)
      · exact ps_n
theorem sfld_ok (C : CtxS Γ d X sc W) {o e : Expr} {f : Str} {p pos : Pos} {to tv : TE} (hb : baseOk o = true) (hc : noComp e = true) (ho : PE X o to) (hv : PE X e tv) : PS X (.Assign [.Attribute o f p] e pos) (sfld Γ to tv f) := by
  refine ⟨fun pins s σ H D I h => ?_⟩
  refine plainObj_wpAny_Assign_Attribute (thn (hv.run pins s σ H _ I h) fun u s1 ⟨y, H1, I1, ry, q⟩ => thn (ho.run pins s1 σ H1 _ I1 q) fun ov s2 ⟨x, H2, I2, rx, q2⟩ => ?_) (noComp_ok hc)
  cases x with
  | ref a =>
    have q3 : (match H2 a with
      | some (.ins Cc dx fs) => (Γ.fl Cc f ∧ fs.length < 1000) ∧ D.nx σ (upd H2 a (.ins Cc dx (putF f y fs)))
      | _ => False) := q2
    cases e1 : H2 a with
    | none => rw [e1] at q3; exact q3.elim
    | some ob =>
      rw [e1] at q3
      cases ob with
      | ins Cc dx fs =>
        obtain ⟨⟨h1, h2⟩, q3⟩ := q3
        obtain ⟨hc, hn⟩ := C.g.fl Cc f h1
        obtain rfl : ov = Value.ref a := rx
        exact setattr_ok I2 e1 hc hn h2 ry fun s3 I3 => ⟨σ, _, I3, q3⟩
      | _ => exact q3.elim
  | _ => exact q2.elim
theorem own_hl (C : CtxS Γ d X sc W) : ∀ x, isLoc (sc.names.lookup x) = true → Loc X.env.scope x ∧ (X.fn x = true ∨ X.env.scope.names.lookup x = some .local) := fun x h => ⟨by rw [C.scq]; exact isLoc_ok h, .inl (C.fnl x)⟩
theorem asgT_ok (O : Ok Γ d r) (C : CtxS Γ d X sc W) {tg e : Expr} {pos : Pos} : PS X (.Assign [tg] e pos) (asgT Γ d r sc W tg e) := by
  have B := C.toCtxOk
  unfold asgT
  split
  · exact asgN_ok O C
  · rename_i o f p
    cases h : baseOk o && noComp e with
    | false => exact ps_n
    | true =>
      obtain ⟨h1, h2⟩ := Bool.and_eq_true_iff.mp h
      exact sfld_ok C h1 h2 (O.E X sc W B _ _) (O.E X sc W B _ _)
  · rename_i o i p
    cases h : noComp e && plainIx i with
    | false => exact ps_n
    | true =>
      obtain ⟨h1, h2⟩ := Bool.and_eq_true_iff.mp h
      refine ps_asg (O.E X sc W B _ _) (pg_sub (O.E X sc W B _ _) (O.E X sc W B _ _) sr_item fun v => ?_) (by unfold swapsWithSole; exact noComp_ok h1) ?_ ?_
      · cases i <;> first | rfl | cases h2
      · cases e <;> rfl
      · rfl
  · rename_i ts k p
    cases h : noComp e && noTup e with
    | false => exact ps_n
    | true =>
      obtain ⟨h1, h2⟩ := Bool.and_eq_true_iff.mp h
      refine ps_asg (O.E X sc W B _ _) ?_ (by unfold swapsWithSole; exact noComp_ok h1) ?_ ?_
      · rw [C.g.k]
        exact pg_tgtG C.calm C.n C.nd (own_hl C) _
      · cases e <;> first | rfl | cases h2
      · rfl
  · exact ps_n
theorem stS_ok (O : Ok Γ d r) (C : CtxS Γ d X sc W) (s : Stmt) : PS X s (stS Γ d r sc W s) := by
  have B := C.toCtxOk
  have S : ∀ s, PS X s (r.S sc W s) := O.S X sc W C
  unfold stS
  split
  · exact ps_pass
  · exact ps_break
  · exact ps_continue
  · exact ps_doc
  · split
    · rename_i hc
      exact ps_expr (O.E X sc W B _ _) (noComp_ok hc)
    · exact ps_n
  · exact ps_retN
  · exact ps_ret (pe_lkE (O.E X sc W B _ _))
  · exact ps_if (O.T X sc W B _) (blkS_ok S _) (blkS_ok S _)
  · exact ps_while C.po (O.T X sc W B _) (blkS_ok S _)
  · split
    · rename_i hn
      refine ps_for C.po C.calm (iter_okC O B _) ?_ (blkS_ok S _) (noSet_ok hn)
      rw [C.g.k]
      exact pg_tgtG C.calm C.n C.nd (own_hl C) _
    · exact ps_n
  · exact asgT_ok O C
  · exact ps_n
end
theorem step_ok {Γ : Gam} {d : Df} {r : Rd} (O : Ok Γ d r) : Ok Γ d (step Γ d r) :=
  ⟨fun X sc W C m e => stE_ok O C m e, fun X sc W C e => stT_ok O C e, fun X sc W C s => stS_ok O C s⟩
theorem rd_ok (Γ : Gam) (d : Df) : ∀ n, Ok Γ d (rdN Γ d n)
  | 0 => ok0
  | n + 1 => step_ok (rd_ok Γ d n)
/-- a def's body's reading -/
def bodyR (Γ : Gam) (d : Df) (n : Nat) (sc : Scope) (W : WX) (b : List Stmt) : TS := blkS ((rdN Γ d n).S sc W) b
end G

set_option maxHeartbeats 4000000
/-! G7: a def's promise by its reading -/
namespace G
open PySem PySem.Spec PyProof.Rows L2
theorem RoomG.deeper {k : Nat} {A : Around} (r : RoomG (k + 1) A) (env : Env) : RoomG k (A.deeper env) := ⟨r.r.deeper env, r.g⟩
/-- THE RULE: a def of the text, by its body's reading at n steps of depth -/
theorem fnG_of {Γ : Gam} {d : Df} {dep : Nat} {P : Program} {w : World} {K : PySem.W.Frag} {mg : Str → Option Value} {base : Heap} {k : Nat} {f : Addr} {name qual : Str} {params : Arguments} {body : List Stmt} {scope : Scope} {dV kV doc pm cdv ct oc : Value} {an od : Option Addr}
    {osl : Array (Option Value)} {ps : List Str} {sp : Sp} (lk : K.lookup f = some ⟨oc, od, .func (PySem.W.fnOf name qual params body scope dV kV doc pm an cdv ct), osl⟩) (hcd : PySem.W.codeIn K cdv qual = true) (S : FnScope d.N ps scope)
    (hg : ∀ A : Around, RoomG k A → GamOk Γ P w K mg base A)
    (hlen : ∀ vs H Q E, sp vs H Q E → vs.length = ps.length)
    (hb : ∀ vs H Q E, sp vs H Q E → bodyR Γ d dep scope (fun c dd _ H' => E c dd H') body { nx := fun _ H' => Q .non H', rt := Q } (L2.start d.N vs) H) :
    FnG P w K mg base (k + 1) f (PySem.W.fnOf name qual params body scope dV kV doc pm an cdv ct) ps sp := by
  refine ⟨fun A outer s H args us vs Q E hr e0 hbd r hsp => ?_⟩
  have hl := hlen _ _ _ _ hsp
  have KX : K.In s.heap := e0.mod.kin.keeps fun b o e => (e0.bs b o e).1
  have lim : s.heap.NoLimit := e0.mod.nolimit.keeps fun b o e => (e0.bs b o e).1
  have hkind : ∀ y ∈ ps.zip us, scope.names.lookup y.1 = some .local ∨ (scope.names.lookup y.1 = some .cell ∧ ((cellsFrom (s.heap.objs.size + 1) scope.names []).lookup y.1).isSome = true) := fun ⟨n, v⟩ hy => by
    rcases S.par n (List.of_mem_zip hy).1 with q | q
    · exact .inl q
    · exact .inr ⟨q, PySem.W.cellsFrom_some _ _ _ (.inl q)⟩
  refine codeAny_call_function hr.r.depth (KX _ _ lk) rfl S.co S.gen rfl (PySem.W.codeRec_of KX hcd) (hbd _ _ _ _ ?_)
  refine wpAny_newFunctionEnv_cells S.kind hkind fun env he s1 x => ?_
  subst he
  refine ⟨lim.keeps x.toInCall.keep, codeAny_func ?_⟩
  have RG : RoomG k (A.deeper (envOfC qual scope s.heap.objs.size f cdv)) := hr.deeper _
  let X := cxOf (L2.CX P w) P w K mg base d.N qual scope f cdv A outer s H E
  have C : CtxS Γ d X scope (fun c dd _ H' => E c dd H') :=
    { g := hg _ RG
      n := rfl
      nd := S.nd
      scq := rfl
      calm := rfl
      gd := RG.g
      un := by have := RG.r.un; show (A.deeper _).units + 128 < _; omega
      tk := takes_of rfl rfl rfl rfl
      po := passes_of rfl
      fnl := fun _ => rfl }
  have ht := blkS_ok ((rd_ok Γ d dep).S X scope _ C) body
  have hq := hb vs H Q E hsp
  have I : Inv X [] (L2.start d.N vs) H s1 := inv_start S hr.r.hd e0 hl r x
  refine wpAny_mono (ht.run [] s1 (L2.start d.N vs) H _ I hq) (fun fl s' hs => ?_) fun e s' hs => hs
  have fin : ∀ {σ' : L2.St} {H' : Hp} {v : V} {u : Value}, Inv X [] σ' H' s' → RelV v u → Q v H' → CE outer P w H s Q u s' :=
    fun {σ' H' v u} J rv q => ⟨v, H', J.os, J.bare, J.base, J.hok, rv, q⟩
  cases fl with
  | ret u =>
    obtain ⟨v, σ', H', J, rv, q⟩ := hs
    exact fin J rv q
  | next =>
    obtain ⟨σ', H', J, q⟩ := hs
    exact fin (v := V.non) (u := Value.none) J rfl q
  | brk =>
    obtain ⟨_, _, _, q⟩ := hs
    exact False.elim q
  | cont =>
    obtain ⟨_, _, _, q⟩ := hs
    exact False.elim q
end G

set_option maxHeartbeats 4000000
/-! G8: a law's end over promises that may ask repr -/
namespace G
open PySem PySem.Spec PyProof.Rows L2
/-- the one list that may be tracked: the script, frozen -/
def scriptH (t : Bool) (a : Addr) (o : Obj) (xs : List V) : Hp := fun b => match t with
  | true => if b = a then some (.frz o (.lst xs)) else none
  | false => none
theorem scriptH_ne {t : Bool} {a b : Addr} {o : Obj} {xs : List V} (h : scriptH t a o xs b ≠ none) : b = a ∧ t = true := by
  unfold scriptH at h
  cases t with
  | false => exact absurd rfl h
  | true =>
    by_cases e : b = a
    · exact ⟨e, rfl⟩
    · exact absurd (if_neg e) h
theorem scriptH_some {t : Bool} {a b : Addr} {o : Obj} {xs : List V} {u : HO} (h : scriptH t a o xs b = some u) : b = a ∧ t = true ∧ u = .frz o (.lst xs) := by
  obtain ⟨e1, e2⟩ := scriptH_ne (t := t) (a := a) (o := o) (xs := xs) (b := b) (by rw [h]; simp)
  subst e1 e2
  have z : (if b = b then some (HO.frz o (.lst xs)) else none) = some u := h
  rw [if_pos rfl] at z
  exact ⟨rfl, rfl, (Option.some.inj z).symm⟩
theorem end_call {P : Program} {w : World} {K : PySem.W.Frag} {mg mb : Str → Option Value} {k : Nat} {fa a : Addr} {fd : FuncData} {x : Str} {sp : Sp} {s : Shared} {vs : List Value} {ns : List Int}
    (kin : K.In s.heap) (mnN : s.heap.Ns mainGlobals mg) (blN : s.heap.Ns builtinsNs mb) (blQ : ∀ y : Str, y ≠ "__name__" → mb y = bootBuiltins y) (nl : s.heap.NoLimit) (gens : s.gens = #[])
    (obj : s.heap.get? a = some { cls := .type "list", data := .seq vs.toArray }) (whole : IntsAre vs ns) (few : ns.length ≤ sizeLine) (room : RoomG k callerA)
    (prom : ∀ base : Heap, K.In base → base.Ns mainGlobals mg → FnG P w K mg base k fa fd [x] sp) (bnd : ∀ (s : Shared) (u : Value), BindsTo s fd ⟨[u], []⟩ [(x, u)])
    (put : ∀ H : Hp, Only H → SqL K H a (ns.map V.int) → sp [.ref a] H (fun v _ => v = .bl true) fun _ _ _ => False) :
    codeAny (model P w) callerA (.call (.ref fa) ⟨[.ref a], []⟩) (fun r s' => r = .ok (.ret (.bool true)) ∧ OldK s.heap s'.heap ∧ s'.os = s.os ∧ AllBare s'.gens) s := by
  have vals := vals_ints whole
  have ilen := whole.length
  let sobj : Obj := { cls := .type "list", data := .seq vs.toArray }
  let tr : Bool := (K.lookup a).isNone
  let H : Hp := scriptH tr a sobj (ns.map V.int)
  have only : Only H := fun b => by
    cases e : H b with
    | none => exact .inl rfl
    | some u => exact .inr ⟨_, _, congrArg some (scriptH_some e).2.2⟩
  have seq : SqL K H a (ns.map V.int) := by
    cases hk : K.lookup a with
    | none =>
      have ht : tr = true := by show (K.lookup a).isNone = true; rw [hk]; rfl
      refine .inl (.inr ⟨sobj, ?_⟩)
      show scriptH tr a sobj _ a = _
      rw [ht]
      exact if_pos rfl
    | some o =>
      have e := kin a o hk
      rw [obj] at e
      cases e
      exact .inr ⟨_, vs.toArray, _, hk, rfl, rfl, rfl, by rw [List.size_toArray, ilen]; exact few, by simpa using vals⟩
  have hok : HOk P w H s.heap := fun b u e => by
    obtain ⟨e1, _, e3⟩ := scriptH_some e
    subst e1 e3
    exact ⟨obj, by rw [List.length_map]; exact few, vs, _, vals, obj⟩
  have free : ∀ {b : Addr} {o : Obj} {es : Array DictEntry} {n : Nat}, s.heap.get? b = some o → o.data = .dict es n → H b = none := fun {b o es n} e hd => by
    cases q : H b with
    | none => rfl
    | some u =>
      obtain ⟨rfl, _, _⟩ := scriptH_some q
      rw [obj] at e
      cases e
      exact absurd (show Data.seq vs.toArray _ = Data.dict es n from hd) (fun z => by cases z)
  have names : ∀ {b : Addr} {m : Str → Option Value}, s.heap.Ns b m → (hidT s.heap H).Ns b m := fun {b m} z => by
    obtain ⟨o, es, n, e, hd, rest⟩ := z
    exact ⟨o, es, n, hidT_get e (free e hd), hd, rest⟩
  have kinH : K.In (hidT s.heap H) := fun b o e => by
    refine hidT_get (kin b o e) ?_
    cases q : H b with
    | none => rfl
    | some u =>
      obtain ⟨rfl, ht, _⟩ := scriptH_some q
      have ht' : (K.lookup b).isNone = true := ht
      rw [e] at ht'
      cases ht'
  have md : Mod K mg (hidT s.heap H) := by
    obtain ⟨ml, l1, l2⟩ := nl
    exact ⟨kinH, names mnN, ⟨mb, names blN, blQ⟩, ml, names l1, l2⟩
  have nobody : ∀ b, b ∈ frs ([] : List Env) → False := fun b hb => absurd (show b ∈ ([] : List Addr) from hb) (by simp)
  have env : Env0 P w K mg (hidT s.heap H) callerA [] s H :=
    { frames := rfl
      mod := md
      bs := fun b o e => of_hidT e
      bsz := by rw [hidT_size]; exact Nat.le_refl _
      funs := True.intro
      frf := fun b hb => (nobody b hb).elim
      hok := hok
      bare := AllBare.of_eq gens }
  refine codeAny_mono ((prom _ kinH (names mnN)).run callerA [] s H ⟨[.ref a], []⟩ [.ref a] [.ref a] _ _ room env (bnd s (.ref a)) (.cons rfl .nil) (put H only seq)) fun r s' got => ?_
  match r, got with
  | .error e, got =>
    obtain ⟨_, _, _, _, _, _, _, _, _, _, _, _, no⟩ := got
    exact False.elim no
  | .ok (.ret u), got =>
    obtain ⟨v, H', os, bare, un, hok', rel, q⟩ := got
    obtain rfl : v = .bl true := q
    obtain rfl : u = Value.bool true := rel
    refine ⟨rfl, OldK.of_keep fun b o e => ?_, os, bare⟩
    cases q : H b with
    | none => exact un.keep b o e q (fun z => nobody b z) (by simp)
    | some u =>
      obtain ⟨_, _, rfl⟩ := scriptH_some q
      have e1 := (hok b _ q).1
      have e2 := (hok' b _ (un.frzs b _ _ q)).1
      rw [e] at e1
      cases e1
      exact e2
/-- what the head leaves, from the law's promise -/
theorem walk_end {l : PySem.W.OpenLaw} {n k : Nat} {q : Program} {loose : List Str} {XP : (Str → Option Value) → Heap → Prop} {YP : World → Heap → Prop} {d : DefRec} {x : Str} (few : l.most = some n) (few2 : n ≤ sizeLine) (nodef : d.params.defaults = []) (room : RoomG k callerA)
    (prom : ∀ (w : World) (mg : Str → Option Value) (fa : Addr) (h : Heap), YP w h → h.Ns mainGlobals mg → mg d.name = some (.ref fa) →
      ∃ (K : PySem.W.Frag) (fd : FuncData) (sp : Sp), K.In h ∧ (∀ (s : Shared) (u : Value), BindsTo s fd ⟨[u], []⟩ [(x, u)]) ∧
        (∀ (H : Hp) (a : Addr) (ns : List Int), ns.length ≤ n → Only H → SqL K H a (ns.map V.int) → sp [.ref a] H (fun v _ => v = .bl true) fun _ _ _ => False) ∧
        ∀ base : Heap, K.In base → base.Ns mainGlobals mg → FnG l.prog w K mg base k fa fd [x] sp) : PySem.W.WalkO q loose XP YP l.row.toRowW d [] (fun f vs => PySem.call f vs) :=
  Att.attach_call few nodef fun w _ s mg mb fa _ _ _ _ a vs ns gr y _ _ _ hmg hobj whole len gens =>
    let ⟨_, _, _, kin, bnd, put, F⟩ := prom w mg fa _ y gr.T.g hmg
    end_call kin gr.T.g gr.T.b gr.T.builtins gr.T.nolimit gens hobj whole (Nat.le_trans len few2) room F bnd fun H hO hS => put H a ns len hO hS
theorem room_law : RoomG 14 callerA := ⟨⟨rfl, by decide, by decide⟩, rfl⟩
end G

set_option maxHeartbeats 4000000
/-! G9: the names' table, built def by def; loops; equations of the readings -/
namespace G
open PySem PySem.Spec PyProof.Rows L2
/-- constants alone -/
def gam0 (K : PySem.W.Frag) (gl : Str → Option V) : Gam := ⟨K, gl, fun _ => False, fun _ _ _ _ _ _ => False, fun _ _ => False, fun _ _ _ _ _ _ _ => False, fun _ => False, fun _ _ _ _ _ _ => False, fun _ _ => False⟩
def Gam.addF (Γ : Gam) (nm : Str) (sp : Sp) : Gam := { Γ with df := fun x => x = nm ∨ Γ.df x, fn := fun x vs kws H Q E => (x = nm ∧ kws = [] ∧ sp vs H Q E) ∨ Γ.fn x vs kws H Q E }
section
variable {P : Program} {w : World} {K : PySem.W.Frag} {mg : Str → Option Value} {base : Heap}
theorem gam0_ok {gl : Str → Option V} {A : Around} (hgl : ∀ x v, gl x = some v → ∃ u, mg x = some u ∧ RelV v u) (free : ∀ x ∈ blts, mg x = none) : GamOk (gam0 K gl) P w K mg base A :=
  ⟨rfl, hgl, fun _ h => h.elim, fun _ _ _ _ _ _ _ h => h.elim, fun _ _ h => h.elim, fun _ _ _ _ _ _ _ _ h => h.elim, fun _ _ h => h.elim, free⟩
theorem GamOk.addF {Γ : Gam} {A : Around} {nm : Str} {n : Nat} {f : Addr} {fd : FuncData} {ps : List Str} {sp : Sp} (G : GamOk Γ P w K mg base A) (hm : mg nm = some (.ref f)) (hk : PySem.W.keepIn K (.ref f) = true) (hr : RoomG n A) (F : FnG P w K mg base n f fd ps sp)
    (hl : ∀ vs H Q E, sp vs H Q E → vs.length = ps.length) (hb : ∀ (s : Shared) (us : List Value), us.length = ps.length → BindsTo s fd ⟨us, []⟩ (ps.zip us)) : GamOk (Γ.addF nm sp) P w K mg base A where
  k := G.k
  gl := G.gl
  df := fun x h => by
    rcases h with rfl | h
    · exact ⟨f, hm, hk⟩
    · exact G.df x h
  fn := fun x f' vs kws H Q E h hx => by
    rcases h with ⟨rfl, rfl, h⟩ | h
    · have e : f' = f := by
        have := hx.symm.trans hm
        simpa using this
      subst e
      refine ⟨n, hr, fd, ps, sp, vs, F, fun s us ws _ r rw' => ?_, h⟩
      cases rw'
      exact ⟨us, r, hb s us (by rw [← r.length]; exact hl vs H Q E h)⟩
    · exact G.fn x f' vs kws H Q E h hx
  mf := G.mf
  mt := G.mt
  fl := G.fl
  free := G.free
theorem Gam.addF_fn {Γ : Gam} {nm : Str} {sp : Sp} {vs : List V} {H : Hp} {Q : VK} {E : XK} (h : sp vs H Q E) : (Γ.addF nm sp).fn nm vs [] H Q E := .inl ⟨rfl, rfl, h⟩
/-- a def of the text, by its body's reading -/
theorem fnG_by {Γ : Gam} {d : Df} {dep k : Nat} {x qual : Str} {params : Arguments} {body : List Stmt} {scope : Scope} {dvs : List V} {kws : List (Str × V)} {f : Addr} {fd : FuncData} {ps : List Str} {sp : Sp} {t : WX → TS} (F : FunD K x qual params body scope dvs kws f fd) (S : FnScope d.N ps scope)
    (hg : ∀ A : Around, RoomG k A → GamOk Γ P w K mg base A) (hlen : ∀ vs H Q E, sp vs H Q E → vs.length = ps.length) (hr : ∀ W, bodyR Γ d dep scope W body = t W)
    (hb : ∀ vs H Q E, sp vs H Q E → t (fun c dd _ H' => E c dd H') { nx := fun _ H' => Q .non H', rt := Q } (L2.start d.N vs) H) : FnG P w K mg base (k + 1) f fd ps sp := by
  obtain ⟨oc, od, dV, kV, doc, pm, an, cdv, ct, osl, rfl, lk, hcd, _, _⟩ := F.ex
  exact fnG_of lk hcd S hg hlen fun vs H Q E h => by rw [hr]; exact hb vs H Q E h
end
/-! ### loops -/
/-- a for loop over J -/
def Lp (J : It) (g : TG) (tb : TS) (D : Ends) (σ : L2.St) (H1 : Hp) : Prop := ∃ W : Nat → Nat → L2.St → Hp → Prop, (∃ m, W 0 m σ H1) ∧ ∀ i m σ H, W i m σ H →
  (J.stop i H ∧ D.nx σ H) ∨ (J.go i H ∧ ∃ N : L2.St → Hp → Prop, (∀ σ' H', N σ' H' → ∃ m', m' < m ∧ W (i + 1) m' σ' H') ∧ ∀ x H', J.yld i H x H' → g x σ H' fun σ2 H2 => tb { D with nx := N, ct := N, bk := D.nx } σ2 H2)
/-- a comprehension over J, its list at D -/
def Lc (J : It) (g : TG) (tt : TT) (te : TE) (vs : List Nat) (σ : L2.St) (D : Addr) (Q : Hp → Prop) (H1 : Hp) : Prop := ∃ W : Nat → Nat → Hp → Prop, (∃ m, W 0 m (upd H1 D (.lst []))) ∧ ∀ i m H, W i m H →
  (J.stop i H ∧ Q H) ∨ (J.go i H ∧ ∃ Nx : Hp → Prop, (∀ H', Nx H' → ∃ m', m' < m ∧ W (i + 1) m' H') ∧ ∀ x H', J.yld i H x H' → g x (wipe σ vs) H' fun σ2 H2 => wipe σ2 vs = wipe σ vs ∧ tt σ2 H2 fun b H3 =>
    if b = true then te σ2 H3 fun y H4 => ∃ acc, H4 D = some (.lst acc) ∧ acc.length < sizeLine ∧ Nx (upd H4 D (.lst (acc ++ [y]))) else Nx H3)
/-- a while loop -/
def Wh (c : TT) (tb : TS) (D : Ends) (σ : L2.St) (H : Hp) : Prop := tWhile c tb D σ H
@[simp] theorem e_while (c : TT) (tb : TS) (D : Ends) (σ : L2.St) (H : Hp) : tWhile c tb D σ H = Wh c tb D σ H := rfl
theorem wh_rule {c : TT} {tb : TS} {D : Ends} {σ : L2.St} {H : Hp} (P : Nat → L2.St → Hp → Prop) (m : Nat) (h0 : P m σ H)
    (hs : ∀ m σ H, P m σ H → c σ H fun b H1 => if b = true then ∃ N : L2.St → Hp → Prop, (∀ σ' H', N σ' H' → ∃ m', m' < m ∧ P m' σ' H') ∧ tb { D with nx := N, ct := N, bk := D.nx } σ H1 else D.nx σ H1) : Wh c tb D σ H := ⟨P, ⟨m, h0⟩, hs⟩
section
variable {lo : Int} {n : Nat} {g : TG} {tb : TS} {tt : TT} {te : TE} {vs : List Nat} {D : Ends} {σ : L2.St} {H : Hp} {K : PySem.W.Frag} {a d : Addr} {xs : List V} {Q : Hp → Prop}
theorem lp_range (P : Nat → L2.St → Hp → Prop) (h0 : P 0 σ H) (hs : ∀ i σ H, i < n → P i σ H → g (.int (lo + i)) σ H fun σ2 H2 => tb { D with nx := P (i + 1), ct := P (i + 1), bk := D.nx } σ2 H2) (hd : ∀ σ H, P n σ H → D.nx σ H) : Lp (Itr lo n) g tb D σ H := by
  refine ⟨fun i m σ H => m = n - i ∧ i ≤ n ∧ P i σ H, ⟨n, by simp, Nat.zero_le _, h0⟩, ?_⟩
  rintro i m σ1 H1 ⟨rfl, hi, p⟩
  by_cases hlt : i < n
  · refine .inr ⟨hlt, P (i + 1), fun σ' H' p' => ⟨n - (i + 1), by omega, rfl, hlt, p'⟩, fun x H' y => ?_⟩
    obtain ⟨rfl, rfl⟩ := y
    exact hs i σ1 _ hlt p
  · have e : i = n := by omega
    subst e
    exact .inl ⟨Nat.le_refl _, hd _ _ p⟩
/-- over a list that the body leaves as it is -/
theorem lp_list (P : Nat → L2.St → Hp → Prop) (h0 : P 0 σ H) (hl : ∀ i σ H, P i σ H → lstOf (H a) = some xs) (hs : ∀ i x σ H, xs[i]? = some x → P i σ H → g x σ H fun σ2 H2 => tb { D with nx := P (i + 1), ct := P (i + 1), bk := D.nx } σ2 H2) (hd : ∀ σ H, P xs.length σ H → D.nx σ H) : Lp (Itl K a) g tb D σ H := by
  refine ⟨fun i m σ H => m = xs.length - i ∧ i ≤ xs.length ∧ P i σ H, ⟨xs.length, by simp, Nat.zero_le _, h0⟩, ?_⟩
  rintro i m σ1 H1 ⟨rfl, hi, p⟩
  have q : SqL K H1 a xs := lstOf_sq (hl i σ1 H1 p)
  by_cases hlt : i < xs.length
  · refine .inr ⟨⟨xs, xs[i], q, by simp [hlt]⟩, P (i + 1), fun σ' H' p' => ⟨xs.length - (i + 1), by omega, rfl, hlt, p'⟩, fun x H' y => ?_⟩
    obtain ⟨rfl, y⟩ := y
    exact hs i x σ1 _ (y xs q) p
  · have e : i = xs.length := by omega
    subst e
    exact .inl ⟨⟨xs, q, Nat.le_refl _⟩, hd _ _ p⟩
theorem lc_of_range (P : Nat → Hp → Prop) (h0 : P 0 (upd H d (.lst []))) (hs : ∀ i H, i < n → P i H → g (.int (lo + i)) (wipe σ vs) H fun σ2 H2 => wipe σ2 vs = wipe σ vs ∧ tt σ2 H2 fun b H3 =>
      if b = true then te σ2 H3 fun y H4 => ∃ acc, H4 d = some (.lst acc) ∧ acc.length < sizeLine ∧ P (i + 1) (upd H4 d (.lst (acc ++ [y]))) else P (i + 1) H3) (hd : ∀ H, P n H → Q H) : Lc (Itr lo n) g tt te vs σ d Q H := lc_range P h0 hs hd
theorem lc_of_list (P : Nat → Hp → Prop) (h0 : P 0 (upd H d (.lst []))) (hl : ∀ i H, i ≤ xs.length → P i H → lstOf (H a) = some xs) (hs : ∀ i x H, xs[i]? = some x → P i H → g x (wipe σ vs) H fun σ2 H2 => wipe σ2 vs = wipe σ vs ∧ tt σ2 H2 fun b H3 =>
      if b = true then te σ2 H3 fun y H4 => ∃ acc, H4 d = some (.lst acc) ∧ acc.length < sizeLine ∧ P (i + 1) (upd H4 d (.lst (acc ++ [y]))) else P (i + 1) H3) (hd : ∀ H, P xs.length H → Q H) : Lc (Itl K a) g tt te vs σ d Q H :=
  lc_list P h0 (fun i H hi p => lstOf_sq (hl i H hi p)) hs hd
end
end G

set_option maxHeartbeats 4000000
/-! G10: the readings' equations -/
namespace G
open PySem PySem.Spec PyProof.Rows L2
section
variable {Γ : Gam} {W : WX} {te tf to ti ta' : TE} {ta tk : TA} {g : TG} {t u : TS} {c c2 : TT} {D : Ends} {σ : L2.St} {H : Hp} {Q : VK} {QA : List V → Hp → Prop} {QS : L2.St → Hp → Prop} {QB : Bool → Hp → Prop} {QO : Option Int → Hp → Prop} {x y v : V} {i j k : Nat} {m : Bool} {nm : Str} {a b p : Addr} {r r' : R2} {K : PySem.W.Frag}
@[simp] theorem e_seq : tSeq t u D σ H = t { D with nx := u D } σ H := rfl
def kAsg (g : TG) (σ : L2.St) (N : L2.St → Hp → Prop) : VK := fun x H1 => g x σ H1 N
@[simp] theorem e_asgK {N : L2.St → Hp → Prop} : kAsg g σ N x H = g x σ H N := rfl
@[simp] theorem e_asg : tAsg te g D σ H = te σ H (kAsg g σ D.nx) := rfl
@[simp] theorem e_gname : gName i v σ H QS = QS (σ.set i (some v)) H := rfl
@[simp] theorem e_ret : tRet te D σ H = te σ H D.rt := rfl
@[simp] theorem e_retN : tRetN D σ H = D.rt .non H := rfl
@[simp] theorem e_next : tNext D σ H = D.nx σ H := rfl
@[simp] theorem e_break : tBreak D σ H = D.bk σ H := rfl
@[simp] theorem e_cont : tCont D σ H = D.ct σ H := rfl
def kDrop (σ : L2.St) (N : L2.St → Hp → Prop) : VK := fun _ H1 => N σ H1
@[simp] theorem e_dropK {N : L2.St → Hp → Prop} : kDrop σ N x H = N σ H := rfl
@[simp] theorem e_drop : tDrop te D σ H = te σ H (kDrop σ D.nx) := rfl
def kIf (t u : TS) (D : Ends) (σ : L2.St) : Bool → Hp → Prop := fun b H1 => if b = true then t D σ H1 else u D σ H1
@[simp] theorem e_ifK {b : Bool} : kIf t u D σ b H = if b = true then t D σ H else u D σ H := rfl
@[simp] theorem e_if : tIfS c t u D σ H = c σ H (kIf t u D σ) := rfl
def kOp2 (r : R2) (x : V) (Q : VK) : VK := fun y H2 => r x y H2 Q
def kOp1 (r : R2) (tf : TE) (σ : L2.St) (Q : VK) : VK := fun x H1 => tf σ H1 (kOp2 r x Q)
@[simp] theorem e_op2 : kOp2 r x Q y H = r x y H Q := rfl
@[simp] theorem e_op1 : kOp1 r tf σ Q x H = tf σ H (kOp2 r x Q) := rfl
@[simp] theorem e_op : tOp r te tf σ H Q = te σ H (kOp1 r tf σ Q) := rfl
@[simp] theorem e_vr : vr i σ H Q = (match σ[i]? with
  | some (some v) => Q v H
  | _ => False) := rfl
@[simp] theorem e_cv : cv v σ H Q = Q v H := rfl
@[simp] theorem e_gv : gv Γ nm σ H Q = (match Γ.gl nm with
  | some v => Q v H
  | none => False) := rfl
def kTb (QB : Bool → Hp → Prop) : VK := fun x H' => match x with
  | .bl b => QB b H'
  | _ => False
@[simp] theorem e_tbK {b : Bool} : kTb QB (.bl b) H = QB b H := rfl
@[simp] theorem e_tb : tb te σ H QB = te σ H (kTb QB) := rfl
def kTv (QB : Bool → Hp → Prop) : VK := fun x H' => truR x H' QB
@[simp] theorem e_tvK : kTv QB x H = truR x H QB := rfl
@[simp] theorem e_tv : tv te σ H QB = te σ H (kTv QB) := rfl
@[simp] theorem e_trN : truR .non H QB = QB false H := rfl
@[simp] theorem e_trB {b : Bool} : truR (.bl b) H QB = QB b H := rfl
@[simp] theorem e_trI {i : Int} : truR (.int i) H QB = QB (i != 0) H := rfl
@[simp] theorem e_trR : truR (.ref p) H QB = (match lstOf (H p) with
  | some xs => QB (!xs.isEmpty) H
  | none => False) := rfl
def kAnd (c2 : TT) (σ : L2.St) (QB : Bool → Hp → Prop) : Bool → Hp → Prop := fun b H1 => if b = true then c2 σ H1 QB else QB false H1
def kOr (c2 : TT) (σ : L2.St) (QB : Bool → Hp → Prop) : Bool → Hp → Prop := fun b H1 => if b = true then QB true H1 else c2 σ H1 QB
def kNot (QB : Bool → Hp → Prop) : Bool → Hp → Prop := fun b H1 => QB (!b) H1
@[simp] theorem e_andK {b : Bool} : kAnd c2 σ QB b H = if b = true then c2 σ H QB else QB false H := rfl
@[simp] theorem e_orK {b : Bool} : kOr c2 σ QB b H = if b = true then QB true H else c2 σ H QB := rfl
@[simp] theorem e_notK {b : Bool} : kNot QB b H = QB (!b) H := rfl
@[simp] theorem e_and : tAnd c c2 σ H QB = c σ H (kAnd c2 σ QB) := rfl
@[simp] theorem e_or : tOr c c2 σ H QB = c σ H (kOr c2 σ QB) := rfl
@[simp] theorem e_not : tNot c σ H QB = c σ H (kNot QB) := rfl
@[simp] theorem e_tyes : tYes σ H QB = QB true H := rfl
def kIfe (te tf : TE) (σ : L2.St) (Q : VK) : Bool → Hp → Prop := fun b H1 => if b = true then te σ H1 Q else tf σ H1 Q
@[simp] theorem e_ifeK {b : Bool} : kIfe te tf σ Q b H = if b = true then te σ H Q else tf σ H Q := rfl
@[simp] theorem e_ife : tIf c te tf σ H Q = c σ H (kIfe te tf σ Q) := rfl
def kNeg (Q : VK) : VK := fun x H1 => match x with
  | .int i => Q (.int (-i)) H1
  | _ => False
@[simp] theorem e_negK {i : Int} : kNeg Q (.int i) H = Q (.int (-i)) H := rfl
@[simp] theorem e_neg : neg te σ H Q = te σ H (kNeg Q) := rfl
def kNotv (Q : VK) : VK := fun x H1 => match x with
  | .bl b => Q (.bl (!b)) H1
  | _ => False
@[simp] theorem e_notvK {b : Bool} : kNotv Q (.bl b) H = Q (.bl (!b)) H := rfl
@[simp] theorem e_notv : notv te σ H Q = te σ H (kNotv Q) := rfl
def kAndv (tf : TE) (σ : L2.St) (Q : VK) : VK := fun x H1 => match x with
  | .bl true => tf σ H1 Q
  | .bl false => Q (.bl false) H1
  | _ => False
@[simp] theorem e_andvK {b : Bool} : kAndv tf σ Q (.bl b) H = if b = true then tf σ H Q else Q (.bl false) H := by cases b <;> rfl
@[simp] theorem e_andv : andv te tf σ H Q = te σ H (kAndv tf σ Q) := rfl
def kOrv (tf : TE) (σ : L2.St) (Q : VK) : VK := fun x H1 => match x with
  | .bl true => Q (.bl true) H1
  | .bl false => tf σ H1 Q
  | _ => False
@[simp] theorem e_orvK {b : Bool} : kOrv tf σ Q (.bl b) H = if b = true then Q (.bl true) H else tf σ H Q := by cases b <;> rfl
@[simp] theorem e_orv : orv te tf σ H Q = te σ H (kOrv tf σ Q) := rfl
def kCh3 (r' : R2) (y : V) (Q : VK) : VK := fun w H4 => r' y w H4 Q
def kCh2 (r' : R2) (tc : TE) (y : V) (σ : L2.St) (Q : VK) : VK := fun z H3 => match z with
  | .bl true => tc σ H3 (kCh3 r' y Q)
  | .bl false => Q (.bl false) H3
  | _ => False
def kCh1 (r r' : R2) (tc : TE) (x : V) (σ : L2.St) (Q : VK) : VK := fun y H2 => r x y H2 (kCh2 r' tc y σ Q)
def kCh0 (r r' : R2) (tb tc : TE) (σ : L2.St) (Q : VK) : VK := fun x H1 => tb σ H1 (kCh1 r r' tc x σ Q)
@[simp] theorem e_ch3 : kCh3 r' y Q x H = r' y x H Q := rfl
@[simp] theorem e_ch2 {b : Bool} : kCh2 r' tf y σ Q (.bl b) H = if b = true then tf σ H (kCh3 r' y Q) else Q (.bl false) H := by cases b <;> rfl
@[simp] theorem e_ch1 : kCh1 r r' tf x σ Q y H = r x y H (kCh2 r' tf y σ Q) := rfl
@[simp] theorem e_ch0 {tb tc : TE} : kCh0 r r' tb tc σ Q x H = tb σ H (kCh1 r r' tc x σ Q) := rfl
@[simp] theorem e_chain {tb tc : TE} : chain r r' te tb tc σ H Q = te σ H (kCh0 r r' tb tc σ Q) := rfl
@[simp] theorem e_addI {i j : Int} : rAdd m (.int i) (.int j) H Q = Q (.int (i + j)) H := rfl
@[simp] theorem e_addL : rAdd m (.ref a) (.ref b) H Q = (match lstOf (H a), lstOf (H b) with
  | some xs, some ys => xs.length + ys.length ≤ sizeLine ∧ al m (xs ++ ys) H Q
  | _, _ => False) := rfl
@[simp] theorem e_sub {i j : Int} : rSub (.int i) (.int j) H Q = Q (.int (i - j)) H := rfl
@[simp] theorem e_mul {i j : Int} : rMul m (.int i) (.int j) H Q = (CMul i j ∧ Q (.int (i * j)) H) := rfl
@[simp] theorem e_div {i j : Int} : rDiv (.int i) (.int j) H Q = (CDivW i j ∧ Q (.int (i / j)) H) := rfl
@[simp] theorem e_mod {i j : Int} : rMod (.int i) (.int j) H Q = (0 < j ∧ Q (.int (i % j)) H) := rfl
@[simp] theorem e_pow {i j : Int} : rPow (.int i) (.int j) H Q = (CPow i j ∧ Q (.int (i ^ j.toNat)) H) := rfl
@[simp] theorem e_lt {i j : Int} : rLt (.int i) (.int j) H Q = Q (.bl (decide (i < j))) H := rfl
@[simp] theorem e_le {i j : Int} : rLe (.int i) (.int j) H Q = Q (.bl (decide (i ≤ j))) H := rfl
@[simp] theorem e_gt {i j : Int} : rGt (.int i) (.int j) H Q = Q (.bl (decide (j < i))) H := rfl
@[simp] theorem e_ge {i j : Int} : rGe (.int i) (.int j) H Q = Q (.bl (decide (j ≤ i))) H := rfl
@[simp] theorem e_eqI {i j : Int} : rEq K (.int i) (.int j) H Q = Q (.bl (decide (i = j))) H := by
  show Q (.bl (decide (V.int i = V.int j))) H = _
  simp
@[simp] theorem e_neI {i j : Int} : rNe K (.int i) (.int j) H Q = Q (.bl (!decide (i = j))) H := by
  show Q (.bl (!decide (V.int i = V.int j))) H = _
  simp
@[simp] theorem e_eqS {i j : Str} : rEq K (.str i) (.str j) H Q = Q (.bl (decide (i = j))) H := by
  show Q (.bl (decide (V.str i = V.str j))) H = _
  simp
@[simp] theorem e_neS {i j : Str} : rNe K (.str i) (.str j) H Q = Q (.bl (!decide (i = j))) H := by
  show Q (.bl (!decide (V.str i = V.str j))) H = _
  simp
theorem e_neR : rNe K (.ref a) (.ref b) H Q = rNeD K (.ref a) (.ref b) H Q := rfl
theorem e_eqR : rEq K (.ref a) (.ref b) H Q = rEqD K (.ref a) (.ref b) H Q := rfl
@[simp] theorem e_isN : rIs x .non H Q = Q (.bl (decide (x = .non))) H := rfl
@[simp] theorem e_isnN : rIsNot x .non H Q = Q (.bl (!decide (x = .non))) H := rfl
@[simp] theorem e_ix {i : Int} : rIx K (.ref p) (.int i) H Q = (match lstOf (H p) with
    | some xs => (match atI xs i with
      | some v => Q v H
      | none => False)
    | none => (match tupOf (H p) with
      | some xs => (match atI xs i with
        | some v => Q v H
        | none => False)
      | none => L2.rIx K (.ref p) (.int i) H Q)) := rfl
def kSl3 (r : V → Option Int → Option Int → Hp → VK → Prop) (x : V) (l : Option Int) (Q : VK) : Option Int → Hp → Prop := fun u H3 => r x l u H3 Q
def kSl2 (r : V → Option Int → Option Int → Hp → VK → Prop) (th : TO) (x : V) (σ : L2.St) (Q : VK) : Option Int → Hp → Prop := fun l H2 => th σ H2 (kSl3 r x l Q)
def kSl1 (r : V → Option Int → Option Int → Hp → VK → Prop) (tl th : TO) (σ : L2.St) (Q : VK) : VK := fun x H1 => tl σ H1 (kSl2 r th x σ Q)
@[simp] theorem e_sl3 {r : V → Option Int → Option Int → Hp → VK → Prop} {l u : Option Int} : kSl3 r x l Q u H = r x l u H Q := rfl
@[simp] theorem e_sl2 {r : V → Option Int → Option Int → Hp → VK → Prop} {l : Option Int} {th : TO} : kSl2 r th x σ Q l H = th σ H (kSl3 r x l Q) := rfl
@[simp] theorem e_sl1 {r : V → Option Int → Option Int → Hp → VK → Prop} {tl th : TO} : kSl1 r tl th σ Q x H = tl σ H (kSl2 r th x σ Q) := rfl
@[simp] theorem e_sl {r : V → Option Int → Option Int → Hp → VK → Prop} {tl th : TO} : tSl r te tl th σ H Q = te σ H (kSl1 r tl th σ Q) := rfl
@[simp] theorem e_rsl {lo hi : Option Int} : rSl m (.ref a) lo hi H Q = (match lstOf (H a) with
  | some xs => al m (cutV xs lo hi) H Q
  | none => False) := rfl
@[simp] theorem e_nopart : tNoPart σ H QO = QO none H := rfl
def kPrt (QO : Option Int → Hp → Prop) : VK := fun x H1 => match x with
  | .int i => QO (some i) H1
  | _ => False
@[simp] theorem e_prtK {i : Int} : kPrt QO (.int i) H = QO (some i) H := rfl
@[simp] theorem e_prt : prt te σ H QO = te σ H (kPrt QO) := rfl
def kCb (r : List V → Hp → VK → Prop) (Q : VK) : List V → Hp → Prop := fun xs H' => r xs H' Q
@[simp] theorem e_cbK {r : List V → Hp → VK → Prop} {xs : List V} : kCb r Q xs H = r xs H Q := rfl
@[simp] theorem e_cb {r : List V → Hp → VK → Prop} : tCB r ta σ H Q = ta σ H (kCb r Q) := rfl
@[simp] theorem e_nil : tNil σ H QA = QA [] H := rfl
def kC2 (x : V) (QA : List V → Hp → Prop) : List V → Hp → Prop := fun xs H2 => QA (x :: xs) H2
def kC1 (ta : TA) (σ : L2.St) (QA : List V → Hp → Prop) : VK := fun x H1 => ta σ H1 (kC2 x QA)
@[simp] theorem e_c2 {xs : List V} : kC2 x QA xs H = QA (x :: xs) H := rfl
@[simp] theorem e_c1 : kC1 ta σ QA x H = ta σ H (kC2 x QA) := rfl
@[simp] theorem e_cons : tCons te ta σ H QA = te σ H (kC1 ta σ QA) := rfl
@[simp] theorem e_len : cLen K [.ref p] H Q = (match lstOf (H p) with
    | some xs => Q (.int xs.length) H
    | none => (match tupOf (H p) with
      | some xs => Q (.int xs.length) H
      | none => ∃ ys, (SqL K H p ys ∨ SqT K H p ys) ∧ Q (.int ys.length) H)) := rfl
@[simp] theorem e_lenK : cLenK K [.ref p] H Q = ∃ xs, SqL K H p xs ∧ Q (.int xs.length) H := rfl
@[simp] theorem e_ixK {i : Int} : rIxK K (.ref p) (.int i) H Q = ∃ xs v, SqL K H p xs ∧ atI xs i = some v ∧ Q v H := rfl
@[simp] theorem e_list : cList m [.ref p] H Q = (match lstOf (H p) with
    | some xs => al m xs H Q
    | none => (match tupOf (H p) with
      | some xs => al m xs H Q
      | none => False)) := rfl
@[simp] theorem e_min {i j : Int} : cMin [.int i, .int j] H Q = Q (.int (min i j)) H := rfl
@[simp] theorem e_max {i j : Int} : cMax [.int i, .int j] H Q = Q (.int (max i j)) H := rfl
def kLst (m : Bool) (Q : VK) : List V → Hp → Prop := fun xs H1 => xs.length ≤ sizeLine ∧ al m xs H1 Q
@[simp] theorem e_lstK {xs : List V} : kLst m Q xs H = (xs.length ≤ sizeLine ∧ al m xs H Q) := rfl
@[simp] theorem e_lst : lst m ta σ H Q = ta σ H (kLst m Q) := rfl
/-- a new tuple -/
def alT (xs : List V) (H : Hp) (Q : VK) : Prop := ∀ p, H p = none → Q (.ref p) (upd H p (.tup xs))
def kTup (Q : VK) : List V → Hp → Prop := fun xs H1 => xs.length ≤ sizeLine ∧ ∀ p, H1 p = none → Q (.ref p) (upd H1 p (.tup xs))
@[simp] theorem e_tupK {xs : List V} : kTup Q xs H = (xs.length ≤ sizeLine ∧ alT xs H Q) := rfl
@[simp] theorem e_tup : tTup ta σ H Q = ta σ H (kTup Q) := rfl
theorem e_alF {ys : List V} : al false ys H Q = ∀ p, H p = none → Q (.ref p) (upd H p (.lst ys)) := propext ⟨fun h p hp => h p _ hp rfl, fun h p u hp e => by cases e; exact h p hp⟩
theorem e_alT {ys : List V} : al true ys H Q = ∀ p o, H p = none → Q (.ref p) (upd H p (.frz o (.lst ys))) := propext ⟨fun h p o hp => h p _ hp ⟨o, rfl⟩, fun h p u hp ⟨o, e⟩ => by subst e; exact h p o hp⟩
@[simp] theorem e_lkEF : lkE false te σ H Q = te σ H Q := rfl
@[simp] theorem e_lkET : lkE true te σ H Q = te σ H (lk true Q) := rfl
@[simp] theorem e_lkF : lk false Q v H = Q v H := rfl
@[simp] theorem e_lkN : lk true Q .non H = Q .non H := rfl
@[simp] theorem e_lkB {b : Bool} : lk true Q (.bl b) H = Q (.bl b) H := rfl
@[simp] theorem e_lkI {i : Int} : lk true Q (.int i) H = Q (.int i) H := rfl
@[simp] theorem e_lkS {i : Str} : lk true Q (.str i) H = Q (.str i) H := rfl
theorem e_lkR : lk true Q (.ref a) H = (match H a with
      | some (.lst xs) => ∀ o, Q (.ref a) (upd H a (.frz o (.lst xs)))
      | _ => Q (.ref a) H) := rfl
def kM2 (r : V → List V → Hp → VK → Prop) (x : V) (Q : VK) : List V → Hp → Prop := fun vs H2 => r x vs H2 Q
def kM1 (r : V → List V → Hp → VK → Prop) (ta : TA) (σ : L2.St) (Q : VK) : VK := fun x H1 => match x with
  | .ref p => (match lstOf (H1 p) with
    | some _ => ta σ H1 (kM2 r (.ref p) Q)
    | none => False)
  | _ => False
@[simp] theorem e_m2 {r : V → List V → Hp → VK → Prop} {vs : List V} : kM2 r x Q vs H = r x vs H Q := rfl
@[simp] theorem e_m1 {r : V → List V → Hp → VK → Prop} : kM1 r ta σ Q (.ref p) H = (match lstOf (H p) with
    | some _ => ta σ H (kM2 r (.ref p) Q)
    | none => False) := rfl
@[simp] theorem e_mtd {r : V → List V → Hp → VK → Prop} : mtd r to ta σ H Q = to σ H (kM1 r ta σ Q) := by
  refine congrArg (to σ H) (funext fun x => funext fun H1 => ?_)
  cases x <;> rfl
@[simp] theorem e_app : mAppend (.ref p) [y] H Q = (match H p with
    | some (.lst xs) => xs.length < sizeLine ∧ Q .non (upd H p (.lst (xs ++ [y])))
    | _ => False) := rfl
def kG3 (σ : L2.St) (QS : L2.St → Hp → Prop) : Hp → Prop := fun H3 => QS σ H3
def kG2 (s : TSet) (o v : V) (σ : L2.St) (QS : L2.St → Hp → Prop) : VK := fun i H2 => s o i v H2 (kG3 σ QS)
def kG1 (s : TSet) (ti : TE) (v : V) (σ : L2.St) (QS : L2.St → Hp → Prop) : VK := fun o H1 => ti σ H1 (kG2 s o v σ QS)
@[simp] theorem e_g3 : kG3 σ QS H = QS σ H := rfl
@[simp] theorem e_g2 {s : TSet} : kG2 s y v σ QS x H = s y x v H (kG3 σ QS) := rfl
@[simp] theorem e_g1 {s : TSet} : kG1 s ti v σ QS x H = ti σ H (kG2 s x v σ QS) := rfl
@[simp] theorem e_gsub {s : TSet} : gSub to ti s v σ H QS = to σ H (kG1 s ti v σ QS) := rfl
@[simp] theorem e_sitem {k : Int} {QH : Hp → Prop} : sItem (.ref p) (.int k) v H QH = (match H p with
    | some (.lst xs) => (match ixN xs.length k with
      | some j => QH (upd H p (.lst (xs.set j v)))
      | none => False)
    | _ => False) := rfl
def kW (W : WX) (σ : L2.St) : XK := fun c d H' => W c d σ H'
@[simp] theorem e_kW {cl : Value} {dd : Option Addr} : kW W σ cl dd H = W cl dd σ H := rfl
def kF2 (Γ : Gam) (W : WX) (nm : Str) (names : List Str) (vs : List V) (σ : L2.St) (Q : VK) : List V → Hp → Prop := fun zs H2 => zs.length = names.length ∧ Γ.fn nm vs (names.zip zs) H2 Q (kW W σ)
def kF1 (Γ : Gam) (W : WX) (nm : Str) (names : List Str) (tk : TA) (σ : L2.St) (Q : VK) : List V → Hp → Prop := fun vs H1 => tk σ H1 (kF2 Γ W nm names vs σ Q)
@[simp] theorem e_f2 {names : List Str} {vs zs : List V} : kF2 Γ W nm names vs σ Q zs H = (zs.length = names.length ∧ Γ.fn nm vs (names.zip zs) H Q (kW W σ)) := rfl
@[simp] theorem e_f1 {names : List Str} {vs : List V} : kF1 Γ W nm names tk σ Q vs H = tk σ H (kF2 Γ W nm names vs σ Q) := rfl
@[simp] theorem e_cfn {names : List Str} : cfn Γ W nm ta names tk σ H Q = (Γ.df nm ∧ ta σ H (kF1 Γ W nm names tk σ Q)) := rfl
def kMt3 (Γ : Gam) (W : WX) (C : Addr) (nm : Str) (names : List Str) (vs : List V) (σ : L2.St) (Q : VK) : List V → Hp → Prop := fun zs H3 => zs.length = names.length ∧ Γ.mt C nm vs (names.zip zs) H3 Q (kW W σ)
def kMt2 (Γ : Gam) (W : WX) (C : Addr) (nm : Str) (names : List Str) (tk : TA) (x : V) (σ : L2.St) (Q : VK) : List V → Hp → Prop := fun vs H2 => tk σ H2 (kMt3 Γ W C nm names (x :: vs) σ Q)
def kMt1 (Γ : Gam) (W : WX) (nm : Str) (ta : TA) (names : List Str) (tk : TA) (σ : L2.St) (Q : VK) : VK := fun x H1 => match x with
  | .ref a => (match H1 a with
    | some (.ins C _ fs) => (Γ.mf C nm ∧ fs.lookup nm = none) ∧ ta σ H1 (kMt2 Γ W C nm names tk x σ Q)
    | _ => False)
  | _ => False
@[simp] theorem e_mt3 {C : Addr} {names : List Str} {vs zs : List V} : kMt3 Γ W C nm names vs σ Q zs H = (zs.length = names.length ∧ Γ.mt C nm vs (names.zip zs) H Q (kW W σ)) := rfl
@[simp] theorem e_mt2 {C : Addr} {names : List Str} {vs : List V} : kMt2 Γ W C nm names tk x σ Q vs H = tk σ H (kMt3 Γ W C nm names (x :: vs) σ Q) := rfl
@[simp] theorem e_mt1 {names : List Str} : kMt1 Γ W nm ta names tk σ Q (.ref a) H = (match H a with
    | some (.ins C _ fs) => (Γ.mf C nm ∧ fs.lookup nm = none) ∧ ta σ H (kMt2 Γ W C nm names tk (.ref a) σ Q)
    | _ => False) := rfl
@[simp] theorem e_cmt {names : List Str} : cmt Γ W to nm ta names tk σ H Q = to σ H (kMt1 Γ W nm ta names tk σ Q) := by
  refine congrArg (to σ H) (funext fun x => funext fun H1 => ?_)
  cases x with
  | ref a => rfl
  | _ => rfl
def kFld (Γ : Gam) (f : Str) (Q : VK) : VK := fun x H1 => match x with
  | .ref a => (match H1 a with
    | some (.ins C _ fs) => (match fs.lookup f with
      | some v => Γ.fl C f ∧ Q v H1
      | none => False)
    | _ => False)
  | _ => False
@[simp] theorem e_fldK {f : Str} : kFld Γ f Q (.ref a) H = (match H a with
    | some (.ins C _ fs) => (match fs.lookup f with
      | some v => Γ.fl C f ∧ Q v H
      | none => False)
    | _ => False) := rfl
@[simp] theorem e_fld {f : Str} : fld Γ te f σ H Q = te σ H (kFld Γ f Q) := rfl
def kSf2 (Γ : Gam) (f : Str) (D : Ends) (y : V) (σ : L2.St) : VK := fun x H2 => match x with
  | .ref a => (match H2 a with
    | some (.ins C dx fs) => (Γ.fl C f ∧ fs.length < 1000) ∧ D.nx σ (upd H2 a (.ins C dx (putF f y fs)))
    | _ => False)
  | _ => False
def kSf1 (Γ : Gam) (to : TE) (f : Str) (D : Ends) (σ : L2.St) : VK := fun y H1 => to σ H1 (kSf2 Γ f D y σ)
@[simp] theorem e_sf2 {f : Str} : kSf2 Γ f D y σ (.ref a) H = (match H a with
    | some (.ins C dx fs) => (Γ.fl C f ∧ fs.length < 1000) ∧ D.nx σ (upd H a (.ins C dx (putF f y fs)))
    | _ => False) := rfl
@[simp] theorem e_sf1 {f : Str} : kSf1 Γ to f D σ y H = to σ H (kSf2 Γ f D y σ) := rfl
@[simp] theorem e_sfld {f : Str} : sfld Γ to te f D σ H = te σ H (kSf1 Γ to f D σ) := rfl
def kLc2 (i : Nat) (σ : L2.St) (N : L2.St → Hp → Prop) : VK := fun v2 H2 => N (σ.set i (some v2)) H2
def kLc1 (m : Bool) (i : Nat) (σ : L2.St) (N : L2.St → Hp → Prop) : VK := fun v H1 => lk m (kLc2 i σ N) v H1
@[simp] theorem e_lc2 {N : L2.St → Hp → Prop} : kLc2 i σ N x H = N (σ.set i (some x)) H := rfl
@[simp] theorem e_lc1 {N : L2.St → Hp → Prop} : kLc1 m i σ N x H = lk m (kLc2 i σ N) x H := rfl
@[simp] theorem e_asgLc : asgLc m te i D σ H = te σ H (kLc1 m i σ D.nx) := rfl
def kR1 (R : It → Hp → Prop) : VK := fun x H1 => match x with
  | .int j => (-(2 ^ 62) ≤ j ∧ j < 2 ^ 62) ∧ R (Itr 0 j.toNat) H1
  | _ => False
@[simp] theorem e_r1 {R : It → Hp → Prop} {j : Int} : kR1 R (.int j) H = ((-4611686018427387904 ≤ j ∧ j < 4611686018427387904) ∧ R (Itr 0 j.toNat) H) := rfl
@[simp] theorem e_ran1 {R : It → Hp → Prop} : iRange1 te σ H R = te σ H (kR1 R) := rfl
def kR3 (R : It → Hp → Prop) (x : V) : VK := fun y H2 => match x, y with
  | .int i, .int j => (-(2 ^ 62) ≤ i ∧ i < 2 ^ 62 ∧ -(2 ^ 62) ≤ j ∧ j < 2 ^ 62) ∧ R (Itr i (j - i).toNat) H2
  | _, _ => False
def kR2 (R : It → Hp → Prop) (tf : TE) (σ : L2.St) : VK := fun x H1 => tf σ H1 (kR3 R x)
@[simp] theorem e_r3 {R : It → Hp → Prop} {i j : Int} : kR3 R (.int i) (.int j) H = ((-4611686018427387904 ≤ i ∧ i < 4611686018427387904 ∧ -4611686018427387904 ≤ j ∧ j < 4611686018427387904) ∧ R (Itr i (j - i).toNat) H) := rfl
@[simp] theorem e_r2 {R : It → Hp → Prop} : kR2 R tf σ x H = tf σ H (kR3 R x) := rfl
@[simp] theorem e_ran2 {R : It → Hp → Prop} : iRange2 te tf σ H R = te σ H (kR2 R tf σ) := rfl
def kSq (K : PySem.W.Frag) (R : It → Hp → Prop) : VK := fun x H1 => match x with
  | .ref a => (match lstOf (H1 a) with
    | some _ => R (Itl K a) H1
    | none => False)
  | _ => False
@[simp] theorem e_sq {R : It → Hp → Prop} : kSq K R (.ref a) H = (match lstOf (H a) with
    | some _ => R (Itl K a) H
    | none => False) := rfl
@[simp] theorem e_iseq {R : It → Hp → Prop} : iSeq K te σ H R = te σ H (kSq K R) := rfl
def kSqK (K : PySem.W.Frag) (R : It → Hp → Prop) : VK := fun x H1 => match x with
  | .ref a => (∃ xs, SqL K H1 a xs) ∧ R (Itl K a) H1
  | _ => False
@[simp] theorem e_sqK {R : It → Hp → Prop} : kSqK K R (.ref a) H = ((∃ xs, SqL K H a xs) ∧ R (Itl K a) H) := rfl
@[simp] theorem e_iseqK {R : It → Hp → Prop} : iSeqK K te σ H R = te σ H (kSqK K R) := rfl
def kFor (g : TG) (tb : TS) (D : Ends) (σ : L2.St) : It → Hp → Prop := fun J H1 => Lp J g tb D σ H1
@[simp] theorem e_forK {J : It} : kFor g t D σ J H = Lp J g t D σ H := rfl
@[simp] theorem e_for {wi : TI} : tFor wi g t D σ H = wi σ H (kFor g t D σ) := rfl
def kLc (g : TG) (tt : TT) (te : TE) (vs : List Nat) (σ : L2.St) (Q : VK) : It → Hp → Prop := fun J H1 => ∀ D, H1 D = none → Lc J g tt te vs σ D (Q (.ref D)) H1
@[simp] theorem e_lcK {J : It} {vs : List Nat} : kLc g c te vs σ Q J H = ∀ D, H D = none → Lc J g c te vs σ D (Q (.ref D)) H := rfl
@[simp] theorem e_lc {wi : TI} {vs : List Nat} : tLc wi g c te vs σ H Q = wi σ H (kLc g c te vs σ Q) := rfl
end
@[simp] theorem lstOf_l {xs : List V} : lstOf (some (.lst xs)) = some xs := rfl
@[simp] theorem lstOf_f {o : Obj} {xs : List V} : lstOf (some (.frz o (.lst xs))) = some xs := rfl
@[simp] theorem lstOf_t {xs : List V} : lstOf (some (.tup xs)) = none := rfl
@[simp] theorem tupOf_t {xs : List V} : tupOf (some (.tup xs)) = some xs := rfl
@[simp] theorem upd_self {H : Hp} {p : Addr} {u : HO} : upd H p u p = some u := upd_same
@[simp] theorem upd_old {H : Hp} {p a : Addr} {u : HO} (hp : H p = none) (ha : H a ≠ none) : upd H p u a = H a := upd_ne fun e => ha (e ▸ hp)
theorem lst_ne {H : Hp} {a : Addr} {xs : List V} (h : lstOf (H a) = some xs) : H a ≠ none := fun e => by rw [e] at h; cases h
/-- what a call leaves: all but the objects of S -/
def Frm (S : List Addr) (H H' : Hp) : Prop := ∀ b, b ∉ S → H b ≠ none → H' b = H b
theorem Frm.refl {S : List Addr} {H : Hp} : Frm S H H := fun _ _ _ => rfl
theorem Frm.trans {S T : List Addr} {A B C : Hp} (h : Frm S A B) (k : Frm T B C) (i : ∀ b ∈ T, b ∈ S ∨ A b = none) : Frm S A C := fun b hb ha => by
  have e := h b hb ha
  refine (k b (fun z => ?_) (by rw [e]; exact ha)).trans e
  rcases i b z with y | y
  · exact hb y
  · exact ha y
theorem Frm.new {S : List Addr} {A B : Hp} {p : Addr} {u : HO} (h : Frm S A B) (hp : B p = none) : Frm S A (upd B p u) := fun b hb ha => by
  have e := h b hb ha
  rw [upd_ne, e]
  intro z
  subst z
  rw [hp] at e
  exact ha e.symm
theorem Frm.put {S : List Addr} {A B : Hp} {p : Addr} {u : HO} (h : Frm S A B) (hp : p ∈ S ∨ A p = none) : Frm S A (upd B p u) := fun b hb ha => by
  rw [upd_ne, h b hb ha]
  intro z
  subst z
  rcases hp with y | y
  · exact hb y
  · exact ha y
theorem Frm.sq {S : List Addr} {A B : Hp} {K : PySem.W.Frag} {a : Addr} {xs : List V} (h : Frm S A B) (ha : a ∉ S) (q : SqL K A a xs) : SqL K B a xs := by
  rcases q with (q | ⟨o, q⟩) | q
  · exact .inl (.inl (by rw [h a ha (by rw [q]; simp)]; exact q))
  · exact .inl (.inr ⟨o, by rw [h a ha (by rw [q]; simp)]; exact q⟩)
  · exact .inr q
theorem Frm.ls {S : List Addr} {A B : Hp} {a : Addr} {xs : List V} (h : Frm S A B) (ha : a ∉ S) (q : lstOf (A a) = some xs) : lstOf (B a) = some xs := by
  rw [h a ha (lst_ne q)]; exact q
/-- a new list, locked: what is told of it -/
theorem al_t {ys : List V} {H : Hp} {Q : VK} (h : ∀ p H', H p = none → Frm [] H H' → H' p ≠ none → lstOf (H' p) = some ys → Q (.ref p) H') : al true ys H Q := fun p u hp ⟨o, e⟩ => by
  subst e
  exact h p _ hp (Frm.refl.new hp) (by rw [upd_same]; simp) (by rw [upd_same]; rfl)
/-- a new list that may be changed -/
theorem al_f {ys : List V} {H : Hp} {Q : VK} (h : ∀ p H', H p = none → Frm [] H H' → H' p = some (.lst ys) → Q (.ref p) H') : al false ys H Q := fun p u hp e => by
  cases e
  exact h p _ hp (Frm.refl.new hp) upd_same
theorem al_tup {xs : List V} {H : Hp} {Q : VK} (h : ∀ p H', H p = none → Frm [] H H' → H' p = some (.tup xs) → Q (.ref p) H') : alT xs H Q := fun p hp => h p _ hp (Frm.refl.new hp) upd_same
end G

set_option maxHeartbeats 0
namespace Hd
open PySem PySem.Spec PyProof.Rows L2
def top (i : Nat) : Stmt := PySem.Challenge.pw_sipstack_k86_records_of_any_row.main.body.getD i (.Pass ⟨0, 0, 0, 0⟩)
end Hd
namespace G
open PySem PySem.Spec PyProof.Rows L2
def N_records_of : List Str := ["row", "found", "at", "many"]
def D_records_of : Df := { N := N_records_of, m := false, mu := [], cls := [], kl := [] }
def t_records_of (Γ : Gam) (W : WX) : TS :=
  (tSeq (tAsg (lst false tNil) (gName 1))
  (tSeq (tAsg (cv (.int 0)) (gName 2))
  (tSeq (tWhile (tb (tOp rLt (vr 2) (tCB (cLen Γ.K) (tCons (vr 0) tNil))))
    (tSeq (tAsg (tOp (rIx Γ.K) (vr 0) (vr 2)) (gName 3))
    (tSeq (tIfS (tOr (tb (tOp rLt (vr 3) (cv (.int 1)))) (tOr (tb (tOp rGt (vr 3) (tOp (rAdd false) (gv Γ ("MOST_BYTES" : Str)) (cv (.int 1))))) (tb (tOp rGt (tOp (rAdd false) (vr 2) (vr 3)) (tCB (cLen Γ.K) (tCons (vr 0) tNil))))))
      (tRet (lkE false (tTup (tCons (vr 1) (tCons (vr 2) tNil)))))
      tNext)
    (tSeq (tDrop (mtd mAppend (vr 1) (tCons (tSl (rSl false) (vr 0) (prt (tOp (rAdd false) (vr 2) (cv (.int 1)))) (prt (tOp (rAdd false) (vr 2) (vr 3)))) tNil)))
    ((tAsg (tOp (rAdd false) (vr 2) (vr 3)) (gName 2)))))))
  ((tRet (lkE false (tTup (tCons (vr 1) (tCons (cv .non) tNil)))))))))
theorem r_records_of (Γ : Gam) (W : WX) : bodyR Γ D_records_of 40 (defScope (Hd.top 2)) W (defBody (Hd.top 2)) = t_records_of Γ W := by kernel_rfl
theorem sc_records_of : FnScope D_records_of.N ["row"] (defScope (Hd.top 2)) := ⟨rfl, rfl, rfl, by decide +kernel, rfl, by decide +kernel, by decide +kernel⟩
def N__law_pool : List Str := ["_law_script", "_law_at", "_law_cell", "_law_digits"]
def D__law_pool : Df := { N := N__law_pool, m := true, mu := ["return"], cls := [], kl := ["_law_script"] }
def t__law_pool (Γ : Gam) (W : WX) : TS :=
  (tSeq (tAsg (cv (.int 0)) (gName 2))
  (tSeq (tIfS (tb (tOp rGt (tCB (cLenK Γ.K) (tCons (vr 0) tNil)) (cv (.int 0))))
    (tAsg (tOp (rIxK Γ.K) (vr 0) (tOp rMod (vr 1) (tCB (cLenK Γ.K) (tCons (vr 0) tNil)))) (gName 2))
    tNext)
  (tSeq (tAsg (cv (.int 0)) (gName 3))
  (tSeq (tIfS (tAnd (tb (tOp rGe (vr 2) (tOp rPow (cv (.int 10)) (cv (.int 18))))) (tb (tOp rLt (vr 1) (tCB (cLenK Γ.K) (tCons (vr 0) tNil)))))
    (tAsg (vr 2) (gName 3))
    tNext)
  ((tRet (lkE false (lst false (tCons (vr 3) (tCons (tOp (rMul true) (cv (.int 1000)) (vr 1)) (tCons (vr 2) tNil)))))))))))
theorem r__law_pool (Γ : Gam) (W : WX) : bodyR Γ D__law_pool 40 (defScope (Hd.top 4)) W (defBody (Hd.top 4)) = t__law_pool Γ W := by kernel_rfl
theorem sc__law_pool : FnScope D__law_pool.N ["_law_script", "_law_at"] (defScope (Hd.top 4)) := ⟨rfl, rfl, rfl, by decide +kernel, rfl, by decide +kernel, by decide +kernel⟩
def N__law_take : List Str := ["_law_pool_here", "_law_wide", "_law_found", "_law_seed"]
def D__law_take : Df := { N := N__law_take, m := true, mu := [], cls := [], kl := [] }
def t__law_take (Γ : Gam) (W : WX) : TS :=
  (tSeq (tIfS (tb (tOp rGt (tOp (rIx Γ.K) (vr 0) (cv (.int 0))) (cv (.int 0))))
    (tSeq (tAsg (tOp rMod (tOp (rIx Γ.K) (vr 0) (cv (.int 0))) (vr 1)) (gName 2))
    (tSeq (tAsg (tOp rDiv (tOp (rIx Γ.K) (vr 0) (cv (.int 0))) (vr 1)) (gSub (vr 0) (cv (.int 0)) sItem))
    ((tRet (lkE true (vr 2))))))
    tNext)
  (tSeq (tAsg (tOp (rAdd true) (tOp (rIx Γ.K) (vr 0) (cv (.int 1))) (cv (.int 1))) (gSub (vr 0) (cv (.int 1)) sItem))
  (tSeq (tAsg (tOp rMod (tOp rPow (tOp (rAdd true) (tOp rMod (tOp (rIx Γ.K) (vr 0) (cv (.int 2))) (cv (.int 2147483647))) (tOp (rMul true) (cv (.int 40503)) (tOp (rIx Γ.K) (vr 0) (cv (.int 1))))) (cv (.int 5))) (cv (.int 2147483647))) (gName 3))
  (tSeq (tAsg (tOp (rAdd true) (tOp (rMul true) (vr 3) (cv (.int 48271))) (tOp (rMul true) (tOp (rMul true) (tOp (rIx Γ.K) (vr 0) (cv (.int 1))) (tOp (rIx Γ.K) (vr 0) (cv (.int 1)))) (cv (.int 39373)))) (gName 3))
  ((tRet (lkE true (tOp rMod (tOp rDiv (tOp rMod (tOp (rAdd true) (vr 3) (tOp rDiv (tOp (rIx Γ.K) (vr 0) (cv (.int 2))) (cv (.int 2147483647)))) (cv (.int 1000000007))) (cv (.int 16))) (vr 1)))))))))
theorem r__law_take (Γ : Gam) (W : WX) : bodyR Γ D__law_take 40 (defScope (Hd.top 5)) W (defBody (Hd.top 5)) = t__law_take Γ W := by kernel_rfl
theorem sc__law_take : FnScope D__law_take.N ["_law_pool_here", "_law_wide"] (defScope (Hd.top 5)) := ⟨rfl, rfl, rfl, by decide +kernel, rfl, by decide +kernel, by decide +kernel⟩
def N__law_entry : List Str := ["_law_pool_here", "_law_most", "_law_many", "_law_found", "_law_k"]
def D__law_entry : Df := { N := N__law_entry, m := true, mu := ["_law_found"], cls := [], kl := [] }
def t__law_entry (Γ : Gam) (W : WX) : TS :=
  (tSeq (tAsg (tCB cMin (tCons (vr 1) (tCons (tOp (rIx Γ.K) (lst true (tCons (cv (.int 0)) (tCons (cv (.int 1)) (tCons (cv (.int 2)) (tCons (cv (.int 3)) (tCons (cv (.int 5)) (tCons (cv (.int 9)) (tCons (cv (.int 17)) (tCons (cv (.int 40)) (tCons (cv (.int 60)) (tCons (cv (.int 200)) tNil))))))))))) (cfn Γ W ("_law_take" : Str) (tCons (vr 0) (tCons (cv (.int 10)) tNil)) [] tNil)) tNil))) (gName 2))
  (tSeq (tAsg (lst false tNil) (gName 3))
  (tSeq (tFor (iRange1 (vr 2)) (gName 4)
    (tIfS (tb (tOp (rEq Γ.K) (cfn Γ W ("_law_take" : Str) (tCons (vr 0) (tCons (cv (.int 4)) tNil)) [] tNil) (cv (.int 0))))
      (tDrop (mtd mAppend (vr 3) (tCons (tOp (rIx Γ.K) (lst true (tCons (cv (.int 0)) (tCons (cv (.int 1)) (tCons (cv (.int 201)) (tCons (cv (.int 255)) tNil))))) (cfn Γ W ("_law_take" : Str) (tCons (vr 0) (tCons (cv (.int 4)) tNil)) [] tNil)) tNil)))
      (tDrop (mtd mAppend (vr 3) (tCons (cfn Γ W ("_law_take" : Str) (tCons (vr 0) (tCons (cv (.int 256)) tNil)) [] tNil) tNil)))))
  ((tRet (lkE true (vr 3)))))))
theorem r__law_entry (Γ : Gam) (W : WX) : bodyR Γ D__law_entry 40 (defScope (Hd.top 6)) W (defBody (Hd.top 6)) = t__law_entry Γ W := by kernel_rfl
theorem sc__law_entry : FnScope D__law_entry.N ["_law_pool_here", "_law_most"] (defScope (Hd.top 6)) := ⟨rfl, rfl, rfl, by decide +kernel, rfl, by decide +kernel, by decide +kernel⟩
def N__law_frames : List Str := ["_law_entries", "_law_found", "_law_entry_here"]
def D__law_frames : Df := { N := N__law_frames, m := true, mu := [], cls := [], kl := [] }
def t__law_frames (Γ : Gam) (W : WX) : TS :=
  (tSeq (tAsg (lst true tNil) (gName 1))
  (tSeq (tFor (iSeq Γ.K (vr 0)) (gName 2)
    (tAsg (tOp (rAdd true) (tOp (rAdd true) (vr 1) (lst true (tCons (tOp (rAdd true) (tCB (cLen Γ.K) (tCons (vr 2) tNil)) (cv (.int 1))) tNil))) (vr 2)) (gName 1)))
  ((tRet (lkE true (vr 1))))))
theorem r__law_frames (Γ : Gam) (W : WX) : bodyR Γ D__law_frames 40 (defScope (Hd.top 7)) W (defBody (Hd.top 7)) = t__law_frames Γ W := by kernel_rfl
theorem sc__law_frames : FnScope D__law_frames.N ["_law_entries"] (defScope (Hd.top 7)) := ⟨rfl, rfl, rfl, by decide +kernel, rfl, by decide +kernel, by decide +kernel⟩
def N__law_row : List Str := ["_law_pool_here", "_law_way", "_law_row_here", "_law_k", "_law_at", "_law_byte", "_law_j"]
def D__law_row : Df := { N := N__law_row, m := true, mu := [], cls := [], kl := [] }
def t__law_row (Γ : Gam) (W : WX) : TS :=
  (tSeq (tAsg (cfn Γ W ("_law_take" : Str) (tCons (vr 0) (tCons (cv (.int 7)) tNil)) [] tNil) (gName 1))
  (tSeq (tAsg (lst true tNil) (gName 2))
  (tSeq (tFor (iRange1 (cfn Γ W ("_law_take" : Str) (tCons (vr 0) (tCons (cv (.int 9)) tNil)) [] tNil)) (gName 3)
    (tAsg (tOp (rAdd true) (vr 2) (tSl (rSl true) (cfn Γ W ("_law_frames" : Str) (tCons (lst true (tCons (cfn Γ W ("_law_entry" : Str) (tCons (vr 0) (tCons (tOp rSub (cv (.int 399)) (tCB (cLen Γ.K) (tCons (vr 2) tNil))) tNil)) [] tNil) tNil)) tNil) [] tNil) tNoPart (prt (tOp rSub (cv (.int 400)) (tCB (cLen Γ.K) (tCons (vr 2) tNil)))))) (gName 2)))
  (tSeq (tAsg (cfn Γ W ("_law_take" : Str) (tCons (vr 0) (tCons (tOp (rAdd true) (tCB (cLen Γ.K) (tCons (vr 2) tNil)) (cv (.int 1))) tNil)) [] tNil) (gName 4))
  (tSeq (tAsg (tOp (rIx Γ.K) (lst true (tCons (cv (.int 0)) (tCons (cv (.int 202)) (tCons (cv (.int 255)) (tCons (cv (.int 1)) (tCons (cv (.int 201)) (tCons (cfn Γ W ("_law_take" : Str) (tCons (vr 0) (tCons (cv (.int 256)) tNil)) [] tNil) tNil))))))) (cfn Γ W ("_law_take" : Str) (tCons (vr 0) (tCons (cv (.int 6)) tNil)) [] tNil)) (gName 5))
  (tSeq (tIfS (tb (tOp (rEq Γ.K) (vr 1) (cv (.int 1))))
    (tRet (lkE true (tSl (rSl true) (vr 2) tNoPart (prt (vr 4)))))
    tNext)
  (tSeq (tIfS (tAnd (tb (tOp (rEq Γ.K) (vr 1) (cv (.int 2)))) (tb (tOp rLt (vr 4) (tCB (cLen Γ.K) (tCons (vr 2) tNil)))))
    (tRet (lkE true (tOp (rAdd true) (tOp (rAdd true) (tSl (rSl true) (vr 2) tNoPart (prt (vr 4))) (lst true (tCons (vr 5) tNil))) (tSl (rSl true) (vr 2) (prt (tOp (rAdd true) (vr 4) (cv (.int 1)))) tNoPart))))
    tNext)
  (tSeq (tIfS (tb (tOp (rEq Γ.K) (vr 1) (cv (.int 3))))
    (tRet (lkE true (tSl (rSl true) (tOp (rAdd true) (tOp (rAdd true) (vr 2) (lst true (tCons (vr 5) tNil))) (cfn Γ W ("_law_entry" : Str) (tCons (vr 0) (tCons (cv (.int 60)) tNil)) [] tNil)) tNoPart (prt (cv (.int 400))))))
    tNext)
  (tSeq (tIfS (tb (tOp (rEq Γ.K) (vr 1) (cv (.int 4))))
    (tRet (lkE true (lkE true (tLc (iRange1 (cfn Γ W ("_law_take" : Str) (tCons (vr 0) (tCons (cv (.int 40)) tNil)) [] tNil)) (gName 3) tYes (cfn Γ W0 ("_law_take" : Str) (tCons (vr 0) (tCons (cv (.int 7)) tNil)) [] tNil) [3]))))
    tNext)
  (tSeq (tIfS (tb (tOp (rEq Γ.K) (vr 1) (cv (.int 5))))
    (tRet (lkE true (cfn Γ W ("_law_entry" : Str) (tCons (vr 0) (tCons (cv (.int 200)) tNil)) [] tNil)))
    tNext)
  (tSeq (tIfS (tb (tOp (rEq Γ.K) (vr 1) (cv (.int 6))))
    (tRet (lkE true (tOp (rAdd true) (lst true (tCons (tOp (rAdd true) (cv (.int 198)) (cfn Γ W ("_law_take" : Str) (tCons (vr 0) (tCons (cv (.int 58)) tNil)) [] tNil)) tNil)) (lkE true (tLc (iRange1 (tOp (rAdd true) (cv (.int 197)) (cfn Γ W ("_law_take" : Str) (tCons (vr 0) (tCons (cv (.int 60)) tNil)) [] tNil))) (gName 6) tYes (tOp (rAdd true) (cv (.int 1)) (cfn Γ W0 ("_law_take" : Str) (tCons (vr 0) (tCons (cv (.int 9)) tNil)) [] tNil)) [6])))))
    tNext)
  ((tRet (lkE true (vr 2)))))))))))))))
theorem r__law_row (Γ : Gam) (W : WX) : bodyR Γ D__law_row 40 (defScope (Hd.top 8)) W (defBody (Hd.top 8)) = t__law_row Γ W := by kernel_rfl
theorem sc__law_row : FnScope D__law_row.N ["_law_pool_here"] (defScope (Hd.top 8)) := ⟨rfl, rfl, rfl, by decide +kernel, rfl, by decide +kernel, by decide +kernel⟩
def N__law_due : List Str := ["_law_row_here", "_law_found", "_law_at"]
def D__law_due : Df := { N := N__law_due, m := true, mu := ["_law_found"], cls := [], kl := [] }
def t__law_due (Γ : Gam) (W : WX) : TS :=
  (tSeq (tAsg (lst false tNil) (gName 1))
  (tSeq (tAsg (cv (.int 0)) (gName 2))
  (tSeq (tWhile (tb (tOp rLt (vr 2) (tCB (cLen Γ.K) (tCons (vr 0) tNil))))
    (tSeq (tIfS (tOr (tb (tOp rLt (tOp (rIx Γ.K) (vr 0) (vr 2)) (cv (.int 1)))) (tOr (tb (tOp rGt (tOp (rIx Γ.K) (vr 0) (vr 2)) (cv (.int 201)))) (tb (tOp rGt (tOp (rAdd true) (vr 2) (tOp (rIx Γ.K) (vr 0) (vr 2))) (tCB (cLen Γ.K) (tCons (vr 0) tNil))))))
      (tRet (lkE true (tTup (tCons (vr 1) (tCons (vr 2) tNil)))))
      tNext)
    (tSeq (tDrop (mtd mAppend (vr 1) (tCons (tSl (rSl true) (vr 0) (prt (tOp (rAdd true) (vr 2) (cv (.int 1)))) (prt (tOp (rAdd true) (vr 2) (tOp (rIx Γ.K) (vr 0) (vr 2))))) tNil)))
    ((tAsg (tOp (rAdd true) (vr 2) (tOp (rIx Γ.K) (vr 0) (vr 2))) (gName 2))))))
  ((tRet (lkE true (tTup (tCons (vr 1) (tCons (cv .non) tNil)))))))))
theorem r__law_due (Γ : Gam) (W : WX) : bodyR Γ D__law_due 40 (defScope (Hd.top 9)) W (defBody (Hd.top 9)) = t__law_due Γ W := by kernel_rfl
theorem sc__law_due : FnScope D__law_due.N ["_law_row_here"] (defScope (Hd.top 9)) := ⟨rfl, rfl, rfl, by decide +kernel, rfl, by decide +kernel, by decide +kernel⟩
def N__law_asked : List Str := ["_law_row_here", "_law_due_here", "_law_handed", "_law_found", "_law_entry_here"]
def D__law_asked : Df := { N := N__law_asked, m := true, mu := ["_law_handed"], cls := [], kl := [] }
def t__law_asked (Γ : Gam) (W : WX) : TS :=
  (tSeq (tAsg (cfn Γ W ("_law_due" : Str) (tCons (vr 0) tNil) [] tNil) (gName 1))
  (tSeq (tAsg (tCB (cList false) (tCons (vr 0) tNil)) (gName 2))
  (tSeq (tAsg (cfn Γ W ("records_of" : Str) (tCons (vr 2) tNil) [] tNil) (gName 3))
  (tSeq (tIfS (tOr (tb (tOp (rNe Γ.K) (tCB (cRepr Γ.K) (tCons (vr 3) tNil)) (tCB (cRepr Γ.K) (tCons (vr 1) tNil)))) (tb (tOp (rNe Γ.K) (vr 2) (vr 0))))
    (tRet (lkE true (cv (.bl false))))
    tNext)
  (tSeq (tFor (iSeq Γ.K (tOp (rIx Γ.K) (vr 3) (cv (.int 0)))) (gName 4)
    (tDrop (mtd mAppend (vr 4) (tCons (cv (.int 3)) tNil))))
  (tSeq (tDrop (mtd mAppend (tOp (rIx Γ.K) (vr 3) (cv (.int 0))) (tCons (lst true (tCons (cv (.int 4)) tNil)) tNil)))
  (tSeq (tDrop (mtd mAppend (vr 2) (tCons (cv (.int 5)) tNil)))
  ((tRet (lkE true (tOp (rEq Γ.K) (tCB (cRepr Γ.K) (tCons (cfn Γ W ("records_of" : Str) (tCons (tCB (cList true) (tCons (vr 0) tNil)) tNil) [] tNil) tNil)) (tCB (cRepr Γ.K) (tCons (vr 1) tNil)))))))))))))
theorem r__law_asked (Γ : Gam) (W : WX) : bodyR Γ D__law_asked 40 (defScope (Hd.top 10)) W (defBody (Hd.top 10)) = t__law_asked Γ W := by kernel_rfl
theorem sc__law_asked : FnScope D__law_asked.N ["_law_row_here"] (defScope (Hd.top 10)) := ⟨rfl, rfl, rfl, by decide +kernel, rfl, by decide +kernel, by decide +kernel⟩
def N_law : List Str := ["_law_script", "_law_k", "_law_row_here"]
def D_law : Df := { N := N_law, m := true, mu := [], cls := [], kl := ["_law_script"] }
def t_law (Γ : Gam) (W : WX) : TS :=
  (tSeq (tFor (iRange1 (tCB cMax (tCons (cv (.int 2)) (tCons (tCB cMin (tCons (cv (.int 8)) (tCons (tCB (cLenK Γ.K) (tCons (vr 0) tNil)) tNil))) tNil)))) (gName 1)
    (tSeq (tAsg (cfn Γ W ("_law_row" : Str) (tCons (cfn Γ W ("_law_pool" : Str) (tCons (vr 0) (tCons (vr 1) tNil)) [] tNil) tNil) [] tNil) (gName 2))
    ((tIfS (tNot (tv (cfn Γ W ("_law_asked" : Str) (tCons (vr 2) tNil) [] tNil)))
      (tRet (lkE true (cv (.bl false))))
      tNext))))
  ((tRet (lkE true (cv (.bl true))))))
theorem r_law (Γ : Gam) (W : WX) : bodyR Γ D_law 40 (defScope (Hd.top 11)) W (defBody (Hd.top 11)) = t_law Γ W := by kernel_rfl
theorem sc_law : FnScope D_law.N ["_law_script"] (defScope (Hd.top 11)) := ⟨rfl, rfl, rfl, by decide +kernel, rfl, by decide +kernel, by decide +kernel⟩
end G

set_option maxHeartbeats 4000000
namespace G
open PySem PySem.Spec PyProof.Rows L2
abbrev ivs (xs : List Int) : List V := xs.map V.int
def PoolAt (H : Hp) (a : Addr) (M : Int) : Prop := ∃ A b c : Int, H a = some (.lst [.int A, .int b, .int c]) ∧ 0 ≤ b ∧ b ≤ M
def spTake : Sp := fun vs H Q _ => ∃ (a : Addr) (w M : Int), vs = [.ref a, .int w] ∧ (0 < w ∧ w < 4611686018427387904) ∧ PoolAt H a M ∧ M < 1099511627776 ∧ ∀ v H', 0 ≤ v → v < w → Frm [a] H H' → PoolAt H' a (M + 1) → Q (.int v) H'
theorem atI3 {x y z : V} : atI [x, y, z] 0 = some x ∧ atI [x, y, z] 1 = some y ∧ atI [x, y, z] 2 = some z := ⟨rfl, rfl, rfl⟩
theorem ixN3 : ixN 3 0 = some 0 ∧ ixN 3 1 = some 1 ∧ ixN 3 2 = some 2 := ⟨rfl, rfl, rfl⟩
theorem divW {i j : Int} (h : 0 < j) (k : j < 4611686018427387904) : CDivW i j := by
  have e : j.natAbs.log2 < 62 := (Nat.log2_lt (by omega)).mpr (by omega)
  exact ⟨h, by omega⟩
theorem wp_take {Γ : Gam} {W : WX} (vs : List V) (H : Hp) (Q : VK) (E : XK) (h : spTake vs H Q E) : t__law_take Γ W { nx := fun _ H' => Q .non H', rt := Q } (L2.start N__law_take vs) H := by
  obtain ⟨a, w, M, rfl, ⟨hw, hw2⟩, ⟨A, b, c, ha, hb, hb2⟩, hM, q⟩ := h
  show t__law_take Γ W _ [some (.ref a), some (.int w), none, none] H
  unfold t__law_take
  simp [ha, atI3, ixN3]
  have fr : ∀ {u : HO}, Frm [a] H (upd H a u) := fun {u} => Frm.refl.put (.inl (by simp))
  have mulI : ∀ {i j : Int}, -18446744073709551616 < j → j < 18446744073709551616 → CMul i j := fun h1 h2 => .inr ⟨by omega, by omega⟩
  have r1 : 0 ≤ c % 2147483647 ∧ c % 2147483647 < 2147483647 := by omega
  split
  · exact ⟨hw, divW hw hw2, q _ _ (Int.emod_nonneg _ (by omega)) (Int.emod_lt_of_pos _ hw) fr ⟨_, b, c, upd_same, hb, by omega⟩⟩
  · refine ⟨mulI (by omega) (by omega), ⟨by decide, by decide, by omega⟩, mulI (by omega) (by omega), mulI (by omega) (by omega), mulI (by omega) (by omega), divW (by decide) (by decide), divW (by decide) (by decide), hw, ?_⟩
    exact q _ _ (Int.emod_nonneg _ (by omega)) (Int.emod_lt_of_pos _ hw) fr ⟨A, b + 1, c, upd_same, by omega, by omega⟩
def spPool : Gam → Sp := fun Γ vs H Q _ => ∃ (s : Addr) (ns : List Int) (k : Int), vs = [.ref s, .int k] ∧ SqL Γ.K H s (ivs ns) ∧ (0 ≤ k ∧ k < 1000000) ∧ ∀ p H', H p = none → Frm [] H H' → PoolAt H' p 2000000000 → Q (.ref p) H'
theorem atI_ivs {ns : List Int} {i : Int} (h0 : 0 ≤ i) (h1 : i < ns.length) : ∃ z, z ∈ ns ∧ atI (ivs ns) i = some (.int z) := by
  have hl : i.toNat < ns.length := by omega
  refine ⟨ns[i.toNat], List.getElem_mem hl, ?_⟩
  have z : atI (ivs ns) ((i.toNat : Nat) : Int) = some (V.int ns[i.toNat]) := atI_nat (by simp [hl])
  have e : ((i.toNat : Nat) : Int) = i := by omega
  rw [e] at z
  exact z
theorem mulS {i j : Int} (h1 : -18446744073709551616 < i) (h2 : i < 18446744073709551616) : CMul i j := .inl ⟨by omega, by omega⟩
theorem mulT {i j : Int} (h1 : -18446744073709551616 < j) (h2 : j < 18446744073709551616) : CMul i j := .inr ⟨by omega, by omega⟩
theorem sl3 {n : Nat} (h : n ≤ 16777216) : n ≤ sizeLine := h
theorem wp_pool {Γ : Gam} {W : WX} (vs : List V) (H : Hp) (Q : VK) (E : XK) (h : spPool Γ vs H Q E) : t__law_pool Γ W { nx := fun _ H' => Q .non H', rt := Q } (L2.start N__law_pool vs) H := by
  obtain ⟨s, ns, k, rfl, hs, ⟨hk, hk2⟩, q⟩ := h
  show t__law_pool Γ W _ [some (.ref s), some (.int k), none, none] H
  have fin : ∀ A c : Int, CMul 1000 k ∧ 3 ≤ sizeLine ∧ al false [V.int A, V.int (1000 * k), V.int c] H Q := fun A c =>
    ⟨mulS (by decide) (by decide), sl3 (by decide), al_f fun p H' hp f e => q p _ hp f ⟨A, 1000 * k, c, e, by omega, by omega⟩⟩
  unfold t__law_pool
  simp
  refine ⟨_, hs, ?_⟩
  split
  · rename_i hl
    rw [List.length_map] at hl
    obtain ⟨z, hz, ez⟩ := atI_ivs (ns := ns) (i := k % (ns.length : Int)) (Int.emod_nonneg _ (by omega)) (Int.emod_lt_of_pos _ (by omega))
    refine ⟨_, hs, by rw [List.length_map]; exact hl, _, hs, .int z, by rw [List.length_map]; exact ez, ⟨by decide, by decide, by decide⟩, ?_⟩
    simp
    split
    · refine ⟨_, hs, ?_⟩
      split <;> exact fin _ _
    · exact fin _ _
  · exact ⟨⟨by decide, by decide, by decide⟩, fin _ _⟩
/-! ### calls, by their promises -/
theorem lk_any {H : Hp} {a : Addr} {xs : List V} {Q : VK} {S : List Addr} {A : Hp} (h : lstOf (H a) = some xs) (f : Frm S A H) (ha : A a = none) (k : ∀ H', Frm S A H' → (∀ b, b ≠ a → H' b = H b) → lstOf (H' a) = some xs → Q (.ref a) H') : lk true Q (.ref a) H := by
  rw [e_lkR]
  cases e : H a with
  | none => rw [e] at h; cases h
  | some u =>
    rw [e] at h
    cases u with
    | lst ys =>
      cases h
      exact fun o => k _ (f.put (.inr ha)) (fun b hb => upd_ne hb) (by rw [upd_same]; rfl)
    | frz ob u =>
      cases u with
      | lst ys => cases h; exact k H f (fun b _ => rfl) (by rw [e]; rfl)
      | _ => cases h
    | _ => cases h
theorem Frm.trans' {S : List Addr} {A B C : Hp} (f : Frm [] A B) (g : Frm S B C) : Frm S A C := by
  have f2 : Frm S A B := fun b _ ha => f b (by simp) ha
  exact f2.trans g fun b hb => .inl hb
theorem Frm.sub {S T : List Addr} {A B : Hp} (h : Frm S A B) (i : ∀ b ∈ S, b ∈ T := by simp) : Frm T A B := fun b hb ha => h b (fun z => hb (i b z)) ha
theorem PoolAt.ne {H : Hp} {a : Addr} {M : Int} (h : PoolAt H a M) : H a ≠ none := by
  obtain ⟨A, b, c, e, _⟩ := h
  rw [e]; simp
theorem PoolAt.mono {H : Hp} {a : Addr} {M N : Int} (h : PoolAt H a M) (k : M ≤ N) : PoolAt H a N := by
  obtain ⟨A, b, c, e, h1, h2⟩ := h
  exact ⟨A, b, c, e, h1, by omega⟩
theorem Frm.pool {S : List Addr} {A B : Hp} {a : Addr} {M : Int} (f : Frm S A B) (ha : a ∉ S) (h : PoolAt A a M) : PoolAt B a M := by
  obtain ⟨x, b, c, e, r⟩ := h
  exact ⟨x, b, c, by rw [f a ha (by rw [e]; simp)]; exact e, r⟩
def ByteL (xs : List Int) : Prop := ∀ x ∈ xs, 0 ≤ x ∧ x ≤ 255
/-- a law's numbers -/
structure HasTake (Γ : Gam) : Prop where
  df : Γ.df "_law_take"
  fn : ∀ vs H Q E, spTake vs H Q E → Γ.fn "_law_take" vs [] H Q E
theorem take_call {Γ : Gam} (G : HasTake Γ) {H : Hp} {Q : VK} {E : XK} {a : Addr} {w M : Int} (hw : 0 < w) (hw2 : w < 4611686018427387904) (hp : PoolAt H a M) (hM : M < 1099511627776) (q : ∀ v H', 0 ≤ v → v < w → Frm [a] H H' → PoolAt H' a (M + 1) → Q (.int v) H') : Γ.fn "_law_take" [.ref a, .int w] [] H Q E :=
  G.fn _ _ _ _ ⟨a, w, M, rfl, ⟨hw, hw2⟩, hp, hM, q⟩
theorem Frm.gone {S : List Addr} {A B : Hp} {b : Addr} (f : Frm S A B) (hb : B b = none) (hn : b ∉ S) : A b = none := by
  cases e : A b with
  | none => rfl
  | some u =>
    have z := f b hn (by rw [e]; simp)
    rw [hb, e] at z
    cases z
theorem ne_new {H : Hp} {a b : Addr} (hb : H b = none) (ha : H a ≠ none) : b ≠ a := fun e => ha (e ▸ hb)
theorem ni {a b : Addr} (h : b ≠ a) : b ∉ [a] := by simpa using h
theorem ne0 {b : Addr} : b ∉ ([] : List Addr) := by simp
def spEntry : Sp := fun vs H Q _ => ∃ (a : Addr) (most M : Int), vs = [.ref a, .int most] ∧ most < 1000000 ∧ -1000000 < most ∧ PoolAt H a M ∧ M < 1000000000000 ∧ ∀ p xs H', H p = none → Frm [a] H H' → PoolAt H' a (M + 500) → lstOf (H' p) = some (ivs xs) → ByteL xs → xs.length ≤ 200 → (xs.length = 0 ∨ (xs.length : Int) ≤ most) → Q (.ref p) H'
structure EI (H : Hp) (a l : Addr) (M : Int) (i : Nat) (H' : Hp) : Prop where
  xs : ∃ xs, H' l = some (.lst (ivs xs)) ∧ xs.length = i ∧ ByteL xs
  p : PoolAt H' a (M + 1 + 2 * i)
  f : Frm [a] H H'
theorem EI.put {H : Hp} {a l : Addr} {M : Int} {i : Nat} {H3 : Hp} {v : Int} {xs : List Int} (hx : H3 l = some (.lst (ivs xs))) (hl : xs.length = i) (hB : ByteL xs) (hv : 0 ≤ v ∧ v ≤ 255) (hP : PoolAt H3 a (M + 1 + 2 * ((i + 1 : Nat) : Int))) (hF : Frm [a] H H3) (hH : H l = none) (hla : l ≠ a) :
    EI H a l M (i + 1) (upd H3 l (.lst (ivs xs ++ [V.int v]))) := by
  refine ⟨⟨xs ++ [v], by rw [upd_same]; simp, by simp [hl], fun x hx => ?_⟩, ?_, hF.put (.inr hH)⟩
  · rcases List.mem_append.mp hx with h | h
    · exact hB x h
    · rw [List.mem_singleton.mp h]; exact hv
  · obtain ⟨A, b, c, e, r⟩ := hP
    exact ⟨A, b, c, by rw [upd_ne (Ne.symm hla)]; exact e, r⟩
theorem wp_entry {Γ : Gam} {W : WX} (G : HasTake Γ) (vs : List V) (H : Hp) (Q : VK) (E : XK) (h : spEntry vs H Q E) : t__law_entry Γ W { nx := fun _ H' => Q .non H', rt := Q } (L2.start N__law_entry vs) H := by
  obtain ⟨a, most, M, rfl, hm, hm2, hp, hM, q⟩ := h
  show t__law_entry Γ W _ [some (.ref a), some (.int most), none, none, none] H
  unfold t__law_entry
  simp
  refine ⟨sl3 (by decide), al_t fun p H0 hp0 f0 np l0 => ?_⟩
  simp
  refine ⟨G.df, take_call G (by decide) (by decide) (f0.pool ne0 hp) (by omega) fun v H1 hv hv2 f1 p1 => ?_⟩
  have hpa : p ≠ a := ne_new hp0 hp.ne
  have g1 : Frm [a] H H1 := f0.trans' f1
  have l1 : lstOf (H1 p) = some (ivs [0, 1, 2, 3, 5, 9, 17, 40, 60, 200]) := f1.ls (ni hpa) l0
  obtain ⟨z, hz, ez⟩ := atI_ivs (ns := [0, 1, 2, 3, 5, 9, 17, 40, 60, 200]) hv (by simpa using hv2)
  have hz2 : 0 ≤ z ∧ z ≤ 200 := by simp at hz; omega
  simp only [e_op2, e_ix, l1, ez]
  simp
  refine al_f fun l H1' hl fl el => ?_
  have p1' := fl.pool ne0 p1
  simp
  have hla : l ≠ a := fun e => by
    subst e
    exact p1.ne hl
  have hH : H l = none := g1.gone hl (ni hla)
  refine ⟨⟨by omega, by omega⟩, lp_range (fun i σ H' => ∃ k4, σ = [some (V.ref a), some (V.int most), some (V.int (min most z)), some (V.ref l), k4] ∧ EI H a l M i H')
    ⟨none, rfl, ⟨[], el, rfl, fun x hx => by cases hx⟩, p1'.mono (by omega), g1.trans fl (by simp)⟩ ?_ ?_⟩
  · rintro i σ H2 hi ⟨k4, rfl, ⟨xs, hx, hlen, hB⟩, hP, hF⟩
    simp
    refine ⟨G.df, take_call G (by decide) (by decide) hP (by omega) fun v3 H3 v3a v3b f3 p3 => ?_⟩
    have hx3 : H3 l = some (.lst (ivs xs)) := by rw [f3 l (ni hla) (by rw [hx]; simp)]; exact hx
    have F3 : Frm [a] H H3 := hF.trans f3 (by simp)
    simp
    split
    · simp [hx3]
      refine ⟨sl3 (by decide), al_t fun p4 H4' hp4 f4' np4 l4' => ?_⟩
      simp
      refine ⟨G.df, take_call G (by decide) (by decide) (f4'.pool ne0 p3) (by omega) fun v4 H4 v4a v4b f4 q4 => ?_⟩
      have F4 : Frm [a] H3 H4 := f4'.trans' f4
      have hx4 : H4 l = some (.lst (ivs xs)) := by rw [F4 l (ni hla) (by rw [hx3]; simp)]; exact hx3
      have l4 : lstOf (H4 p4) = some (ivs [0, 1, 201, 255]) := f4.ls (ni (ne_new hp4 p3.ne)) l4'
      obtain ⟨z4, hz4, ez4⟩ := atI_ivs (ns := [0, 1, 201, 255]) v4a (by simpa using v4b)
      have hz5 : 0 ≤ z4 ∧ z4 ≤ 255 := by simp at hz4; omega
      simp only [e_op2, e_ix, l4, ez4]
      simp [hx4]
      refine ⟨by rw [hlen]; exact Nat.lt_of_lt_of_le (m := 300) (by omega) (sl3 (by decide)), ?_⟩
      exact EI.put hx4 hlen hB hz5 (q4.mono (by omega)) (F3.trans F4 (by simp)) hH hla
    · simp [hx3]
      refine ⟨G.df, take_call G (by decide) (by decide) p3 (by omega) fun v4 H4 v4a v4b f4 p4 => ?_⟩
      have hx4 : H4 l = some (.lst (ivs xs)) := by rw [f4 l (ni hla) (by rw [hx3]; simp)]; exact hx3
      simp [hx4]
      refine ⟨by rw [hlen]; exact Nat.lt_of_lt_of_le (m := 300) (by omega) (sl3 (by decide)), ?_⟩
      exact EI.put hx4 hlen hB ⟨v4a, by omega⟩ (p4.mono (by omega)) (F3.trans f4 (by simp)) hH hla
  · rintro σ H2 ⟨k4, rfl, ⟨xs, hx, hlen, hB⟩, hP, hF⟩
    simp [hx]
    refine lk_any (by rw [hx]; rfl) hF hH fun H' f' b' l' => q l xs H' hH f' ?_ l' hB (by omega) (by omega)
    obtain ⟨A, b, c, e, r⟩ := hP
    exact ⟨A, b, c, by rw [b' a (Ne.symm hla)]; exact e, r.1, by omega⟩
/-- one entry's frame -/
def spFrames : Sp := fun vs H Q _ => ∃ (e r : Addr) (xs : List Int), vs = [.ref e] ∧ lstOf (H e) = some [.ref r] ∧ lstOf (H r) = some (ivs xs) ∧ xs.length ≤ 1000 ∧ ∀ p H', Frm [] H H' → lstOf (H' p) = some (ivs ((xs.length + 1 : Int) :: xs)) → Q (.ref p) H'
theorem wp_frames {Γ : Gam} {W : WX} (vs : List V) (H : Hp) (Q : VK) (E : XK) (h : spFrames vs H Q E) : t__law_frames Γ W { nx := fun _ H' => Q .non H', rt := Q } (L2.start N__law_frames vs) H := by
  obtain ⟨e, r, xs, rfl, he, hr, hl, q⟩ := h
  show t__law_frames Γ W _ [some (.ref e), none, none] H
  have ne := lst_ne he
  have nr := lst_ne hr
  unfold t__law_frames
  simp
  refine al_t fun p H0 hp f0 np0 l0 => ?_
  have he0 := f0.ls ne0 he
  simp [he0]
  refine lp_list (xs := [.ref r]) (fun i σ H' => Frm [] H H' ∧ ((i = 0 ∧ σ = [some (.ref e), some (.ref p), none] ∧ lstOf (H' p) = some []) ∨ (i = 1 ∧ ∃ p2, σ = [some (.ref e), some (.ref p2), some (.ref r)] ∧ H p2 = none ∧ lstOf (H' p2) = some (ivs ((xs.length + 1 : Int) :: xs))))) ⟨f0, .inl ⟨rfl, rfl, l0⟩⟩ (fun i σ H' ⟨f, _⟩ => f.ls ne0 he) ?_ ?_
  · rintro i x σ H2 hx ⟨f, ⟨rfl, rfl, hp2⟩ | ⟨rfl, _⟩⟩
    · cases hx
      have hr2 := f.ls ne0 hr
      simp [hr2]
      refine ⟨sl3 (by decide), al_t fun p3 H3 hp3 f3 np3 l3 => ?_⟩
      have hp3' := f3.ls ne0 hp2
      simp [l3, hp3']
      refine ⟨sl3 (by omega), al_t fun p4 H4 hp4 f4 np4 l4 => ?_⟩
      have hr4 := f4.ls ne0 (f3.ls ne0 hr2)
      simp [l4, hr4]
      refine ⟨sl3 (by omega), al_t fun p5 H5 hp5 f5 np5 l5 => ?_⟩
      simp
      have F := ((f.trans' f3).trans' f4).trans' f5
      refine ⟨F, ?_, by rw [l5]⟩
      exact ((f.trans' f3).trans' f4).gone hp5 ne0
    · cases hx
  · rintro σ H2 ⟨f, ⟨h1, _⟩ | ⟨_, p2, rfl, hp0, hp2⟩⟩
    · cases h1
    · simp only [e_ret, e_lkET, e_vr, List.getElem?_cons_succ, List.getElem?_cons_zero]
      exact lk_any hp2 f hp0 fun H' f' _ l' => q p2 H' f' l'
end G

set_option maxHeartbeats 4000000
namespace G
open PySem PySem.Spec PyProof.Rows L2
def cutI (xs : List Int) (lo hi : Option Int) : List Int := (xs.drop (HT.sIx xs.length 0 lo)).take (HT.sIx xs.length xs.length hi - HT.sIx xs.length 0 lo)
theorem cut_ivs {xs : List Int} {lo hi : Option Int} : cutV (ivs xs) lo hi = ivs (cutI xs lo hi) := by
  unfold cutV cutI
  simp only [ivs, List.length_map, List.map_take, List.map_drop]
theorem cut_bytes {xs : List Int} {lo hi : Option Int} (h : ByteL xs) : ByteL (cutI xs lo hi) := fun x hx => h x (List.mem_of_mem_drop (List.mem_of_mem_take hx))
theorem sIx_nn {n d : Nat} {i : Int} (h : 0 ≤ i) : HT.sIx n d (some i) = min i.toNat n := by
  unfold HT.sIx
  simp
  omega
theorem cut_hi {xs : List Int} {i : Int} (h : 0 ≤ i) : ((cutI xs none (some i)).length : Int) ≤ i ∧ (cutI xs none (some i)).length ≤ xs.length := by
  unfold cutI
  rw [sIx_nn h]
  simp [HT.sIx]
  omega
theorem cut_lo {xs : List Int} {i : Int} (h : 0 ≤ i) (k : i ≤ xs.length) : ((cutI xs (some i) none).length : Int) ≤ xs.length - i := by
  unfold cutI
  rw [sIx_nn h]
  simp [HT.sIx]
  omega
structure HasFn (Γ : Gam) (nm : Str) (sp : Sp) : Prop where
  df : Γ.df nm
  fn : ∀ vs H Q E, sp vs H Q E → Γ.fn nm vs [] H Q E
theorem HasFn.new {Γ : Gam} {nm : Str} {sp : Sp} : HasFn (Γ.addF nm sp) nm sp := ⟨.inl rfl, fun _ _ _ _ h => .inl ⟨rfl, rfl, h⟩⟩
theorem HasFn.old {Γ : Gam} {nm nm' : Str} {sp sp' : Sp} (h : HasFn Γ nm sp) : HasFn (Γ.addF nm' sp') nm sp := ⟨.inr h.df, fun vs H Q E q => .inr (h.fn vs H Q E q)⟩
theorem HasTake.of {Γ : Gam} (h : HasFn Γ "_law_take" spTake) : HasTake Γ := ⟨h.df, h.fn⟩
/-- a locked list of bytes -/
structure BL (H : Hp) (r : Addr) (xs : List Int) : Prop where
  l : lstOf (H r) = some (ivs xs)
  b : ByteL xs
theorem BL.frm {S : List Addr} {A B : Hp} {r : Addr} {xs : List Int} (h : BL A r xs) (f : Frm S A B) (hr : r ∉ S) : BL B r xs := ⟨f.ls hr h.l, h.b⟩
def spRow : Sp := fun vs H Q _ => ∃ (a : Addr) (M : Int), vs = [.ref a] ∧ PoolAt H a M ∧ M < 100000000000 ∧ ∀ p xs H', H p = none → Frm [a] H H' → BL H' p xs → xs.length ≤ 400 → Q (.ref p) H'
theorem wp_row {Γ : Gam} {W : WX} (G : HasTake Γ) (GE : HasFn Γ "_law_entry" spEntry) (GF : HasFn Γ "_law_frames" spFrames) (vs : List V) (H : Hp) (Q : VK) (E : XK) (h : spRow vs H Q E) : t__law_row Γ W { nx := fun _ H' => Q .non H', rt := Q } (L2.start N__law_row vs) H := by
  obtain ⟨a, M, rfl, hp, hM, q⟩ := h
  show t__law_row Γ W _ [some (.ref a), none, none, none, none, none, none] H
  unfold t__law_row
  simp
  refine ⟨G.df, take_call G (by decide) (by decide) hp (by omega) fun w H1 w0 w1 f1 p1 => ?_⟩
  simp
  refine al_t fun r0 H1' hr0 f1' nr0 lr0 => ?_
  simp
  refine ⟨G.df, take_call G (by decide) (by decide) (f1'.pool ne0 p1) (by omega) fun n H2 n0 n1 f2 p2 => ?_⟩
  have F2 : Frm [a] H H2 := f1.trans (f1'.trans' f2) (by simp)
  have hr0a : r0 ≠ a := ne_new hr0 p1.ne
  simp
  refine ⟨⟨by omega, by omega⟩, lp_range (fun i σ H' => ∃ r xs k3, σ = [some (V.ref a), some (V.int w), some (V.ref r), k3, none, none, none] ∧ r ≠ a ∧ H r = none ∧ BL H' r xs ∧ xs.length ≤ 400 ∧ PoolAt H' a (M + 2 + 500 * i) ∧ Frm [a] H H')
    ⟨r0, [], none, rfl, hr0a, (f1.gone hr0 (ni hr0a)), ⟨f2.ls (ni hr0a) lr0, fun x hx => by cases hx⟩, by simp, p2.mono (by omega), F2⟩ ?_ ?_⟩
  · rintro i σ H3 hi ⟨r, xs, k3, rfl, hra, hrn, hB, hl, hP, hF⟩
    simp [hB.l]
    refine ⟨GF.df, GE.df, GE.fn _ _ _ _ ⟨a, _, _, rfl, ?_, ?_, hP, by omega, fun e ys H4 he f4 p4 l4 b4 c4 d4 => ?_⟩⟩
    · omega
    · omega
    have l5 := f4.ls (ni hra) hB.l
    simp
    refine ⟨sl3 (by decide), al_t fun g H4' hg fg ng lg => ?_⟩
    simp
    refine GF.fn _ _ _ _ ⟨g, e, ys, rfl, lg, fg.ls ne0 l4, by omega, fun z H5 f6 l6 => ?_⟩
    have F5 : Frm [] H4 H5 := fg.trans' f6
    have l7 := F5.ls ne0 l5
    simp [l7, l6]
    have hcs := cut_hi (xs := ((ys.length + 1 : Int) :: ys)) (i := 400 - xs.length) (by omega)
    have hcb : ByteL (cutI ((ys.length + 1 : Int) :: ys) none (some (400 - xs.length))) := cut_bytes fun x hx => by
      rcases List.mem_cons.mp hx with rfl | h
      · omega
      · exact b4 x h
    rw [show V.int (ys.length + 1 : Int) :: ivs ys = ivs ((ys.length + 1 : Int) :: ys) from rfl, cut_ivs]
    generalize cutI ((ys.length + 1 : Int) :: ys) none (some (400 - xs.length)) = cs at hcs hcb ⊢
    refine al_t fun c H6 hc f6 nc lc => ?_
    have l8 := f6.ls ne0 l7
    simp [l8, lc]
    refine ⟨sl3 (by omega), al_t fun p5 H7 hp5 f7 np5 l9 => ?_⟩
    have F6 : Frm [a] H3 H7 := f4.trans ((F5.trans' f6).trans' f7) (by simp)
    have P5 : PoolAt H7 a (M + 2 + 500 * ↑i + 500) := f7.pool ne0 (f6.pool ne0 (F5.pool ne0 p4))
    have h5a : p5 ≠ a := ne_new hp5 (f6.pool ne0 (F5.pool ne0 p4)).ne
    have F7 : Frm [a] H3 H6 := f4.trans (F5.trans' f6) (by simp)
    simp
    refine ⟨h5a, (hF.trans F7 (by simp)).gone hp5 (ni h5a), xs ++ cs, ⟨by rw [l9]; simp, fun x hx => ?_⟩, by simp; omega, P5.mono (by omega), hF.trans F6 (by simp)⟩
    rcases List.mem_append.mp hx with h | h
    · exact hB.b x h
    · exact hcb x h
  · rintro σ H3 ⟨r, xs, k3, rfl, hra, hrn, hB, hl, hP, hF⟩
    simp [hB.l]
    refine ⟨G.df, take_call G (by omega) (by omega) hP (by omega) fun at_ H4 at0 at1 f4 p4 => ?_⟩
    have B4 := hB.frm f4 (ni hra)
    have F4 : Frm [a] H H4 := hF.trans f4 (by simp)
    simp
    refine ⟨G.df, take_call G (by decide) (by decide) p4 (by omega) fun y H5 y0 y1 f5 p5 => ?_⟩
    have B5 := B4.frm f5 (ni hra)
    have F5 : Frm [a] H H5 := F4.trans f5 (by simp)
    simp
    refine ⟨sl3 (by decide), al_t fun t H5' ht ft nt lt => ?_⟩
    simp
    refine ⟨G.df, take_call G (by decide) (by decide) (ft.pool ne0 p5) (by omega) fun u H6 u0 u1 f6 p6 => ?_⟩
    have hta : t ≠ a := ne_new ht p5.ne
    have F6' : Frm [a] H5 H6 := ft.trans' f6
    have F6 : Frm [a] H H6 := F5.trans F6' (by simp)
    have B6 := B5.frm F6' (ni hra)
    have lt6 : lstOf (H6 t) = some (ivs [0, 202, 255, 1, 201, y]) := f6.ls (ni hta) lt
    obtain ⟨z, hz, ez⟩ := atI_ivs (ns := [0, 202, 255, 1, 201, y]) u0 (by simpa using u1)
    have hz2 : 0 ≤ z ∧ z ≤ 255 := by simp at hz; omega
    simp only [e_op2, e_ix, lt6, ez]
    have l6 := B6.l
    have b6 := B6.b
    clear hz ez lt6 B5 B4 hB F6' hP
    have ret : ∀ {H' : Hp} {S : L2.St} {p : Addr} {zs : List Int}, Frm [a] H H' → H p = none → lstOf (H' p) = some (ivs zs) → ByteL zs → zs.length ≤ 400 → lk true Q (.ref p) H' := fun f n l b k => lk_any l f n fun H2 f2 _ l2 => q _ _ H2 n f2 ⟨l2, b⟩ k
    have hw : w = 0 ∨ w = 1 ∨ w = 2 ∨ w = 3 ∨ w = 4 ∨ w = 5 ∨ w = 6 := by omega
    have whole : lk true Q (.ref r) H6 := ret (S := []) F6 hrn l6 b6 hl
    have one : ∀ {p : Addr} {H' : Hp}, H6 p = none → H p = none := fun {p H'} h => F6.gone h (ni (ne_new h p6.ne))
    rcases hw with rfl | rfl | rfl | rfl | rfl | rfl | rfl
    · simp [l6]
      exact whole
    · simp [l6]
      refine al_t fun p H7 hp7 f7 np7 l7 => ?_
      rw [cut_ivs] at l7
      have := (cut_hi (xs := xs) (i := at_) at0).2
      exact ret (S := []) (F6.trans f7 (by simp)) (one (H' := H7) hp7) l7 (cut_bytes b6) (by omega)
    · simp [l6]
      split
      · rename_i hat
        refine al_t fun p H7 hp7 f7 np7 l7 => ?_
        rw [cut_ivs] at l7
        have c1 := cut_hi (xs := xs) (i := at_) at0
        have c2 := cut_lo (xs := xs) (i := at_ + 1) (by omega) (by omega)
        simp
        refine ⟨sl3 (by decide), al_t fun p2 H8 hp8 f8 np8 l8 => ?_⟩
        have l7' := f8.ls ne0 l7
        simp [l7', l8]
        refine ⟨sl3 (by omega), al_t fun p3 H9 hp9 f9 np9 l9 => ?_⟩
        have l6' := f9.ls ne0 (f8.ls ne0 (f7.ls ne0 l6))
        simp [l6']
        refine al_t fun p10 H10 hp10 f10 np10 l10 => ?_
        rw [cut_ivs] at l10
        have l9' := f10.ls ne0 l9
        simp [l9', l10]
        refine ⟨sl3 (by omega), al_t fun p11 H11 hp11 f11 np11 l11 => ?_⟩
        have FF : Frm [] H6 H10 := ((f7.trans' f8).trans' f9).trans' f10
        refine ret (S := []) (zs := cutI xs none (some at_) ++ z :: cutI xs (some (at_ + 1)) none) (F6.trans (FF.trans' f11) (by simp)) (one (H' := H11) (FF.gone hp11 ne0)) (by rw [l11]; simp) (fun x hx => ?_) (by simp; omega)
        rcases List.mem_append.mp hx with h | h
        · exact cut_bytes b6 x h
        · rcases List.mem_cons.mp h with rfl | h
          · exact hz2
          · exact cut_bytes b6 x h
      · exact whole
    · simp [l6]
      refine ⟨sl3 (by decide), al_t fun p H7 hp7 f7 np7 l7 => ?_⟩
      have l6' := f7.ls ne0 l6
      simp [l6', l7]
      refine ⟨sl3 (by omega), al_t fun p2 H8 hp8 f8 np8 l8 => ?_⟩
      simp
      refine ⟨GE.df, GE.fn _ _ _ _ ⟨a, _, _, rfl, by decide, by decide, f8.pool ne0 (f7.pool ne0 p6), by omega, fun e ys H9 he f9 p9 l9 b9 c9 d9 => ?_⟩⟩
      have hp2a : p2 ≠ a := ne_new hp8 (f7.pool ne0 p6).ne
      have l8' := f9.ls (ni hp2a) l8
      simp [l8', l9]
      refine ⟨sl3 (by omega), al_t fun p3 H10 hp10 f10 np10 l10 => ?_⟩
      have l10' : lstOf (H10 p3) = some (ivs (xs ++ z :: ys)) := by rw [l10]; simp
      simp [l10']
      refine al_t fun p4 H11 hp11 f11 np11 l11 => ?_
      rw [show List.map V.int xs ++ V.int z :: List.map V.int ys = ivs (xs ++ z :: ys) by simp, cut_ivs] at l11
      have c1 := cut_hi (xs := xs ++ z :: ys) (i := 400) (by decide)
      have FF : Frm [a] H6 H10 := (f7.trans' f8).trans' (f9.trans f10 (by simp))
      have P10 : PoolAt H10 a _ := f10.pool ne0 p9
      refine ret (S := []) (F6.trans (FF.trans f11 (by simp)) (by simp)) (one (H' := H11) (FF.gone hp11 (ni (ne_new hp11 P10.ne)))) l11 (cut_bytes fun x hx => ?_) (by omega)
      rcases List.mem_append.mp hx with h | h
      · exact b6 x h
      · rcases List.mem_cons.mp h with rfl | h
        · exact hz2
        · exact b9 x h
    · simp
      refine ⟨G.df, take_call G (by decide) (by decide) p6 (by omega) fun n7 H7 n70 n71 f7 p7 => ?_⟩
      simp
      refine ⟨⟨by omega, by omega⟩, fun d hd => ?_⟩
      have hda : d ≠ a := fun e => p7.ne (e ▸ hd)
      have F7 : Frm [a] H H7 := F6.trans f7 (by simp)
      have hdH : H d = none := F7.gone hd (ni hda)
      refine lc_of_range (fun i H' => (∃ acc, H' d = some (.lst (ivs acc)) ∧ acc.length = i ∧ ByteL acc) ∧ PoolAt H' a (M + 6 + 500 * n.toNat + i) ∧ Frm [a] H H') ⟨⟨[], upd_same, rfl, fun x hx => by cases hx⟩, ((Frm.refl (S := [])).new hd).pool ne0 (p7.mono (by omega)), F7.new hd⟩ ?_ ?_
      · rintro i H8 hi ⟨⟨acc, ha, hal, hab⟩, hP, hF8⟩
        simp [wipe]
        refine ⟨G.df, take_call G (by decide) (by decide) hP (by omega) fun v9 H9 v90 v91 f9 p9 => ?_⟩
        have hd9 : H9 d = some (.lst (ivs acc)) := by rw [f9 d (ni hda) (by rw [ha]; simp)]; exact ha
        refine ⟨_, hd9, by rw [List.length_map, hal]; exact Nat.lt_of_lt_of_le (m := 300) (by omega) (sl3 (by decide)), ⟨acc ++ [v9], by simp, by simp [hal], fun x hx => ?_⟩, ?_, (hF8.trans f9 (by simp)).put (.inr hdH)⟩
        · rcases List.mem_append.mp hx with h | h
          · exact hab x h
          · rw [List.mem_singleton.mp h]; omega
        · obtain ⟨A, b, c, e, r⟩ := p9
          exact ⟨A, b, c, by rw [upd_ne (Ne.symm hda)]; exact e, r.1, by omega⟩
      · rintro H8 ⟨⟨acc, ha, hal, hab⟩, hP, hF8⟩
        exact lk_any (by rw [ha]; rfl) hF8 hdH fun H9 f9 _ l9 => ret (S := []) f9 hdH l9 hab (by omega)
    · simp
      refine ⟨GE.df, GE.fn _ _ _ _ ⟨a, _, _, rfl, by decide, by decide, p6, by omega, fun e ys H9 he f9 p9 l9 b9 c9 d9 => ?_⟩⟩
      exact ret (S := []) (F6.trans f9 (by simp)) (one (H' := H9) he) l9 b9 (by omega)
    · simp
      refine ⟨G.df, take_call G (by decide) (by decide) p6 (by omega) fun n7 H7 n70 n71 f7 p7 => ?_⟩
      simp
      refine ⟨sl3 (by decide), al_t fun b H8 hb fb nb lb => ?_⟩
      simp
      refine ⟨G.df, take_call G (by decide) (by decide) (fb.pool ne0 p7) (by omega) fun m8 H9 m80 m81 f8 p8 => ?_⟩
      have hba : b ≠ a := ne_new hb p7.ne
      have lb9 := f8.ls (ni hba) lb
      simp
      refine ⟨⟨by omega, by omega⟩, fun d hd => ?_⟩
      have hda : d ≠ a := fun e => p8.ne (e ▸ hd)
      have hdb : d ≠ b := fun e => lst_ne lb9 (e ▸ hd)
      have F9 : Frm [a] H H9 := F6.trans (f7.trans (fb.trans' f8) (by simp)) (by simp)
      have hdH : H d = none := F9.gone hd (ni hda)
      refine lc_of_range (fun i H' => (∃ acc, H' d = some (.lst (ivs acc)) ∧ acc.length = i ∧ ByteL acc) ∧ PoolAt H' a (M + 8 + 500 * n.toNat + i) ∧ Frm [a] H H' ∧ lstOf (H' b) = some [V.int (198 + n7)]) ⟨⟨[], upd_same, rfl, fun x hx => by cases hx⟩, ((Frm.refl (S := [])).new hd).pool ne0 (p8.mono (by omega)), F9.new hd, ((Frm.refl (S := [])).new hd).ls ne0 lb9⟩ ?_ ?_
      · rintro i H10 hi ⟨⟨acc, ha, hal, hab⟩, hP, hF8, lb10⟩
        simp [wipe]
        refine ⟨G.df, take_call G (by decide) (by decide) hP (by omega) fun v9 H11 v90 v91 f9 p9 => ?_⟩
        have hd9 : H11 d = some (.lst (ivs acc)) := by rw [f9 d (ni hda) (by rw [ha]; simp)]; exact ha
        have lb11 := f9.ls (ni hba) lb10
        simp
        refine ⟨_, hd9, by rw [List.length_map, hal]; exact Nat.lt_of_lt_of_le (m := 300) (by omega) (sl3 (by decide)), ⟨acc ++ [1 + v9], by simp, by simp [hal], fun x hx => ?_⟩, ?_, (hF8.trans f9 (by simp)).put (.inr hdH), by rw [upd_ne (Ne.symm hdb)]; exact lb11⟩
        · rcases List.mem_append.mp hx with h | h
          · exact hab x h
          · rw [List.mem_singleton.mp h]; omega
        · obtain ⟨A, b, c, e, r⟩ := p9
          exact ⟨A, b, c, by rw [upd_ne (Ne.symm hda)]; exact e, r.1, by omega⟩
      · rintro H10 ⟨⟨acc, ha, hal, hab⟩, hP, hF8, lb10⟩
        refine lk_any (by rw [ha]; rfl) hF8 hdH fun H11 f9 o9 l9 => ?_
        have lb11 : lstOf (H11 b) = some [V.int (198 + n7)] := by rw [o9 b (Ne.symm hdb)]; exact lb10
        simp [l9, lb11]
        refine ⟨sl3 (by omega), al_t fun p H12 hp12 f12 np12 l12 => ?_⟩
        have hpa : p ≠ a := fun e => by
          have := f9 a
          subst e
          obtain ⟨A, b, c, e, r⟩ := hP
          rw [o9 p (Ne.symm hda), e] at hp12
          cases hp12
        refine ret (S := []) (zs := (198 + n7) :: acc) (f9.trans f12 (by simp)) (f9.gone hp12 (ni hpa)) (by rw [l12]; simp) (fun x hx => ?_) (by simp; omega)
        rcases List.mem_cons.mp hx with rfl | h
        · omega
        · exact hab x h
end G

set_option maxHeartbeats 4000000
namespace G
open PySem PySem.Spec PyProof.Rows L2
theorem Frm.sqt {S : List Addr} {A B : Hp} {K : PySem.W.Frag} {a : Addr} {xs : List V} (h : Frm S A B) (ha : a ∉ S) (q : SqT K A a xs) : SqT K B a xs := by
  rcases q with (q | ⟨o, q⟩) | q
  · exact .inl (.inl (by rw [h a ha (by rw [q]; simp)]; exact q))
  · exact .inl (.inr ⟨o, by rw [h a ha (by rw [q]; simp)]; exact q⟩)
  · exact .inr q
mutual
theorem dp_frm {K : PySem.W.Frag} {A B : Hp} (f : Frm [] A B) : ∀ {v : V} {d : PyData}, Dp K A v d → Dp K B v d
  | _, _, .non => .non
  | _, _, .bl b => .bl b
  | _, _, .int i => .int i
  | _, _, .str x => .str x
  | _, _, .lst h r => .lst (f.sq ne0 h) (dps_frm f r)
  | _, _, .tup h r => .tup (f.sqt ne0 h) (dps_frm f r)
theorem dps_frm {K : PySem.W.Frag} {A B : Hp} (f : Frm [] A B) : ∀ {v : List V} {d : List PyData}, DpAll K A v d → DpAll K B v d
  | _, _, .nil => .nil
  | _, _, .cons h r => .cons (dp_frm f h) (dps_frm f r)
end
theorem dp_ints {K : PySem.W.Frag} {H : Hp} : ∀ xs : List Int, DpAll K H (ivs xs) (xs.map .int)
  | [] => .nil
  | x :: xs => .cons (.int x) (dp_ints xs)
/-- the frames' walk -/
def goR (bs : List Int) : Nat → Int → List (List Int) × Option Int
  | 0, _ => ([], none)
  | f + 1, at_ => if at_ < bs.length then (match atI bs at_ with
    | some m => if m < 1 ∨ 201 < m ∨ (bs.length : Int) < at_ + m then ([], some at_) else (cutI bs (some (at_ + 1)) (some (at_ + m)) :: (goR bs f (at_ + m)).1, (goR bs f (at_ + m)).2)
    | none => ([], none)) else ([], none)
def plD : Option Int → PyData
  | none => .none
  | some i => .int i
def plV : Option Int → V
  | none => .non
  | some i => .int i
def recD (r : List (List Int) × Option Int) : PyData := .tuple [.list (r.1.map fun ys => .list (ys.map .int)), plD r.2]
theorem atI_ivs2 {ns : List Int} {i : Int} (h0 : 0 ≤ i) (h1 : i < ns.length) : ∃ z, z ∈ ns ∧ atI ns i = some z ∧ atI (ivs ns) i = some (.int z) := by
  have hl : i.toNat < ns.length := by omega
  refine ⟨ns[i.toNat], List.getElem_mem hl, ?_, ?_⟩
  · have z : atI ns ((i.toNat : Nat) : Int) = some ns[i.toNat] := atI_nat (by simp [hl])
    have e : ((i.toNat : Nat) : Int) = i := by omega
    rw [e] at z
    exact z
  · have z : atI (ivs ns) ((i.toNat : Nat) : Int) = some (V.int ns[i.toNat]) := atI_nat (by simp [hl])
    have e : ((i.toNat : Nat) : Int) = i := by omega
    rw [e] at z
    exact z
/-- the lists found so far -/
structure DI (H : Hp) (bs : List Int) (f : Addr) (m : Nat) (at_ : Int) (tr : Prop) (ps : List (Addr × List Int)) (H' : Hp) : Prop where
  frm : Frm [] H H'
  fl : H' f = some (.lst (ps.map fun x => .ref x.1))
  fn : H f = none
  els : ∀ x ∈ ps, x.1 ≠ f ∧ H x.1 = none ∧ lstOf (H' x.1) = some (ivs x.2) ∧ (tr → H' x.1 = some (.lst (ivs x.2)))
  a0 : 0 ≤ at_
  a1 : at_ ≤ bs.length
  pl : (ps.length : Int) ≤ at_
  fu : (bs.length : Int) - at_ < m
  eq : goR bs (bs.length + 1) 0 = (ps.map (·.2) ++ (goR bs m at_).1, (goR bs m at_).2)
theorem DI.step {H : Hp} {bs : List Int} {f p : Addr} {m : Nat} {at_ z : Int} {tr : Prop} {ps : List (Addr × List Int)} {H2 H3 : Hp} (I : DI H bs f (m + 1) at_ tr ps H2) (hz : atI bs at_ = some z) (hlt : at_ < bs.length) (h1 : ¬(z < 1 ∨ 201 < z ∨ (bs.length : Int) < at_ + z))
    (hp : H2 p = none) (F : Frm [] H2 H3) (l : lstOf (H3 p) = some (ivs (cutI bs (some (at_ + 1)) (some (at_ + z))))) (ht : tr → H3 p = some (.lst (ivs (cutI bs (some (at_ + 1)) (some (at_ + z)))))) :
    DI H bs f m (at_ + z) tr (ps ++ [(p, cutI bs (some (at_ + 1)) (some (at_ + z)))]) (upd H3 f (.lst (ps.map (fun x => V.ref x.1) ++ [.ref p]))) := by
  have hpf : p ≠ f := fun e => by rw [e, I.fl] at hp; cases hp
  refine ⟨(I.frm.trans' F).put (.inr I.fn), by rw [upd_same]; simp, I.fn, fun x hx => ?_, by have := I.a0; omega, by omega, ?_, by have := I.fu; omega, ?_⟩
  · rcases List.mem_append.mp hx with h | h
    · obtain ⟨e1, e2, e3, e4⟩ := I.els x h
      have e5 : H3 x.1 = H2 x.1 := F x.1 ne0 (lst_ne e3)
      rw [upd_ne e1, e5]
      exact ⟨e1, e2, e3, e4⟩
    · rw [List.mem_singleton.mp h]
      rw [upd_ne hpf]
      exact ⟨hpf, I.frm.gone hp ne0, l, ht⟩
  · rw [List.length_append]
    have := I.pl
    simp
    omega
  · rw [I.eq]
    have e : goR bs (m + 1) at_ = (cutI bs (some (at_ + 1)) (some (at_ + z)) :: (goR bs m (at_ + z)).1, (goR bs m (at_ + z)).2) := by
      show (if at_ < bs.length then _ else _) = _
      rw [if_pos hlt, hz]
      exact if_neg h1
    rw [e]
    simp
theorem DI.stop {H : Hp} {bs : List Int} {f : Addr} {m : Nat} {at_ z : Int} {tr : Prop} {ps : List (Addr × List Int)} {H2 : Hp} (I : DI H bs f (m + 1) at_ tr ps H2) (hz : atI bs at_ = some z) (hlt : at_ < bs.length) (h1 : z < 1 ∨ 201 < z ∨ (bs.length : Int) < at_ + z) : goR bs (bs.length + 1) 0 = (ps.map (·.2), some at_) := by
  rw [I.eq]
  have e : goR bs (m + 1) at_ = ([], some at_) := by
    show (if at_ < bs.length then _ else _) = _
    rw [if_pos hlt, hz]
    exact if_pos h1
  rw [e]
  simp
theorem DI.done {H : Hp} {bs : List Int} {f : Addr} {m : Nat} {at_ : Int} {tr : Prop} {ps : List (Addr × List Int)} {H2 : Hp} (I : DI H bs f m at_ tr ps H2) (hlt : ¬ at_ < bs.length) : goR bs (bs.length + 1) 0 = (ps.map (·.2), none) := by
  rw [I.eq]
  have e : goR bs m at_ = ([], none) := by
    cases m with
    | zero => rfl
    | succ m => exact if_neg hlt
  rw [e]
  simp
/-- what is told -/
structure Told (K : PySem.W.Frag) (H : Hp) (bs : List Int) (tr : Prop) (t f : Addr) (x : V) (ps : List (Addr × List Int)) (H' : Hp) : Prop where
  frm : Frm [] H H'
  tu : H' t = some (.tup [.ref f, x])
  fl : H' f = some (.lst (ps.map fun x => .ref x.1))
  fn : H f = none
  els : ∀ x ∈ ps, x.1 ≠ f ∧ H x.1 = none ∧ (tr → H' x.1 = some (.lst (ivs x.2)))
  pl : ps.length ≤ bs.length
  sz : ∀ x ∈ ps, x.2.length ≤ bs.length
  dp : Dp K H' (.ref t) (recD (goR bs (bs.length + 1) 0))
theorem cutI_len {xs : List Int} {lo hi : Option Int} : (cutI xs lo hi).length ≤ xs.length := by
  unfold cutI
  rw [List.length_take, List.length_drop]
  omega
theorem dp_lists {K : PySem.W.Frag} {H' : Hp} : ∀ ps : List (Addr × List Int), (∀ x ∈ ps, lstOf (H' x.1) = some (ivs x.2)) → DpAll K H' (ps.map fun x => .ref x.1) ((ps.map (·.2)).map fun ys => .list (ys.map .int))
  | [], _ => .nil
  | x :: ps, h => .cons (.lst (lstOf_sq (h x (by simp))) (dp_ints _)) (dp_lists ps fun y hy => h y (by simp [hy]))
theorem DI.told {K : PySem.W.Frag} {H : Hp} {bs : List Int} {f t : Addr} {m : Nat} {at_ : Int} {o : Option Int} {tr : Prop} {ps : List (Addr × List Int)} {H2 H3 : Hp} (I : DI H bs f m at_ tr ps H2) (e : goR bs (bs.length + 1) 0 = (ps.map (·.2), o)) (ht : H2 t = none) (F : Frm [] H2 H3) (hu : H3 t = some (.tup [.ref f, plV o]))
    (sz : ∀ x ∈ ps, x.2.length ≤ bs.length) : Told K H bs tr t f (plV o) ps H3 := by
  have fl : H3 f = some (.lst (ps.map fun x => .ref x.1)) := by rw [F f ne0 (by rw [I.fl]; simp)]; exact I.fl
  refine ⟨I.frm.trans' F, hu, fl, I.fn, fun x hx => ?_, by have := I.pl; have := I.a1; omega, sz, ?_⟩
  · obtain ⟨h1, h2, h3, h4⟩ := I.els x hx
    rw [F x.1 ne0 (lst_ne h3)]
    exact ⟨h1, h2, h4⟩
  · rw [e]
    refine .tup (SqT.of hu) (.cons (.lst (SqL.of fl) (dp_lists ps fun x hx => F.ls ne0 (I.els x hx).2.2.1)) (.cons ?_ .nil))
    cases o with
    | none => exact .non
    | some i => exact .int i
def spDue (K : PySem.W.Frag) (tr : Prop) : Sp := fun vs H Q _ => ∃ (r : Addr) (bs : List Int), vs = [.ref r] ∧ lstOf (H r) = some (ivs bs) ∧ bs.length ≤ 100000 ∧ ∀ t f x ps H', Told K H bs tr t f x ps H' → Q (.ref t) H'
theorem wp_due {Γ : Gam} {W : WX} (vs : List V) (H : Hp) (Q : VK) (E : XK) (h : spDue Γ.K False vs H Q E) : t__law_due Γ W { nx := fun _ H' => Q .non H', rt := Q } (L2.start N__law_due vs) H := by
  obtain ⟨r, bs, rfl, hr, hz, q⟩ := h
  show t__law_due Γ W _ [some (.ref r), none, none] H
  unfold t__law_due
  simp
  refine al_f fun f H1 hf f1 e1 => ?_
  simp
  refine wh_rule (fun m σ H' => ∃ at_ ps, σ = [some (.ref r), some (.ref f), some (.int at_)] ∧ DI H bs f m at_ False ps H' ∧ ∀ x ∈ ps, x.2.length ≤ bs.length) (bs.length + 1)
    ⟨0, [], rfl, ⟨f1, e1, hf, fun x hx => (by cases hx), by decide, by omega, by simp, by omega, by simp⟩, fun x hx => (by cases hx)⟩ ?_
  rintro m σ H2 ⟨at_, ps, rfl, I, sz⟩
  have l2 := I.frm.ls ne0 hr
  simp [l2]
  have a0 := I.a0
  split
  · rename_i hat
    obtain ⟨z, hz1, hz2, hz3⟩ := atI_ivs2 (ns := bs) a0 hat
    cases m with
    | zero => have := I.fu; omega
    | succ m =>
    refine ⟨_, fun _ _ z => z, ?_⟩
    have pl := I.pl
    have tell : z < 1 ∨ 201 < z ∨ (bs.length : Int) < at_ + z → 2 ≤ sizeLine ∧ alT [V.ref f, V.int at_] H2 (lk true Q) := fun hc => ⟨sl3 (by decide), al_tup fun t H3 ht f3 e3 => by
      rw [e_lkR, e3]
      exact q t f _ ps H3 (I.told (o := some at_) (I.stop hz2 hat hc) ht f3 e3 sz)⟩
    simp [l2, hz3]
    split
    · exact tell (.inl (by assumption))
    split
    · exact tell (.inr (.inl (by assumption)))
    split
    · exact tell (.inr (.inr (by assumption)))
    rename_i g1 g2 g3
    rw [I.fl]
    simp
    refine al_t fun p H3 hp f3 np3 l3 => ?_
    rw [cut_ivs] at l3
    have e3 : H3 f = some (.lst (ps.map fun x => .ref x.1)) := by rw [f3 f ne0 (by rw [I.fl]; simp)]; exact I.fl
    have l4 := f3.ls ne0 l2
    simp [e3]
    have J := I.step hz2 hat (by omega) hp f3 l3 False.elim
    have l5 := J.frm.ls ne0 hr
    simp [l5, hz3]
    refine ⟨sl3 (by omega), m, Nat.lt_succ_self _, _, J, fun a b hab => ?_⟩
    rcases List.mem_append.mp hab with h | h
    · exact sz _ h
    · have e := List.mem_singleton.mp h
      cases e
      exact cutI_len
  · rename_i hat
    refine ⟨sl3 (by decide), al_tup fun t H3 ht f3 e3 => ?_⟩
    rw [e_lkR, e3]
    exact q t f _ ps H3 (I.told (o := none) (I.done hat) ht f3 e3 sz)
theorem wp_rec {Γ : Gam} {W : WX} (gM : Γ.gl "MOST_BYTES" = some (.int 200)) (vs : List V) (H : Hp) (Q : VK) (E : XK) (h : spDue Γ.K True vs H Q E) : t_records_of Γ W { nx := fun _ H' => Q .non H', rt := Q } (L2.start N_records_of vs) H := by
  obtain ⟨r, bs, rfl, hr, hz, q⟩ := h
  show t_records_of Γ W _ [some (.ref r), none, none, none] H
  unfold t_records_of
  simp
  refine al_f fun f H1 hf f1 e1 => ?_
  simp
  refine wh_rule (fun m σ H' => ∃ at_ ps k3, σ = [some (.ref r), some (.ref f), some (.int at_), k3] ∧ DI H bs f m at_ True ps H' ∧ ∀ x ∈ ps, x.2.length ≤ bs.length) (bs.length + 1)
    ⟨0, [], none, rfl, ⟨f1, e1, hf, fun x hx => (by cases hx), by decide, by omega, by simp, by omega, by simp⟩, fun x hx => (by cases hx)⟩ ?_
  rintro m σ H2 ⟨at_, ps, k3, rfl, I, sz⟩
  have l2 := I.frm.ls ne0 hr
  simp [l2]
  have a0 := I.a0
  split
  · rename_i hat
    obtain ⟨z, hz1, hz2, hz3⟩ := atI_ivs2 (ns := bs) a0 hat
    cases m with
    | zero => have := I.fu; omega
    | succ m =>
    refine ⟨_, fun _ _ z => z, ?_⟩
    have pl := I.pl
    have tell : z < 1 ∨ 201 < z ∨ (bs.length : Int) < at_ + z → 2 ≤ sizeLine ∧ alT [V.ref f, V.int at_] H2 Q := fun hc => ⟨sl3 (by decide), al_tup fun t H3 ht f3 e3 => q t f _ ps H3 (I.told (o := some at_) (I.stop hz2 hat hc) ht f3 e3 sz)⟩
    simp [l2, hz3, gM]
    split
    · exact tell (.inl (by assumption))
    split
    · exact tell (.inr (.inl (by assumption)))
    split
    · exact tell (.inr (.inr (by assumption)))
    rename_i g1 g2 g3
    rw [I.fl]
    simp
    refine al_f fun p H3 hp f3 l3 => ?_
    rw [cut_ivs] at l3
    have e3 : H3 f = some (.lst (ps.map fun x => .ref x.1)) := by rw [f3 f ne0 (by rw [I.fl]; simp)]; exact I.fl
    simp [e3]
    have J := I.step hz2 hat (by omega) hp f3 (by rw [l3]; rfl) fun _ => l3
    refine ⟨sl3 (by omega), m, Nat.lt_succ_self _, _, J, fun a b hab => ?_⟩
    rcases List.mem_append.mp hab with h | h
    · exact sz _ h
    · have e := List.mem_singleton.mp h
      cases e
      exact cutI_len
  · rename_i hat
    refine ⟨sl3 (by decide), al_tup fun t H3 ht f3 e3 => ?_⟩
    exact q t f _ ps H3 (I.told (o := none) (I.done hat) ht f3 e3 sz)
end G

set_option maxHeartbeats 4000000
namespace G
open PySem PySem.Spec PyProof.Rows L2
/-- data that repr shows -/
structure Sm (d : PyData) (k n : Nat) : Prop where
  c : d.canLay0 = true
  i : d.intsShort 13 = true
  s : d.showable = true
  p : d.depth ≤ k
  b : d.bulk ≤ n
structure SmA (d : List PyData) (k n : Nat) : Prop where
  c : PyData.canLayAll0 d = true
  i : PyData.intsShortAll 13 d = true
  s : PyData.showableAll d = true
  p : PyData.depthAll d ≤ k
  b : PyData.bulkAll d ≤ n
theorem Sm.none {k n : Nat} : Sm .none k n := ⟨rfl, rfl, rfl, Nat.zero_le _, Nat.zero_le _⟩
theorem Sm.int {i : Int} {k n : Nat} (h : -1000000000 < i) (h2 : i < 1000000000) : Sm (.int i) k n := by
  refine ⟨rfl, ?_, ?_, Nat.zero_le _, Nat.zero_le _⟩
  · show decide _ = true
    have e := int_text_length_le10 (a := i) (k := 9) (by decide) (by omega)
    refine decide_eq_true ?_
    show (Str.ofString (toString i)).length ≤ 13
    rw [PySem.ofString_length]
    omega
  · show decide (i.natAbs.log2 < 1920) = true
    have e : i.natAbs.log2 < 62 := by
      by_cases h0 : i.natAbs = 0
      · rw [h0]; decide
      · exact (Nat.log2_lt h0).mpr (by omega)
    exact decide_eq_true (by omega)
theorem SmA.nil {k n : Nat} : SmA [] k n := ⟨rfl, rfl, rfl, Nat.zero_le _, Nat.zero_le _⟩
theorem SmA.cons {d : PyData} {ds : List PyData} {k a b : Nat} (h : Sm d k a) (r : SmA ds k b) : SmA (d :: ds) k (a + 1 + b) := by
  refine ⟨?_, ?_, ?_, ?_, ?_⟩
  · show (d.canLay0 && PyData.canLayAll0 ds) = true
    rw [h.c, r.c]; rfl
  · show (d.intsShort 13 && PyData.intsShortAll 13 ds) = true
    rw [h.i, r.i]; rfl
  · show (d.showable && PyData.showableAll ds) = true
    rw [h.s, r.s]; rfl
  · show max d.depth (PyData.depthAll ds) ≤ k
    exact Nat.max_le.mpr ⟨h.p, r.p⟩
  · show d.bulk + 1 + PyData.bulkAll ds ≤ _
    have := h.b; have := r.b
    omega
theorem SmA.list {ds : List PyData} {k n : Nat} (h : SmA ds k n) : Sm (.list ds) (k + 1) n := ⟨h.c, h.i, h.s, Nat.succ_le_succ h.p, h.b⟩
theorem SmA.tup {ds : List PyData} {k n : Nat} (h : SmA ds k n) : Sm (.tuple ds) (k + 1) n := ⟨h.c, h.i, h.s, Nat.succ_le_succ h.p, h.b⟩
theorem Sm.mono {d : PyData} {k n k' n' : Nat} (h : Sm d k n) (a : k ≤ k') (b : n ≤ n') : Sm d k' n' := ⟨h.c, h.i, h.s, Nat.le_trans h.p a, Nat.le_trans h.b b⟩
theorem SmA.mono {d : List PyData} {k n k' n' : Nat} (h : SmA d k n) (a : k ≤ k') (b : n ≤ n') : SmA d k' n' := ⟨h.c, h.i, h.s, Nat.le_trans h.p a, Nat.le_trans h.b b⟩
theorem SmA.each {k a : Nat} : ∀ ds : List PyData, (∀ d ∈ ds, Sm d k a) → SmA ds k (ds.length * (a + 1))
  | [], _ => SmA.nil
  | d :: ds, h => (SmA.cons (h d (by simp)) (SmA.each ds fun x hx => h x (by simp [hx]))).mono (Nat.le_refl _) (by rw [List.length_cons, Nat.add_mul]; omega)
theorem Sm.ivs {xs : List Int} {n : Nat} (h : ByteL xs) (hl : xs.length ≤ n) : Sm (.list (xs.map .int)) 1 n := by
  refine ((SmA.each (k := 0) (a := 0) (xs.map PyData.int) fun d hd => ?_).mono (Nat.le_refl _) (by rw [List.length_map]; omega)).list
  obtain ⟨x, hx, rfl⟩ := List.mem_map.mp hd
  have := h x hx
  exact Sm.int (by omega) (by omega)
theorem Sm.shown {d : PyData} {k n : Nat} (h : Sm d k n) (hn : n ≤ 1000000) : d.shown.length ≤ sizeLine := by
  have e := PyData.shown_le_bulk 13 (by decide) d (PyData.leavesShort_of_canLay0 13 d h.c h.i)
  have := h.b
  exact sl3 (by omega)
theorem Sm.shaped {d : PyData} {k n : Nat} (h : Sm d k n) (hk : k ≤ 64) : SeqAt.shaped d = true := by
  have := h.p
  show (d.canLay0 && decide (d.depth ≤ 64)) = true
  rw [h.c]
  exact decide_eq_true (by omega)
theorem repr_sm {K : PySem.W.Frag} {H : Hp} {a : Addr} {d : PyData} {k n : Nat} {Q : VK} (h : Dp K H (.ref a) d) (s : Sm d k n) (hk : k < 60) (hn : n ≤ 1000000) (q : Q (.str d.shown) H) : cRepr K [.ref a] H Q :=
  ⟨d, h, s.s, PyData.hasDict_of_canLay d s.c, Nat.lt_of_le_of_lt s.p hk, s.shown hn, q⟩
theorem goR_sm {bs : List Int} (hb : ByteL bs) : ∀ (f : Nat) (at_ : Int), 0 ≤ at_ → at_ ≤ bs.length → (∀ ys ∈ (goR bs f at_).1, ByteL ys ∧ ys.length ≤ bs.length) ∧ (goR bs f at_).1.length ≤ f ∧ (∀ z, (goR bs f at_).2 = some z → 0 ≤ z ∧ z ≤ bs.length)
  | 0, at_, _, _ => ⟨fun ys h => (by cases h), Nat.zero_le _, fun z h => (by cases h)⟩
  | f + 1, at_, h0, h1 => by
    have nn : (∀ ys ∈ (([], none) : List (List Int) × Option Int).1, ByteL ys ∧ ys.length ≤ bs.length) ∧ (([], none) : List (List Int) × Option Int).1.length ≤ f + 1 ∧ (∀ z, (([], none) : List (List Int) × Option Int).2 = some z → 0 ≤ z ∧ z ≤ bs.length) := ⟨fun ys h => (by cases h), Nat.zero_le _, fun z h => (by cases h)⟩
    unfold goR
    split
    · split
      · rename_i m e
        split
        · exact ⟨fun ys h => (by cases h), Nat.zero_le _, fun z h => (by cases h; exact ⟨h0, h1⟩)⟩
        · rename_i hc
          obtain ⟨i1, i2, i3⟩ := goR_sm hb f (at_ + m) (by omega) (by omega)
          refine ⟨fun ys h => ?_, by simp; omega, i3⟩
          rcases List.mem_cons.mp h with rfl | h
          · exact ⟨cut_bytes hb, cutI_len⟩
          · exact i1 ys h
      · exact nn
    · exact nn
theorem recD_sm {bs : List Int} (hb : ByteL bs) (hl : bs.length ≤ 400) : Sm (recD (goR bs (bs.length + 1) 0)) 4 200000 := by
  obtain ⟨h1, h2, h3⟩ := goR_sm hb (bs.length + 1) 0 (by decide) (by omega)
  generalize goR bs (bs.length + 1) 0 = r at h1 h2 h3
  have a : Sm (.list (r.1.map fun ys => .list (ys.map .int))) 2 (401 * 401) := by
    refine ((SmA.each (k := 1) (a := 400) (r.1.map fun ys => PyData.list (ys.map PyData.int)) fun d hd => ?_).mono (Nat.le_refl _) ?_).list
    · obtain ⟨ys, hy, rfl⟩ := List.mem_map.mp hd
      obtain ⟨b1, b2⟩ := h1 ys hy
      exact Sm.ivs b1 (by omega)
    · rw [List.length_map]
      exact Nat.mul_le_mul (by omega) (Nat.le_refl _)
  have b : Sm (plD r.2) 3 0 := by
    cases e : r.2 with
    | none => exact Sm.none
    | some z => have := h3 z e; exact Sm.int (by omega) (by omega)
  exact ((SmA.cons (k := 3) (a.mono (by decide) (Nat.le_refl _)) (SmA.cons b (SmA.nil (n := 0)))).mono (k' := 3) (n' := 200000) (Nat.le_refl _) (by decide)).tup
theorem eqv_ints {xs : List Int} {n : Nat} (h : Sm (.list (xs.map .int)) 1 n) : PyData.eqv (.list (xs.map .int)) (.list (xs.map .int)) = true := SeqAt.eqv_refl _ h.c
def spAsked : Sp := fun vs H Q _ => ∃ (r : Addr) (bs : List Int), vs = [.ref r] ∧ BL H r bs ∧ bs.length ≤ 400 ∧ ∀ H', Frm [] H H' → Q (.bl true) H'
theorem wp_asked {Γ : Gam} {W : WX} (GD : HasFn Γ "_law_due" (spDue Γ.K False)) (GR : HasFn Γ "records_of" (spDue Γ.K True)) (vs : List V) (H : Hp) (Q : VK) (E : XK) (h : spAsked vs H Q E) : t__law_asked Γ W { nx := fun _ H' => Q .non H', rt := Q } (L2.start N__law_asked vs) H := by
  obtain ⟨r, bs, rfl, hB, hl, q⟩ := h
  have sm := recD_sm hB.b hl
  have si := Sm.ivs hB.b hl
  show t__law_asked Γ W _ [some (.ref r), none, none, none, none] H
  unfold t__law_asked
  simp
  refine ⟨GD.df, GD.fn _ _ _ _ ⟨r, bs, rfl, hB.l, by omega, fun t1 f1 x1 ps1 H1 T1 => ?_⟩⟩
  have l1 := T1.frm.ls ne0 hB.l
  simp [l1]
  refine al_f fun h H2 hh F2 e2 => ?_
  simp
  have F02 := T1.frm.trans' F2
  refine ⟨GR.df, GR.fn _ _ _ _ ⟨h, bs, rfl, by rw [e2]; rfl, by omega, fun t2 f2 x2 ps2 H3 T2 => ?_⟩⟩
  have F03 := F02.trans' T2.frm
  have F13 := F2.trans' T2.frm
  have d1 : Dp Γ.K H3 (.ref t1) (recD (goR bs (bs.length + 1) 0)) := dp_frm F13 T1.dp
  simp
  refine repr_sm T2.dp sm (by decide) (by decide) ?_
  simp
  refine repr_sm d1 sm (by decide) (by decide) ?_
  have e3 : H3 h = some (.lst (ivs bs)) := by rw [T2.frm h ne0 (by rw [e2]; simp)]; exact e2
  have l3 := F03.ls ne0 hB.l
  simp [e_neR]
  refine ⟨_, _, .lst (SqL.of e3) (dp_ints bs), .lst (lstOf_sq l3) (dp_ints bs), si.shaped (by decide), si.shaped (by decide), ?_⟩
  rw [eqv_ints si]
  simp only [e_tbK, e_orK, Bool.not_true, Bool.false_eq_true, if_false, e_ifK, e_next]
  simp [T2.tu]
  have a0 : atI [V.ref f2, x2] 0 = some (.ref f2) := rfl
  rw [a0]
  simp [T2.fl]
  have n2 : ∀ b, H2 b = none → H1 b = none := fun b hb => F2.gone hb ne0
  have hf2 : H1 f2 = none := n2 _ T2.fn
  refine lp_list (xs := ps2.map fun x => V.ref x.1) (fun i σ H' => (∃ k4, σ = [some (.ref r), some (.ref t1), some (.ref h), some (.ref t2), k4]) ∧ Frm [] H1 H' ∧ H' t2 = some (.tup [.ref f2, x2]) ∧ H' f2 = some (.lst (ps2.map fun x => V.ref x.1)) ∧ H' h = some (.lst (ivs bs)) ∧ ∀ x ∈ ps2, ∃ ys, H' x.1 = some (.lst ys) ∧ ys.length ≤ 400 + i)
    ⟨⟨none, rfl⟩, F13, T2.tu, T2.fl, e3, fun x hx => ⟨_, (T2.els x hx).2.2 trivial, by rw [List.length_map]; have := T2.sz x hx; omega⟩⟩ (fun i σ H' ⟨_, _, _, h4, _⟩ => by rw [h4]; rfl) ?_ ?_
  · rintro i x σ H4 hx ⟨⟨k4, rfl⟩, F, tu, fl, hd, el⟩
    rw [List.getElem?_map] at hx
    cases ex : ps2[i]? with
    | none => rw [ex] at hx; cases hx
    | some pr =>
      rw [ex] at hx
      cases hx
      have hm := List.mem_of_getElem? ex
      obtain ⟨ys, hy, hyl⟩ := el pr hm
      obtain ⟨g1, g2, g3⟩ := T2.els pr hm
      have gt : pr.1 ≠ t2 := fun e => by rw [e, tu] at hy; cases hy
      have gh : pr.1 ≠ h := fun e => by rw [e, e2] at g2; cases g2
      have hi : i < ps2.length := (List.getElem?_eq_some_iff.mp ex).1
      have := T2.pl
      simp [hy]
      refine ⟨sl3 (by omega), F.put (.inr (n2 _ g2)), by rw [upd_ne (Ne.symm gt)]; exact tu, by rw [upd_ne (Ne.symm g1)]; exact fl, by rw [upd_ne (Ne.symm gh)]; exact hd, fun a b hab => ?_⟩
      by_cases e : a = pr.1
      · subst e
        exact ⟨_, upd_same, by simp; omega⟩
      · obtain ⟨zs, hz, hzl⟩ := el (a, b) hab
        exact ⟨zs, by rw [upd_ne e]; exact hz, by omega⟩
  · rintro σ H4 ⟨⟨k4, rfl⟩, F, tu, fl, hd, el⟩
    simp [tu, a0, fl]
    refine ⟨sl3 (by decide), al_t fun p H5 hp f5 np5 l5 => ?_⟩
    have fl5 : H5 f2 = some (.lst (ps2.map fun x => V.ref x.1)) := by rw [f5 f2 ne0 (by rw [fl]; simp)]; exact fl
    have hd5 : H5 h = some (.lst (ivs bs)) := by rw [f5 h ne0 (by rw [hd]; simp)]; exact hd
    have hhf : h ≠ f2 := fun e => by
      have z := T2.fn
      rw [← e, e2] at z
      cases z
    have pl := T2.pl
    simp [fl5]
    refine ⟨sl3 (by omega), ?_⟩
    have hd6 : upd H5 f2 (.lst ((ps2.map fun x => V.ref x.1) ++ [V.ref p])) h = some (.lst (ivs bs)) := by rw [upd_ne hhf]; exact hd5
    simp [hd6]
    refine ⟨sl3 (by omega), ?_⟩
    have F7 : Frm [] H1 (upd (upd H5 f2 (.lst ((ps2.map fun x => V.ref x.1) ++ [V.ref p]))) h (.lst (ivs bs ++ [V.int 5]))) := ((F.trans' f5).put (.inr hf2)).put (.inr hh)
    generalize upd (upd H5 f2 (.lst ((ps2.map fun x => V.ref x.1) ++ [V.ref p]))) h (.lst (ivs bs ++ [V.int 5])) = H7 at F7 ⊢
    have FH7 := T1.frm.trans' F7
    have l7 := FH7.ls ne0 hB.l
    refine ⟨GR.df, ?_⟩
    simp [l7]
    refine al_t fun c H8 hc f8 nc l8 => ?_
    simp
    refine GR.fn _ _ _ _ ⟨c, bs, rfl, l8, by omega, fun t3 f3 x3 ps3 H9 T3 => ?_⟩
    simp
    refine repr_sm T3.dp sm (by decide) (by decide) ?_
    simp
    refine repr_sm (dp_frm ((F7.trans' f8).trans' T3.frm) T1.dp) sm (by decide) (by decide) ?_
    simp
    exact q _ ((FH7.trans' f8).trans' T3.frm)
def spLaw (K : PySem.W.Frag) : Sp := fun vs H Q _ => ∃ (s : Addr) (ns : List Int), vs = [.ref s] ∧ SqL K H s (ivs ns) ∧ ns.length ≤ 63 ∧ ∀ H', Q (.bl true) H'
theorem wp_law {Γ : Gam} {W : WX} (GP : HasFn Γ "_law_pool" (spPool Γ)) (GW : HasFn Γ "_law_row" spRow) (GA : HasFn Γ "_law_asked" spAsked) (vs : List V) (H : Hp) (Q : VK) (E : XK) (h : spLaw Γ.K vs H Q E) : t_law Γ W { nx := fun _ H' => Q .non H', rt := Q } (L2.start N_law vs) H := by
  obtain ⟨s, ns, rfl, hs, hl, q⟩ := h
  show t_law Γ W _ [some (.ref s), none, none] H
  unfold t_law
  simp
  refine ⟨_, hs, ⟨by omega, by omega⟩, lp_range (fun i σ H' => (∃ k1 k2, σ = [some (.ref s), k1, k2]) ∧ Frm [] H H') ⟨⟨none, none, rfl⟩, Frm.refl⟩ ?_ ?_⟩
  · rintro i σ H2 hi ⟨⟨k1, k2, rfl⟩, F⟩
    rw [List.length_map] at hi
    simp
    refine ⟨GW.df, GP.df, GP.fn _ _ _ _ ⟨s, ns, _, rfl, F.sq ne0 hs, ⟨by omega, by omega⟩, fun p H3 hp f3 p3 => ?_⟩⟩
    simp
    refine GW.fn _ _ _ _ ⟨p, _, rfl, p3, by decide, fun r bs H4 hr f4 b4 hl4 => ?_⟩
    have F4 : Frm [] H H4 := (F.trans' f3).trans f4 fun b hb => by
      rw [List.mem_singleton.mp hb]
      exact .inr (F.gone hp ne0)
    simp
    refine ⟨GA.df, GA.fn _ _ _ _ ⟨r, bs, rfl, b4, hl4, fun H5 f5 => ?_⟩⟩
    simp
    exact F4.trans' f5
  · rintro σ H2 ⟨⟨k1, k2, rfl⟩, F⟩
    simp
    exact q _
end G

set_option maxHeartbeats 0
namespace Hd
open PySem PySem.Spec PyProof.Rows L2

def d0 : He.DefD := ⟨("records_of", none), "records_of", "records_of", defArgs (top 2), defBody (top 2), defScope (top 2), [], []⟩
def d1 : He.DefD := ⟨("_law_pool", none), "_law_pool", "_law_pool", defArgs (top 4), defBody (top 4), defScope (top 4), [], []⟩
def d2 : He.DefD := ⟨("_law_take", none), "_law_take", "_law_take", defArgs (top 5), defBody (top 5), defScope (top 5), [], []⟩
def d3 : He.DefD := ⟨("_law_entry", none), "_law_entry", "_law_entry", defArgs (top 6), defBody (top 6), defScope (top 6), [], []⟩
def d4 : He.DefD := ⟨("_law_frames", none), "_law_frames", "_law_frames", defArgs (top 7), defBody (top 7), defScope (top 7), [], []⟩
def d5 : He.DefD := ⟨("_law_row", none), "_law_row", "_law_row", defArgs (top 8), defBody (top 8), defScope (top 8), [], []⟩
def d6 : He.DefD := ⟨("_law_due", none), "_law_due", "_law_due", defArgs (top 9), defBody (top 9), defScope (top 9), [], []⟩
def d7 : He.DefD := ⟨("_law_asked", none), "_law_asked", "_law_asked", defArgs (top 10), defBody (top 10), defScope (top 10), [], []⟩
def d8 : He.DefD := ⟨("law", none), "law", "law", defArgs (top 11), defBody (top 11), defScope (top 11), [], []⟩
def fn : List He.DefD := [d0, d1, d2, d3, d4, d5, d6, d7, d8]
def fa : List He.Fa := [.glo "records_of", .glo "_law_pool", .glo "_law_take", .glo "_law_entry", .glo "_law_frames", .glo "_law_row", .glo "_law_due", .glo "_law_asked", .glo "law", .free "len", .free "range", .free "list", .free "min", .free "max", .free "isinstance", .free "repr", .free "int", .free "str", .free "bool", .free "enumerate", .free "zip", .free "all", .free "tuple", .free "dict", .free "divmod", .free "sum", .int "MOST_BYTES" 200]
abbrev R : PySem.W.OpenRow := PySem.W.OpenLaw.row PySem.Challenge.rw_sipstack_k86_records_of_any_row
abbrev hk : PySem.W.Hook := He.hookD 5 fa fn
def ob (s : PySem.W.SharedT) : He.AlD := He.obsDG 5 fa fn (HandSHeadRun.getT s)
theorem ob_eq (s : PySem.W.SharedT) : ob s = hk.obs s.abs := He.obsDG_eq (HandSHeadRun.getT_eq s)

def nm0 : List PySem.Str := ["MOST_BYTES", "records_of", "_law_pool", "_law_take", "_law_entry", "_law_frames", "_law_row", "_law_due", "_law_asked"]
def loose : List PySem.Str := nm0
theorem run (w : World) : HandSHeadRun.RunEq R (PySem.W.view R.prog [11]) hk ob 600 loose w := by
  intro os
  kernel_rfl
end Hd

set_option maxHeartbeats 0
namespace G
open PySem PySem.Spec PyProof.Rows L2
def glf (x : Str) : Option V := if x = ("MOST_BYTES" : Str) then some (.int 200) else none
abbrev gm0 (K : PySem.W.Frag) : Gam := gam0 K glf
abbrev gm1 (K : PySem.W.Frag) : Gam := (gm0 K).addF "_law_pool" (spPool (gam0 K glf))
abbrev gm2 (K : PySem.W.Frag) : Gam := (gm1 K).addF "_law_take" spTake
abbrev gm3 (K : PySem.W.Frag) : Gam := (gm2 K).addF "_law_entry" spEntry
abbrev gm4 (K : PySem.W.Frag) : Gam := (gm3 K).addF "_law_frames" spFrames
abbrev gm5 (K : PySem.W.Frag) : Gam := (gm4 K).addF "_law_row" spRow
abbrev gm6 (K : PySem.W.Frag) : Gam := (gm5 K).addF "_law_due" (spDue K False)
abbrev gm7 (K : PySem.W.Frag) : Gam := (gm6 K).addF "records_of" (spDue K True)
abbrev gm8 (K : PySem.W.Frag) : Gam := (gm7 K).addF "_law_asked" spAsked
theorem facts {P : Program} {w : World} {K : PySem.W.Frag} {h : Heap} {mg : Str → Option Value} {f : Addr} (kin : K.In h) (ns : h.Ns mainGlobals mg) (hmg : mg ("law" : Str) = some (.ref f)) (c : He.SaysD Hd.fa Hd.fn K) :
    ∃ fd : FuncData, (∀ (s : Shared) (v : Value), BindsTo s fd ⟨[v], []⟩ [("_law_script", v)]) ∧ ∀ base : Heap, K.In base → base.Ns mainGlobals mg → FnG P w K mg base 9 f fd ["_law_script"] (spLaw K) := by
  have free_len := He.free_ok kin ns (c.fact 9 (f := .free "len") rfl)
  have free_list := He.free_ok kin ns (c.fact 11 (f := .free "list") rfl)
  have free_min := He.free_ok kin ns (c.fact 12 (f := .free "min") rfl)
  have free_max := He.free_ok kin ns (c.fact 13 (f := .free "max") rfl)
  have free_range := He.free_ok kin ns (c.fact 10 (f := .free "range") rfl)
  have free_repr := He.free_ok kin ns (c.fact 15 (f := .free "repr") rfl)
  obtain ⟨tk_MOST_BYTES, int_MOST_BYTES⟩ := He.int_ok kin ns (c.fact 26 (f := .int "MOST_BYTES" 200) rfl)
  obtain ⟨fd0, F0⟩ := c.def_ 1 (d := Hd.d1) rfl
  have a0 := He.glo_ok kin ns (c.fact 1 (f := .glo "_law_pool") rfl)
  have b0 := FunD.bindsA (ps := ["_law_script", "_law_at"]) F0 fun _ _ _ _ _ _ us hl => match us, hl with | [_, _], _ => rfl
  obtain ⟨fd1, F1⟩ := c.def_ 2 (d := Hd.d2) rfl
  have a1 := He.glo_ok kin ns (c.fact 2 (f := .glo "_law_take") rfl)
  have b1 := FunD.bindsA (ps := ["_law_pool_here", "_law_wide"]) F1 fun _ _ _ _ _ _ us hl => match us, hl with | [_, _], _ => rfl
  obtain ⟨fd2, F2⟩ := c.def_ 3 (d := Hd.d3) rfl
  have a2 := He.glo_ok kin ns (c.fact 3 (f := .glo "_law_entry") rfl)
  have b2 := FunD.bindsA (ps := ["_law_pool_here", "_law_most"]) F2 fun _ _ _ _ _ _ us hl => match us, hl with | [_, _], _ => rfl
  obtain ⟨fd3, F3⟩ := c.def_ 4 (d := Hd.d4) rfl
  have a3 := He.glo_ok kin ns (c.fact 4 (f := .glo "_law_frames") rfl)
  have b3 := FunD.bindsA (ps := ["_law_entries"]) F3 fun _ _ _ _ _ _ us hl => match us, hl with | [_], _ => rfl
  obtain ⟨fd4, F4⟩ := c.def_ 5 (d := Hd.d5) rfl
  have a4 := He.glo_ok kin ns (c.fact 5 (f := .glo "_law_row") rfl)
  have b4 := FunD.bindsA (ps := ["_law_pool_here"]) F4 fun _ _ _ _ _ _ us hl => match us, hl with | [_], _ => rfl
  obtain ⟨fd5, F5⟩ := c.def_ 6 (d := Hd.d6) rfl
  have a5 := He.glo_ok kin ns (c.fact 6 (f := .glo "_law_due") rfl)
  have b5 := FunD.bindsA (ps := ["_law_row_here"]) F5 fun _ _ _ _ _ _ us hl => match us, hl with | [_], _ => rfl
  obtain ⟨fd6, F6⟩ := c.def_ 0 (d := Hd.d0) rfl
  have a6 := He.glo_ok kin ns (c.fact 0 (f := .glo "records_of") rfl)
  have b6 := FunD.bindsA (ps := ["row"]) F6 fun _ _ _ _ _ _ us hl => match us, hl with | [_], _ => rfl
  obtain ⟨fd7, F7⟩ := c.def_ 7 (d := Hd.d7) rfl
  have a7 := He.glo_ok kin ns (c.fact 7 (f := .glo "_law_asked") rfl)
  have b7 := FunD.bindsA (ps := ["_law_row_here"]) F7 fun _ _ _ _ _ _ us hl => match us, hl with | [_], _ => rfl
  obtain ⟨fd8, F8⟩ := c.def_ 8 (d := Hd.d8) rfl
  have a8 := He.glo_ok kin ns (c.fact 8 (f := .glo "law") rfl)
  have b8 := FunD.bindsA (ps := ["_law_script"]) F8 fun _ _ _ _ _ _ us hl => match us, hl with | [_], _ => rfl
  have same := hmg.symm.trans a8
  cases same
  refine ⟨fd8, fun s v => b8 s [v] rfl, fun base bk bn => ?_⟩
  have G0 : ∀ A : Around, RoomG 0 A → GamOk (gm0 K) P w K mg base A := fun A _ => gam0_ok (fun x v e => ?gl) ?free
  have H0 : FnG P w K mg base 1 _ fd0 ["_law_script", "_law_at"] ((spPool (gam0 K glf))) := fnG_by (k := 0) F0 sc__law_pool G0 (fun vs H Q E ⟨_, _, _, e, _⟩ => e ▸ rfl) (r__law_pool (gm0 K)) (fun vs H Q E h => wp_pool vs H Q E h)
  have G1 : ∀ A : Around, RoomG 1 A → GamOk (gm1 K) P w K mg base A := fun A hr => (G0 A (hr.mono (by decide))).addF a0 F0.kp hr H0 (fun vs H Q E ⟨_, _, _, e, _⟩ => e ▸ rfl) b0
  have H1 : FnG P w K mg base 2 _ fd1 ["_law_pool_here", "_law_wide"] (spTake) := fnG_by (k := 1) F1 sc__law_take G1 (fun vs H Q E ⟨_, _, _, e, _⟩ => e ▸ rfl) (r__law_take (gm1 K)) (fun vs H Q E h => wp_take vs H Q E h)
  have G2 : ∀ A : Around, RoomG 2 A → GamOk (gm2 K) P w K mg base A := fun A hr => (G1 A (hr.mono (by decide))).addF a1 F1.kp hr H1 (fun vs H Q E ⟨_, _, _, e, _⟩ => e ▸ rfl) b1
  have H2 : FnG P w K mg base 3 _ fd2 ["_law_pool_here", "_law_most"] (spEntry) := fnG_by (k := 2) F2 sc__law_entry G2 (fun vs H Q E ⟨_, _, _, e, _⟩ => e ▸ rfl) (r__law_entry (gm2 K)) (fun vs H Q E h => wp_entry (HasTake.of HasFn.new) vs H Q E h)
  have G3 : ∀ A : Around, RoomG 3 A → GamOk (gm3 K) P w K mg base A := fun A hr => (G2 A (hr.mono (by decide))).addF a2 F2.kp hr H2 (fun vs H Q E ⟨_, _, _, e, _⟩ => e ▸ rfl) b2
  have H3 : FnG P w K mg base 4 _ fd3 ["_law_entries"] (spFrames) := fnG_by (k := 3) F3 sc__law_frames G3 (fun vs H Q E ⟨_, _, _, e, _⟩ => e ▸ rfl) (r__law_frames (gm3 K)) (fun vs H Q E h => wp_frames vs H Q E h)
  have G4 : ∀ A : Around, RoomG 4 A → GamOk (gm4 K) P w K mg base A := fun A hr => (G3 A (hr.mono (by decide))).addF a3 F3.kp hr H3 (fun vs H Q E ⟨_, _, _, e, _⟩ => e ▸ rfl) b3
  have H4 : FnG P w K mg base 5 _ fd4 ["_law_pool_here"] (spRow) := fnG_by (k := 4) F4 sc__law_row G4 (fun vs H Q E ⟨_, _, e, _⟩ => e ▸ rfl) (r__law_row (gm4 K)) (fun vs H Q E h => wp_row (HasTake.of HasFn.new.old.old) HasFn.new.old HasFn.new vs H Q E h)
  have G5 : ∀ A : Around, RoomG 5 A → GamOk (gm5 K) P w K mg base A := fun A hr => (G4 A (hr.mono (by decide))).addF a4 F4.kp hr H4 (fun vs H Q E ⟨_, _, e, _⟩ => e ▸ rfl) b4
  have H5 : FnG P w K mg base 6 _ fd5 ["_law_row_here"] ((spDue K False)) := fnG_by (k := 5) F5 sc__law_due G5 (fun vs H Q E ⟨_, _, e, _⟩ => e ▸ rfl) (r__law_due (gm5 K)) (fun vs H Q E h => wp_due vs H Q E h)
  have G6 : ∀ A : Around, RoomG 6 A → GamOk (gm6 K) P w K mg base A := fun A hr => (G5 A (hr.mono (by decide))).addF a5 F5.kp hr H5 (fun vs H Q E ⟨_, _, e, _⟩ => e ▸ rfl) b5
  have H6 : FnG P w K mg base 7 _ fd6 ["row"] ((spDue K True)) := fnG_by (k := 6) F6 sc_records_of G6 (fun vs H Q E ⟨_, _, e, _⟩ => e ▸ rfl) (r_records_of (gm6 K)) (fun vs H Q E h => wp_rec rfl vs H Q E h)
  have G7 : ∀ A : Around, RoomG 7 A → GamOk (gm7 K) P w K mg base A := fun A hr => (G6 A (hr.mono (by decide))).addF a6 F6.kp hr H6 (fun vs H Q E ⟨_, _, e, _⟩ => e ▸ rfl) b6
  have H7 : FnG P w K mg base 8 _ fd7 ["_law_row_here"] (spAsked) := fnG_by (k := 7) F7 sc__law_asked G7 (fun vs H Q E ⟨_, _, e, _⟩ => e ▸ rfl) (r__law_asked (gm7 K)) (fun vs H Q E h => wp_asked HasFn.new.old HasFn.new vs H Q E h)
  have G8 : ∀ A : Around, RoomG 8 A → GamOk (gm8 K) P w K mg base A := fun A hr => (G7 A (hr.mono (by decide))).addF a7 F7.kp hr H7 (fun vs H Q E ⟨_, _, e, _⟩ => e ▸ rfl) b7
  have H8 : FnG P w K mg base 9 _ fd8 ["_law_script"] (spLaw K) := fnG_by (k := 8) F8 sc_law G8 (fun vs H Q E ⟨_, _, e, _⟩ => e ▸ rfl) (r_law (gm8 K)) (fun vs H Q E h => wp_law ⟨HasFn.new.old.old.old.old.old.old.old.df, HasFn.new.old.old.old.old.old.old.old.fn⟩ HasFn.new.old.old.old HasFn.new vs H Q E h)
  exact H8
  case gl => 
    unfold glf at e
    split at e
    · rename_i hx
      cases e
      exact ⟨_, by rw [hx]; exact int_MOST_BYTES, ⟨tk_MOST_BYTES, rfl⟩⟩
    · cases e
  case free =>
    intro x hx
    simp only [blts, List.mem_cons, List.not_mem_nil, or_false] at hx
    rcases hx with rfl | rfl | rfl | rfl | rfl | rfl
    all_goals assumption
end G
open PySem PySem.W PySem.Calls PyProof.Rows
theorem PySem.Challenge.cw_sipstack_k86_records_of_any_row_holds : PySem.Challenge.rw_sipstack_k86_records_of_any_row.Holds := by
  w_on; o_law
  refine HandSHeadRun.head_any (r := OpenLaw.row PySem.Challenge.rw_sipstack_k86_records_of_any_row) (q := view (OpenLaw.row PySem.Challenge.rw_sipstack_k86_records_of_any_row).prog [11]) (H := Hd.hk) (ob := Hd.ob) (M := 600) (loose := Hd.loose) (d := HandSHeadRun.topDef (OpenLaw.row PySem.Challenge.rw_sipstack_k86_records_of_any_row).prog 11) (kwd := []) Hd.ob_eq
    (by kernel_rfl) (fun s => by kernel_rfl) Hd.run (by kernel_rfl) (by kernel_rfl) (by kernel_rfl) (by rfl) (by first | assumption | decide +kernel) (by decide +kernel) ⟨rfl, rfl, rfl, rfl, rfl, by decide +kernel⟩ ?hw ?hc
  case hw => w_witness2
  case hc =>
    refine G.walk_end (l := PySem.Challenge.rw_sipstack_k86_records_of_any_row) (n := 63) (k := 9) (x := "_law_script") rfl (by decide) (by kernel_rfl) (G.room_law.mono (by decide)) ?F
    intro w mg fa h Y ns hmg0
    obtain ⟨K, kin, c⟩ := Y
    have hmg : mg ("law" : PySem.Str) = some (.ref fa) := by
      have e : (HandSHeadRun.topDef (OpenLaw.row PySem.Challenge.rw_sipstack_k86_records_of_any_row).prog 11).name = ("law" : PySem.Str) := by kernel_rfl
      exact e ▸ hmg0
    obtain ⟨fd, hb, hF⟩ := G.facts (P := (PySem.Challenge.rw_sipstack_k86_records_of_any_row).prog) (w := w) kin ns hmg c
    exact ⟨K, fd, G.spLaw K, kin, hb, fun H a nums hl _ hS => ⟨a, nums, rfl, hS, hl, fun _ => rfl⟩, hF⟩

