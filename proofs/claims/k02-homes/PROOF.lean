import PyProof.Rows.All
import Wide.All
import OpenK.AllK
import Wide.FinOn
import HandS.ForMost
import HandS.ForExc
import HandS.IsInst
import HandS.ExcIs
import HandS.Lambda
import HandS.EndTab
import HandS.Zip
import HandS.Walk
import HandS.TupAny
import HandS.TupLe
import HandS.TupSets
import HandS.Conv
import HandS.WideBits
import HandS.RaiseMore
import HandS.Deep
import HandS.Style
import HandS.TupLen
import HandS.Small
import KE.KIndexOf
import KE.SortData
import PySem.Challenge.RW_coverdues_k02_homes
import HandS.HeadWalk
import KE.KNestM
set_option Elab.async false
set_option linter.all false
set_option maxRecDepth 100000
set_option maxHeartbeats 4000000
section
namespace Cv
open PySem L2
theorem pe_cI {X : Cx} {x : Str} {i : Int} {pos : Pos} (hg : Gl X x) (h : ∃ t, X.mg x = some (.int i t)) (hd : (x == ("__debug__" : Str)) = false := by decide) : PE X (.Name x pos) (tC (.int i)) := by
  obtain ⟨t, h⟩ := h
  exact pe_glob hg h ⟨t, rfl⟩ hd

/-- what the written part says of an own exception class -/
structure ExcK (K : PySem.W.Frag) (C : Addr) : Prop where
  kp : PySem.W.keepIn K (.ref C) = true
  bs : PySem.W.subIn K (.ref C) (.type "BaseException") = some true
  ty : PySem.W.typeIn K (.ref C) = some (.type "type")
  is : PySem.W.isClsIn K C = true
  ec : ExcC K C
end Cv
end
section
/-! The U layer: readings as functions (a match on values and on what stands at an address). -/
namespace Cv
open PySem L2
section
variable {X : Cx}
theorem pe_imp {e : Expr} {t t' : TE} (h : PE X e t) (k : ∀ σ H Q, t' σ H Q → t σ H Q) : PE X e t' := ⟨fun pins s σ H Q I q => h.run pins s σ H Q I (k σ H Q q)⟩
theorem pt_imp {e : Expr} {t t' : TT} (h : PT X e t) (k : ∀ σ H Q, t' σ H Q → t σ H Q) : PT X e t' := ⟨fun pins s σ H Q I q => h.run pins s σ H Q I (k σ H Q q)⟩
theorem pg_imp {e : Expr} {t t' : TG} (h : PG X e t) (k : ∀ v σ H Q, t' v σ H Q → t v σ H Q) : PG X e t' := ⟨fun pins s σ H v u Q I r q => h.run pins s σ H v u Q I r (k v σ H Q q)⟩
theorem ps_imp {e : Stmt} {t t' : TS} (h : PS X e t) (k : ∀ D σ H, t' D σ H → t D σ H) : PS X e t' := ⟨fun pins s σ H D I q => h.run pins s σ H D I (k D σ H q)⟩
theorem pi_imp {tg e : Expr} {t t' : TI} (h : PI X tg e t) (k : ∀ σ H R, t' σ H R → t σ H R) : PI X tg e t' := ⟨fun pins s σ H R I q => h.run pins s σ H R I (k σ H R q)⟩
theorem opR_imp {f : Value → Value → Sem Value} {r r' : R2} (h : OpR X f r) (k : ∀ x y H Q, r' x y H Q → r x y H Q) : OpR X f r' := fun pins s σ H x y v u Q I rx ry q => h pins s σ H x y v u Q I rx ry (k _ _ _ _ q)
theorem callR_imp {f : Value} {r r' : List V → Hp → VK → Prop} (h : CallR X f r) (k : ∀ x H Q, r' x H Q → r x H Q) : CallR X f r' := fun pins s σ H xs us Q I rx q => h pins s σ H xs us Q I rx (k _ _ _ q)
/-! ### heaps -/
/-- a new tuple may be told with all else as it was -/
theorem al_tup {H : Hp} {xs : List V} {Q : VK} (h : ∀ p H', Same H H' → H' p = some (.tup xs) → Q (.ref p) H') : ∀ p, H p = none → Q (.ref p) (upd H p (.tup xs)) :=
  fun p hp => h p _ (fun b o e => by rw [upd_ne (ne_of_none e hp)]; exact e) upd_same
theorem al_lst {H : Hp} {xs : List V} {Q : VK} (h : ∀ p H', Same H H' → H p = none → H' p = some (.lst xs) → Q (.ref p) H') : ∀ p, H p = none → Q (.ref p) (upd H p (.lst xs)) :=
  fun p hp => h p _ (fun b o e => by rw [upd_ne (ne_of_none e hp)]; exact e) hp upd_same
/-- a new tuple, a new list: readings -/
abbrev NewT (xs : List V) (H : Hp) (Q : VK) : Prop := ∀ p H', Same H H' → H' p = some (.tup xs) → Q (.ref p) H'
abbrev NewL (xs : List V) (H : Hp) (Q : VK) : Prop := ∀ p H', Same H H' → H p = none → H' p = some (.lst xs) → Q (.ref p) H'
/-! ### names -/
def uVar (i : Nat) : TE := fun σ H Q => match σ[i]? with
  | some (some v) => Q v H
  | _ => False
theorem uv (i : Nat) {x : Str} {pos : Pos} (hN : X.N[i]? = some x := by rfl) (hv : Vis X.env.scope x := by first | exact Or.inl rfl | exact Or.inr (Or.inl rfl) | exact Or.inr (Or.inr rfl)) (hd : (x == ("__debug__" : Str)) = false := by decide)
    (hcd : (x == ("__classdict__" : Str)) = false := by decide) : PE X (.Name x pos) (uVar i) := pe_imp (pe_var hN hv hd hcd) fun σ H Q h => by
  unfold uVar at h
  split at h
  · exact ⟨_, by assumption, h⟩
  · exact h.elim
/-! ### operators -/
def uAdd : R2 := fun x y H Q => match x, y with
  | .int i, .int j => Q (.int (i + j)) H
  | .str a, .str b => a.length + b.length ≤ sizeLine ∧ Q (.str (a ++ b)) H
  | .ref p, .ref q => (match H p, H q with
    | some (.lst xs), some (.lst ys) => xs.length + ys.length ≤ sizeLine ∧ NewL (xs ++ ys) H Q
    | some (.tup xs), some (.tup ys) => xs.length + ys.length ≤ sizeLine ∧ NewT (xs ++ ys) H Q
    | _, _ => False)
  | _, _ => False
theorem u_add : OpR X (binaryOp .Add) uAdd := by
  intro pins s σ H x y v u Q I rx ry h
  unfold uAdd at h
  split at h
  · exact op_add pins s σ H _ _ v u Q I rx ry ⟨_, _, rfl, rfl, h⟩
  · exact op_add_str pins s σ H _ _ v u Q I rx ry ⟨_, _, rfl, rfl, h⟩
  · rename_i p q
    split at h
    · rename_i xs ys e1 e2
      exact op_cat pins s σ H _ _ v u Q I rx ry ⟨_, _, _, _, rfl, rfl, e1, e2, h.1, al_lst h.2⟩
    · rename_i xs ys e1 e2
      refine op_catA pins s σ H _ _ v u Q I rx ry ⟨_, _, _, _, rfl, rfl, SqT.of e1, SqT.of e2, h.1, fun z => ?_, fun _ z => ?_, fun _ _ => al_tup h.2⟩
      · subst z
        exact h.2 q H (Same.refl H) e2
      · subst z
        rw [List.append_nil] at h
        exact h.2 p H (Same.refl H) e1
    · exact h.elim
  · exact h.elim
def uSub : R2 := fun x y H Q => match x, y with
  | .int i, .int j => Q (.int (i - j)) H
  | _, _ => False
theorem u_sub : OpR X (binaryOp .Sub) uSub := opR_imp op_sub fun x y H Q h => by
  unfold uSub at h
  split at h
  · exact ⟨_, _, rfl, rfl, h⟩
  · exact h.elim
def uMul : R2 := fun x y H Q => match x, y with
  | .int i, .int j => CMul i j ∧ Q (.int (i * j)) H
  | .ref p, .int k => (match H p with
    | some (.lst xs) => (-(2 ^ 63) ≤ k ∧ k < 2 ^ 63 ∧ xs.length * k.toNat ≤ sizeLine) ∧ NewL (List.replicate k.toNat xs).flatten H Q
    | _ => False)
  | _, _ => False
theorem u_mul : OpR X (binaryOp .Mult) uMul := by
  intro pins s σ H x y v u Q I rx ry h
  unfold uMul at h
  split at h
  · exact op_mul pins s σ H _ _ v u Q I rx ry ⟨_, _, rfl, rfl, h⟩
  · split at h
    · rename_i xs e1
      exact op_rep pins s σ H _ _ v u Q I rx ry ⟨_, _, _, rfl, rfl, e1, h.1.1, h.1.2.1, h.1.2.2, al_lst h.2⟩
    · exact h.elim
  · exact h.elim
def uMod : R2 := fun x y H Q => match x, y with
  | .int i, .int j => 0 < j ∧ Q (.int (i % j)) H
  | _, _ => False
theorem u_mod : OpR X (binaryOp .Mod) uMod := opR_imp op_mod fun x y H Q h => by
  unfold uMod at h
  split at h
  · exact ⟨_, _, rfl, rfl, h⟩
  · exact h.elim
def uFdiv : R2 := fun x y H Q => match x, y with
  | .int i, .int j => (0 < j ∧ j < 1073741824) ∧ Q (.int (i / j)) H
  | _, _ => False
theorem u_fdiv : OpR X (binaryOp .FloorDiv) uFdiv := opR_imp op_fdiv fun x y H Q h => by
  unfold uFdiv at h
  split at h
  · exact ⟨_, _, rfl, rfl, h⟩
  · exact h.elim
def uPow : R2 := fun x y H Q => match x, y with
  | .int i, .int j => CPow i j ∧ Q (.int (i ^ j.toNat)) H
  | _, _ => False
theorem u_pow : OpR X (binaryOp .Pow) uPow := opR_imp op_pow fun x y H Q h => by
  unfold uPow at h
  split at h
  · exact ⟨_, _, rfl, rfl, h⟩
  · exact h.elim
def uNeg : V → Hp → VK → Prop := fun x H Q => match x with
  | .int i => Q (.int (-i)) H
  | _ => False
theorem u_neg : UnR X (unaryOp .USub) uNeg := fun pins s σ H x v Q I rx h => by
  unfold uNeg at h
  split at h
  · exact un_neg pins s σ H _ v Q I rx ⟨_, rfl, h⟩
  · exact h.elim
/-! ### comparisons -/
def uCmp (g : Int → Int → Bool) : R2 := fun x y H Q => match x, y with
  | .int i, .int j => Q (.bl (g i j)) H
  | _, _ => False
theorem uCmp_of {f : Value → Value → Sem Value} {g : Int → Int → Bool} (h : OpR X f (rI0 fun i j => .bl (g i j))) : OpR X f (uCmp g) := opR_imp h fun x y H Q h => by
  unfold uCmp at h
  split at h
  · exact ⟨_, _, rfl, rfl, h⟩
  · exact h.elim
def uLe : R2 := uCmp fun i j => decide (i ≤ j)
def uGt : R2 := uCmp fun i j => decide (j < i)
def uGe : R2 := uCmp fun i j => decide (j ≤ i)
theorem u_le : OpR X (compareOp .LtE) uLe := uCmp_of op_le
theorem u_gt : OpR X (compareOp .Gt) uGt := uCmp_of op_gt
theorem u_ge : OpR X (compareOp .GtE) uGe := uCmp_of op_ge
/-- < of numbers, of tuples of numbers -/
def uLt : R2 := fun x y H Q => match x, y with
  | .int i, .int j => Q (.bl (decide (i < j))) H
  | .ref p, .ref q => (match H p, H q with
    | some (.tup xs), some (.tup ys) => ∃ ns ms : List Int, xs = ns.map V.int ∧ ys = ms.map V.int ∧ Q (.bl (HT.lexLt ns ms)) H
    | _, _ => False)
  | _, _ => False
theorem u_lt (hu : X.A.units < cLine) : OpR X (compareOp .Lt) uLt := by
  intro pins s σ H x y v u Q I rx ry h
  unfold uLt at h
  split at h
  · exact op_lt pins s σ H _ _ v u Q I rx ry ⟨_, _, rfl, rfl, h⟩
  · split at h
    · rename_i xs ys e1 e2
      obtain ⟨ns, ms, rfl, rfl, h⟩ := h
      exact op_ltT hu pins s σ H _ _ v u Q I rx ry ⟨_, _, _, _, rfl, rfl, SqT.of e1, SqT.of e2, h⟩
    · exact h.elim
  · exact h.elim
/-- == of scalars; else by data -/
def uEqG (K : PySem.W.Frag) (g : Bool → Bool) : R2 := fun x y H Q => match x, y with
  | .int i, .int j => Q (.bl (g (decide (i = j)))) H
  | .str i, .str j => Q (.bl (g (decide (i = j)))) H
  | .bl i, .bl j => Q (.bl (g (decide (i = j)))) H
  | .non, .non => Q (.bl (g true)) H
  | .int _, .non => Q (.bl (g false)) H
  | .non, .int _ => Q (.bl (g false)) H
  | .str _, .non => Q (.bl (g false)) H
  | .non, .str _ => Q (.bl (g false)) H
  | x, y => ∃ d e, Dp K H x d ∧ Dp K H y e ∧ SeqAt.shaped d = true ∧ SeqAt.shaped e = true ∧ Q (.bl (g (PyData.eqv d e))) H
def uEq (K : PySem.W.Frag) : R2 := uEqG K fun b => b
def uNe (K : PySem.W.Frag) : R2 := uEqG K fun b => !b
theorem dec_int (i j : Int) : decide (V.int i = V.int j) = decide (i = j) := by simp
theorem dec_str (i j : Str) : decide (V.str i = V.str j) = decide (i = j) := by simp
theorem dec_bl (i j : Bool) : decide (V.bl i = V.bl j) = decide (i = j) := by simp
theorem u_eq (hu : X.A.units + 64 < cLine) : OpR X (compareOp .Eq) (uEq X.K) := by
  intro pins s σ H x y v u Q I rx ry h
  unfold uEq uEqG at h
  split at h
  · exact op_eq pins s σ H _ _ v u Q I rx ry ⟨rfl, by rw [dec_int]; exact h⟩
  · exact op_eq pins s σ H _ _ v u Q I rx ry ⟨rfl, by rw [dec_str]; exact h⟩
  · exact op_eq pins s σ H _ _ v u Q I rx ry ⟨rfl, by rw [dec_bl]; exact h⟩
  · exact op_eq pins s σ H _ _ v u Q I rx ry ⟨rfl, by simpa using h⟩
  · exact op_eq pins s σ H _ _ v u Q I rx ry ⟨rfl, by simpa using h⟩
  · exact op_eq pins s σ H _ _ v u Q I rx ry ⟨rfl, by simpa using h⟩
  · exact op_eq pins s σ H _ _ v u Q I rx ry ⟨rfl, by simpa using h⟩
  · exact op_eq pins s σ H _ _ v u Q I rx ry ⟨rfl, by simpa using h⟩
  · exact op_eqD hu pins s σ H _ _ v u Q I rx ry h
theorem u_ne (hu : X.A.units + 64 < cLine) : OpR X (compareOp .NotEq) (uNe X.K) := by
  intro pins s σ H x y v u Q I rx ry h
  unfold uNe uEqG at h
  split at h
  · exact op_ne pins s σ H _ _ v u Q I rx ry ⟨rfl, by rw [dec_int]; exact h⟩
  · exact op_ne pins s σ H _ _ v u Q I rx ry ⟨rfl, by rw [dec_str]; exact h⟩
  · exact op_ne pins s σ H _ _ v u Q I rx ry ⟨rfl, by rw [dec_bl]; exact h⟩
  · exact op_ne pins s σ H _ _ v u Q I rx ry ⟨rfl, by simpa using h⟩
  · exact op_ne pins s σ H _ _ v u Q I rx ry ⟨rfl, by simpa using h⟩
  · exact op_ne pins s σ H _ _ v u Q I rx ry ⟨rfl, by simpa using h⟩
  · exact op_ne pins s σ H _ _ v u Q I rx ry ⟨rfl, by simpa using h⟩
  · exact op_ne pins s σ H _ _ v u Q I rx ry ⟨rfl, by simpa using h⟩
  · exact op_neD hu pins s σ H _ _ v u Q I rx ry h
/-- is None, is True -/
def isNon : V → Bool
  | .non => true
  | _ => false
theorem isNon_dec (x : V) : decide (x = .non) = isNon x := by cases x <;> rfl
def uIsG (g : Bool → Bool) : R2 := fun x y H Q => match x, y with
  | .bl a, .bl b => Q (.bl (g (decide (a = b)))) H
  | x, .non => Q (.bl (g (isNon x))) H
  | _, _ => False
def uIs : R2 := uIsG fun b => b
def uIsNot : R2 := uIsG fun b => !b
theorem u_is : OpR X (compareOp .Is) uIs := by
  intro pins s σ H x y v u Q I rx ry h
  unfold uIs uIsG at h
  split at h
  · exact op_is_bl pins s σ H _ _ v u Q I rx ry ⟨_, _, rfl, rfl, h⟩
  · exact op_isN pins s σ H _ _ v u Q I rx ry ⟨rfl, by rw [isNon_dec]; exact h⟩
  · exact h.elim
theorem u_isnot : OpR X (compareOp .IsNot) uIsNot := by
  intro pins s σ H x y v u Q I rx ry h
  unfold uIsNot uIsG at h
  split at h
  · exact op_isnot_bl pins s σ H _ _ v u Q I rx ry ⟨_, _, rfl, rfl, h⟩
  · exact op_notN pins s σ H _ _ v u Q I rx ry ⟨rfl, by rw [isNon_dec]; exact h⟩
  · exact h.elim
/-- in: a list, a tuple of flat things; a dict's keys -/
def keyV : V → Option Key
  | .int i => some (.inl i)
  | .str x => some (.inr x)
  | _ => none
theorem keyV_is {x : V} {k : Key} (h : keyV x = some k) : x = kV k := by
  cases x <;> simp [keyV] at h <;> subst h <;> rfl
def keysV : List V → Option (List Key)
  | [] => some []
  | x :: r => match keyV x, keysV r with
    | some k, some ks => some (k :: ks)
    | _, _ => none
theorem keysV_is : ∀ {xs : List V} {ks : List Key}, keysV xs = some ks → xs = ks.map kV
  | [], ks, h => by simp [keysV] at h; subst h; rfl
  | x :: r, ks, h => by
    unfold keysV at h
    split at h
    · rename_i k ks' e1 e2
      cases h
      rw [keyV_is e1, keysV_is e2]; rfl
    · cases h
def uInG (g : Bool → Bool) : R2 := fun x y H Q => match y with
  | .ref p => (match H p with
    | some (.lst xs) => (flatV x = true ∧ xs.all flatV = true) ∧ Q (.bl (g (inV x xs))) H
    | some (.tup xs) => (flatV x = true ∧ xs.all flatV = true) ∧ Q (.bl (g (inV x xs))) H
    | some (.frz _ (.tup xs)) => (flatV x = true ∧ xs.all flatV = true) ∧ Q (.bl (g (inV x xs))) H
    | some (.dK kvs) => (match keyV x with
      | some k => Q (.bl (g (valV kvs k).isSome)) H
      | none => False)
    | some (.dT kvs) => (match x with
      | .ref t => (match H t with
        | some (.tup xs) => (match keysV xs with
          | some k => Q (.bl (g (valV kvs k).isSome)) H
          | none => False)
        | _ => False)
      | _ => False)
    | _ => False)
  | _ => False
def uIn : R2 := uInG fun b => b
def uNotIn : R2 := uInG fun b => !b
theorem u_in (hu : X.A.units + 1 < cLine) : OpR X (compareOp .In) uIn := by
  intro pins s σ H x y v u Q I rx ry h
  unfold uIn uInG at h
  split at h
  · rename_i p
    split at h
    · rename_i xs e
      exact op_in_seq pins s σ H _ _ v u Q I rx ry ⟨_, _, rfl, .inl (SqL.of e), h.1.1, h.1.2, h.2⟩
    · rename_i xs e
      exact op_in_seq pins s σ H _ _ v u Q I rx ry ⟨_, _, rfl, .inr (SqT.of e), h.1.1, h.1.2, h.2⟩
    · rename_i xs e
      exact op_in_seq pins s σ H _ _ v u Q I rx ry ⟨_, _, rfl, .inr (.inl (.inr ⟨_, e⟩)), h.1.1, h.1.2, h.2⟩
    · rename_i kvs e
      split at h
      · rename_i k ek
        have ex := keyV_is ek
        subst ex
        obtain rfl : u = Value.ref p := ry
        exact d_in hu I (DGet.k e) rx fun s3 I3 => ⟨.bl _, H, I3, rfl, h⟩
      · exact h.elim
    · rename_i kvs e
      split at h
      · rename_i t
        split at h
        · rename_i xs et
          split at h
          · rename_i k ek
            have ex := keysV_is ek
            subst ex
            obtain rfl : u = Value.ref p := ry
            exact d_in hu I (DGet.t e et) rx fun s3 I3 => ⟨.bl _, H, I3, rfl, h⟩
          · exact h.elim
        · exact h.elim
      · exact h.elim
    · exact h.elim
  · exact h.elim
theorem u_notin (hu : X.A.units + 1 < cLine) : OpR X (compareOp .NotIn) uNotIn := by
  intro pins s σ H x y v u Q I rx ry h
  unfold uNotIn uInG at h
  split at h
  · rename_i p
    split at h
    · rename_i xs e
      exact op_notIn_seq pins s σ H _ _ v u Q I rx ry ⟨_, _, rfl, .inl (SqL.of e), h.1.1, h.1.2, h.2⟩
    · rename_i xs e
      exact op_notIn_seq pins s σ H _ _ v u Q I rx ry ⟨_, _, rfl, .inr (SqT.of e), h.1.1, h.1.2, h.2⟩
    · rename_i xs e
      exact op_notIn_seq pins s σ H _ _ v u Q I rx ry ⟨_, _, rfl, .inr (.inl (.inr ⟨_, e⟩)), h.1.1, h.1.2, h.2⟩
    · rename_i kvs e
      split at h
      · rename_i k ek
        have ex := keyV_is ek
        subst ex
        obtain rfl : u = Value.ref p := ry
        exact d_notIn hu I (DGet.k e) rx fun s3 I3 => ⟨.bl _, H, I3, rfl, h⟩
      · exact h.elim
    · rename_i kvs e
      split at h
      · rename_i t
        split at h
        · rename_i xs et
          split at h
          · rename_i k ek
            have ex := keysV_is ek
            subst ex
            obtain rfl : u = Value.ref p := ry
            exact d_notIn hu I (DGet.t e et) rx fun s3 I3 => ⟨.bl _, H, I3, rfl, h⟩
          · exact h.elim
        · exact h.elim
      · exact h.elim
    · exact h.elim
  · exact h.elim
end
end Cv
end
section
namespace Cv
open PySem L2
section
variable {X : Cx}
open PySem.Spec PyProof.Rows in
theorem ix_dict (hu : X.A.units + 1 < cLine) : IxR X (fun x y H Q => ∃ a v, x = .ref a ∧ DGet H a y (some v) ∧ Q v H) := by
  intro value slice pins s σ H x y v u Q I rx ry h hs
  obtain ⟨a, w', rfl, g, q⟩ := h
  obtain rfl : v = Value.ref a := rx
  have hT := dict_typeIs I g
  unfold subscriptTail
  refine wpAny_bind ?_
  rw [getitemInPython_of_ne hT.not_modules]
  refine wpAny_bind (wpAny_specialOf hT PySem.F.slot_dict_getitem.lookup ?_)
  have h₂ : wpAny (model X.prog X.w) X.A (getItem (.ref a) u) (EP X pins σ Q) X.xe s := d_getItem hu I g ry fun w'' s3 I3 rw' => ⟨w', H, I3, rw', q⟩
  have fin : wpAny (model X.prog X.w) X.A (subscripted slice false (.ref a) u) (fun r s₃ => wpAny (model X.prog X.w) X.A (letTemporaryGo value (.ref a) r >>= fun _ => pure r) (EP X pins σ Q) X.xe s₃) X.xe s := by
    rw [hs]
    exact wpAny_operating (wpAny_mono h₂ (fun r s₃ h₃ => wpAny_bind (wpAny_letTemporaryGo (wpAny_pure h₃))) fun _ _ x => x)
  first
    | exact wpAny_pure (wpAny_bind fin)
    | exact wpAny_bind (wpAny_pure (wpAny_bind fin))
    | exact wpAny_bind fin
/-- x[y] -/
def uIx : R2 := fun x y H Q => match x with
  | .ref p => (match H p with
    | some (.lst xs) => (match y with
      | .int i => ∃ v, atI xs i = some v ∧ Q v H
      | _ => False)
    | some (.tup xs) => (match y with
      | .int i => ∃ v, atI xs i = some v ∧ Q v H
      | _ => False)
    | some (.frz _ (.tup xs)) => (match y with
      | .int i => ∃ v, atI xs i = some v ∧ Q v H
      | _ => False)
    | some (.dK kvs) => (match keyV y with
      | some k => ∃ v, valV kvs k = some v ∧ Q v H
      | none => False)
    | some (.dT kvs) => (match y with
      | .ref t => (match H t with
        | some (.tup xs) => (match keysV xs with
          | some k => ∃ v, valV kvs k = some v ∧ Q v H
          | none => False)
        | _ => False)
      | _ => False)
    | _ => False)
  | .str z => (match y with
    | .int i => z.length ≤ sizeLine ∧ ∃ c, atI z.cps.toList i = some c ∧ Q (.str ⟨#[c]⟩) H
    | _ => False)
  | _ => False
theorem u_ix (hu : X.A.units + 1 < cLine) : IxR X uIx := by
  intro value slice pins s σ H x y v u Q I rx ry h hs
  unfold uIx at h
  split at h
  · rename_i p
    split at h
    · rename_i xs e
      split at h
      · obtain ⟨w', e1, q⟩ := h
        exact ix_list value slice pins s σ H _ _ v u Q I rx ry ⟨_, _, _, _, rfl, rfl, SqL.of e, e1, q⟩ hs
      · exact h.elim
    · rename_i xs e
      split at h
      · obtain ⟨w', e1, q⟩ := h
        exact ix_tup value slice pins s σ H _ _ v u Q I rx ry ⟨_, _, _, _, rfl, rfl, SqT.of e, e1, q⟩ hs
      · exact h.elim
    · rename_i xs e
      split at h
      · obtain ⟨w', e1, q⟩ := h
        exact ix_tup value slice pins s σ H _ _ v u Q I rx ry ⟨_, _, _, _, rfl, rfl, .inl (.inr ⟨_, e⟩), e1, q⟩ hs
      · exact h.elim
    · rename_i kvs e
      split at h
      · rename_i k ek
        have ex := keyV_is ek
        subst ex
        obtain ⟨w', e1, q⟩ := h
        exact ix_dict hu value slice pins s σ H _ _ v u Q I rx ry ⟨_, _, rfl, e1 ▸ DGet.k e, q⟩ hs
      · exact h.elim
    · rename_i kvs e
      split at h
      · rename_i t
        split at h
        · rename_i xs et
          split at h
          · rename_i k ek
            have ex := keysV_is ek
            subst ex
            obtain ⟨w', e1, q⟩ := h
            exact ix_dict hu value slice pins s σ H _ _ v u Q I rx ry ⟨_, _, rfl, e1 ▸ DGet.t e et, q⟩ hs
          · exact h.elim
        · exact h.elim
      · exact h.elim
    · exact h.elim
  · split at h
    · obtain ⟨hz, w', e1, q⟩ := h
      exact ix_str value slice pins s σ H _ _ v u Q I rx ry ⟨_, _, _, rfl, rfl, hz, e1, q⟩ hs
    · exact h.elim
  · exact h.elim
/-- x[lo:hi] -/
def uSl : V → Option Int → Option Int → Hp → VK → Prop := fun x lo hi H Q => match x with
  | .ref p => (match H p with
    | some (.lst xs) => NewL (cutV xs lo hi) H Q
    | some (.tup xs) => NewT (cutV xs lo hi) H Q
    | _ => False)
  | .str z => z.length ≤ sizeLine ∧ Q (.str (cutS z lo hi)) H
  | _ => False
theorem cut_all {xs : List V} {lo hi : Option Int} (h : HT.sIx xs.length 0 lo = 0 ∧ HT.sIx xs.length xs.length hi = xs.length) : cutV xs lo hi = xs := by
  unfold cutV
  rw [h.1, h.2]
  simp
theorem u_sl : SlR X uSl := by
  intro pins s σ H x v lo' hi' lo hi sl Q I rx hs pl ph h
  unfold uSl at h
  split at h
  · split at h
    · rename_i xs e
      exact sl_list pins s σ H _ v lo' hi' lo hi sl Q I rx hs pl ph ⟨_, _, rfl, SqL.of e, al_lst h⟩
    · rename_i xs e
      refine sl_tupA pins s σ H _ v lo' hi' lo hi sl Q I rx hs pl ph ⟨_, _, rfl, SqT.of e, fun z => ?_, fun _ => al_tup h⟩
      rw [cut_all z] at h
      exact h _ H (Same.refl H) e
    · exact h.elim
  · exact sl_str pins s σ H _ v lo' hi' lo hi sl Q I rx hs pl ph ⟨_, rfl, h⟩
  · exact h.elim
/-- len -/
def lenV (H : Hp) : V → Option Nat
  | .ref p => (match H p with
    | some (.lst xs) => some xs.length
    | some (.tup xs) => some xs.length
    | some (.frz _ (.tup xs)) => some xs.length
    | some (.dK kvs) => some kvs.length
    | some (.dT kvs) => some kvs.length
    | _ => none)
  | _ => none
def uLen : List V → Hp → VK → Prop := fun xs H Q => match xs with
  | [.str z] => z.length ≤ sizeLine ∧ Q (.int z.length) H
  | [x] => ∃ n, lenV H x = some n ∧ Q (.int (n : Nat)) H
  | _ => False
theorem u_len : CallR X (.builtin "len") uLen := by
  intro pins s σ H xs us Q I rx h
  unfold uLen at h
  split at h
  · exact call_len_str pins s σ H _ us Q I rx ⟨_, rfl, h⟩
  · obtain ⟨n, e, q⟩ := h
    unfold lenV at e
    split at e
    · split at e
      · cases e
        exact call_len_seq pins s σ H _ us Q I rx ⟨_, _, rfl, .inl (SqL.of (by assumption)), q⟩
      · cases e
        exact call_len_seq pins s σ H _ us Q I rx ⟨_, _, rfl, .inr (SqT.of (by assumption)), q⟩
      · cases e
        exact call_len_seq pins s σ H _ us Q I rx ⟨_, _, rfl, .inr (.inl (.inr ⟨_, by assumption⟩)), q⟩
      · cases e
        exact call_lenD pins s σ H _ us Q I rx ⟨_, _, rfl, by assumption, q⟩
      · cases e
        exact call_len_dT pins s σ H _ us Q I rx ⟨_, _, rfl, by assumption, q⟩
      · cases e
    · cases e
  · exact h.elim
/-- isinstance(x, T), T a built-in type -/
def isaV (H : Hp) : V → String → Option Bool
  | .int _, T => some (T == "int")
  | .bl _, T => some (T == "bool" || T == "int")
  | .str _, T => some (T == "str")
  | .non, _ => some false
  | .ref p, T => (match H p with
    | some (.lst _) => some (T == "list")
    | some (.tup _) => some (T == "tuple")
    | some (.frz _ (.tup _)) => some (T == "tuple")
    | some (.dK _) => some (T == "dict")
    | some (.dT _) => some (T == "dict")
    | _ => none)
  | _, _ => none
def okTy : List String := ["int", "bool", "str", "list", "tuple"]
theorem isa_ok {K : PySem.W.Frag} {H : Hp} {x : V} {T : String} {b : Bool} (hT : T ∈ okTy) (h : isaV H x T = some b) : ∃ t, TyX K H x t ∧ PySem.W.kitOne K t (.type T) = some b := by
  have key : ∀ (S : String) (c : Bool), (∀ T ∈ okTy, kitB S T = some (T == S || (S == "bool" && T == "int"))) → c = (T == S || (S == "bool" && T == "int")) → PySem.W.kitOne K (.type S) (.type T) = some c := fun S c hk hc => by
    rw [hc]
    exact kit_ty (hk T hT)
  unfold isaV at h
  split at h
  · cases h
    exact ⟨_, .base (.int _), key "int" _ (by decide +kernel) (by simp)⟩
  · cases h
    exact ⟨_, .base (.bl _), key "bool" _ (by decide +kernel) (by simp)⟩
  · cases h
    exact ⟨_, .base (.str _), key "str" _ (by decide +kernel) (by simp)⟩
  · cases h
    exact ⟨_, .base .non, kit_ty ((by decide +kernel : ∀ T ∈ okTy, kitB "NoneType" T = some false) T hT)⟩
  · split at h
    · cases h
      exact ⟨_, .base (.lst (by assumption)), key "list" _ (by decide +kernel) (by simp)⟩
    · cases h
      exact ⟨_, .base (.tup (by assumption)), key "tuple" _ (by decide +kernel) (by simp)⟩
    · cases h
      exact ⟨_, .fTuple (by assumption), key "tuple" _ (by decide +kernel) (by simp)⟩
    · cases h
      exact ⟨_, .base (.dK (by assumption)), key "dict" _ (by decide +kernel) (by simp)⟩
    · cases h
      exact ⟨_, .base (.dT (by assumption)), key "dict" _ (by decide +kernel) (by simp)⟩
    · cases h
  · cases h
def uIsi : List V → Hp → VK → Prop := fun xs H Q => match xs with
  | [x, .ty T] => T ∈ okTy ∧ ∃ b, isaV H x T = some b ∧ Q (.bl b) H
  | _ => False
theorem u_isi : CallR X (.builtin "isinstance") uIsi := callR_imp call_isi fun xs H Q h => by
  unfold uIsi at h
  split at h
  · obtain ⟨hT, b, e, q⟩ := h
    obtain ⟨t, h1, h2⟩ := isa_ok (K := X.K) hT e
    exact ⟨_, _, _, _, _, rfl, .ty _, h1, h2, q⟩
  · exact h.elim
/-! ### targets -/
def uNil : TGs := fun vs σ H Q => match vs with
  | [] => Q σ H
  | _ => False
def uCons (t : TG) (u : TGs) : TGs := fun vs σ H Q => match vs with
  | v :: r => t v σ H fun σ' H' => u r σ' H' Q
  | [] => False
theorem ugs_nil : PGs X [] uNil := ⟨fun pins s σ H vs us Q I r h => pgs_nil.run pins s σ H vs us Q I r (by
  unfold uNil at h
  split at h
  · exact ⟨rfl, h⟩
  · exact h.elim)⟩
theorem ugs_cons {e : Expr} {es : List Expr} {t : TG} {u : TGs} (h1 : PG X e t) (h2 : PGs X es u)
    (hs : (assignEach (e :: es) X.env).map (·.2) = assign e X.env :: (assignEach es X.env).map (·.2) := by rfl) : PGs X (e :: es) (uCons t u) := ⟨fun pins s σ H vs us Q I r h => (pgs_cons h1 h2 hs).run pins s σ H vs us Q I r (by
  unfold uCons at h
  split at h
  · exact ⟨_, _, rfl, h⟩
  · exact h.elim)⟩
def uTup (n : Nat) (t : TGs) : TG := fun v σ H Q => match v with
  | .ref a => (match H a with
    | some (.tup xs) => xs.length = n ∧ t xs σ H Q
    | _ => False)
  | _ => False
theorem ug_tup {es : List Expr} {k : Nat} {t : TGs} {n : Nat} {pos : Pos} (hc : X.calm = true) (h : PGs X es t)
    (hn : (assignEach es X.env).length = n := by rfl) (hst : (assignEach es X.env).findIdx? (·.1) = none := by rfl) : PG X (.Tuple es k pos) (uTup n t) := pg_imp (pg_tup hc h hn hst) fun v σ H Q h => by
  unfold uTup at h
  split at h
  · split at h
    · exact ⟨_, _, rfl, SqT.of (by assumption), h⟩
    · exact h.elim
  · exact h.elim
/-- o[i] = v: a list, a dict -/
def uSet : V → V → V → Hp → (Hp → Prop) → Prop := fun o i v H Q => match o with
  | .ref p => (match H p with
    | some (.lst xs) => (match i with
      | .int k => ∃ j, ixN xs.length k = some j ∧ Q (upd H p (.lst (xs.set j v)))
      | _ => False)
    | some (.dK kvs) => (match keyV i with
      | some k => kvs.length < sizeLine ∧ Q (upd H p (.dK (putK kvs k v)))
      | none => False)
    | some (.dT kvs) => (match i with
      | .ref t => (match H t with
        | some (.tup xs) => (match keysV xs with
          | some k => kvs.length < sizeLine ∧ Q (upd H p (.dT (putK kvs k v)))
          | none => False)
        | _ => False)
      | _ => False)
    | _ => False)
  | _ => False
theorem u_set (hu : X.A.units + 1 < cLine) : PSet X uSet := fun pins s σ H o i v ov iv u Q I r1 r2 r3 h => by
  unfold uSet at h
  split at h
  · rename_i p
    split at h
    · rename_i xs e
      split at h
      · obtain ⟨j, e1, q⟩ := h
        exact set_list pins s σ H _ _ v ov iv u Q I r1 r2 r3 ⟨_, _, _, _, rfl, rfl, e, e1, q⟩
      · exact h.elim
    · rename_i kvs e
      split at h
      · rename_i k ek
        have ex := keyV_is ek
        subst ex
        exact set_dict hu pins s σ H _ _ v ov iv u Q I r1 r2 r3 ⟨_, _, rfl, DPut.k e h.1, h.2⟩
      · exact h.elim
    · rename_i kvs e
      split at h
      · split at h
        · rename_i xs et
          split at h
          · rename_i k ek
            have ex := keysV_is ek
            subst ex
            exact set_dict hu pins s σ H _ _ v ov iv u Q I r1 r2 r3 ⟨_, _, rfl, DPut.t e et h.1, h.2⟩
          · exact h.elim
        · exact h.elim
      · exact h.elim
    · exact h.elim
  · exact h.elim
end
/-- a reading that asks less of what follows -/
def MonoE (t : TE) : Prop := ∀ σ H Q Q', (∀ v H', Q v H' → Q' v H') → t σ H Q → t σ H Q'
end Cv
end
section
namespace Cv
open PySem L2
open PySem.Spec PyProof.Rows
section
variable {X : Cx}
/-! ### displays -/
def uTupD (t : TA) : TE := fun σ H Q => t σ H fun xs H1 => xs.length ≤ 1000 ∧ NewT xs H1 Q
def uLstD (t : TA) : TE := fun σ H Q => t σ H fun xs H1 => xs.length ≤ 1000 ∧ NewL xs H1 Q
theorem sz1000 {n : Nat} (h : n ≤ 1000) : n ≤ sizeLine := Nat.le_trans h (by rw [sizeLine_eq]; decide)
theorem ue_tup {x1} {es : List Expr} {t : TA} {pos : Pos} (h : PA X es t) : PE X (.Tuple es x1 pos) (uTupD t) := by
  refine ⟨fun pins s σ H Q I hq => ?_⟩
  refine wpAny_Tuple_spliced (thn (h.run pos pins s σ H _ I hq) fun us s1 ⟨xs, H1, I1, r, z, q⟩ => ⟨by rw [← r.length]; exact sz1000 z, ?_⟩)
  have hf : H1 s1.heap.objs.size = none := I1.hok.fresh (Nat.le_refl _)
  refine ⟨.ref s1.heap.objs.size, upd H1 s1.heap.objs.size (.tup xs), I1.laid (t' := s1.toks) (fun b u e => Heap.get?_push_of_some _ e) (Nat.le_refl _) ?_, rfl, al_tup q _ hf⟩
  exact ⟨sz1000 z, us, r, ⟨_, Heap.get?_push_size _ rfl, rfl, _, rfl⟩⟩
theorem ue_lst {es : List Expr} {t : TA} {pos : Pos} (h : PA X es t) : PE X (.List es pos) (uLstD t) := by
  refine ⟨fun pins s σ H Q I hq => ?_⟩
  refine wpAny_List_spliced (thn (h.run pos pins s σ H _ I hq) fun us s1 ⟨xs, H1, I1, r, z, q⟩ => ⟨by rw [← r.length]; exact sz1000 z, ?_⟩)
  have hf : H1 s1.heap.objs.size = none := I1.hok.fresh (Nat.le_refl _)
  refine ⟨.ref s1.heap.objs.size, upd H1 s1.heap.objs.size (.lst xs), I1.laid (t' := s1.toks) (fun b u e => Heap.get?_push_of_some _ e) (Nat.le_refl _) ?_, rfl, al_lst q _ hf⟩
  exact ⟨sz1000 z, us, 0, r, Heap.get?_push_size _ rfl⟩
abbrev NewDK (H : Hp) (Q : VK) : Prop := ∀ p H', Same H H' → H p = none → H' p = some (.dK []) → Q (.ref p) H'
abbrev NewDT (H : Hp) (Q : VK) : Prop := ∀ p H', Same H H' → H p = none → H' p = some (.dT []) → Q (.ref p) H'
def uDK : TE := fun _ H Q => NewDK H Q
def uDT : TE := fun _ H Q => NewDT H Q
theorem al_any {H : Hp} {o : HO} {Q : VK} (h : ∀ p H', Same H H' → H p = none → H' p = some o → Q (.ref p) H') : ∀ p, H p = none → Q (.ref p) (upd H p o) :=
  fun p hp => h p _ (fun b o e => by rw [upd_ne (ne_of_none e hp)]; exact e) hp upd_same
theorem ue_dK {pos : Pos} : PE X (.Dict [] [] pos) uDK := pe_imp pe_dnewK fun _ _ _ h => al_any h
theorem ue_dT {pos : Pos} : PE X (.Dict [] [] pos) uDT := pe_imp pe_dnewT fun _ _ _ h => al_any h
/-! ### built-ins -/
def uDivmod : List V → Hp → VK → Prop := fun xs H Q => match xs with
  | [.int i, .int j] => (0 < j ∧ j < 2 ^ 64) ∧ NewT [.int (i / j), .int (i % j)] H Q
  | _ => False
theorem log2_lt {j : Int} (h0 : 0 < j) (h : j < 2 ^ 64) : j.natAbs.log2 < 9000 := by
  have h1 : j.natAbs < 2 ^ 64 := by omega
  have h2 : j.natAbs.log2 < 64 := (Nat.log2_lt (by omega)).2 h1
  omega
theorem u_divmod : CallR X (.builtin "divmod") uDivmod := callR_imp call_divmodW fun xs H Q h => by
  unfold uDivmod at h
  split at h
  · exact ⟨_, _, rfl, ⟨h.1.1, PyProof.noPylong_of_log2 (log2_lt h.1.1 h.1.2)⟩, al_tup h.2⟩
  · exact h.elim
def uAll : List V → Hp → VK → Prop := fun xs H Q => match xs with
  | [.ref a] => (match H a with
    | some (.lst ys) => ∃ bs : List Bool, ys = bs.map V.bl ∧ Q (.bl (bs.all id)) H
    | _ => False)
  | _ => False
theorem u_all (hc : X.calm = true) : CallR X (.builtin "all") uAll := callR_imp (cr_all hc) fun xs H Q h => by
  unfold uAll at h
  split at h
  · split at h
    · obtain ⟨bs, rfl, q⟩ := h
      exact ⟨_, _, rfl, SqL.of (by assumption), q⟩
    · exact h.elim
  · exact h.elim
def uSum : List V → Hp → VK → Prop := fun xs H Q => match xs with
  | [.ref a] => (match H a with
    | some (.lst ys) => ∃ ns : List Int, ys = ns.map V.int ∧ Q (.int ns.sum) H
    | _ => False)
  | _ => False
theorem u_sum (hc : X.calm = true) : CallR X (.builtin "sum") uSum := callR_imp (cr_sum hc) fun xs H Q h => by
  unfold uSum at h
  split at h
  · split at h
    · obtain ⟨bs, rfl, q⟩ := h
      exact ⟨_, _, rfl, SqL.of (by assumption), q⟩
    · exact h.elim
  · exact h.elim
/-- list(x) -/
def uList : List V → Hp → VK → Prop := fun xs H Q => match xs with
  | [.ref a] => (match H a with
    | some (.lst ys) => NewL ys H Q
    | some (.tup ys) => NewL ys H Q
    | some (.frz _ (.tup ys)) => NewL ys H Q
    | _ => False)
  | _ => False
theorem u_list : CallR X (.type "list") uList := callR_imp call_list_of fun xs H Q h => by
  unfold uList at h
  split at h
  · split at h
    · exact ⟨_, _, rfl, .inl (SqL.of (by assumption)), al_lst h⟩
    · exact ⟨_, _, rfl, .inr (SqT.of (by assumption)), al_lst h⟩
    · exact ⟨_, _, rfl, .inr (.inl (.inr ⟨_, by assumption⟩)), al_lst h⟩
    · exact h.elim
  · exact h.elim
/-- tuple(x) -/
def uTuple : List V → Hp → VK → Prop := fun xs H Q => match xs with
  | [.ref a] => (match H a with
    | some (.lst ys) => NewT ys H Q
    | some (.tup ys) => Q (.ref a) H
    | some (.frz _ (.tup ys)) => Q (.ref a) H
    | _ => False)
  | _ => False
theorem u_tuple : CallR X (.type "tuple") uTuple := callR_imp call_tuple_of fun xs H Q h => by
  unfold uTuple at h
  split at h
  · split at h
    · exact ⟨_, _, rfl, .inl ⟨SqL.of (by assumption), al_tup h⟩⟩
    · exact ⟨_, _, rfl, .inr ⟨SqT.of (by assumption), h⟩⟩
    · exact ⟨_, _, rfl, .inr ⟨.inl (.inr ⟨_, by assumption⟩), h⟩⟩
    · exact h.elim
  · exact h.elim
/-- tuple(list), the new tuple known to have no attributes -/
def FT (H : Hp) (a : Addr) (xs : List V) : Prop := ∃ o : Obj, o.dict = none ∧ H a = some (.frz o (.tup xs))
def uTupleF : List V → Hp → VK → Prop := fun xs H Q => match xs with
  | [.ref a] => (match H a with
    | some (.lst ys) => ∀ p H', Same H H' → FT H' p ys → Q (.ref p) H'
    | _ => False)
  | _ => False
theorem u_tupleF : CallR X (.type "tuple") uTupleF := by
  intro pins s σ H xs us Q I r h
  unfold uTupleF at h
  split at h
  · rename_i p
    split at h
    · rename_i ys e
      obtain ⟨u, rfl, rx⟩ := vals1 r
      cases rx
      obtain ⟨its, r', pl, hz⟩ := I.list (SqL.of e)
      have hlen := r'.length
      refine call_tuple_list pl.isList (fun h' kp => ?_) (by simp only [List.size_toArray] <;> omega)
      have I1 : Inv X pins σ H { s with heap := h' } := I.kept (t' := s.toks) kp
      have I2 : Inv X pins σ (upd H h'.objs.size (.frz { cls := .type "tuple", data := .seq its.toArray } (.tup ys))) { s with heap := h'.push { cls := .type "tuple", data := .seq its.toArray } } :=
        I1.laid (t' := s.toks) (fun b o e => Heap.get?_push_of_some _ e) (Nat.le_refl _) (show ObjOk X.prog X.w _ _ _ (.frz _ (.tup ys)) from ⟨Heap.get?_push_size _ rfl, hz, its, r', IsTup.new _ _⟩)
      have hn := I1.hok.fresh (Nat.le_refl _)
      refine ⟨.ref h'.objs.size, _, I2, rfl, h _ _ (fun b o e => ?_) ⟨_, rfl, upd_same⟩⟩
      rw [upd_ne (ne_of_none e hn)]
      exact e
    · exact h.elim
  · exact h.elim
/-! ### methods -/
def tyU (T : String) (x : V) (H : Hp) : Prop := match x with
  | .str _ => T = "str"
  | .ref p => (match H p with
    | some (.lst _) => T = "list"
    | some (.frz o (.tup _)) => T = "tuple" ∧ o.dict = none
    | some (.dK _) => T = "dict"
    | some (.dT _) => T = "dict"
    | _ => False)
  | _ => False
theorem tyU_is {pins : List (Addr × Obj)} {σ : L2.St} {H : Hp} {s : Shared} {T : String} {x : V} {v : Value} (I : Inv X pins σ H s) (r : RelV x v) (ty : tyU T x H) :
    s.TypeIs v T ∧ ∀ a, v = .ref a → ∃ ob, s.heap.get? a = some ob ∧ ob.dict = none := by
  unfold tyU at ty
  split at ty
  · subst ty
    exact tyV_is I r rfl
  · rename_i p
    split at ty
    · subst ty
      exact tyV_is I r (.inl ⟨rfl, _, SqL.of (by assumption)⟩)
    · rename_i o xs e
      obtain ⟨rfl, hd⟩ := ty
      cases r
      obtain ⟨h1, h2⟩ := I.hok p _ e
      obtain ⟨_, its, rv, ob, h3, h4, _⟩ := h2
      rw [h1] at h3
      cases h3
      exact ⟨⟨o, h1, h4⟩, fun a q => by cases q; exact ⟨o, h1, hd⟩⟩
    · subst ty
      exact tyV_is I r (.inr (.inr (.inl ⟨rfl, .inl ⟨_, by assumption⟩⟩)))
    · subst ty
      exact tyV_is I r (.inr (.inr (.inl ⟨rfl, .inr ⟨_, by assumption⟩⟩)))
    · exact ty.elim
  · exact ty.elim
def uBM0 (T : String) (r : V → List V → Hp → VK → Prop) (to : TE) : TE := fun σ H Q => to σ H fun x H1 => tyU T x H1 ∧ r x [] H1 Q
def uBM (T : String) (r : V → List V → Hp → VK → Prop) (to : TE) (t : TA) : TE := fun σ H Q => to σ H fun x H1 => tyU T x H1 ∧ t σ H1 fun xs H2 => r x xs H2 Q
variable {o e : Expr} {es : List Expr} {to : TE} {t : TA} {name : Str} {apos cpos : Pos} {T id : String} {r : V → List V → Hp → VK → Prop}
theorem ue_bm0 (pa : PlainAttrs T) (slot : Slot T name id) (hty : typeOf (.builtin id) = pure (.type "method_descriptor")) (hm : MtR X id r) (ho : PE X o to)
    (hbase : attributeBase o name X.env (eval o X.env) = eval o X.env := by rfl) (hline : (apos.endLine == cpos.line) = true := by rfl) : PE X (.Call (.Attribute o name apos) [] [] cpos) (uBM0 T r to) := by
  refine ⟨fun pins s σ H Q I h => ?_⟩
  refine wpAny_Call_method0_late hbase hline (thn (ho.run pins s σ H _ I h) fun v s1 ⟨x, H1, I1, r1, ty, q1⟩ => ?_)
  obtain ⟨h1, h2⟩ := tyU_is I1 r1 ty
  exact ⟨T, id, pa, slot, hty, h1, h2, Calls.callWith_builtin rfl (PySem.evalArgs_none (hm pins s1 σ H1 x [] v [] Q I1 r1 .nil q1))⟩
theorem ue_bm (pa : PlainAttrs T) (slot : Slot T name id) (hty : typeOf (.builtin id) = pure (.type "method_descriptor")) (hm : MtR X id r) (ho : PE X o to) (ha : PA X (e :: es) t)
    (hbase : attributeBase o name X.env (eval o X.env) = eval o X.env := by rfl)
    (hfew : ((backTo cpos (starEach (e :: es) X.env)).all (fun x => !x.1) && (backToKw cpos (keywordEach [] X.env)).all (fun x => x.1.isSome)
      && decide ((e :: es).length + ([] : List Keyword).length + (if ([] : List Keyword).isEmpty then 0 else 1) < 30)) = true := by rfl)
    (hline : (apos.endLine == cpos.line) = true := by rfl) (hs : starEach (e :: es) X.env = (false, eval e X.env) :: starEach es X.env := by rfl) (hplain : (backTo cpos (starEach es X.env)).any (·.1) = false := by rfl) :
    PE X (.Call (.Attribute o name apos) (e :: es) [] cpos) (uBM T r to t) := by
  refine ⟨fun pins s σ H Q I h => ?_⟩
  refine wpAny_Call_method_late hbase hfew hline rfl (thn (ho.run pins s σ H _ I h) fun v s1 ⟨x, H1, I1, r1, ty, q1⟩ => ?_)
  obtain ⟨h1, h2⟩ := tyU_is I1 r1 ty
  refine ⟨T, id, pa, slot, hty, h1, h2, ?_⟩
  have hA := ha.run cpos pins s1 σ H1 _ I1 q1
  rw [hs] at hA ⊢
  refine Calls.callWith_builtin (by show (false || (backTo cpos (starEach es X.env)).any (·.1)) = false; rw [hplain] <;> rfl) (Calls.evalArgs_plain ?_)
  exact thn hA fun us s2 ⟨vs, H2, I2, r2, q2⟩ => hm pins s2 σ H2 x vs v us Q I2 r1 r2 q2
theorem mtR_imp {r r' : V → List V → Hp → VK → Prop} (h : MtR X id r) (k : ∀ x xs H Q, r' x xs H Q → r x xs H Q) : MtR X id r' := fun pins s σ H x xs v us Q I rx rs q => h pins s σ H x xs v us Q I rx rs (k _ _ _ _ q)
def uAppend : V → List V → Hp → VK → Prop := fun x vs H Q => match x, vs with
  | .ref l, [y] => (match H l with
    | some (.lst xs) => xs.length < sizeLine ∧ Q .non (upd H l (.lst (xs ++ [y])))
    | _ => False)
  | _, _ => False
theorem u_append : MtR X "list.append" uAppend := mtR_imp mt_append fun x xs H Q h => by
  unfold uAppend at h
  split at h
  · split at h
    · exact ⟨_, _, _, rfl, rfl, by assumption, h.1, h.2⟩
    · exact h.elim
  · exact h.elim
def uExtend : V → List V → Hp → VK → Prop := fun x vs H Q => match x, vs with
  | .ref l, [.ref b] => (match H l, H b with
    | some (.lst xs), some (.lst ys) => xs.length + ys.length ≤ sizeLine ∧ Q .non (upd H l (.lst (xs ++ ys)))
    | _, _ => False)
  | _, _ => False
theorem u_extend : MtR X "list.extend" uExtend := mtR_imp mt_extend fun x xs H Q h => by
  unfold uExtend at h
  split at h
  · split at h
    · exact ⟨_, _, _, _, rfl, rfl, by assumption, by assumption, h.1, h.2⟩
    · exact h.elim
  · exact h.elim
/-- xs.pop(i), i a place -/
def uPopAt : V → List V → Hp → VK → Prop := fun x vs H Q => match x, vs with
  | .ref l, [.int i] => (match H l with
    | some (.lst xs) => ∃ (k : Nat) (y : V), i = (k : Int) ∧ xs[k]? = some y ∧ Q y (upd H l (.lst (xs.eraseIdx k)))
    | _ => False)
  | _, _ => False
theorem seqIndex_nat {k n : Nat} (h : k < n) : seqIndex? (k : Int) n = some k := by
  unfold seqIndex?
  have h1 : ¬ ((k : Int) < 0) := by omega
  simp [h1, h]
theorem u_popAt : MtR X "list.pop" uPopAt := by
  intro pins s σ H x xs v us Q I rx rs h
  unfold uPopAt at h
  split at h
  · split at h
    · rename_i ys e
      obtain ⟨k, y, rfl, hy, q⟩ := h
      have hk : k < ys.length := (List.getElem?_eq_some_iff.mp hy).1
      have hz := (I.lstM e).1
      have hl := line63
      exact mt_popAt pins s σ H _ _ v us Q I rx rs ⟨_, _, _, _, _, rfl, rfl, e, by omega, by omega, seqIndex_nat hk, hy, q⟩
    · exact h.elim
  · exact h.elim
/-- list.index of flat things; list.count -/
def uLIndex : V → List V → Hp → VK → Prop := fun x vs H Q => match x, vs with
  | .ref l, [y] => (match H l with
    | some (.lst xs) => (flatV y = true ∧ xs.all flatV = true) ∧ ∃ j z, (xs[j]? = some z ∧ eqV z y = true ∧ ∀ (m : Nat) (z' : V), m < j → xs[m]? = some z' → eqV z' y = false) ∧ Q (.int (j : Nat)) H
    | _ => False)
  | _, _ => False
theorem u_lindex : MtR X "list.index" uLIndex := mtR_imp mt_index fun x xs H Q h => by
  unfold uLIndex at h
  split at h
  · split at h
    · obtain ⟨⟨h1, h2⟩, j, z, ⟨h3, h4, h5⟩, q⟩ := h
      exact ⟨_, _, _, j, z, rfl, rfl, SqL.of (by assumption), h1, h2, h3, h4, h5, q⟩
    · exact h.elim
  · exact h.elim
theorem count_eqU {x : V} : ∀ {xs : List V} {us : List Value}, Vals xs us → xs.all flatV = true → us.countP (eqU x) = xs.countP fun y => eqV y x
  | _, _, .nil, _ => rfl
  | y :: xs, u :: us, .cons r t, f => by
    rw [List.all_cons, Bool.and_eq_true] at f
    rw [List.countP_cons, List.countP_cons, eqU_of r f.1, count_eqU t f.2]
def uLCount : V → List V → Hp → VK → Prop := fun x vs H Q => match x, vs with
  | .ref l, [y] => (match H l with
    | some (.lst xs) => (flatV y = true ∧ xs.all flatV = true) ∧ Q (.int (xs.countP (fun z => eqV z y) : Nat)) H
    | _ => False)
  | _, _ => False
theorem u_lcount : MtR X "list.count" uLCount := by
  intro pins s σ H x xs v us Q I rx rxs h
  unfold uLCount at h
  split at h
  · rename_i p y
    split at h
    · rename_i ys e
      obtain ⟨⟨fy, fys⟩, q⟩ := h
      cases rx
      obtain ⟨u, rfl, ru⟩ := rxs.one
      obtain ⟨its, rv, ⟨⟨cls, dd, data, sl⟩, n, ho, hc, hdn, hd⟩, hlen⟩ := I.list (SqL.of e)
      simp only at hc hd
      subst hc hd
      refine call_meets PySem.F.slot_list_count ⟨_, ho, rfl⟩ PySem.F.entry_list_count (PySem.F.args_list_count_2 _ _)
        (SeqAt.list_countAt p its.toArray n dd sl u (eqU y)) ⟨ho, fun z hz => mem_eqAt ru fy rv fys z (by simpa using hz), ?_⟩
      have ec : its.toArray.toList.countP (eqU y) = ys.countP (fun z => eqV z y) := count_eqU rv fys
      refine ⟨.int (ys.countP (fun z => eqV z y) : Nat), H, I.tok _, ⟨s.toks, ?_⟩, q⟩
      show Value.int ((its.toArray.toList.countP (eqU y) : Nat) : Int) s.toks = Value.int ((ys.countP (fun z => eqV z y) : Nat) : Int) s.toks
      rw [ec]
    · exact h.elim
  · exact h.elim
/-- tuple.index of a whole number that is there -/
def uTIndex : V → List V → Hp → VK → Prop := fun x vs H Q => match x, vs with
  | .ref p, [.int k] => (match H p with
    | some (.frz _ (.tup xs)) => ∃ ns : List Int, xs = ns.map V.int ∧ k ∈ ns ∧ Q (.int (ns.idxOf k : Nat)) H
    | _ => False)
  | _, _ => False
theorem u_tindex : MtR X "tuple.index" uTIndex := by
  intro pins s σ H x xs v us Q I rx rxs h
  unfold uTIndex at h
  split at h
  · rename_i p k
    split at h
    · rename_i ys e
      obtain ⟨ns, rfl, hk, q⟩ := h
      cases rx
      obtain ⟨u, rfl, ru⟩ := rxs.one
      obtain ⟨t, rfl⟩ := ru
      obtain ⟨its, rv, pl, hz⟩ := I.tuple (.inl (.inr ⟨_, e⟩))
      exact PySem.SeqAt.tuple_index_ints pl (ints_of_vals rv) hk ⟨.int (ns.idxOf k : Nat), H, I.tok _, ⟨_, rfl⟩, q⟩
    · exact h.elim
  · exact h.elim
end
end Cv
end
section
namespace Cv
open PySem L2
theorem atI_n {α : Type} {xs : List α} {k : Nat} : atI xs (k : Int) = xs[k]? := by
  unfold atI ixN
  by_cases h : k < xs.length
  · rw [if_pos (by omega), if_pos (by omega)]
    simp
  · rw [if_pos (by omega), if_neg (by omega), List.getElem?_eq_none (by omega)]
    rfl
theorem atI_0 {α : Type} {a : α} {l : List α} : atI (a :: l) (0 : Int) = some a := atI_n (k := 0)
theorem atI_1 {α : Type} {a b : α} {l : List α} : atI (a :: b :: l) (1 : Int) = some b := atI_n (k := 1)
theorem atI_2 {α : Type} {a b c : α} {l : List α} : atI (a :: b :: c :: l) (2 : Int) = some c := atI_n (k := 2)
theorem atI_3 {α : Type} {a b c d : α} {l : List α} : atI (a :: b :: c :: d :: l) (3 : Int) = some d := atI_n (k := 3)
theorem atI_4 {α : Type} {a b c d e : α} {l : List α} : atI (a :: b :: c :: d :: e :: l) (4 : Int) = some e := atI_n (k := 4)
theorem if_true_eq {A B : Prop} : (if true = true then A else B) = A := if_pos rfl
theorem if_false_eq {A B : Prop} : (if false = true then A else B) = B := if_neg Bool.false_ne_true
theorem isaV_int {H : Hp} {i : Int} {T : String} : isaV H (.int i) T = some (T == "int") := rfl
theorem isaV_bl {H : Hp} {b : Bool} {T : String} : isaV H (.bl b) T = some (T == "bool" || T == "int") := rfl
theorem isaV_str {H : Hp} {z : Str} {T : String} : isaV H (.str z) T = some (T == "str") := rfl
theorem isaV_non {H : Hp} {T : String} : isaV H .non T = some false := rfl
theorem isa_ref_int {H : Hp} {p : Addr} (k : (isaV H (.ref p) "int").isSome = true) : isaV H (.ref p) "int" = some false := by
  unfold isaV at k ⊢
  simp only at k ⊢
  split at k <;> simp_all
theorem ok_int : ("int" ∈ okTy) = True := by decide
theorem ok_bool : ("bool" ∈ okTy) = True := by decide
theorem ok_str : ("str" ∈ okTy) = True := by decide
theorem ok_list : ("list" ∈ okTy) = True := by decide
theorem ok_tuple : ("tuple" ∈ okTy) = True := by decide
end Cv
end
section
namespace Cv
open PySem L2
/-! ### comprehensions -/
def MonoG (g : TG) : Prop := ∀ v σ H (Q Q' : L2.St → Hp → Prop), (∀ σ' H', Q σ' H' → Q' σ' H') → g v σ H Q → g v σ H Q'
theorem mono_name {i : Nat} : MonoG (gName i) := fun _ _ _ _ _ k h => k _ _ h
def MonoGs (g : TGs) : Prop := ∀ v σ H (Q Q' : L2.St → Hp → Prop), (∀ σ' H', Q σ' H' → Q' σ' H') → g v σ H Q → g v σ H Q'
theorem mono_nil : MonoGs uNil := fun v σ H Q Q' k h => by
  unfold uNil at h ⊢
  split at h
  · exact k _ _ h
  · exact h.elim
theorem mono_cons {t : TG} {u : TGs} (ht : MonoG t) (hu : MonoGs u) : MonoGs (uCons t u) := fun v σ H Q Q' k h => by
  unfold uCons at h ⊢
  split at h
  · exact ht _ _ _ _ _ (fun σ' H' q => hu _ _ _ _ _ k q) h
  · exact h.elim
theorem mono_tup {n : Nat} {t : TGs} (ht : MonoGs t) : MonoG (uTup n t) := fun v σ H Q Q' k h => by
  unfold uTup at h ⊢
  split at h
  · split at h
    · exact ⟨h.1, ht _ _ _ _ _ k h.2⟩
    · exact h.elim
  · exact h.elim
theorem same_upd {H H' : Hp} {D : Addr} {o : HO} (e : Same H H') (h : H D = none) : Same H (upd H' D o) := fun b u hb => by
  rw [upd_ne (ne_of_none hb h)]
  exact e b u hb
theorem same_new {H : Hp} {D : Addr} {o : HO} (h : H D = none) : Same H (upd H D o) := same_upd (Same.refl H) h
/-- the values that the turns below n give -/
def vals (f : Nat → V) (keep : Nat → Bool) (n : Nat) : List V := ((List.range n).filter keep).map f
theorem vals_succ (f : Nat → V) (keep : Nat → Bool) (n : Nat) : vals f keep (n + 1) = if keep n = true then vals f keep n ++ [f n] else vals f keep n := by
  unfold vals
  rw [List.range_succ, List.filter_append, List.map_append]
  by_cases h : keep n = true <;> simp [h]
theorem vals_len (f : Nat → V) (keep : Nat → Bool) (n : Nat) : (vals f keep n).length ≤ n := by
  unfold vals
  rw [List.length_map]
  have h := List.length_filter_le keep (List.range n)
  rw [List.length_range] at h
  exact h
theorem vals_all (f : Nat → V) (n : Nat) : vals f (fun _ => true) n = (List.range n).map f := by
  unfold vals
  rw [List.filter_eq_self.mpr (fun _ _ => rfl)]
/-- a comprehension behind its iterable -/
def LcB (g : TG) (tt : TT) (te : TE) (vs : List Nat) (σ : L2.St) (Q : VK) (J : It) (H1 : Hp) : Prop := ∀ D, H1 D = none → ∃ W : Nat → Nat → Hp → Prop, (∃ m, W 0 m (upd H1 D (.lst []))) ∧ ∀ i m H, W i m H →
  (J.stop i H ∧ Q (.ref D) H) ∨ (J.go i H ∧ ∃ Nx : Hp → Prop, (∀ H', Nx H' → ∃ m', m' < m ∧ W (i + 1) m' H') ∧ ∀ x H', J.yld i H x H' → g x (wipe σ vs) H' fun σ2 H2 => wipe σ2 vs = wipe σ vs ∧ tt σ2 H2 fun b H3 =>
    if b = true then te σ2 H3 fun y H4 => ∃ acc, H4 D = some (.lst acc) ∧ acc.length < sizeLine ∧ Nx (upd H4 D (.lst (acc ++ [y]))) else Nx H3)
theorem tLc_eq {wi : TI} {g : TG} {tt : TT} {te : TE} {vs : List Nat} {σ : L2.St} {H : Hp} {Q : VK} : tLc wi g tt te vs σ H Q = wi σ H (LcB g tt te vs σ Q) := rfl
/-- a for behind its iterable -/
def ForB (g : TG) (tb : TS) (D : Ends) (σ : L2.St) (J : It) (H1 : Hp) : Prop := ∃ W : Nat → Nat → L2.St → Hp → Prop, (∃ m, W 0 m σ H1) ∧ ∀ i m σ H, W i m σ H →
  (J.stop i H ∧ D.nx σ H) ∨ (J.go i H ∧ ∃ N : L2.St → Hp → Prop, (∀ σ' H', N σ' H' → ∃ m', m' < m ∧ W (i + 1) m' σ' H') ∧ ∀ x H', J.yld i H x H' → g x σ H' fun σ2 H2 => tb { D with nx := N, ct := N, bk := D.nx } σ2 H2)
theorem tFor_eq {wi : TI} {g : TG} {tb : TS} {D : Ends} {σ : L2.St} {H : Hp} : tFor wi g tb D σ H = wi σ H (ForB g tb D σ) := rfl
/-- a for by what holds between the turns -/
theorem for_pv {J : It} {n : Nat} {G : Hp → Prop} {Y : Nat → Hp → V → Hp → Prop} {g : TG} {tb : TS} {D : Ends} {σ : L2.St} {H : Hp} (w : Walk J n G Y) (Pv : Nat → L2.St → Hp → Prop) (h0 : Pv 0 σ H) (hG : ∀ i σ H, i ≤ n → Pv i σ H → G H)
    (hs : ∀ i x σ H H', i < n → Pv i σ H → Y i H x H' → g x σ H' fun σ2 H2 => tb { D with nx := Pv (i + 1), ct := Pv (i + 1), bk := D.nx } σ2 H2) (hd : ∀ σ H, Pv n σ H → D.nx σ H) : ForB g tb D σ J H := for_it w Pv h0 hG hs hd
/-- a while by what holds between the turns and a number that falls -/
theorem while_pv {c : TT} {tb : TS} {D : Ends} {σ : L2.St} {H : Hp} (W : Nat → L2.St → Hp → Prop) (m0 : Nat) (h0 : W m0 σ H)
    (hs : ∀ m σ H, W m σ H → c σ H fun b H1 => if b = true then tb { D with nx := fun σ' H' => ∃ m', m' < m ∧ W m' σ' H', ct := fun σ' H' => ∃ m', m' < m ∧ W m' σ' H', bk := D.nx } σ H1 else D.nx σ H1) (hc : ∀ σ H (Q Q' : Bool → Hp → Prop), (∀ b H', Q b H' → Q' b H') → c σ H Q → c σ H Q') : tWhile c tb D σ H := by
  refine ⟨W, ⟨m0, h0⟩, fun m σ H hw => hc σ H _ _ (fun b H' q => ?_) (hs m σ H hw)⟩
  cases b with
  | true => exact ⟨_, fun _ _ n => n, q⟩
  | false => exact q
/-- a comprehension whose turns change nothing that stood: f i, where keep i -/
theorem lc_pure {g : TG} {tt : TT} {te : TE} {vs : List Nat} {σ : L2.St} {H1 : Hp} {Q : VK} {J : It} {n : Nat} {G : Hp → Prop} {Y : Nat → Hp → V → Hp → Prop} (hm : MonoG g)
    (w : Walk J n G Y) (hn : n ≤ 100000) (hG : ∀ H', Same H1 H' → G H') (f : Nat → V) (keep : Nat → Bool)
    (hs : ∀ i x H' H'', i < n → Same H1 H' → Y i H' x H'' → g x (wipe σ vs) H'' fun σ2 H2 => wipe σ2 vs = wipe σ vs ∧ Same H' H2 ∧
      (∀ QT : Bool → Hp → Prop, (∀ H3, Same H2 H3 → QT (keep i) H3) → tt σ2 H2 QT) ∧ (keep i = true → ∀ H3, Same H2 H3 → ∀ Q' : VK, (∀ H4, Same H3 H4 → Q' (f i) H4) → te σ2 H3 Q'))
    (hQ : ∀ p H', Same H1 H' → H1 p = none → H' p = some (.lst (vals f keep n)) → Q (.ref p) H') : LcB g tt te vs σ Q J H1 := by
  refine fun D hD => ?_
  refine lc_it w (fun i H' => Same H1 H' ∧ H' D = some (.lst (vals f keep i))) ⟨same_new hD, upd_same⟩ (fun i H' _ p => hG H' p.1) (fun i x H' H'' hi p y => ?_) (fun H' p => hQ D H' p.1 hD p.2)
  refine hm _ _ _ _ _ (fun σ2 H2 q => ?_) (hs i x H' H'' hi p.1 y)
  obtain ⟨q1, q2, q3, q4⟩ := q
  refine ⟨q1, q3 _ fun H3 e3 => ?_⟩
  have hl := vals_len f keep i
  have sl : (100000 : Nat) < sizeLine := by rw [sizeLine_eq]; decide
  by_cases hk : keep i = true
  · rw [hk, if_pos rfl]
    refine q4 hk H3 e3 _ fun H4 e4 => ⟨vals f keep i, e4 _ _ (e3 _ _ (q2 _ _ p.2)), by omega, ?_, ?_⟩
    · exact same_upd (p.1.trans (q2.trans (e3.trans e4))) hD
    · rw [vals_succ, if_pos hk]
      exact upd_same
  · rw [if_neg hk]
    refine ⟨p.1.trans (q2.trans e3), ?_⟩
    rw [vals_succ, if_neg hk]
    exact e3 _ _ (q2 _ _ p.2)
theorem walk_zipT {K : PySem.W.Frag} {a b : Addr} {xs ys : List V} {n : Nat} (hn : n = min xs.length ys.length) : Walk (RZ.ItzT K a b) n (fun H => SqT K H a xs ∧ SqT K H b ys) (YPair (fun i => xs[i]?) (fun i => ys[i]?)) := by
  subst hn
  refine ⟨fun i _ hi q => ?_, fun _ q => ⟨xs, ys, q.1, q.2, by omega⟩, fun i H v H' _ q y => ?_⟩
  · have h1 : i < xs.length := by omega
    have h2 : i < ys.length := by omega
    exact ⟨xs, ys, xs[i], ys[i], q.1, q.2, by simp [h1], by simp [h2]⟩
  · obtain ⟨T, x, z, h1, h2, h3, h4, h5⟩ := y
    exact ⟨T, x, z, h1, h2, h3, h4 xs q.1, h5 ys q.2⟩
end Cv
end
section
/-! plain: from yard to yard by ways -/
namespace Cv
open PySem L2
/-- a way between two of n yards -/
def WayOk (n : Nat) (x : List Int) : Prop := ∃ a b l f : Int, x = [a, b, l, f] ∧ 0 ≤ a ∧ a < b ∧ b < n ∧ 0 ≤ l ∧ l ≤ 5 ∧ 1 ≤ f ∧ f ≤ 99
/-- each yard but the first has a way from a lesser one -/
def Joined (n : Nat) (ws : List (List Int)) : Prop := ∀ k : Int, 1 ≤ k → k < n → ∃ x ∈ ws, ∃ a l f : Int, x = [a, k, l, f]
theorem inV_int (a : Int) (fs : List Int) : inV (.int a) (fs.map V.int) = decide (a ∈ fs) := by
  induction fs with
  | nil => rfl
  | cons x r ih =>
    unfold inV at ih ⊢
    rw [List.map_cons, List.any_cons, ih]
    by_cases h : a = x
    · subst h
      simp [eqV]
    · have h' : ¬ x = a := fun e => h e.symm
      simp [eqV, h, h']
theorem flat_ints (fs : List Int) : (fs.map V.int).all flatV = true := by
  simp [flatV]
/-- what a turn puts to the yards found -/
def ext (fs : List Int) (a b : Int) : List Int := fs ++ [a, b].filter fun y => !decide (y ∈ fs)
structure Fnd (n : Nat) (fs : List Int) : Prop where
  nd : fs.Nodup
  bd : ∀ x ∈ fs, 0 ≤ x ∧ x < n
theorem Fnd.len {n : Nat} {fs : List Int} (h : Fnd n fs) : fs.length ≤ n := by
  have h1 : (fs.map Int.toNat).Nodup := by
    rw [List.nodup_iff_pairwise_ne, List.pairwise_map]
    refine (List.nodup_iff_pairwise_ne.mp h.nd).imp_of_mem fun {x y} hx hy ne e => ne ?_
    have h1 := h.bd x hx
    have h2 := h.bd y hy
    omega
  have h2 : (fs.map Int.toNat).Subset (List.range n) := fun k hk => by
    obtain ⟨x, hx, rfl⟩ := List.mem_map.mp hk
    have := h.bd x hx
    exact List.mem_range.mpr (by omega)
  have h3 := List.Nodup.length_le_of_subset h1 h2
  simpa using h3
theorem Fnd.ext {n : Nat} {fs : List Int} {a b : Int} (h : Fnd n fs) (hab : a ≠ b) (ha : 0 ≤ a ∧ a < n) (hb : 0 ≤ b ∧ b < n) : Fnd n (ext fs a b) := by
  refine ⟨?_, fun x hx => ?_⟩
  · unfold Cv.ext
    rw [List.nodup_append]
    refine ⟨h.nd, ?_, fun x hx y hy e => ?_⟩
    · exact List.Pairwise.filter _ (show [a, b].Nodup by simp [hab])
    · subst e
      have := (List.mem_filter.mp hy).2
      simp [hx] at this
  · rcases List.mem_append.mp hx with hx | hx
    · exact h.bd x hx
    · have := (List.mem_filter.mp hx).1
      simp at this
      rcases this with rfl | rfl
      · exact ha
      · exact hb
theorem ext_has {fs : List Int} {a b : Int} : a ∈ ext fs a b ∧ b ∈ ext fs a b := by
  unfold ext
  constructor
  · by_cases h : a ∈ fs
    · exact List.mem_append.mpr (.inl h)
    · exact List.mem_append.mpr (.inr (List.mem_filter.mpr ⟨by simp, by simp [h]⟩))
  · by_cases h : b ∈ fs
    · exact List.mem_append.mpr (.inl h)
    · exact List.mem_append.mpr (.inr (List.mem_filter.mpr ⟨by simp, by simp [h]⟩))
/-- behind the search all yards are found -/
theorem all_found {n : Nat} {ws : List (List Int)} {fs : List Int} (hn : 1 ≤ n) (hw : ∀ x ∈ ws, WayOk n x) (hj : Joined n ws) (h : Fnd n fs) (h0 : (0 : Int) ∈ fs)
    (hc : ∀ x ∈ ws, ∀ a b l f : Int, x = [a, b, l, f] → a ∈ fs ∨ b ∈ fs → a ∈ fs ∧ b ∈ fs) : fs.length = n := by
  have key : ∀ k : Nat, k < n → (k : Int) ∈ fs := by
    intro k
    induction k using Nat.strongRecOn with
    | ind k ih =>
      intro hk
      by_cases hz : k = 0
      · subst hz
        exact h0
      · obtain ⟨x, hx, a, l, f, rfl⟩ := hj k (by omega) (by omega)
        obtain ⟨a', b', l', f', e, h1, h2, h3, _⟩ := hw _ hx
        cases e
        have ha : a ∈ fs := by
          have := ih a.toNat (by omega) (by omega)
          rwa [Int.toNat_of_nonneg h1] at this
        exact (hc _ hx _ _ _ _ rfl (.inl ha)).2
  have h1 : ((List.range n).map fun k : Nat => (k : Int)).Nodup := by
    rw [List.nodup_iff_pairwise_ne, List.pairwise_map]
    exact (List.nodup_iff_pairwise_ne.mp List.nodup_range).imp fun ne e => ne (by omega)
  have h2 : ((List.range n).map fun k : Nat => (k : Int)).Subset fs := fun x hx => by
    obtain ⟨k, hk, rfl⟩ := List.mem_map.mp hx
    exact key k (List.mem_range.mp hk)
  have h3 := List.Nodup.length_le_of_subset h1 h2
  have h4 := h.len
  simp at h3
  omega
end Cv
end
section
/-! sorted of data -/
namespace Cv
open PySem L2
open PySem.Spec PyProof.Rows
/-- the less of two data comes first -/
def leD (p q : V × PyData) : Bool := !PySem.W.dataLt q.2 p.2
theorem leD_eq : PySem.W.dataLe false (fun b : V × PyData => b.2) = leD := by
  rw [PySem.W.dataLe_eq]
  rfl
theorem each_vals {xs : List V} {its : List Value} (r : Vals xs its) : ∀ {bs : List (V × PyData)}, xs = bs.map (·.1) → PySem.W.EachIs (fun v b => RelV b.1 v) its bs := by
  induction r with
  | nil =>
    intro bs e
    cases bs with
    | nil => exact .nil
    | cons b bs => cases e
  | cons h t ih =>
    intro bs e
    cases bs with
    | nil => cases e
    | cons b bs =>
      rw [List.map_cons] at e
      injection e with e1 e2
      subst e1
      exact .cons h (ih e2)
theorem vals_each {bs : List (V × PyData)} {its : List Value} (e : PySem.W.EachIs (fun v b => RelV b.1 v) its bs) : Vals (bs.map (·.1)) its := by
  induction e with
  | nil => exact .nil
  | cons h t ih => exact .cons h ih
mutual
theorem reads_lt {h : Heap} : ∀ {v : Value} {d : PyData} {as : List Addr}, Reads h v d as → ∀ a ∈ as, a < h.objs.size
  | _, _, _, .none, a, ha => by cases ha
  | _, _, _, .bool _, a, ha => by cases ha
  | _, _, _, .int _ _, a, ha => by cases ha
  | _, _, _, .str _ _, a, ha => by cases ha
  | _, _, _, .list h1 _ _ r, a, ha => by
    rcases List.mem_cons.mp ha with rfl | ha
    · exact Heap.lt_size h1
    · exact readsAll_lt r a ha
  | _, _, _, .tuple _ _ _ r, a, ha => readsAll_lt r a ha
  | _, _, _, .dict h1 _ _ r1 r2, a, ha => by
    rcases List.mem_append.mp ha with ha | ha
    · rcases List.mem_cons.mp ha with rfl | ha
      · exact Heap.lt_size h1
      · exact readsAll_lt r1 a ha
    · exact readsAll_lt r2 a ha
theorem readsAll_lt {h : Heap} : ∀ {vs : List Value} {ds : List PyData} {as : List Addr}, ReadsAll h vs ds as → ∀ a ∈ as, a < h.objs.size
  | _, _, _, .nil, a, ha => by cases ha
  | _, _, _, .cons r1 r2, a, ha => by
    rcases List.mem_append.mp ha with ha | ha
    · exact reads_lt r1 a ha
    · exact readsAll_lt r2 a ha
end
section
variable {X : Cx}
/-- what is to be sorted: values, each with the data that it stands for -/
structure Sorts (K : PySem.W.Frag) (H : Hp) (bs : List (V × PyData)) : Prop where
  dp : ∀ b ∈ bs, Dp K H b.1 b.2
  al : PySem.W.AllAlike (bs.map (·.2))
  so : PySem.W.Sortable (bs.map (·.2))
  de : ∀ b ∈ bs, b.2.depth ≤ 20
theorem each_reads {pins : List (Addr × Obj)} {σ : L2.St} {H : Hp} {s : Shared} (I : Inv X pins σ H s) {its : List Value} {bs : List (V × PyData)} (e : PySem.W.EachIs (fun v b => RelV b.1 v) its bs) (hd : ∀ b ∈ bs, Dp X.K H b.1 b.2) : PySem.W.EachIs (fun v b => ∃ as, Reads s.heap v b.2 as) its bs := by
  induction e with
  | nil => exact .nil
  | cons h t ih => exact .cons (Dp.reads I _ _ _ (hd _ (by simp)) h) (ih fun b hb => hd b (by simp [hb]))
def uSortedL (K : PySem.W.Frag) : List V → Hp → VK → Prop := fun vs H Q => match vs with
  | [.ref a] => (match H a with
    | some (.lst xs) => ∃ bs : List (V × PyData), xs = bs.map (·.1) ∧ Sorts K H bs ∧ NewL ((bs.mergeSort leD).map (·.1)) H Q
    | _ => False)
  | _ => False
theorem u_sortedL (hu : X.A.units + 64 < cLine) : CallR X (.builtin "sorted") (uSortedL X.K) := by
  intro pins s σ H vs us Q I r h
  unfold uSortedL at h
  split at h
  · rename_i a
    split at h
    · rename_i xs ea
      obtain ⟨bs, ex, S, q⟩ := h
      obtain ⟨its, rv, hl, hz⟩ := I.list (SqL.of ea)
      rw [Vals.ref1 r]
      have e := each_vals rv ex
      have hlen : bs.length = xs.length := by rw [ex, List.length_map]
      refine PySem.W.sorted_data (R := fun v b => RelV b.1 v) (enc := fun b : V × PyData => b.2) hl.isList e (each_reads I e S.dp) S.al S.so (by omega) (fun b hb => by have := S.de b hb; omega) fun out ho h1 => ?_
      rw [leD_eq] at h1
      obtain ⟨ep, he'⟩ := PyProof.Rows.sortedAll_at s.heap its out.toArray
      have hlen2 : ((bs.mergeSort leD).map (·.1)).length ≤ sizeLine := by rw [List.length_map, List.length_mergeSort]; omega
      exact ⟨.ref _, upd H (s.heap.objs.size + 1) (.lst ((bs.mergeSort leD).map (·.1))), I.laid (t' := s.toks) (fun _ _ => PyProof.Rows.sortedAll_old) (Nat.le_succ _) ⟨hlen2, out, ep, vals_each h1, he'⟩, rfl, al_lst q _ (I.hok.fresh (Nat.le_succ _))⟩
    · exact h.elim
  · exact h.elim
/-- a dict's key as data -/
def kD1 : Key → PyData
  | .inl i => .int i
  | .inr x => .str x
def kD (k : List Key) : PyData := .tuple (k.map kD1)
def keyed (cs : List Addr) (kvs : List (List Key × V)) : List (V × PyData) := List.zipWith (fun c kv => (V.ref c, kD kv.1)) cs kvs
theorem keyed_fst : ∀ {kvs : List (List Key × V)} {cs : List Addr}, cs.length = kvs.length → (keyed cs kvs).map (·.1) = cs.map V.ref
  | [], [], _ => rfl
  | [], _ :: _, h => by cases h
  | _ :: _, [], h => by cases h
  | kv :: kvs, c :: cs, h => by
    have ih := keyed_fst (kvs := kvs) (cs := cs) (by simpa using h)
    unfold keyed at ih ⊢
    rw [List.zipWith_cons_cons, List.map_cons, List.map_cons, ih]
def uSortedDT (K : PySem.W.Frag) : List V → Hp → VK → Prop := fun vs H Q => match vs with
  | [.ref a] => (match H a with
    | some (.dT kvs) => ∀ cs, IsKeys H kvs cs → Sorts K H (keyed cs kvs) ∧ NewL (((keyed cs kvs).mergeSort leD).map (·.1)) H Q
    | _ => False)
  | _ => False
theorem u_sortedDT (hcalm : X.calm = true) (hu : X.A.units + 64 < cLine) : CallR X (.builtin "sorted") (uSortedDT X.K) := by
  intro pins s σ H xs us Q I r h
  unfold uSortedDT at h
  split at h
  · rename_i d
    split at h
    · rename_i kvs hd
      obtain ⟨u, eu, rx⟩ := vals1 r
      subst eu
      cases rx
      obtain ⟨z, hs, ks, pr, o, es, ep, ho, hx, hdt, he, hn⟩ := (show ObjOk X.prog X.w H s.heap d (.dT kvs) from I.hok d _ hd)
      have l1 : es.size = ks.length := size_of_entries he
      have l2 : kvs.length = ks.length := Paired.length pr
      obtain ⟨S, q⟩ := h (ks.map fun x => x.2.1) (isKeys_of pr)
      refine Calls.call_function_entry PyProof.Rows.kind_sorted PyProof.Rows.plain_sorted PyProof.Rows.entry_sorted (PyProof.Rows.args_sorted1 _) ?_
      unfold Builtin.«sorted»
      refine wpAny_bind (m := checkCount "sorted" 1 1 _) (wpAny_pure ?_)
      refine wpAny_bind (PySem.W.kdu_collect (A := X.A.in1) (kdl_raw hs hx hdt) (I.ok.hd hcalm) ho (by omega) fun h' tk acc hk it => ?_)
      have ea : acc.toList = ks.map fun x => Value.ref x.2.1 := by
        have hl : acc.toList.length = ks.length := by rw [Array.length_toList, it.1]; exact l1
        apply List.ext_getElem?
        intro j
        rw [List.getElem?_map]
        cases hj : acc.toList[j]? with
        | none =>
          have h1 := List.getElem?_eq_none_iff.mp hj
          rw [List.getElem?_eq_none (by omega)]
          all_goals rfl
        | some v =>
          obtain ⟨en, hen, hv⟩ := it.2 j v (by rw [← Array.getElem?_toList]; exact hj)
          have qe := entry_at he j
          rw [hen] at qe
          cases hb : ks[j]? with
          | none =>
            rw [hb] at qe
            exact nomatch (show some en = none from qe)
          | some b =>
            rw [hb] at qe
            have e2 : en = entryOfKey (tupleKind (mixKind X.prog X.w)) b := Option.some.inj qe
            rw [hv, e2]
            all_goals rfl
      have hlc : (ks.map fun x => x.2.1).length = kvs.length := by rw [List.length_map]; omega
      have eb : acc.toList = (ks.map fun x => x.2.1).map Value.ref := by rw [ea, List.map_map]; all_goals rfl
      have rv : Vals ((ks.map fun x => x.2.1).map V.ref) acc.toList := by rw [eb]; exact vals_refs _
      have e := each_vals rv (keyed_fst hlc).symm
      have I1 : Inv X pins σ H { s with heap := h', toks := tk } := I.kept hk
      have hal : acc.toList.length = kvs.length := by rw [ea, List.length_map]; omega
      refine wpAny_bind (wpAny_newList ?_ (by omega))
      have hoL : (h'.push (seqObj "list" acc.toList.toArray 0)).get? h'.objs.size = some (seqObj "list" acc.toList.toArray 0) := Heap.get?_push_size _ rfl
      show wpAny _ _ _ _ _ { s with heap := h'.push (seqObj "list" acc.toList.toArray 0), toks := tk }
      have er0 := each_reads I1 e S.dp
      have hbl : (keyed (ks.map fun x => x.2.1) kvs).length = kvs.length := by
        have := congrArg List.length (keyed_fst hlc)
        rw [List.length_map, List.length_map] at this
        omega
      have er : PySem.W.EachIs (fun v b => ∃ as, Reads (h'.push (seqObj "list" acc.toList.toArray 0)) v b.2 as ∧ h'.objs.size ∉ as) acc.toList (keyed (ks.map fun x => x.2.1) kvs) := er0.mono fun v b ⟨as, rr⟩ => by
        refine ⟨as, PyProof.Rows.Reads.keeps (fun _ _ => Heap.get?_push_of_some _) rr, fun hm => Nat.lt_irrefl _ (reads_lt rr _ hm)⟩
      refine wpAny_bind (wpAny_holding (PySem.W.list_sort_data (s := { s with heap := h'.push (seqObj "list" acc.toList.toArray 0), toks := tk }) (R := fun v b => RelV b.1 v) (enc := fun b : V × PyData => b.2) hoL e er S.al S.so (by omega) (fun b hb => by have := S.de b hb; show X.A.units + 1 + 1 + _ < _; omega) fun out ho h1 => ?_))
      rw [leD_eq] at h1
      obtain ⟨e', he'⟩ := PyProof.Rows.sortedHeap_at (vs := acc.toList) (out := out.toArray) hoL
      have hlen : (((keyed (ks.map fun x => x.2.1) kvs).mergeSort leD).map (·.1)).length ≤ sizeLine := by
        rw [List.length_map, List.length_mergeSort, hbl]
        exact z
      refine wpAny_pure ⟨_, rfl, .ref h'.objs.size, upd H h'.objs.size (.lst (((keyed (ks.map fun x => x.2.1) kvs).mergeSort leD).map (·.1))), I1.laid (t' := tk) (fun b u e => ?_) (Nat.le_refl _)
        (show ObjOk X.prog X.w _ _ _ (.lst _) from ⟨hlen, out, e', vals_each h1, he'⟩), rfl, al_lst q _ (I1.hok.fresh (Nat.le_refl _))⟩
      have hb : b < h'.objs.size := Heap.lt_size e
      rw [PyProof.Rows.sortedHeap_old (Nat.ne_of_lt hb) (by rw [size_push']; exact Nat.lt_succ_of_lt hb)]
      exact Heap.get?_push_of_some _ e
    · exact h.elim
  · exact h.elim
end
end Cv
end
section
/-! sorted keys of whole numbers -/
namespace Cv
open PySem L2
theorem lexLt_lt : ∀ xs ys : List Int, HT.lexLt xs ys = decide (xs < ys)
  | [], [] => by simp [HT.lexLt]
  | [], y :: ys => by simp [HT.lexLt]
  | x :: xs, [] => by simp [HT.lexLt]
  | x :: xs, y :: ys => by
    rw [HT.lexLt_cons]
    by_cases h : x = y
    · rw [if_pos h, lexLt_lt xs ys]
      simp [h, List.cons_lt_cons_iff]
    · rw [if_neg h]
      simp [h, List.cons_lt_cons_iff]
theorem lt_data (xs ys : List Int) : PySem.W.dataLt (.tuple (xs.map .int)) (.tuple (ys.map .int)) = decide (xs < ys) := by
  rw [PySem.W.dataLt_tuple]
  exact PySem.W.dataLt_ints xs ys
theorem leD_total : PySem.W.TotalLe leD := by
  rw [← leD_eq]
  exact PySem.W.sortLe_total _ _ _
def kInts (k : List Key) : List Int := k.map fun
  | .inl i => i
  | .inr _ => 0
theorem kInts_inl (k : List Int) : kInts (k.map Sum.inl) = k := by
  unfold kInts
  rw [List.map_map]
  exact List.map_id' k
theorem kD_inl (k : List Int) : kD (k.map Sum.inl) = .tuple (k.map .int) := by
  unfold kD
  rw [List.map_map]
  rfl
theorem kV_inl (k : List Int) : (k.map (Sum.inl : Int → Key)).map kV = k.map V.int := by
  rw [List.map_map]
  rfl
/-- a key's tuple, as it is sorted -/
def KeyB (H : Hp) (b : V × PyData) (c : Addr) (k : List Int) : Prop := b = (.ref c, .tuple (k.map .int)) ∧ H c = some (.tup (k.map V.int)) ∧ k ≠ []
def adr : V → Addr
  | .ref c => c
  | _ => 0
def intD : PyData → Int
  | .int i => i
  | _ => 0
def intsD : PyData → List Int
  | .tuple ds => ds.map intD
  | _ => []
theorem intsD_ints (k : List Int) : intsD (.tuple (k.map .int)) = k := by
  show (k.map PyData.int).map intD = k
  rw [List.map_map]
  exact List.map_id' k
def IntKeys (kvs : List (List Key × V)) : Prop := ∀ kv ∈ kvs, ∃ k : List Int, kv.1 = k.map Sum.inl ∧ k ≠ []
theorem keyed_all {H : Hp} : ∀ {kvs : List (List Key × V)} {cs : List Addr}, IntKeys kvs → IsKeys H kvs cs → ∀ b ∈ keyed cs kvs, ∃ c k, KeyB H b c k
  | [], _, _, h, b, hb => by
    cases h
    cases hb
  | kv :: kvs, _, hk, h, b, hb => by
    cases h with
    | cons h1 h2 =>
      rename_i c cs
      unfold keyed at hb
      rw [List.zipWith_cons_cons] at hb
      rcases List.mem_cons.mp hb with rfl | hb
      · obtain ⟨k, e, hn⟩ := hk kv (by simp)
        refine ⟨c, k, ?_, ?_, hn⟩
        · rw [e, kD_inl]
        · rw [← kV_inl, ← e]
          exact h1
      · exact keyed_all (fun z hz => hk z (by simp [hz])) h2 b hb
theorem keyed_ints {H : Hp} : ∀ {kvs : List (List Key × V)} {cs : List Addr}, IntKeys kvs → IsKeys H kvs cs → (keyed cs kvs).map (fun b => intsD b.2) = kvs.map fun kv => kInts kv.1
  | [], _, _, h => by
    cases h
    rfl
  | kv :: kvs, _, hk, h => by
    cases h with
    | cons h1 h2 =>
      rename_i c cs
      have ih := keyed_ints (fun z hz => hk z (by simp [hz])) h2
      obtain ⟨k, e, hn⟩ := hk kv (by simp)
      unfold keyed at ih ⊢
      rw [List.zipWith_cons_cons, List.map_cons, List.map_cons, ih, e, kD_inl, intsD_ints, kInts_inl]
theorem dp_ints {K : PySem.W.Frag} {H : Hp} : ∀ k : List Int, DpAll K H (k.map V.int) (k.map .int)
  | [] => .nil
  | i :: k => .cons (.int i) (dp_ints k)
theorem sort_keys {K : PySem.W.Frag} {H : Hp} {kvs : List (List Key × V)} {cs : List Addr} (hk : IntKeys kvs) (hi : IsKeys H kvs cs) :
    Sorts K H (keyed cs kvs) ∧ ∃ (as : List Addr) (ws : List (List Int)), ((keyed cs kvs).mergeSort leD).map (·.1) = as.map V.ref ∧ (as.length = ws.length ∧ ∀ (i : Nat) (a : Addr) (x : List Int), as[i]? = some a → ws[i]? = some x → H a = some (.tup (x.map V.int))) ∧
      ws.Perm (kvs.map fun kv => kInts kv.1) ∧ ws.Pairwise fun x y => ¬ y < x := by
  have hall := keyed_all hk hi
  refine ⟨⟨fun b hb => ?_, fun d hd d' hd' => ?_, .inl fun d hd => ?_, fun b hb => ?_⟩, ((keyed cs kvs).mergeSort leD).map (fun b => adr b.1), ((keyed cs kvs).mergeSort leD).map (fun b => intsD b.2), ?_, ⟨by simp, fun i a x ha hx => ?_⟩, ?_, ?_⟩
  · obtain ⟨c, k, rfl, h2, h3⟩ := hall b hb
    exact .tup (SqT.of h2) (dp_ints k)
  · obtain ⟨b, hb, rfl⟩ := List.mem_map.mp hd
    obtain ⟨b', hb', rfl⟩ := List.mem_map.mp hd'
    obtain ⟨c, k, rfl, _⟩ := hall b hb
    obtain ⟨c', k', rfl, _⟩ := hall b' hb'
    exact PySem.W.alike_ints k k'
  · obtain ⟨b, hb, rfl⟩ := List.mem_map.mp hd
    obtain ⟨c, k, rfl, _, hn⟩ := hall b hb
    cases k with
    | nil => exact absurd rfl hn
    | cons x r => exact ⟨_, _, rfl⟩
  · obtain ⟨c, k, rfl, _⟩ := hall b hb
    show PyData.depth (.tuple (k.map .int)) ≤ 20
    have h := PySem.W.depth_ints k
    simp [PyData.depth, h]
  · rw [List.map_map]
    refine List.map_congr_left fun b hb => ?_
    obtain ⟨c, k, rfl, _⟩ := hall b (List.mem_mergeSort.mp hb)
    rfl
  · rw [List.getElem?_map] at ha hx
    cases e : ((keyed cs kvs).mergeSort leD)[i]? with
    | none => rw [e] at ha; cases ha
    | some b =>
      rw [e] at ha hx
      obtain ⟨c, k, rfl, h2, _⟩ := hall b (List.mem_mergeSort.mp (List.mem_of_getElem? e))
      have e1 : c = a := Option.some.inj ha
      have e2 : intsD (.tuple (k.map .int)) = x := Option.some.inj hx
      rw [intsD_ints] at e2
      rw [← e1, ← e2]
      exact h2
  · rw [← keyed_ints hk hi]
    exact (List.mergeSort_perm _ _).map _
  · rw [List.pairwise_map]
    refine (PySem.W.sort_pairwise leD_total _).imp_of_mem fun {a b} ha hb h => ?_
    obtain ⟨c, k, rfl, _⟩ := hall a (List.mem_mergeSort.mp ha)
    obtain ⟨c', k', rfl, _⟩ := hall b (List.mem_mergeSort.mp hb)
    unfold leD at h
    rw [lt_data] at h
    simpa [intsD_ints] using h
end Cv
end
section
namespace Cv
open PySem L2
/-- all but b stays -/
def But (b : Addr) (H H' : Hp) : Prop := ∀ a o, a ≠ b → H a = some o → H' a = some o
theorem But.refl (b : Addr) (H : Hp) : But b H H := fun _ _ _ h => h
theorem But.trans {b : Addr} {H H1 H2 : Hp} (x : But b H H1) (y : But b H1 H2) : But b H H2 := fun a o n h => y a o n (x a o n h)
theorem But.upd (b : Addr) (H : Hp) (o : HO) : But b H (upd H b o) := fun a u n h => by rw [upd_ne n]; exact h
theorem But.same {b : Addr} {H H' : Hp} (e : Same H H') : But b H H' := fun a o _ h => e a o h

def uInt1 : List V → Hp → VK → Prop := fun xs H Q => match xs with
  | [.int i] => Q (.int i) H
  | [.bl k] => Q (.int (if k = true then 1 else 0)) H
  | _ => False
theorem u_int1 {X : Cx} : CallR X (.type "int") uInt1 := callR_imp call_int1 fun xs H Q h => by
  unfold uInt1 at h
  split at h
  · exact .inl ⟨_, rfl, h⟩
  · exact .inr ⟨_, rfl, h⟩
  · exact h.elim
/-- a comprehension without tests whose turns may change what stands at b: M of the turn and what is gathered; B, what is known of b -/
theorem lc_acc {g : TG} {te : TE} {vs : List Nat} {σ : L2.St} {H1 : Hp} {Q : VK} {J : It} {n : Nat} {G : Hp → Prop} {Y : Nat → Hp → V → Hp → Prop} {b : Addr} {B : Hp → Prop} (hm : MonoG g)
    (w : Walk J n G Y) (M : Nat → List V → Prop) (hM : M 0 []) (hl : ∀ i acc, M i acc → acc.length ≤ 1000) (hB : ∀ H D o, D ≠ b → B H → B (upd H D o)) (hb : B H1) (hbb : ∃ o, H1 b = some o) (hG : ∀ H', B H' → But b H1 H' → G H')
    (hs : ∀ i x H' H'' acc, i < n → M i acc → B H' → But b H1 H' → Y i H' x H'' → g x (wipe σ vs) H'' fun σ2 H2 => wipe σ2 vs = wipe σ vs ∧ ∀ Q' : VK, (∀ y H4, M (i + 1) (acc ++ [y]) → B H4 → But b H' H4 → Q' y H4) → te σ2 H2 Q')
    (hQ : ∀ p H' acc, M n acc → B H' → But b H1 H' → H1 p = none → H' p = some (.lst acc) → Q (.ref p) H') : LcB g tYes te vs σ Q J H1 := by
  refine fun D hD => ?_
  have hDb : D ≠ b := fun e => by
    obtain ⟨o, ho⟩ := hbb
    rw [e, ho] at hD
    cases hD
  refine lc_it w (fun i H' => ∃ acc, M i acc ∧ B H' ∧ But b H1 H' ∧ H' D = some (.lst acc)) ⟨[], hM, hB _ _ _ hDb hb, But.same (same_new hD), upd_same⟩ (fun i H' _ ⟨_, _, p1, p2, _⟩ => hG H' p1 p2) (fun i x H' H'' hi p y => ?_) (fun H' ⟨acc, p1, p2, p3, p4⟩ => hQ D H' acc p1 p2 p3 hD p4)
  obtain ⟨acc, p1, p2, p3, p4⟩ := p
  refine hm _ _ _ _ _ (fun σ2 H2 q => ?_) (hs i x H' H'' acc hi p1 p2 p3 y)
  obtain ⟨q1, q2⟩ := q
  refine ⟨q1, ?_⟩
  unfold tYes
  refine iteT ?_
  refine q2 _ fun y H4 m1 m2 m3 => ⟨acc, m3 _ _ hDb p4, ?_, acc ++ [y], m1, hB _ _ _ hDb m2, ?_, upd_same⟩
  · have := hl i acc p1
    have sl : (1000 : Nat) < sizeLine := by rw [sizeLine_eq]; decide
    omega
  · intro a o ha ho
    rw [upd_ne (ne_of_none ho hD)]
    exact m3 a o ha (p3 a o ha ho)
end Cv
end
section
/-! plain: ways as keys of a dict -/
namespace Cv
open PySem L2
theorem keys_putK {κ : Type} [DecidableEq κ] (kvs : List (κ × V)) (k : κ) (v : V) : (putK kvs k v).map (·.1) = if k ∈ kvs.map (·.1) then kvs.map (·.1) else kvs.map (·.1) ++ [k] := by
  have e : (kvs.any fun kv => decide (kv.1 = k)) = decide (k ∈ kvs.map (·.1)) := by
    induction kvs with
    | nil => rfl
    | cons x r ih =>
      rw [List.any_cons, ih]
      by_cases h : x.1 = k
      · simp [h]
      · have h' : ¬ k = x.1 := fun z => h z.symm
        simp [h, h']
  unfold putK
  rw [e]
  by_cases h : k ∈ kvs.map (·.1)
  · rw [if_pos (decide_eq_true h), if_pos h, List.map_map]
    refine List.map_congr_left fun kv _ => ?_
    show (if kv.1 = k then (kv.1, v) else kv).1 = kv.1
    split <;> rfl
  · rw [if_neg (by simpa using h), if_neg h, List.map_append]
    rfl
/-- ways gathered as keys, at most c -/
structure DW (n : Nat) (kvs : List (List Key × V)) (c : Nat) : Prop where
  nd : (kvs.map (·.1)).Nodup
  ok : ∀ k ∈ kvs.map (·.1), ∃ x : List Int, k = x.map Sum.inl ∧ WayOk n x
  le : kvs.length ≤ c
theorem DW.put {n : Nat} {kvs : List (List Key × V)} {c : Nat} {x : List Int} {v : V} (h : DW n kvs c) (hx : WayOk n x) : DW n (putK kvs (x.map Sum.inl) v) (c + 1) := by
  refine ⟨?_, ?_, ?_⟩
  · rw [keys_putK]
    split
    · exact h.nd
    · rename_i hk
      rw [List.nodup_append]
      exact ⟨h.nd, by simp, fun a ha b hb e => hk (by simp at hb; rw [← hb, ← e]; exact ha)⟩
  · rw [keys_putK]
    split
    · exact h.ok
    · intro k hk
      rcases List.mem_append.mp hk with hk | hk
      · exact h.ok k hk
      · exact ⟨x, by simpa using hk, hx⟩
  · have := length_putK kvs (x.map Sum.inl) v
    have := h.le
    omega
/-- a way to the yard k is there -/
def HasW (kvs : List (List Key × V)) (k : Int) : Prop := ∃ a l f : Int, [a, k, l, f].map Sum.inl ∈ kvs.map (·.1)
theorem HasW.put {kvs : List (List Key × V)} {k : Int} {y : List Key} {v : V} (h : HasW kvs k) : HasW (putK kvs y v) k := by
  obtain ⟨a, l, f, h⟩ := h
  refine ⟨a, l, f, ?_⟩
  rw [keys_putK]
  split
  · exact h
  · exact List.mem_append.mpr (.inl h)
theorem HasW.self {kvs : List (List Key × V)} {a k l f : Int} {v : V} : HasW (putK kvs ([a, k, l, f].map Sum.inl) v) k := by
  refine ⟨a, l, f, ?_⟩
  rw [keys_putK]
  split
  · assumption
  · exact List.mem_append.mpr (.inr (by simp))
def risesB : List (List Int) → Bool
  | x :: y :: r => HT.lexLt x y && risesB (y :: r)
  | _ => true
theorem rises_of : ∀ {ws : List (List Int)}, ws.Nodup → ws.Pairwise (fun x y => ¬ y < x) → risesB ws = true
  | [], _, _ => rfl
  | [_], _, _ => rfl
  | x :: y :: r, hn, hp => by
    have ih := rises_of (ws := y :: r) (List.nodup_cons.mp hn).2 (List.pairwise_cons.mp hp).2
    have h1 : ¬ y < x := (List.pairwise_cons.mp hp).1 y (by simp)
    have h2 : x ≠ y := fun e => (List.nodup_cons.mp hn).1 (by simp [e])
    have h3 : x < y := by
      rcases Std.lt_trichotomy x y with h | h | h
      · exact h
      · exact absurd h h2
      · exact absurd h h1
    show (HT.lexLt x y && risesB (y :: r)) = true
    rw [ih, lexLt_lt]
    simp [h3]
theorem DW.keys {n : Nat} {kvs : List (List Key × V)} {c : Nat} (h : DW n kvs c) : IntKeys kvs := fun kv hkv => by
  obtain ⟨x, e, a, b, l, f, rfl, _⟩ := h.ok kv.1 (List.mem_map.mpr ⟨kv, hkv, rfl⟩)
  exact ⟨_, e, by simp⟩
/-- the sorted ways of such a dict -/
theorem DW.net {n : Nat} {kvs : List (List Key × V)} {c : Nat} {ws : List (List Int)} (h : DW n kvs c) (hj : ∀ k : Int, 1 ≤ k → k < n → HasW kvs k) (hp : ws.Perm (kvs.map fun kv => kInts kv.1)) (hs : ws.Pairwise fun x y => ¬ y < x) :
    ws.length ≤ c ∧ (∀ x ∈ ws, WayOk n x) ∧ risesB ws = true ∧ Joined n ws := by
  have e : (kvs.map fun kv => kInts kv.1) = (kvs.map (·.1)).map kInts := by rw [List.map_map]; rfl
  refine ⟨?_, fun x hx => ?_, rises_of ?_ hs, fun k h1 h2 => ?_⟩
  · rw [hp.length_eq, List.length_map]
    exact h.le
  · have := hp.mem_iff.mp hx
    rw [e] at this
    obtain ⟨k, hk, rfl⟩ := List.mem_map.mp this
    obtain ⟨y, rfl, hy⟩ := h.ok k hk
    rw [kInts_inl]
    exact hy
  · rw [hp.nodup_iff, e, List.nodup_iff_pairwise_ne, List.pairwise_map]
    refine (List.nodup_iff_pairwise_ne.mp h.nd).imp_of_mem fun {x y} hx hy ne e => ne ?_
    obtain ⟨a, rfl, _⟩ := h.ok x hx
    obtain ⟨b, rfl, _⟩ := h.ok y hy
    rw [kInts_inl, kInts_inl] at e
    rw [e]
  · obtain ⟨a, l, f, hm⟩ := hj k h1 h2
    refine ⟨[a, k, l, f], hp.mem_iff.mpr ?_, a, l, f, rfl⟩
    rw [e]
    exact List.mem_map.mpr ⟨_, hm, kInts_inl _⟩
end Cv
end
section
/-! an error that a suite holds -/
namespace Cv
open PySem L2
def uIsE (K : PySem.W.Frag) (a : Addr) (cls : Value) (d : Option Addr) : List V → Hp → VK → Prop := fun xs H Q => match xs with
  | [.ref x, .ref C] => x = a ∧ ∃ D, cls = .ref D ∧ d = none ∧ ExcC K D ∧ ∃ b, PySem.W.kitOne K (.ref D) (.ref C) = some b ∧ Q (.bl b) H
  | [.ref x, .ty T] => x = a ∧ ∃ D, cls = .ref D ∧ d = none ∧ ExcC K D ∧ ∃ b, PySem.W.kitOne K (.ref D) (.type T) = some b ∧ Q (.bl b) H
  | _ => False
theorem u_isE {X : Cx} {a : Addr} {cls : Value} {d : Option Addr} {oe : Obj} {pn : List (Addr × Obj)} (hz : Zc cls d oe) (hf : ∃ vs, oe.data = .fields vs) : CallR (X.suite a ((a, oe) :: pn)) (.builtin "isinstance") (uIsE X.K a cls d) := by
  intro pins s σ H xs us Q I r h
  unfold uIsE at h
  split at h
  · obtain ⟨rfl, D, rfl, rfl, hE, b, hb, q⟩ := h
    exact call_isE hE hz hf pins s σ H _ us Q I r ⟨_, _, b, rfl, fun u hu => hu, hb, q⟩
  · obtain ⟨rfl, D, rfl, rfl, hE, b, hb, q⟩ := h
    exact call_isE hE hz hf pins s σ H _ us Q I r ⟨_, _, b, rfl, fun u hu => hu, hb, q⟩
  · exact h.elim
def uRepr : List V → Hp → VK → Prop := fun xs H Q => match xs with
  | [.int i] => i.natAbs < 2 ^ 1900 ∧ Q (.str (toString i)) H
  | _ => False
theorem u_repr {X : Cx} : CallR X (.builtin "repr") uRepr := callR_imp SkE.call_repr_int fun xs H Q h => by
  unfold uRepr at h
  split at h
  · rename_i i
    refine ⟨_, rfl, ?_, h.2⟩
    by_cases hz : i.natAbs = 0
    · rw [hz]
      decide
    · have := (Nat.log2_lt hz).2 h.1
      omega
  · exact h.elim
/-- the truth of a plain value -/
def tTru (ta : TE) : St → Hp → (Bool → Hp → Prop) → Prop := fun σ H Q => ta σ H fun x H' => match x with
  | .non => Q false H'
  | .bl b => Q b H'
  | .int i => Q (i != 0) H'
  | .ref p => match H' p with
    | some (.lst xs) => Q (!xs.isEmpty) H'
    | some (.tup xs) => Q (!xs.isEmpty) H'
    | some (.frz _ (.tup xs)) => Q (!xs.isEmpty) H'
    | some (.dK kvs) => Q (!kvs.isEmpty) H'
    | _ => False
  | _ => False
theorem pt_tru {X : Cx} {a : Expr} {ta : TE} (ha : PE X a ta) (he : ∀ whole, isTrue a X.env whole = (do let v ← whole; standAt a.pos; holding [v] (truthy v))) : PT X a (tTru ta) := by
  refine ⟨fun pins s σ H Q I h => ?_⟩
  refine PyProof.Rows.isTrue_plain (thn (ha.run pins s σ H _ I h) fun v s1 ⟨x, H1, I1, r1, q1⟩ => tru_ok pins s1 σ H1 x v Q I1 r1 ?_) (he _)
  dsimp only at q1
  split at q1
  · exact ⟨_, rfl, q1⟩
  · exact ⟨_, rfl, q1⟩
  · exact ⟨_, rfl, q1⟩
  · split at q1
    · rename_i hp
      exact ⟨_, Or.inl ⟨_, Or.inl (Or.inl hp), rfl⟩, q1⟩
    · rename_i hp
      exact ⟨_, Or.inr (Or.inl ⟨_, Or.inl (Or.inl hp), rfl⟩), q1⟩
    · rename_i hp
      exact ⟨_, Or.inr (Or.inl ⟨_, Or.inl (Or.inr ⟨_, hp⟩), rfl⟩), q1⟩
    · rename_i hp
      exact ⟨_, Or.inr (Or.inr ⟨_, hp, rfl⟩), q1⟩
    · exact q1.elim
  · exact q1.elim
theorem u_neK {X : Cx} {K : PySem.W.Frag} (hk : X.K = K) (hu : X.A.units + 64 < cLine) : OpR X (compareOp .NotEq) (uNe K) := hk ▸ u_ne hu
theorem u_isEK {X : Cx} {K : PySem.W.Frag} {a : Addr} {cls : Value} {d : Option Addr} {oe : Obj} {pn : List (Addr × Obj)} (hk : X.K = K) (hz : Zc cls d oe) (hf : ∃ vs, oe.data = .fields vs) : CallR (X.suite a ((a, oe) :: pn)) (.builtin "isinstance") (uIsE K a cls d) := hk ▸ u_isE hz hf
theorem take_len {X : Cx} {W : WX} (t : Takes X W) : Takes X (fun c d σ H => σ.length = X.N.length → W c d σ H) := fun u s' ⟨a, B, sI, pins, σ, H, cls, d, e, I, nb, up, sky, na, os, ag, w⟩ =>
  t u s' ⟨a, B, sI, pins, σ, H, cls, d, e, I, nb, up, sky, na, os, ag, w I.len⟩
/-- the suite of a def's first try -/
def trySuite (s : Stmt) : List Stmt := match defBody s with
  | .Try _ [.ExceptHandler _ _ b _] _ _ _ :: _ => b
  | _ => []
end Cv
end
section
/-! the law's own def: tables, lambdas, ends -/
namespace Cv
open PySem L2
open PySem.Spec PyProof.Rows
def uMax2 : List V → Hp → VK → Prop := fun xs H Q => match xs with
  | [.int i, .int j] => Q (.int (if j > i then j else i)) H
  | _ => False
def uMin2 : List V → Hp → VK → Prop := fun xs H Q => match xs with
  | [.int i, .int j] => Q (.int (if j < i then j else i)) H
  | _ => False
theorem u_max2 {X : Cx} (hc : X.calm = true) : CallR X (.builtin "max") uMax2 := callR_imp (call_max2 hc) fun xs H Q h => by
  unfold uMax2 at h
  split at h
  · exact ⟨_, _, rfl, h⟩
  · exact h.elim
theorem u_min2 {X : Cx} (hc : X.calm = true) : CallR X (.builtin "min") uMin2 := callR_imp (call_min2 hc) fun xs H Q h => by
  unfold uMin2 at h
  split at h
  · exact ⟨_, _, rfl, h⟩
  · exact h.elim
/-- list(range(n)) -/
def uLstRg (ta : TE) : TE := fun σ H Q => ta σ H fun x H1 => match x with
  | .int n => RgOk 0 n ∧ NewL (rgV 0 n) H1 Q
  | _ => False
theorem ue_listRg {X : Cx} {a : Expr} {ta : TE} {p pos p2 pos2 : Pos} (hc : X.calm = true) (hg : Gl X "list") (hm : X.mg "list" = none) (hg2 : Gl X "range") (hm2 : X.mg "range" = none) (ha : PE X a ta)
    (na : starEach [a] X.env = (false, eval a X.env) :: starEach [] X.env := by rfl)
    (nb : starEach [Expr.Call (.Name "range" p) [a] [] pos] X.env = (false, eval (Expr.Call (.Name "range" p) [a] [] pos) X.env) :: starEach [] X.env := by rfl) :
    PE X (.Call (.Name "list" p2) [Expr.Call (.Name "range" p) [a] [] pos] [] pos2) (uLstRg ta) := by
  refine ⟨fun pins s σ H Q I h => (pe_listRg hc hg hm (te := fun σ H R => (∀ n H1, RgOk 0 n → NewL (rgV 0 n) H1 Q → R 0 n H1) ∧ uLstRg ta σ H Q) ?_ nb).run pins s σ H Q I ⟨fun n H1 h1 h2 => ⟨h1, al_any h2⟩, h⟩⟩
  intro pins s σ H R I h
  refine Call_ (ld_blt I hg2 hm2 boot_range (PyProof.Rows.callWith_type1 (one_arg ha I h.2 (fun v s2 x H2 I2 r q => ?_) na) na))
  cases x with
  | int n =>
    obtain ⟨t, rfl⟩ := r
    exact call_range_1 ⟨_, 0, n, _, _, _, H2, rfl, IsRange.new _ _ _ _ _ _ _, I2.kept fun b u e => Heap.get?_push_of_some _ e, h.1 _ _ q.1 q.2⟩
  | _ => exact q.elim
/-- a def by its body, its code object known -/
theorem okC {P : Program} {w : World} {K : PySem.W.Frag} {mg : Str → Option Value} {base : Heap} {x qual : Str} {st : Stmt} {f : Addr} {fd : FuncData} {N ps : List Str} {k : Nat} {sp : Sp} {cdv : Value} (F : Fun K x qual st f fd) (hcv : fd.code = cdv) (S : FnScope N ps (defScope st)) (len : ∀ vs H Q E, sp vs H Q E → vs.length = ps.length)
    (hbody : ∀ (A : Around) (outer : List Env) (s : Shared) (H : Hp) (vs : List V) (Q : VK) (E : XK), Room k (A.deeper (envOfC qual (defScope st) s.heap.objs.size f cdv)) → sp vs H Q E →
      ∃ t, PSs (cxOf C8.CX0 P w K mg base N qual (defScope st) f cdv A outer s H E).nox (defBody st) t ∧ t { nx := fun _ H' => Q .non H', rt := Q } (L2.start N vs) H) : FnOk P w K mg base C8.CX0 (k + 1) f fd ps sp := by
  obtain ⟨oc, od, kV, doc, pm, an, cdv', ct, osl, rfl, lk, hcd⟩ := F.ex
  have e : cdv' = cdv := hcv
  subst e
  refine fn_of lk hcd S len fun A outer s H vs Q E hr hsp => ?_
  obtain ⟨t, h, q⟩ := hbody A outer s H vs Q E hr hsp
  exact ⟨t, h.nox, q⟩
/-- what stands but for tables stays -/
theorem sqL_ext {K : PySem.W.Frag} {H H' : Hp} {a : Addr} {xs : List V} (h : SqL K H a xs) (e : LamX.ExtN H H') : SqL K H' a xs := by
  rcases h with (h | ⟨o, h⟩) | h
  · exact .inl (.inl (e _ _ h (by intro _ z; cases z)))
  · exact .inl (.inr ⟨o, e _ _ h (by intro _ z; cases z)⟩)
  · exact .inr h
end Cv
end
section
namespace Cv
open PySem L2
def top (i : Nat) : Stmt := PySem.Challenge.pw_coverdues_k02_homes.main.body.getD i (.Pass ⟨0, 0, 0, 0⟩)
abbrev s_is_whole : Stmt := top 24
abbrev s_is_rising : Stmt := top 25
abbrev s_is_way : Stmt := top 26
abbrev s_are_joined : Stmt := top 27
abbrev s_is_net : Stmt := top 28
abbrev s_need_net : Stmt := top 29
abbrev s_is_mark : Stmt := top 30
abbrev s_need_mark : Stmt := top 31
abbrev s_home_in : Stmt := top 32
abbrev s_home_of : Stmt := top 33
abbrev s__law_box : Stmt := top 35
abbrev s__law_more : Stmt := top 36
abbrev s__law_take : Stmt := top 37
abbrev s__law_kind : Stmt := top 38
abbrev s__law_net : Stmt := top 39
abbrev s_law : Stmt := top 40
abbrev N_is_whole : List Str := ["thing", "low", "high"]
abbrev P_is_whole : List Str := ["thing", "low", "high"]
theorem sc_is_whole : FnScope N_is_whole P_is_whole (defScope s_is_whole) := ⟨rfl, rfl, rfl, by decide +kernel, rfl, by decide +kernel, by decide +kernel⟩
abbrev N_is_rising : List Str := ["things", "one", "other"]
abbrev P_is_rising : List Str := ["things"]
theorem sc_is_rising : FnScope N_is_rising P_is_rising (defScope s_is_rising) := ⟨rfl, rfl, rfl, by decide +kernel, rfl, by decide +kernel, by decide +kernel⟩
abbrev N_is_way : List Str := ["thing", "count"]
abbrev P_is_way : List Str := ["thing", "count"]
theorem sc_is_way : FnScope N_is_way P_is_way (defScope s_is_way) := ⟨rfl, rfl, rfl, by decide +kernel, rfl, by decide +kernel, by decide +kernel⟩
abbrev N_are_joined : List Str := ["count", "ways", "found", "spot", "one", "other", "line", "far", "yard"]
abbrev P_are_joined : List Str := ["count", "ways"]
theorem sc_are_joined : FnScope N_are_joined P_are_joined (defScope s_are_joined) := ⟨rfl, rfl, rfl, by decide +kernel, rfl, by decide +kernel, by decide +kernel⟩
abbrev N_is_net : List Str := ["thing", "yards", "ways", "line", "one"]
abbrev P_is_net : List Str := ["thing"]
theorem sc_is_net : FnScope N_is_net P_is_net (defScope s_is_net) := ⟨rfl, rfl, rfl, by decide +kernel, rfl, by decide +kernel, by decide +kernel⟩
abbrev N_need_net : List Str := ["net"]
abbrev P_need_net : List Str := ["net"]
theorem sc_need_net : FnScope N_need_net P_need_net (defScope s_need_net) := ⟨rfl, rfl, rfl, by decide +kernel, rfl, by decide +kernel, by decide +kernel⟩
abbrev N_is_mark : List Str := ["net", "thing"]
abbrev P_is_mark : List Str := ["net", "thing"]
theorem sc_is_mark : FnScope N_is_mark P_is_mark (defScope s_is_mark) := ⟨rfl, rfl, rfl, by decide +kernel, rfl, by decide +kernel, by decide +kernel⟩
abbrev N_need_mark : List Str := ["net", "line"]
abbrev P_need_mark : List Str := ["net", "line"]
theorem sc_need_mark : FnScope N_need_mark P_need_mark (defScope s_need_mark) := ⟨rfl, rfl, rfl, by decide +kernel, rfl, by decide +kernel, by decide +kernel⟩
abbrev N_home_in : List Str := ["net", "line"]
abbrev P_home_in : List Str := ["net", "line"]
theorem sc_home_in : FnScope N_home_in P_home_in (defScope s_home_in) := ⟨rfl, rfl, rfl, by decide +kernel, rfl, by decide +kernel, by decide +kernel⟩
abbrev N_home_of : List Str := ["net", "line"]
abbrev P_home_of : List Str := ["net", "line"]
theorem sc_home_of : FnScope N_home_of P_home_of (defScope s_home_of) := ⟨rfl, rfl, rfl, by decide +kernel, rfl, by decide +kernel, by decide +kernel⟩
abbrev N__law_box : List Str := ["_law_script", "_law_k", "_law_here", "_law_number", "_law_j", "_law_piece"]
abbrev P__law_box : List Str := ["_law_script", "_law_k"]
theorem sc__law_box : FnScope N__law_box P__law_box (defScope s__law_box) := ⟨rfl, rfl, rfl, by decide +kernel, rfl, by decide +kernel, by decide +kernel⟩
abbrev N__law_more : List Str := ["_law_box_here", "_law_number", "_law_j"]
abbrev P__law_more : List Str := ["_law_box_here"]
theorem sc__law_more : FnScope N__law_more P__law_more (defScope s__law_more) := ⟨rfl, rfl, rfl, by decide +kernel, rfl, by decide +kernel, by decide +kernel⟩
abbrev N__law_take : List Str := ["_law_box_here", "_law_count", "_law_rest_of", "_law_digit"]
abbrev P__law_take : List Str := ["_law_box_here", "_law_count"]
theorem sc__law_take : FnScope N__law_take P__law_take (defScope s__law_take) := ⟨rfl, rfl, rfl, by decide +kernel, rfl, by decide +kernel, by decide +kernel⟩
abbrev N__law_kind : List Str := ["_law_call", "e", "_law_some", "_law_words"]
abbrev P__law_kind : List Str := ["_law_call"]
theorem sc__law_kind : FnScope N__law_kind P__law_kind (defScope s__law_kind) := ⟨rfl, rfl, rfl, by decide +kernel, rfl, by decide +kernel, by decide +kernel⟩
abbrev N__law_net : List Str := ["_law_box_here", "_law_most", "_law_count", "_law_some", "_law_yards", "_law_far", "_law_found", "_law_yard", "_law_turn"]
abbrev P__law_net : List Str := ["_law_box_here", "_law_most"]
theorem sc__law_net : FnScope N__law_net P__law_net (defScope s__law_net) := ⟨rfl, rfl, rfl, by decide +kernel, rfl, by decide +kernel, by decide +kernel⟩
abbrev N_law : List Str := ["_law_script", "_law_k", "_law_box_here", "_law_net_here", "_law_far", "_law_odd", "_law_line", "_law_due", "_law_yard"]
abbrev P_law : List Str := ["_law_script"]
theorem sc_law : FnScope N_law P_law (defScope s_law) := ⟨rfl, rfl, rfl, by decide +kernel, rfl, by decide +kernel, by decide +kernel⟩
structure Ad where
  is_whole : Addr
  fd_is_whole : FuncData
  is_rising : Addr
  fd_is_rising : FuncData
  is_way : Addr
  fd_is_way : FuncData
  are_joined : Addr
  fd_are_joined : FuncData
  is_net : Addr
  fd_is_net : FuncData
  need_net : Addr
  fd_need_net : FuncData
  is_mark : Addr
  fd_is_mark : FuncData
  need_mark : Addr
  fd_need_mark : FuncData
  home_in : Addr
  fd_home_in : FuncData
  home_of : Addr
  fd_home_of : FuncData
  _law_box : Addr
  fd__law_box : FuncData
  _law_more : Addr
  fd__law_more : FuncData
  _law_take : Addr
  fd__law_take : FuncData
  _law_kind : Addr
  fd__law_kind : FuncData
  _law_net : Addr
  fd__law_net : FuncData
  law : Addr
  fd_law : FuncData
  CoverError : Addr
  NoNet : Addr
  NoYard : Addr
  NoMark : Addr
  NoPage : Addr
  NoCover : Addr
  NoDay : Addr
  NoTariff : Addr
  NoBalance : Addr
  NoStray : Addr
  NoTrip : Addr
  NoPrice : Addr
  NoLine : Addr
  Gone : Addr
  Nothing : Addr
  Clash : Addr
  NoText : Addr
  TooMany : Addr
structure Txt (K : PySem.W.Frag) (mg : Str → Option Value) (A : Ad) : Prop where
  g_is_whole : mg "is_whole" = some (.ref A.is_whole)
  F_is_whole : Fun K "is_whole" "is_whole" s_is_whole A.is_whole A.fd_is_whole
  B_is_whole : Binds K A.fd_is_whole P_is_whole []
  g_is_rising : mg "is_rising" = some (.ref A.is_rising)
  F_is_rising : Fun K "is_rising" "is_rising" s_is_rising A.is_rising A.fd_is_rising
  B_is_rising : Binds K A.fd_is_rising P_is_rising []
  g_is_way : mg "is_way" = some (.ref A.is_way)
  F_is_way : Fun K "is_way" "is_way" s_is_way A.is_way A.fd_is_way
  B_is_way : Binds K A.fd_is_way P_is_way []
  g_are_joined : mg "are_joined" = some (.ref A.are_joined)
  F_are_joined : Fun K "are_joined" "are_joined" s_are_joined A.are_joined A.fd_are_joined
  B_are_joined : Binds K A.fd_are_joined P_are_joined []
  g_is_net : mg "is_net" = some (.ref A.is_net)
  F_is_net : Fun K "is_net" "is_net" s_is_net A.is_net A.fd_is_net
  B_is_net : Binds K A.fd_is_net P_is_net []
  g_need_net : mg "need_net" = some (.ref A.need_net)
  F_need_net : Fun K "need_net" "need_net" s_need_net A.need_net A.fd_need_net
  B_need_net : Binds K A.fd_need_net P_need_net []
  g_is_mark : mg "is_mark" = some (.ref A.is_mark)
  F_is_mark : Fun K "is_mark" "is_mark" s_is_mark A.is_mark A.fd_is_mark
  B_is_mark : Binds K A.fd_is_mark P_is_mark []
  g_need_mark : mg "need_mark" = some (.ref A.need_mark)
  F_need_mark : Fun K "need_mark" "need_mark" s_need_mark A.need_mark A.fd_need_mark
  B_need_mark : Binds K A.fd_need_mark P_need_mark []
  g_home_in : mg "home_in" = some (.ref A.home_in)
  F_home_in : Fun K "home_in" "home_in" s_home_in A.home_in A.fd_home_in
  B_home_in : Binds K A.fd_home_in P_home_in []
  g_home_of : mg "home_of" = some (.ref A.home_of)
  F_home_of : Fun K "home_of" "home_of" s_home_of A.home_of A.fd_home_of
  B_home_of : Binds K A.fd_home_of P_home_of []
  g__law_box : mg "_law_box" = some (.ref A._law_box)
  F__law_box : Fun K "_law_box" "_law_box" s__law_box A._law_box A.fd__law_box
  B__law_box : Binds K A.fd__law_box P__law_box []
  g__law_more : mg "_law_more" = some (.ref A._law_more)
  F__law_more : Fun K "_law_more" "_law_more" s__law_more A._law_more A.fd__law_more
  B__law_more : Binds K A.fd__law_more P__law_more []
  g__law_take : mg "_law_take" = some (.ref A._law_take)
  F__law_take : Fun K "_law_take" "_law_take" s__law_take A._law_take A.fd__law_take
  B__law_take : Binds K A.fd__law_take P__law_take []
  g__law_kind : mg "_law_kind" = some (.ref A._law_kind)
  F__law_kind : Fun K "_law_kind" "_law_kind" s__law_kind A._law_kind A.fd__law_kind
  B__law_kind : Binds K A.fd__law_kind P__law_kind []
  g__law_net : mg "_law_net" = some (.ref A._law_net)
  F__law_net : Fun K "_law_net" "_law_net" s__law_net A._law_net A.fd__law_net
  B__law_net : Binds K A.fd__law_net P__law_net []
  g_law : mg "law" = some (.ref A.law)
  F_law : Fun K "law" "law" s_law A.law A.fd_law
  B_law : Binds K A.fd_law P_law []
  b_ValueError : mg "ValueError" = none
  b_abs : mg "abs" = none
  b_all : mg "all" = none
  b_bool : mg "bool" = none
  b_divmod : mg "divmod" = none
  b_int : mg "int" = none
  b_isinstance : mg "isinstance" = none
  b_len : mg "len" = none
  b_list : mg "list" = none
  b_max : mg "max" = none
  b_min : mg "min" = none
  b_range : mg "range" = none
  b_repr : mg "repr" = none
  b_sorted : mg "sorted" = none
  b_tuple : mg "tuple" = none
  b_zip : mg "zip" = none
  c_LAST_LINE : ∃ t, mg "LAST_LINE" = some (.int 5 t)
  c_MOST_YARDS : ∃ t, mg "MOST_YARDS" = some (.int 10 t)
  c_MOST_WAYS : ∃ t, mg "MOST_WAYS" = some (.int 24 t)
  c_MOST_MILES : ∃ t, mg "MOST_MILES" = some (.int 99 t)
  g_CoverError : mg "CoverError" = some (.ref A.CoverError)
  g_NoNet : mg "NoNet" = some (.ref A.NoNet)
  g_NoYard : mg "NoYard" = some (.ref A.NoYard)
  g_NoMark : mg "NoMark" = some (.ref A.NoMark)
  x_NoMark : ExcK K A.NoMark
  r_NoMark : PySem.W.excIn K A.NoMark [.type "ValueError", .type "Exception", .type "BaseException", .type "object"] "ValueError.__new__" = true
  g_NoPage : mg "NoPage" = some (.ref A.NoPage)
  g_NoCover : mg "NoCover" = some (.ref A.NoCover)
  g_NoDay : mg "NoDay" = some (.ref A.NoDay)
  g_NoTariff : mg "NoTariff" = some (.ref A.NoTariff)
  g_NoBalance : mg "NoBalance" = some (.ref A.NoBalance)
  g_NoStray : mg "NoStray" = some (.ref A.NoStray)
  g_NoTrip : mg "NoTrip" = some (.ref A.NoTrip)
  g_NoPrice : mg "NoPrice" = some (.ref A.NoPrice)
  g_NoLine : mg "NoLine" = some (.ref A.NoLine)
  g_Gone : mg "Gone" = some (.ref A.Gone)
  g_Nothing : mg "Nothing" = some (.ref A.Nothing)
  g_Clash : mg "Clash" = some (.ref A.Clash)
  g_NoText : mg "NoText" = some (.ref A.NoText)
  g_TooMany : mg "TooMany" = some (.ref A.TooMany)
  k_NoMark_NoNet : PySem.W.kitOne K (.ref A.NoMark) (.ref A.NoNet) = some false
  k_NoMark_NoYard : PySem.W.kitOne K (.ref A.NoMark) (.ref A.NoYard) = some false
  k_NoMark_NoMark : PySem.W.kitOne K (.ref A.NoMark) (.ref A.NoMark) = some true
  k_NoMark_NoPage : PySem.W.kitOne K (.ref A.NoMark) (.ref A.NoPage) = some false
  k_NoMark_NoCover : PySem.W.kitOne K (.ref A.NoMark) (.ref A.NoCover) = some false
  k_NoMark_NoDay : PySem.W.kitOne K (.ref A.NoMark) (.ref A.NoDay) = some false
  k_NoMark_NoTariff : PySem.W.kitOne K (.ref A.NoMark) (.ref A.NoTariff) = some false
  k_NoMark_NoBalance : PySem.W.kitOne K (.ref A.NoMark) (.ref A.NoBalance) = some false
  k_NoMark_NoStray : PySem.W.kitOne K (.ref A.NoMark) (.ref A.NoStray) = some false
  k_NoMark_NoTrip : PySem.W.kitOne K (.ref A.NoMark) (.ref A.NoTrip) = some false
  k_NoMark_NoPrice : PySem.W.kitOne K (.ref A.NoMark) (.ref A.NoPrice) = some false
  k_NoMark_NoLine : PySem.W.kitOne K (.ref A.NoMark) (.ref A.NoLine) = some false
  k_NoMark_Gone : PySem.W.kitOne K (.ref A.NoMark) (.ref A.Gone) = some false
  k_NoMark_Nothing : PySem.W.kitOne K (.ref A.NoMark) (.ref A.Nothing) = some false
  k_NoMark_Clash : PySem.W.kitOne K (.ref A.NoMark) (.ref A.Clash) = some false
  k_NoMark_NoText : PySem.W.kitOne K (.ref A.NoMark) (.ref A.NoText) = some false
  k_NoMark_TooMany : PySem.W.kitOne K (.ref A.NoMark) (.ref A.TooMany) = some false
  v_NoMark : PySem.W.kitOne K (.ref A.NoMark) (.type "ValueError") = some true
  m_NoMark : PySem.W.exmOne K (.ref A.NoMark) (.ref A.CoverError) = some true
end Cv
end
section
namespace Cv
open PySem L2
variable {P : Program} {w : World} {K : PySem.W.Frag} {mg : Str → Option Value} {base : Heap} {A : Ad}
/-! ### is_whole -/
/-- whether a value is a whole number from lo to hi -/
def wholeV (x : V) (lo hi : Int) : Bool := match x with
  | .int i => decide (lo ≤ i) && decide (i ≤ hi)
  | _ => false
def sp_is_whole : Sp := fun vs H Q _ => match vs with
  | [x, .int lo, .int hi] => (isaV H x "int").isSome = true ∧ Q (.bl (wholeV x lo hi)) H
  | _ => False
theorem ok_is_whole (T : Txt K mg A) : FnOk P w K mg base CX0 1 A.is_whole A.fd_is_whole P_is_whole sp_is_whole := by
  refine T.F_is_whole.ok sc_is_whole (fun vs H Q E h => ?_) (fun cdv Ar outer s H vs Q E hr h => ?_)
  · unfold sp_is_whole at h
    split at h
    · rfl
    · exact h.elim
  · unfold sp_is_whole at h
    split at h
    rotate_left
    · exact h.elim
    rename_i x lo hi
    obtain ⟨k, q⟩ := h
    refine ⟨_, (pss_one (ps_ret (pe_and (pe_callB u_isi (by rfl) T.b_isinstance (by decide +kernel) (pa_cons (uv 0) (pa_cons (pe_bltn (v := .ty "int") (by rfl) T.b_int (by decide +kernel) rfl) pa_nil))) (pe_and (pe_not (pe_callB u_isi (by rfl) T.b_isinstance (by decide +kernel) (pa_cons (uv 0) (pa_cons (pe_bltn (v := .ty "bool") (by rfl) T.b_bool (by decide +kernel) rfl) pa_nil)))) (pe_one (pe_chain u_le u_le (uv 1) (uv 0) (uv 2))))))), ?_⟩
    cases x with
    | int i =>
      simp only [tSeq, tIfS, tRet, tRetN, tDrop, tAsg, tNext, tNever, gName, tAndV, tOrV, tNotV, tAnd, tOr, tNot, tB, tTest, tIf, tOp, tUn, tCB, tCall, tCons, tNil, tC, tChain, tSl, tPart, tNoPart, tPar, gSub, uVar, uTupD, uLstD, uDK, uDT, uBM, uBM0, uTup, uNil, uCons, uLe, uGt, uGe, uEq, uNe, uIs, uIsNot, uIn, uNotIn, uAdd, uSub, uMul, uMod, uFdiv, uPow, uNeg, uCmp, uLt, uEqG, uIsG, uInG, uIx, uSl, uLen, lenV, uIsi, isaV_int, isaV_bl, isaV_str, isaV_non, uSet, uDivmod, uAll, uSum, uInt1, uList, uTuple, uTupleF, uAppend, uExtend, uPopAt, uLIndex, uLCount, uRepr, uTIndex, uIsE, tyU, keyV, keysV, isNon, L2.start, List.map_cons, List.map_nil, List.length_cons, List.length_nil, List.replicate, List.cons_append, List.nil_append, List.append_nil, Nat.sub_self, List.getElem?_cons_zero, List.getElem?_cons_succ, List.set_cons_zero, List.set_cons_succ, V.bl.injEq, V.int.injEq, V.ref.injEq, V.str.injEq, List.cons.injEq, Option.some.injEq, exists_eq_left', and_true, true_and, atI_0, atI_1, atI_2, atI_3, atI_4, if_true_eq, if_false_eq, Nat.reduceAdd, Nat.reduceSub, reduceCtorEq, ok_int, ok_bool, ok_str, ok_list, ok_tuple, String.reduceBEq, Bool.or_true, Bool.true_or, Bool.or_false, Bool.false_or, Bool.not_true, Bool.not_false, Int.cast_ofNat_Int, ↓reduceIte, decide_true, decide_false, Bool.false_eq_true, Option.isSome_some, tLc_eq, tFor_eq, iTup, iList, iRng1, iRng2, iRng3, RZ.iZipA, tYes, tTru, uMax2, uMin2, uLstRg]
      by_cases h : lo ≤ i
      · simp only [h, decide_true, if_true_eq]
        simpa [wholeV, h] using q
      · simp only [h, decide_false, if_false_eq]
        simpa [wholeV, h] using q
    | bl b =>
      simp only [tSeq, tIfS, tRet, tRetN, tDrop, tAsg, tNext, tNever, gName, tAndV, tOrV, tNotV, tAnd, tOr, tNot, tB, tTest, tIf, tOp, tUn, tCB, tCall, tCons, tNil, tC, tChain, tSl, tPart, tNoPart, tPar, gSub, uVar, uTupD, uLstD, uDK, uDT, uBM, uBM0, uTup, uNil, uCons, uLe, uGt, uGe, uEq, uNe, uIs, uIsNot, uIn, uNotIn, uAdd, uSub, uMul, uMod, uFdiv, uPow, uNeg, uCmp, uLt, uEqG, uIsG, uInG, uIx, uSl, uLen, lenV, uIsi, isaV_int, isaV_bl, isaV_str, isaV_non, uSet, uDivmod, uAll, uSum, uInt1, uList, uTuple, uTupleF, uAppend, uExtend, uPopAt, uLIndex, uLCount, uRepr, uTIndex, uIsE, tyU, keyV, keysV, isNon, L2.start, List.map_cons, List.map_nil, List.length_cons, List.length_nil, List.replicate, List.cons_append, List.nil_append, List.append_nil, Nat.sub_self, List.getElem?_cons_zero, List.getElem?_cons_succ, List.set_cons_zero, List.set_cons_succ, V.bl.injEq, V.int.injEq, V.ref.injEq, V.str.injEq, List.cons.injEq, Option.some.injEq, exists_eq_left', and_true, true_and, atI_0, atI_1, atI_2, atI_3, atI_4, if_true_eq, if_false_eq, Nat.reduceAdd, Nat.reduceSub, reduceCtorEq, ok_int, ok_bool, ok_str, ok_list, ok_tuple, String.reduceBEq, Bool.or_true, Bool.true_or, Bool.or_false, Bool.false_or, Bool.not_true, Bool.not_false, Int.cast_ofNat_Int, ↓reduceIte, decide_true, decide_false, Bool.false_eq_true, Option.isSome_some, tLc_eq, tFor_eq, iTup, iList, iRng1, iRng2, iRng3, RZ.iZipA, tYes, tTru, uMax2, uMin2, uLstRg]
      exact q
    | non =>
      simp only [tSeq, tIfS, tRet, tRetN, tDrop, tAsg, tNext, tNever, gName, tAndV, tOrV, tNotV, tAnd, tOr, tNot, tB, tTest, tIf, tOp, tUn, tCB, tCall, tCons, tNil, tC, tChain, tSl, tPart, tNoPart, tPar, gSub, uVar, uTupD, uLstD, uDK, uDT, uBM, uBM0, uTup, uNil, uCons, uLe, uGt, uGe, uEq, uNe, uIs, uIsNot, uIn, uNotIn, uAdd, uSub, uMul, uMod, uFdiv, uPow, uNeg, uCmp, uLt, uEqG, uIsG, uInG, uIx, uSl, uLen, lenV, uIsi, isaV_int, isaV_bl, isaV_str, isaV_non, uSet, uDivmod, uAll, uSum, uInt1, uList, uTuple, uTupleF, uAppend, uExtend, uPopAt, uLIndex, uLCount, uRepr, uTIndex, uIsE, tyU, keyV, keysV, isNon, L2.start, List.map_cons, List.map_nil, List.length_cons, List.length_nil, List.replicate, List.cons_append, List.nil_append, List.append_nil, Nat.sub_self, List.getElem?_cons_zero, List.getElem?_cons_succ, List.set_cons_zero, List.set_cons_succ, V.bl.injEq, V.int.injEq, V.ref.injEq, V.str.injEq, List.cons.injEq, Option.some.injEq, exists_eq_left', and_true, true_and, atI_0, atI_1, atI_2, atI_3, atI_4, if_true_eq, if_false_eq, Nat.reduceAdd, Nat.reduceSub, reduceCtorEq, ok_int, ok_bool, ok_str, ok_list, ok_tuple, String.reduceBEq, Bool.or_true, Bool.true_or, Bool.or_false, Bool.false_or, Bool.not_true, Bool.not_false, Int.cast_ofNat_Int, ↓reduceIte, decide_true, decide_false, Bool.false_eq_true, Option.isSome_some, tLc_eq, tFor_eq, iTup, iList, iRng1, iRng2, iRng3, RZ.iZipA, tYes, tTru, uMax2, uMin2, uLstRg]
      exact q
    | str z =>
      simp only [tSeq, tIfS, tRet, tRetN, tDrop, tAsg, tNext, tNever, gName, tAndV, tOrV, tNotV, tAnd, tOr, tNot, tB, tTest, tIf, tOp, tUn, tCB, tCall, tCons, tNil, tC, tChain, tSl, tPart, tNoPart, tPar, gSub, uVar, uTupD, uLstD, uDK, uDT, uBM, uBM0, uTup, uNil, uCons, uLe, uGt, uGe, uEq, uNe, uIs, uIsNot, uIn, uNotIn, uAdd, uSub, uMul, uMod, uFdiv, uPow, uNeg, uCmp, uLt, uEqG, uIsG, uInG, uIx, uSl, uLen, lenV, uIsi, isaV_int, isaV_bl, isaV_str, isaV_non, uSet, uDivmod, uAll, uSum, uInt1, uList, uTuple, uTupleF, uAppend, uExtend, uPopAt, uLIndex, uLCount, uRepr, uTIndex, uIsE, tyU, keyV, keysV, isNon, L2.start, List.map_cons, List.map_nil, List.length_cons, List.length_nil, List.replicate, List.cons_append, List.nil_append, List.append_nil, Nat.sub_self, List.getElem?_cons_zero, List.getElem?_cons_succ, List.set_cons_zero, List.set_cons_succ, V.bl.injEq, V.int.injEq, V.ref.injEq, V.str.injEq, List.cons.injEq, Option.some.injEq, exists_eq_left', and_true, true_and, atI_0, atI_1, atI_2, atI_3, atI_4, if_true_eq, if_false_eq, Nat.reduceAdd, Nat.reduceSub, reduceCtorEq, ok_int, ok_bool, ok_str, ok_list, ok_tuple, String.reduceBEq, Bool.or_true, Bool.true_or, Bool.or_false, Bool.false_or, Bool.not_true, Bool.not_false, Int.cast_ofNat_Int, ↓reduceIte, decide_true, decide_false, Bool.false_eq_true, Option.isSome_some, tLc_eq, tFor_eq, iTup, iList, iRng1, iRng2, iRng3, RZ.iZipA, tYes, tTru, uMax2, uMin2, uLstRg]
      exact q
    | ref p =>
      simp only [tSeq, tIfS, tRet, tRetN, tDrop, tAsg, tNext, tNever, gName, tAndV, tOrV, tNotV, tAnd, tOr, tNot, tB, tTest, tIf, tOp, tUn, tCB, tCall, tCons, tNil, tC, tChain, tSl, tPart, tNoPart, tPar, gSub, uVar, uTupD, uLstD, uDK, uDT, uBM, uBM0, uTup, uNil, uCons, uLe, uGt, uGe, uEq, uNe, uIs, uIsNot, uIn, uNotIn, uAdd, uSub, uMul, uMod, uFdiv, uPow, uNeg, uCmp, uLt, uEqG, uIsG, uInG, uIx, uSl, uLen, lenV, uIsi, isaV_int, isaV_bl, isaV_str, isaV_non, uSet, uDivmod, uAll, uSum, uInt1, uList, uTuple, uTupleF, uAppend, uExtend, uPopAt, uLIndex, uLCount, uRepr, uTIndex, uIsE, tyU, keyV, keysV, isNon, L2.start, List.map_cons, List.map_nil, List.length_cons, List.length_nil, List.replicate, List.cons_append, List.nil_append, List.append_nil, Nat.sub_self, List.getElem?_cons_zero, List.getElem?_cons_succ, List.set_cons_zero, List.set_cons_succ, V.bl.injEq, V.int.injEq, V.ref.injEq, V.str.injEq, List.cons.injEq, Option.some.injEq, exists_eq_left', and_true, true_and, atI_0, atI_1, atI_2, atI_3, atI_4, if_true_eq, if_false_eq, Nat.reduceAdd, Nat.reduceSub, reduceCtorEq, ok_int, ok_bool, ok_str, ok_list, ok_tuple, String.reduceBEq, Bool.or_true, Bool.true_or, Bool.or_false, Bool.false_or, Bool.not_true, Bool.not_false, Int.cast_ofNat_Int, ↓reduceIte, decide_true, decide_false, Bool.false_eq_true, Option.isSome_some, tLc_eq, tFor_eq, iTup, iList, iRng1, iRng2, iRng3, RZ.iZipA, tYes, tTru, uMax2, uMin2, uLstRg, isa_ref_int k]
      exact q
    | _ => exact absurd (show false = true from k) Bool.false_ne_true

end Cv
end
section
namespace Cv
open PySem L2
variable {P : Program} {w : World} {K : PySem.W.Frag} {mg : Str → Option Value} {base : Heap} {A : Ad}
/-! ### ways, rising -/
theorem whole_yes {i lo hi : Int} (h1 : lo ≤ i) (h2 : i ≤ hi) : wholeV (.int i) lo hi = true := by
  simp [wholeV, h1, h2]
def sp_is_way : Sp := fun vs H Q _ => match vs with
  | [.ref a, .int k] => ∃ (n : Nat) (x : List Int), k = n ∧ H a = some (.tup (x.map V.int)) ∧ WayOk n x ∧ Q (.bl true) H
  | _ => False
theorem ok_is_way (T : Txt K mg A) : FnOk P w K mg base CX0 2 A.is_way A.fd_is_way P_is_way sp_is_way := by
  refine T.F_is_way.ok sc_is_way (fun vs H Q E h => ?_) (fun cdv Ar outer s H vs Q E hr h => ?_)
  · unfold sp_is_way at h
    split at h
    · rfl
    · exact h.elim
  · unfold sp_is_way at h
    split at h
    rotate_left
    · exact h.elim
    rename_i p k
    obtain ⟨n, x, rfl, hp, ⟨a, b, l, f, rfl, h1, h2, h3, h4, h5, h6, h7⟩, q⟩ := h
    refine ⟨_, (pss_cons (ps_if (PW.pt (pw_or (pt_not (pt_val (pe_callB u_isi (by rfl) T.b_isinstance (by decide +kernel) (pa_cons (uv 0) (pa_cons (pe_bltn (v := .ty "tuple") (by rfl) T.b_tuple (by decide +kernel) rfl) pa_nil))))) (pw_or (pt_cmpR (u_ne hr.units) (pe_callB u_len (by rfl) T.b_len (by decide +kernel) (pa_cons (uv 0) pa_nil)) pe_int (nomark _)) (pw_or1 (pt_not (pt_val (pe_call (ok_is_whole T) (hr.mono (by decide)) (by rfl) T.g_is_whole T.F_is_whole.kp T.B_is_whole .nil pass0 (pa_cons (pe_ix (u_ix (hu_of hr)) (uv 0) pe_int (fun _ _ => rfl)) (pa_cons pe_int (pa_cons (pe_op u_sub (uv 1) pe_int) pa_nil)))))))))) (pss_one (ps_ret pe_bl)) pss_nil)
  (pss_cons (ps_if (PW.pt (pw_or (pt_not (pt_val (pe_call (ok_is_whole T) (hr.mono (by decide)) (by rfl) T.g_is_whole T.F_is_whole.kp T.B_is_whole .nil pass0 (pa_cons (pe_ix (u_ix (hu_of hr)) (uv 0) pe_int (fun _ _ => rfl)) (pa_cons pe_int (pa_cons (pe_op u_sub (pe_ix (u_ix (hu_of hr)) (uv 0) pe_int (fun _ _ => rfl)) pe_int) pa_nil)))))) (pw_or1 (pt_not (pt_val (pe_call (ok_is_whole T) (hr.mono (by decide)) (by rfl) T.g_is_whole T.F_is_whole.kp T.B_is_whole .nil pass0 (pa_cons (pe_ix (u_ix (hu_of hr)) (uv 0) pe_int (fun _ _ => rfl)) (pa_cons pe_int (pa_cons (pe_cI (by rfl) T.c_LAST_LINE) pa_nil))))))))) (pss_one (ps_ret pe_bl)) pss_nil)
  (pss_one (ps_ret (pe_call (ok_is_whole T) (hr.mono (by decide)) (by rfl) T.g_is_whole T.F_is_whole.kp T.B_is_whole .nil pass0 (pa_cons (pe_ix (u_ix (hu_of hr)) (uv 0) pe_int (fun _ _ => rfl)) (pa_cons pe_int (pa_cons (pe_cI (by rfl) T.c_MOST_MILES) pa_nil)))))))), ?_⟩
    simp only [tSeq, tIfS, tRet, tRetN, tDrop, tAsg, tNext, tNever, gName, tAndV, tOrV, tNotV, tAnd, tOr, tNot, tB, tTest, tIf, tOp, tUn, tCB, tCall, tCons, tNil, tC, tChain, tSl, tPart, tNoPart, tPar, gSub, uVar, uTupD, uLstD, uDK, uDT, uBM, uBM0, uTup, uNil, uCons, uLe, uGt, uGe, uEq, uNe, uIs, uIsNot, uIn, uNotIn, uAdd, uSub, uMul, uMod, uFdiv, uPow, uNeg, uCmp, uLt, uEqG, uIsG, uInG, uIx, uSl, uLen, lenV, uIsi, isaV_int, isaV_bl, isaV_str, isaV_non, uSet, uDivmod, uAll, uSum, uInt1, uList, uTuple, uTupleF, uAppend, uExtend, uPopAt, uLIndex, uLCount, uRepr, uTIndex, uIsE, tyU, keyV, keysV, isNon, L2.start, List.map_cons, List.map_nil, List.length_cons, List.length_nil, List.replicate, List.cons_append, List.nil_append, List.append_nil, Nat.sub_self, List.getElem?_cons_zero, List.getElem?_cons_succ, List.set_cons_zero, List.set_cons_succ, V.bl.injEq, V.int.injEq, V.ref.injEq, V.str.injEq, List.cons.injEq, Option.some.injEq, exists_eq_left', and_true, true_and, atI_0, atI_1, atI_2, atI_3, atI_4, if_true_eq, if_false_eq, Nat.reduceAdd, Nat.reduceSub, reduceCtorEq, ok_int, ok_bool, ok_str, ok_list, ok_tuple, String.reduceBEq, Bool.or_true, Bool.true_or, Bool.or_false, Bool.false_or, Bool.not_true, Bool.not_false, Int.cast_ofNat_Int, ↓reduceIte, decide_true, decide_false, Bool.false_eq_true, Option.isSome_some, tLc_eq, tFor_eq, iTup, iList, iRng1, iRng2, iRng3, RZ.iZipA, tYes, tTru, uMax2, uMin2, uLstRg, isaV, hp, sp_is_whole, whole_yes h1 (show a ≤ b - 1 by omega), whole_yes (show 0 ≤ b by omega) (show b ≤ (n : Int) - 1 by omega), whole_yes h4 h5, whole_yes h6 h7]
    exact q
/-- the tuples at as hold ws -/
def Ws (H : Hp) (as : List Addr) (ws : List (List Int)) : Prop := as.length = ws.length ∧ ∀ (i : Nat) (a : Addr) (x : List Int), as[i]? = some a → ws[i]? = some x → H a = some (.tup (x.map V.int))
theorem Ws.mono {H H' : Hp} {as : List Addr} {ws : List (List Int)} (h : Ws H as ws) (e : Same H H') : Ws H' as ws := ⟨h.1, fun i a x h1 h2 => e _ _ (h.2 i a x h1 h2)⟩
theorem rises_eq : ∀ ws : List (List Int), ((List.range (ws.length - 1)).map fun i => HT.lexLt (ws.getD i []) (ws.getD (i + 1) [])).all id = risesB ws
  | [] => rfl
  | [_] => rfl
  | x :: y :: r => by
    have ih := rises_eq (y :: r)
    show ((List.range (r.length + 1)).map _).all id = (HT.lexLt x y && risesB (y :: r))
    rw [List.range_succ_eq_map, List.map_cons, List.all_cons, ← ih, List.map_map]
    rfl
theorem cutV_1 (xs : List V) : cutV xs (some 1) none = xs.tail := by
  unfold cutV HT.sIx
  simp
  cases xs with
  | nil => rfl
  | cons x r =>
    have h : min 1 (r.length + 1) = 1 := by omega
    simp
    
def sp_is_rising : Sp := fun vs H Q _ => match vs with
  | [.ref t] => ∃ (as : List Addr) (ws : List (List Int)), H t = some (.tup (as.map V.ref)) ∧ Ws H as ws ∧ ws.length ≤ 1000 ∧ ∀ H', Same H H' → Q (.bl (risesB ws)) H'
  | _ => False
theorem ok_is_rising (T : Txt K mg A) : FnOk P w K mg base CX0 1 A.is_rising A.fd_is_rising P_is_rising sp_is_rising := by
  refine T.F_is_rising.ok sc_is_rising (fun vs H Q E h => ?_) (fun cdv Ar outer s H vs Q E hr h => ?_)
  · unfold sp_is_rising at h
    split at h
    · rfl
    · exact h.elim
  · unfold sp_is_rising at h
    split at h
    rotate_left
    · exact h.elim
    rename_i t
    obtain ⟨as, ws, ht, hw, hn, q⟩ := h
    refine ⟨_, (pss_one (ps_ret (pe_callB (u_all rfl) (by rfl) T.b_all (by decide +kernel) (pa_cons (pe_lc (own := [("one", 1), ("other", 2)]) (tt := tYes) rfl sc_is_rising.nd (RZ.pi_zipA (by rfl) T.b_zip (pa_cons (uv 0) (pa_cons (pe_slice u_sl (uv 0) (po_some pe_int) po_none) pa_nil))) (blkOk_by (own := [("one", 1), ("other", 2)]) (N := N_is_rising) (sc := defScope s_is_rising) (by decide +kernel)) (fun _ _ _ _ _ => (ug_tup (n := 2) rfl (ugs_cons (pg_name (i := 1) sc_is_rising.nd rfl (Or.inl rfl)) (ugs_cons (pg_name (i := 2) sc_is_rising.nd rfl (Or.inl rfl)) ugs_nil)))) (fun _ _ _ _ _ => pts_nil) (fun _ _ _ _ _ => (pe_cmpR (u_lt hr.units0) (uv 1) (uv 2) (nomark _)))) pa_nil)))), ?_⟩
    simp only [tSeq, tIfS, tRet, tRetN, tDrop, tAsg, tNext, tNever, gName, tAndV, tOrV, tNotV, tAnd, tOr, tNot, tB, tTest, tIf, tOp, tUn, tCB, tCall, tCons, tNil, tC, tChain, tSl, tPart, tNoPart, tPar, gSub, uVar, uTupD, uLstD, uDK, uDT, uBM, uBM0, uTup, uNil, uCons, uLe, uGt, uGe, uEq, uNe, uIs, uIsNot, uIn, uNotIn, uAdd, uSub, uMul, uMod, uFdiv, uPow, uNeg, uCmp, uLt, uEqG, uIsG, uInG, uIx, uSl, uLen, lenV, uIsi, isaV_int, isaV_bl, isaV_str, isaV_non, uSet, uDivmod, uAll, uSum, uInt1, uList, uTuple, uTupleF, uAppend, uExtend, uPopAt, uLIndex, uLCount, uRepr, uTIndex, uIsE, tyU, keyV, keysV, isNon, L2.start, List.map_cons, List.map_nil, List.length_cons, List.length_nil, List.replicate, List.cons_append, List.nil_append, List.append_nil, Nat.sub_self, List.getElem?_cons_zero, List.getElem?_cons_succ, List.set_cons_zero, List.set_cons_succ, V.bl.injEq, V.int.injEq, V.ref.injEq, V.str.injEq, List.cons.injEq, Option.some.injEq, exists_eq_left', and_true, true_and, atI_0, atI_1, atI_2, atI_3, atI_4, if_true_eq, if_false_eq, Nat.reduceAdd, Nat.reduceSub, reduceCtorEq, ok_int, ok_bool, ok_str, ok_list, ok_tuple, String.reduceBEq, Bool.or_true, Bool.true_or, Bool.or_false, Bool.false_or, Bool.not_true, Bool.not_false, Int.cast_ofNat_Int, ↓reduceIte, decide_true, decide_false, Bool.false_eq_true, Option.isSome_some, tLc_eq, tFor_eq, iTup, iList, iRng1, iRng2, iRng3, RZ.iZipA, tYes, tTru, uMax2, uMin2, uLstRg, ht]
    intro p H1 e1 h1
    rw [cutV_1] at h1
    refine ⟨t, p, _, _, ⟨rfl, rfl⟩, .inr ⟨SqT.of (e1 _ _ ht), SqT.of h1, ?_⟩⟩
    have hl : as.length = ws.length := hw.1
    refine lc_pure (mono_tup (mono_cons mono_name (mono_cons mono_name mono_nil))) (walk_zipT (n := ws.length - 1) (by simp; omega)) (by omega) (fun H' e => ⟨SqT.of (e _ _ (e1 _ _ ht)), SqT.of (e _ _ h1)⟩)
      (fun i => .bl (HT.lexLt (ws.getD i []) (ws.getD (i + 1) []))) (fun _ => true) (fun i x H' H'' hi e2 y => ?_) (fun l H' e2 hl hl2 => ?_)
    · obtain ⟨c, u, v, rfl, hc, rfl, hu, hv⟩ := y
      have k1 : i < as.length := by omega
      have k2 : i + 1 < as.length := by omega
      have k3 : i < ws.length := by omega
      have k4 : i + 1 < ws.length := by omega
      have eu : u = .ref as[i] := by simpa [k1] using hu.symm
      have ev : v = .ref as[i + 1] := by simpa [k2] using hv.symm
      subst eu ev
      have w1 := hw.2 i as[i] ws[i] (by simp [k1]) (by simp [k3])
      have w2 := hw.2 (i + 1) as[i + 1] ws[i + 1] (by simp [k2]) (by simp [k4])
      have g1 : ws.getD i [] = ws[i] := by simp [k3]
      have g2 : ws.getD (i + 1) [] = ws[i + 1] := by simp [k4]
      have e3 : Same H' (upd H' c (.tup [.ref as[i], .ref as[i + 1]])) := same_new hc
      simp only [tSeq, tIfS, tRet, tRetN, tDrop, tAsg, tNext, tNever, gName, tAndV, tOrV, tNotV, tAnd, tOr, tNot, tB, tTest, tIf, tOp, tUn, tCB, tCall, tCons, tNil, tC, tChain, tSl, tPart, tNoPart, tPar, gSub, uVar, uTupD, uLstD, uDK, uDT, uBM, uBM0, uTup, uNil, uCons, uLe, uGt, uGe, uEq, uNe, uIs, uIsNot, uIn, uNotIn, uAdd, uSub, uMul, uMod, uFdiv, uPow, uNeg, uCmp, uLt, uEqG, uIsG, uInG, uIx, uSl, uLen, lenV, uIsi, isaV_int, isaV_bl, isaV_str, isaV_non, uSet, uDivmod, uAll, uSum, uInt1, uList, uTuple, uTupleF, uAppend, uExtend, uPopAt, uLIndex, uLCount, uRepr, uTIndex, uIsE, tyU, keyV, keysV, isNon, L2.start, List.map_cons, List.map_nil, List.length_cons, List.length_nil, List.replicate, List.cons_append, List.nil_append, List.append_nil, Nat.sub_self, List.getElem?_cons_zero, List.getElem?_cons_succ, List.set_cons_zero, List.set_cons_succ, V.bl.injEq, V.int.injEq, V.ref.injEq, V.str.injEq, List.cons.injEq, Option.some.injEq, exists_eq_left', and_true, true_and, atI_0, atI_1, atI_2, atI_3, atI_4, if_true_eq, if_false_eq, Nat.reduceAdd, Nat.reduceSub, reduceCtorEq, ok_int, ok_bool, ok_str, ok_list, ok_tuple, String.reduceBEq, Bool.or_true, Bool.true_or, Bool.or_false, Bool.false_or, Bool.not_true, Bool.not_false, Int.cast_ofNat_Int, ↓reduceIte, decide_true, decide_false, Bool.false_eq_true, Option.isSome_some, tLc_eq, tFor_eq, iTup, iList, iRng1, iRng2, iRng3, RZ.iZipA, tYes, tTru, uMax2, uMin2, uLstRg, upd_same, wipe]
      refine ⟨e3, fun QT k => k _ (Same.refl _), fun _ H3 e4 Q' k => ?_⟩
      have e5 : Same H H3 := e1.trans (e2.trans (e3.trans e4))
      simp only [e5 _ _ w1, e5 _ _ w2]
      refine ⟨_, _, rfl, rfl, ?_⟩
      rw [g1, g2] at k
      exact k H3 (Same.refl _)
    · simp only [hl2]
      refine ⟨(List.range (ws.length - 1)).map fun i => HT.lexLt (ws.getD i []) (ws.getD (i + 1) []), by rw [vals_all, List.map_map]; rfl, ?_⟩
      rw [rises_eq]
      exact q _ (e1.trans e2)

end Cv
end
section
namespace Cv
open PySem L2
variable {P : Program} {w : World} {K : PySem.W.Frag} {mg : Str → Option Value} {base : Heap} {A : Ad}
/-! ### are_joined -/
def sp_are_joined : Sp := fun vs H Q _ => match vs with
  | [.int n, .ref t] => ∃ (as : List Addr) (ws : List (List Int)) (m : Nat), n = (m : Int) ∧ H t = some (.tup (as.map V.ref)) ∧ Ws H as ws ∧ 1 ≤ m ∧ m ≤ 1000 ∧ (∀ x ∈ ws, WayOk m x) ∧ Joined m ws ∧ ∀ H', Same H H' → Q (.bl true) H'
  | _ => False
/-- the ways behind the i-th turn of the inner loop: those that touch the yard y have both ends found -/
def Seen (ws : List (List Int)) (i : Nat) (y : Int) (fs : List Int) : Prop := ∀ j, j < i → ∀ a b l f : Int, ws[j]? = some [a, b, l, f] → y = a ∨ y = b → a ∈ fs ∧ b ∈ fs
theorem ok_are_joined (T : Txt K mg A) : FnOk P w K mg base CX0 1 A.are_joined A.fd_are_joined P_are_joined sp_are_joined := by
  refine T.F_are_joined.ok sc_are_joined (fun vs H Q E h => ?_) (fun cdv Ar outer s H vs Q E hr h => ?_)
  · unfold sp_are_joined at h
    split at h
    · rfl
    · exact h.elim
  · unfold sp_are_joined at h
    split at h
    rotate_left
    · exact h.elim
    rename_i nn t
    obtain ⟨as, ws, n, rfl, ht, hw, hn1, hn2, hok, hj, q⟩ := h
    refine ⟨_, (pss_cons (ps_set (i := 2) sc_are_joined.nd rfl (Or.inr rfl) (ue_lst (pa_cons pe_int pa_nil)))
  (pss_cons (ps_set (i := 3) sc_are_joined.nd rfl (Or.inl rfl) pe_int)
  (pss_cons (ps_while PassesOwn.never (pt_cmpR (u_lt hr.units0) (uv 3) (pe_callB u_len (by rfl) T.b_len (by decide +kernel) (pa_cons (uv 2) pa_nil)) (nomark _))
    (pss_cons (ps_for PassesOwn.never rfl (pi_tup (uv 1)) (ug_tup (n := 4) rfl (ugs_cons (pg_name (i := 4) sc_are_joined.nd rfl (Or.inl rfl)) (ugs_cons (pg_name (i := 5) sc_are_joined.nd rfl (Or.inl rfl)) (ugs_cons (pg_name (i := 6) sc_are_joined.nd rfl (Or.inl rfl)) (ugs_cons (pg_name (i := 7) sc_are_joined.nd rfl (Or.inl rfl)) ugs_nil)))))
      (pss_one (ps_if (pt_cmpR (u_in (hu_of hr)) (pe_ix (u_ix (hu_of hr)) (uv 2) (uv 3) (fun _ _ => rfl)) (ue_tup (pa_cons (uv 4) (pa_cons (uv 5) pa_nil))) (by rfl)) (pss_one (ps_expr (ue_bm PySem.F.plainAttrs_list PySem.F.slot_list_extend PySem.F.type_list_extend u_extend (uv 2) (pa_cons (pe_lc (own := [("yard", 8)]) rfl sc_are_joined.nd (pi_tup (ue_tup (pa_cons (uv 4) (pa_cons (uv 5) pa_nil)))) (blkOk_by (own := [("yard", 8)]) (N := N_are_joined) (sc := defScope s_are_joined) (by decide +kernel)) (fun _ _ _ _ _ => (pg_name (i := 8) sc_are_joined.nd rfl (Or.inl rfl))) (fun _ _ _ _ _ => (pts_one (pt_cmpR (u_notin (hu_of hr)) (uv 8) (uv 2) (by rfl)))) (fun _ _ _ _ _ => (uv 8))) pa_nil)))) pss_nil)))
    (pss_one (ps_set (i := 3) sc_are_joined.nd rfl (Or.inl rfl) (pe_op u_add (uv 3) pe_int)))))
  (pss_one (ps_ret (pe_cmpR (u_eq hr.units) (pe_callB u_len (by rfl) T.b_len (by decide +kernel) (pa_cons (uv 2) pa_nil)) (uv 0) (nomark _))))))), ?_⟩
    simp only [tSeq, tIfS, tRet, tRetN, tDrop, tAsg, tNext, tNever, gName, tAndV, tOrV, tNotV, tAnd, tOr, tNot, tB, tTest, tIf, tOp, tUn, tCB, tCall, tCons, tNil, tC, tChain, tSl, tPart, tNoPart, tPar, gSub, uVar, uTupD, uLstD, uDK, uDT, uBM, uBM0, uTup, uNil, uCons, uLe, uGt, uGe, uEq, uNe, uIs, uIsNot, uIn, uNotIn, uAdd, uSub, uMul, uMod, uFdiv, uPow, uNeg, uCmp, uLt, uEqG, uIsG, uInG, uIx, uSl, uLen, lenV, uIsi, isaV_int, isaV_bl, isaV_str, isaV_non, uSet, uDivmod, uAll, uSum, uInt1, uList, uTuple, uTupleF, uAppend, uExtend, uPopAt, uLIndex, uLCount, uRepr, uTIndex, uIsE, tyU, keyV, keysV, isNon, L2.start, List.map_cons, List.map_nil, List.length_cons, List.length_nil, List.replicate, List.cons_append, List.nil_append, List.append_nil, Nat.sub_self, List.getElem?_cons_zero, List.getElem?_cons_succ, List.set_cons_zero, List.set_cons_succ, V.bl.injEq, V.int.injEq, V.ref.injEq, V.str.injEq, List.cons.injEq, Option.some.injEq, exists_eq_left', and_true, true_and, atI_0, atI_1, atI_2, atI_3, atI_4, if_true_eq, if_false_eq, Nat.reduceAdd, Nat.reduceSub, reduceCtorEq, ok_int, ok_bool, ok_str, ok_list, ok_tuple, String.reduceBEq, Bool.or_true, Bool.true_or, Bool.or_false, Bool.false_or, Bool.not_true, Bool.not_false, Int.cast_ofNat_Int, ↓reduceIte, decide_true, decide_false, Bool.false_eq_true, Option.isSome_some, tLc_eq, tFor_eq, iTup, iList, iRng1, iRng2, iRng3, RZ.iZipA, tYes, tTru, uMax2, uMin2, uLstRg]
    refine ⟨by decide, fun l H1 e1 hl h1 => ?_⟩
    -- the outer loop
    refine ⟨fun m σ H' => ∃ (fs : List Int) (sp : Nat) (v4 v5 v6 v7 : Option V), σ = [some (.int n), some (.ref t), some (.ref l), some (.int sp), v4, v5, v6, v7, none] ∧ m = n - sp ∧ Same H H' ∧ H' l = some (.lst (fs.map V.int)) ∧ Fnd n fs ∧ (0 : Int) ∈ fs ∧ sp ≤ fs.length ∧
      (∀ i, i < sp → ∀ y, fs[i]? = some y → Seen ws ws.length y fs), ⟨n, [0], 0, none, none, none, none, rfl, by omega, e1, h1, ⟨by simp, by simp; omega⟩, by simp, by simp, fun i hi => by omega⟩, ?_⟩
    rintro m σ H' ⟨fs, sp, v4, v5, v6, v7, rfl, rfl, e2, h2, hF, h0, hsp, hseen⟩
    simp only [tSeq, tIfS, tRet, tRetN, tDrop, tAsg, tNext, tNever, gName, tAndV, tOrV, tNotV, tAnd, tOr, tNot, tB, tTest, tIf, tOp, tUn, tCB, tCall, tCons, tNil, tC, tChain, tSl, tPart, tNoPart, tPar, gSub, uVar, uTupD, uLstD, uDK, uDT, uBM, uBM0, uTup, uNil, uCons, uLe, uGt, uGe, uEq, uNe, uIs, uIsNot, uIn, uNotIn, uAdd, uSub, uMul, uMod, uFdiv, uPow, uNeg, uCmp, uLt, uEqG, uIsG, uInG, uIx, uSl, uLen, lenV, uIsi, isaV_int, isaV_bl, isaV_str, isaV_non, uSet, uDivmod, uAll, uSum, uInt1, uList, uTuple, uTupleF, uAppend, uExtend, uPopAt, uLIndex, uLCount, uRepr, uTIndex, uIsE, tyU, keyV, keysV, isNon, L2.start, List.map_cons, List.map_nil, List.length_cons, List.length_nil, List.replicate, List.cons_append, List.nil_append, List.append_nil, Nat.sub_self, List.getElem?_cons_zero, List.getElem?_cons_succ, List.set_cons_zero, List.set_cons_succ, V.bl.injEq, V.int.injEq, V.ref.injEq, V.str.injEq, List.cons.injEq, Option.some.injEq, exists_eq_left', and_true, true_and, atI_0, atI_1, atI_2, atI_3, atI_4, if_true_eq, if_false_eq, Nat.reduceAdd, Nat.reduceSub, reduceCtorEq, ok_int, ok_bool, ok_str, ok_list, ok_tuple, String.reduceBEq, Bool.or_true, Bool.true_or, Bool.or_false, Bool.false_or, Bool.not_true, Bool.not_false, Int.cast_ofNat_Int, ↓reduceIte, decide_true, decide_false, Bool.false_eq_true, Option.isSome_some, tLc_eq, tFor_eq, iTup, iList, iRng1, iRng2, iRng3, RZ.iZipA, tYes, tTru, uMax2, uMin2, uLstRg, h2]
    by_cases hlt : sp < fs.length
    · rw [if_pos (by simpa using hlt)]
      obtain ⟨y, hy⟩ : ∃ y, fs[sp]? = some y := ⟨fs[sp], by simp [hlt]⟩
      refine ⟨_, fun _ _ p => p, ⟨_, SqT.of (e2 _ _ ht)⟩, ?_⟩
      refine for_pv (walk_tup (xs := as.map V.ref)) (fun i σ H'' => ∃ (fs' : List Int) (v4 v5 v6 v7 : Option V), σ = [some (.int n), some (.ref t), some (.ref l), some (.int sp), v4, v5, v6, v7, none] ∧ Same H H'' ∧ H'' l = some (.lst (fs'.map V.int)) ∧
        Fnd n fs' ∧ fs <+: fs' ∧ Seen ws i y fs') ⟨fs, v4, v5, v6, v7, rfl, e2, h2, hF, List.prefix_refl _, fun j hj => by omega⟩ (fun i σ H'' _ ⟨_, _, _, _, _, _, e3, _⟩ => SqT.of (e3 _ _ ht)) ?_ ?_
      · rintro i x σ H'' H3 hi ⟨fs', u4, u5, u6, u7, rfl, e3, h3, hF', hpre, hs'⟩ ⟨rfl, hx⟩
        have hi' : i < as.length := by simpa using hi
        have hi2 : i < ws.length := by rw [← hw.1]; exact hi'
        have ex : x = .ref as[i] := by simpa [hi'] using hx.symm
        subst ex
        have hwi := hw.2 i as[i] ws[i] (by simp [hi']) (by simp [hi2])
        obtain ⟨a, b, ln, f, ew, k1, k2, k3, k4, k5, k6, k7⟩ := hok ws[i] (by simp)
        rw [ew] at hwi
        have hwg : ws[i]? = some [a, b, ln, f] := by rw [← ew]; simp [hi2]
        have hy' : fs'[sp]? = some y := by
          obtain ⟨r, rfl⟩ := hpre
          rw [List.getElem?_append_left hlt]
          exact hy
        have hat : atI (fs'.map V.int) (sp : Int) = some (.int y) := by
          rw [atI_n]
          simp [hy']
        simp only [tSeq, tIfS, tRet, tRetN, tDrop, tAsg, tNext, tNever, gName, tAndV, tOrV, tNotV, tAnd, tOr, tNot, tB, tTest, tIf, tOp, tUn, tCB, tCall, tCons, tNil, tC, tChain, tSl, tPart, tNoPart, tPar, gSub, uVar, uTupD, uLstD, uDK, uDT, uBM, uBM0, uTup, uNil, uCons, uLe, uGt, uGe, uEq, uNe, uIs, uIsNot, uIn, uNotIn, uAdd, uSub, uMul, uMod, uFdiv, uPow, uNeg, uCmp, uLt, uEqG, uIsG, uInG, uIx, uSl, uLen, lenV, uIsi, isaV_int, isaV_bl, isaV_str, isaV_non, uSet, uDivmod, uAll, uSum, uInt1, uList, uTuple, uTupleF, uAppend, uExtend, uPopAt, uLIndex, uLCount, uRepr, uTIndex, uIsE, tyU, keyV, keysV, isNon, L2.start, List.map_cons, List.map_nil, List.length_cons, List.length_nil, List.replicate, List.cons_append, List.nil_append, List.append_nil, Nat.sub_self, List.getElem?_cons_zero, List.getElem?_cons_succ, List.set_cons_zero, List.set_cons_succ, V.bl.injEq, V.int.injEq, V.ref.injEq, V.str.injEq, List.cons.injEq, Option.some.injEq, exists_eq_left', and_true, true_and, atI_0, atI_1, atI_2, atI_3, atI_4, if_true_eq, if_false_eq, Nat.reduceAdd, Nat.reduceSub, reduceCtorEq, ok_int, ok_bool, ok_str, ok_list, ok_tuple, String.reduceBEq, Bool.or_true, Bool.true_or, Bool.or_false, Bool.false_or, Bool.not_true, Bool.not_false, Int.cast_ofNat_Int, ↓reduceIte, decide_true, decide_false, Bool.false_eq_true, Option.isSome_some, tLc_eq, tFor_eq, iTup, iList, iRng1, iRng2, iRng3, RZ.iZipA, tYes, tTru, uMax2, uMin2, uLstRg, e3 _ _ hwi, h3, hat]
        refine ⟨by decide, fun p H4 e4 h4 => ?_⟩
        simp only [h4, flatV, List.all_cons, List.all_nil, Bool.and_self, and_self, true_and, inV, List.any_cons, List.any_nil, eqV, Bool.or_false]
        have hlH : H l = none := hl
        by_cases hyab : y = a ∨ y = b
        · rw [if_pos (by rcases hyab with rfl | rfl <;> simp)]
          refine ⟨by rw [e4 _ _ h3]; trivial, by decide, fun p5 H5 e5 h5 => ⟨p5, rfl, ⟨_, SqT.of h5⟩, ?_⟩⟩
          refine lc_pure mono_name (walk_tup (xs := [.int a, .int b])) (by simp) (fun H' e => SqT.of (e _ _ h5)) (fun j => .int ([a, b].getD j 0)) (fun j => !decide ([a, b].getD j 0 ∈ fs')) (fun j x H6 H7 hj e6 hx => ?_) (fun l6 H6 e6 hl6 h6 => ?_)
          · obtain ⟨rfl, hx⟩ := hx
            have hj2 : j < 2 := by simpa using hj
            have ex : x = .int ([a, b].getD j 0) := by
              rcases j with _ | _ | j
              · simpa using hx.symm
              · simpa using hx.symm
              · omega
            subst ex
            have h7 := e6 _ _ (e5 _ _ (e4 _ _ h3))
            simp only [tSeq, tIfS, tRet, tRetN, tDrop, tAsg, tNext, tNever, gName, tAndV, tOrV, tNotV, tAnd, tOr, tNot, tB, tTest, tIf, tOp, tUn, tCB, tCall, tCons, tNil, tC, tChain, tSl, tPart, tNoPart, tPar, gSub, uVar, uTupD, uLstD, uDK, uDT, uBM, uBM0, uTup, uNil, uCons, uLe, uGt, uGe, uEq, uNe, uIs, uIsNot, uIn, uNotIn, uAdd, uSub, uMul, uMod, uFdiv, uPow, uNeg, uCmp, uLt, uEqG, uIsG, uInG, uIx, uSl, uLen, lenV, uIsi, isaV_int, isaV_bl, isaV_str, isaV_non, uSet, uDivmod, uAll, uSum, uInt1, uList, uTuple, uTupleF, uAppend, uExtend, uPopAt, uLIndex, uLCount, uRepr, uTIndex, uIsE, tyU, keyV, keysV, isNon, L2.start, List.map_cons, List.map_nil, List.length_cons, List.length_nil, List.replicate, List.cons_append, List.nil_append, List.append_nil, Nat.sub_self, List.getElem?_cons_zero, List.getElem?_cons_succ, List.set_cons_zero, List.set_cons_succ, V.bl.injEq, V.int.injEq, V.ref.injEq, V.str.injEq, List.cons.injEq, Option.some.injEq, exists_eq_left', and_true, true_and, atI_0, atI_1, atI_2, atI_3, atI_4, if_true_eq, if_false_eq, Nat.reduceAdd, Nat.reduceSub, reduceCtorEq, ok_int, ok_bool, ok_str, ok_list, ok_tuple, String.reduceBEq, Bool.or_true, Bool.true_or, Bool.or_false, Bool.false_or, Bool.not_true, Bool.not_false, Int.cast_ofNat_Int, ↓reduceIte, decide_true, decide_false, Bool.false_eq_true, Option.isSome_some, tLc_eq, tFor_eq, iTup, iList, iRng1, iRng2, iRng3, RZ.iZipA, tYes, tTru, uMax2, uMin2, uLstRg, wipe, h7, flatV, flat_ints, inV_int, and_self]
            exact ⟨Same.refl _, fun QT k => k _ (Same.refl _), fun _ H3 e3 Q' k => k _ (Same.refl _)⟩
          · have h7 := e6 _ _ (e5 _ _ (e4 _ _ h3))
            have ev : vals (fun j => V.int ([a, b].getD j 0)) (fun j => !decide ([a, b].getD j 0 ∈ fs')) 2 = ([a, b].filter fun y => !decide (y ∈ fs')).map V.int := by
              unfold vals
              show (([0, 1] : List Nat).filter _).map _ = _
              by_cases g1 : a ∈ fs' <;> by_cases g2 : b ∈ fs' <;> simp [List.filter, g1, g2]
            have h6' : H6 l6 = some (.lst (([a, b].filter fun y => !decide (y ∈ fs')).map V.int)) := by rw [← ev]; exact h6
            simp only [h7, h6']
            have hFe := hF'.ext (show a ≠ b by omega) ⟨k1, by omega⟩ ⟨by omega, k3⟩
            have hle := hFe.len
            refine ⟨?_, ext fs' a b, _, _, _, _, ⟨rfl, rfl, rfl, rfl⟩, same_upd (e3.trans (e4.trans (e5.trans e6))) hlH, ?_, hFe, List.IsPrefix.trans hpre (List.prefix_append _ _), fun j hj a' b' l' f' hj' ht' => ?_⟩
            · rw [← List.length_append, ← List.map_append, List.length_map]
              exact sz1000 (Nat.le_trans hle hn2)
            · rw [upd_same, ← List.map_append]
              rfl
            · by_cases hji : j < i
              · obtain ⟨z1, z2⟩ := hs' j hji a' b' l' f' hj' ht'
                exact ⟨List.mem_append.mpr (.inl z1), List.mem_append.mpr (.inl z2)⟩
              · have : j = i := by omega
                subst this
                rw [hwg] at hj'
                cases hj'
                exact ext_has
        · rw [if_neg (by simp; exact ⟨fun z => hyab (.inl z.symm), fun z => hyab (.inr z.symm)⟩)]
          refine ⟨fs', _, _, _, _, ⟨rfl, rfl, rfl, rfl⟩, e3.trans e4, e4 _ _ h3, hF', hpre, fun j hj a' b' l' f' hj' ht' => ?_⟩
          by_cases hji : j < i
          · exact hs' j hji a' b' l' f' hj' ht'
          · have : j = i := by omega
            subst this
            rw [hwg] at hj'
            cases hj'
            exact absurd ht' hyab
      · rintro σ H3 ⟨fs', u4, u5, u6, u7, rfl, e3, h3, hF', hpre, hs'⟩
        rw [List.length_map, hw.1] at hs'
        simp only [tSeq, tIfS, tRet, tRetN, tDrop, tAsg, tNext, tNever, gName, tAndV, tOrV, tNotV, tAnd, tOr, tNot, tB, tTest, tIf, tOp, tUn, tCB, tCall, tCons, tNil, tC, tChain, tSl, tPart, tNoPart, tPar, gSub, uVar, uTupD, uLstD, uDK, uDT, uBM, uBM0, uTup, uNil, uCons, uLe, uGt, uGe, uEq, uNe, uIs, uIsNot, uIn, uNotIn, uAdd, uSub, uMul, uMod, uFdiv, uPow, uNeg, uCmp, uLt, uEqG, uIsG, uInG, uIx, uSl, uLen, lenV, uIsi, isaV_int, isaV_bl, isaV_str, isaV_non, uSet, uDivmod, uAll, uSum, uInt1, uList, uTuple, uTupleF, uAppend, uExtend, uPopAt, uLIndex, uLCount, uRepr, uTIndex, uIsE, tyU, keyV, keysV, isNon, L2.start, List.map_cons, List.map_nil, List.length_cons, List.length_nil, List.replicate, List.cons_append, List.nil_append, List.append_nil, Nat.sub_self, List.getElem?_cons_zero, List.getElem?_cons_succ, List.set_cons_zero, List.set_cons_succ, V.bl.injEq, V.int.injEq, V.ref.injEq, V.str.injEq, List.cons.injEq, Option.some.injEq, exists_eq_left', and_true, true_and, atI_0, atI_1, atI_2, atI_3, atI_4, if_true_eq, if_false_eq, Nat.reduceAdd, Nat.reduceSub, reduceCtorEq, ok_int, ok_bool, ok_str, ok_list, ok_tuple, String.reduceBEq, Bool.or_true, Bool.true_or, Bool.or_false, Bool.false_or, Bool.not_true, Bool.not_false, Int.cast_ofNat_Int, ↓reduceIte, decide_true, decide_false, Bool.false_eq_true, Option.isSome_some, tLc_eq, tFor_eq, iTup, iList, iRng1, iRng2, iRng3, RZ.iZipA, tYes, tTru, uMax2, uMin2, uLstRg]
        have hle := hpre.length_le
        have hle2 := hF'.len
        refine ⟨n - (sp + 1), by omega, fs', sp + 1, _, _, _, _, ⟨rfl, rfl, rfl, rfl, rfl⟩, rfl, e3, h3, hF', hpre.subset h0, by omega, fun i hi z hz => ?_⟩
        obtain ⟨r, rfl⟩ := hpre
        by_cases his : i < sp
        · rw [List.getElem?_append_left (by omega)] at hz
          have hh := hseen i his z hz
          exact fun j hj a b l f e ht => let ⟨z1, z2⟩ := hh j hj a b l f e ht; ⟨List.mem_append.mpr (.inl z1), List.mem_append.mpr (.inl z2)⟩
        · have : i = sp := by omega
          subst this
          rw [List.getElem?_append_left (by omega), hy] at hz
          cases hz
          exact hs'
    · rw [if_neg (by simpa using hlt)]
      have hall : fs.length = n := all_found hn1 hok hj hF h0 fun x hx a b l f e hab => by
        obtain ⟨j, hj, ej⟩ := List.getElem_of_mem hx
        have hjg : ws[j]? = some [a, b, l, f] := by rw [← e, ← ej]; simp [hj]
        rcases hab with hab | hab
        · obtain ⟨i, hi, ei⟩ := List.getElem_of_mem hab
          exact hseen i (by omega) a (by rw [← ei]; simp [hi]) j hj a b l f hjg (.inl rfl)
        · obtain ⟨i, hi, ei⟩ := List.getElem_of_mem hab
          exact hseen i (by omega) b (by rw [← ei]; simp [hi]) j hj a b l f hjg (.inr rfl)
      have : decide (((List.map V.int fs).length : Int) = n) = true := by simp [hall]
      rw [this]
      exact q _ e2

end Cv
end
section
namespace Cv
open PySem L2
variable {P : Program} {w : World} {K : PySem.W.Frag} {mg : Str → Option Value} {base : Heap} {A : Ad}
/-! ### nets -/
structure NetOk (ys : List Int) (ws : List (List Int)) : Prop where
  y1 : 1 ≤ ys.length
  y2 : ys.length ≤ 10
  y3 : ∀ y ∈ ys, 0 ≤ y ∧ y ≤ 5
  w1 : ws.length ≤ 24
  w2 : ∀ x ∈ ws, WayOk ys.length x
  w3 : risesB ws = true
  jn : Joined ys.length ws
/-- a net stands at t -/
def NetAt (H : Hp) (t : Addr) (ys : List Int) (ws : List (List Int)) : Prop := ∃ (ty tw : Addr) (as : List Addr), H t = some (.tup [.ref ty, .ref tw]) ∧ FT H ty (ys.map V.int) ∧ H tw = some (.tup (as.map V.ref)) ∧ Ws H as ws
theorem FT.mono {H H' : Hp} {a : Addr} {xs : List V} (h : FT H a xs) (e : Same H H') : FT H' a xs := let ⟨o, h1, h2⟩ := h; ⟨o, h1, e _ _ h2⟩
theorem NetAt.mono {H H' : Hp} {t : Addr} {ys : List Int} {ws : List (List Int)} (h : NetAt H t ys ws) (e : Same H H') : NetAt H' t ys ws :=
  let ⟨ty, tw, as, h1, h2, h3, h4⟩ := h; ⟨ty, tw, as, e _ _ h1, h2.mono e, e _ _ h3, h4.mono e⟩
def sp_is_net : Sp := fun vs H Q _ => match vs with
  | [.ref t] => ∃ ys ws, NetAt H t ys ws ∧ NetOk ys ws ∧ ∀ H', Same H H' → Q (.bl true) H'
  | _ => False
theorem ok_is_net (T : Txt K mg A) : FnOk P w K mg base CX0 3 A.is_net A.fd_is_net P_is_net sp_is_net := by
  refine T.F_is_net.ok sc_is_net (fun vs H Q E h => ?_) (fun cdv Ar outer s H vs Q E hr h => ?_)
  · unfold sp_is_net at h
    split at h
    · rfl
    · exact h.elim
  · unfold sp_is_net at h
    split at h
    rotate_left
    · exact h.elim
    rename_i t
    obtain ⟨ys, ws, ⟨ty, tw, as, ht, ⟨oy, hoy, hty⟩, htw, hw⟩, hok, q⟩ := h
    refine ⟨_, (pss_cons (ps_if (PW.pt (pw_or (pt_not (pt_val (pe_callB u_isi (by rfl) T.b_isinstance (by decide +kernel) (pa_cons (uv 0) (pa_cons (pe_bltn (v := .ty "tuple") (by rfl) T.b_tuple (by decide +kernel) rfl) pa_nil))))) (pw_or1 (pt_cmpR (u_ne hr.units) (pe_callB u_len (by rfl) T.b_len (by decide +kernel) (pa_cons (uv 0) pa_nil)) pe_int (nomark _))))) (pss_one (ps_ret pe_bl)) pss_nil)
  (pss_cons (ps_asg (uv 0) (ug_tup (n := 2) rfl (ugs_cons (pg_name (i := 1) sc_is_net.nd rfl (Or.inr rfl)) (ugs_cons (pg_name (i := 2) sc_is_net.nd rfl (Or.inl rfl)) ugs_nil))))
  (pss_cons (ps_if (PW.pt (pw_or (pt_not (pt_val (pe_callB u_isi (by rfl) T.b_isinstance (by decide +kernel) (pa_cons (uv 1) (pa_cons (pe_bltn (v := .ty "tuple") (by rfl) T.b_tuple (by decide +kernel) rfl) pa_nil))))) (pw_or1 (pt_not (pt_chain u_le u_le pe_int (pe_callB u_len (by rfl) T.b_len (by decide +kernel) (pa_cons (uv 1) pa_nil)) (pe_cI (by rfl) T.c_MOST_YARDS)))))) (pss_one (ps_ret pe_bl)) pss_nil)
  (pss_cons (ps_if (pt_not (pt_val (pe_callB (u_all rfl) (by rfl) T.b_all (by decide +kernel) (pa_cons (pe_lc (own := [("line", 3)]) (tt := tYes) rfl sc_is_net.nd (pi_tup (uv 1)) (blkOk_by (own := [("line", 3)]) (N := N_is_net) (sc := defScope s_is_net) (by decide +kernel)) (fun _ _ _ _ _ => (pg_name (i := 3) sc_is_net.nd rfl (Or.inl rfl))) (fun _ _ _ _ _ => pts_nil) (fun _ _ _ _ _ => (pe_call (ok_is_whole T) (hr.mono (by decide)) (by rfl) T.g_is_whole T.F_is_whole.kp T.B_is_whole .nil pass0 (pa_cons (uv 3) (pa_cons pe_int (pa_cons (pe_cI (by rfl) T.c_LAST_LINE) pa_nil)))))) pa_nil)))) (pss_one (ps_ret pe_bl)) pss_nil)
  (pss_cons (ps_if (PW.pt (pw_or (pt_not (pt_val (pe_callB u_isi (by rfl) T.b_isinstance (by decide +kernel) (pa_cons (uv 2) (pa_cons (pe_bltn (v := .ty "tuple") (by rfl) T.b_tuple (by decide +kernel) rfl) pa_nil))))) (pw_or (pt_cmpR u_gt (pe_callB u_len (by rfl) T.b_len (by decide +kernel) (pa_cons (uv 2) pa_nil)) (pe_cI (by rfl) T.c_MOST_WAYS) (nomark _)) (pw_or1 (pt_not (pt_val (pe_callB (u_all rfl) (by rfl) T.b_all (by decide +kernel) (pa_cons (pe_lc (own := [("one", 4)]) (tt := tYes) rfl sc_is_net.nd (pi_tup (uv 2)) (blkOk_by (own := [("one", 4)]) (N := N_is_net) (sc := defScope s_is_net) (by decide +kernel)) (fun _ _ _ _ _ => (pg_name (i := 4) sc_is_net.nd rfl (Or.inl rfl))) (fun _ _ _ _ _ => pts_nil) (fun _ _ _ _ _ => (pe_call (ok_is_way T) (hr.mono (by decide)) (by rfl) T.g_is_way T.F_is_way.kp T.B_is_way .nil pass0 (pa_cons (uv 4) (pa_cons (pe_callB u_len (by rfl) T.b_len (by decide +kernel) (pa_cons (uv 1) pa_nil)) pa_nil))))) pa_nil)))))))) (pss_one (ps_ret pe_bl)) pss_nil)
  (pss_one (ps_ret (pe_and (pe_call (ok_is_rising T) (hr.mono (by decide)) (by rfl) T.g_is_rising T.F_is_rising.kp T.B_is_rising .nil pass0 (pa_cons (uv 2) pa_nil)) (pe_one (pe_call (ok_are_joined T) (hr.mono (by decide)) (by rfl) T.g_are_joined T.F_are_joined.kp T.B_are_joined .nil pass0 (pa_cons (pe_callB u_len (by rfl) T.b_len (by decide +kernel) (pa_cons (uv 1) pa_nil)) (pa_cons (uv 2) pa_nil)))))))))))), ?_⟩
    have hy1 := hok.y1
    have hy2 := hok.y2
    have c1 : decide ((1 : Int) ≤ ((ys.map V.int).length : Int)) = true := by simp; omega
    have c2 : decide (((ys.map V.int).length : Int) ≤ 10) = true := by simp; omega
    have c3 : decide ((24 : Int) < ((as.map V.ref).length : Int)) = false := by have := hw.1; have := hok.w1; simp; omega
    simp only [tSeq, tIfS, tRet, tRetN, tDrop, tAsg, tNext, tNever, gName, tAndV, tOrV, tNotV, tAnd, tOr, tNot, tB, tTest, tIf, tOp, tUn, tCB, tCall, tCons, tNil, tC, tChain, tSl, tPart, tNoPart, tPar, gSub, uVar, uTupD, uLstD, uDK, uDT, uBM, uBM0, uTup, uNil, uCons, uLe, uGt, uGe, uEq, uNe, uIs, uIsNot, uIn, uNotIn, uAdd, uSub, uMul, uMod, uFdiv, uPow, uNeg, uCmp, uLt, uEqG, uIsG, uInG, uIx, uSl, uLen, lenV, uIsi, isaV_int, isaV_bl, isaV_str, isaV_non, uSet, uDivmod, uAll, uSum, uInt1, uList, uTuple, uTupleF, uAppend, uExtend, uPopAt, uLIndex, uLCount, uRepr, uTIndex, uIsE, tyU, keyV, keysV, isNon, L2.start, List.map_cons, List.map_nil, List.length_cons, List.length_nil, List.replicate, List.cons_append, List.nil_append, List.append_nil, Nat.sub_self, List.getElem?_cons_zero, List.getElem?_cons_succ, List.set_cons_zero, List.set_cons_succ, V.bl.injEq, V.int.injEq, V.ref.injEq, V.str.injEq, List.cons.injEq, Option.some.injEq, exists_eq_left', and_true, true_and, atI_0, atI_1, atI_2, atI_3, atI_4, if_true_eq, if_false_eq, Nat.reduceAdd, Nat.reduceSub, reduceCtorEq, ok_int, ok_bool, ok_str, ok_list, ok_tuple, String.reduceBEq, Bool.or_true, Bool.true_or, Bool.or_false, Bool.false_or, Bool.not_true, Bool.not_false, Int.cast_ofNat_Int, ↓reduceIte, decide_true, decide_false, Bool.false_eq_true, Option.isSome_some, tLc_eq, tFor_eq, iTup, iList, iRng1, iRng2, iRng3, RZ.iZipA, tYes, tTru, uMax2, uMin2, uLstRg, isaV, ht, hty, htw, c1, c2]
    refine ⟨⟨_, .inl (.inr ⟨_, hty⟩)⟩, ?_⟩
    refine lc_pure mono_name (walk_tup (xs := ys.map V.int)) (by simp; omega) (fun H' e => .inl (.inr ⟨_, e _ _ hty⟩)) (fun _ => .bl true) (fun _ => true) (fun i x H1 H2 hi e1 hx => ?_) (fun l1 H1 e1 hl1 h1 => ?_)
    · obtain ⟨rfl, hx⟩ := hx
      have hi' : i < ys.length := by simpa using hi
      have ex : x = .int ys[i] := by simpa [hi'] using hx.symm
      subst ex
      obtain ⟨z1, z2⟩ := hok.y3 ys[i] (by simp)
      simp only [tSeq, tIfS, tRet, tRetN, tDrop, tAsg, tNext, tNever, gName, tAndV, tOrV, tNotV, tAnd, tOr, tNot, tB, tTest, tIf, tOp, tUn, tCB, tCall, tCons, tNil, tC, tChain, tSl, tPart, tNoPart, tPar, gSub, uVar, uTupD, uLstD, uDK, uDT, uBM, uBM0, uTup, uNil, uCons, uLe, uGt, uGe, uEq, uNe, uIs, uIsNot, uIn, uNotIn, uAdd, uSub, uMul, uMod, uFdiv, uPow, uNeg, uCmp, uLt, uEqG, uIsG, uInG, uIx, uSl, uLen, lenV, uIsi, isaV_int, isaV_bl, isaV_str, isaV_non, uSet, uDivmod, uAll, uSum, uInt1, uList, uTuple, uTupleF, uAppend, uExtend, uPopAt, uLIndex, uLCount, uRepr, uTIndex, uIsE, tyU, keyV, keysV, isNon, L2.start, List.map_cons, List.map_nil, List.length_cons, List.length_nil, List.replicate, List.cons_append, List.nil_append, List.append_nil, Nat.sub_self, List.getElem?_cons_zero, List.getElem?_cons_succ, List.set_cons_zero, List.set_cons_succ, V.bl.injEq, V.int.injEq, V.ref.injEq, V.str.injEq, List.cons.injEq, Option.some.injEq, exists_eq_left', and_true, true_and, atI_0, atI_1, atI_2, atI_3, atI_4, if_true_eq, if_false_eq, Nat.reduceAdd, Nat.reduceSub, reduceCtorEq, ok_int, ok_bool, ok_str, ok_list, ok_tuple, String.reduceBEq, Bool.or_true, Bool.true_or, Bool.or_false, Bool.false_or, Bool.not_true, Bool.not_false, Int.cast_ofNat_Int, ↓reduceIte, decide_true, decide_false, Bool.false_eq_true, Option.isSome_some, tLc_eq, tFor_eq, iTup, iList, iRng1, iRng2, iRng3, RZ.iZipA, tYes, tTru, uMax2, uMin2, uLstRg, wipe, sp_is_whole, whole_yes z1 z2]
      exact ⟨Same.refl _, fun QT k => k _ (Same.refl _), fun _ H3 e3 Q' k => k _ (Same.refl _)⟩
    · simp only [tSeq, tIfS, tRet, tRetN, tDrop, tAsg, tNext, tNever, gName, tAndV, tOrV, tNotV, tAnd, tOr, tNot, tB, tTest, tIf, tOp, tUn, tCB, tCall, tCons, tNil, tC, tChain, tSl, tPart, tNoPart, tPar, gSub, uVar, uTupD, uLstD, uDK, uDT, uBM, uBM0, uTup, uNil, uCons, uLe, uGt, uGe, uEq, uNe, uIs, uIsNot, uIn, uNotIn, uAdd, uSub, uMul, uMod, uFdiv, uPow, uNeg, uCmp, uLt, uEqG, uIsG, uInG, uIx, uSl, uLen, lenV, uIsi, isaV_int, isaV_bl, isaV_str, isaV_non, uSet, uDivmod, uAll, uSum, uInt1, uList, uTuple, uTupleF, uAppend, uExtend, uPopAt, uLIndex, uLCount, uRepr, uTIndex, uIsE, tyU, keyV, keysV, isNon, L2.start, List.map_cons, List.map_nil, List.length_cons, List.length_nil, List.replicate, List.cons_append, List.nil_append, List.append_nil, Nat.sub_self, List.getElem?_cons_zero, List.getElem?_cons_succ, List.set_cons_zero, List.set_cons_succ, V.bl.injEq, V.int.injEq, V.ref.injEq, V.str.injEq, List.cons.injEq, Option.some.injEq, exists_eq_left', and_true, true_and, atI_0, atI_1, atI_2, atI_3, atI_4, if_true_eq, if_false_eq, Nat.reduceAdd, Nat.reduceSub, reduceCtorEq, ok_int, ok_bool, ok_str, ok_list, ok_tuple, String.reduceBEq, Bool.or_true, Bool.true_or, Bool.or_false, Bool.false_or, Bool.not_true, Bool.not_false, Int.cast_ofNat_Int, ↓reduceIte, decide_true, decide_false, Bool.false_eq_true, Option.isSome_some, tLc_eq, tFor_eq, iTup, iList, iRng1, iRng2, iRng3, RZ.iZipA, tYes, tTru, uMax2, uMin2, uLstRg, h1, isaV, e1 _ _ ht, e1 _ _ hty, e1 _ _ htw, c3]
      refine ⟨List.replicate ys.length true, by rw [vals_all, List.length_map]; simp [List.map_const'], ?_⟩
      simp only [List.all_replicate, id, ite_self, tSeq, tIfS, tRet, tRetN, tDrop, tAsg, tNext, tNever, gName, tAndV, tOrV, tNotV, tAnd, tOr, tNot, tB, tTest, tIf, tOp, tUn, tCB, tCall, tCons, tNil, tC, tChain, tSl, tPart, tNoPart, tPar, gSub, uVar, uTupD, uLstD, uDK, uDT, uBM, uBM0, uTup, uNil, uCons, uLe, uGt, uGe, uEq, uNe, uIs, uIsNot, uIn, uNotIn, uAdd, uSub, uMul, uMod, uFdiv, uPow, uNeg, uCmp, uLt, uEqG, uIsG, uInG, uIx, uSl, uLen, lenV, uIsi, isaV_int, isaV_bl, isaV_str, isaV_non, uSet, uDivmod, uAll, uSum, uInt1, uList, uTuple, uTupleF, uAppend, uExtend, uPopAt, uLIndex, uLCount, uRepr, uTIndex, uIsE, tyU, keyV, keysV, isNon, L2.start, List.map_cons, List.map_nil, List.length_cons, List.length_nil, List.replicate, List.cons_append, List.nil_append, List.append_nil, Nat.sub_self, List.getElem?_cons_zero, List.getElem?_cons_succ, List.set_cons_zero, List.set_cons_succ, V.bl.injEq, V.int.injEq, V.ref.injEq, V.str.injEq, List.cons.injEq, Option.some.injEq, exists_eq_left', and_true, true_and, atI_0, atI_1, atI_2, atI_3, atI_4, if_true_eq, if_false_eq, Nat.reduceAdd, Nat.reduceSub, reduceCtorEq, ok_int, ok_bool, ok_str, ok_list, ok_tuple, String.reduceBEq, Bool.or_true, Bool.true_or, Bool.or_false, Bool.false_or, Bool.not_true, Bool.not_false, Int.cast_ofNat_Int, ↓reduceIte, decide_true, decide_false, Bool.false_eq_true, Option.isSome_some, tLc_eq, tFor_eq, iTup, iList, iRng1, iRng2, iRng3, RZ.iZipA, tYes, tTru, uMax2, uMin2, uLstRg]
      refine ⟨⟨_, SqT.of (e1 _ _ htw)⟩, ?_⟩
      have hwl := hw.1
      have hw1 := hok.w1
      refine lc_pure mono_name (walk_tup (xs := as.map V.ref)) (by simp; omega) (fun H' e => SqT.of (e _ _ (e1 _ _ htw))) (fun _ => .bl true) (fun _ => true) (fun i x H2 H3 hi e2 hx => ?_) (fun l2 H2 e2 hl2 h2 => ?_)
      · obtain ⟨rfl, hx⟩ := hx
        have hi' : i < as.length := by simpa using hi
        have hi2 : i < ws.length := by omega
        have ex : x = .ref as[i] := by simpa [hi'] using hx.symm
        subst ex
        have hwi := hw.2 i as[i] ws[i] (by simp [hi']) (by simp [hi2])
        have hwo := hok.w2 ws[i] (by simp)
        simp only [tSeq, tIfS, tRet, tRetN, tDrop, tAsg, tNext, tNever, gName, tAndV, tOrV, tNotV, tAnd, tOr, tNot, tB, tTest, tIf, tOp, tUn, tCB, tCall, tCons, tNil, tC, tChain, tSl, tPart, tNoPart, tPar, gSub, uVar, uTupD, uLstD, uDK, uDT, uBM, uBM0, uTup, uNil, uCons, uLe, uGt, uGe, uEq, uNe, uIs, uIsNot, uIn, uNotIn, uAdd, uSub, uMul, uMod, uFdiv, uPow, uNeg, uCmp, uLt, uEqG, uIsG, uInG, uIx, uSl, uLen, lenV, uIsi, isaV_int, isaV_bl, isaV_str, isaV_non, uSet, uDivmod, uAll, uSum, uInt1, uList, uTuple, uTupleF, uAppend, uExtend, uPopAt, uLIndex, uLCount, uRepr, uTIndex, uIsE, tyU, keyV, keysV, isNon, L2.start, List.map_cons, List.map_nil, List.length_cons, List.length_nil, List.replicate, List.cons_append, List.nil_append, List.append_nil, Nat.sub_self, List.getElem?_cons_zero, List.getElem?_cons_succ, List.set_cons_zero, List.set_cons_succ, V.bl.injEq, V.int.injEq, V.ref.injEq, V.str.injEq, List.cons.injEq, Option.some.injEq, exists_eq_left', and_true, true_and, atI_0, atI_1, atI_2, atI_3, atI_4, if_true_eq, if_false_eq, Nat.reduceAdd, Nat.reduceSub, reduceCtorEq, ok_int, ok_bool, ok_str, ok_list, ok_tuple, String.reduceBEq, Bool.or_true, Bool.true_or, Bool.or_false, Bool.false_or, Bool.not_true, Bool.not_false, Int.cast_ofNat_Int, ↓reduceIte, decide_true, decide_false, Bool.false_eq_true, Option.isSome_some, tLc_eq, tFor_eq, iTup, iList, iRng1, iRng2, iRng3, RZ.iZipA, tYes, tTru, uMax2, uMin2, uLstRg, wipe]
        refine ⟨Same.refl _, fun QT k => k _ (Same.refl _), fun _ H3 e3 Q' k => ?_⟩
        have e4 := e1.trans (e2.trans e3)
        simp only [tSeq, tIfS, tRet, tRetN, tDrop, tAsg, tNext, tNever, gName, tAndV, tOrV, tNotV, tAnd, tOr, tNot, tB, tTest, tIf, tOp, tUn, tCB, tCall, tCons, tNil, tC, tChain, tSl, tPart, tNoPart, tPar, gSub, uVar, uTupD, uLstD, uDK, uDT, uBM, uBM0, uTup, uNil, uCons, uLe, uGt, uGe, uEq, uNe, uIs, uIsNot, uIn, uNotIn, uAdd, uSub, uMul, uMod, uFdiv, uPow, uNeg, uCmp, uLt, uEqG, uIsG, uInG, uIx, uSl, uLen, lenV, uIsi, isaV_int, isaV_bl, isaV_str, isaV_non, uSet, uDivmod, uAll, uSum, uInt1, uList, uTuple, uTupleF, uAppend, uExtend, uPopAt, uLIndex, uLCount, uRepr, uTIndex, uIsE, tyU, keyV, keysV, isNon, L2.start, List.map_cons, List.map_nil, List.length_cons, List.length_nil, List.replicate, List.cons_append, List.nil_append, List.append_nil, Nat.sub_self, List.getElem?_cons_zero, List.getElem?_cons_succ, List.set_cons_zero, List.set_cons_succ, V.bl.injEq, V.int.injEq, V.ref.injEq, V.str.injEq, List.cons.injEq, Option.some.injEq, exists_eq_left', and_true, true_and, atI_0, atI_1, atI_2, atI_3, atI_4, if_true_eq, if_false_eq, Nat.reduceAdd, Nat.reduceSub, reduceCtorEq, ok_int, ok_bool, ok_str, ok_list, ok_tuple, String.reduceBEq, Bool.or_true, Bool.true_or, Bool.or_false, Bool.false_or, Bool.not_true, Bool.not_false, Int.cast_ofNat_Int, ↓reduceIte, decide_true, decide_false, Bool.false_eq_true, Option.isSome_some, tLc_eq, tFor_eq, iTup, iList, iRng1, iRng2, iRng3, RZ.iZipA, tYes, tTru, uMax2, uMin2, uLstRg, e4 _ _ hty, sp_is_way]
        exact ⟨ys.length, ws[i], by simp, e4 _ _ hwi, hwo, k _ (Same.refl _)⟩
      · have e3 := e1.trans e2
        simp only [h2]
        refine ⟨List.replicate as.length true, by rw [vals_all, List.length_map]; simp [List.map_const'], ?_⟩
        simp only [List.all_replicate, id, ite_self, tSeq, tIfS, tRet, tRetN, tDrop, tAsg, tNext, tNever, gName, tAndV, tOrV, tNotV, tAnd, tOr, tNot, tB, tTest, tIf, tOp, tUn, tCB, tCall, tCons, tNil, tC, tChain, tSl, tPart, tNoPart, tPar, gSub, uVar, uTupD, uLstD, uDK, uDT, uBM, uBM0, uTup, uNil, uCons, uLe, uGt, uGe, uEq, uNe, uIs, uIsNot, uIn, uNotIn, uAdd, uSub, uMul, uMod, uFdiv, uPow, uNeg, uCmp, uLt, uEqG, uIsG, uInG, uIx, uSl, uLen, lenV, uIsi, isaV_int, isaV_bl, isaV_str, isaV_non, uSet, uDivmod, uAll, uSum, uInt1, uList, uTuple, uTupleF, uAppend, uExtend, uPopAt, uLIndex, uLCount, uRepr, uTIndex, uIsE, tyU, keyV, keysV, isNon, L2.start, List.map_cons, List.map_nil, List.length_cons, List.length_nil, List.replicate, List.cons_append, List.nil_append, List.append_nil, Nat.sub_self, List.getElem?_cons_zero, List.getElem?_cons_succ, List.set_cons_zero, List.set_cons_succ, V.bl.injEq, V.int.injEq, V.ref.injEq, V.str.injEq, List.cons.injEq, Option.some.injEq, exists_eq_left', and_true, true_and, atI_0, atI_1, atI_2, atI_3, atI_4, if_true_eq, if_false_eq, Nat.reduceAdd, Nat.reduceSub, reduceCtorEq, ok_int, ok_bool, ok_str, ok_list, ok_tuple, String.reduceBEq, Bool.or_true, Bool.true_or, Bool.or_false, Bool.false_or, Bool.not_true, Bool.not_false, Int.cast_ofNat_Int, ↓reduceIte, decide_true, decide_false, Bool.false_eq_true, Option.isSome_some, tLc_eq, tFor_eq, iTup, iList, iRng1, iRng2, iRng3, RZ.iZipA, tYes, tTru, uMax2, uMin2, uLstRg]
        simp only [sp_is_rising]
        refine ⟨as, ws, e3 _ _ htw, hw.mono e3, by omega, fun H4 e4 => ?_⟩
        have e5 := e3.trans e4
        simp only [tSeq, tIfS, tRet, tRetN, tDrop, tAsg, tNext, tNever, gName, tAndV, tOrV, tNotV, tAnd, tOr, tNot, tB, tTest, tIf, tOp, tUn, tCB, tCall, tCons, tNil, tC, tChain, tSl, tPart, tNoPart, tPar, gSub, uVar, uTupD, uLstD, uDK, uDT, uBM, uBM0, uTup, uNil, uCons, uLe, uGt, uGe, uEq, uNe, uIs, uIsNot, uIn, uNotIn, uAdd, uSub, uMul, uMod, uFdiv, uPow, uNeg, uCmp, uLt, uEqG, uIsG, uInG, uIx, uSl, uLen, lenV, uIsi, isaV_int, isaV_bl, isaV_str, isaV_non, uSet, uDivmod, uAll, uSum, uInt1, uList, uTuple, uTupleF, uAppend, uExtend, uPopAt, uLIndex, uLCount, uRepr, uTIndex, uIsE, tyU, keyV, keysV, isNon, L2.start, List.map_cons, List.map_nil, List.length_cons, List.length_nil, List.replicate, List.cons_append, List.nil_append, List.append_nil, Nat.sub_self, List.getElem?_cons_zero, List.getElem?_cons_succ, List.set_cons_zero, List.set_cons_succ, V.bl.injEq, V.int.injEq, V.ref.injEq, V.str.injEq, List.cons.injEq, Option.some.injEq, exists_eq_left', and_true, true_and, atI_0, atI_1, atI_2, atI_3, atI_4, if_true_eq, if_false_eq, Nat.reduceAdd, Nat.reduceSub, reduceCtorEq, ok_int, ok_bool, ok_str, ok_list, ok_tuple, String.reduceBEq, Bool.or_true, Bool.true_or, Bool.or_false, Bool.false_or, Bool.not_true, Bool.not_false, Int.cast_ofNat_Int, ↓reduceIte, decide_true, decide_false, Bool.false_eq_true, Option.isSome_some, tLc_eq, tFor_eq, iTup, iList, iRng1, iRng2, iRng3, RZ.iZipA, tYes, tTru, uMax2, uMin2, uLstRg, hok.w3, e5 _ _ hty, sp_are_joined]
        exact ⟨as, ws, ys.length, by simp, e5 _ _ htw, hw.mono e5, hok.y1, by omega, hok.w2, hok.jn, fun H6 e6 => q _ (e5.trans e6)⟩
/-! ### need_net: nothing is refused -/
def sp_need_net : Sp := fun vs H Q _ => match vs with
  | [.ref t] => ∃ ys ws, NetAt H t ys ws ∧ NetOk ys ws ∧ ∀ H', Same H H' → Q .non H'
  | _ => False
theorem ok_need_net (T : Txt K mg A) : FnOk P w K mg base CX0 4 A.need_net A.fd_need_net P_need_net sp_need_net := by
  refine T.F_need_net.ok sc_need_net (fun vs H Q E h => ?_) (fun cdv Ar outer s H vs Q E hr h => ?_)
  · unfold sp_need_net at h
    split at h
    · rfl
    · exact h.elim
  · unfold sp_need_net at h
    split at h
    rotate_left
    · exact h.elim
    rename_i t
    obtain ⟨ys, ws, hN, hok, q⟩ := h
    refine ⟨_, (pss_one (ps_if (pt_not (pt_val (pe_call (ok_is_net T) (hr.mono (by decide)) (by rfl) T.g_is_net T.F_is_net.kp T.B_is_net .nil pass0 (pa_cons (uv 0) pa_nil)))) (pss_one ps_never) pss_nil)), ?_⟩
    simp only [tSeq, tIfS, tRet, tRetN, tDrop, tAsg, tNext, tNever, gName, tAndV, tOrV, tNotV, tAnd, tOr, tNot, tB, tTest, tIf, tOp, tUn, tCB, tCall, tCons, tNil, tC, tChain, tSl, tPart, tNoPart, tPar, gSub, uVar, uTupD, uLstD, uDK, uDT, uBM, uBM0, uTup, uNil, uCons, uLe, uGt, uGe, uEq, uNe, uIs, uIsNot, uIn, uNotIn, uAdd, uSub, uMul, uMod, uFdiv, uPow, uNeg, uCmp, uLt, uEqG, uIsG, uInG, uIx, uSl, uLen, lenV, uIsi, isaV_int, isaV_bl, isaV_str, isaV_non, uSet, uDivmod, uAll, uSum, uInt1, uList, uTuple, uTupleF, uAppend, uExtend, uPopAt, uLIndex, uLCount, uRepr, uTIndex, uIsE, tyU, keyV, keysV, isNon, L2.start, List.map_cons, List.map_nil, List.length_cons, List.length_nil, List.replicate, List.cons_append, List.nil_append, List.append_nil, Nat.sub_self, List.getElem?_cons_zero, List.getElem?_cons_succ, List.set_cons_zero, List.set_cons_succ, V.bl.injEq, V.int.injEq, V.ref.injEq, V.str.injEq, List.cons.injEq, Option.some.injEq, exists_eq_left', and_true, true_and, atI_0, atI_1, atI_2, atI_3, atI_4, if_true_eq, if_false_eq, Nat.reduceAdd, Nat.reduceSub, reduceCtorEq, ok_int, ok_bool, ok_str, ok_list, ok_tuple, String.reduceBEq, Bool.or_true, Bool.true_or, Bool.or_false, Bool.false_or, Bool.not_true, Bool.not_false, Int.cast_ofNat_Int, ↓reduceIte, decide_true, decide_false, Bool.false_eq_true, Option.isSome_some, tLc_eq, tFor_eq, iTup, iList, iRng1, iRng2, iRng3, RZ.iZipA, tYes, tTru, uMax2, uMin2, uLstRg, sp_is_net]
    exact ⟨ys, ws, hN, hok, fun H' e => q _ e⟩
/-! ### is_mark, home_in -/
def markV (x : V) (ys : List Int) : Bool := match x with
  | .int i => decide (0 ≤ i) && decide (i ≤ 5) && decide (i ∈ ys)
  | _ => false
def sp_is_mark : Sp := fun vs H Q _ => match vs with
  | [.ref t, x] => ∃ ys ws, NetAt H t ys ws ∧ (isaV H x "int").isSome = true ∧ Q (.bl (markV x ys)) H
  | _ => False
theorem ok_is_mark (T : Txt K mg A) : FnOk P w K mg base CX0 2 A.is_mark A.fd_is_mark P_is_mark sp_is_mark := by
  refine T.F_is_mark.ok sc_is_mark (fun vs H Q E h => ?_) (fun cdv Ar outer s H vs Q E hr h => ?_)
  · unfold sp_is_mark at h
    split at h
    · rfl
    · exact h.elim
  · unfold sp_is_mark at h
    split at h
    rotate_left
    · exact h.elim
    rename_i t x
    obtain ⟨ys, ws, ⟨ty, tw, as, ht, ⟨oy, hoy, hty⟩, htw, hw⟩, hx, q⟩ := h
    refine ⟨_, (pss_one (ps_ret (pe_and (pe_call (ok_is_whole T) (hr.mono (by decide)) (by rfl) T.g_is_whole T.F_is_whole.kp T.B_is_whole .nil pass0 (pa_cons (uv 1) (pa_cons pe_int (pa_cons (pe_cI (by rfl) T.c_LAST_LINE) pa_nil)))) (pe_one (pe_cmpR (u_in (hu_of hr)) (uv 1) (pe_ix (u_ix (hu_of hr)) (uv 0) pe_int (fun _ _ => rfl)) (by rfl)))))), ?_⟩
    simp only [tSeq, tIfS, tRet, tRetN, tDrop, tAsg, tNext, tNever, gName, tAndV, tOrV, tNotV, tAnd, tOr, tNot, tB, tTest, tIf, tOp, tUn, tCB, tCall, tCons, tNil, tC, tChain, tSl, tPart, tNoPart, tPar, gSub, uVar, uTupD, uLstD, uDK, uDT, uBM, uBM0, uTup, uNil, uCons, uLe, uGt, uGe, uEq, uNe, uIs, uIsNot, uIn, uNotIn, uAdd, uSub, uMul, uMod, uFdiv, uPow, uNeg, uCmp, uLt, uEqG, uIsG, uInG, uIx, uSl, uLen, lenV, uIsi, isaV_int, isaV_bl, isaV_str, isaV_non, uSet, uDivmod, uAll, uSum, uInt1, uList, uTuple, uTupleF, uAppend, uExtend, uPopAt, uLIndex, uLCount, uRepr, uTIndex, uIsE, tyU, keyV, keysV, isNon, L2.start, List.map_cons, List.map_nil, List.length_cons, List.length_nil, List.replicate, List.cons_append, List.nil_append, List.append_nil, Nat.sub_self, List.getElem?_cons_zero, List.getElem?_cons_succ, List.set_cons_zero, List.set_cons_succ, V.bl.injEq, V.int.injEq, V.ref.injEq, V.str.injEq, List.cons.injEq, Option.some.injEq, exists_eq_left', and_true, true_and, atI_0, atI_1, atI_2, atI_3, atI_4, if_true_eq, if_false_eq, Nat.reduceAdd, Nat.reduceSub, reduceCtorEq, ok_int, ok_bool, ok_str, ok_list, ok_tuple, String.reduceBEq, Bool.or_true, Bool.true_or, Bool.or_false, Bool.false_or, Bool.not_true, Bool.not_false, Int.cast_ofNat_Int, ↓reduceIte, decide_true, decide_false, Bool.false_eq_true, Option.isSome_some, tLc_eq, tFor_eq, iTup, iList, iRng1, iRng2, iRng3, RZ.iZipA, tYes, tTru, uMax2, uMin2, uLstRg, sp_is_whole, ht, hty, hx]
    cases x with
    | int i =>
      by_cases h1 : wholeV (.int i) 0 5 = true
      · have h2 := h1
        simp only [wholeV] at h2
        simp only [markV, h2, Bool.true_and] at q
        simp only [tSeq, tIfS, tRet, tRetN, tDrop, tAsg, tNext, tNever, gName, tAndV, tOrV, tNotV, tAnd, tOr, tNot, tB, tTest, tIf, tOp, tUn, tCB, tCall, tCons, tNil, tC, tChain, tSl, tPart, tNoPart, tPar, gSub, uVar, uTupD, uLstD, uDK, uDT, uBM, uBM0, uTup, uNil, uCons, uLe, uGt, uGe, uEq, uNe, uIs, uIsNot, uIn, uNotIn, uAdd, uSub, uMul, uMod, uFdiv, uPow, uNeg, uCmp, uLt, uEqG, uIsG, uInG, uIx, uSl, uLen, lenV, uIsi, isaV_int, isaV_bl, isaV_str, isaV_non, uSet, uDivmod, uAll, uSum, uInt1, uList, uTuple, uTupleF, uAppend, uExtend, uPopAt, uLIndex, uLCount, uRepr, uTIndex, uIsE, tyU, keyV, keysV, isNon, L2.start, List.map_cons, List.map_nil, List.length_cons, List.length_nil, List.replicate, List.cons_append, List.nil_append, List.append_nil, Nat.sub_self, List.getElem?_cons_zero, List.getElem?_cons_succ, List.set_cons_zero, List.set_cons_succ, V.bl.injEq, V.int.injEq, V.ref.injEq, V.str.injEq, List.cons.injEq, Option.some.injEq, exists_eq_left', and_true, true_and, atI_0, atI_1, atI_2, atI_3, atI_4, if_true_eq, if_false_eq, Nat.reduceAdd, Nat.reduceSub, reduceCtorEq, ok_int, ok_bool, ok_str, ok_list, ok_tuple, String.reduceBEq, Bool.or_true, Bool.true_or, Bool.or_false, Bool.false_or, Bool.not_true, Bool.not_false, Int.cast_ofNat_Int, ↓reduceIte, decide_true, decide_false, Bool.false_eq_true, Option.isSome_some, tLc_eq, tFor_eq, iTup, iList, iRng1, iRng2, iRng3, RZ.iZipA, tYes, tTru, uMax2, uMin2, uLstRg, h1, flatV, flat_ints, inV_int, and_self]
        exact q
      · have h2 : wholeV (.int i) 0 5 = false := by simpa using h1
        have h3 := h2
        simp only [wholeV] at h3
        simp only [markV, h3, Bool.false_and] at q
        simp only [tSeq, tIfS, tRet, tRetN, tDrop, tAsg, tNext, tNever, gName, tAndV, tOrV, tNotV, tAnd, tOr, tNot, tB, tTest, tIf, tOp, tUn, tCB, tCall, tCons, tNil, tC, tChain, tSl, tPart, tNoPart, tPar, gSub, uVar, uTupD, uLstD, uDK, uDT, uBM, uBM0, uTup, uNil, uCons, uLe, uGt, uGe, uEq, uNe, uIs, uIsNot, uIn, uNotIn, uAdd, uSub, uMul, uMod, uFdiv, uPow, uNeg, uCmp, uLt, uEqG, uIsG, uInG, uIx, uSl, uLen, lenV, uIsi, isaV_int, isaV_bl, isaV_str, isaV_non, uSet, uDivmod, uAll, uSum, uInt1, uList, uTuple, uTupleF, uAppend, uExtend, uPopAt, uLIndex, uLCount, uRepr, uTIndex, uIsE, tyU, keyV, keysV, isNon, L2.start, List.map_cons, List.map_nil, List.length_cons, List.length_nil, List.replicate, List.cons_append, List.nil_append, List.append_nil, Nat.sub_self, List.getElem?_cons_zero, List.getElem?_cons_succ, List.set_cons_zero, List.set_cons_succ, V.bl.injEq, V.int.injEq, V.ref.injEq, V.str.injEq, List.cons.injEq, Option.some.injEq, exists_eq_left', and_true, true_and, atI_0, atI_1, atI_2, atI_3, atI_4, if_true_eq, if_false_eq, Nat.reduceAdd, Nat.reduceSub, reduceCtorEq, ok_int, ok_bool, ok_str, ok_list, ok_tuple, String.reduceBEq, Bool.or_true, Bool.true_or, Bool.or_false, Bool.false_or, Bool.not_true, Bool.not_false, Int.cast_ofNat_Int, ↓reduceIte, decide_true, decide_false, Bool.false_eq_true, Option.isSome_some, tLc_eq, tFor_eq, iTup, iList, iRng1, iRng2, iRng3, RZ.iZipA, tYes, tTru, uMax2, uMin2, uLstRg, h2]
        exact q
    | _ => simp only [wholeV, tSeq, tIfS, tRet, tRetN, tDrop, tAsg, tNext, tNever, gName, tAndV, tOrV, tNotV, tAnd, tOr, tNot, tB, tTest, tIf, tOp, tUn, tCB, tCall, tCons, tNil, tC, tChain, tSl, tPart, tNoPart, tPar, gSub, uVar, uTupD, uLstD, uDK, uDT, uBM, uBM0, uTup, uNil, uCons, uLe, uGt, uGe, uEq, uNe, uIs, uIsNot, uIn, uNotIn, uAdd, uSub, uMul, uMod, uFdiv, uPow, uNeg, uCmp, uLt, uEqG, uIsG, uInG, uIx, uSl, uLen, lenV, uIsi, isaV_int, isaV_bl, isaV_str, isaV_non, uSet, uDivmod, uAll, uSum, uInt1, uList, uTuple, uTupleF, uAppend, uExtend, uPopAt, uLIndex, uLCount, uRepr, uTIndex, uIsE, tyU, keyV, keysV, isNon, L2.start, List.map_cons, List.map_nil, List.length_cons, List.length_nil, List.replicate, List.cons_append, List.nil_append, List.append_nil, Nat.sub_self, List.getElem?_cons_zero, List.getElem?_cons_succ, List.set_cons_zero, List.set_cons_succ, V.bl.injEq, V.int.injEq, V.ref.injEq, V.str.injEq, List.cons.injEq, Option.some.injEq, exists_eq_left', and_true, true_and, atI_0, atI_1, atI_2, atI_3, atI_4, if_true_eq, if_false_eq, Nat.reduceAdd, Nat.reduceSub, reduceCtorEq, ok_int, ok_bool, ok_str, ok_list, ok_tuple, String.reduceBEq, Bool.or_true, Bool.true_or, Bool.or_false, Bool.false_or, Bool.not_true, Bool.not_false, Int.cast_ofNat_Int, ↓reduceIte, decide_true, decide_false, Bool.false_eq_true, Option.isSome_some, tLc_eq, tFor_eq, iTup, iList, iRng1, iRng2, iRng3, RZ.iZipA, tYes, tTru, uMax2, uMin2, uLstRg]; exact q
def sp_home_in : Sp := fun vs H Q _ => match vs with
  | [.ref t, .int k] => ∃ ys ws, NetAt H t ys ws ∧ k ∈ ys ∧ Q (.int (ys.idxOf k : Nat)) H
  | _ => False
theorem ok_home_in (T : Txt K mg A) : FnOk P w K mg base CX0 1 A.home_in A.fd_home_in P_home_in sp_home_in := by
  refine T.F_home_in.ok sc_home_in (fun vs H Q E h => ?_) (fun cdv Ar outer s H vs Q E hr h => ?_)
  · unfold sp_home_in at h
    split at h
    · rfl
    · exact h.elim
  · unfold sp_home_in at h
    split at h
    rotate_left
    · exact h.elim
    rename_i t k
    obtain ⟨ys, ws, ⟨ty, tw, as, ht, ⟨oy, hoy, hty⟩, htw, hw⟩, hx, q⟩ := h
    refine ⟨_, (pss_one (ps_ret (ue_bm PySem.F.plainAttrs_tuple PySem.F.slot_tuple_index PySem.F.type_tuple_index u_tindex (pe_ix (u_ix (hu_of hr)) (uv 0) pe_int (fun _ _ => rfl)) (pa_cons (uv 1) pa_nil)))), ?_⟩
    simp only [tSeq, tIfS, tRet, tRetN, tDrop, tAsg, tNext, tNever, gName, tAndV, tOrV, tNotV, tAnd, tOr, tNot, tB, tTest, tIf, tOp, tUn, tCB, tCall, tCons, tNil, tC, tChain, tSl, tPart, tNoPart, tPar, gSub, uVar, uTupD, uLstD, uDK, uDT, uBM, uBM0, uTup, uNil, uCons, uLe, uGt, uGe, uEq, uNe, uIs, uIsNot, uIn, uNotIn, uAdd, uSub, uMul, uMod, uFdiv, uPow, uNeg, uCmp, uLt, uEqG, uIsG, uInG, uIx, uSl, uLen, lenV, uIsi, isaV_int, isaV_bl, isaV_str, isaV_non, uSet, uDivmod, uAll, uSum, uInt1, uList, uTuple, uTupleF, uAppend, uExtend, uPopAt, uLIndex, uLCount, uRepr, uTIndex, uIsE, tyU, keyV, keysV, isNon, L2.start, List.map_cons, List.map_nil, List.length_cons, List.length_nil, List.replicate, List.cons_append, List.nil_append, List.append_nil, Nat.sub_self, List.getElem?_cons_zero, List.getElem?_cons_succ, List.set_cons_zero, List.set_cons_succ, V.bl.injEq, V.int.injEq, V.ref.injEq, V.str.injEq, List.cons.injEq, Option.some.injEq, exists_eq_left', and_true, true_and, atI_0, atI_1, atI_2, atI_3, atI_4, if_true_eq, if_false_eq, Nat.reduceAdd, Nat.reduceSub, reduceCtorEq, ok_int, ok_bool, ok_str, ok_list, ok_tuple, String.reduceBEq, Bool.or_true, Bool.true_or, Bool.or_false, Bool.false_or, Bool.not_true, Bool.not_false, Int.cast_ofNat_Int, ↓reduceIte, decide_true, decide_false, Bool.false_eq_true, Option.isSome_some, tLc_eq, tFor_eq, iTup, iList, iRng1, iRng2, iRng3, RZ.iZipA, tYes, tTru, uMax2, uMin2, uLstRg, ht, hty, hoy]
    exact ⟨ys, rfl, hx, q⟩

end Cv
end
section
namespace Cv
open PySem L2
variable {P : Program} {w : World} {K : PySem.W.Frag} {mg : Str → Option Value} {base : Heap} {A : Ad}
/-! ### need_mark, home_of -/
def sp_need_mark (C : Addr) : Sp := fun vs H Q E => match vs with
  | [.ref t, x] => ∃ ys ws, NetAt H t ys ws ∧ (isaV H x "int").isSome = true ∧ (markV x ys = true → Q .non H) ∧ (markV x ys = false → E (.ref C) none H)
  | _ => False
theorem ok_need_mark (T : Txt K mg A) : FnOk P w K mg base (L2.CX P w) 3 A.need_mark A.fd_need_mark P_need_mark (sp_need_mark A.NoMark) := by
  refine T.F_need_mark.okX sc_need_mark (fun vs H Q E h => ?_) (fun cdv Ar outer s H vs Q E hr h => ?_)
  · unfold sp_need_mark at h
    split at h
    · rfl
    · exact h.elim
  · unfold sp_need_mark at h
    split at h
    rotate_left
    · exact h.elim
    rename_i t x
    obtain ⟨ys, ws, hN, hx, q1, q2⟩ := h
    refine ⟨_, (pss_one (ps_if (pt_not (pt_val (pe_call (ok_is_mark T) (hr.mono (by decide)) (by rfl) T.g_is_mark T.F_is_mark.kp T.B_is_mark .nil pass0 (pa_cons (uv 0) (pa_cons (uv 1) pa_nil))))) (pss_one (ps_raise rfl (takes_of rfl rfl rfl rfl) (pmk_own PySem.F.excBase_ValueError T.r_NoMark T.g_NoMark T.x_NoMark.kp (raises_own T.x_NoMark.bs T.x_NoMark.ty) rfl))) pss_nil)), ?_⟩
    simp only [tSeq, tIfS, tRet, tRetN, tDrop, tAsg, tNext, tNever, gName, tAndV, tOrV, tNotV, tAnd, tOr, tNot, tB, tTest, tIf, tOp, tUn, tCB, tCall, tCons, tNil, tC, tChain, tSl, tPart, tNoPart, tPar, gSub, uVar, uTupD, uLstD, uDK, uDT, uBM, uBM0, uTup, uNil, uCons, uLe, uGt, uGe, uEq, uNe, uIs, uIsNot, uIn, uNotIn, uAdd, uSub, uMul, uMod, uFdiv, uPow, uNeg, uCmp, uLt, uEqG, uIsG, uInG, uIx, uSl, uLen, lenV, uIsi, isaV_int, isaV_bl, isaV_str, isaV_non, uSet, uDivmod, uAll, uSum, uInt1, uList, uTuple, uTupleF, uAppend, uExtend, uPopAt, uLIndex, uLCount, uRepr, uTIndex, uIsE, tyU, keyV, keysV, isNon, L2.start, List.map_cons, List.map_nil, List.length_cons, List.length_nil, List.replicate, List.cons_append, List.nil_append, List.append_nil, Nat.sub_self, List.getElem?_cons_zero, List.getElem?_cons_succ, List.set_cons_zero, List.set_cons_succ, V.bl.injEq, V.int.injEq, V.ref.injEq, V.str.injEq, List.cons.injEq, Option.some.injEq, exists_eq_left', and_true, true_and, atI_0, atI_1, atI_2, atI_3, atI_4, if_true_eq, if_false_eq, Nat.reduceAdd, Nat.reduceSub, reduceCtorEq, ok_int, ok_bool, ok_str, ok_list, ok_tuple, String.reduceBEq, Bool.or_true, Bool.true_or, Bool.or_false, Bool.false_or, Bool.not_true, Bool.not_false, Int.cast_ofNat_Int, ↓reduceIte, decide_true, decide_false, Bool.false_eq_true, Option.isSome_some, tLc_eq, tFor_eq, iTup, iList, iRng1, iRng2, iRng3, RZ.iZipA, tYes, tTru, uMax2, uMin2, uLstRg, sp_is_mark]
    refine ⟨ys, ws, hN, hx, ?_⟩
    cases hm : markV x ys with
    | true =>
      simp only [tSeq, tIfS, tRet, tRetN, tDrop, tAsg, tNext, tNever, gName, tAndV, tOrV, tNotV, tAnd, tOr, tNot, tB, tTest, tIf, tOp, tUn, tCB, tCall, tCons, tNil, tC, tChain, tSl, tPart, tNoPart, tPar, gSub, uVar, uTupD, uLstD, uDK, uDT, uBM, uBM0, uTup, uNil, uCons, uLe, uGt, uGe, uEq, uNe, uIs, uIsNot, uIn, uNotIn, uAdd, uSub, uMul, uMod, uFdiv, uPow, uNeg, uCmp, uLt, uEqG, uIsG, uInG, uIx, uSl, uLen, lenV, uIsi, isaV_int, isaV_bl, isaV_str, isaV_non, uSet, uDivmod, uAll, uSum, uInt1, uList, uTuple, uTupleF, uAppend, uExtend, uPopAt, uLIndex, uLCount, uRepr, uTIndex, uIsE, tyU, keyV, keysV, isNon, L2.start, List.map_cons, List.map_nil, List.length_cons, List.length_nil, List.replicate, List.cons_append, List.nil_append, List.append_nil, Nat.sub_self, List.getElem?_cons_zero, List.getElem?_cons_succ, List.set_cons_zero, List.set_cons_succ, V.bl.injEq, V.int.injEq, V.ref.injEq, V.str.injEq, List.cons.injEq, Option.some.injEq, exists_eq_left', and_true, true_and, atI_0, atI_1, atI_2, atI_3, atI_4, if_true_eq, if_false_eq, Nat.reduceAdd, Nat.reduceSub, reduceCtorEq, ok_int, ok_bool, ok_str, ok_list, ok_tuple, String.reduceBEq, Bool.or_true, Bool.true_or, Bool.or_false, Bool.false_or, Bool.not_true, Bool.not_false, Int.cast_ofNat_Int, ↓reduceIte, decide_true, decide_false, Bool.false_eq_true, Option.isSome_some, tLc_eq, tFor_eq, iTup, iList, iRng1, iRng2, iRng3, RZ.iZipA, tYes, tTru, uMax2, uMin2, uLstRg]
      exact q1 hm
    | false =>
      simp only [tSeq, tIfS, tRet, tRetN, tDrop, tAsg, tNext, tNever, gName, tAndV, tOrV, tNotV, tAnd, tOr, tNot, tB, tTest, tIf, tOp, tUn, tCB, tCall, tCons, tNil, tC, tChain, tSl, tPart, tNoPart, tPar, gSub, uVar, uTupD, uLstD, uDK, uDT, uBM, uBM0, uTup, uNil, uCons, uLe, uGt, uGe, uEq, uNe, uIs, uIsNot, uIn, uNotIn, uAdd, uSub, uMul, uMod, uFdiv, uPow, uNeg, uCmp, uLt, uEqG, uIsG, uInG, uIx, uSl, uLen, lenV, uIsi, isaV_int, isaV_bl, isaV_str, isaV_non, uSet, uDivmod, uAll, uSum, uInt1, uList, uTuple, uTupleF, uAppend, uExtend, uPopAt, uLIndex, uLCount, uRepr, uTIndex, uIsE, tyU, keyV, keysV, isNon, L2.start, List.map_cons, List.map_nil, List.length_cons, List.length_nil, List.replicate, List.cons_append, List.nil_append, List.append_nil, Nat.sub_self, List.getElem?_cons_zero, List.getElem?_cons_succ, List.set_cons_zero, List.set_cons_succ, V.bl.injEq, V.int.injEq, V.ref.injEq, V.str.injEq, List.cons.injEq, Option.some.injEq, exists_eq_left', and_true, true_and, atI_0, atI_1, atI_2, atI_3, atI_4, if_true_eq, if_false_eq, Nat.reduceAdd, Nat.reduceSub, reduceCtorEq, ok_int, ok_bool, ok_str, ok_list, ok_tuple, String.reduceBEq, Bool.or_true, Bool.true_or, Bool.or_false, Bool.false_or, Bool.not_true, Bool.not_false, Int.cast_ofNat_Int, ↓reduceIte, decide_true, decide_false, Bool.false_eq_true, Option.isSome_some, tLc_eq, tFor_eq, iTup, iList, iRng1, iRng2, iRng3, RZ.iZipA, tYes, tTru, uMax2, uMin2, uLstRg]
      exact q2 hm
def sp_home_of (C : Addr) : Sp := fun vs H Q E => match vs with
  | [.ref t, x] => ∃ ys ws, NetAt H t ys ws ∧ NetOk ys ws ∧ (isaV H x "int").isSome = true ∧ (∀ k, x = .int k → k ∈ ys → ∀ H', Same H H' → Q (.int (ys.idxOf k : Nat)) H') ∧ (markV x ys = false → ∀ H', Same H H' → E (.ref C) none H')
  | _ => False
theorem isaV_ref {H : Hp} {p : Addr} {T : String} : isaV H (.ref p) T = (match H p with
    | some (.lst _) => some (T == "list")
    | some (.tup _) => some (T == "tuple")
    | some (.frz _ (.tup _)) => some (T == "tuple")
    | some (.dK _) => some (T == "dict")
    | some (.dT _) => some (T == "dict")
    | _ => none) := rfl
theorem isa_mono {H H' : Hp} {x : V} {T : String} (e : Same H H') (h : (isaV H x T).isSome = true) : (isaV H' x T).isSome = true := by
  cases x with
  | ref p =>
    rw [isaV_ref] at h ⊢
    split at h
    all_goals first
      | (rename_i q; rw [e _ _ q]; rfl)
      | exact absurd h Bool.false_ne_true
  | _ => exact h
theorem mark_int {x : V} {ys : List Int} (h : markV x ys = true) : ∃ k, x = .int k ∧ k ∈ ys := by
  unfold markV at h
  split at h
  · rename_i i
    simp at h
    exact ⟨i, rfl, h.2⟩
  · cases h
theorem ok_home_of (T : Txt K mg A) : FnOk P w K mg base (L2.CX P w) 5 A.home_of A.fd_home_of P_home_of (sp_home_of A.NoMark) := by
  refine T.F_home_of.okX sc_home_of (fun vs H Q E h => ?_) (fun cdv Ar outer s H vs Q E hr h => ?_)
  · unfold sp_home_of at h
    split at h
    · rfl
    · exact h.elim
  · unfold sp_home_of at h
    split at h
    rotate_left
    · exact h.elim
    rename_i t x
    obtain ⟨ys, ws, hN, hok, hx, q1, q2⟩ := h
    refine ⟨_, (pss_cons (ps_expr (pe_call (ok_need_net T) (hr.mono (by decide)) (by rfl) T.g_need_net T.F_need_net.kp T.B_need_net .nil pass0 (pa_cons (uv 0) pa_nil)))
  (pss_cons (ps_expr (pe_call (ok_need_mark T) (hr.mono (by decide)) (by rfl) T.g_need_mark T.F_need_mark.kp T.B_need_mark .nil (passes_call (takes_of rfl rfl rfl rfl) (fun _ _ _ _ h => h)) (pa_cons (uv 0) (pa_cons (uv 1) pa_nil))))
  (pss_one (ps_ret (pe_call (ok_home_in T) (hr.mono (by decide)) (by rfl) T.g_home_in T.F_home_in.kp T.B_home_in .nil pass0 (pa_cons (uv 0) (pa_cons (uv 1) pa_nil))))))), ?_⟩
    simp only [tSeq, tIfS, tRet, tRetN, tDrop, tAsg, tNext, tNever, gName, tAndV, tOrV, tNotV, tAnd, tOr, tNot, tB, tTest, tIf, tOp, tUn, tCB, tCall, tCons, tNil, tC, tChain, tSl, tPart, tNoPart, tPar, gSub, uVar, uTupD, uLstD, uDK, uDT, uBM, uBM0, uTup, uNil, uCons, uLe, uGt, uGe, uEq, uNe, uIs, uIsNot, uIn, uNotIn, uAdd, uSub, uMul, uMod, uFdiv, uPow, uNeg, uCmp, uLt, uEqG, uIsG, uInG, uIx, uSl, uLen, lenV, uIsi, isaV_int, isaV_bl, isaV_str, isaV_non, uSet, uDivmod, uAll, uSum, uInt1, uList, uTuple, uTupleF, uAppend, uExtend, uPopAt, uLIndex, uLCount, uRepr, uTIndex, uIsE, tyU, keyV, keysV, isNon, L2.start, List.map_cons, List.map_nil, List.length_cons, List.length_nil, List.replicate, List.cons_append, List.nil_append, List.append_nil, Nat.sub_self, List.getElem?_cons_zero, List.getElem?_cons_succ, List.set_cons_zero, List.set_cons_succ, V.bl.injEq, V.int.injEq, V.ref.injEq, V.str.injEq, List.cons.injEq, Option.some.injEq, exists_eq_left', and_true, true_and, atI_0, atI_1, atI_2, atI_3, atI_4, if_true_eq, if_false_eq, Nat.reduceAdd, Nat.reduceSub, reduceCtorEq, ok_int, ok_bool, ok_str, ok_list, ok_tuple, String.reduceBEq, Bool.or_true, Bool.true_or, Bool.or_false, Bool.false_or, Bool.not_true, Bool.not_false, Int.cast_ofNat_Int, ↓reduceIte, decide_true, decide_false, Bool.false_eq_true, Option.isSome_some, tLc_eq, tFor_eq, iTup, iList, iRng1, iRng2, iRng3, RZ.iZipA, tYes, tTru, uMax2, uMin2, uLstRg, sp_need_net]
    refine ⟨ys, ws, hN, hok, fun H1 e1 => ?_⟩
    simp only [sp_need_mark]
    refine ⟨ys, ws, hN.mono e1, isa_mono e1 hx, fun hm => ?_, fun hm => q2 hm _ e1⟩
    obtain ⟨k, rfl, hk⟩ := mark_int hm
    simp only [tSeq, tIfS, tRet, tRetN, tDrop, tAsg, tNext, tNever, gName, tAndV, tOrV, tNotV, tAnd, tOr, tNot, tB, tTest, tIf, tOp, tUn, tCB, tCall, tCons, tNil, tC, tChain, tSl, tPart, tNoPart, tPar, gSub, uVar, uTupD, uLstD, uDK, uDT, uBM, uBM0, uTup, uNil, uCons, uLe, uGt, uGe, uEq, uNe, uIs, uIsNot, uIn, uNotIn, uAdd, uSub, uMul, uMod, uFdiv, uPow, uNeg, uCmp, uLt, uEqG, uIsG, uInG, uIx, uSl, uLen, lenV, uIsi, isaV_int, isaV_bl, isaV_str, isaV_non, uSet, uDivmod, uAll, uSum, uInt1, uList, uTuple, uTupleF, uAppend, uExtend, uPopAt, uLIndex, uLCount, uRepr, uTIndex, uIsE, tyU, keyV, keysV, isNon, L2.start, List.map_cons, List.map_nil, List.length_cons, List.length_nil, List.replicate, List.cons_append, List.nil_append, List.append_nil, Nat.sub_self, List.getElem?_cons_zero, List.getElem?_cons_succ, List.set_cons_zero, List.set_cons_succ, V.bl.injEq, V.int.injEq, V.ref.injEq, V.str.injEq, List.cons.injEq, Option.some.injEq, exists_eq_left', and_true, true_and, atI_0, atI_1, atI_2, atI_3, atI_4, if_true_eq, if_false_eq, Nat.reduceAdd, Nat.reduceSub, reduceCtorEq, ok_int, ok_bool, ok_str, ok_list, ok_tuple, String.reduceBEq, Bool.or_true, Bool.true_or, Bool.or_false, Bool.false_or, Bool.not_true, Bool.not_false, Int.cast_ofNat_Int, ↓reduceIte, decide_true, decide_false, Bool.false_eq_true, Option.isSome_some, tLc_eq, tFor_eq, iTup, iList, iRng1, iRng2, iRng3, RZ.iZipA, tYes, tTru, uMax2, uMin2, uLstRg, sp_home_in]
    exact ⟨ys, ws, hN.mono e1, hk, q1 k rfl hk _ e1⟩

end Cv
end
section
namespace Cv
open PySem L2
variable {P : Program} {w : World} {K : PySem.W.Frag} {mg : Str → Option Value} {base : Heap} {A : Ad}
/-! ### the law's draws -/
def Box (H : Hp) (b : Addr) : Prop := ∃ n m : Int, H b = some (.lst [.int n, .int m])
theorem cmul_r {i j : Int} (h1 : -18446744073709551616 < j) (h2 : j < 18446744073709551616) : CMul i j := .inr ⟨h1, h2⟩
theorem cmul_l {i j : Int} (h1 : -18446744073709551616 < i) (h2 : i < 18446744073709551616) : CMul i j := .inl ⟨h1, h2⟩
theorem ixN_0 {n : Nat} : ixN (n + 1) 0 = some 0 := by unfold ixN; rw [if_pos (by decide), if_pos (by omega)]; rfl
theorem ixN_1 {n : Nat} : ixN (n + 2) 1 = some 1 := by unfold ixN; rw [if_pos (by decide), if_pos (by omega)]; rfl
theorem ixN_20 : ixN 2 0 = some 0 := by decide
theorem ixN_21 : ixN 2 1 = some 1 := by decide
def sp__law_more : Sp := fun vs H Q _ => match vs with
  | [.ref b] => Box H b ∧ ∀ k H', 0 ≤ k → Box H' b → But b H H' → Q (.int k) H'
  | _ => False
theorem ok__law_more (T : Txt K mg A) : FnOk P w K mg base CX0 1 A._law_more A.fd__law_more P__law_more sp__law_more := by
  refine T.F__law_more.ok sc__law_more (fun vs H Q E h => ?_) (fun cdv Ar outer s H vs Q E hr h => ?_)
  · unfold sp__law_more at h
    split at h
    · rfl
    · exact h.elim
  · unfold sp__law_more at h
    split at h
    rotate_left
    · exact h.elim
    rename_i b
    obtain ⟨hB, q⟩ := h
    refine ⟨_, (pss_cons (ps_set (i := 1) sc__law_more.nd rfl (Or.inl rfl) pe_int)
  (pss_cons (ps_for PassesOwn.never rfl (pi_range1 (by rfl) T.b_range (pa_cons pe_int pa_nil)) (pg_name (i := 2) sc__law_more.nd rfl (Or.inl rfl))
    (pss_cons (ps_asg (pe_op u_mod (pe_op u_add (pe_op u_mul (pe_ix (u_ix (hu_of hr)) (uv 0) pe_int (fun _ _ => rfl)) pe_int) pe_int) pe_int) (pg_sub (uv 0) pe_int (u_set (hu_of hr))))
    (pss_one (ps_set (i := 1) sc__law_more.nd rfl (Or.inl rfl) (pe_op u_add (pe_op u_mul (uv 1) pe_int) (pe_op u_mod (pe_op u_fdiv (pe_ix (u_ix (hu_of hr)) (uv 0) pe_int (fun _ _ => rfl)) pe_int) pe_int))))))
  (pss_one (ps_ret (uv 1))))), ?_⟩
    simp only [tSeq, tIfS, tRet, tRetN, tDrop, tAsg, tNext, tNever, gName, tAndV, tOrV, tNotV, tAnd, tOr, tNot, tB, tTest, tIf, tOp, tUn, tCB, tCall, tCons, tNil, tC, tChain, tSl, tPart, tNoPart, tPar, gSub, uVar, uTupD, uLstD, uDK, uDT, uBM, uBM0, uTup, uNil, uCons, uLe, uGt, uGe, uEq, uNe, uIs, uIsNot, uIn, uNotIn, uAdd, uSub, uMul, uMod, uFdiv, uPow, uNeg, uCmp, uLt, uEqG, uIsG, uInG, uIx, uSl, uLen, lenV, uIsi, isaV_int, isaV_bl, isaV_str, isaV_non, uSet, uDivmod, uAll, uSum, uInt1, uList, uTuple, uTupleF, uAppend, uExtend, uPopAt, uLIndex, uLCount, uRepr, uTIndex, uIsE, tyU, keyV, keysV, isNon, L2.start, List.map_cons, List.map_nil, List.length_cons, List.length_nil, List.replicate, List.cons_append, List.nil_append, List.append_nil, Nat.sub_self, List.getElem?_cons_zero, List.getElem?_cons_succ, List.set_cons_zero, List.set_cons_succ, V.bl.injEq, V.int.injEq, V.ref.injEq, V.str.injEq, List.cons.injEq, Option.some.injEq, exists_eq_left', and_true, true_and, atI_0, atI_1, atI_2, atI_3, atI_4, if_true_eq, if_false_eq, Nat.reduceAdd, Nat.reduceSub, reduceCtorEq, ok_int, ok_bool, ok_str, ok_list, ok_tuple, String.reduceBEq, Bool.or_true, Bool.true_or, Bool.or_false, Bool.false_or, Bool.not_true, Bool.not_false, Int.cast_ofNat_Int, ↓reduceIte, decide_true, decide_false, Bool.false_eq_true, Option.isSome_some, tLc_eq, tFor_eq, iTup, iList, iRng1, iRng2, iRng3, RZ.iZipA, tYes, tTru, uMax2, uMin2, uLstRg]
    refine ⟨by decide, by decide, ?_⟩
    refine for_pv (walk_range (lo := 0) (n := 12)) (fun i σ H' => ∃ (k : Int) (v : Option V), σ = [some (.ref b), some (.int k), v] ∧ 0 ≤ k ∧ Box H' b ∧ But b H H') ⟨0, none, rfl, by decide, hB, But.refl _ _⟩ (fun _ _ _ _ _ => trivial) ?_ ?_
    · rintro i x σ H' H'' hi ⟨k, v, rfl, hk, ⟨n, m, hb⟩, e⟩ ⟨rfl, rfl⟩
      simp only [tSeq, tIfS, tRet, tRetN, tDrop, tAsg, tNext, tNever, gName, tAndV, tOrV, tNotV, tAnd, tOr, tNot, tB, tTest, tIf, tOp, tUn, tCB, tCall, tCons, tNil, tC, tChain, tSl, tPart, tNoPart, tPar, gSub, uVar, uTupD, uLstD, uDK, uDT, uBM, uBM0, uTup, uNil, uCons, uLe, uGt, uGe, uEq, uNe, uIs, uIsNot, uIn, uNotIn, uAdd, uSub, uMul, uMod, uFdiv, uPow, uNeg, uCmp, uLt, uEqG, uIsG, uInG, uIx, uSl, uLen, lenV, uIsi, isaV_int, isaV_bl, isaV_str, isaV_non, uSet, uDivmod, uAll, uSum, uInt1, uList, uTuple, uTupleF, uAppend, uExtend, uPopAt, uLIndex, uLCount, uRepr, uTIndex, uIsE, tyU, keyV, keysV, isNon, L2.start, List.map_cons, List.map_nil, List.length_cons, List.length_nil, List.replicate, List.cons_append, List.nil_append, List.append_nil, Nat.sub_self, List.getElem?_cons_zero, List.getElem?_cons_succ, List.set_cons_zero, List.set_cons_succ, V.bl.injEq, V.int.injEq, V.ref.injEq, V.str.injEq, List.cons.injEq, Option.some.injEq, exists_eq_left', and_true, true_and, atI_0, atI_1, atI_2, atI_3, atI_4, if_true_eq, if_false_eq, Nat.reduceAdd, Nat.reduceSub, reduceCtorEq, ok_int, ok_bool, ok_str, ok_list, ok_tuple, String.reduceBEq, Bool.or_true, Bool.true_or, Bool.or_false, Bool.false_or, Bool.not_true, Bool.not_false, Int.cast_ofNat_Int, ↓reduceIte, decide_true, decide_false, Bool.false_eq_true, Option.isSome_some, tLc_eq, tFor_eq, iTup, iList, iRng1, iRng2, iRng3, RZ.iZipA, tYes, tTru, uMax2, uMin2, uLstRg, hb, ixN_21, upd_same]
      refine ⟨cmul_r (by decide) (by decide), by decide, cmul_r (by decide) (by decide), ⟨by decide, by decide⟩, by decide, ?_⟩
      refine ⟨_, _, ⟨rfl, rfl⟩, ?_, ⟨_, _, upd_same⟩, e.trans (But.upd _ _ _)⟩
      omega
    · rintro σ H' ⟨k, v, rfl, hk, hb, e⟩
      simp only [tSeq, tIfS, tRet, tRetN, tDrop, tAsg, tNext, tNever, gName, tAndV, tOrV, tNotV, tAnd, tOr, tNot, tB, tTest, tIf, tOp, tUn, tCB, tCall, tCons, tNil, tC, tChain, tSl, tPart, tNoPart, tPar, gSub, uVar, uTupD, uLstD, uDK, uDT, uBM, uBM0, uTup, uNil, uCons, uLe, uGt, uGe, uEq, uNe, uIs, uIsNot, uIn, uNotIn, uAdd, uSub, uMul, uMod, uFdiv, uPow, uNeg, uCmp, uLt, uEqG, uIsG, uInG, uIx, uSl, uLen, lenV, uIsi, isaV_int, isaV_bl, isaV_str, isaV_non, uSet, uDivmod, uAll, uSum, uInt1, uList, uTuple, uTupleF, uAppend, uExtend, uPopAt, uLIndex, uLCount, uRepr, uTIndex, uIsE, tyU, keyV, keysV, isNon, L2.start, List.map_cons, List.map_nil, List.length_cons, List.length_nil, List.replicate, List.cons_append, List.nil_append, List.append_nil, Nat.sub_self, List.getElem?_cons_zero, List.getElem?_cons_succ, List.set_cons_zero, List.set_cons_succ, V.bl.injEq, V.int.injEq, V.ref.injEq, V.str.injEq, List.cons.injEq, Option.some.injEq, exists_eq_left', and_true, true_and, atI_0, atI_1, atI_2, atI_3, atI_4, if_true_eq, if_false_eq, Nat.reduceAdd, Nat.reduceSub, reduceCtorEq, ok_int, ok_bool, ok_str, ok_list, ok_tuple, String.reduceBEq, Bool.or_true, Bool.true_or, Bool.or_false, Bool.false_or, Bool.not_true, Bool.not_false, Int.cast_ofNat_Int, ↓reduceIte, decide_true, decide_false, Bool.false_eq_true, Option.isSome_some, tLc_eq, tFor_eq, iTup, iList, iRng1, iRng2, iRng3, RZ.iZipA, tYes, tTru, uMax2, uMin2, uLstRg]
      exact q k H' hk hb e
def sp__law_take : Sp := fun vs H Q _ => match vs with
  | [.ref b, .int c] => Box H b ∧ 0 < c ∧ c < 18446744073709551616 ∧ ∀ d H', 0 ≤ d → d < c → Box H' b → But b H H' → Q (.int d) H'
  | _ => False
theorem ok__law_take (T : Txt K mg A) : FnOk P w K mg base CX0 2 A._law_take A.fd__law_take P__law_take sp__law_take := by
  refine T.F__law_take.ok sc__law_take (fun vs H Q E h => ?_) (fun cdv Ar outer s H vs Q E hr h => ?_)
  · unfold sp__law_take at h
    split at h
    · rfl
    · exact h.elim
  · unfold sp__law_take at h
    split at h
    rotate_left
    · exact h.elim
    rename_i b c
    obtain ⟨⟨n, m, hb⟩, hc1, hc2, q⟩ := h
    refine ⟨_, (pss_cons (ps_if (pt_chain u_le (u_lt hr.units0) pe_int (pe_ix (u_ix (hu_of hr)) (uv 0) pe_int (fun _ _ => rfl)) (uv 1)) (pss_one (ps_asg (pe_op u_add (pe_ix (u_ix (hu_of hr)) (uv 0) pe_int (fun _ _ => rfl)) (pe_op u_mul (uv 1) (pe_call (ok__law_more T) (hr.mono (by decide)) (by rfl) T.g__law_more T.F__law_more.kp T.B__law_more .nil pass0 (pa_cons (uv 0) pa_nil)))) (pg_sub (uv 0) pe_int (u_set (hu_of hr))))) pss_nil)
  (pss_cons (ps_asg (pe_callB u_divmod (by rfl) T.b_divmod (by decide +kernel) (pa_cons (pe_ix (u_ix (hu_of hr)) (uv 0) pe_int (fun _ _ => rfl)) (pa_cons (uv 1) pa_nil))) (ug_tup (n := 2) rfl (ugs_cons (pg_name (i := 2) sc__law_take.nd rfl (Or.inl rfl)) (ugs_cons (pg_name (i := 3) sc__law_take.nd rfl (Or.inl rfl)) ugs_nil))))
  (pss_cons (ps_asg (uv 2) (pg_sub (uv 0) pe_int (u_set (hu_of hr))))
  (pss_one (ps_ret (uv 3)))))), ?_⟩
    have fin : ∀ (H1 : Hp) (n1 m1 : Int), H1 b = some (.lst [.int n1, .int m1]) → But b H H1 → ∀ p H2, Same H1 H2 → H2 p = some (.tup [.int (n1 / c), .int (n1 % c)]) → Q (.int (n1 % c)) (upd H2 b (.lst [.int (n1 / c), .int m1])) := fun H1 n1 m1 h1 e1 p H2 e2 h2 =>
      q _ _ (Int.emod_nonneg _ (by omega)) (Int.emod_lt_of_pos _ hc1) ⟨_, _, upd_same⟩ ((e1.trans (But.same e2)).trans (But.upd _ _ _))
    simp only [tSeq, tIfS, tRet, tRetN, tDrop, tAsg, tNext, tNever, gName, tAndV, tOrV, tNotV, tAnd, tOr, tNot, tB, tTest, tIf, tOp, tUn, tCB, tCall, tCons, tNil, tC, tChain, tSl, tPart, tNoPart, tPar, gSub, uVar, uTupD, uLstD, uDK, uDT, uBM, uBM0, uTup, uNil, uCons, uLe, uGt, uGe, uEq, uNe, uIs, uIsNot, uIn, uNotIn, uAdd, uSub, uMul, uMod, uFdiv, uPow, uNeg, uCmp, uLt, uEqG, uIsG, uInG, uIx, uSl, uLen, lenV, uIsi, isaV_int, isaV_bl, isaV_str, isaV_non, uSet, uDivmod, uAll, uSum, uInt1, uList, uTuple, uTupleF, uAppend, uExtend, uPopAt, uLIndex, uLCount, uRepr, uTIndex, uIsE, tyU, keyV, keysV, isNon, L2.start, List.map_cons, List.map_nil, List.length_cons, List.length_nil, List.replicate, List.cons_append, List.nil_append, List.append_nil, Nat.sub_self, List.getElem?_cons_zero, List.getElem?_cons_succ, List.set_cons_zero, List.set_cons_succ, V.bl.injEq, V.int.injEq, V.ref.injEq, V.str.injEq, List.cons.injEq, Option.some.injEq, exists_eq_left', and_true, true_and, atI_0, atI_1, atI_2, atI_3, atI_4, if_true_eq, if_false_eq, Nat.reduceAdd, Nat.reduceSub, reduceCtorEq, ok_int, ok_bool, ok_str, ok_list, ok_tuple, String.reduceBEq, Bool.or_true, Bool.true_or, Bool.or_false, Bool.false_or, Bool.not_true, Bool.not_false, Int.cast_ofNat_Int, ↓reduceIte, decide_true, decide_false, Bool.false_eq_true, Option.isSome_some, tLc_eq, tFor_eq, iTup, iList, iRng1, iRng2, iRng3, RZ.iZipA, tYes, tTru, uMax2, uMin2, uLstRg, hb]
    by_cases h1 : (0 : Int) ≤ n
    · by_cases h2 : n < c
      · simp only [h1, h2, tSeq, tIfS, tRet, tRetN, tDrop, tAsg, tNext, tNever, gName, tAndV, tOrV, tNotV, tAnd, tOr, tNot, tB, tTest, tIf, tOp, tUn, tCB, tCall, tCons, tNil, tC, tChain, tSl, tPart, tNoPart, tPar, gSub, uVar, uTupD, uLstD, uDK, uDT, uBM, uBM0, uTup, uNil, uCons, uLe, uGt, uGe, uEq, uNe, uIs, uIsNot, uIn, uNotIn, uAdd, uSub, uMul, uMod, uFdiv, uPow, uNeg, uCmp, uLt, uEqG, uIsG, uInG, uIx, uSl, uLen, lenV, uIsi, isaV_int, isaV_bl, isaV_str, isaV_non, uSet, uDivmod, uAll, uSum, uInt1, uList, uTuple, uTupleF, uAppend, uExtend, uPopAt, uLIndex, uLCount, uRepr, uTIndex, uIsE, tyU, keyV, keysV, isNon, L2.start, List.map_cons, List.map_nil, List.length_cons, List.length_nil, List.replicate, List.cons_append, List.nil_append, List.append_nil, Nat.sub_self, List.getElem?_cons_zero, List.getElem?_cons_succ, List.set_cons_zero, List.set_cons_succ, V.bl.injEq, V.int.injEq, V.ref.injEq, V.str.injEq, List.cons.injEq, Option.some.injEq, exists_eq_left', and_true, true_and, atI_0, atI_1, atI_2, atI_3, atI_4, if_true_eq, if_false_eq, Nat.reduceAdd, Nat.reduceSub, reduceCtorEq, ok_int, ok_bool, ok_str, ok_list, ok_tuple, String.reduceBEq, Bool.or_true, Bool.true_or, Bool.or_false, Bool.false_or, Bool.not_true, Bool.not_false, Int.cast_ofNat_Int, ↓reduceIte, decide_true, decide_false, Bool.false_eq_true, Option.isSome_some, tLc_eq, tFor_eq, iTup, iList, iRng1, iRng2, iRng3, RZ.iZipA, tYes, tTru, uMax2, uMin2, uLstRg, sp__law_more, hb, ixN_20]
        refine ⟨⟨n, m, hb⟩, fun k H1 hk ⟨n1, m1, hb1⟩ e1 => ?_⟩
        simp only [tSeq, tIfS, tRet, tRetN, tDrop, tAsg, tNext, tNever, gName, tAndV, tOrV, tNotV, tAnd, tOr, tNot, tB, tTest, tIf, tOp, tUn, tCB, tCall, tCons, tNil, tC, tChain, tSl, tPart, tNoPart, tPar, gSub, uVar, uTupD, uLstD, uDK, uDT, uBM, uBM0, uTup, uNil, uCons, uLe, uGt, uGe, uEq, uNe, uIs, uIsNot, uIn, uNotIn, uAdd, uSub, uMul, uMod, uFdiv, uPow, uNeg, uCmp, uLt, uEqG, uIsG, uInG, uIx, uSl, uLen, lenV, uIsi, isaV_int, isaV_bl, isaV_str, isaV_non, uSet, uDivmod, uAll, uSum, uInt1, uList, uTuple, uTupleF, uAppend, uExtend, uPopAt, uLIndex, uLCount, uRepr, uTIndex, uIsE, tyU, keyV, keysV, isNon, L2.start, List.map_cons, List.map_nil, List.length_cons, List.length_nil, List.replicate, List.cons_append, List.nil_append, List.append_nil, Nat.sub_self, List.getElem?_cons_zero, List.getElem?_cons_succ, List.set_cons_zero, List.set_cons_succ, V.bl.injEq, V.int.injEq, V.ref.injEq, V.str.injEq, List.cons.injEq, Option.some.injEq, exists_eq_left', and_true, true_and, atI_0, atI_1, atI_2, atI_3, atI_4, if_true_eq, if_false_eq, Nat.reduceAdd, Nat.reduceSub, reduceCtorEq, ok_int, ok_bool, ok_str, ok_list, ok_tuple, String.reduceBEq, Bool.or_true, Bool.true_or, Bool.or_false, Bool.false_or, Bool.not_true, Bool.not_false, Int.cast_ofNat_Int, ↓reduceIte, decide_true, decide_false, Bool.false_eq_true, Option.isSome_some, tLc_eq, tFor_eq, iTup, iList, iRng1, iRng2, iRng3, RZ.iZipA, tYes, tTru, uMax2, uMin2, uLstRg, hb1, ixN_20, upd_same]
        refine ⟨cmul_l (by omega) (by omega), ⟨hc1, by omega⟩, fun p H2 e2 h2 => ?_⟩
        simp only [tSeq, tIfS, tRet, tRetN, tDrop, tAsg, tNext, tNever, gName, tAndV, tOrV, tNotV, tAnd, tOr, tNot, tB, tTest, tIf, tOp, tUn, tCB, tCall, tCons, tNil, tC, tChain, tSl, tPart, tNoPart, tPar, gSub, uVar, uTupD, uLstD, uDK, uDT, uBM, uBM0, uTup, uNil, uCons, uLe, uGt, uGe, uEq, uNe, uIs, uIsNot, uIn, uNotIn, uAdd, uSub, uMul, uMod, uFdiv, uPow, uNeg, uCmp, uLt, uEqG, uIsG, uInG, uIx, uSl, uLen, lenV, uIsi, isaV_int, isaV_bl, isaV_str, isaV_non, uSet, uDivmod, uAll, uSum, uInt1, uList, uTuple, uTupleF, uAppend, uExtend, uPopAt, uLIndex, uLCount, uRepr, uTIndex, uIsE, tyU, keyV, keysV, isNon, L2.start, List.map_cons, List.map_nil, List.length_cons, List.length_nil, List.replicate, List.cons_append, List.nil_append, List.append_nil, Nat.sub_self, List.getElem?_cons_zero, List.getElem?_cons_succ, List.set_cons_zero, List.set_cons_succ, V.bl.injEq, V.int.injEq, V.ref.injEq, V.str.injEq, List.cons.injEq, Option.some.injEq, exists_eq_left', and_true, true_and, atI_0, atI_1, atI_2, atI_3, atI_4, if_true_eq, if_false_eq, Nat.reduceAdd, Nat.reduceSub, reduceCtorEq, ok_int, ok_bool, ok_str, ok_list, ok_tuple, String.reduceBEq, Bool.or_true, Bool.true_or, Bool.or_false, Bool.false_or, Bool.not_true, Bool.not_false, Int.cast_ofNat_Int, ↓reduceIte, decide_true, decide_false, Bool.false_eq_true, Option.isSome_some, tLc_eq, tFor_eq, iTup, iList, iRng1, iRng2, iRng3, RZ.iZipA, tYes, tTru, uMax2, uMin2, uLstRg, h2, e2 _ _ upd_same, ixN_20]
        exact fin _ _ _ upd_same (e1.trans (But.upd _ _ _)) p H2 e2 h2
      · simp only [h1, h2, tSeq, tIfS, tRet, tRetN, tDrop, tAsg, tNext, tNever, gName, tAndV, tOrV, tNotV, tAnd, tOr, tNot, tB, tTest, tIf, tOp, tUn, tCB, tCall, tCons, tNil, tC, tChain, tSl, tPart, tNoPart, tPar, gSub, uVar, uTupD, uLstD, uDK, uDT, uBM, uBM0, uTup, uNil, uCons, uLe, uGt, uGe, uEq, uNe, uIs, uIsNot, uIn, uNotIn, uAdd, uSub, uMul, uMod, uFdiv, uPow, uNeg, uCmp, uLt, uEqG, uIsG, uInG, uIx, uSl, uLen, lenV, uIsi, isaV_int, isaV_bl, isaV_str, isaV_non, uSet, uDivmod, uAll, uSum, uInt1, uList, uTuple, uTupleF, uAppend, uExtend, uPopAt, uLIndex, uLCount, uRepr, uTIndex, uIsE, tyU, keyV, keysV, isNon, L2.start, List.map_cons, List.map_nil, List.length_cons, List.length_nil, List.replicate, List.cons_append, List.nil_append, List.append_nil, Nat.sub_self, List.getElem?_cons_zero, List.getElem?_cons_succ, List.set_cons_zero, List.set_cons_succ, V.bl.injEq, V.int.injEq, V.ref.injEq, V.str.injEq, List.cons.injEq, Option.some.injEq, exists_eq_left', and_true, true_and, atI_0, atI_1, atI_2, atI_3, atI_4, if_true_eq, if_false_eq, Nat.reduceAdd, Nat.reduceSub, reduceCtorEq, ok_int, ok_bool, ok_str, ok_list, ok_tuple, String.reduceBEq, Bool.or_true, Bool.true_or, Bool.or_false, Bool.false_or, Bool.not_true, Bool.not_false, Int.cast_ofNat_Int, ↓reduceIte, decide_true, decide_false, Bool.false_eq_true, Option.isSome_some, tLc_eq, tFor_eq, iTup, iList, iRng1, iRng2, iRng3, RZ.iZipA, tYes, tTru, uMax2, uMin2, uLstRg, hb]
        refine ⟨⟨hc1, by omega⟩, fun p H2 e2 h2 => ?_⟩
        simp only [tSeq, tIfS, tRet, tRetN, tDrop, tAsg, tNext, tNever, gName, tAndV, tOrV, tNotV, tAnd, tOr, tNot, tB, tTest, tIf, tOp, tUn, tCB, tCall, tCons, tNil, tC, tChain, tSl, tPart, tNoPart, tPar, gSub, uVar, uTupD, uLstD, uDK, uDT, uBM, uBM0, uTup, uNil, uCons, uLe, uGt, uGe, uEq, uNe, uIs, uIsNot, uIn, uNotIn, uAdd, uSub, uMul, uMod, uFdiv, uPow, uNeg, uCmp, uLt, uEqG, uIsG, uInG, uIx, uSl, uLen, lenV, uIsi, isaV_int, isaV_bl, isaV_str, isaV_non, uSet, uDivmod, uAll, uSum, uInt1, uList, uTuple, uTupleF, uAppend, uExtend, uPopAt, uLIndex, uLCount, uRepr, uTIndex, uIsE, tyU, keyV, keysV, isNon, L2.start, List.map_cons, List.map_nil, List.length_cons, List.length_nil, List.replicate, List.cons_append, List.nil_append, List.append_nil, Nat.sub_self, List.getElem?_cons_zero, List.getElem?_cons_succ, List.set_cons_zero, List.set_cons_succ, V.bl.injEq, V.int.injEq, V.ref.injEq, V.str.injEq, List.cons.injEq, Option.some.injEq, exists_eq_left', and_true, true_and, atI_0, atI_1, atI_2, atI_3, atI_4, if_true_eq, if_false_eq, Nat.reduceAdd, Nat.reduceSub, reduceCtorEq, ok_int, ok_bool, ok_str, ok_list, ok_tuple, String.reduceBEq, Bool.or_true, Bool.true_or, Bool.or_false, Bool.false_or, Bool.not_true, Bool.not_false, Int.cast_ofNat_Int, ↓reduceIte, decide_true, decide_false, Bool.false_eq_true, Option.isSome_some, tLc_eq, tFor_eq, iTup, iList, iRng1, iRng2, iRng3, RZ.iZipA, tYes, tTru, uMax2, uMin2, uLstRg, h2, e2 _ _ hb, ixN_20]
        exact fin _ _ _ hb (But.refl _ _) p H2 e2 h2
    · simp only [h1, tSeq, tIfS, tRet, tRetN, tDrop, tAsg, tNext, tNever, gName, tAndV, tOrV, tNotV, tAnd, tOr, tNot, tB, tTest, tIf, tOp, tUn, tCB, tCall, tCons, tNil, tC, tChain, tSl, tPart, tNoPart, tPar, gSub, uVar, uTupD, uLstD, uDK, uDT, uBM, uBM0, uTup, uNil, uCons, uLe, uGt, uGe, uEq, uNe, uIs, uIsNot, uIn, uNotIn, uAdd, uSub, uMul, uMod, uFdiv, uPow, uNeg, uCmp, uLt, uEqG, uIsG, uInG, uIx, uSl, uLen, lenV, uIsi, isaV_int, isaV_bl, isaV_str, isaV_non, uSet, uDivmod, uAll, uSum, uInt1, uList, uTuple, uTupleF, uAppend, uExtend, uPopAt, uLIndex, uLCount, uRepr, uTIndex, uIsE, tyU, keyV, keysV, isNon, L2.start, List.map_cons, List.map_nil, List.length_cons, List.length_nil, List.replicate, List.cons_append, List.nil_append, List.append_nil, Nat.sub_self, List.getElem?_cons_zero, List.getElem?_cons_succ, List.set_cons_zero, List.set_cons_succ, V.bl.injEq, V.int.injEq, V.ref.injEq, V.str.injEq, List.cons.injEq, Option.some.injEq, exists_eq_left', and_true, true_and, atI_0, atI_1, atI_2, atI_3, atI_4, if_true_eq, if_false_eq, Nat.reduceAdd, Nat.reduceSub, reduceCtorEq, ok_int, ok_bool, ok_str, ok_list, ok_tuple, String.reduceBEq, Bool.or_true, Bool.true_or, Bool.or_false, Bool.false_or, Bool.not_true, Bool.not_false, Int.cast_ofNat_Int, ↓reduceIte, decide_true, decide_false, Bool.false_eq_true, Option.isSome_some, tLc_eq, tFor_eq, iTup, iList, iRng1, iRng2, iRng3, RZ.iZipA, tYes, tTru, uMax2, uMin2, uLstRg, hb]
      refine ⟨⟨hc1, by omega⟩, fun p H2 e2 h2 => ?_⟩
      simp only [tSeq, tIfS, tRet, tRetN, tDrop, tAsg, tNext, tNever, gName, tAndV, tOrV, tNotV, tAnd, tOr, tNot, tB, tTest, tIf, tOp, tUn, tCB, tCall, tCons, tNil, tC, tChain, tSl, tPart, tNoPart, tPar, gSub, uVar, uTupD, uLstD, uDK, uDT, uBM, uBM0, uTup, uNil, uCons, uLe, uGt, uGe, uEq, uNe, uIs, uIsNot, uIn, uNotIn, uAdd, uSub, uMul, uMod, uFdiv, uPow, uNeg, uCmp, uLt, uEqG, uIsG, uInG, uIx, uSl, uLen, lenV, uIsi, isaV_int, isaV_bl, isaV_str, isaV_non, uSet, uDivmod, uAll, uSum, uInt1, uList, uTuple, uTupleF, uAppend, uExtend, uPopAt, uLIndex, uLCount, uRepr, uTIndex, uIsE, tyU, keyV, keysV, isNon, L2.start, List.map_cons, List.map_nil, List.length_cons, List.length_nil, List.replicate, List.cons_append, List.nil_append, List.append_nil, Nat.sub_self, List.getElem?_cons_zero, List.getElem?_cons_succ, List.set_cons_zero, List.set_cons_succ, V.bl.injEq, V.int.injEq, V.ref.injEq, V.str.injEq, List.cons.injEq, Option.some.injEq, exists_eq_left', and_true, true_and, atI_0, atI_1, atI_2, atI_3, atI_4, if_true_eq, if_false_eq, Nat.reduceAdd, Nat.reduceSub, reduceCtorEq, ok_int, ok_bool, ok_str, ok_list, ok_tuple, String.reduceBEq, Bool.or_true, Bool.true_or, Bool.or_false, Bool.false_or, Bool.not_true, Bool.not_false, Int.cast_ofNat_Int, ↓reduceIte, decide_true, decide_false, Bool.false_eq_true, Option.isSome_some, tLc_eq, tFor_eq, iTup, iList, iRng1, iRng2, iRng3, RZ.iZipA, tYes, tTru, uMax2, uMin2, uLstRg, h2, e2 _ _ hb, ixN_20]
      exact fin _ _ _ hb (But.refl _ _) p H2 e2 h2
def sp__law_box (K : PySem.W.Frag) : Sp := fun vs H Q _ => match vs with
  | [.ref a, .int k] => ∃ (ns : List Int) (j : Nat), k = j ∧ j < 1000 ∧ SqL K H a (ns.map V.int) ∧ ∀ p H', Same H H' → H p = none → Box H' p → Q (.ref p) H'
  | _ => False
theorem ok__law_box (T : Txt K mg A) : FnOk P w K mg base CX0 1 A._law_box A.fd__law_box P__law_box (sp__law_box K) := by
  refine T.F__law_box.ok sc__law_box (fun vs H Q E h => ?_) (fun cdv Ar outer s H vs Q E hr h => ?_)
  · unfold sp__law_box at h
    split at h
    · rfl
    · exact h.elim
  · unfold sp__law_box at h
    split at h
    rotate_left
    · exact h.elim
    rename_i a kk
    obtain ⟨ns, k, rfl, hk, ha, q⟩ := h
    refine ⟨_, (pss_cons (ps_set (i := 2) sc__law_box.nd rfl (Or.inl rfl) (pe_op u_add (pe_op u_mul pe_int (uv 1)) pe_int))
  (C8.pss_cut (ps_if (pt_cmpR (u_lt hr.units0) (uv 1) (pe_callB call_len_seq (by rfl) T.b_len (by decide +kernel) (pa_cons (uv 0) pa_nil)) (nomark _)) (pss_one (ps_set (i := 2) sc__law_box.nd rfl (Or.inl rfl) (pe_ix ix_list (uv 0) (uv 1) (fun _ _ => rfl)))) pss_nil)
  (pss_cons (ps_if (pt_cmpR (u_eq hr.units) (pe_op u_mod (uv 2) pe_int) pe_int (nomark _)) (pss_one (ps_ret (ue_lst (pa_cons (pe_op u_fdiv (uv 2) pe_int) (pa_cons (pe_op u_mod (pe_callB call_abs (by rfl) T.b_abs (by decide +kernel) (pa_cons (uv 2) pa_nil)) pe_int) pa_nil))))) pss_nil)
  (pss_cons (ps_set (i := 3) sc__law_box.nd rfl (Or.inl rfl) pe_int)
  (pss_cons (ps_for PassesOwn.never rfl (pi_range1 (by rfl) T.b_range (pa_cons pe_int pa_nil)) (pg_name (i := 4) sc__law_box.nd rfl (Or.inl rfl))
    (pss_cons (ps_set (i := 5) sc__law_box.nd rfl (Or.inl rfl) (pe_op u_mod (pe_op u_add (pe_op u_add (pe_op u_mul (pe_op u_mod (uv 2) pe_int) pe_int) (pe_op u_mul pe_int (uv 4))) pe_int) pe_int))
    (pss_cons (ps_set (i := 5) sc__law_box.nd rfl (Or.inl rfl) (pe_op u_mod (pe_op u_mul (uv 5) (uv 5)) pe_int))
    (pss_one (ps_set (i := 3) sc__law_box.nd rfl (Or.inl rfl) (pe_op u_add (pe_op u_mul (uv 3) pe_int) (pe_op u_mod (pe_op u_mul (uv 5) (pe_op u_add (uv 5) pe_int)) pe_int)))))))
  (pss_one (ps_ret (ue_lst (pa_cons (uv 3) (pa_cons (pe_op u_mod (pe_callB call_abs (by rfl) T.b_abs (by decide +kernel) (pa_cons (uv 2) pa_nil)) pe_int) pa_nil)))))))))), ?_⟩
    simp only [tSeq, tIfS, tRet, tRetN, tDrop, tAsg, tNext, tNever, gName, tAndV, tOrV, tNotV, tAnd, tOr, tNot, tB, tTest, tIf, tOp, tUn, tCB, tCall, tCons, tNil, tC, tChain, tSl, tPart, tNoPart, tPar, gSub, uVar, uTupD, uLstD, uDK, uDT, uBM, uBM0, uTup, uNil, uCons, uLe, uGt, uGe, uEq, uNe, uIs, uIsNot, uIn, uNotIn, uAdd, uSub, uMul, uMod, uFdiv, uPow, uNeg, uCmp, uLt, uEqG, uIsG, uInG, uIx, uSl, uLen, lenV, uIsi, isaV_int, isaV_bl, isaV_str, isaV_non, uSet, uDivmod, uAll, uSum, uInt1, uList, uTuple, uTupleF, uAppend, uExtend, uPopAt, uLIndex, uLCount, uRepr, uTIndex, uIsE, tyU, keyV, keysV, isNon, L2.start, List.map_cons, List.map_nil, List.length_cons, List.length_nil, List.replicate, List.cons_append, List.nil_append, List.append_nil, Nat.sub_self, List.getElem?_cons_zero, List.getElem?_cons_succ, List.set_cons_zero, List.set_cons_succ, V.bl.injEq, V.int.injEq, V.ref.injEq, V.str.injEq, List.cons.injEq, Option.some.injEq, exists_eq_left', and_true, true_and, atI_0, atI_1, atI_2, atI_3, atI_4, if_true_eq, if_false_eq, Nat.reduceAdd, Nat.reduceSub, reduceCtorEq, ok_int, ok_bool, ok_str, ok_list, ok_tuple, String.reduceBEq, Bool.or_true, Bool.true_or, Bool.or_false, Bool.false_or, Bool.not_true, Bool.not_false, Int.cast_ofNat_Int, ↓reduceIte, decide_true, decide_false, Bool.false_eq_true, Option.isSome_some, tLc_eq, tFor_eq, iTup, iList, iRng1, iRng2, iRng3, RZ.iZipA, tYes, tTru, uMax2, uMin2, uLstRg, C8.tCut]
    refine ⟨cmul_l (by decide) (by decide), fun σ' H' => H' = H ∧ ∃ z : Int, σ' = [some (.ref a), some (.int k), some (.int z), none, none, none], ?_, ?_⟩
    · refine ⟨a, _, rfl, .inl ha, ?_⟩
      by_cases hlt : k < ns.length
      · rw [if_pos (by simpa using hlt)]
        refine ⟨a, _, _, _, rfl, rfl, ha, atI_nat (v := .int ns[k]) (by simp [hlt]), rfl, _, rfl⟩
      · rw [if_neg (by simpa using hlt)]
        exact ⟨rfl, _, rfl⟩
    · rintro σ' H' ⟨rfl, z, rfl⟩
      simp only [tSeq, tIfS, tRet, tRetN, tDrop, tAsg, tNext, tNever, gName, tAndV, tOrV, tNotV, tAnd, tOr, tNot, tB, tTest, tIf, tOp, tUn, tCB, tCall, tCons, tNil, tC, tChain, tSl, tPart, tNoPart, tPar, gSub, uVar, uTupD, uLstD, uDK, uDT, uBM, uBM0, uTup, uNil, uCons, uLe, uGt, uGe, uEq, uNe, uIs, uIsNot, uIn, uNotIn, uAdd, uSub, uMul, uMod, uFdiv, uPow, uNeg, uCmp, uLt, uEqG, uIsG, uInG, uIx, uSl, uLen, lenV, uIsi, isaV_int, isaV_bl, isaV_str, isaV_non, uSet, uDivmod, uAll, uSum, uInt1, uList, uTuple, uTupleF, uAppend, uExtend, uPopAt, uLIndex, uLCount, uRepr, uTIndex, uIsE, tyU, keyV, keysV, isNon, L2.start, List.map_cons, List.map_nil, List.length_cons, List.length_nil, List.replicate, List.cons_append, List.nil_append, List.append_nil, Nat.sub_self, List.getElem?_cons_zero, List.getElem?_cons_succ, List.set_cons_zero, List.set_cons_succ, V.bl.injEq, V.int.injEq, V.ref.injEq, V.str.injEq, List.cons.injEq, Option.some.injEq, exists_eq_left', and_true, true_and, atI_0, atI_1, atI_2, atI_3, atI_4, if_true_eq, if_false_eq, Nat.reduceAdd, Nat.reduceSub, reduceCtorEq, ok_int, ok_bool, ok_str, ok_list, ok_tuple, String.reduceBEq, Bool.or_true, Bool.true_or, Bool.or_false, Bool.false_or, Bool.not_true, Bool.not_false, Int.cast_ofNat_Int, ↓reduceIte, decide_true, decide_false, Bool.false_eq_true, Option.isSome_some, tLc_eq, tFor_eq, iTup, iList, iRng1, iRng2, iRng3, RZ.iZipA, tYes, tTru, uMax2, uMin2, uLstRg]
      refine ⟨by decide, ?_⟩
      by_cases h2 : z % 2 = 0
      · rw [if_pos (by simpa using h2)]
        exact ⟨⟨by decide, by decide⟩, by decide, by decide, fun p H' e hp h1 => q p H' e hp ⟨_, _, h1⟩⟩
      · rw [if_neg (by simpa using h2)]
        refine ⟨by decide, by decide, ?_⟩
        refine for_pv (walk_range (lo := 0) (n := 16)) (fun i σ H1 => ∃ (n : Int) (v4 v5 : Option V), σ = [some (.ref a), some (.int k), some (.int z), some (.int n), v4, v5] ∧ H1 = H') ⟨0, none, none, rfl, rfl⟩ (fun _ _ _ _ _ => trivial) ?_ ?_
        · rintro i x σ H1 H2 hi ⟨n, v4, v5, rfl, rfl⟩ ⟨rfl, rfl⟩
          simp only [tSeq, tIfS, tRet, tRetN, tDrop, tAsg, tNext, tNever, gName, tAndV, tOrV, tNotV, tAnd, tOr, tNot, tB, tTest, tIf, tOp, tUn, tCB, tCall, tCons, tNil, tC, tChain, tSl, tPart, tNoPart, tPar, gSub, uVar, uTupD, uLstD, uDK, uDT, uBM, uBM0, uTup, uNil, uCons, uLe, uGt, uGe, uEq, uNe, uIs, uIsNot, uIn, uNotIn, uAdd, uSub, uMul, uMod, uFdiv, uPow, uNeg, uCmp, uLt, uEqG, uIsG, uInG, uIx, uSl, uLen, lenV, uIsi, isaV_int, isaV_bl, isaV_str, isaV_non, uSet, uDivmod, uAll, uSum, uInt1, uList, uTuple, uTupleF, uAppend, uExtend, uPopAt, uLIndex, uLCount, uRepr, uTIndex, uIsE, tyU, keyV, keysV, isNon, L2.start, List.map_cons, List.map_nil, List.length_cons, List.length_nil, List.replicate, List.cons_append, List.nil_append, List.append_nil, Nat.sub_self, List.getElem?_cons_zero, List.getElem?_cons_succ, List.set_cons_zero, List.set_cons_succ, V.bl.injEq, V.int.injEq, V.ref.injEq, V.str.injEq, List.cons.injEq, Option.some.injEq, exists_eq_left', and_true, true_and, atI_0, atI_1, atI_2, atI_3, atI_4, if_true_eq, if_false_eq, Nat.reduceAdd, Nat.reduceSub, reduceCtorEq, ok_int, ok_bool, ok_str, ok_list, ok_tuple, String.reduceBEq, Bool.or_true, Bool.true_or, Bool.or_false, Bool.false_or, Bool.not_true, Bool.not_false, Int.cast_ofNat_Int, ↓reduceIte, decide_true, decide_false, Bool.false_eq_true, Option.isSome_some, tLc_eq, tFor_eq, iTup, iList, iRng1, iRng2, iRng3, RZ.iZipA, tYes, tTru, uMax2, uMin2, uLstRg]
          generalize hp : (z % 2147483647 * 48271 + 7919 * ((0 : Int) + ↑i) + 1) % 2147483647 = p1
          have b1 := Int.emod_nonneg (z % 2147483647 * 48271 + 7919 * ((0 : Int) + ↑i) + 1) (show (2147483647 : Int) ≠ 0 by decide)
          have b2 := Int.emod_lt_of_pos (z % 2147483647 * 48271 + 7919 * ((0 : Int) + ↑i) + 1) (show (0 : Int) < 2147483647 by decide)
          rw [hp] at b1 b2
          generalize hp2 : p1 * p1 % 2147483629 = p2
          have b3 := Int.emod_nonneg (p1 * p1) (show (2147483629 : Int) ≠ 0 by decide)
          have b4 := Int.emod_lt_of_pos (p1 * p1) (show (0 : Int) < 2147483629 by decide)
          rw [hp2] at b3 b4
          exact ⟨by decide, cmul_r (by decide) (by decide), cmul_l (by decide) (by decide), by decide, cmul_l (by omega) (by omega), by decide, cmul_r (by decide) (by decide), cmul_l (by omega) (by omega), by decide, _, _, _, rfl, rfl, rfl⟩
        · rintro σ H1 ⟨n, v4, v5, rfl, rfl⟩
          simp only [tSeq, tIfS, tRet, tRetN, tDrop, tAsg, tNext, tNever, gName, tAndV, tOrV, tNotV, tAnd, tOr, tNot, tB, tTest, tIf, tOp, tUn, tCB, tCall, tCons, tNil, tC, tChain, tSl, tPart, tNoPart, tPar, gSub, uVar, uTupD, uLstD, uDK, uDT, uBM, uBM0, uTup, uNil, uCons, uLe, uGt, uGe, uEq, uNe, uIs, uIsNot, uIn, uNotIn, uAdd, uSub, uMul, uMod, uFdiv, uPow, uNeg, uCmp, uLt, uEqG, uIsG, uInG, uIx, uSl, uLen, lenV, uIsi, isaV_int, isaV_bl, isaV_str, isaV_non, uSet, uDivmod, uAll, uSum, uInt1, uList, uTuple, uTupleF, uAppend, uExtend, uPopAt, uLIndex, uLCount, uRepr, uTIndex, uIsE, tyU, keyV, keysV, isNon, L2.start, List.map_cons, List.map_nil, List.length_cons, List.length_nil, List.replicate, List.cons_append, List.nil_append, List.append_nil, Nat.sub_self, List.getElem?_cons_zero, List.getElem?_cons_succ, List.set_cons_zero, List.set_cons_succ, V.bl.injEq, V.int.injEq, V.ref.injEq, V.str.injEq, List.cons.injEq, Option.some.injEq, exists_eq_left', and_true, true_and, atI_0, atI_1, atI_2, atI_3, atI_4, if_true_eq, if_false_eq, Nat.reduceAdd, Nat.reduceSub, reduceCtorEq, ok_int, ok_bool, ok_str, ok_list, ok_tuple, String.reduceBEq, Bool.or_true, Bool.true_or, Bool.or_false, Bool.false_or, Bool.not_true, Bool.not_false, Int.cast_ofNat_Int, ↓reduceIte, decide_true, decide_false, Bool.false_eq_true, Option.isSome_some, tLc_eq, tFor_eq, iTup, iList, iRng1, iRng2, iRng3, RZ.iZipA, tYes, tTru, uMax2, uMin2, uLstRg]
          exact ⟨by decide, by decide, fun p H' e hp h1 => q p H' e hp ⟨_, _, h1⟩⟩

end Cv
end
section
namespace Cv
open PySem L2
variable {P : Program} {w : World} {K : PySem.W.Frag} {mg : Str → Option Value} {base : Heap} {A : Ad}
/-! ### _law_net -/
theorem FT.but {b : Addr} {H H' : Hp} {a : Addr} {xs : List V} (h : FT H a xs) (e : But b H H') (n : a ≠ b) : FT H' a xs := let ⟨o, h1, h2⟩ := h; ⟨o, h1, e _ _ n h2⟩
def sp__law_net : Sp := fun vs H Q _ => match vs with
  | [.ref b, .int m] => Box H b ∧ 1 ≤ m ∧ m ≤ 10 ∧ ∀ t H' ys ws, Box H' b → But b H H' → NetAt H' t ys ws → NetOk ys ws → (ys.length : Int) ≤ m → Q (.ref t) H'
  | _ => False
theorem ok__law_net (T : Txt K mg A) : FnOk P w K mg base CX0 3 A._law_net A.fd__law_net P__law_net sp__law_net := by
  refine T.F__law_net.ok sc__law_net (fun vs H Q E h => ?_) (fun cdv Ar outer s H vs Q E hr h => ?_)
  · unfold sp__law_net at h
    split at h
    · rfl
    · exact h.elim
  · unfold sp__law_net at h
    split at h
    rotate_left
    · exact h.elim
    rename_i b m
    obtain ⟨hB, hm1, hm2, q⟩ := h
    refine ⟨_, (pss_cons (ps_set (i := 2) sc__law_net.nd rfl (Or.inl rfl) (pe_op u_add pe_int (pe_call (ok__law_take T) (hr.mono (by decide)) (by rfl) T.g__law_take T.F__law_take.kp T.B__law_take .nil pass0 (pa_cons (uv 0) (pa_cons (uv 1) pa_nil)))))
  (pss_cons (ps_set (i := 3) sc__law_net.nd rfl (Or.inr rfl) (pe_lc (own := [("_law_turn", 8)]) (tt := tYes) rfl sc__law_net.nd (pi_range1 (by rfl) T.b_range (pa_cons (pe_op u_add pe_int (pe_call (ok__law_take T) (hr.mono (by decide)) (by rfl) T.g__law_take T.F__law_take.kp T.B__law_take .nil pass0 (pa_cons (uv 0) (pa_cons pe_int pa_nil)))) pa_nil)) (blkOk_by (own := [("_law_turn", 8)]) (N := N__law_net) (sc := defScope s__law_net) (by decide +kernel)) (fun _ _ _ _ _ => (pg_name (i := 8) sc__law_net.nd rfl (Or.inl rfl))) (fun _ _ _ _ _ => pts_nil) (fun _ _ _ _ _ => (pe_call (ok__law_take T) (hr.mono (by decide)) (by rfl) T.g__law_take T.F__law_take.kp T.B__law_take .nil pass0 (pa_cons (uv 0) (pa_cons pe_int pa_nil))))))
  (pss_cons (ps_set (i := 4) sc__law_net.nd rfl (Or.inl rfl) (pe_callTy u_tupleF (by rfl) T.b_tuple (by decide +kernel) (pa_cons (pe_lc (own := [("_law_yard", 7)]) (tt := tYes) rfl sc__law_net.nd (pi_range1 (by rfl) T.b_range (pa_cons (uv 2) pa_nil)) (blkOk_by (own := [("_law_yard", 7)]) (N := N__law_net) (sc := defScope s__law_net) (by decide +kernel)) (fun _ _ _ _ _ => (pg_name (i := 7) sc__law_net.nd rfl (Or.inl rfl))) (fun _ _ _ _ _ => pts_nil) (fun _ _ _ _ _ => (pe_ix (u_ix (hu_of hr)) (uv 3) (pe_call (ok__law_take T) (hr.mono (by decide)) (by rfl) T.g__law_take T.F__law_take.kp T.B__law_take .nil pass0 (pa_cons (uv 0) (pa_cons (pe_callB u_len (by rfl) T.b_len (by decide +kernel) (pa_cons (uv 3) pa_nil)) pa_nil))) (fun _ _ => rfl)))) pa_nil)))
  (pss_cons (ps_set (i := 5) sc__law_net.nd rfl (Or.inl rfl) (pe_ix (u_ix (hu_of hr)) (ue_lst (pa_cons pe_int (pa_cons pe_int (pa_cons pe_int pa_nil)))) (pe_call (ok__law_take T) (hr.mono (by decide)) (by rfl) T.g__law_take T.F__law_take.kp T.B__law_take .nil pass0 (pa_cons (uv 0) (pa_cons pe_int pa_nil))) (fun _ _ => rfl)))
  (pss_cons (ps_set (i := 6) sc__law_net.nd rfl (Or.inl rfl) ue_dT)
  (pss_cons (ps_for PassesOwn.never rfl (pi_range2 (by rfl) T.b_range (pa_cons pe_int (pa_cons (uv 2) pa_nil))) (pg_name (i := 7) sc__law_net.nd rfl (Or.inl rfl))
    (pss_one (ps_asg pe_bl (pg_sub (uv 6) (ue_tup (pa_cons (pe_call (ok__law_take T) (hr.mono (by decide)) (by rfl) T.g__law_take T.F__law_take.kp T.B__law_take .nil pass0 (pa_cons (uv 0) (pa_cons (uv 7) pa_nil))) (pa_cons (uv 7) (pa_cons (pe_call (ok__law_take T) (hr.mono (by decide)) (by rfl) T.g__law_take T.F__law_take.kp T.B__law_take .nil pass0 (pa_cons (uv 0) (pa_cons pe_int pa_nil))) (pa_cons (pe_op u_add pe_int (pe_call (ok__law_take T) (hr.mono (by decide)) (by rfl) T.g__law_take T.F__law_take.kp T.B__law_take .nil pass0 (pa_cons (uv 0) (pa_cons (uv 5) pa_nil)))) pa_nil))))) (u_set (hu_of hr))))))
  (pss_cons (ps_for PassesOwn.never rfl (pi_range1 (by rfl) T.b_range (pa_cons (pe_op u_mul (pe_call (ok__law_take T) (hr.mono (by decide)) (by rfl) T.g__law_take T.F__law_take.kp T.B__law_take .nil pass0 (pa_cons (uv 0) (pa_cons (pe_ix (u_ix (hu_of hr)) (ue_lst (pa_cons pe_int (pa_cons pe_int pa_nil))) (pe_call (ok__law_take T) (hr.mono (by decide)) (by rfl) T.g__law_take T.F__law_take.kp T.B__law_take .nil pass0 (pa_cons (uv 0) (pa_cons pe_int pa_nil))) (fun _ _ => rfl)) pa_nil))) (pe_callTy u_int1 (by rfl) T.b_int (by decide +kernel) (pa_cons (pe_cmpR u_gt (uv 2) pe_int (nomark _)) pa_nil))) pa_nil)) (pg_name (i := 8) sc__law_net.nd rfl (Or.inl rfl))
    (pss_cons (ps_set (i := 7) sc__law_net.nd rfl (Or.inl rfl) (pe_op u_add pe_int (pe_call (ok__law_take T) (hr.mono (by decide)) (by rfl) T.g__law_take T.F__law_take.kp T.B__law_take .nil pass0 (pa_cons (uv 0) (pa_cons (pe_op u_sub (uv 2) pe_int) pa_nil)))))
    (pss_one (ps_asg pe_bl (pg_sub (uv 6) (ue_tup (pa_cons (pe_call (ok__law_take T) (hr.mono (by decide)) (by rfl) T.g__law_take T.F__law_take.kp T.B__law_take .nil pass0 (pa_cons (uv 0) (pa_cons (uv 7) pa_nil))) (pa_cons (uv 7) (pa_cons (pe_call (ok__law_take T) (hr.mono (by decide)) (by rfl) T.g__law_take T.F__law_take.kp T.B__law_take .nil pass0 (pa_cons (uv 0) (pa_cons pe_int pa_nil))) (pa_cons (pe_op u_add pe_int (pe_call (ok__law_take T) (hr.mono (by decide)) (by rfl) T.g__law_take T.F__law_take.kp T.B__law_take .nil pass0 (pa_cons (uv 0) (pa_cons (uv 5) pa_nil)))) pa_nil))))) (u_set (hu_of hr)))))))
  (pss_one (ps_ret (ue_tup (pa_cons (uv 4) (pa_cons (pe_callTy u_tuple (by rfl) T.b_tuple (by decide +kernel) (pa_cons (pe_callB (u_sortedDT rfl hr.units) (by rfl) T.b_sorted (by decide +kernel) (pa_cons (uv 6) pa_nil)) pa_nil)) pa_nil)))))))))))), ?_⟩
    simp only [tSeq, tIfS, tRet, tRetN, tDrop, tAsg, tNext, tNever, gName, tAndV, tOrV, tNotV, tAnd, tOr, tNot, tB, tTest, tIf, tOp, tUn, tCB, tCall, tCons, tNil, tC, tChain, tSl, tPart, tNoPart, tPar, gSub, uVar, uTupD, uLstD, uDK, uDT, uBM, uBM0, uTup, uNil, uCons, uLe, uGt, uGe, uEq, uNe, uIs, uIsNot, uIn, uNotIn, uAdd, uSub, uMul, uMod, uFdiv, uPow, uNeg, uCmp, uLt, uEqG, uIsG, uInG, uIx, uSl, uLen, lenV, uIsi, isaV_int, isaV_bl, isaV_str, isaV_non, uSet, uDivmod, uAll, uSum, uInt1, uList, uTuple, uTupleF, uAppend, uExtend, uPopAt, uLIndex, uLCount, uRepr, uTIndex, uIsE, tyU, keyV, keysV, isNon, L2.start, List.map_cons, List.map_nil, List.length_cons, List.length_nil, List.replicate, List.cons_append, List.nil_append, List.append_nil, Nat.sub_self, List.getElem?_cons_zero, List.getElem?_cons_succ, List.set_cons_zero, List.set_cons_succ, V.bl.injEq, V.int.injEq, V.ref.injEq, V.str.injEq, List.cons.injEq, Option.some.injEq, exists_eq_left', and_true, true_and, atI_0, atI_1, atI_2, atI_3, atI_4, if_true_eq, if_false_eq, Nat.reduceAdd, Nat.reduceSub, reduceCtorEq, ok_int, ok_bool, ok_str, ok_list, ok_tuple, String.reduceBEq, Bool.or_true, Bool.true_or, Bool.or_false, Bool.false_or, Bool.not_true, Bool.not_false, Int.cast_ofNat_Int, ↓reduceIte, decide_true, decide_false, Bool.false_eq_true, Option.isSome_some, tLc_eq, tFor_eq, iTup, iList, iRng1, iRng2, iRng3, RZ.iZipA, tYes, tTru, uMax2, uMin2, uLstRg, sp__law_take]
    refine ⟨hB, by omega, by omega, fun d1 H1 hd1 hd1' hB1 e1 => ⟨hB1, by decide, by decide, fun d2 H2 hd2 hd2' hB2 e2 => ⟨by omega, by omega, ?_⟩⟩⟩
    obtain ⟨n, hn⟩ : ∃ n : Nat, (1 + d1 : Int) = n := ⟨(1 + d1).toNat, by omega⟩
    have hn1 : 1 ≤ n := by omega
    have hn2 : n ≤ 10 := by omega
    have stB : ∀ (H : Hp) (D : Addr) (o : HO), D ≠ b → Box H b → Box (upd H D o) b := fun H D o hD ⟨x, y, hb⟩ => ⟨x, y, by rw [upd_ne (Ne.symm hD)]; exact hb⟩
    have beB : ∀ H : Hp, Box H b → ∃ o, H b = some o := fun H ⟨x, y, hb⟩ => ⟨_, hb⟩
    rw [hn]
    -- the lines
    refine lc_acc (b := b) (B := fun H => Box H b) mono_name (walk_range (lo := 0) (n := (1 + d2).toNat)) (fun i acc => ∃ ns : List Int, acc = ns.map V.int ∧ ns.length = i ∧ i ≤ 3 ∧ ∀ y ∈ ns, 0 ≤ y ∧ y ≤ 5) ⟨[], rfl, rfl, by omega, by simp⟩
      (fun i acc ⟨ns, h1, h2, h3, _⟩ => by rw [h1, List.length_map]; omega) stB hB2 (beB _ hB2) (fun _ _ _ => trivial) (fun i x H' H'' acc hi ⟨ns, ha, hl, h3, hb⟩ hB' e' hy => ?_) (fun l3 H3 acc ⟨ns, ha, hl, h3, hb⟩ hB3 e3 hl3 h3l => ?_)
    · obtain ⟨rfl, rfl⟩ := hy
      simp only [tSeq, tIfS, tRet, tRetN, tDrop, tAsg, tNext, tNever, gName, tAndV, tOrV, tNotV, tAnd, tOr, tNot, tB, tTest, tIf, tOp, tUn, tCB, tCall, tCons, tNil, tC, tChain, tSl, tPart, tNoPart, tPar, gSub, uVar, uTupD, uLstD, uDK, uDT, uBM, uBM0, uTup, uNil, uCons, uLe, uGt, uGe, uEq, uNe, uIs, uIsNot, uIn, uNotIn, uAdd, uSub, uMul, uMod, uFdiv, uPow, uNeg, uCmp, uLt, uEqG, uIsG, uInG, uIx, uSl, uLen, lenV, uIsi, isaV_int, isaV_bl, isaV_str, isaV_non, uSet, uDivmod, uAll, uSum, uInt1, uList, uTuple, uTupleF, uAppend, uExtend, uPopAt, uLIndex, uLCount, uRepr, uTIndex, uIsE, tyU, keyV, keysV, isNon, L2.start, List.map_cons, List.map_nil, List.length_cons, List.length_nil, List.replicate, List.cons_append, List.nil_append, List.append_nil, Nat.sub_self, List.getElem?_cons_zero, List.getElem?_cons_succ, List.set_cons_zero, List.set_cons_succ, V.bl.injEq, V.int.injEq, V.ref.injEq, V.str.injEq, List.cons.injEq, Option.some.injEq, exists_eq_left', and_true, true_and, atI_0, atI_1, atI_2, atI_3, atI_4, if_true_eq, if_false_eq, Nat.reduceAdd, Nat.reduceSub, reduceCtorEq, ok_int, ok_bool, ok_str, ok_list, ok_tuple, String.reduceBEq, Bool.or_true, Bool.true_or, Bool.or_false, Bool.false_or, Bool.not_true, Bool.not_false, Int.cast_ofNat_Int, ↓reduceIte, decide_true, decide_false, Bool.false_eq_true, Option.isSome_some, tLc_eq, tFor_eq, iTup, iList, iRng1, iRng2, iRng3, RZ.iZipA, tYes, tTru, uMax2, uMin2, uLstRg, wipe, sp__law_take]
      refine fun Q' k => ⟨hB', by decide, by decide, fun d H4 h1 h2 hB4 e4 => k _ _ ⟨ns ++ [d], by rw [ha, List.map_append]; rfl, by simp [hl], by omega, fun y hy => ?_⟩ hB4 e4⟩
      rcases List.mem_append.mp hy with hy | hy
      · exact hb y hy
      · simp at hy
        omega
    have hlb : l3 ≠ b := fun e => by obtain ⟨o, ho⟩ := beB _ hB2; rw [e, ho] at hl3; cases hl3
    have hnl : 1 ≤ ns.length := by omega
    refine ⟨by omega, by omega, ?_⟩
    -- the yards
    refine lc_acc (b := b) (B := fun H => Box H b) mono_name (walk_range (lo := 0) (n := n)) (fun i acc => ∃ ys : List Int, acc = ys.map V.int ∧ ys.length = i ∧ i ≤ 10 ∧ ∀ y ∈ ys, 0 ≤ y ∧ y ≤ 5) ⟨[], rfl, rfl, by omega, by simp⟩
      (fun i acc ⟨ns, h1, h2, h3, _⟩ => by rw [h1, List.length_map]; omega) stB hB3 (beB _ hB3) (fun _ _ _ => trivial) (fun i x H' H'' acc' hi ⟨ys, ha', hl', h3', hb'⟩ hB' e' hy => ?_) (fun l4 H4 acc' ⟨ys, ha', hl', h3', hb'⟩ hB4 e4 hl4 h4l => ?_)
    · obtain ⟨rfl, rfl⟩ := hy
      have h3l' := e' _ _ hlb h3l
      simp only [tSeq, tIfS, tRet, tRetN, tDrop, tAsg, tNext, tNever, gName, tAndV, tOrV, tNotV, tAnd, tOr, tNot, tB, tTest, tIf, tOp, tUn, tCB, tCall, tCons, tNil, tC, tChain, tSl, tPart, tNoPart, tPar, gSub, uVar, uTupD, uLstD, uDK, uDT, uBM, uBM0, uTup, uNil, uCons, uLe, uGt, uGe, uEq, uNe, uIs, uIsNot, uIn, uNotIn, uAdd, uSub, uMul, uMod, uFdiv, uPow, uNeg, uCmp, uLt, uEqG, uIsG, uInG, uIx, uSl, uLen, lenV, uIsi, isaV_int, isaV_bl, isaV_str, isaV_non, uSet, uDivmod, uAll, uSum, uInt1, uList, uTuple, uTupleF, uAppend, uExtend, uPopAt, uLIndex, uLCount, uRepr, uTIndex, uIsE, tyU, keyV, keysV, isNon, L2.start, List.map_cons, List.map_nil, List.length_cons, List.length_nil, List.replicate, List.cons_append, List.nil_append, List.append_nil, Nat.sub_self, List.getElem?_cons_zero, List.getElem?_cons_succ, List.set_cons_zero, List.set_cons_succ, V.bl.injEq, V.int.injEq, V.ref.injEq, V.str.injEq, List.cons.injEq, Option.some.injEq, exists_eq_left', and_true, true_and, atI_0, atI_1, atI_2, atI_3, atI_4, if_true_eq, if_false_eq, Nat.reduceAdd, Nat.reduceSub, reduceCtorEq, ok_int, ok_bool, ok_str, ok_list, ok_tuple, String.reduceBEq, Bool.or_true, Bool.true_or, Bool.or_false, Bool.false_or, Bool.not_true, Bool.not_false, Int.cast_ofNat_Int, ↓reduceIte, decide_true, decide_false, Bool.false_eq_true, Option.isSome_some, tLc_eq, tFor_eq, iTup, iList, iRng1, iRng2, iRng3, RZ.iZipA, tYes, tTru, uMax2, uMin2, uLstRg, wipe, sp__law_take, h3l', ha, List.length_map]
      refine fun Q' k => ⟨hB', by omega, by omega, fun d H4 h1 h2 hB4 e4 => ?_⟩
      have h3l4 := e4 _ _ hlb h3l'
      obtain ⟨j, rfl⟩ : ∃ j : Nat, d = j := ⟨d.toNat, by omega⟩
      have hj : j < ns.length := by omega
      simp only [h3l4, ha]
      refine ⟨.int ns[j], atI_nat (by simp [hj]), k _ _ ⟨ys ++ [ns[j]], by rw [ha', List.map_append]; rfl, by simp [hl'], by omega, fun y hy => ?_⟩ hB4 e4⟩
      rcases List.mem_append.mp hy with hy | hy
      · exact hb' y hy
      · simp at hy
        rw [hy]
        exact hb _ (by simp)
    simp only [h4l, ha']
    intro ty H5 e5 h5
    refine ⟨by decide, fun l6 H6 e6 hl6 h6 => ?_⟩
    have e46 := e5.trans e6
    have hB6 : Box H6 b := by obtain ⟨x, y, hb⟩ := hB4; exact ⟨x, y, e46 _ _ hb⟩
    refine ⟨hB6, by decide, by decide, fun d3 H7 hd3 hd3' hB7 e7 => ?_⟩
    have hl6b : l6 ≠ b := fun e => by obtain ⟨x, y, hb⟩ := hB4; rw [e, e5 _ _ hb] at hl6; cases hl6
    have h6' := e7 _ _ hl6b h6
    obtain ⟨far, hfar, hf1, hf2⟩ : ∃ f : Int, atI [V.int 5, V.int 9, V.int 99] d3 = some (.int f) ∧ 1 ≤ f ∧ f ≤ 99 := by
      have : d3 = 0 ∨ d3 = 1 ∨ d3 = 2 := by omega
      rcases this with rfl | rfl | rfl
      · exact ⟨5, atI_0, by decide, by decide⟩
      · exact ⟨9, atI_1, by decide, by decide⟩
      · exact ⟨99, atI_2, by decide, by decide⟩
    simp only [h6', hfar, tSeq, tIfS, tRet, tRetN, tDrop, tAsg, tNext, tNever, gName, tAndV, tOrV, tNotV, tAnd, tOr, tNot, tB, tTest, tIf, tOp, tUn, tCB, tCall, tCons, tNil, tC, tChain, tSl, tPart, tNoPart, tPar, gSub, uVar, uTupD, uLstD, uDK, uDT, uBM, uBM0, uTup, uNil, uCons, uLe, uGt, uGe, uEq, uNe, uIs, uIsNot, uIn, uNotIn, uAdd, uSub, uMul, uMod, uFdiv, uPow, uNeg, uCmp, uLt, uEqG, uIsG, uInG, uIx, uSl, uLen, lenV, uIsi, isaV_int, isaV_bl, isaV_str, isaV_non, uSet, uDivmod, uAll, uSum, uInt1, uList, uTuple, uTupleF, uAppend, uExtend, uPopAt, uLIndex, uLCount, uRepr, uTIndex, uIsE, tyU, keyV, keysV, isNon, L2.start, List.map_cons, List.map_nil, List.length_cons, List.length_nil, List.replicate, List.cons_append, List.nil_append, List.append_nil, Nat.sub_self, List.getElem?_cons_zero, List.getElem?_cons_succ, List.set_cons_zero, List.set_cons_succ, V.bl.injEq, V.int.injEq, V.ref.injEq, V.str.injEq, List.cons.injEq, Option.some.injEq, exists_eq_left', and_true, true_and, atI_0, atI_1, atI_2, atI_3, atI_4, if_true_eq, if_false_eq, Nat.reduceAdd, Nat.reduceSub, reduceCtorEq, ok_int, ok_bool, ok_str, ok_list, ok_tuple, String.reduceBEq, Bool.or_true, Bool.true_or, Bool.or_false, Bool.false_or, Bool.not_true, Bool.not_false, Int.cast_ofNat_Int, ↓reduceIte, decide_true, decide_false, Bool.false_eq_true, Option.isSome_some, tLc_eq, tFor_eq, iTup, iList, iRng1, iRng2, iRng3, RZ.iZipA, tYes, tTru, uMax2, uMin2, uLstRg]
    intro dd H8 e8 hdd h8
    have hddb : dd ≠ b := fun e => by obtain ⟨o, ho⟩ := beB _ hB7; rw [e, ho] at hdd; cases hdd
    have hH0 : H dd = none := by
      cases hz : H dd with
      | none => rfl
      | some o =>
        have z1 := (((((e1.trans e2).trans e3).trans e4).trans (But.same e46)).trans e7) dd o hddb hz
        rw [hdd] at z1
        cases z1
    have htyb : ty ≠ b := by
      obtain ⟨o, _, ho⟩ := h5
      obtain ⟨x, y, hb⟩ := hB4
      exact ne_of ho (e5 _ _ hb) (fun z => by cases z)
    have hFT8 : FT H8 ty (ys.map V.int) := ((h5.mono e6).but e7 htyb).mono e8
    have hB8 : Box H8 b := by obtain ⟨x, y, hb⟩ := hB7; exact ⟨x, y, e8 _ _ hb⟩
    have e08 : But b H H8 := ((((e1.trans e2).trans e3).trans e4).trans (But.same e46)).trans (e7.trans (But.same e8))
    refine ⟨1, n, ⟨rfl, rfl⟩, ⟨by omega, by omega, by omega, by omega⟩, ?_⟩
    -- a way to each yard
    refine for_pv (walk_range (lo := 1) (n := ((n : Int) - 1).toNat)) (fun i σ H' => ∃ (kvs : List (List Key × V)) (v7 : Option V), σ = [some (V.ref b), some (V.int m), some (V.int n), some (V.ref l3), some (V.ref ty), some (V.int far), some (V.ref dd), v7, none] ∧
      Box H' b ∧ But b H H' ∧ FT H' ty (ys.map V.int) ∧ H' dd = some (.dT kvs) ∧ DW n kvs i ∧ ∀ k : Int, 1 ≤ k → k ≤ i → HasW kvs k) ⟨[], none, rfl, hB8, e08, hFT8, h8, ⟨by simp, by simp, by simp⟩, fun k h1 h2 => by omega⟩ (fun _ _ _ _ _ => trivial) ?_ ?_
    · rintro i x σ H' H'' hi ⟨kvs, v7, rfl, hBx, eHx, hFT, hdx, hDW, hhas⟩ ⟨rfl, rfl⟩
      simp only [tSeq, tIfS, tRet, tRetN, tDrop, tAsg, tNext, tNever, gName, tAndV, tOrV, tNotV, tAnd, tOr, tNot, tB, tTest, tIf, tOp, tUn, tCB, tCall, tCons, tNil, tC, tChain, tSl, tPart, tNoPart, tPar, gSub, uVar, uTupD, uLstD, uDK, uDT, uBM, uBM0, uTup, uNil, uCons, uLe, uGt, uGe, uEq, uNe, uIs, uIsNot, uIn, uNotIn, uAdd, uSub, uMul, uMod, uFdiv, uPow, uNeg, uCmp, uLt, uEqG, uIsG, uInG, uIx, uSl, uLen, lenV, uIsi, isaV_int, isaV_bl, isaV_str, isaV_non, uSet, uDivmod, uAll, uSum, uInt1, uList, uTuple, uTupleF, uAppend, uExtend, uPopAt, uLIndex, uLCount, uRepr, uTIndex, uIsE, tyU, keyV, keysV, isNon, L2.start, List.map_cons, List.map_nil, List.length_cons, List.length_nil, List.replicate, List.cons_append, List.nil_append, List.append_nil, Nat.sub_self, List.getElem?_cons_zero, List.getElem?_cons_succ, List.set_cons_zero, List.set_cons_succ, V.bl.injEq, V.int.injEq, V.ref.injEq, V.str.injEq, List.cons.injEq, Option.some.injEq, exists_eq_left', and_true, true_and, atI_0, atI_1, atI_2, atI_3, atI_4, if_true_eq, if_false_eq, Nat.reduceAdd, Nat.reduceSub, reduceCtorEq, ok_int, ok_bool, ok_str, ok_list, ok_tuple, String.reduceBEq, Bool.or_true, Bool.true_or, Bool.or_false, Bool.false_or, Bool.not_true, Bool.not_false, Int.cast_ofNat_Int, ↓reduceIte, decide_true, decide_false, Bool.false_eq_true, Option.isSome_some, tLc_eq, tFor_eq, iTup, iList, iRng1, iRng2, iRng3, RZ.iZipA, tYes, tTru, uMax2, uMin2, uLstRg, sp__law_take]
      generalize hkk : (1 : Int) + (i : Int) = kk
      refine ⟨hBx, by omega, by omega, fun a G1 ha1 ha2 hG1 g1 => ⟨hG1, by decide, by decide, fun ln G2 hl1 hl2 hG2 g2 => ⟨hG2, by omega, by omega, fun f G3 hf1' hf2' hG3 g3 => ⟨by decide, fun tp G4 g4 ht4 => ?_⟩⟩⟩⟩
      have g14 := ((g1.trans g2).trans g3).trans (But.same g4)
      have hd4 := g14 _ _ hddb hdx
      simp only [tSeq, tIfS, tRet, tRetN, tDrop, tAsg, tNext, tNever, gName, tAndV, tOrV, tNotV, tAnd, tOr, tNot, tB, tTest, tIf, tOp, tUn, tCB, tCall, tCons, tNil, tC, tChain, tSl, tPart, tNoPart, tPar, gSub, uVar, uTupD, uLstD, uDK, uDT, uBM, uBM0, uTup, uNil, uCons, uLe, uGt, uGe, uEq, uNe, uIs, uIsNot, uIn, uNotIn, uAdd, uSub, uMul, uMod, uFdiv, uPow, uNeg, uCmp, uLt, uEqG, uIsG, uInG, uIx, uSl, uLen, lenV, uIsi, isaV_int, isaV_bl, isaV_str, isaV_non, uSet, uDivmod, uAll, uSum, uInt1, uList, uTuple, uTupleF, uAppend, uExtend, uPopAt, uLIndex, uLCount, uRepr, uTIndex, uIsE, tyU, keyV, keysV, isNon, L2.start, List.map_cons, List.map_nil, List.length_cons, List.length_nil, List.replicate, List.cons_append, List.nil_append, List.append_nil, Nat.sub_self, List.getElem?_cons_zero, List.getElem?_cons_succ, List.set_cons_zero, List.set_cons_succ, V.bl.injEq, V.int.injEq, V.ref.injEq, V.str.injEq, List.cons.injEq, Option.some.injEq, exists_eq_left', and_true, true_and, atI_0, atI_1, atI_2, atI_3, atI_4, if_true_eq, if_false_eq, Nat.reduceAdd, Nat.reduceSub, reduceCtorEq, ok_int, ok_bool, ok_str, ok_list, ok_tuple, String.reduceBEq, Bool.or_true, Bool.true_or, Bool.or_false, Bool.false_or, Bool.not_true, Bool.not_false, Int.cast_ofNat_Int, ↓reduceIte, decide_true, decide_false, Bool.false_eq_true, Option.isSome_some, tLc_eq, tFor_eq, iTup, iList, iRng1, iRng2, iRng3, RZ.iZipA, tYes, tTru, uMax2, uMin2, uLstRg, hd4, ht4]
      have hdl := hDW.le
      have hput := hDW.put (v := .bl true) (x := [a, kk, ln, 1 + f]) ⟨a, kk, ln, 1 + f, rfl, by omega, by omega, by omega, by omega, by omega, by omega, by omega⟩
      have hty4 : FT G4 ty (ys.map V.int) := hFT.but g14 htyb
      have hbig : (100 : Nat) < sizeLine := by rw [sizeLine_eq]; decide
      refine ⟨by omega, _, stB _ _ _ hddb (by obtain ⟨x, y, hb⟩ := hG3; exact ⟨x, y, g4 _ _ hb⟩), ?_, ?_, upd_same, hput, fun k h1 h2 => ?_⟩
      · intro a' o na ho
        by_cases hz : a' = dd
        · rw [hz] at ho
          exact absurd ho (by rw [hH0]; exact fun z => nomatch z)
        · rw [upd_ne hz]
          exact g14 _ _ na (eHx _ _ na ho)
      · obtain ⟨o, o1, o2⟩ := hty4
        exact ⟨o, o1, by rw [upd_ne (ne_of o2 hd4 (fun z => by cases z))]; exact o2⟩
      · by_cases hz : k = kk
        · rw [hz]
          exact HasW.self
        · exact (hhas k h1 (by omega)).put
    · rintro σ H' ⟨kvs, v7, rfl, hBx, eHx, hFT, hdx, hDW, hhas⟩
      simp only [tSeq, tIfS, tRet, tRetN, tDrop, tAsg, tNext, tNever, gName, tAndV, tOrV, tNotV, tAnd, tOr, tNot, tB, tTest, tIf, tOp, tUn, tCB, tCall, tCons, tNil, tC, tChain, tSl, tPart, tNoPart, tPar, gSub, uVar, uTupD, uLstD, uDK, uDT, uBM, uBM0, uTup, uNil, uCons, uLe, uGt, uGe, uEq, uNe, uIs, uIsNot, uIn, uNotIn, uAdd, uSub, uMul, uMod, uFdiv, uPow, uNeg, uCmp, uLt, uEqG, uIsG, uInG, uIx, uSl, uLen, lenV, uIsi, isaV_int, isaV_bl, isaV_str, isaV_non, uSet, uDivmod, uAll, uSum, uInt1, uList, uTuple, uTupleF, uAppend, uExtend, uPopAt, uLIndex, uLCount, uRepr, uTIndex, uIsE, tyU, keyV, keysV, isNon, L2.start, List.map_cons, List.map_nil, List.length_cons, List.length_nil, List.replicate, List.cons_append, List.nil_append, List.append_nil, Nat.sub_self, List.getElem?_cons_zero, List.getElem?_cons_succ, List.set_cons_zero, List.set_cons_succ, V.bl.injEq, V.int.injEq, V.ref.injEq, V.str.injEq, List.cons.injEq, Option.some.injEq, exists_eq_left', and_true, true_and, atI_0, atI_1, atI_2, atI_3, atI_4, if_true_eq, if_false_eq, Nat.reduceAdd, Nat.reduceSub, reduceCtorEq, ok_int, ok_bool, ok_str, ok_list, ok_tuple, String.reduceBEq, Bool.or_true, Bool.true_or, Bool.or_false, Bool.false_or, Bool.not_true, Bool.not_false, Int.cast_ofNat_Int, ↓reduceIte, decide_true, decide_false, Bool.false_eq_true, Option.isSome_some, tLc_eq, tFor_eq, iTup, iList, iRng1, iRng2, iRng3, RZ.iZipA, tYes, tTru, uMax2, uMin2, uLstRg, sp__law_take]
      refine ⟨by decide, fun l9 H9 e9 hl9 h9 => ?_⟩
      have hB9 : Box H9 b := by obtain ⟨x, y, hb⟩ := hBx; exact ⟨x, y, e9 _ _ hb⟩
      have hl9b : l9 ≠ b := fun e => by obtain ⟨o, ho⟩ := beB _ hBx; rw [e, ho] at hl9; cases hl9
      refine ⟨hB9, by decide, by decide, fun d4 H10 hd4 hd4' hB10 e10 => ?_⟩
      obtain ⟨tt, htt, ht1, ht2⟩ : ∃ f : Int, atI [V.int 3, V.int 16] d4 = some (.int f) ∧ 1 ≤ f ∧ f ≤ 16 := by
        have : d4 = 0 ∨ d4 = 1 := by omega
        rcases this with rfl | rfl
        · exact ⟨3, atI_0, by decide, by decide⟩
        · exact ⟨16, atI_1, by decide, by decide⟩
      simp only [e10 _ _ hl9b h9, htt, tSeq, tIfS, tRet, tRetN, tDrop, tAsg, tNext, tNever, gName, tAndV, tOrV, tNotV, tAnd, tOr, tNot, tB, tTest, tIf, tOp, tUn, tCB, tCall, tCons, tNil, tC, tChain, tSl, tPart, tNoPart, tPar, gSub, uVar, uTupD, uLstD, uDK, uDT, uBM, uBM0, uTup, uNil, uCons, uLe, uGt, uGe, uEq, uNe, uIs, uIsNot, uIn, uNotIn, uAdd, uSub, uMul, uMod, uFdiv, uPow, uNeg, uCmp, uLt, uEqG, uIsG, uInG, uIx, uSl, uLen, lenV, uIsi, isaV_int, isaV_bl, isaV_str, isaV_non, uSet, uDivmod, uAll, uSum, uInt1, uList, uTuple, uTupleF, uAppend, uExtend, uPopAt, uLIndex, uLCount, uRepr, uTIndex, uIsE, tyU, keyV, keysV, isNon, L2.start, List.map_cons, List.map_nil, List.length_cons, List.length_nil, List.replicate, List.cons_append, List.nil_append, List.append_nil, Nat.sub_self, List.getElem?_cons_zero, List.getElem?_cons_succ, List.set_cons_zero, List.set_cons_succ, V.bl.injEq, V.int.injEq, V.ref.injEq, V.str.injEq, List.cons.injEq, Option.some.injEq, exists_eq_left', and_true, true_and, atI_0, atI_1, atI_2, atI_3, atI_4, if_true_eq, if_false_eq, Nat.reduceAdd, Nat.reduceSub, reduceCtorEq, ok_int, ok_bool, ok_str, ok_list, ok_tuple, String.reduceBEq, Bool.or_true, Bool.true_or, Bool.or_false, Bool.false_or, Bool.not_true, Bool.not_false, Int.cast_ofNat_Int, ↓reduceIte, decide_true, decide_false, Bool.false_eq_true, Option.isSome_some, tLc_eq, tFor_eq, iTup, iList, iRng1, iRng2, iRng3, RZ.iZipA, tYes, tTru, uMax2, uMin2, uLstRg]
      refine ⟨hB10, by omega, by omega, fun d5 H11 hd5 hd5' hB11 e11 => ?_⟩
      have e9' : But b H' H11 := ((But.same e9).trans e10).trans e11
      obtain ⟨k5, hk5, hk15, hkn⟩ : ∃ k : Nat, d5 * (if decide ((1 : Int) < n) = true then 1 else 0) = k ∧ k ≤ 15 ∧ (k ≠ 0 → 2 ≤ n) := by
        by_cases hz : 1 < n
        · exact ⟨d5.toNat, by rw [if_pos (by simp; omega)]; omega, by omega, fun _ => hz⟩
        · exact ⟨0, by rw [if_neg (by simp; omega)]; omega, by omega, fun z => absurd rfl z⟩
      rw [hk5]
      refine ⟨cmul_l (by omega) (by omega), by omega, by omega, ?_⟩
      rw [Int.toNat_natCast]
      refine for_pv (walk_range (lo := 0) (n := k5)) (fun i σ H' => ∃ (kvs : List (List Key × V)) (v7 v8 : Option V), σ = [some (V.ref b), some (V.int m), some (V.int n), some (V.ref l3), some (V.ref ty), some (V.int far), some (V.ref dd), v7, v8] ∧
        Box H' b ∧ But b H H' ∧ FT H' ty (ys.map V.int) ∧ H' dd = some (.dT kvs) ∧ DW n kvs (n - 1 + i) ∧ ∀ k : Int, 1 ≤ k → k < n → HasW kvs k) ⟨kvs, v7, none, rfl, hB11, eHx.trans e9', hFT.but e9' htyb, e9' _ _ hddb hdx, ⟨hDW.nd, hDW.ok, by have := hDW.le; omega⟩, fun k h1 h2 => hhas k h1 (by omega)⟩ (fun _ _ _ _ _ => trivial) ?_ ?_
      · rintro i x σ H' H'' hi ⟨kvs, v7, v8, rfl, hBy, eHy, hFU, hdy, hDX, hhas⟩ ⟨rfl, rfl⟩
        have hn3 : 2 ≤ n := hkn (by omega)
        simp only [tSeq, tIfS, tRet, tRetN, tDrop, tAsg, tNext, tNever, gName, tAndV, tOrV, tNotV, tAnd, tOr, tNot, tB, tTest, tIf, tOp, tUn, tCB, tCall, tCons, tNil, tC, tChain, tSl, tPart, tNoPart, tPar, gSub, uVar, uTupD, uLstD, uDK, uDT, uBM, uBM0, uTup, uNil, uCons, uLe, uGt, uGe, uEq, uNe, uIs, uIsNot, uIn, uNotIn, uAdd, uSub, uMul, uMod, uFdiv, uPow, uNeg, uCmp, uLt, uEqG, uIsG, uInG, uIx, uSl, uLen, lenV, uIsi, isaV_int, isaV_bl, isaV_str, isaV_non, uSet, uDivmod, uAll, uSum, uInt1, uList, uTuple, uTupleF, uAppend, uExtend, uPopAt, uLIndex, uLCount, uRepr, uTIndex, uIsE, tyU, keyV, keysV, isNon, L2.start, List.map_cons, List.map_nil, List.length_cons, List.length_nil, List.replicate, List.cons_append, List.nil_append, List.append_nil, Nat.sub_self, List.getElem?_cons_zero, List.getElem?_cons_succ, List.set_cons_zero, List.set_cons_succ, V.bl.injEq, V.int.injEq, V.ref.injEq, V.str.injEq, List.cons.injEq, Option.some.injEq, exists_eq_left', and_true, true_and, atI_0, atI_1, atI_2, atI_3, atI_4, if_true_eq, if_false_eq, Nat.reduceAdd, Nat.reduceSub, reduceCtorEq, ok_int, ok_bool, ok_str, ok_list, ok_tuple, String.reduceBEq, Bool.or_true, Bool.true_or, Bool.or_false, Bool.false_or, Bool.not_true, Bool.not_false, Int.cast_ofNat_Int, ↓reduceIte, decide_true, decide_false, Bool.false_eq_true, Option.isSome_some, tLc_eq, tFor_eq, iTup, iList, iRng1, iRng2, iRng3, RZ.iZipA, tYes, tTru, uMax2, uMin2, uLstRg, sp__law_take]
        refine ⟨hBy, by omega, by omega, fun d6 G0 hd6 hd6' hG0 g0 => ?_⟩
        generalize hkk : (1 : Int) + d6 = kk
        have hdy0 := g0 _ _ hddb hdy
        have hFU0 := hFU.but g0 htyb
        have eHy0 := eHy.trans g0
        refine ⟨hG0, by omega, by omega, fun a G1 ha1 ha2 hG1 g1 => ⟨hG1, by decide, by decide, fun ln G2 hl1 hl2 hG2 g2 => ⟨hG2, by omega, by omega, fun f G3 hf1' hf2' hG3 g3 => ⟨by decide, fun tp G4 g4 ht4 => ?_⟩⟩⟩⟩
        have g14 := ((g1.trans g2).trans g3).trans (But.same g4)
        have hd4 := g14 _ _ hddb hdy0
        simp only [tSeq, tIfS, tRet, tRetN, tDrop, tAsg, tNext, tNever, gName, tAndV, tOrV, tNotV, tAnd, tOr, tNot, tB, tTest, tIf, tOp, tUn, tCB, tCall, tCons, tNil, tC, tChain, tSl, tPart, tNoPart, tPar, gSub, uVar, uTupD, uLstD, uDK, uDT, uBM, uBM0, uTup, uNil, uCons, uLe, uGt, uGe, uEq, uNe, uIs, uIsNot, uIn, uNotIn, uAdd, uSub, uMul, uMod, uFdiv, uPow, uNeg, uCmp, uLt, uEqG, uIsG, uInG, uIx, uSl, uLen, lenV, uIsi, isaV_int, isaV_bl, isaV_str, isaV_non, uSet, uDivmod, uAll, uSum, uInt1, uList, uTuple, uTupleF, uAppend, uExtend, uPopAt, uLIndex, uLCount, uRepr, uTIndex, uIsE, tyU, keyV, keysV, isNon, L2.start, List.map_cons, List.map_nil, List.length_cons, List.length_nil, List.replicate, List.cons_append, List.nil_append, List.append_nil, Nat.sub_self, List.getElem?_cons_zero, List.getElem?_cons_succ, List.set_cons_zero, List.set_cons_succ, V.bl.injEq, V.int.injEq, V.ref.injEq, V.str.injEq, List.cons.injEq, Option.some.injEq, exists_eq_left', and_true, true_and, atI_0, atI_1, atI_2, atI_3, atI_4, if_true_eq, if_false_eq, Nat.reduceAdd, Nat.reduceSub, reduceCtorEq, ok_int, ok_bool, ok_str, ok_list, ok_tuple, String.reduceBEq, Bool.or_true, Bool.true_or, Bool.or_false, Bool.false_or, Bool.not_true, Bool.not_false, Int.cast_ofNat_Int, ↓reduceIte, decide_true, decide_false, Bool.false_eq_true, Option.isSome_some, tLc_eq, tFor_eq, iTup, iList, iRng1, iRng2, iRng3, RZ.iZipA, tYes, tTru, uMax2, uMin2, uLstRg, hd4, ht4]
        have hdl := hDX.le
        have hput := hDX.put (v := .bl true) (x := [a, kk, ln, 1 + f]) ⟨a, kk, ln, 1 + f, rfl, by omega, by omega, by omega, by omega, by omega, by omega, by omega⟩
        have hty4 : FT G4 ty (ys.map V.int) := hFU0.but g14 htyb
        have hbig : (100 : Nat) < sizeLine := by rw [sizeLine_eq]; decide
        refine ⟨by omega, _, _, _, ⟨rfl, rfl⟩, stB _ _ _ hddb (by obtain ⟨x, y, hb⟩ := hG3; exact ⟨x, y, g4 _ _ hb⟩), ?_, ?_, upd_same, hput, fun k h1 h2 => ?_⟩
        · intro a' o na ho
          by_cases hz : a' = dd
          · rw [hz] at ho
            exact absurd ho (by rw [hH0]; exact fun z => nomatch z)
          · rw [upd_ne hz]
            exact g14 _ _ na (eHy0 _ _ na ho)
        · obtain ⟨o, o1, o2⟩ := hty4
          exact ⟨o, o1, by rw [upd_ne (ne_of o2 hd4 (fun z => by cases z))]; exact o2⟩
        · exact (hhas k h1 h2).put
      · rintro σ H' ⟨kvs, v7, v8, rfl, hBy, eHy, hFU, hdy, hDX, hhas⟩
        simp only [tSeq, tIfS, tRet, tRetN, tDrop, tAsg, tNext, tNever, gName, tAndV, tOrV, tNotV, tAnd, tOr, tNot, tB, tTest, tIf, tOp, tUn, tCB, tCall, tCons, tNil, tC, tChain, tSl, tPart, tNoPart, tPar, gSub, uVar, uTupD, uLstD, uDK, uDT, uBM, uBM0, uTup, uNil, uCons, uLe, uGt, uGe, uEq, uNe, uIs, uIsNot, uIn, uNotIn, uAdd, uSub, uMul, uMod, uFdiv, uPow, uNeg, uCmp, uLt, uEqG, uIsG, uInG, uIx, uSl, uLen, lenV, uIsi, isaV_int, isaV_bl, isaV_str, isaV_non, uSet, uDivmod, uAll, uSum, uInt1, uList, uTuple, uTupleF, uAppend, uExtend, uPopAt, uLIndex, uLCount, uRepr, uTIndex, uIsE, tyU, keyV, keysV, isNon, L2.start, List.map_cons, List.map_nil, List.length_cons, List.length_nil, List.replicate, List.cons_append, List.nil_append, List.append_nil, Nat.sub_self, List.getElem?_cons_zero, List.getElem?_cons_succ, List.set_cons_zero, List.set_cons_succ, V.bl.injEq, V.int.injEq, V.ref.injEq, V.str.injEq, List.cons.injEq, Option.some.injEq, exists_eq_left', and_true, true_and, atI_0, atI_1, atI_2, atI_3, atI_4, if_true_eq, if_false_eq, Nat.reduceAdd, Nat.reduceSub, reduceCtorEq, ok_int, ok_bool, ok_str, ok_list, ok_tuple, String.reduceBEq, Bool.or_true, Bool.true_or, Bool.or_false, Bool.false_or, Bool.not_true, Bool.not_false, Int.cast_ofNat_Int, ↓reduceIte, decide_true, decide_false, Bool.false_eq_true, Option.isSome_some, tLc_eq, tFor_eq, iTup, iList, iRng1, iRng2, iRng3, RZ.iZipA, tYes, tTru, uMax2, uMin2, uLstRg, uSortedDT, hdy]
        intro cs hcs
        obtain ⟨S, as, ws, es, hws, hperm, hpair⟩ := sort_keys (K := K) hDX.keys hcs
        refine ⟨S, fun l10 H12 e12 hl10 h12 => ?_⟩
        rw [es] at h12
        simp only [h12]
        intro tw H13 e13 h13
        refine ⟨by decide, fun t H14 e14 h14 => ?_⟩
        obtain ⟨n1, n2, n3, n4⟩ := hDX.net hhas hperm hpair
        have e15 := e12.trans (e13.trans e14)
        refine q t H14 ys ws (by obtain ⟨x, y, hb⟩ := hBy; exact ⟨x, y, e15 _ _ hb⟩) (eHy.trans (But.same e15)) ⟨ty, tw, as, h14, hFU.mono e15, e14 _ _ h13, Ws.mono hws e15⟩ ⟨by omega, by omega, hb', by omega, by rw [hl']; exact n2, n3, by rw [hl']; exact n4⟩ (by omega)

end Cv
end
section
namespace Cv
open PySem L2
variable {P : Program} {w : World} {K : PySem.W.Frag} {mg : Str → Option Value} {base : Heap} {A : Ad}
/-! ### _law_kind: what it makes of what it is given -/
open LamX in
/-- what is told of a call that may be refused with NoMark -/
def TTkind (A : Ad) : (XK → Hp → VK → Prop) → Hp → VK → Prop := fun tl H Q =>
  tl (fun cls d H' => cls = .ref A.NoMark ∧ d = none ∧ ∀ H'', Same H' H'' → Q (.str "mark") H'') H (fun _ H' => Q (.str "told") H')
theorem kind_gives {X : Cx} {A : Ad} (T : Txt X.K X.mg A) (hrX : Room 1 X.A) {q : Str} {cdv : Value} :
    LamX.GivesTo X N__law_kind "_law_kind" (defScope s__law_kind) A._law_kind cdv (defBody s__law_kind) "_law_call" q (TTkind A) := by
  intro f c' s H Q tl act hc h
  have hr : Room 0 (X.A.deeper (PyProof.Rows.envOfC "_law_kind" (defScope s__law_kind) s.heap.objs.size A._law_kind cdv)) := hrX.deeper _
  have hu1 : (X.A.deeper (PyProof.Rows.envOfC "_law_kind" (defScope s__law_kind) s.heap.objs.size A._law_kind cdv)).units + 1 < cLine := hu_of hr
  have hu64 : (X.A.deeper (PyProof.Rows.envOfC "_law_kind" (defScope s__law_kind) s.heap.objs.size A._law_kind cdv)).units + 64 < cLine := hr.units
  have hsu : ∃ ts : Addr → Value → Option Addr → TS, (∀ (a : Addr) (oe : Obj) (cls : Value) (d : Option Addr) (pn : List (Addr × Obj)), Zc cls d oe → (∃ vs, oe.data = .fields vs) →
      PSs ((cxOf C8.CX0 X.prog X.w X.K X.mg X.base N__law_kind "_law_kind" (defScope s__law_kind) A._law_kind cdv X.A X.stack s H C8.E0).nox.suite a ((a, oe) :: pn)) (trySuite s__law_kind) (ts a cls d)) ∧
      ∀ (a : Addr) (D : Ends) (H' : Hp) (y0 y2 y3 : Option V), (∀ H'', Same H' H'' → D.rt (.str "mark") H'') → ts a (.ref A.NoMark) none D [y0, some (.ref a), y2, y3] H' := by
    refine ⟨_, fun a oe cls d pn hz hf => (pss_cons (ps_set (i := 2) sc__law_kind.nd rfl (Or.inl rfl) (ue_lst (pa_cons (pe_callB (u_isEK (K := X.K) rfl hz hf) (by rfl) T.b_isinstance (by decide +kernel) (pa_cons (uv 1) (pa_cons (pe_glob (v := .ref A.NoNet) (by rfl) T.g_NoNet rfl) pa_nil))) (pa_cons (pe_callB (u_isEK (K := X.K) rfl hz hf) (by rfl) T.b_isinstance (by decide +kernel) (pa_cons (uv 1) (pa_cons (pe_glob (v := .ref A.NoYard) (by rfl) T.g_NoYard rfl) pa_nil))) (pa_cons (pe_callB (u_isEK (K := X.K) rfl hz hf) (by rfl) T.b_isinstance (by decide +kernel) (pa_cons (uv 1) (pa_cons (pe_glob (v := .ref A.NoMark) (by rfl) T.g_NoMark rfl) pa_nil))) (pa_cons (pe_callB (u_isEK (K := X.K) rfl hz hf) (by rfl) T.b_isinstance (by decide +kernel) (pa_cons (uv 1) (pa_cons (pe_glob (v := .ref A.NoPage) (by rfl) T.g_NoPage rfl) pa_nil))) pa_nil))))))
  (pss_cons (ps_set (i := 2) sc__law_kind.nd rfl (Or.inl rfl) (pe_op u_add (uv 2) (ue_lst (pa_cons (pe_callB (u_isEK (K := X.K) rfl hz hf) (by rfl) T.b_isinstance (by decide +kernel) (pa_cons (uv 1) (pa_cons (pe_glob (v := .ref A.NoCover) (by rfl) T.g_NoCover rfl) pa_nil))) (pa_cons (pe_callB (u_isEK (K := X.K) rfl hz hf) (by rfl) T.b_isinstance (by decide +kernel) (pa_cons (uv 1) (pa_cons (pe_glob (v := .ref A.NoDay) (by rfl) T.g_NoDay rfl) pa_nil))) (pa_cons (pe_callB (u_isEK (K := X.K) rfl hz hf) (by rfl) T.b_isinstance (by decide +kernel) (pa_cons (uv 1) (pa_cons (pe_glob (v := .ref A.NoTariff) (by rfl) T.g_NoTariff rfl) pa_nil))) pa_nil))))))
  (pss_cons (ps_set (i := 2) sc__law_kind.nd rfl (Or.inl rfl) (pe_op u_add (uv 2) (ue_lst (pa_cons (pe_callB (u_isEK (K := X.K) rfl hz hf) (by rfl) T.b_isinstance (by decide +kernel) (pa_cons (uv 1) (pa_cons (pe_glob (v := .ref A.NoBalance) (by rfl) T.g_NoBalance rfl) pa_nil))) (pa_cons (pe_callB (u_isEK (K := X.K) rfl hz hf) (by rfl) T.b_isinstance (by decide +kernel) (pa_cons (uv 1) (pa_cons (pe_glob (v := .ref A.NoStray) (by rfl) T.g_NoStray rfl) pa_nil))) (pa_cons (pe_callB (u_isEK (K := X.K) rfl hz hf) (by rfl) T.b_isinstance (by decide +kernel) (pa_cons (uv 1) (pa_cons (pe_glob (v := .ref A.NoTrip) (by rfl) T.g_NoTrip rfl) pa_nil))) pa_nil))))))
  (pss_cons (ps_set (i := 2) sc__law_kind.nd rfl (Or.inl rfl) (pe_op u_add (uv 2) (ue_lst (pa_cons (pe_callB (u_isEK (K := X.K) rfl hz hf) (by rfl) T.b_isinstance (by decide +kernel) (pa_cons (uv 1) (pa_cons (pe_glob (v := .ref A.NoPrice) (by rfl) T.g_NoPrice rfl) pa_nil))) (pa_cons (pe_callB (u_isEK (K := X.K) rfl hz hf) (by rfl) T.b_isinstance (by decide +kernel) (pa_cons (uv 1) (pa_cons (pe_glob (v := .ref A.NoLine) (by rfl) T.g_NoLine rfl) pa_nil))) (pa_cons (pe_callB (u_isEK (K := X.K) rfl hz hf) (by rfl) T.b_isinstance (by decide +kernel) (pa_cons (uv 1) (pa_cons (pe_glob (v := .ref A.Gone) (by rfl) T.g_Gone rfl) pa_nil))) (pa_cons (pe_callB (u_isEK (K := X.K) rfl hz hf) (by rfl) T.b_isinstance (by decide +kernel) (pa_cons (uv 1) (pa_cons (pe_glob (v := .ref A.Nothing) (by rfl) T.g_Nothing rfl) pa_nil))) pa_nil)))))))
  (pss_cons (ps_set (i := 2) sc__law_kind.nd rfl (Or.inl rfl) (pe_op u_add (uv 2) (ue_lst (pa_cons (pe_callB (u_isEK (K := X.K) rfl hz hf) (by rfl) T.b_isinstance (by decide +kernel) (pa_cons (uv 1) (pa_cons (pe_glob (v := .ref A.Clash) (by rfl) T.g_Clash rfl) pa_nil))) (pa_cons (pe_callB (u_isEK (K := X.K) rfl hz hf) (by rfl) T.b_isinstance (by decide +kernel) (pa_cons (uv 1) (pa_cons (pe_glob (v := .ref A.NoText) (by rfl) T.g_NoText rfl) pa_nil))) (pa_cons (pe_callB (u_isEK (K := X.K) rfl hz hf) (by rfl) T.b_isinstance (by decide +kernel) (pa_cons (uv 1) (pa_cons (pe_glob (v := .ref A.TooMany) (by rfl) T.g_TooMany rfl) pa_nil))) pa_nil))))))
  (pss_cons (ps_if (PW.pt (pw_or (pt_not (pt_val (pe_callB (u_isEK (K := X.K) rfl hz hf) (by rfl) T.b_isinstance (by decide +kernel) (pa_cons (uv 1) (pa_cons (pe_bltn (v := .ty "ValueError") (by rfl) T.b_ValueError (by decide +kernel) rfl) pa_nil))))) (pw_or1 (pt_cmpR (u_neK (K := X.K) rfl hu64) (ue_bm PySem.F.plainAttrs_list PySem.F.slot_list_count PySem.F.type_list_count u_lcount (uv 2) (pa_cons pe_bl pa_nil)) pe_int (nomark _))))) (pss_one (ps_ret pe_str)) pss_nil)
  (pss_cons (ps_if (pt_tru (pe_ix (u_ix hu1) (uv 2) pe_int (fun _ _ => rfl)) (by intro _; rfl)) (pss_one ps_never) pss_nil)
  (pss_cons (ps_set (i := 3) sc__law_kind.nd rfl (Or.inl rfl) (ue_lst (pa_cons pe_str (pa_cons pe_str (pa_cons pe_str (pa_cons pe_str (pa_cons pe_str (pa_cons pe_str (pa_cons pe_str (pa_cons pe_str (pa_cons pe_str (pa_cons pe_str (pa_cons pe_str pa_nil)))))))))))))
  (pss_one (ps_ret (pe_ix (u_ix hu1) (pe_op u_add (uv 3) (ue_lst (pa_cons pe_str (pa_cons pe_str (pa_cons pe_str (pa_cons pe_str (pa_cons pe_str (pa_cons pe_str pa_nil)))))))) (ue_bm PySem.F.plainAttrs_list PySem.F.slot_list_index PySem.F.type_list_index u_lindex (uv 2) (pa_cons pe_bl pa_nil)) (fun _ _ => rfl)))))))))))), fun a D H' y0 y2 y3 hQ => ?_⟩
    simp (maxSteps := 10000000) only [tSeq, tIfS, tRet, tRetN, tDrop, tAsg, tNext, tNever, gName, tAndV, tOrV, tNotV, tAnd, tOr, tNot, tB, tTest, tIf, tOp, tUn, tCB, tCall, tCons, tNil, tC, tChain, tSl, tPart, tNoPart, tPar, gSub, uVar, uTupD, uLstD, uDK, uDT, uBM, uBM0, uTup, uNil, uCons, uLe, uGt, uGe, uEq, uNe, uIs, uIsNot, uIn, uNotIn, uAdd, uSub, uMul, uMod, uFdiv, uPow, uNeg, uCmp, uLt, uEqG, uIsG, uInG, uIx, uSl, uLen, lenV, uIsi, isaV_int, isaV_bl, isaV_str, isaV_non, uSet, uDivmod, uAll, uSum, uInt1, uList, uTuple, uTupleF, uAppend, uExtend, uPopAt, uLIndex, uLCount, uRepr, uTIndex, uIsE, tyU, keyV, keysV, isNon, L2.start, List.map_cons, List.map_nil, List.length_cons, List.length_nil, List.replicate, List.cons_append, List.nil_append, List.append_nil, Nat.sub_self, List.getElem?_cons_zero, List.getElem?_cons_succ, List.set_cons_zero, List.set_cons_succ, V.bl.injEq, V.int.injEq, V.ref.injEq, V.str.injEq, List.cons.injEq, Option.some.injEq, exists_eq_left', and_true, true_and, atI_0, atI_1, atI_2, atI_3, atI_4, if_true_eq, if_false_eq, Nat.reduceAdd, Nat.reduceSub, reduceCtorEq, ok_int, ok_bool, ok_str, ok_list, ok_tuple, String.reduceBEq, Bool.or_true, Bool.true_or, Bool.or_false, Bool.false_or, Bool.not_true, Bool.not_false, Int.cast_ofNat_Int, ↓reduceIte, decide_true, decide_false, Bool.false_eq_true, Option.isSome_some, tLc_eq, tFor_eq, iTup, iList, iRng1, iRng2, iRng3, RZ.iZipA, tYes, tTru, uMax2, uMin2, uLstRg, T.k_NoMark_NoNet, T.k_NoMark_NoYard, T.k_NoMark_NoMark, T.k_NoMark_NoPage, T.k_NoMark_NoCover, T.k_NoMark_NoDay, T.k_NoMark_NoTariff, T.k_NoMark_NoBalance, T.k_NoMark_NoStray, T.k_NoMark_NoTrip, T.k_NoMark_NoPrice, T.k_NoMark_NoLine, T.k_NoMark_Gone, T.k_NoMark_Nothing, T.k_NoMark_Clash, T.k_NoMark_NoText, T.k_NoMark_TooMany, T.v_NoMark, T.x_NoMark.ec, Value.ref.injEq]
    refine ⟨by decide, fun p0 H0 s0 _ e0 => ⟨by decide, fun p1 H1 s1 _ e1 => ?_⟩⟩
    have e0' := s1 _ _ e0
    simp (maxSteps := 10000000) only [tSeq, tIfS, tRet, tRetN, tDrop, tAsg, tNext, tNever, gName, tAndV, tOrV, tNotV, tAnd, tOr, tNot, tB, tTest, tIf, tOp, tUn, tCB, tCall, tCons, tNil, tC, tChain, tSl, tPart, tNoPart, tPar, gSub, uVar, uTupD, uLstD, uDK, uDT, uBM, uBM0, uTup, uNil, uCons, uLe, uGt, uGe, uEq, uNe, uIs, uIsNot, uIn, uNotIn, uAdd, uSub, uMul, uMod, uFdiv, uPow, uNeg, uCmp, uLt, uEqG, uIsG, uInG, uIx, uSl, uLen, lenV, uIsi, isaV_int, isaV_bl, isaV_str, isaV_non, uSet, uDivmod, uAll, uSum, uInt1, uList, uTuple, uTupleF, uAppend, uExtend, uPopAt, uLIndex, uLCount, uRepr, uTIndex, uIsE, tyU, keyV, keysV, isNon, L2.start, List.map_cons, List.map_nil, List.length_cons, List.length_nil, List.replicate, List.cons_append, List.nil_append, List.append_nil, Nat.sub_self, List.getElem?_cons_zero, List.getElem?_cons_succ, List.set_cons_zero, List.set_cons_succ, V.bl.injEq, V.int.injEq, V.ref.injEq, V.str.injEq, List.cons.injEq, Option.some.injEq, exists_eq_left', and_true, true_and, atI_0, atI_1, atI_2, atI_3, atI_4, if_true_eq, if_false_eq, Nat.reduceAdd, Nat.reduceSub, reduceCtorEq, ok_int, ok_bool, ok_str, ok_list, ok_tuple, String.reduceBEq, Bool.or_true, Bool.true_or, Bool.or_false, Bool.false_or, Bool.not_true, Bool.not_false, Int.cast_ofNat_Int, ↓reduceIte, decide_true, decide_false, Bool.false_eq_true, Option.isSome_some, tLc_eq, tFor_eq, iTup, iList, iRng1, iRng2, iRng3, RZ.iZipA, tYes, tTru, uMax2, uMin2, uLstRg, e0', e1]
    refine ⟨by rw [sizeLine_eq]; decide, fun p2 H2 s2 _ e2 => ⟨by decide, fun p3 H3 s3 _ e3 => ?_⟩⟩
    have e2' := s3 _ _ e2
    simp (maxSteps := 10000000) only [tSeq, tIfS, tRet, tRetN, tDrop, tAsg, tNext, tNever, gName, tAndV, tOrV, tNotV, tAnd, tOr, tNot, tB, tTest, tIf, tOp, tUn, tCB, tCall, tCons, tNil, tC, tChain, tSl, tPart, tNoPart, tPar, gSub, uVar, uTupD, uLstD, uDK, uDT, uBM, uBM0, uTup, uNil, uCons, uLe, uGt, uGe, uEq, uNe, uIs, uIsNot, uIn, uNotIn, uAdd, uSub, uMul, uMod, uFdiv, uPow, uNeg, uCmp, uLt, uEqG, uIsG, uInG, uIx, uSl, uLen, lenV, uIsi, isaV_int, isaV_bl, isaV_str, isaV_non, uSet, uDivmod, uAll, uSum, uInt1, uList, uTuple, uTupleF, uAppend, uExtend, uPopAt, uLIndex, uLCount, uRepr, uTIndex, uIsE, tyU, keyV, keysV, isNon, L2.start, List.map_cons, List.map_nil, List.length_cons, List.length_nil, List.replicate, List.cons_append, List.nil_append, List.append_nil, Nat.sub_self, List.getElem?_cons_zero, List.getElem?_cons_succ, List.set_cons_zero, List.set_cons_succ, V.bl.injEq, V.int.injEq, V.ref.injEq, V.str.injEq, List.cons.injEq, Option.some.injEq, exists_eq_left', and_true, true_and, atI_0, atI_1, atI_2, atI_3, atI_4, if_true_eq, if_false_eq, Nat.reduceAdd, Nat.reduceSub, reduceCtorEq, ok_int, ok_bool, ok_str, ok_list, ok_tuple, String.reduceBEq, Bool.or_true, Bool.true_or, Bool.or_false, Bool.false_or, Bool.not_true, Bool.not_false, Int.cast_ofNat_Int, ↓reduceIte, decide_true, decide_false, Bool.false_eq_true, Option.isSome_some, tLc_eq, tFor_eq, iTup, iList, iRng1, iRng2, iRng3, RZ.iZipA, tYes, tTru, uMax2, uMin2, uLstRg, e2', e3]
    refine ⟨by rw [sizeLine_eq]; decide, fun p4 H4 s4 _ e4 => ⟨by decide, fun p5 H5 s5 _ e5 => ?_⟩⟩
    have e4' := s5 _ _ e4
    simp (maxSteps := 10000000) only [tSeq, tIfS, tRet, tRetN, tDrop, tAsg, tNext, tNever, gName, tAndV, tOrV, tNotV, tAnd, tOr, tNot, tB, tTest, tIf, tOp, tUn, tCB, tCall, tCons, tNil, tC, tChain, tSl, tPart, tNoPart, tPar, gSub, uVar, uTupD, uLstD, uDK, uDT, uBM, uBM0, uTup, uNil, uCons, uLe, uGt, uGe, uEq, uNe, uIs, uIsNot, uIn, uNotIn, uAdd, uSub, uMul, uMod, uFdiv, uPow, uNeg, uCmp, uLt, uEqG, uIsG, uInG, uIx, uSl, uLen, lenV, uIsi, isaV_int, isaV_bl, isaV_str, isaV_non, uSet, uDivmod, uAll, uSum, uInt1, uList, uTuple, uTupleF, uAppend, uExtend, uPopAt, uLIndex, uLCount, uRepr, uTIndex, uIsE, tyU, keyV, keysV, isNon, L2.start, List.map_cons, List.map_nil, List.length_cons, List.length_nil, List.replicate, List.cons_append, List.nil_append, List.append_nil, Nat.sub_self, List.getElem?_cons_zero, List.getElem?_cons_succ, List.set_cons_zero, List.set_cons_succ, V.bl.injEq, V.int.injEq, V.ref.injEq, V.str.injEq, List.cons.injEq, Option.some.injEq, exists_eq_left', and_true, true_and, atI_0, atI_1, atI_2, atI_3, atI_4, if_true_eq, if_false_eq, Nat.reduceAdd, Nat.reduceSub, reduceCtorEq, ok_int, ok_bool, ok_str, ok_list, ok_tuple, String.reduceBEq, Bool.or_true, Bool.true_or, Bool.or_false, Bool.false_or, Bool.not_true, Bool.not_false, Int.cast_ofNat_Int, ↓reduceIte, decide_true, decide_false, Bool.false_eq_true, Option.isSome_some, tLc_eq, tFor_eq, iTup, iList, iRng1, iRng2, iRng3, RZ.iZipA, tYes, tTru, uMax2, uMin2, uLstRg, e4', e5]
    refine ⟨by rw [sizeLine_eq]; decide, fun p6 H6 s6 _ e6 => ⟨by decide, fun p7 H7 s7 _ e7 => ?_⟩⟩
    have e6' := s7 _ _ e6
    simp (maxSteps := 10000000) only [tSeq, tIfS, tRet, tRetN, tDrop, tAsg, tNext, tNever, gName, tAndV, tOrV, tNotV, tAnd, tOr, tNot, tB, tTest, tIf, tOp, tUn, tCB, tCall, tCons, tNil, tC, tChain, tSl, tPart, tNoPart, tPar, gSub, uVar, uTupD, uLstD, uDK, uDT, uBM, uBM0, uTup, uNil, uCons, uLe, uGt, uGe, uEq, uNe, uIs, uIsNot, uIn, uNotIn, uAdd, uSub, uMul, uMod, uFdiv, uPow, uNeg, uCmp, uLt, uEqG, uIsG, uInG, uIx, uSl, uLen, lenV, uIsi, isaV_int, isaV_bl, isaV_str, isaV_non, uSet, uDivmod, uAll, uSum, uInt1, uList, uTuple, uTupleF, uAppend, uExtend, uPopAt, uLIndex, uLCount, uRepr, uTIndex, uIsE, tyU, keyV, keysV, isNon, L2.start, List.map_cons, List.map_nil, List.length_cons, List.length_nil, List.replicate, List.cons_append, List.nil_append, List.append_nil, Nat.sub_self, List.getElem?_cons_zero, List.getElem?_cons_succ, List.set_cons_zero, List.set_cons_succ, V.bl.injEq, V.int.injEq, V.ref.injEq, V.str.injEq, List.cons.injEq, Option.some.injEq, exists_eq_left', and_true, true_and, atI_0, atI_1, atI_2, atI_3, atI_4, if_true_eq, if_false_eq, Nat.reduceAdd, Nat.reduceSub, reduceCtorEq, ok_int, ok_bool, ok_str, ok_list, ok_tuple, String.reduceBEq, Bool.or_true, Bool.true_or, Bool.or_false, Bool.false_or, Bool.not_true, Bool.not_false, Int.cast_ofNat_Int, ↓reduceIte, decide_true, decide_false, Bool.false_eq_true, Option.isSome_some, tLc_eq, tFor_eq, iTup, iList, iRng1, iRng2, iRng3, RZ.iZipA, tYes, tTru, uMax2, uMin2, uLstRg, e6', e7]
    refine ⟨by rw [sizeLine_eq]; decide, fun p8 H8 s8 _ e8 => ?_⟩
    simp (maxSteps := 10000000) only [tSeq, tIfS, tRet, tRetN, tDrop, tAsg, tNext, tNever, gName, tAndV, tOrV, tNotV, tAnd, tOr, tNot, tB, tTest, tIf, tOp, tUn, tCB, tCall, tCons, tNil, tC, tChain, tSl, tPart, tNoPart, tPar, gSub, uVar, uTupD, uLstD, uDK, uDT, uBM, uBM0, uTup, uNil, uCons, uLe, uGt, uGe, uEq, uNe, uIs, uIsNot, uIn, uNotIn, uAdd, uSub, uMul, uMod, uFdiv, uPow, uNeg, uCmp, uLt, uEqG, uIsG, uInG, uIx, uSl, uLen, lenV, uIsi, isaV_int, isaV_bl, isaV_str, isaV_non, uSet, uDivmod, uAll, uSum, uInt1, uList, uTuple, uTupleF, uAppend, uExtend, uPopAt, uLIndex, uLCount, uRepr, uTIndex, uIsE, tyU, keyV, keysV, isNon, L2.start, List.map_cons, List.map_nil, List.length_cons, List.length_nil, List.replicate, List.cons_append, List.nil_append, List.append_nil, Nat.sub_self, List.getElem?_cons_zero, List.getElem?_cons_succ, List.set_cons_zero, List.set_cons_succ, V.bl.injEq, V.int.injEq, V.ref.injEq, V.str.injEq, List.cons.injEq, Option.some.injEq, exists_eq_left', and_true, true_and, atI_0, atI_1, atI_2, atI_3, atI_4, if_true_eq, if_false_eq, Nat.reduceAdd, Nat.reduceSub, reduceCtorEq, ok_int, ok_bool, ok_str, ok_list, ok_tuple, String.reduceBEq, Bool.or_true, Bool.true_or, Bool.or_false, Bool.false_or, Bool.not_true, Bool.not_false, Int.cast_ofNat_Int, ↓reduceIte, decide_true, decide_false, Bool.false_eq_true, Option.isSome_some, tLc_eq, tFor_eq, iTup, iList, iRng1, iRng2, iRng3, RZ.iZipA, tYes, tTru, uMax2, uMin2, uLstRg, e8]
    refine ⟨⟨rfl, rfl⟩, ?_⟩
    rw [if_neg (by decide)]
    refine ⟨.bl false, rfl, ?_⟩
    simp (maxSteps := 10000000) only [tSeq, tIfS, tRet, tRetN, tDrop, tAsg, tNext, tNever, gName, tAndV, tOrV, tNotV, tAnd, tOr, tNot, tB, tTest, tIf, tOp, tUn, tCB, tCall, tCons, tNil, tC, tChain, tSl, tPart, tNoPart, tPar, gSub, uVar, uTupD, uLstD, uDK, uDT, uBM, uBM0, uTup, uNil, uCons, uLe, uGt, uGe, uEq, uNe, uIs, uIsNot, uIn, uNotIn, uAdd, uSub, uMul, uMod, uFdiv, uPow, uNeg, uCmp, uLt, uEqG, uIsG, uInG, uIx, uSl, uLen, lenV, uIsi, isaV_int, isaV_bl, isaV_str, isaV_non, uSet, uDivmod, uAll, uSum, uInt1, uList, uTuple, uTupleF, uAppend, uExtend, uPopAt, uLIndex, uLCount, uRepr, uTIndex, uIsE, tyU, keyV, keysV, isNon, L2.start, List.map_cons, List.map_nil, List.length_cons, List.length_nil, List.replicate, List.cons_append, List.nil_append, List.append_nil, Nat.sub_self, List.getElem?_cons_zero, List.getElem?_cons_succ, List.set_cons_zero, List.set_cons_succ, V.bl.injEq, V.int.injEq, V.ref.injEq, V.str.injEq, List.cons.injEq, Option.some.injEq, exists_eq_left', and_true, true_and, atI_0, atI_1, atI_2, atI_3, atI_4, if_true_eq, if_false_eq, Nat.reduceAdd, Nat.reduceSub, reduceCtorEq, ok_int, ok_bool, ok_str, ok_list, ok_tuple, String.reduceBEq, Bool.or_true, Bool.true_or, Bool.or_false, Bool.false_or, Bool.not_true, Bool.not_false, Int.cast_ofNat_Int, ↓reduceIte, decide_true, decide_false, Bool.false_eq_true, Option.isSome_some, tLc_eq, tFor_eq, iTup, iList, iRng1, iRng2, iRng3, RZ.iZipA, tYes, tTru, uMax2, uMin2, uLstRg]
    refine ⟨by decide, fun p9 H9 s9 _ e9 => ⟨by decide, fun pa Ha sa _ ea => ?_⟩⟩
    have e9' := sa _ _ e9
    simp (maxSteps := 10000000) only [tSeq, tIfS, tRet, tRetN, tDrop, tAsg, tNext, tNever, gName, tAndV, tOrV, tNotV, tAnd, tOr, tNot, tB, tTest, tIf, tOp, tUn, tCB, tCall, tCons, tNil, tC, tChain, tSl, tPart, tNoPart, tPar, gSub, uVar, uTupD, uLstD, uDK, uDT, uBM, uBM0, uTup, uNil, uCons, uLe, uGt, uGe, uEq, uNe, uIs, uIsNot, uIn, uNotIn, uAdd, uSub, uMul, uMod, uFdiv, uPow, uNeg, uCmp, uLt, uEqG, uIsG, uInG, uIx, uSl, uLen, lenV, uIsi, isaV_int, isaV_bl, isaV_str, isaV_non, uSet, uDivmod, uAll, uSum, uInt1, uList, uTuple, uTupleF, uAppend, uExtend, uPopAt, uLIndex, uLCount, uRepr, uTIndex, uIsE, tyU, keyV, keysV, isNon, L2.start, List.map_cons, List.map_nil, List.length_cons, List.length_nil, List.replicate, List.cons_append, List.nil_append, List.append_nil, Nat.sub_self, List.getElem?_cons_zero, List.getElem?_cons_succ, List.set_cons_zero, List.set_cons_succ, V.bl.injEq, V.int.injEq, V.ref.injEq, V.str.injEq, List.cons.injEq, Option.some.injEq, exists_eq_left', and_true, true_and, atI_0, atI_1, atI_2, atI_3, atI_4, if_true_eq, if_false_eq, Nat.reduceAdd, Nat.reduceSub, reduceCtorEq, ok_int, ok_bool, ok_str, ok_list, ok_tuple, String.reduceBEq, Bool.or_true, Bool.true_or, Bool.or_false, Bool.false_or, Bool.not_true, Bool.not_false, Int.cast_ofNat_Int, ↓reduceIte, decide_true, decide_false, Bool.false_eq_true, Option.isSome_some, tLc_eq, tFor_eq, iTup, iList, iRng1, iRng2, iRng3, RZ.iZipA, tYes, tTru, uMax2, uMin2, uLstRg, e9', ea]
    refine ⟨by rw [sizeLine_eq]; decide, fun pb Hb sb _ eb => ?_⟩
    have e8' := sb _ _ (sa _ _ (s9 _ _ e8))
    simp (maxSteps := 10000000) only [tSeq, tIfS, tRet, tRetN, tDrop, tAsg, tNext, tNever, gName, tAndV, tOrV, tNotV, tAnd, tOr, tNot, tB, tTest, tIf, tOp, tUn, tCB, tCall, tCons, tNil, tC, tChain, tSl, tPart, tNoPart, tPar, gSub, uVar, uTupD, uLstD, uDK, uDT, uBM, uBM0, uTup, uNil, uCons, uLe, uGt, uGe, uEq, uNe, uIs, uIsNot, uIn, uNotIn, uAdd, uSub, uMul, uMod, uFdiv, uPow, uNeg, uCmp, uLt, uEqG, uIsG, uInG, uIx, uSl, uLen, lenV, uIsi, isaV_int, isaV_bl, isaV_str, isaV_non, uSet, uDivmod, uAll, uSum, uInt1, uList, uTuple, uTupleF, uAppend, uExtend, uPopAt, uLIndex, uLCount, uRepr, uTIndex, uIsE, tyU, keyV, keysV, isNon, L2.start, List.map_cons, List.map_nil, List.length_cons, List.length_nil, List.replicate, List.cons_append, List.nil_append, List.append_nil, Nat.sub_self, List.getElem?_cons_zero, List.getElem?_cons_succ, List.set_cons_zero, List.set_cons_succ, V.bl.injEq, V.int.injEq, V.ref.injEq, V.str.injEq, List.cons.injEq, Option.some.injEq, exists_eq_left', and_true, true_and, atI_0, atI_1, atI_2, atI_3, atI_4, if_true_eq, if_false_eq, Nat.reduceAdd, Nat.reduceSub, reduceCtorEq, ok_int, ok_bool, ok_str, ok_list, ok_tuple, String.reduceBEq, Bool.or_true, Bool.true_or, Bool.or_false, Bool.false_or, Bool.not_true, Bool.not_false, Int.cast_ofNat_Int, ↓reduceIte, decide_true, decide_false, Bool.false_eq_true, Option.isSome_some, tLc_eq, tFor_eq, iTup, iList, iRng1, iRng2, iRng3, RZ.iZipA, tYes, tTru, uMax2, uMin2, uLstRg, e8', eb]
    refine ⟨⟨rfl, rfl⟩, 2, .bl true, ⟨rfl, rfl, ?_⟩, .str "mark", rfl, hQ _ fun b u e => ?_⟩
    · intro m z' hm
      obtain rfl | rfl : m = 0 ∨ m = 1 := by omega
      all_goals (intro e; injection e with e; subst e; rfl)
    · exact sb _ _ (sa _ _ (s9 _ _ (s8 _ _ (s7 _ _ (s6 _ _ (s5 _ _ (s4 _ _ (s3 _ _ (s2 _ _ (s1 _ _ (s0 _ _ e)))))))))))
  obtain ⟨ts, hs1, hs2⟩ := hsu
  have hb : ∀ (W : WX) (pn : List (Addr × Obj)) (xe : Value → Shared → Prop) (p1 p2 : Pos), Takes ((cxOf C8.CX0 X.prog X.w X.K X.mg X.base N__law_kind "_law_kind" (defScope s__law_kind) A._law_kind cdv X.A X.stack s H C8.E0).nox.tr pn xe) W →
      PE ((cxOf C8.CX0 X.prog X.w X.K X.mg X.base N__law_kind "_law_kind" (defScope s__law_kind) A._law_kind cdv X.A X.stack s H C8.E0).nox.tr pn xe) (.Call (.Name "_law_call" p1) [] [] p2)
        (fun σZ HZ Q => ∃ E : XK, (∀ cls d (σ' : St) H', σ'.length = 4 → E cls d H' → W cls d σ' H') ∧ σZ[0]? = some (some (.ref f)) ∧ HZ c' = some (LamX.CodeO c' q) ∧ tl E HZ Q) := fun W pn xe p1 p2 tk =>
    ⟨fun pins s σ H Q I ⟨E, hE, h⟩ => (act _ pn xe E p1 p2 (take_len tk) (fun cls d σ' H' e l => hE cls d σ' H' l e)).run pins s σ H Q I h⟩
  refine ⟨_, pss_cons (ps_try_as (i := 1) (c := .ref A.CoverError) (Wout := fun _ _ _ _ => False) (ts := ts) rfl rfl sc__law_kind.nd rfl rfl ⟨by rfl, rfl, .inl T.g_CoverError⟩ takes0 (fun W pn xe tk _ => pss_one (ps_expr (hb W pn xe _ _ tk))) hs1) (pss_one (ps_ret pe_str)), ?_⟩
  simp only [tSeq, tDrop, tRet]
  refine ⟨_, ?_, rfl, hc, h⟩
  intro cls d σ' H' l e
  obtain ⟨rfl, rfl, e⟩ := e
  match σ', l with
  | [y0, y1, y2, y3], _ =>
    refine ⟨true, T.m_NoMark, fun _ a _ => hs2 a _ H' y0 y2 y3 e, fun h => (Bool.noConfusion h)⟩

end Cv
end
section
namespace Cv
open PySem L2
variable {P : Program} {w : World} {K : PySem.W.Frag} {mg : Str → Option Value} {base : Heap} {A : Ad}
/-! ### law -/
theorem FT.ext {H H' : Hp} {a : Addr} {xs : List V} (h : FT H a xs) (e : LamX.ExtN H H') : FT H' a xs := let ⟨o, h1, h2⟩ := h; ⟨o, h1, e _ _ h2 (by intro _ z; cases z)⟩
theorem Ws.ext {H H' : Hp} {as : List Addr} {ws : List (List Int)} (h : Ws H as ws) (e : LamX.ExtN H H') : Ws H' as ws := ⟨h.1, fun i a x h1 h2 => e _ _ (h.2 i a x h1 h2) (by intro _ z; cases z)⟩
theorem NetAt.ext {H H' : Hp} {t : Addr} {ys : List Int} {ws : List (List Int)} (h : NetAt H t ys ws) (e : LamX.ExtN H H') : NetAt H' t ys ws :=
  let ⟨ty, tw, as, h1, h2, h3, h4⟩ := h; ⟨ty, tw, as, e _ _ h1 (by intro _ z; cases z), h2.ext e, e _ _ h3 (by intro _ z; cases z), h4.ext e⟩
theorem FT.len {H : Hp} {a : Addr} {xs : List V} (h : FT H a xs) : ∃ o, H a = some (.frz o (.tup xs)) := let ⟨o, _, h2⟩ := h; ⟨o, h2⟩
/-- what is no line -/
def OddV (H : Hp) (x : V) : Prop := (isaV H x "int" = some false ∨ (isaV H x "int" = some true ∧ isaV H x "bool" = some true)) ∧ ∀ ys, markV x ys = false
theorem OddV.ext {H H' : Hp} {x : V} (h : OddV H x) (e : LamX.ExtN H H') : OddV H' x := by
  refine ⟨?_, h.2⟩
  cases x with
  | ref p =>
    have h1 := h.1
    simp only [isaV_ref] at h1 ⊢
    cases hp : H p with
    | none => rw [hp] at h1; simp at h1
    | some o =>
      rw [hp] at h1
      rw [e _ _ hp (fun ps z => by rw [z] at h1; simp at h1)]
      exact h1
  | _ => exact h.1
theorem OddV.some {H : Hp} {x : V} (h : OddV H x) : (isaV H x "int").isSome = true := by
  rcases h.1 with h | h
  · rw [h]; rfl
  · rw [h.1]; rfl
/-- the first place from a place on -/
def DueV (ys : List Int) (k : Int) (fr : Nat) (v : V) : Prop := (v = .non ∧ ∀ j, fr ≤ j → ys[j]? ≠ some k) ∨ ∃ j : Nat, v = .int j ∧ fr ≤ j ∧ ys[j]? = some k ∧ ∀ l, fr ≤ l → l < j → ys[l]? ≠ some k
theorem DueV.top {ys : List Int} {k : Int} : DueV ys k ys.length .non := .inl ⟨rfl, fun j hj => by rw [List.getElem?_eq_none hj]; simp⟩
theorem DueV.here {ys : List Int} {k : Int} {m : Nat} (h : ys[m]? = some k) : DueV ys k m (.int m) := .inr ⟨m, rfl, Nat.le_refl _, h, fun l a b => by omega⟩
theorem DueV.down {ys : List Int} {k : Int} {m : Nat} {v : V} (d : DueV ys k (m + 1) v) (h : ys[m]? ≠ some k) : DueV ys k m v := by
  rcases d with ⟨rfl, d⟩ | ⟨j, rfl, h1, h2, h3⟩
  · refine .inl ⟨rfl, fun j hj => ?_⟩
    rcases Nat.eq_or_lt_of_le hj with rfl | hj
    · exact h
    · exact d j hj
  · refine .inr ⟨j, rfl, by omega, h2, fun l a b => ?_⟩
    rcases Nat.eq_or_lt_of_le a with rfl | a
    · exact h
    · exact h3 l a b
theorem DueV.none {ys : List Int} {k : Int} (d : DueV ys k 0 .non) : markV (.int k) ys = false := by
  rcases d with ⟨_, d⟩ | ⟨j, h, _⟩
  · have : ¬ k ∈ ys := fun hk => by
      obtain ⟨j, hj, e⟩ := List.getElem_of_mem hk
      exact d j (Nat.zero_le _) (by rw [List.getElem?_eq_getElem hj, e])
    simp [markV, this]
  · cases h
theorem DueV.idx {ys : List Int} {k : Int} {j : Nat} (d : DueV ys k 0 (.int j)) : k ∈ ys ∧ ys.idxOf k = j := by
  rcases d with ⟨h, _⟩ | ⟨i, h, _, h2, h3⟩
  · cases h
  · have e : (j : Int) = i := by injection h
    obtain rfl : j = i := by omega
    obtain ⟨hj, e2⟩ := List.getElem?_eq_some_iff.1 h2
    refine ⟨e2 ▸ List.getElem_mem hj, ?_⟩
    unfold List.idxOf
    refine (List.findIdx_eq hj).2 ⟨by simp [e2], fun l hl => ?_⟩
    have := h3 l (Nat.zero_le _) hl
    rw [List.getElem?_eq_getElem (by omega)] at this
    simpa using this
theorem DueV.kinds {ys : List Int} {k : Int} {m : Nat} {v : V} (d : DueV ys k m v) : v = .non ∨ ∃ j : Nat, v = .int j := by
  rcases d with ⟨rfl, _⟩ | ⟨j, rfl, _⟩
  · exact .inl rfl
  · exact .inr ⟨j, rfl⟩
theorem NetAt.but {b : Addr} {H H' : Hp} {t : Addr} {ys : List Int} {ws : List (List Int)} (h : NetAt H t ys ws) (hb : Box H b) (e : But b H H') : NetAt H' t ys ws := by
  obtain ⟨x, y, hb⟩ := hb
  obtain ⟨ty, tw, as, h1, ⟨o, h2, h2'⟩, h3, h4, h5⟩ := h
  have nb : ∀ {a : Addr} {u : HO}, H a = some u → (∀ xs, u ≠ .lst xs) → a ≠ b := fun {a u} h n z => by
    rw [z, hb] at h
    injection h with h
    exact n _ h.symm
  refine ⟨ty, tw, as, e _ _ (nb h1 (by intro _ z; cases z)) h1, ⟨o, h2, e _ _ (nb h2' (by intro _ z; cases z)) h2'⟩, e _ _ (nb h3 (by intro _ z; cases z)) h3, h4, fun i a x q1 q2 => ?_⟩
  have := h5 i a x q1 q2
  exact e _ _ (nb this (by intro _ z; cases z)) this
def Tb (Pt : Addr) : List (Addr × Str) := [(Pt, (PyProof.Rows.envOfC "law" (defScope s_law) 0 0 .none).qual ++ "<lambda>")]
def sp_law (K : PySem.W.Frag) (Pt : Addr) : Sp := fun vs H Q _ => match vs with
  | [.ref a] => ∃ ns : List Int, SqL K H a (ns.map V.int) ∧ LamX.Tabs (Tb Pt) H ∧ ∀ H', Q (.bl true) H'
  | _ => False
theorem ok_law (T : Txt K mg A) {c Pt : Addr} (hcv : A.fd_law.code = .ref c) (TB : LamX.TabB base mg c Pt) : FnOk P w K mg base CX0 8 A.law A.fd_law P_law (sp_law K Pt) := by
  obtain ⟨oc, od, kV, doc, pm, an, cdK, ct, osl, eK, lkK, hcK⟩ := T.F__law_kind.ex
  have bK := T.B__law_kind
  rw [eK] at lkK bK
  refine okC T.F_law hcv sc_law (fun vs H Q E h => ?_) (fun Ar outer s H vs Q E hr h => ?_)
  · unfold sp_law at h
    split at h
    · rfl
    · exact h.elim
  · unfold sp_law at h
    split at h
    rotate_left
    · exact h.elim
    rename_i a
    obtain ⟨ns, hS, hT, q⟩ := h
    refine ⟨_, (pss_cons (ps_for PassesOwn.never rfl (pi_range1 (by rfl) T.b_range (pa_cons (pe_callB (u_max2 rfl) (by rfl) T.b_max (by decide +kernel) (pa_cons pe_int (pa_cons (pe_callB (u_min2 rfl) (by rfl) T.b_min (by decide +kernel) (pa_cons (pe_callB call_len_seq (by rfl) T.b_len (by decide +kernel) (pa_cons (uv 0) pa_nil)) (pa_cons pe_int pa_nil))) pa_nil))) pa_nil)) (pg_name (i := 1) sc_law.nd rfl (Or.inl rfl))
    (pss_cons (ps_set (i := 2) sc_law.nd rfl (Or.inl rfl) (pe_call (ok__law_box T) (hr.mono (by decide)) (by rfl) T.g__law_box T.F__law_box.kp T.B__law_box .nil pass0 (pa_cons (uv 0) (pa_cons (uv 1) pa_nil))))
    (pss_cons (ps_set (i := 3) sc_law.nd rfl (Or.inr rfl) (pe_call (ok__law_net T) (hr.mono (by decide)) (by rfl) T.g__law_net T.F__law_net.kp T.B__law_net .nil pass0 (pa_cons (uv 2) (pa_cons pe_int pa_nil))))
    (pss_cons (ps_set (i := 4) sc_law.nd rfl (Or.inl rfl) (pe_call (ok__law_take T) (hr.mono (by decide)) (by rfl) T.g__law_take T.F__law_take.kp T.B__law_take .nil pass0 (pa_cons (uv 2) (pa_cons (pe_op u_pow pe_int pe_int) pa_nil))))
    (pss_cons (ps_set (i := 5) sc_law.nd rfl (Or.inl rfl) (ue_lst (pa_cons (pe_un u_neg pe_int) (pa_cons pe_int (pa_cons (pe_op u_add pe_int (uv 4)) (pa_cons (pe_op u_sub (pe_un u_neg pe_int) (uv 4)) (pa_cons pe_bl (pa_cons pe_bl (pa_cons pe_non (pa_cons pe_str (pa_cons (ue_tup (pa_cons pe_int pa_nil)) (pa_cons (ue_lst (pa_cons pe_int pa_nil)) (pa_cons ue_dK pa_nil)))))))))))))
    (pss_one (ps_for PassesOwn.never rfl (pi_list (pe_op u_add (pe_op u_add (ue_listRg rfl (by rfl) T.b_list (by rfl) T.b_range pe_int) (uv 5)) (ue_listRg rfl (by rfl) T.b_list (by rfl) T.b_range pe_int))) (pg_name (i := 6) sc_law.nd rfl (Or.inr rfl))
      (pss_cons (ps_set (i := 7) sc_law.nd rfl (Or.inl rfl) pe_non)
      (pss_cons (ps_if (PW.pt (pw_and (pt_val (pe_callB u_isi (by rfl) T.b_isinstance (by decide +kernel) (pa_cons (uv 6) (pa_cons (pe_bltn (v := .ty "int") (by rfl) T.b_int (by decide +kernel) rfl) pa_nil)))) (pw_and1 (pt_not (pt_val (pe_callB u_isi (by rfl) T.b_isinstance (by decide +kernel) (pa_cons (uv 6) (pa_cons (pe_bltn (v := .ty "bool") (by rfl) T.b_bool (by decide +kernel) rfl) pa_nil)))))))) (pss_one (ps_for PassesOwn.never rfl (pi_range3 (by rfl) T.b_range (pa_cons (pe_op u_sub (pe_callB u_len (by rfl) T.b_len (by decide +kernel) (pa_cons (pe_ix (u_ix (hu_of hr)) (uv 3) pe_int (fun _ _ => rfl)) pa_nil)) pe_int) (pa_cons (pe_un u_neg pe_int) (pa_cons (pe_un u_neg pe_int) pa_nil)))) (pg_name (i := 8) sc_law.nd rfl (Or.inl rfl))
          (pss_one (ps_set (i := 7) sc_law.nd rfl (Or.inl rfl) (pe_ifExp (pt_cmpR (u_eq hr.units) (pe_ix (u_ix (hu_of hr)) (pe_ix (u_ix (hu_of hr)) (uv 3) pe_int (fun _ _ => rfl)) (uv 8) (fun _ _ => rfl)) (uv 6) (nomark _)) (uv 8) (uv 7)))))) pss_nil)
      (pss_cons (ps_if (PW.pt (pw_and (pt_cmpR u_is (uv 7) pe_non (nomark _)) (pw_and1 (pt_cmpR (u_ne hr.units) (LamX.pe_lamcall (T := Tb Pt) (TT := TTkind A) (k := 5) (by rfl) T.g__law_kind T.F__law_kind.kp lkK hcK bK sc__law_kind rfl (Or.inl rfl) (kind_gives T (hr.mono (by decide))) TB rfl (List.mem_singleton.2 rfl) (fun p hp _ => by rw [List.mem_singleton.1 hp]; rfl) hr (LamX.lamS_by (by show LamX.lamSB (defScope s_law) _ = true; decide +kernel)) rfl (fun _ _ _ _ _ => rfl) (fun _ _ _ _ _ _ _ hr2 => (pe_call (ok_home_of T) (hr2.mono (by decide)) (by rfl) T.g_home_of T.F_home_of.kp T.B_home_of .nil (passes_call (takes_of rfl rfl rfl rfl) (fun _ _ _ _ h => h)) (pa_cons (uv 3) (pa_cons (uv 6) pa_nil))))) pe_str (nomark _))))) (pss_one (ps_ret pe_bl)) pss_nil)
      (pss_one (ps_if (PW.pt (pw_and (pt_cmpR u_isnot (uv 7) pe_non (nomark _)) (pw_and1 (pt_cmpR (u_ne hr.units) (pe_callB u_repr (by rfl) T.b_repr (by decide +kernel) (pa_cons (pe_call (ok_home_of T) (hr.mono (by decide)) (by rfl) T.g_home_of T.F_home_of.kp T.B_home_of .nil passL (pa_cons (uv 3) (pa_cons (uv 6) pa_nil))) pa_nil)) (pe_callB u_repr (by rfl) T.b_repr (by decide +kernel) (pa_cons (uv 7) pa_nil)) (nomark _))))) (pss_one (ps_ret pe_bl)) pss_nil))))))))))))
  (pss_one (ps_ret pe_bl))), ?_⟩
    simp only [tSeq, tIfS, tRet, tRetN, tDrop, tAsg, tNext, tNever, gName, tAndV, tOrV, tNotV, tAnd, tOr, tNot, tB, tTest, tIf, tOp, tUn, tCB, tCall, tCons, tNil, tC, tChain, tSl, tPart, tNoPart, tPar, gSub, uVar, uTupD, uLstD, uDK, uDT, uBM, uBM0, uTup, uNil, uCons, uLe, uGt, uGe, uEq, uNe, uIs, uIsNot, uIn, uNotIn, uAdd, uSub, uMul, uMod, uFdiv, uPow, uNeg, uCmp, uLt, uEqG, uIsG, uInG, uIx, uSl, uLen, lenV, uIsi, isaV_int, isaV_bl, isaV_str, isaV_non, uSet, uDivmod, uAll, uSum, uInt1, uList, uTuple, uTupleF, uAppend, uExtend, uPopAt, uLIndex, uLCount, uRepr, uTIndex, uIsE, tyU, keyV, keysV, isNon, L2.start, List.map_cons, List.map_nil, List.length_cons, List.length_nil, List.replicate, List.cons_append, List.nil_append, List.append_nil, Nat.sub_self, List.getElem?_cons_zero, List.getElem?_cons_succ, List.set_cons_zero, List.set_cons_succ, V.bl.injEq, V.int.injEq, V.ref.injEq, V.str.injEq, List.cons.injEq, Option.some.injEq, exists_eq_left', and_true, true_and, atI_0, atI_1, atI_2, atI_3, atI_4, if_true_eq, if_false_eq, Nat.reduceAdd, Nat.reduceSub, reduceCtorEq, ok_int, ok_bool, ok_str, ok_list, ok_tuple, String.reduceBEq, Bool.or_true, Bool.true_or, Bool.or_false, Bool.false_or, Bool.not_true, Bool.not_false, Int.cast_ofNat_Int, ↓reduceIte, decide_true, decide_false, Bool.false_eq_true, Option.isSome_some, tLc_eq, tFor_eq, iTup, iList, iRng1, iRng2, iRng3, RZ.iZipA, tYes, tTru, uMax2, uMin2, uLstRg]
    refine ⟨a, _, rfl, .inl hS, ?_⟩
    generalize hn : (if (if 3 < ((ns.map V.int).length : Int) then (3 : Int) else ((ns.map V.int).length : Int)) > 1 then if 3 < ((ns.map V.int).length : Int) then (3 : Int) else ((ns.map V.int).length : Int) else 1) = n
    have hn1 : n ≤ 3 := by rw [← hn]; split <;> split <;> omega
    have hn0 : 0 ≤ n := by rw [← hn]; split <;> split <;> omega
    refine ⟨by omega, by omega, ?_⟩
    refine for_pv (walk_range (lo := 0) (n := n.toNat)) (fun i σ H1 => ∃ y1 y2 y3 y4 y5 y6 y7 y8 : Option V, σ = [some (.ref a), y1, y2, y3, y4, y5, y6, y7, y8] ∧ SqL K H1 a (ns.map V.int) ∧ LamX.Tabs (Tb Pt) H1) ⟨_, _, _, _, _, _, _, _, rfl, hS, hT⟩ (fun _ _ _ _ _ => trivial) ?_ (fun σ H1 ⟨y1, y2, y3, y4, y5, y6, y7, y8, _, _, _⟩ => q H1)
    rintro i x σ H0 H1 hi ⟨y1, y2, y3, y4, y5, y6, y7, y8, rfl, hS1, hT1⟩ ⟨rfl, rfl⟩
    simp only [tSeq, tIfS, tRet, tRetN, tDrop, tAsg, tNext, tNever, gName, tAndV, tOrV, tNotV, tAnd, tOr, tNot, tB, tTest, tIf, tOp, tUn, tCB, tCall, tCons, tNil, tC, tChain, tSl, tPart, tNoPart, tPar, gSub, uVar, uTupD, uLstD, uDK, uDT, uBM, uBM0, uTup, uNil, uCons, uLe, uGt, uGe, uEq, uNe, uIs, uIsNot, uIn, uNotIn, uAdd, uSub, uMul, uMod, uFdiv, uPow, uNeg, uCmp, uLt, uEqG, uIsG, uInG, uIx, uSl, uLen, lenV, uIsi, isaV_int, isaV_bl, isaV_str, isaV_non, uSet, uDivmod, uAll, uSum, uInt1, uList, uTuple, uTupleF, uAppend, uExtend, uPopAt, uLIndex, uLCount, uRepr, uTIndex, uIsE, tyU, keyV, keysV, isNon, L2.start, List.map_cons, List.map_nil, List.length_cons, List.length_nil, List.replicate, List.cons_append, List.nil_append, List.append_nil, Nat.sub_self, List.getElem?_cons_zero, List.getElem?_cons_succ, List.set_cons_zero, List.set_cons_succ, V.bl.injEq, V.int.injEq, V.ref.injEq, V.str.injEq, List.cons.injEq, Option.some.injEq, exists_eq_left', and_true, true_and, atI_0, atI_1, atI_2, atI_3, atI_4, if_true_eq, if_false_eq, Nat.reduceAdd, Nat.reduceSub, reduceCtorEq, ok_int, ok_bool, ok_str, ok_list, ok_tuple, String.reduceBEq, Bool.or_true, Bool.true_or, Bool.or_false, Bool.false_or, Bool.not_true, Bool.not_false, Int.cast_ofNat_Int, ↓reduceIte, decide_true, decide_false, Bool.false_eq_true, Option.isSome_some, tLc_eq, tFor_eq, iTup, iList, iRng1, iRng2, iRng3, RZ.iZipA, tYes, tTru, uMax2, uMin2, uLstRg, sp__law_box]
    refine ⟨ns, i, by simp, by omega, hS1, fun b H2 e2 hb hB2 => ?_⟩
    simp only [sp__law_net, sp__law_take]
    refine ⟨hB2, by decide, by decide, fun t H3 ys ws hB3 e3 hN3 hok hle => ?_⟩
    refine ⟨⟨by decide, by decide, by decide⟩, hB3, by decide, by decide, fun d H4 hd0 hd1 hB4 e4 => ⟨by decide, fun p5 H5 e5 h5 => ⟨by decide, fun p6 H6 e6 _ h6 => fun p7 H7 e7 _ h7 => ⟨by decide, fun p8 H8 e8 _ h8 => ⟨RgOk.of_le (by decide) (by decide) (by decide) (by decide), fun p9 H9 e9 _ h9 => ?_⟩⟩⟩⟩⟩
    simp only [h9, e9 _ _ h8]
    refine ⟨by rw [sizeLine_eq, rgV_length]; exact show (17 : Nat) ≤ 16777216 by decide, fun pa Ha ea _ ha => ⟨RgOk.of_le (by decide) (by decide) (by decide) (by decide), fun pb Hb eb _ hb' => ?_⟩⟩
    simp only [hb', eb _ _ ha]
    refine ⟨by rw [sizeLine_eq, List.length_append, rgV_length]; exact show (23 : Nat) ≤ 16777216 by decide, fun pc Hc ec _ hc => ?_⟩
    refine ⟨_, rfl, ⟨_, SqL.of hc⟩, ?_⟩
    have s8c : Same H8 Hc := fun b o h => ec _ _ (eb _ _ (ea _ _ (e9 _ _ h)))
    have s4c : Same H4 Hc := fun b o h => s8c _ _ (e8 _ _ (e7 _ _ (e6 _ _ (e5 _ _ h))))
    have s1c : Same H1 Hc := fun x o h => s4c _ _ (e4 _ _ (ne_of_none h hb) (e3 _ _ (ne_of_none h hb) (e2 _ _ h)))
    have hN4 : NetAt H4 t ys ws := hN3.but hB3 e4
    have hNc := hN4.mono s4c
    have odds : ∀ x ∈ (rgV 0 6 ++ [V.int (-1), V.int 6, V.int (7 + d), V.int (-2 - d), V.bl true, V.bl false, V.non, V.str "0", V.ref p5, V.ref p6, V.ref p7]) ++ rgV 0 6, (∃ k, x = .int k) ∨ OddV Hc x := by
      have h5c : Hc p5 = some (.tup [V.int 0]) := s8c _ _ (e8 _ _ (e7 _ _ (e6 _ _ h5)))
      have h6c : Hc p6 = some (.lst [V.int 0]) := s8c _ _ (e8 _ _ (e7 _ _ h6))
      have h7c : Hc p7 = some (.dK []) := s8c _ _ (e8 _ _ h7)
      have rg : ∀ x ∈ rgV 0 6, ∃ k, x = V.int k := fun x hx => by
        obtain ⟨i, _, rfl⟩ := List.mem_map.1 hx
        exact ⟨_, rfl⟩
      intro x hx
      rcases List.mem_append.1 hx with hx | hx
      rcases List.mem_append.1 hx with hx | hx
      · exact .inl (rg x hx)
      · simp only [List.mem_cons, List.not_mem_nil, or_false] at hx
        rcases hx with rfl | rfl | rfl | rfl | rfl | rfl | rfl | rfl | rfl | rfl | rfl
        · exact .inl ⟨_, rfl⟩
        · exact .inl ⟨_, rfl⟩
        · exact .inl ⟨_, rfl⟩
        · exact .inl ⟨_, rfl⟩
        · exact .inr ⟨.inr ⟨rfl, rfl⟩, fun _ => rfl⟩
        · exact .inr ⟨.inr ⟨rfl, rfl⟩, fun _ => rfl⟩
        · exact .inr ⟨.inl rfl, fun _ => rfl⟩
        · exact .inr ⟨.inl rfl, fun _ => rfl⟩
        · exact .inr ⟨.inl (by rw [isaV_ref, h5c]; rfl), fun _ => rfl⟩
        · exact .inr ⟨.inl (by rw [isaV_ref, h6c]; rfl), fun _ => rfl⟩
        · exact .inr ⟨.inl (by rw [isaV_ref, h7c]; rfl), fun _ => rfl⟩
      · exact .inl (rg x hx)
    generalize hL : (rgV 0 6 ++ [V.int (-1), V.int 6, V.int (7 + d), V.int (-2 - d), V.bl true, V.bl false, V.non, V.str "0", V.ref p5, V.ref p6, V.ref p7]) ++ rgV 0 6 = L at hc odds
    have hTc := hT1.ext s1c
    have hSc : SqL K Hc a (ns.map V.int) := sqL_ext hS1 (.of s1c)
    refine for_pv (walk_list (xs := L)) (fun _ σ Hd => ∃ y6 y7 y8 : Option V, σ = [some (.ref a), some (V.int (0 + ↑i)), some (.ref b), some (.ref t), some (.int d), some (.ref p8), y6, y7, y8] ∧ LamX.ExtN Hc Hd ∧ LamX.Tabs (Tb Pt) Hd) ⟨_, _, _, rfl, .refl _, hTc⟩ (fun _ _ _ _ ⟨_, _, _, _, e, _⟩ => SqL.of (e _ _ hc (by intro _ z; cases z))) ?_ (fun σ Hd ⟨y6, y7, y8, e1, e2, e3⟩ => ⟨_, _, _, _, _, _, _, _, e1, sqL_ext hSc e2, e3⟩)
    rintro j x σ Hd Hd' hj ⟨y6, y7, y8, rfl, eD, hTd⟩ ⟨rfl, hx⟩
    have hNd := hNc.ext eD
    have tells : ∀ (z : V) (σz : L2.St) (D : VK), σz[3]? = some (some (.ref t)) → σz[6]? = some (some z) → (isaV Hd' z "int").isSome = true → markV z ys = false → (∀ H', LamX.ExtN Hd' H' → LamX.Tabs (Tb Pt) H' → D (.str "mark") H') →
        LamX.tLam (Tb Pt) (TTkind A) (fun E => tCall (sp_home_of A.NoMark) [] E (tCons (uVar 3) (tCons (uVar 6) tNil))) σz Hd' D := by
      intro z σz D h3 h6 hi hm hD
      refine ⟨hTd, fun H9 x9 t9 => ?_⟩
      simp only [TTkind, tSeq, tIfS, tRet, tRetN, tDrop, tAsg, tNext, tNever, gName, tAndV, tOrV, tNotV, tAnd, tOr, tNot, tB, tTest, tIf, tOp, tUn, tCB, tCall, tCons, tNil, tC, tChain, tSl, tPart, tNoPart, tPar, gSub, uVar, uTupD, uLstD, uDK, uDT, uBM, uBM0, uTup, uNil, uCons, uLe, uGt, uGe, uEq, uNe, uIs, uIsNot, uIn, uNotIn, uAdd, uSub, uMul, uMod, uFdiv, uPow, uNeg, uCmp, uLt, uEqG, uIsG, uInG, uIx, uSl, uLen, lenV, uIsi, isaV_int, isaV_bl, isaV_str, isaV_non, uSet, uDivmod, uAll, uSum, uInt1, uList, uTuple, uTupleF, uAppend, uExtend, uPopAt, uLIndex, uLCount, uRepr, uTIndex, uIsE, tyU, keyV, keysV, isNon, L2.start, List.map_cons, List.map_nil, List.length_cons, List.length_nil, List.replicate, List.cons_append, List.nil_append, List.append_nil, Nat.sub_self, List.getElem?_cons_zero, List.getElem?_cons_succ, List.set_cons_zero, List.set_cons_succ, V.bl.injEq, V.int.injEq, V.ref.injEq, V.str.injEq, List.cons.injEq, Option.some.injEq, exists_eq_left', and_true, true_and, atI_0, atI_1, atI_2, atI_3, atI_4, if_true_eq, if_false_eq, Nat.reduceAdd, Nat.reduceSub, reduceCtorEq, ok_int, ok_bool, ok_str, ok_list, ok_tuple, String.reduceBEq, Bool.or_true, Bool.true_or, Bool.or_false, Bool.false_or, Bool.not_true, Bool.not_false, Int.cast_ofNat_Int, ↓reduceIte, decide_true, decide_false, Bool.false_eq_true, Option.isSome_some, tLc_eq, tFor_eq, iTup, iList, iRng1, iRng2, iRng3, RZ.iZipA, tYes, tTru, uMax2, uMin2, uLstRg, h3, h6, sp_home_of]
      refine ⟨ys, ws, hNd.ext x9, hok, ?_, fun k hk hk' => ?_, fun _ H' s' H'' s'' => hD _ ?_ ?_⟩
      · cases z with
        | ref p =>
          rw [isaV_ref] at hi ⊢
          cases hp : Hd' p with
          | none => rw [hp] at hi; exact absurd hi Bool.false_ne_true
          | some o =>
            rw [hp] at hi
            rw [x9 _ _ hp (fun ps z => by rw [z] at hi; exact absurd hi Bool.false_ne_true)]
            exact hi
        | _ => exact hi
      · have h1 := hok.y3 k hk'
        rw [hk] at hm
        simp [markV, hk', h1.1, h1.2] at hm
      · exact fun b o h n => s'' _ _ (s' _ _ (x9 b o h n))
      · exact t9.ext fun b o h => s'' _ _ (s' _ _ h)
    rcases odds x (List.mem_of_getElem? hx) with ⟨k, rfl⟩ | ho
    · obtain ⟨ty, tw, as, ht, ⟨oy, hoy, hty⟩, htw, hw⟩ := id hNd
      simp only [tSeq, tIfS, tRet, tRetN, tDrop, tAsg, tNext, tNever, gName, tAndV, tOrV, tNotV, tAnd, tOr, tNot, tB, tTest, tIf, tOp, tUn, tCB, tCall, tCons, tNil, tC, tChain, tSl, tPart, tNoPart, tPar, gSub, uVar, uTupD, uLstD, uDK, uDT, uBM, uBM0, uTup, uNil, uCons, uLe, uGt, uGe, uEq, uNe, uIs, uIsNot, uIn, uNotIn, uAdd, uSub, uMul, uMod, uFdiv, uPow, uNeg, uCmp, uLt, uEqG, uIsG, uInG, uIx, uSl, uLen, lenV, uIsi, isaV_int, isaV_bl, isaV_str, isaV_non, uSet, uDivmod, uAll, uSum, uInt1, uList, uTuple, uTupleF, uAppend, uExtend, uPopAt, uLIndex, uLCount, uRepr, uTIndex, uIsE, tyU, keyV, keysV, isNon, L2.start, List.map_cons, List.map_nil, List.length_cons, List.length_nil, List.replicate, List.cons_append, List.nil_append, List.append_nil, Nat.sub_self, List.getElem?_cons_zero, List.getElem?_cons_succ, List.set_cons_zero, List.set_cons_succ, V.bl.injEq, V.int.injEq, V.ref.injEq, V.str.injEq, List.cons.injEq, Option.some.injEq, exists_eq_left', and_true, true_and, atI_0, atI_1, atI_2, atI_3, atI_4, if_true_eq, if_false_eq, Nat.reduceAdd, Nat.reduceSub, reduceCtorEq, ok_int, ok_bool, ok_str, ok_list, ok_tuple, String.reduceBEq, Bool.or_true, Bool.true_or, Bool.or_false, Bool.false_or, Bool.not_true, Bool.not_false, Int.cast_ofNat_Int, ↓reduceIte, decide_true, decide_false, Bool.false_eq_true, Option.isSome_some, tLc_eq, tFor_eq, iTup, iList, iRng1, iRng2, iRng3, RZ.iZipA, tYes, tTru, uMax2, uMin2, uLstRg, ht, hty, List.length_map]
      have hy1 := hok.y1
      refine ⟨_, _, _, ys.length, ⟨rfl, rfl, rfl⟩, ?_, ?_⟩
      · have := RgC.neg (i := (ys.length : Int) - 1) (j := -1) (by omega) (by omega) (by omega) (by omega)
        rwa [show ((ys.length : Int) - 1 - -1).toNat = ys.length by omega] at this
      refine for_pv (walk_rangeC (n := ys.length)) (fun m σ Hz => Hz = Hd' ∧ ∃ (v : V) (y8 : Option V), DueV ys k (ys.length - m) v ∧ σ = [some (.ref a), some (V.int (0 + ↑i)), some (.ref b), some (.ref t), some (.int d), some (.ref p8), some (.int k), some v, y8]) ⟨rfl, _, _, DueV.top, rfl⟩ (fun _ _ _ _ _ => trivial) ?_ ?_
      · rintro m x σ Hz Hz' hm ⟨rfl, v, y8, hv, rfl⟩ ⟨rfl, rfl⟩
        obtain ⟨m', hm'⟩ : ∃ m' : Nat, ys.length - m = m' + 1 := ⟨ys.length - m - 1, by omega⟩
        have hl : m' < ys.length := by omega
        have e1 : (ys.length : Int) - 1 + (m : Nat) * -1 = (m' : Nat) := by omega
        simp only [tSeq, tIfS, tRet, tRetN, tDrop, tAsg, tNext, tNever, gName, tAndV, tOrV, tNotV, tAnd, tOr, tNot, tB, tTest, tIf, tOp, tUn, tCB, tCall, tCons, tNil, tC, tChain, tSl, tPart, tNoPart, tPar, gSub, uVar, uTupD, uLstD, uDK, uDT, uBM, uBM0, uTup, uNil, uCons, uLe, uGt, uGe, uEq, uNe, uIs, uIsNot, uIn, uNotIn, uAdd, uSub, uMul, uMod, uFdiv, uPow, uNeg, uCmp, uLt, uEqG, uIsG, uInG, uIx, uSl, uLen, lenV, uIsi, isaV_int, isaV_bl, isaV_str, isaV_non, uSet, uDivmod, uAll, uSum, uInt1, uList, uTuple, uTupleF, uAppend, uExtend, uPopAt, uLIndex, uLCount, uRepr, uTIndex, uIsE, tyU, keyV, keysV, isNon, L2.start, List.map_cons, List.map_nil, List.length_cons, List.length_nil, List.replicate, List.cons_append, List.nil_append, List.append_nil, Nat.sub_self, List.getElem?_cons_zero, List.getElem?_cons_succ, List.set_cons_zero, List.set_cons_succ, V.bl.injEq, V.int.injEq, V.ref.injEq, V.str.injEq, List.cons.injEq, Option.some.injEq, exists_eq_left', and_true, true_and, atI_0, atI_1, atI_2, atI_3, atI_4, if_true_eq, if_false_eq, Nat.reduceAdd, Nat.reduceSub, reduceCtorEq, ok_int, ok_bool, ok_str, ok_list, ok_tuple, String.reduceBEq, Bool.or_true, Bool.true_or, Bool.or_false, Bool.false_or, Bool.not_true, Bool.not_false, Int.cast_ofNat_Int, ↓reduceIte, decide_true, decide_false, Bool.false_eq_true, Option.isSome_some, tLc_eq, tFor_eq, iTup, iList, iRng1, iRng2, iRng3, RZ.iZipA, tYes, tTru, uMax2, uMin2, uLstRg, ht, hty, e1]
        refine ⟨.int ys[m'], atI_nat (by simp [hl]), ?_⟩
        simp only [tSeq, tIfS, tRet, tRetN, tDrop, tAsg, tNext, tNever, gName, tAndV, tOrV, tNotV, tAnd, tOr, tNot, tB, tTest, tIf, tOp, tUn, tCB, tCall, tCons, tNil, tC, tChain, tSl, tPart, tNoPart, tPar, gSub, uVar, uTupD, uLstD, uDK, uDT, uBM, uBM0, uTup, uNil, uCons, uLe, uGt, uGe, uEq, uNe, uIs, uIsNot, uIn, uNotIn, uAdd, uSub, uMul, uMod, uFdiv, uPow, uNeg, uCmp, uLt, uEqG, uIsG, uInG, uIx, uSl, uLen, lenV, uIsi, isaV_int, isaV_bl, isaV_str, isaV_non, uSet, uDivmod, uAll, uSum, uInt1, uList, uTuple, uTupleF, uAppend, uExtend, uPopAt, uLIndex, uLCount, uRepr, uTIndex, uIsE, tyU, keyV, keysV, isNon, L2.start, List.map_cons, List.map_nil, List.length_cons, List.length_nil, List.replicate, List.cons_append, List.nil_append, List.append_nil, Nat.sub_self, List.getElem?_cons_zero, List.getElem?_cons_succ, List.set_cons_zero, List.set_cons_succ, V.bl.injEq, V.int.injEq, V.ref.injEq, V.str.injEq, List.cons.injEq, Option.some.injEq, exists_eq_left', and_true, true_and, atI_0, atI_1, atI_2, atI_3, atI_4, if_true_eq, if_false_eq, Nat.reduceAdd, Nat.reduceSub, reduceCtorEq, ok_int, ok_bool, ok_str, ok_list, ok_tuple, String.reduceBEq, Bool.or_true, Bool.true_or, Bool.or_false, Bool.false_or, Bool.not_true, Bool.not_false, Int.cast_ofNat_Int, ↓reduceIte, decide_true, decide_false, Bool.false_eq_true, Option.isSome_some, tLc_eq, tFor_eq, iTup, iList, iRng1, iRng2, iRng3, RZ.iZipA, tYes, tTru, uMax2, uMin2, uLstRg]
        rw [hm'] at hv
        rw [show ys.length - (m + 1) = m' by omega]
        by_cases hk : ys[m'] = k
        · rw [if_pos (by simp [hk])]
          exact ⟨_, _, DueV.here (by simp [hl, hk]), rfl, rfl⟩
        · rw [if_neg (by simp [hk])]
          exact ⟨_, _, hv.down (by simp [hl, hk]), rfl, rfl⟩
      · rintro σ Hz ⟨rfl, v, y8, hv, rfl⟩
        rw [Nat.sub_self] at hv
        rcases hv.kinds with rfl | ⟨j, rfl⟩
        · simp only [tSeq, tIfS, tRet, tRetN, tDrop, tAsg, tNext, tNever, gName, tAndV, tOrV, tNotV, tAnd, tOr, tNot, tB, tTest, tIf, tOp, tUn, tCB, tCall, tCons, tNil, tC, tChain, tSl, tPart, tNoPart, tPar, gSub, uVar, uTupD, uLstD, uDK, uDT, uBM, uBM0, uTup, uNil, uCons, uLe, uGt, uGe, uEq, uNe, uIs, uIsNot, uIn, uNotIn, uAdd, uSub, uMul, uMod, uFdiv, uPow, uNeg, uCmp, uLt, uEqG, uIsG, uInG, uIx, uSl, uLen, lenV, uIsi, isaV_int, isaV_bl, isaV_str, isaV_non, uSet, uDivmod, uAll, uSum, uInt1, uList, uTuple, uTupleF, uAppend, uExtend, uPopAt, uLIndex, uLCount, uRepr, uTIndex, uIsE, tyU, keyV, keysV, isNon, L2.start, List.map_cons, List.map_nil, List.length_cons, List.length_nil, List.replicate, List.cons_append, List.nil_append, List.append_nil, Nat.sub_self, List.getElem?_cons_zero, List.getElem?_cons_succ, List.set_cons_zero, List.set_cons_succ, V.bl.injEq, V.int.injEq, V.ref.injEq, V.str.injEq, List.cons.injEq, Option.some.injEq, exists_eq_left', and_true, true_and, atI_0, atI_1, atI_2, atI_3, atI_4, if_true_eq, if_false_eq, Nat.reduceAdd, Nat.reduceSub, reduceCtorEq, ok_int, ok_bool, ok_str, ok_list, ok_tuple, String.reduceBEq, Bool.or_true, Bool.true_or, Bool.or_false, Bool.false_or, Bool.not_true, Bool.not_false, Int.cast_ofNat_Int, ↓reduceIte, decide_true, decide_false, Bool.false_eq_true, Option.isSome_some, tLc_eq, tFor_eq, iTup, iList, iRng1, iRng2, iRng3, RZ.iZipA, tYes, tTru, uMax2, uMin2, uLstRg]
          refine tells (.int k) _ _ rfl rfl rfl hv.none fun H' x t => ?_
          simp only [tSeq, tIfS, tRet, tRetN, tDrop, tAsg, tNext, tNever, gName, tAndV, tOrV, tNotV, tAnd, tOr, tNot, tB, tTest, tIf, tOp, tUn, tCB, tCall, tCons, tNil, tC, tChain, tSl, tPart, tNoPart, tPar, gSub, uVar, uTupD, uLstD, uDK, uDT, uBM, uBM0, uTup, uNil, uCons, uLe, uGt, uGe, uEq, uNe, uIs, uIsNot, uIn, uNotIn, uAdd, uSub, uMul, uMod, uFdiv, uPow, uNeg, uCmp, uLt, uEqG, uIsG, uInG, uIx, uSl, uLen, lenV, uIsi, isaV_int, isaV_bl, isaV_str, isaV_non, uSet, uDivmod, uAll, uSum, uInt1, uList, uTuple, uTupleF, uAppend, uExtend, uPopAt, uLIndex, uLCount, uRepr, uTIndex, uIsE, tyU, keyV, keysV, isNon, L2.start, List.map_cons, List.map_nil, List.length_cons, List.length_nil, List.replicate, List.cons_append, List.nil_append, List.append_nil, Nat.sub_self, List.getElem?_cons_zero, List.getElem?_cons_succ, List.set_cons_zero, List.set_cons_succ, V.bl.injEq, V.int.injEq, V.ref.injEq, V.str.injEq, List.cons.injEq, Option.some.injEq, exists_eq_left', and_true, true_and, atI_0, atI_1, atI_2, atI_3, atI_4, if_true_eq, if_false_eq, Nat.reduceAdd, Nat.reduceSub, reduceCtorEq, ok_int, ok_bool, ok_str, ok_list, ok_tuple, String.reduceBEq, Bool.or_true, Bool.true_or, Bool.or_false, Bool.false_or, Bool.not_true, Bool.not_false, Int.cast_ofNat_Int, ↓reduceIte, decide_true, decide_false, Bool.false_eq_true, Option.isSome_some, tLc_eq, tFor_eq, iTup, iList, iRng1, iRng2, iRng3, RZ.iZipA, tYes, tTru, uMax2, uMin2, uLstRg]
          exact ⟨_, _, _, ⟨rfl, rfl, rfl⟩, eD.trans x, t⟩
        · obtain ⟨hk, hi⟩ := hv.idx
          simp only [tSeq, tIfS, tRet, tRetN, tDrop, tAsg, tNext, tNever, gName, tAndV, tOrV, tNotV, tAnd, tOr, tNot, tB, tTest, tIf, tOp, tUn, tCB, tCall, tCons, tNil, tC, tChain, tSl, tPart, tNoPart, tPar, gSub, uVar, uTupD, uLstD, uDK, uDT, uBM, uBM0, uTup, uNil, uCons, uLe, uGt, uGe, uEq, uNe, uIs, uIsNot, uIn, uNotIn, uAdd, uSub, uMul, uMod, uFdiv, uPow, uNeg, uCmp, uLt, uEqG, uIsG, uInG, uIx, uSl, uLen, lenV, uIsi, isaV_int, isaV_bl, isaV_str, isaV_non, uSet, uDivmod, uAll, uSum, uInt1, uList, uTuple, uTupleF, uAppend, uExtend, uPopAt, uLIndex, uLCount, uRepr, uTIndex, uIsE, tyU, keyV, keysV, isNon, L2.start, List.map_cons, List.map_nil, List.length_cons, List.length_nil, List.replicate, List.cons_append, List.nil_append, List.append_nil, Nat.sub_self, List.getElem?_cons_zero, List.getElem?_cons_succ, List.set_cons_zero, List.set_cons_succ, V.bl.injEq, V.int.injEq, V.ref.injEq, V.str.injEq, List.cons.injEq, Option.some.injEq, exists_eq_left', and_true, true_and, atI_0, atI_1, atI_2, atI_3, atI_4, if_true_eq, if_false_eq, Nat.reduceAdd, Nat.reduceSub, reduceCtorEq, ok_int, ok_bool, ok_str, ok_list, ok_tuple, String.reduceBEq, Bool.or_true, Bool.true_or, Bool.or_false, Bool.false_or, Bool.not_true, Bool.not_false, Int.cast_ofNat_Int, ↓reduceIte, decide_true, decide_false, Bool.false_eq_true, Option.isSome_some, tLc_eq, tFor_eq, iTup, iList, iRng1, iRng2, iRng3, RZ.iZipA, tYes, tTru, uMax2, uMin2, uLstRg]
          have hj : j < ys.length := by rw [← hi]; exact List.idxOf_lt_length_iff.2 hk
          have hy2 := hok.y2
          have hbig : ((j : Nat) : Int).natAbs < 2 ^ 1900 := Nat.lt_of_lt_of_le (show ((j : Nat) : Int).natAbs < 2 ^ 10 by omega) (Nat.pow_le_pow_right (by decide) (by decide))
          refine ⟨ys, ws, hNd, hok, rfl, fun k' e hk' H' s' => ?_, fun hm => ?_⟩
          · injection e with e
            subst e
            rw [hi]
            simp only [tSeq, tIfS, tRet, tRetN, tDrop, tAsg, tNext, tNever, gName, tAndV, tOrV, tNotV, tAnd, tOr, tNot, tB, tTest, tIf, tOp, tUn, tCB, tCall, tCons, tNil, tC, tChain, tSl, tPart, tNoPart, tPar, gSub, uVar, uTupD, uLstD, uDK, uDT, uBM, uBM0, uTup, uNil, uCons, uLe, uGt, uGe, uEq, uNe, uIs, uIsNot, uIn, uNotIn, uAdd, uSub, uMul, uMod, uFdiv, uPow, uNeg, uCmp, uLt, uEqG, uIsG, uInG, uIx, uSl, uLen, lenV, uIsi, isaV_int, isaV_bl, isaV_str, isaV_non, uSet, uDivmod, uAll, uSum, uInt1, uList, uTuple, uTupleF, uAppend, uExtend, uPopAt, uLIndex, uLCount, uRepr, uTIndex, uIsE, tyU, keyV, keysV, isNon, L2.start, List.map_cons, List.map_nil, List.length_cons, List.length_nil, List.replicate, List.cons_append, List.nil_append, List.append_nil, Nat.sub_self, List.getElem?_cons_zero, List.getElem?_cons_succ, List.set_cons_zero, List.set_cons_succ, V.bl.injEq, V.int.injEq, V.ref.injEq, V.str.injEq, List.cons.injEq, Option.some.injEq, exists_eq_left', and_true, true_and, atI_0, atI_1, atI_2, atI_3, atI_4, if_true_eq, if_false_eq, Nat.reduceAdd, Nat.reduceSub, reduceCtorEq, ok_int, ok_bool, ok_str, ok_list, ok_tuple, String.reduceBEq, Bool.or_true, Bool.true_or, Bool.or_false, Bool.false_or, Bool.not_true, Bool.not_false, Int.cast_ofNat_Int, ↓reduceIte, decide_true, decide_false, Bool.false_eq_true, Option.isSome_some, tLc_eq, tFor_eq, iTup, iList, iRng1, iRng2, iRng3, RZ.iZipA, tYes, tTru, uMax2, uMin2, uLstRg]
            exact ⟨hbig, hbig, _, _, _, ⟨rfl, rfl, rfl⟩, fun b o h n => s' _ _ (eD b o h n), hTd.ext s'⟩
          · have h1 := hok.y3 k hk
            simp [markV, hk, h1.1, h1.2] at hm
    · have ho' := ho.ext eD
      have hs := ho'.some
      rcases ho'.1 with h1 | ⟨h1, h2⟩
      · simp only [tSeq, tIfS, tRet, tRetN, tDrop, tAsg, tNext, tNever, gName, tAndV, tOrV, tNotV, tAnd, tOr, tNot, tB, tTest, tIf, tOp, tUn, tCB, tCall, tCons, tNil, tC, tChain, tSl, tPart, tNoPart, tPar, gSub, uVar, uTupD, uLstD, uDK, uDT, uBM, uBM0, uTup, uNil, uCons, uLe, uGt, uGe, uEq, uNe, uIs, uIsNot, uIn, uNotIn, uAdd, uSub, uMul, uMod, uFdiv, uPow, uNeg, uCmp, uLt, uEqG, uIsG, uInG, uIx, uSl, uLen, lenV, uIsi, isaV_int, isaV_bl, isaV_str, isaV_non, uSet, uDivmod, uAll, uSum, uInt1, uList, uTuple, uTupleF, uAppend, uExtend, uPopAt, uLIndex, uLCount, uRepr, uTIndex, uIsE, tyU, keyV, keysV, isNon, L2.start, List.map_cons, List.map_nil, List.length_cons, List.length_nil, List.replicate, List.cons_append, List.nil_append, List.append_nil, Nat.sub_self, List.getElem?_cons_zero, List.getElem?_cons_succ, List.set_cons_zero, List.set_cons_succ, V.bl.injEq, V.int.injEq, V.ref.injEq, V.str.injEq, List.cons.injEq, Option.some.injEq, exists_eq_left', and_true, true_and, atI_0, atI_1, atI_2, atI_3, atI_4, if_true_eq, if_false_eq, Nat.reduceAdd, Nat.reduceSub, reduceCtorEq, ok_int, ok_bool, ok_str, ok_list, ok_tuple, String.reduceBEq, Bool.or_true, Bool.true_or, Bool.or_false, Bool.false_or, Bool.not_true, Bool.not_false, Int.cast_ofNat_Int, ↓reduceIte, decide_true, decide_false, Bool.false_eq_true, Option.isSome_some, tLc_eq, tFor_eq, iTup, iList, iRng1, iRng2, iRng3, RZ.iZipA, tYes, tTru, uMax2, uMin2, uLstRg, h1]
        refine tells x _ _ rfl rfl hs (ho'.2 _) fun H' x t => ?_
        simp only [tSeq, tIfS, tRet, tRetN, tDrop, tAsg, tNext, tNever, gName, tAndV, tOrV, tNotV, tAnd, tOr, tNot, tB, tTest, tIf, tOp, tUn, tCB, tCall, tCons, tNil, tC, tChain, tSl, tPart, tNoPart, tPar, gSub, uVar, uTupD, uLstD, uDK, uDT, uBM, uBM0, uTup, uNil, uCons, uLe, uGt, uGe, uEq, uNe, uIs, uIsNot, uIn, uNotIn, uAdd, uSub, uMul, uMod, uFdiv, uPow, uNeg, uCmp, uLt, uEqG, uIsG, uInG, uIx, uSl, uLen, lenV, uIsi, isaV_int, isaV_bl, isaV_str, isaV_non, uSet, uDivmod, uAll, uSum, uInt1, uList, uTuple, uTupleF, uAppend, uExtend, uPopAt, uLIndex, uLCount, uRepr, uTIndex, uIsE, tyU, keyV, keysV, isNon, L2.start, List.map_cons, List.map_nil, List.length_cons, List.length_nil, List.replicate, List.cons_append, List.nil_append, List.append_nil, Nat.sub_self, List.getElem?_cons_zero, List.getElem?_cons_succ, List.set_cons_zero, List.set_cons_succ, V.bl.injEq, V.int.injEq, V.ref.injEq, V.str.injEq, List.cons.injEq, Option.some.injEq, exists_eq_left', and_true, true_and, atI_0, atI_1, atI_2, atI_3, atI_4, if_true_eq, if_false_eq, Nat.reduceAdd, Nat.reduceSub, reduceCtorEq, ok_int, ok_bool, ok_str, ok_list, ok_tuple, String.reduceBEq, Bool.or_true, Bool.true_or, Bool.or_false, Bool.false_or, Bool.not_true, Bool.not_false, Int.cast_ofNat_Int, ↓reduceIte, decide_true, decide_false, Bool.false_eq_true, Option.isSome_some, tLc_eq, tFor_eq, iTup, iList, iRng1, iRng2, iRng3, RZ.iZipA, tYes, tTru, uMax2, uMin2, uLstRg]
        exact ⟨_, _, _, ⟨rfl, rfl, rfl⟩, eD.trans x, t⟩
      · simp only [tSeq, tIfS, tRet, tRetN, tDrop, tAsg, tNext, tNever, gName, tAndV, tOrV, tNotV, tAnd, tOr, tNot, tB, tTest, tIf, tOp, tUn, tCB, tCall, tCons, tNil, tC, tChain, tSl, tPart, tNoPart, tPar, gSub, uVar, uTupD, uLstD, uDK, uDT, uBM, uBM0, uTup, uNil, uCons, uLe, uGt, uGe, uEq, uNe, uIs, uIsNot, uIn, uNotIn, uAdd, uSub, uMul, uMod, uFdiv, uPow, uNeg, uCmp, uLt, uEqG, uIsG, uInG, uIx, uSl, uLen, lenV, uIsi, isaV_int, isaV_bl, isaV_str, isaV_non, uSet, uDivmod, uAll, uSum, uInt1, uList, uTuple, uTupleF, uAppend, uExtend, uPopAt, uLIndex, uLCount, uRepr, uTIndex, uIsE, tyU, keyV, keysV, isNon, L2.start, List.map_cons, List.map_nil, List.length_cons, List.length_nil, List.replicate, List.cons_append, List.nil_append, List.append_nil, Nat.sub_self, List.getElem?_cons_zero, List.getElem?_cons_succ, List.set_cons_zero, List.set_cons_succ, V.bl.injEq, V.int.injEq, V.ref.injEq, V.str.injEq, List.cons.injEq, Option.some.injEq, exists_eq_left', and_true, true_and, atI_0, atI_1, atI_2, atI_3, atI_4, if_true_eq, if_false_eq, Nat.reduceAdd, Nat.reduceSub, reduceCtorEq, ok_int, ok_bool, ok_str, ok_list, ok_tuple, String.reduceBEq, Bool.or_true, Bool.true_or, Bool.or_false, Bool.false_or, Bool.not_true, Bool.not_false, Int.cast_ofNat_Int, ↓reduceIte, decide_true, decide_false, Bool.false_eq_true, Option.isSome_some, tLc_eq, tFor_eq, iTup, iList, iRng1, iRng2, iRng3, RZ.iZipA, tYes, tTru, uMax2, uMin2, uLstRg, h1, h2]
        refine tells x _ _ rfl rfl hs (ho'.2 _) fun H' x t => ?_
        simp only [tSeq, tIfS, tRet, tRetN, tDrop, tAsg, tNext, tNever, gName, tAndV, tOrV, tNotV, tAnd, tOr, tNot, tB, tTest, tIf, tOp, tUn, tCB, tCall, tCons, tNil, tC, tChain, tSl, tPart, tNoPart, tPar, gSub, uVar, uTupD, uLstD, uDK, uDT, uBM, uBM0, uTup, uNil, uCons, uLe, uGt, uGe, uEq, uNe, uIs, uIsNot, uIn, uNotIn, uAdd, uSub, uMul, uMod, uFdiv, uPow, uNeg, uCmp, uLt, uEqG, uIsG, uInG, uIx, uSl, uLen, lenV, uIsi, isaV_int, isaV_bl, isaV_str, isaV_non, uSet, uDivmod, uAll, uSum, uInt1, uList, uTuple, uTupleF, uAppend, uExtend, uPopAt, uLIndex, uLCount, uRepr, uTIndex, uIsE, tyU, keyV, keysV, isNon, L2.start, List.map_cons, List.map_nil, List.length_cons, List.length_nil, List.replicate, List.cons_append, List.nil_append, List.append_nil, Nat.sub_self, List.getElem?_cons_zero, List.getElem?_cons_succ, List.set_cons_zero, List.set_cons_succ, V.bl.injEq, V.int.injEq, V.ref.injEq, V.str.injEq, List.cons.injEq, Option.some.injEq, exists_eq_left', and_true, true_and, atI_0, atI_1, atI_2, atI_3, atI_4, if_true_eq, if_false_eq, Nat.reduceAdd, Nat.reduceSub, reduceCtorEq, ok_int, ok_bool, ok_str, ok_list, ok_tuple, String.reduceBEq, Bool.or_true, Bool.true_or, Bool.or_false, Bool.false_or, Bool.not_true, Bool.not_false, Int.cast_ofNat_Int, ↓reduceIte, decide_true, decide_false, Bool.false_eq_true, Option.isSome_some, tLc_eq, tFor_eq, iTup, iList, iRng1, iRng2, iRng3, RZ.iZipA, tYes, tTru, uMax2, uMin2, uLstRg]
        exact ⟨_, _, _, ⟨rfl, rfl, rfl⟩, eD.trans x, t⟩

end Cv
end
section
namespace Cv
open PySem L2
variable {P : Program} {w : World} {K : PySem.W.Frag} {mg : Str → Option Value} {base : Heap} {A : Ad}
/-! ### what the top has left -/
theorem all_mk {h : Heap} {fa : Addr} {f_is_whole : Addr} {od_is_whole an_is_whole : Option Addr} {sl_is_whole : Array (Option Value)} {oc_is_whole kV_is_whole dc_is_whole pm_is_whole ct_is_whole : Value} {cd_is_whole : Value}
    {f_is_rising : Addr} {od_is_rising an_is_rising : Option Addr} {sl_is_rising : Array (Option Value)} {oc_is_rising kV_is_rising dc_is_rising pm_is_rising ct_is_rising : Value} {cd_is_rising : Value}
    {f_is_way : Addr} {od_is_way an_is_way : Option Addr} {sl_is_way : Array (Option Value)} {oc_is_way kV_is_way dc_is_way pm_is_way ct_is_way : Value} {cd_is_way : Value}
    {f_are_joined : Addr} {od_are_joined an_are_joined : Option Addr} {sl_are_joined : Array (Option Value)} {oc_are_joined kV_are_joined dc_are_joined pm_are_joined ct_are_joined : Value} {cd_are_joined : Value}
    {f_is_net : Addr} {od_is_net an_is_net : Option Addr} {sl_is_net : Array (Option Value)} {oc_is_net kV_is_net dc_is_net pm_is_net ct_is_net : Value} {cd_is_net : Value}
    {f_need_net : Addr} {od_need_net an_need_net : Option Addr} {sl_need_net : Array (Option Value)} {oc_need_net kV_need_net dc_need_net pm_need_net ct_need_net : Value} {cd_need_net : Value}
    {f_is_mark : Addr} {od_is_mark an_is_mark : Option Addr} {sl_is_mark : Array (Option Value)} {oc_is_mark kV_is_mark dc_is_mark pm_is_mark ct_is_mark : Value} {cd_is_mark : Value}
    {f_need_mark : Addr} {od_need_mark an_need_mark : Option Addr} {sl_need_mark : Array (Option Value)} {oc_need_mark kV_need_mark dc_need_mark pm_need_mark ct_need_mark : Value} {cd_need_mark : Value}
    {f_home_in : Addr} {od_home_in an_home_in : Option Addr} {sl_home_in : Array (Option Value)} {oc_home_in kV_home_in dc_home_in pm_home_in ct_home_in : Value} {cd_home_in : Value}
    {f_home_of : Addr} {od_home_of an_home_of : Option Addr} {sl_home_of : Array (Option Value)} {oc_home_of kV_home_of dc_home_of pm_home_of ct_home_of : Value} {cd_home_of : Value}
    {f__law_box : Addr} {od__law_box an__law_box : Option Addr} {sl__law_box : Array (Option Value)} {oc__law_box kV__law_box dc__law_box pm__law_box ct__law_box : Value} {cd__law_box : Value}
    {f__law_more : Addr} {od__law_more an__law_more : Option Addr} {sl__law_more : Array (Option Value)} {oc__law_more kV__law_more dc__law_more pm__law_more ct__law_more : Value} {cd__law_more : Value}
    {f__law_take : Addr} {od__law_take an__law_take : Option Addr} {sl__law_take : Array (Option Value)} {oc__law_take kV__law_take dc__law_take pm__law_take ct__law_take : Value} {cd__law_take : Value}
    {f__law_kind : Addr} {od__law_kind an__law_kind : Option Addr} {sl__law_kind : Array (Option Value)} {oc__law_kind kV__law_kind dc__law_kind pm__law_kind ct__law_kind : Value} {cd__law_kind : Value}
    {f__law_net : Addr} {od__law_net an__law_net : Option Addr} {sl__law_net : Array (Option Value)} {oc__law_net kV__law_net dc__law_net pm__law_net ct__law_net : Value} {cd__law_net : Value}
    {f_law : Addr} {od_law an_law : Option Addr} {sl_law : Array (Option Value)} {oc_law kV_law dc_law pm_law ct_law : Value} {cc : Addr}
    {t_LAST_LINE : Tok}
    {t_MOST_YARDS : Tok}
    {t_MOST_WAYS : Tok}
    {t_MOST_MILES : Tok}
    {f_CoverError : Addr}
    {f_NoNet : Addr}
    {f_NoYard : Addr}
    {f_NoMark : Addr}
    {f_NoPage : Addr}
    {f_NoCover : Addr}
    {f_NoDay : Addr}
    {f_NoTariff : Addr}
    {f_NoBalance : Addr}
    {f_NoStray : Addr}
    {f_NoTrip : Addr}
    {f_NoPrice : Addr}
    {f_NoLine : Addr}
    {f_Gone : Addr}
    {f_Nothing : Addr}
    {f_Clash : Addr}
    {f_NoText : Addr}
    {f_TooMany : Addr}
    (X : K.In h) (G : h.Ns mainGlobals mg) (hfa : mg "law" = some (.ref fa))
    (a_is_whole : PySem.W.nsIn K mainGlobals "is_whole" = some (some (.ref f_is_whole)))
    (l_is_whole : K.lookup f_is_whole = some ⟨oc_is_whole, od_is_whole, .func (PySem.W.fnOf "is_whole" "is_whole" (defArgs s_is_whole) (defBody s_is_whole) (defScope s_is_whole) .none kV_is_whole dc_is_whole pm_is_whole an_is_whole cd_is_whole ct_is_whole), sl_is_whole⟩)
    (c_is_whole : PySem.W.codeIn K cd_is_whole "is_whole" = true)
    (k_is_whole : PySem.W.keepIn K (.ref f_is_whole) = true)
    (a_is_rising : PySem.W.nsIn K mainGlobals "is_rising" = some (some (.ref f_is_rising)))
    (l_is_rising : K.lookup f_is_rising = some ⟨oc_is_rising, od_is_rising, .func (PySem.W.fnOf "is_rising" "is_rising" (defArgs s_is_rising) (defBody s_is_rising) (defScope s_is_rising) .none kV_is_rising dc_is_rising pm_is_rising an_is_rising cd_is_rising ct_is_rising), sl_is_rising⟩)
    (c_is_rising : PySem.W.codeIn K cd_is_rising "is_rising" = true)
    (k_is_rising : PySem.W.keepIn K (.ref f_is_rising) = true)
    (a_is_way : PySem.W.nsIn K mainGlobals "is_way" = some (some (.ref f_is_way)))
    (l_is_way : K.lookup f_is_way = some ⟨oc_is_way, od_is_way, .func (PySem.W.fnOf "is_way" "is_way" (defArgs s_is_way) (defBody s_is_way) (defScope s_is_way) .none kV_is_way dc_is_way pm_is_way an_is_way cd_is_way ct_is_way), sl_is_way⟩)
    (c_is_way : PySem.W.codeIn K cd_is_way "is_way" = true)
    (k_is_way : PySem.W.keepIn K (.ref f_is_way) = true)
    (a_are_joined : PySem.W.nsIn K mainGlobals "are_joined" = some (some (.ref f_are_joined)))
    (l_are_joined : K.lookup f_are_joined = some ⟨oc_are_joined, od_are_joined, .func (PySem.W.fnOf "are_joined" "are_joined" (defArgs s_are_joined) (defBody s_are_joined) (defScope s_are_joined) .none kV_are_joined dc_are_joined pm_are_joined an_are_joined cd_are_joined ct_are_joined), sl_are_joined⟩)
    (c_are_joined : PySem.W.codeIn K cd_are_joined "are_joined" = true)
    (k_are_joined : PySem.W.keepIn K (.ref f_are_joined) = true)
    (a_is_net : PySem.W.nsIn K mainGlobals "is_net" = some (some (.ref f_is_net)))
    (l_is_net : K.lookup f_is_net = some ⟨oc_is_net, od_is_net, .func (PySem.W.fnOf "is_net" "is_net" (defArgs s_is_net) (defBody s_is_net) (defScope s_is_net) .none kV_is_net dc_is_net pm_is_net an_is_net cd_is_net ct_is_net), sl_is_net⟩)
    (c_is_net : PySem.W.codeIn K cd_is_net "is_net" = true)
    (k_is_net : PySem.W.keepIn K (.ref f_is_net) = true)
    (a_need_net : PySem.W.nsIn K mainGlobals "need_net" = some (some (.ref f_need_net)))
    (l_need_net : K.lookup f_need_net = some ⟨oc_need_net, od_need_net, .func (PySem.W.fnOf "need_net" "need_net" (defArgs s_need_net) (defBody s_need_net) (defScope s_need_net) .none kV_need_net dc_need_net pm_need_net an_need_net cd_need_net ct_need_net), sl_need_net⟩)
    (c_need_net : PySem.W.codeIn K cd_need_net "need_net" = true)
    (k_need_net : PySem.W.keepIn K (.ref f_need_net) = true)
    (a_is_mark : PySem.W.nsIn K mainGlobals "is_mark" = some (some (.ref f_is_mark)))
    (l_is_mark : K.lookup f_is_mark = some ⟨oc_is_mark, od_is_mark, .func (PySem.W.fnOf "is_mark" "is_mark" (defArgs s_is_mark) (defBody s_is_mark) (defScope s_is_mark) .none kV_is_mark dc_is_mark pm_is_mark an_is_mark cd_is_mark ct_is_mark), sl_is_mark⟩)
    (c_is_mark : PySem.W.codeIn K cd_is_mark "is_mark" = true)
    (k_is_mark : PySem.W.keepIn K (.ref f_is_mark) = true)
    (a_need_mark : PySem.W.nsIn K mainGlobals "need_mark" = some (some (.ref f_need_mark)))
    (l_need_mark : K.lookup f_need_mark = some ⟨oc_need_mark, od_need_mark, .func (PySem.W.fnOf "need_mark" "need_mark" (defArgs s_need_mark) (defBody s_need_mark) (defScope s_need_mark) .none kV_need_mark dc_need_mark pm_need_mark an_need_mark cd_need_mark ct_need_mark), sl_need_mark⟩)
    (c_need_mark : PySem.W.codeIn K cd_need_mark "need_mark" = true)
    (k_need_mark : PySem.W.keepIn K (.ref f_need_mark) = true)
    (a_home_in : PySem.W.nsIn K mainGlobals "home_in" = some (some (.ref f_home_in)))
    (l_home_in : K.lookup f_home_in = some ⟨oc_home_in, od_home_in, .func (PySem.W.fnOf "home_in" "home_in" (defArgs s_home_in) (defBody s_home_in) (defScope s_home_in) .none kV_home_in dc_home_in pm_home_in an_home_in cd_home_in ct_home_in), sl_home_in⟩)
    (c_home_in : PySem.W.codeIn K cd_home_in "home_in" = true)
    (k_home_in : PySem.W.keepIn K (.ref f_home_in) = true)
    (a_home_of : PySem.W.nsIn K mainGlobals "home_of" = some (some (.ref f_home_of)))
    (l_home_of : K.lookup f_home_of = some ⟨oc_home_of, od_home_of, .func (PySem.W.fnOf "home_of" "home_of" (defArgs s_home_of) (defBody s_home_of) (defScope s_home_of) .none kV_home_of dc_home_of pm_home_of an_home_of cd_home_of ct_home_of), sl_home_of⟩)
    (c_home_of : PySem.W.codeIn K cd_home_of "home_of" = true)
    (k_home_of : PySem.W.keepIn K (.ref f_home_of) = true)
    (a__law_box : PySem.W.nsIn K mainGlobals "_law_box" = some (some (.ref f__law_box)))
    (l__law_box : K.lookup f__law_box = some ⟨oc__law_box, od__law_box, .func (PySem.W.fnOf "_law_box" "_law_box" (defArgs s__law_box) (defBody s__law_box) (defScope s__law_box) .none kV__law_box dc__law_box pm__law_box an__law_box cd__law_box ct__law_box), sl__law_box⟩)
    (c__law_box : PySem.W.codeIn K cd__law_box "_law_box" = true)
    (k__law_box : PySem.W.keepIn K (.ref f__law_box) = true)
    (a__law_more : PySem.W.nsIn K mainGlobals "_law_more" = some (some (.ref f__law_more)))
    (l__law_more : K.lookup f__law_more = some ⟨oc__law_more, od__law_more, .func (PySem.W.fnOf "_law_more" "_law_more" (defArgs s__law_more) (defBody s__law_more) (defScope s__law_more) .none kV__law_more dc__law_more pm__law_more an__law_more cd__law_more ct__law_more), sl__law_more⟩)
    (c__law_more : PySem.W.codeIn K cd__law_more "_law_more" = true)
    (k__law_more : PySem.W.keepIn K (.ref f__law_more) = true)
    (a__law_take : PySem.W.nsIn K mainGlobals "_law_take" = some (some (.ref f__law_take)))
    (l__law_take : K.lookup f__law_take = some ⟨oc__law_take, od__law_take, .func (PySem.W.fnOf "_law_take" "_law_take" (defArgs s__law_take) (defBody s__law_take) (defScope s__law_take) .none kV__law_take dc__law_take pm__law_take an__law_take cd__law_take ct__law_take), sl__law_take⟩)
    (c__law_take : PySem.W.codeIn K cd__law_take "_law_take" = true)
    (k__law_take : PySem.W.keepIn K (.ref f__law_take) = true)
    (a__law_kind : PySem.W.nsIn K mainGlobals "_law_kind" = some (some (.ref f__law_kind)))
    (l__law_kind : K.lookup f__law_kind = some ⟨oc__law_kind, od__law_kind, .func (PySem.W.fnOf "_law_kind" "_law_kind" (defArgs s__law_kind) (defBody s__law_kind) (defScope s__law_kind) .none kV__law_kind dc__law_kind pm__law_kind an__law_kind cd__law_kind ct__law_kind), sl__law_kind⟩)
    (c__law_kind : PySem.W.codeIn K cd__law_kind "_law_kind" = true)
    (k__law_kind : PySem.W.keepIn K (.ref f__law_kind) = true)
    (a__law_net : PySem.W.nsIn K mainGlobals "_law_net" = some (some (.ref f__law_net)))
    (l__law_net : K.lookup f__law_net = some ⟨oc__law_net, od__law_net, .func (PySem.W.fnOf "_law_net" "_law_net" (defArgs s__law_net) (defBody s__law_net) (defScope s__law_net) .none kV__law_net dc__law_net pm__law_net an__law_net cd__law_net ct__law_net), sl__law_net⟩)
    (c__law_net : PySem.W.codeIn K cd__law_net "_law_net" = true)
    (k__law_net : PySem.W.keepIn K (.ref f__law_net) = true)
    (a_law : PySem.W.nsIn K mainGlobals "law" = some (some (.ref f_law)))
    (l_law : K.lookup f_law = some ⟨oc_law, od_law, .func (PySem.W.fnOf "law" "law" (defArgs s_law) (defBody s_law) (defScope s_law) .none kV_law dc_law pm_law an_law (.ref cc) ct_law), sl_law⟩)
    (c_law : PySem.W.codeIn K (.ref cc) "law" = true)
    (k_law : PySem.W.keepIn K (.ref f_law) = true)
    (z_ValueError : PySem.W.nsIn K mainGlobals "ValueError" = some none)
    (z_abs : PySem.W.nsIn K mainGlobals "abs" = some none)
    (z_all : PySem.W.nsIn K mainGlobals "all" = some none)
    (z_bool : PySem.W.nsIn K mainGlobals "bool" = some none)
    (z_divmod : PySem.W.nsIn K mainGlobals "divmod" = some none)
    (z_int : PySem.W.nsIn K mainGlobals "int" = some none)
    (z_isinstance : PySem.W.nsIn K mainGlobals "isinstance" = some none)
    (z_len : PySem.W.nsIn K mainGlobals "len" = some none)
    (z_list : PySem.W.nsIn K mainGlobals "list" = some none)
    (z_max : PySem.W.nsIn K mainGlobals "max" = some none)
    (z_min : PySem.W.nsIn K mainGlobals "min" = some none)
    (z_range : PySem.W.nsIn K mainGlobals "range" = some none)
    (z_repr : PySem.W.nsIn K mainGlobals "repr" = some none)
    (z_sorted : PySem.W.nsIn K mainGlobals "sorted" = some none)
    (z_tuple : PySem.W.nsIn K mainGlobals "tuple" = some none)
    (z_zip : PySem.W.nsIn K mainGlobals "zip" = some none)
    (n_LAST_LINE : PySem.W.nsIn K mainGlobals "LAST_LINE" = some (some (.int 5 t_LAST_LINE)))
    (n_MOST_YARDS : PySem.W.nsIn K mainGlobals "MOST_YARDS" = some (some (.int 10 t_MOST_YARDS)))
    (n_MOST_WAYS : PySem.W.nsIn K mainGlobals "MOST_WAYS" = some (some (.int 24 t_MOST_WAYS)))
    (n_MOST_MILES : PySem.W.nsIn K mainGlobals "MOST_MILES" = some (some (.int 99 t_MOST_MILES)))
    (a_CoverError : PySem.W.nsIn K mainGlobals "CoverError" = some (some (.ref f_CoverError)))
    (a_NoNet : PySem.W.nsIn K mainGlobals "NoNet" = some (some (.ref f_NoNet)))
    (a_NoYard : PySem.W.nsIn K mainGlobals "NoYard" = some (some (.ref f_NoYard)))
    (a_NoMark : PySem.W.nsIn K mainGlobals "NoMark" = some (some (.ref f_NoMark)))
    (a_NoPage : PySem.W.nsIn K mainGlobals "NoPage" = some (some (.ref f_NoPage)))
    (a_NoCover : PySem.W.nsIn K mainGlobals "NoCover" = some (some (.ref f_NoCover)))
    (a_NoDay : PySem.W.nsIn K mainGlobals "NoDay" = some (some (.ref f_NoDay)))
    (a_NoTariff : PySem.W.nsIn K mainGlobals "NoTariff" = some (some (.ref f_NoTariff)))
    (a_NoBalance : PySem.W.nsIn K mainGlobals "NoBalance" = some (some (.ref f_NoBalance)))
    (a_NoStray : PySem.W.nsIn K mainGlobals "NoStray" = some (some (.ref f_NoStray)))
    (a_NoTrip : PySem.W.nsIn K mainGlobals "NoTrip" = some (some (.ref f_NoTrip)))
    (a_NoPrice : PySem.W.nsIn K mainGlobals "NoPrice" = some (some (.ref f_NoPrice)))
    (a_NoLine : PySem.W.nsIn K mainGlobals "NoLine" = some (some (.ref f_NoLine)))
    (a_Gone : PySem.W.nsIn K mainGlobals "Gone" = some (some (.ref f_Gone)))
    (a_Nothing : PySem.W.nsIn K mainGlobals "Nothing" = some (some (.ref f_Nothing)))
    (a_Clash : PySem.W.nsIn K mainGlobals "Clash" = some (some (.ref f_Clash)))
    (a_NoText : PySem.W.nsIn K mainGlobals "NoText" = some (some (.ref f_NoText)))
    (a_TooMany : PySem.W.nsIn K mainGlobals "TooMany" = some (some (.ref f_TooMany)))
    (xkp_NoMark : PySem.W.keepIn K (.ref f_NoMark) = true)
    (xbs_NoMark : PySem.W.subIn K (.ref f_NoMark) (.type "BaseException") = some true)
    (xty_NoMark : PySem.W.typeIn K (.ref f_NoMark) = some (.type "type"))
    (xis_NoMark : PySem.W.isClsIn K f_NoMark = true)
    (xhg_NoMark : PySem.W.findIn K (.ref f_NoMark) "__getattribute__" = some (some (.builtin "BaseException.__getattribute__")))
    (xhk_NoMark : PySem.W.findIn K (.ref f_NoMark) "__getattr__" = some none)
    (xhd_NoMark : PySem.W.hasDictIn K f_NoMark = true)
    (xha_NoMark : PySem.W.findIn K (.ref f_NoMark) "__class__" = some (some (.builtin "object.__class__")))
    (xhn_NoMark : PySem.W.specialIn K (.builtin "object.__class__") "__get__" = some (some (.builtin "getset_descriptor.__get__")))
    (xht_NoMark : PySem.W.takesIn K (.builtin "object.__class__") = some true)
    (xhm_NoMark : PySem.W.mroIn K f_NoMark (.type "object") = some true)
    (r_NoMark : PySem.W.excIn K f_NoMark [.type "ValueError", .type "Exception", .type "BaseException", .type "object"] "ValueError.__new__" = true)
    (k_NoMark_NoNet : PySem.W.kitOne K (.ref f_NoMark) (.ref f_NoNet) = some false)
    (k_NoMark_NoYard : PySem.W.kitOne K (.ref f_NoMark) (.ref f_NoYard) = some false)
    (k_NoMark_NoMark : PySem.W.kitOne K (.ref f_NoMark) (.ref f_NoMark) = some true)
    (k_NoMark_NoPage : PySem.W.kitOne K (.ref f_NoMark) (.ref f_NoPage) = some false)
    (k_NoMark_NoCover : PySem.W.kitOne K (.ref f_NoMark) (.ref f_NoCover) = some false)
    (k_NoMark_NoDay : PySem.W.kitOne K (.ref f_NoMark) (.ref f_NoDay) = some false)
    (k_NoMark_NoTariff : PySem.W.kitOne K (.ref f_NoMark) (.ref f_NoTariff) = some false)
    (k_NoMark_NoBalance : PySem.W.kitOne K (.ref f_NoMark) (.ref f_NoBalance) = some false)
    (k_NoMark_NoStray : PySem.W.kitOne K (.ref f_NoMark) (.ref f_NoStray) = some false)
    (k_NoMark_NoTrip : PySem.W.kitOne K (.ref f_NoMark) (.ref f_NoTrip) = some false)
    (k_NoMark_NoPrice : PySem.W.kitOne K (.ref f_NoMark) (.ref f_NoPrice) = some false)
    (k_NoMark_NoLine : PySem.W.kitOne K (.ref f_NoMark) (.ref f_NoLine) = some false)
    (k_NoMark_Gone : PySem.W.kitOne K (.ref f_NoMark) (.ref f_Gone) = some false)
    (k_NoMark_Nothing : PySem.W.kitOne K (.ref f_NoMark) (.ref f_Nothing) = some false)
    (k_NoMark_Clash : PySem.W.kitOne K (.ref f_NoMark) (.ref f_Clash) = some false)
    (k_NoMark_NoText : PySem.W.kitOne K (.ref f_NoMark) (.ref f_NoText) = some false)
    (k_NoMark_TooMany : PySem.W.kitOne K (.ref f_NoMark) (.ref f_TooMany) = some false)
    (v_NoMark : PySem.W.kitOne K (.ref f_NoMark) (.type "ValueError") = some true)
    (m_NoMark : PySem.W.exmOne K (.ref f_NoMark) (.ref f_CoverError) = some true) :
    ∃ A : Ad, Txt K mg A ∧ fa = A.law ∧ A.fd_law.code = .ref cc ∧ ∀ (s : Shared) (u : Value), BindsTo s A.fd_law ⟨[u], []⟩ [("_law_script", u)] := by
  have e := hfa.symm.trans (PySem.W.mg_of X G a_law)
  injection e with e
  injection e with e
  refine ⟨⟨f_is_whole, PySem.W.fnOf "is_whole" "is_whole" (defArgs s_is_whole) (defBody s_is_whole) (defScope s_is_whole) .none kV_is_whole dc_is_whole pm_is_whole an_is_whole cd_is_whole ct_is_whole,
    f_is_rising, PySem.W.fnOf "is_rising" "is_rising" (defArgs s_is_rising) (defBody s_is_rising) (defScope s_is_rising) .none kV_is_rising dc_is_rising pm_is_rising an_is_rising cd_is_rising ct_is_rising,
    f_is_way, PySem.W.fnOf "is_way" "is_way" (defArgs s_is_way) (defBody s_is_way) (defScope s_is_way) .none kV_is_way dc_is_way pm_is_way an_is_way cd_is_way ct_is_way,
    f_are_joined, PySem.W.fnOf "are_joined" "are_joined" (defArgs s_are_joined) (defBody s_are_joined) (defScope s_are_joined) .none kV_are_joined dc_are_joined pm_are_joined an_are_joined cd_are_joined ct_are_joined,
    f_is_net, PySem.W.fnOf "is_net" "is_net" (defArgs s_is_net) (defBody s_is_net) (defScope s_is_net) .none kV_is_net dc_is_net pm_is_net an_is_net cd_is_net ct_is_net,
    f_need_net, PySem.W.fnOf "need_net" "need_net" (defArgs s_need_net) (defBody s_need_net) (defScope s_need_net) .none kV_need_net dc_need_net pm_need_net an_need_net cd_need_net ct_need_net,
    f_is_mark, PySem.W.fnOf "is_mark" "is_mark" (defArgs s_is_mark) (defBody s_is_mark) (defScope s_is_mark) .none kV_is_mark dc_is_mark pm_is_mark an_is_mark cd_is_mark ct_is_mark,
    f_need_mark, PySem.W.fnOf "need_mark" "need_mark" (defArgs s_need_mark) (defBody s_need_mark) (defScope s_need_mark) .none kV_need_mark dc_need_mark pm_need_mark an_need_mark cd_need_mark ct_need_mark,
    f_home_in, PySem.W.fnOf "home_in" "home_in" (defArgs s_home_in) (defBody s_home_in) (defScope s_home_in) .none kV_home_in dc_home_in pm_home_in an_home_in cd_home_in ct_home_in,
    f_home_of, PySem.W.fnOf "home_of" "home_of" (defArgs s_home_of) (defBody s_home_of) (defScope s_home_of) .none kV_home_of dc_home_of pm_home_of an_home_of cd_home_of ct_home_of,
    f__law_box, PySem.W.fnOf "_law_box" "_law_box" (defArgs s__law_box) (defBody s__law_box) (defScope s__law_box) .none kV__law_box dc__law_box pm__law_box an__law_box cd__law_box ct__law_box,
    f__law_more, PySem.W.fnOf "_law_more" "_law_more" (defArgs s__law_more) (defBody s__law_more) (defScope s__law_more) .none kV__law_more dc__law_more pm__law_more an__law_more cd__law_more ct__law_more,
    f__law_take, PySem.W.fnOf "_law_take" "_law_take" (defArgs s__law_take) (defBody s__law_take) (defScope s__law_take) .none kV__law_take dc__law_take pm__law_take an__law_take cd__law_take ct__law_take,
    f__law_kind, PySem.W.fnOf "_law_kind" "_law_kind" (defArgs s__law_kind) (defBody s__law_kind) (defScope s__law_kind) .none kV__law_kind dc__law_kind pm__law_kind an__law_kind cd__law_kind ct__law_kind,
    f__law_net, PySem.W.fnOf "_law_net" "_law_net" (defArgs s__law_net) (defBody s__law_net) (defScope s__law_net) .none kV__law_net dc__law_net pm__law_net an__law_net cd__law_net ct__law_net,
    f_law, PySem.W.fnOf "law" "law" (defArgs s_law) (defBody s_law) (defScope s_law) .none kV_law dc_law pm_law an_law (.ref cc) ct_law,
    f_CoverError,
    f_NoNet,
    f_NoYard,
    f_NoMark,
    f_NoPage,
    f_NoCover,
    f_NoDay,
    f_NoTariff,
    f_NoBalance,
    f_NoStray,
    f_NoTrip,
    f_NoPrice,
    f_NoLine,
    f_Gone,
    f_Nothing,
    f_Clash,
    f_NoText,
    f_TooMany⟩, ?_, e, rfl, fun s u => .of_eq rfl⟩
  exact ⟨PySem.W.mg_of X G a_is_whole,
    fun_mk l_is_whole c_is_whole k_is_whole,
    (fun_mk (st := s_is_whole) l_is_whole c_is_whole k_is_whole).binds (ps := P_is_whole) fun _ _ _ _ _ _ us hl => match us, hl with | [_, _, _], _ => rfl,
    PySem.W.mg_of X G a_is_rising,
    fun_mk l_is_rising c_is_rising k_is_rising,
    (fun_mk (st := s_is_rising) l_is_rising c_is_rising k_is_rising).binds (ps := P_is_rising) fun _ _ _ _ _ _ us hl => match us, hl with | [_], _ => rfl,
    PySem.W.mg_of X G a_is_way,
    fun_mk l_is_way c_is_way k_is_way,
    (fun_mk (st := s_is_way) l_is_way c_is_way k_is_way).binds (ps := P_is_way) fun _ _ _ _ _ _ us hl => match us, hl with | [_, _], _ => rfl,
    PySem.W.mg_of X G a_are_joined,
    fun_mk l_are_joined c_are_joined k_are_joined,
    (fun_mk (st := s_are_joined) l_are_joined c_are_joined k_are_joined).binds (ps := P_are_joined) fun _ _ _ _ _ _ us hl => match us, hl with | [_, _], _ => rfl,
    PySem.W.mg_of X G a_is_net,
    fun_mk l_is_net c_is_net k_is_net,
    (fun_mk (st := s_is_net) l_is_net c_is_net k_is_net).binds (ps := P_is_net) fun _ _ _ _ _ _ us hl => match us, hl with | [_], _ => rfl,
    PySem.W.mg_of X G a_need_net,
    fun_mk l_need_net c_need_net k_need_net,
    (fun_mk (st := s_need_net) l_need_net c_need_net k_need_net).binds (ps := P_need_net) fun _ _ _ _ _ _ us hl => match us, hl with | [_], _ => rfl,
    PySem.W.mg_of X G a_is_mark,
    fun_mk l_is_mark c_is_mark k_is_mark,
    (fun_mk (st := s_is_mark) l_is_mark c_is_mark k_is_mark).binds (ps := P_is_mark) fun _ _ _ _ _ _ us hl => match us, hl with | [_, _], _ => rfl,
    PySem.W.mg_of X G a_need_mark,
    fun_mk l_need_mark c_need_mark k_need_mark,
    (fun_mk (st := s_need_mark) l_need_mark c_need_mark k_need_mark).binds (ps := P_need_mark) fun _ _ _ _ _ _ us hl => match us, hl with | [_, _], _ => rfl,
    PySem.W.mg_of X G a_home_in,
    fun_mk l_home_in c_home_in k_home_in,
    (fun_mk (st := s_home_in) l_home_in c_home_in k_home_in).binds (ps := P_home_in) fun _ _ _ _ _ _ us hl => match us, hl with | [_, _], _ => rfl,
    PySem.W.mg_of X G a_home_of,
    fun_mk l_home_of c_home_of k_home_of,
    (fun_mk (st := s_home_of) l_home_of c_home_of k_home_of).binds (ps := P_home_of) fun _ _ _ _ _ _ us hl => match us, hl with | [_, _], _ => rfl,
    PySem.W.mg_of X G a__law_box,
    fun_mk l__law_box c__law_box k__law_box,
    (fun_mk (st := s__law_box) l__law_box c__law_box k__law_box).binds (ps := P__law_box) fun _ _ _ _ _ _ us hl => match us, hl with | [_, _], _ => rfl,
    PySem.W.mg_of X G a__law_more,
    fun_mk l__law_more c__law_more k__law_more,
    (fun_mk (st := s__law_more) l__law_more c__law_more k__law_more).binds (ps := P__law_more) fun _ _ _ _ _ _ us hl => match us, hl with | [_], _ => rfl,
    PySem.W.mg_of X G a__law_take,
    fun_mk l__law_take c__law_take k__law_take,
    (fun_mk (st := s__law_take) l__law_take c__law_take k__law_take).binds (ps := P__law_take) fun _ _ _ _ _ _ us hl => match us, hl with | [_, _], _ => rfl,
    PySem.W.mg_of X G a__law_kind,
    fun_mk l__law_kind c__law_kind k__law_kind,
    (fun_mk (st := s__law_kind) l__law_kind c__law_kind k__law_kind).binds (ps := P__law_kind) fun _ _ _ _ _ _ us hl => match us, hl with | [_], _ => rfl,
    PySem.W.mg_of X G a__law_net,
    fun_mk l__law_net c__law_net k__law_net,
    (fun_mk (st := s__law_net) l__law_net c__law_net k__law_net).binds (ps := P__law_net) fun _ _ _ _ _ _ us hl => match us, hl with | [_, _], _ => rfl,
    PySem.W.mg_of X G a_law,
    fun_mk l_law c_law k_law,
    (fun_mk (st := s_law) l_law c_law k_law).binds (ps := P_law) fun _ _ _ _ _ _ us hl => match us, hl with | [_], _ => rfl,
    PySem.W.mg_none_of X G z_ValueError,
    PySem.W.mg_none_of X G z_abs,
    PySem.W.mg_none_of X G z_all,
    PySem.W.mg_none_of X G z_bool,
    PySem.W.mg_none_of X G z_divmod,
    PySem.W.mg_none_of X G z_int,
    PySem.W.mg_none_of X G z_isinstance,
    PySem.W.mg_none_of X G z_len,
    PySem.W.mg_none_of X G z_list,
    PySem.W.mg_none_of X G z_max,
    PySem.W.mg_none_of X G z_min,
    PySem.W.mg_none_of X G z_range,
    PySem.W.mg_none_of X G z_repr,
    PySem.W.mg_none_of X G z_sorted,
    PySem.W.mg_none_of X G z_tuple,
    PySem.W.mg_none_of X G z_zip,
    ⟨_, PySem.W.mg_of X G n_LAST_LINE⟩,
    ⟨_, PySem.W.mg_of X G n_MOST_YARDS⟩,
    ⟨_, PySem.W.mg_of X G n_MOST_WAYS⟩,
    ⟨_, PySem.W.mg_of X G n_MOST_MILES⟩,
    PySem.W.mg_of X G a_CoverError,
    PySem.W.mg_of X G a_NoNet,
    PySem.W.mg_of X G a_NoYard,
    PySem.W.mg_of X G a_NoMark,
    ⟨xkp_NoMark, xbs_NoMark, xty_NoMark, xis_NoMark, ⟨xhg_NoMark, xhk_NoMark, xbs_NoMark, xhd_NoMark, xha_NoMark, xhn_NoMark, xht_NoMark, xhm_NoMark⟩⟩,
    r_NoMark,
    PySem.W.mg_of X G a_NoPage,
    PySem.W.mg_of X G a_NoCover,
    PySem.W.mg_of X G a_NoDay,
    PySem.W.mg_of X G a_NoTariff,
    PySem.W.mg_of X G a_NoBalance,
    PySem.W.mg_of X G a_NoStray,
    PySem.W.mg_of X G a_NoTrip,
    PySem.W.mg_of X G a_NoPrice,
    PySem.W.mg_of X G a_NoLine,
    PySem.W.mg_of X G a_Gone,
    PySem.W.mg_of X G a_Nothing,
    PySem.W.mg_of X G a_Clash,
    PySem.W.mg_of X G a_NoText,
    PySem.W.mg_of X G a_TooMany,
    k_NoMark_NoNet,
    k_NoMark_NoYard,
    k_NoMark_NoMark,
    k_NoMark_NoPage,
    k_NoMark_NoCover,
    k_NoMark_NoDay,
    k_NoMark_NoTariff,
    k_NoMark_NoBalance,
    k_NoMark_NoStray,
    k_NoMark_NoTrip,
    k_NoMark_NoPrice,
    k_NoMark_NoLine,
    k_NoMark_Gone,
    k_NoMark_Nothing,
    k_NoMark_Clash,
    k_NoMark_NoText,
    k_NoMark_TooMany,
    v_NoMark,
    m_NoMark⟩
theorem all_law {l : PySem.W.OpenLaw} {n : Nat} {h : Heap} {fa cc Pt : Addr} (X : K.In h) (hA : ∃ A : Ad, Txt K mg A ∧ fa = A.law ∧ A.fd_law.code = .ref cc ∧ ∀ (s : Shared) (u : Value), BindsTo s A.fd_law ⟨[u], []⟩ [("_law_script", u)])
    (hP : h.get? Pt = some { cls := .none, data := .fields #[] }) (nP : K.lookup Pt = none) (hC : PySem.W.codeHdIn K cc Pt = true) : LamX.LawAtS l w K CX0 8 n "_law_script" mg fa h := by
  obtain ⟨A, T, rfl, hcv, hb⟩ := hA
  refine ⟨A.fd_law, [(cc, Pt)], sp_law K Pt, ?_, ?_, ?_, hb, ?_, ?_⟩
  · intro p hp
    rw [List.mem_singleton.1 hp]
    exact hP
  · intro p hp
    rw [List.mem_singleton.1 hp]
    exact nP
  · intro p hp
    rw [List.mem_singleton.1 hp]
    exact PySem.W.codeHd_of_K X hC
  · intro H a ns _ _ hT hS
    refine ⟨ns, hS, fun p hp => ?_, fun _ => rfl⟩
    rw [List.mem_singleton.1 hp]
    exact LamX.TabS.nil (hT _ (List.mem_singleton.2 rfl))
  · intro base _ _ hT
    exact ok_law T hcv (hT _ (List.mem_singleton.2 rfl))
end Cv
end
section
open PySem PySem.W PyProof.Rows
set_option maxRecDepth 100000 in
set_option maxHeartbeats 0 in
theorem PySem.Challenge.cw_coverdues_k02_homes_holds : PySem.Challenge.rw_coverdues_k02_homes.Holds := by
  w_on; o_law; k_head; (case hw => w_witness2)
  k_fill
  refine LamX.walk_ofTs (l := PySem.Challenge.rw_coverdues_k02_homes) (k := 8) (x := "_law_script") (CX := fun _ => L2.CX0) rfl (by decide) rfl ⟨rfl, by decide, by decide⟩ (fun w h Y => km_in_of Y) ?F (fun _ _ _ _ _ h => h)
  case F =>
    intro w mg fa h Y KX G hmg
    have hTs := km_tabs_of Y
    refine' Cv.all_law KX (Cv.all_mk KX G hmg ?a_is_whole ?l_is_whole ?c_is_whole ?k_is_whole ?a_is_rising ?l_is_rising ?c_is_rising ?k_is_rising ?a_is_way ?l_is_way ?c_is_way ?k_is_way ?a_are_joined ?l_are_joined ?c_are_joined ?k_are_joined ?a_is_net ?l_is_net ?c_is_net ?k_is_net ?a_need_net ?l_need_net ?c_need_net ?k_need_net ?a_is_mark ?l_is_mark ?c_is_mark ?k_is_mark ?a_need_mark ?l_need_mark ?c_need_mark ?k_need_mark ?a_home_in ?l_home_in ?c_home_in ?k_home_in ?a_home_of ?l_home_of ?c_home_of ?k_home_of ?a__law_box ?l__law_box ?c__law_box ?k__law_box ?a__law_more ?l__law_more ?c__law_more ?k__law_more ?a__law_take ?l__law_take ?c__law_take ?k__law_take ?a__law_kind ?l__law_kind ?c__law_kind ?k__law_kind ?a__law_net ?l__law_net ?c__law_net ?k__law_net ?a_law ?l_law ?c_law ?k_law ?z_ValueError ?z_abs ?z_all ?z_bool ?z_divmod ?z_int ?z_isinstance ?z_len ?z_list ?z_max ?z_min ?z_range ?z_repr ?z_sorted ?z_tuple ?z_zip ?n_LAST_LINE ?n_MOST_YARDS ?n_MOST_WAYS ?n_MOST_MILES ?a_CoverError ?a_NoNet ?a_NoYard ?a_NoMark ?a_NoPage ?a_NoCover ?a_NoDay ?a_NoTariff ?a_NoBalance ?a_NoStray ?a_NoTrip ?a_NoPrice ?a_NoLine ?a_Gone ?a_Nothing ?a_Clash ?a_NoText ?a_TooMany ?xkp_NoMark ?xbs_NoMark ?xty_NoMark ?xis_NoMark ?xhg_NoMark ?xhk_NoMark ?xhd_NoMark ?xha_NoMark ?xhn_NoMark ?xht_NoMark ?xhm_NoMark ?r_NoMark ?k_NoMark_NoNet ?k_NoMark_NoYard ?k_NoMark_NoMark ?k_NoMark_NoPage ?k_NoMark_NoCover ?k_NoMark_NoDay ?k_NoMark_NoTariff ?k_NoMark_NoBalance ?k_NoMark_NoStray ?k_NoMark_NoTrip ?k_NoMark_NoPrice ?k_NoMark_NoLine ?k_NoMark_Gone ?k_NoMark_Nothing ?k_NoMark_Clash ?k_NoMark_NoText ?k_NoMark_TooMany ?v_NoMark ?m_NoMark) (hTs _ List.mem_cons_self) ?nP ?hC
    (case a_is_whole => k_is); (case l_is_whole => k_is); (case c_is_whole => k_is); (case k_is_whole => k_is)
    (case a_is_rising => k_is); (case l_is_rising => k_is); (case c_is_rising => k_is); (case k_is_rising => k_is)
    (case a_is_way => k_is); (case l_is_way => k_is); (case c_is_way => k_is); (case k_is_way => k_is)
    (case a_are_joined => k_is); (case l_are_joined => k_is); (case c_are_joined => k_is); (case k_are_joined => k_is)
    (case a_is_net => k_is); (case l_is_net => k_is); (case c_is_net => k_is); (case k_is_net => k_is)
    (case a_need_net => k_is); (case l_need_net => k_is); (case c_need_net => k_is); (case k_need_net => k_is)
    (case a_is_mark => k_is); (case l_is_mark => k_is); (case c_is_mark => k_is); (case k_is_mark => k_is)
    (case a_need_mark => k_is); (case l_need_mark => k_is); (case c_need_mark => k_is); (case k_need_mark => k_is)
    (case a_home_in => k_is); (case l_home_in => k_is); (case c_home_in => k_is); (case k_home_in => k_is)
    (case a_home_of => k_is); (case l_home_of => k_is); (case c_home_of => k_is); (case k_home_of => k_is)
    (case a__law_box => k_is); (case l__law_box => k_is); (case c__law_box => k_is); (case k__law_box => k_is)
    (case a__law_more => k_is); (case l__law_more => k_is); (case c__law_more => k_is); (case k__law_more => k_is)
    (case a__law_take => k_is); (case l__law_take => k_is); (case c__law_take => k_is); (case k__law_take => k_is)
    (case a__law_kind => k_is); (case l__law_kind => k_is); (case c__law_kind => k_is); (case k__law_kind => k_is)
    (case a__law_net => k_is); (case l__law_net => k_is); (case c__law_net => k_is); (case k__law_net => k_is)
    (case a_law => k_is); (case l_law => k_is); (case c_law => k_is); (case k_law => k_is)
    (case z_ValueError => k_is); (case z_abs => k_is); (case z_all => k_is); (case z_bool => k_is)
    (case z_divmod => k_is); (case z_int => k_is); (case z_isinstance => k_is); (case z_len => k_is)
    (case z_list => k_is); (case z_max => k_is); (case z_min => k_is); (case z_range => k_is)
    (case z_repr => k_is); (case z_sorted => k_is); (case z_tuple => k_is); (case z_zip => k_is)
    (case n_LAST_LINE => k_is); (case n_MOST_YARDS => k_is); (case n_MOST_WAYS => k_is); (case n_MOST_MILES => k_is)
    (case a_CoverError => k_is); (case a_NoNet => k_is); (case a_NoYard => k_is); (case a_NoMark => k_is)
    (case a_NoPage => k_is); (case a_NoCover => k_is); (case a_NoDay => k_is); (case a_NoTariff => k_is)
    (case a_NoBalance => k_is); (case a_NoStray => k_is); (case a_NoTrip => k_is); (case a_NoPrice => k_is)
    (case a_NoLine => k_is); (case a_Gone => k_is); (case a_Nothing => k_is); (case a_Clash => k_is)
    (case a_NoText => k_is); (case a_TooMany => k_is); (case xkp_NoMark => k_is); (case xbs_NoMark => k_is)
    (case xty_NoMark => k_is); (case xis_NoMark => k_is); (case xhg_NoMark => k_is); (case xhk_NoMark => k_is)
    (case xhd_NoMark => k_is); (case xha_NoMark => k_is); (case xhn_NoMark => k_is); (case xht_NoMark => k_is)
    (case xhm_NoMark => k_is); (case r_NoMark => k_exc); (case k_NoMark_NoNet => kernel_rfl); (case k_NoMark_NoYard => kernel_rfl)
    (case k_NoMark_NoMark => kernel_rfl); (case k_NoMark_NoPage => kernel_rfl); (case k_NoMark_NoCover => kernel_rfl); (case k_NoMark_NoDay => kernel_rfl)
    (case k_NoMark_NoTariff => kernel_rfl); (case k_NoMark_NoBalance => kernel_rfl); (case k_NoMark_NoStray => kernel_rfl); (case k_NoMark_NoTrip => kernel_rfl)
    (case k_NoMark_NoPrice => kernel_rfl); (case k_NoMark_NoLine => kernel_rfl); (case k_NoMark_Gone => kernel_rfl); (case k_NoMark_Nothing => kernel_rfl)
    (case k_NoMark_Clash => kernel_rfl); (case k_NoMark_NoText => kernel_rfl); (case k_NoMark_TooMany => kernel_rfl); (case v_NoMark => kernel_rfl)
    (case m_NoMark => kernel_rfl)
    (case nP => kernel_rfl); (case hC => kernel_rfl)
end
