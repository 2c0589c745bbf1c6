import PyProof.Rows.All
import Wide.All
import OpenK.AllK
import Wide.FinOn
import HandS.ForMost
import HandS.ForExc
import HandS.IsInst
import HandS.ExcIs
import HandS.Lambda
import HandS.EndTab
import HandS.Zip
import HandS.Walk
import HandS.TupAny
import HandS.TupLe
import HandS.TupSets
import HandS.Conv
import HandS.WideBits
import HandS.RaiseMore
import HandS.Deep
import HandS.Style
import HandS.TupLen
import HandS.Small
import KE.KIndexOf
import KE.SortData
import KE.DataMinMax
import KE.DataFind
import KE.KeyNested
import KE.KDictKeyed
import KE.DataEq
import KE.DataCmp
import KE.DataIsa
import KE.KDictPairs
import PyProof.ReprRoads
import HandS.HeadWalk
import KE.KTupSum
import PyProof.ReprLen
import HandS.HotCalls
import PySem.Challenge.RW_coverdues_k44_no_balances
set_option Elab.async false
set_option linter.all false
set_option maxRecDepth 100000
set_option maxHeartbeats 4000000
section
namespace Cv
open PySem L2
theorem pe_cI {X : Cx} {x : Str} {i : Int} {pos : Pos} (hg : Gl X x) (h : ∃ t, X.mg x = some (.int i t)) (hd : (x == ("__debug__" : Str)) = false := by decide) : PE X (.Name x pos) (tC (.int i)) := by
  obtain ⟨t, h⟩ := h
  exact pe_glob hg h ⟨t, rfl⟩ hd

/-- what the written part says of an own exception class -/
structure ExcK (K : PySem.W.Frag) (C : Addr) : Prop where
  kp : PySem.W.keepIn K (.ref C) = true
  bs : PySem.W.subIn K (.ref C) (.type "BaseException") = some true
  ty : PySem.W.typeIn K (.ref C) = some (.type "type")
  is : PySem.W.isClsIn K C = true
  ec : ExcC K C
end Cv
end
section
/-! The U layer: readings as functions (a match on values and on what stands at an address). -/
namespace Cv
open PySem L2
section
variable {X : Cx}
theorem pe_imp {e : Expr} {t t' : TE} (h : PE X e t) (k : ∀ σ H Q, t' σ H Q → t σ H Q) : PE X e t' := ⟨fun pins s σ H Q I q => h.run pins s σ H Q I (k σ H Q q)⟩
theorem pt_imp {e : Expr} {t t' : TT} (h : PT X e t) (k : ∀ σ H Q, t' σ H Q → t σ H Q) : PT X e t' := ⟨fun pins s σ H Q I q => h.run pins s σ H Q I (k σ H Q q)⟩
theorem pg_imp {e : Expr} {t t' : TG} (h : PG X e t) (k : ∀ v σ H Q, t' v σ H Q → t v σ H Q) : PG X e t' := ⟨fun pins s σ H v u Q I r q => h.run pins s σ H v u Q I r (k v σ H Q q)⟩
theorem ps_imp {e : Stmt} {t t' : TS} (h : PS X e t) (k : ∀ D σ H, t' D σ H → t D σ H) : PS X e t' := ⟨fun pins s σ H D I q => h.run pins s σ H D I (k D σ H q)⟩
theorem pi_imp {tg e : Expr} {t t' : TI} (h : PI X tg e t) (k : ∀ σ H R, t' σ H R → t σ H R) : PI X tg e t' := ⟨fun pins s σ H R I q => h.run pins s σ H R I (k σ H R q)⟩
theorem opR_imp {f : Value → Value → Sem Value} {r r' : R2} (h : OpR X f r) (k : ∀ x y H Q, r' x y H Q → r x y H Q) : OpR X f r' := fun pins s σ H x y v u Q I rx ry q => h pins s σ H x y v u Q I rx ry (k _ _ _ _ q)
theorem callR_imp {f : Value} {r r' : List V → Hp → VK → Prop} (h : CallR X f r) (k : ∀ x H Q, r' x H Q → r x H Q) : CallR X f r' := fun pins s σ H xs us Q I rx q => h pins s σ H xs us Q I rx (k _ _ _ q)
/-! ### heaps -/
/-- a new tuple may be told with all else as it was -/
theorem al_tup {H : Hp} {xs : List V} {Q : VK} (h : ∀ p H', Same H H' → H' p = some (.tup xs) → Q (.ref p) H') : ∀ p, H p = none → Q (.ref p) (upd H p (.tup xs)) :=
  fun p hp => h p _ (fun b o e => by rw [upd_ne (ne_of_none e hp)]; exact e) upd_same
theorem al_lst {H : Hp} {xs : List V} {Q : VK} (h : ∀ p H', Same H H' → H p = none → H' p = some (.lst xs) → Q (.ref p) H') : ∀ p, H p = none → Q (.ref p) (upd H p (.lst xs)) :=
  fun p hp => h p _ (fun b o e => by rw [upd_ne (ne_of_none e hp)]; exact e) hp upd_same
/-- a new tuple, a new list: readings -/
abbrev NewT (xs : List V) (H : Hp) (Q : VK) : Prop := ∀ p H', Same H H' → H' p = some (.tup xs) → Q (.ref p) H'
abbrev NewL (xs : List V) (H : Hp) (Q : VK) : Prop := ∀ p H', Same H H' → H p = none → H' p = some (.lst xs) → Q (.ref p) H'
/-! ### names -/
def uVar (i : Nat) : TE := fun σ H Q => match σ[i]? with
  | some (some v) => Q v H
  | _ => False
theorem uv (i : Nat) {x : Str} {pos : Pos} (hN : X.N[i]? = some x := by rfl) (hv : Vis X.env.scope x := by first | exact Or.inl rfl | exact Or.inr (Or.inl rfl) | exact Or.inr (Or.inr rfl)) (hd : (x == ("__debug__" : Str)) = false := by decide)
    (hcd : (x == ("__classdict__" : Str)) = false := by decide) : PE X (.Name x pos) (uVar i) := pe_imp (pe_var hN hv hd hcd) fun σ H Q h => by
  unfold uVar at h
  split at h
  · exact ⟨_, by assumption, h⟩
  · exact h.elim
/-! ### operators -/
def uAdd : R2 := fun x y H Q => match x, y with
  | .int i, .int j => Q (.int (i + j)) H
  | .str a, .str b => a.length + b.length ≤ sizeLine ∧ Q (.str (a ++ b)) H
  | .ref p, .ref q => (match H p, H q with
    | some (.lst xs), some (.lst ys) => xs.length + ys.length ≤ sizeLine ∧ NewL (xs ++ ys) H Q
    | some (.tup xs), some (.tup ys) => xs.length + ys.length ≤ sizeLine ∧ NewT (xs ++ ys) H Q
    | _, _ => False)
  | _, _ => False
theorem u_add : OpR X (binaryOp .Add) uAdd := by
  intro pins s σ H x y v u Q I rx ry h
  unfold uAdd at h
  split at h
  · exact op_add pins s σ H _ _ v u Q I rx ry ⟨_, _, rfl, rfl, h⟩
  · exact op_add_str pins s σ H _ _ v u Q I rx ry ⟨_, _, rfl, rfl, h⟩
  · rename_i p q
    split at h
    · rename_i xs ys e1 e2
      exact op_cat pins s σ H _ _ v u Q I rx ry ⟨_, _, _, _, rfl, rfl, e1, e2, h.1, al_lst h.2⟩
    · rename_i xs ys e1 e2
      refine op_catA pins s σ H _ _ v u Q I rx ry ⟨_, _, _, _, rfl, rfl, SqT.of e1, SqT.of e2, h.1, fun z => ?_, fun _ z => ?_, fun _ _ => al_tup h.2⟩
      · subst z
        exact h.2 q H (Same.refl H) e2
      · subst z
        rw [List.append_nil] at h
        exact h.2 p H (Same.refl H) e1
    · exact h.elim
  · exact h.elim
def uSub : R2 := fun x y H Q => match x, y with
  | .int i, .int j => Q (.int (i - j)) H
  | _, _ => False
theorem u_sub : OpR X (binaryOp .Sub) uSub := opR_imp op_sub fun x y H Q h => by
  unfold uSub at h
  split at h
  · exact ⟨_, _, rfl, rfl, h⟩
  · exact h.elim
def uMul : R2 := fun x y H Q => match x, y with
  | .int i, .int j => CMul i j ∧ Q (.int (i * j)) H
  | .ref p, .int k => (match H p with
    | some (.lst xs) => (-(2 ^ 63) ≤ k ∧ k < 2 ^ 63 ∧ xs.length * k.toNat ≤ sizeLine) ∧ NewL (List.replicate k.toNat xs).flatten H Q
    | _ => False)
  | _, _ => False
theorem u_mul : OpR X (binaryOp .Mult) uMul := by
  intro pins s σ H x y v u Q I rx ry h
  unfold uMul at h
  split at h
  · exact op_mul pins s σ H _ _ v u Q I rx ry ⟨_, _, rfl, rfl, h⟩
  · split at h
    · rename_i xs e1
      exact op_rep pins s σ H _ _ v u Q I rx ry ⟨_, _, _, rfl, rfl, e1, h.1.1, h.1.2.1, h.1.2.2, al_lst h.2⟩
    · exact h.elim
  · exact h.elim
def uMod : R2 := fun x y H Q => match x, y with
  | .int i, .int j => 0 < j ∧ Q (.int (i % j)) H
  | _, _ => False
theorem u_mod : OpR X (binaryOp .Mod) uMod := opR_imp op_mod fun x y H Q h => by
  unfold uMod at h
  split at h
  · exact ⟨_, _, rfl, rfl, h⟩
  · exact h.elim
def uFdiv : R2 := fun x y H Q => match x, y with
  | .int i, .int j => (0 < j ∧ j < 1073741824) ∧ Q (.int (i / j)) H
  | _, _ => False
theorem u_fdiv : OpR X (binaryOp .FloorDiv) uFdiv := opR_imp op_fdiv fun x y H Q h => by
  unfold uFdiv at h
  split at h
  · exact ⟨_, _, rfl, rfl, h⟩
  · exact h.elim
def uPow : R2 := fun x y H Q => match x, y with
  | .int i, .int j => CPow i j ∧ Q (.int (i ^ j.toNat)) H
  | _, _ => False
theorem u_pow : OpR X (binaryOp .Pow) uPow := opR_imp op_pow fun x y H Q h => by
  unfold uPow at h
  split at h
  · exact ⟨_, _, rfl, rfl, h⟩
  · exact h.elim
def uNeg : V → Hp → VK → Prop := fun x H Q => match x with
  | .int i => Q (.int (-i)) H
  | _ => False
theorem u_neg : UnR X (unaryOp .USub) uNeg := fun pins s σ H x v Q I rx h => by
  unfold uNeg at h
  split at h
  · exact un_neg pins s σ H _ v Q I rx ⟨_, rfl, h⟩
  · exact h.elim
/-! ### comparisons -/
def uCmp (g : Int → Int → Bool) : R2 := fun x y H Q => match x, y with
  | .int i, .int j => Q (.bl (g i j)) H
  | _, _ => False
theorem uCmp_of {f : Value → Value → Sem Value} {g : Int → Int → Bool} (h : OpR X f (rI0 fun i j => .bl (g i j))) : OpR X f (uCmp g) := opR_imp h fun x y H Q h => by
  unfold uCmp at h
  split at h
  · exact ⟨_, _, rfl, rfl, h⟩
  · exact h.elim
def uLe : R2 := uCmp fun i j => decide (i ≤ j)
def uGt : R2 := uCmp fun i j => decide (j < i)
def uGe : R2 := uCmp fun i j => decide (j ≤ i)
theorem u_le : OpR X (compareOp .LtE) uLe := uCmp_of op_le
theorem u_gt : OpR X (compareOp .Gt) uGt := uCmp_of op_gt
theorem u_ge : OpR X (compareOp .GtE) uGe := uCmp_of op_ge
/-- < of numbers, of tuples of numbers -/
def uLt : R2 := fun x y H Q => match x, y with
  | .int i, .int j => Q (.bl (decide (i < j))) H
  | .ref p, .ref q => (match H p, H q with
    | some (.tup xs), some (.tup ys) => ∃ ns ms : List Int, xs = ns.map V.int ∧ ys = ms.map V.int ∧ Q (.bl (HT.lexLt ns ms)) H
    | _, _ => False)
  | _, _ => False
theorem u_lt (hu : X.A.units < cLine) : OpR X (compareOp .Lt) uLt := by
  intro pins s σ H x y v u Q I rx ry h
  unfold uLt at h
  split at h
  · exact op_lt pins s σ H _ _ v u Q I rx ry ⟨_, _, rfl, rfl, h⟩
  · split at h
    · rename_i xs ys e1 e2
      obtain ⟨ns, ms, rfl, rfl, h⟩ := h
      exact op_ltT hu pins s σ H _ _ v u Q I rx ry ⟨_, _, _, _, rfl, rfl, SqT.of e1, SqT.of e2, h⟩
    · exact h.elim
  · exact h.elim
/-- == of scalars; else by data -/
def uEqG (K : PySem.W.Frag) (g : Bool → Bool) : R2 := fun x y H Q => match x, y with
  | .int i, .int j => Q (.bl (g (decide (i = j)))) H
  | .str i, .str j => Q (.bl (g (decide (i = j)))) H
  | .bl i, .bl j => Q (.bl (g (decide (i = j)))) H
  | .non, .non => Q (.bl (g true)) H
  | .int _, .non => Q (.bl (g false)) H
  | .non, .int _ => Q (.bl (g false)) H
  | .str _, .non => Q (.bl (g false)) H
  | .non, .str _ => Q (.bl (g false)) H
  | x, y => ∃ d e, Dp K H x d ∧ Dp K H y e ∧ SeqAt.shaped d = true ∧ SeqAt.shaped e = true ∧ Q (.bl (g (PyData.eqv d e))) H
def uEq (K : PySem.W.Frag) : R2 := uEqG K fun b => b
def uNe (K : PySem.W.Frag) : R2 := uEqG K fun b => !b
theorem dec_int (i j : Int) : decide (V.int i = V.int j) = decide (i = j) := by simp
theorem dec_str (i j : Str) : decide (V.str i = V.str j) = decide (i = j) := by simp
theorem dec_bl (i j : Bool) : decide (V.bl i = V.bl j) = decide (i = j) := by simp
theorem u_eq (hu : X.A.units + 64 < cLine) : OpR X (compareOp .Eq) (uEq X.K) := by
  intro pins s σ H x y v u Q I rx ry h
  unfold uEq uEqG at h
  split at h
  · exact op_eq pins s σ H _ _ v u Q I rx ry ⟨rfl, by rw [dec_int]; exact h⟩
  · exact op_eq pins s σ H _ _ v u Q I rx ry ⟨rfl, by rw [dec_str]; exact h⟩
  · exact op_eq pins s σ H _ _ v u Q I rx ry ⟨rfl, by rw [dec_bl]; exact h⟩
  · exact op_eq pins s σ H _ _ v u Q I rx ry ⟨rfl, by simpa using h⟩
  · exact op_eq pins s σ H _ _ v u Q I rx ry ⟨rfl, by simpa using h⟩
  · exact op_eq pins s σ H _ _ v u Q I rx ry ⟨rfl, by simpa using h⟩
  · exact op_eq pins s σ H _ _ v u Q I rx ry ⟨rfl, by simpa using h⟩
  · exact op_eq pins s σ H _ _ v u Q I rx ry ⟨rfl, by simpa using h⟩
  · exact op_eqD hu pins s σ H _ _ v u Q I rx ry h
theorem u_ne (hu : X.A.units + 64 < cLine) : OpR X (compareOp .NotEq) (uNe X.K) := by
  intro pins s σ H x y v u Q I rx ry h
  unfold uNe uEqG at h
  split at h
  · exact op_ne pins s σ H _ _ v u Q I rx ry ⟨rfl, by rw [dec_int]; exact h⟩
  · exact op_ne pins s σ H _ _ v u Q I rx ry ⟨rfl, by rw [dec_str]; exact h⟩
  · exact op_ne pins s σ H _ _ v u Q I rx ry ⟨rfl, by rw [dec_bl]; exact h⟩
  · exact op_ne pins s σ H _ _ v u Q I rx ry ⟨rfl, by simpa using h⟩
  · exact op_ne pins s σ H _ _ v u Q I rx ry ⟨rfl, by simpa using h⟩
  · exact op_ne pins s σ H _ _ v u Q I rx ry ⟨rfl, by simpa using h⟩
  · exact op_ne pins s σ H _ _ v u Q I rx ry ⟨rfl, by simpa using h⟩
  · exact op_ne pins s σ H _ _ v u Q I rx ry ⟨rfl, by simpa using h⟩
  · exact op_neD hu pins s σ H _ _ v u Q I rx ry h
/-- is None, is True -/
def isNon : V → Bool
  | .non => true
  | _ => false
theorem isNon_dec (x : V) : decide (x = .non) = isNon x := by cases x <;> rfl
def uIsG (g : Bool → Bool) : R2 := fun x y H Q => match x, y with
  | .bl a, .bl b => Q (.bl (g (decide (a = b)))) H
  | x, .non => Q (.bl (g (isNon x))) H
  | _, _ => False
def uIs : R2 := uIsG fun b => b
def uIsNot : R2 := uIsG fun b => !b
theorem u_is : OpR X (compareOp .Is) uIs := by
  intro pins s σ H x y v u Q I rx ry h
  unfold uIs uIsG at h
  split at h
  · exact op_is_bl pins s σ H _ _ v u Q I rx ry ⟨_, _, rfl, rfl, h⟩
  · exact op_isN pins s σ H _ _ v u Q I rx ry ⟨rfl, by rw [isNon_dec]; exact h⟩
  · exact h.elim
theorem u_isnot : OpR X (compareOp .IsNot) uIsNot := by
  intro pins s σ H x y v u Q I rx ry h
  unfold uIsNot uIsG at h
  split at h
  · exact op_isnot_bl pins s σ H _ _ v u Q I rx ry ⟨_, _, rfl, rfl, h⟩
  · exact op_notN pins s σ H _ _ v u Q I rx ry ⟨rfl, by rw [isNon_dec]; exact h⟩
  · exact h.elim
/-- in: a list, a tuple of flat things; a dict's keys -/
def keyV : V → Option Key
  | .int i => some (.inl i)
  | .str x => some (.inr x)
  | _ => none
theorem keyV_is {x : V} {k : Key} (h : keyV x = some k) : x = kV k := by
  cases x <;> simp [keyV] at h <;> subst h <;> rfl
def keysV : List V → Option (List Key)
  | [] => some []
  | x :: r => match keyV x, keysV r with
    | some k, some ks => some (k :: ks)
    | _, _ => none
theorem keysV_is : ∀ {xs : List V} {ks : List Key}, keysV xs = some ks → xs = ks.map kV
  | [], ks, h => by simp [keysV] at h; subst h; rfl
  | x :: r, ks, h => by
    unfold keysV at h
    split at h
    · rename_i k ks' e1 e2
      cases h
      rw [keyV_is e1, keysV_is e2]; rfl
    · cases h
def uInG (g : Bool → Bool) : R2 := fun x y H Q => match y with
  | .ref p => (match H p with
    | some (.lst xs) => (flatV x = true ∧ xs.all flatV = true) ∧ Q (.bl (g (inV x xs))) H
    | some (.tup xs) => (flatV x = true ∧ xs.all flatV = true) ∧ Q (.bl (g (inV x xs))) H
    | some (.frz _ (.tup xs)) => (flatV x = true ∧ xs.all flatV = true) ∧ Q (.bl (g (inV x xs))) H
    | some (.dK kvs) => (match keyV x with
      | some k => Q (.bl (g (valV kvs k).isSome)) H
      | none => False)
    | some (.dT kvs) => (match x with
      | .ref t => (match H t with
        | some (.tup xs) => (match keysV xs with
          | some k => Q (.bl (g (valV kvs k).isSome)) H
          | none => False)
        | _ => False)
      | _ => False)
    | _ => False)
  | _ => False
def uIn : R2 := uInG fun b => b
def uNotIn : R2 := uInG fun b => !b
theorem u_in (hu : X.A.units + 1 < cLine) : OpR X (compareOp .In) uIn := by
  intro pins s σ H x y v u Q I rx ry h
  unfold uIn uInG at h
  split at h
  · rename_i p
    split at h
    · rename_i xs e
      exact op_in_seq pins s σ H _ _ v u Q I rx ry ⟨_, _, rfl, .inl (SqL.of e), h.1.1, h.1.2, h.2⟩
    · rename_i xs e
      exact op_in_seq pins s σ H _ _ v u Q I rx ry ⟨_, _, rfl, .inr (SqT.of e), h.1.1, h.1.2, h.2⟩
    · rename_i xs e
      exact op_in_seq pins s σ H _ _ v u Q I rx ry ⟨_, _, rfl, .inr (.inl (.inr ⟨_, e⟩)), h.1.1, h.1.2, h.2⟩
    · rename_i kvs e
      split at h
      · rename_i k ek
        have ex := keyV_is ek
        subst ex
        obtain rfl : u = Value.ref p := ry
        exact d_in hu I (DGet.k e) rx fun s3 I3 => ⟨.bl _, H, I3, rfl, h⟩
      · exact h.elim
    · rename_i kvs e
      split at h
      · rename_i t
        split at h
        · rename_i xs et
          split at h
          · rename_i k ek
            have ex := keysV_is ek
            subst ex
            obtain rfl : u = Value.ref p := ry
            exact d_in hu I (DGet.t e et) rx fun s3 I3 => ⟨.bl _, H, I3, rfl, h⟩
          · exact h.elim
        · exact h.elim
      · exact h.elim
    · exact h.elim
  · exact h.elim
theorem u_notin (hu : X.A.units + 1 < cLine) : OpR X (compareOp .NotIn) uNotIn := by
  intro pins s σ H x y v u Q I rx ry h
  unfold uNotIn uInG at h
  split at h
  · rename_i p
    split at h
    · rename_i xs e
      exact op_notIn_seq pins s σ H _ _ v u Q I rx ry ⟨_, _, rfl, .inl (SqL.of e), h.1.1, h.1.2, h.2⟩
    · rename_i xs e
      exact op_notIn_seq pins s σ H _ _ v u Q I rx ry ⟨_, _, rfl, .inr (SqT.of e), h.1.1, h.1.2, h.2⟩
    · rename_i xs e
      exact op_notIn_seq pins s σ H _ _ v u Q I rx ry ⟨_, _, rfl, .inr (.inl (.inr ⟨_, e⟩)), h.1.1, h.1.2, h.2⟩
    · rename_i kvs e
      split at h
      · rename_i k ek
        have ex := keyV_is ek
        subst ex
        obtain rfl : u = Value.ref p := ry
        exact d_notIn hu I (DGet.k e) rx fun s3 I3 => ⟨.bl _, H, I3, rfl, h⟩
      · exact h.elim
    · rename_i kvs e
      split at h
      · rename_i t
        split at h
        · rename_i xs et
          split at h
          · rename_i k ek
            have ex := keysV_is ek
            subst ex
            obtain rfl : u = Value.ref p := ry
            exact d_notIn hu I (DGet.t e et) rx fun s3 I3 => ⟨.bl _, H, I3, rfl, h⟩
          · exact h.elim
        · exact h.elim
      · exact h.elim
    · exact h.elim
  · exact h.elim
end
end Cv
end
section
namespace Cv
open PySem L2
section
variable {X : Cx}
open PySem.Spec PyProof.Rows in
theorem ix_dict (hu : X.A.units + 1 < cLine) : IxR X (fun x y H Q => ∃ a v, x = .ref a ∧ DGet H a y (some v) ∧ Q v H) := by
  intro value slice pins s σ H x y v u Q I rx ry h hs
  obtain ⟨a, w', rfl, g, q⟩ := h
  obtain rfl : v = Value.ref a := rx
  have hT := dict_typeIs I g
  unfold subscriptTail
  refine wpAny_bind ?_
  rw [getitemInPython_of_ne hT.not_modules]
  refine wpAny_bind (wpAny_specialOf hT PySem.F.slot_dict_getitem.lookup ?_)
  have h₂ : wpAny (model X.prog X.w) X.A (getItem (.ref a) u) (EP X pins σ Q) X.xe s := d_getItem hu I g ry fun w'' s3 I3 rw' => ⟨w', H, I3, rw', q⟩
  have fin : wpAny (model X.prog X.w) X.A (subscripted slice false (.ref a) u) (fun r s₃ => wpAny (model X.prog X.w) X.A (letTemporaryGo value (.ref a) r >>= fun _ => pure r) (EP X pins σ Q) X.xe s₃) X.xe s := by
    rw [hs]
    exact wpAny_operating (wpAny_mono h₂ (fun r s₃ h₃ => wpAny_bind (wpAny_letTemporaryGo (wpAny_pure h₃))) fun _ _ x => x)
  first
    | exact wpAny_pure (wpAny_bind fin)
    | exact wpAny_bind (wpAny_pure (wpAny_bind fin))
    | exact wpAny_bind fin
/-- x[y] -/
def uIx : R2 := fun x y H Q => match x with
  | .ref p => (match H p with
    | some (.lst xs) => (match y with
      | .int i => ∃ v, atI xs i = some v ∧ Q v H
      | _ => False)
    | some (.tup xs) => (match y with
      | .int i => ∃ v, atI xs i = some v ∧ Q v H
      | _ => False)
    | some (.frz _ (.tup xs)) => (match y with
      | .int i => ∃ v, atI xs i = some v ∧ Q v H
      | _ => False)
    | some (.dK kvs) => (match keyV y with
      | some k => ∃ v, valV kvs k = some v ∧ Q v H
      | none => False)
    | some (.dT kvs) => (match y with
      | .ref t => (match H t with
        | some (.tup xs) => (match keysV xs with
          | some k => ∃ v, valV kvs k = some v ∧ Q v H
          | none => False)
        | _ => False)
      | _ => False)
    | _ => False)
  | .str z => (match y with
    | .int i => z.length ≤ sizeLine ∧ ∃ c, atI z.cps.toList i = some c ∧ Q (.str ⟨#[c]⟩) H
    | _ => False)
  | _ => False
theorem u_ix (hu : X.A.units + 1 < cLine) : IxR X uIx := by
  intro value slice pins s σ H x y v u Q I rx ry h hs
  unfold uIx at h
  split at h
  · rename_i p
    split at h
    · rename_i xs e
      split at h
      · obtain ⟨w', e1, q⟩ := h
        exact ix_list value slice pins s σ H _ _ v u Q I rx ry ⟨_, _, _, _, rfl, rfl, SqL.of e, e1, q⟩ hs
      · exact h.elim
    · rename_i xs e
      split at h
      · obtain ⟨w', e1, q⟩ := h
        exact ix_tup value slice pins s σ H _ _ v u Q I rx ry ⟨_, _, _, _, rfl, rfl, SqT.of e, e1, q⟩ hs
      · exact h.elim
    · rename_i xs e
      split at h
      · obtain ⟨w', e1, q⟩ := h
        exact ix_tup value slice pins s σ H _ _ v u Q I rx ry ⟨_, _, _, _, rfl, rfl, .inl (.inr ⟨_, e⟩), e1, q⟩ hs
      · exact h.elim
    · rename_i kvs e
      split at h
      · rename_i k ek
        have ex := keyV_is ek
        subst ex
        obtain ⟨w', e1, q⟩ := h
        exact ix_dict hu value slice pins s σ H _ _ v u Q I rx ry ⟨_, _, rfl, e1 ▸ DGet.k e, q⟩ hs
      · exact h.elim
    · rename_i kvs e
      split at h
      · rename_i t
        split at h
        · rename_i xs et
          split at h
          · rename_i k ek
            have ex := keysV_is ek
            subst ex
            obtain ⟨w', e1, q⟩ := h
            exact ix_dict hu value slice pins s σ H _ _ v u Q I rx ry ⟨_, _, rfl, e1 ▸ DGet.t e et, q⟩ hs
          · exact h.elim
        · exact h.elim
      · exact h.elim
    · exact h.elim
  · split at h
    · obtain ⟨hz, w', e1, q⟩ := h
      exact ix_str value slice pins s σ H _ _ v u Q I rx ry ⟨_, _, _, rfl, rfl, hz, e1, q⟩ hs
    · exact h.elim
  · exact h.elim
/-- x[lo:hi] -/
def uSl : V → Option Int → Option Int → Hp → VK → Prop := fun x lo hi H Q => match x with
  | .ref p => (match H p with
    | some (.lst xs) => NewL (cutV xs lo hi) H Q
    | some (.tup xs) => NewT (cutV xs lo hi) H Q
    | _ => False)
  | .str z => z.length ≤ sizeLine ∧ Q (.str (cutS z lo hi)) H
  | _ => False
theorem cut_all {xs : List V} {lo hi : Option Int} (h : HT.sIx xs.length 0 lo = 0 ∧ HT.sIx xs.length xs.length hi = xs.length) : cutV xs lo hi = xs := by
  unfold cutV
  rw [h.1, h.2]
  simp
theorem u_sl : SlR X uSl := by
  intro pins s σ H x v lo' hi' lo hi sl Q I rx hs pl ph h
  unfold uSl at h
  split at h
  · split at h
    · rename_i xs e
      exact sl_list pins s σ H _ v lo' hi' lo hi sl Q I rx hs pl ph ⟨_, _, rfl, SqL.of e, al_lst h⟩
    · rename_i xs e
      refine sl_tupA pins s σ H _ v lo' hi' lo hi sl Q I rx hs pl ph ⟨_, _, rfl, SqT.of e, fun z => ?_, fun _ => al_tup h⟩
      rw [cut_all z] at h
      exact h _ H (Same.refl H) e
    · exact h.elim
  · exact sl_str pins s σ H _ v lo' hi' lo hi sl Q I rx hs pl ph ⟨_, rfl, h⟩
  · exact h.elim
/-- len -/
def lenV (H : Hp) : V → Option Nat
  | .ref p => (match H p with
    | some (.lst xs) => some xs.length
    | some (.tup xs) => some xs.length
    | some (.frz _ (.tup xs)) => some xs.length
    | some (.dK kvs) => some kvs.length
    | some (.dT kvs) => some kvs.length
    | _ => none)
  | _ => none
def uLen : List V → Hp → VK → Prop := fun xs H Q => match xs with
  | [.str z] => z.length ≤ sizeLine ∧ Q (.int z.length) H
  | [x] => ∃ n, lenV H x = some n ∧ Q (.int (n : Nat)) H
  | _ => False
theorem u_len : CallR X (.builtin "len") uLen := by
  intro pins s σ H xs us Q I rx h
  unfold uLen at h
  split at h
  · exact call_len_str pins s σ H _ us Q I rx ⟨_, rfl, h⟩
  · obtain ⟨n, e, q⟩ := h
    unfold lenV at e
    split at e
    · split at e
      · cases e
        exact call_len_seq pins s σ H _ us Q I rx ⟨_, _, rfl, .inl (SqL.of (by assumption)), q⟩
      · cases e
        exact call_len_seq pins s σ H _ us Q I rx ⟨_, _, rfl, .inr (SqT.of (by assumption)), q⟩
      · cases e
        exact call_len_seq pins s σ H _ us Q I rx ⟨_, _, rfl, .inr (.inl (.inr ⟨_, by assumption⟩)), q⟩
      · cases e
        exact call_lenD pins s σ H _ us Q I rx ⟨_, _, rfl, by assumption, q⟩
      · cases e
        exact call_len_dT pins s σ H _ us Q I rx ⟨_, _, rfl, by assumption, q⟩
      · cases e
    · cases e
  · exact h.elim
/-- isinstance(x, T), T a built-in type -/
def isaV (H : Hp) : V → String → Option Bool
  | .int _, T => some (T == "int")
  | .bl _, T => some (T == "bool" || T == "int")
  | .str _, T => some (T == "str")
  | .non, _ => some false
  | .ref p, T => (match H p with
    | some (.lst _) => some (T == "list")
    | some (.tup _) => some (T == "tuple")
    | some (.frz _ (.tup _)) => some (T == "tuple")
    | some (.dK _) => some (T == "dict")
    | some (.dT _) => some (T == "dict")
    | _ => none)
  | _, _ => none
def okTy : List String := ["int", "bool", "str", "list", "tuple"]
theorem isa_ok {K : PySem.W.Frag} {H : Hp} {x : V} {T : String} {b : Bool} (hT : T ∈ okTy) (h : isaV H x T = some b) : ∃ t, TyX K H x t ∧ PySem.W.kitOne K t (.type T) = some b := by
  have key : ∀ (S : String) (c : Bool), (∀ T ∈ okTy, kitB S T = some (T == S || (S == "bool" && T == "int"))) → c = (T == S || (S == "bool" && T == "int")) → PySem.W.kitOne K (.type S) (.type T) = some c := fun S c hk hc => by
    rw [hc]
    exact kit_ty (hk T hT)
  unfold isaV at h
  split at h
  · cases h
    exact ⟨_, .base (.int _), key "int" _ (by decide +kernel) (by simp)⟩
  · cases h
    exact ⟨_, .base (.bl _), key "bool" _ (by decide +kernel) (by simp)⟩
  · cases h
    exact ⟨_, .base (.str _), key "str" _ (by decide +kernel) (by simp)⟩
  · cases h
    exact ⟨_, .base .non, kit_ty ((by decide +kernel : ∀ T ∈ okTy, kitB "NoneType" T = some false) T hT)⟩
  · split at h
    · cases h
      exact ⟨_, .base (.lst (by assumption)), key "list" _ (by decide +kernel) (by simp)⟩
    · cases h
      exact ⟨_, .base (.tup (by assumption)), key "tuple" _ (by decide +kernel) (by simp)⟩
    · cases h
      exact ⟨_, .fTuple (by assumption), key "tuple" _ (by decide +kernel) (by simp)⟩
    · cases h
      exact ⟨_, .base (.dK (by assumption)), key "dict" _ (by decide +kernel) (by simp)⟩
    · cases h
      exact ⟨_, .base (.dT (by assumption)), key "dict" _ (by decide +kernel) (by simp)⟩
    · cases h
  · cases h
def uIsi : List V → Hp → VK → Prop := fun xs H Q => match xs with
  | [x, .ty T] => T ∈ okTy ∧ ∃ b, isaV H x T = some b ∧ Q (.bl b) H
  | _ => False
theorem u_isi : CallR X (.builtin "isinstance") uIsi := callR_imp call_isi fun xs H Q h => by
  unfold uIsi at h
  split at h
  · obtain ⟨hT, b, e, q⟩ := h
    obtain ⟨t, h1, h2⟩ := isa_ok (K := X.K) hT e
    exact ⟨_, _, _, _, _, rfl, .ty _, h1, h2, q⟩
  · exact h.elim
/-! ### targets -/
def uNil : TGs := fun vs σ H Q => match vs with
  | [] => Q σ H
  | _ => False
def uCons (t : TG) (u : TGs) : TGs := fun vs σ H Q => match vs with
  | v :: r => t v σ H fun σ' H' => u r σ' H' Q
  | [] => False
theorem ugs_nil : PGs X [] uNil := ⟨fun pins s σ H vs us Q I r h => pgs_nil.run pins s σ H vs us Q I r (by
  unfold uNil at h
  split at h
  · exact ⟨rfl, h⟩
  · exact h.elim)⟩
theorem ugs_cons {e : Expr} {es : List Expr} {t : TG} {u : TGs} (h1 : PG X e t) (h2 : PGs X es u)
    (hs : (assignEach (e :: es) X.env).map (·.2) = assign e X.env :: (assignEach es X.env).map (·.2) := by rfl) : PGs X (e :: es) (uCons t u) := ⟨fun pins s σ H vs us Q I r h => (pgs_cons h1 h2 hs).run pins s σ H vs us Q I r (by
  unfold uCons at h
  split at h
  · exact ⟨_, _, rfl, h⟩
  · exact h.elim)⟩
def uTup (n : Nat) (t : TGs) : TG := fun v σ H Q => match v with
  | .ref a => (match H a with
    | some (.tup xs) => xs.length = n ∧ t xs σ H Q
    | _ => False)
  | _ => False
theorem ug_tup {es : List Expr} {k : Nat} {t : TGs} {n : Nat} {pos : Pos} (hc : X.calm = true) (h : PGs X es t)
    (hn : (assignEach es X.env).length = n := by rfl) (hst : (assignEach es X.env).findIdx? (·.1) = none := by rfl) : PG X (.Tuple es k pos) (uTup n t) := pg_imp (pg_tup hc h hn hst) fun v σ H Q h => by
  unfold uTup at h
  split at h
  · split at h
    · exact ⟨_, _, rfl, SqT.of (by assumption), h⟩
    · exact h.elim
  · exact h.elim
/-- o[i] = v: a list, a dict -/
def uSet : V → V → V → Hp → (Hp → Prop) → Prop := fun o i v H Q => match o with
  | .ref p => (match H p with
    | some (.lst xs) => (match i with
      | .int k => ∃ j, ixN xs.length k = some j ∧ Q (upd H p (.lst (xs.set j v)))
      | _ => False)
    | some (.dK kvs) => (match keyV i with
      | some k => kvs.length < sizeLine ∧ Q (upd H p (.dK (putK kvs k v)))
      | none => False)
    | some (.dT kvs) => (match i with
      | .ref t => (match H t with
        | some (.tup xs) => (match keysV xs with
          | some k => kvs.length < sizeLine ∧ Q (upd H p (.dT (putK kvs k v)))
          | none => False)
        | _ => False)
      | _ => False)
    | _ => False)
  | _ => False
theorem u_set (hu : X.A.units + 1 < cLine) : PSet X uSet := fun pins s σ H o i v ov iv u Q I r1 r2 r3 h => by
  unfold uSet at h
  split at h
  · rename_i p
    split at h
    · rename_i xs e
      split at h
      · obtain ⟨j, e1, q⟩ := h
        exact set_list pins s σ H _ _ v ov iv u Q I r1 r2 r3 ⟨_, _, _, _, rfl, rfl, e, e1, q⟩
      · exact h.elim
    · rename_i kvs e
      split at h
      · rename_i k ek
        have ex := keyV_is ek
        subst ex
        exact set_dict hu pins s σ H _ _ v ov iv u Q I r1 r2 r3 ⟨_, _, rfl, DPut.k e h.1, h.2⟩
      · exact h.elim
    · rename_i kvs e
      split at h
      · split at h
        · rename_i xs et
          split at h
          · rename_i k ek
            have ex := keysV_is ek
            subst ex
            exact set_dict hu pins s σ H _ _ v ov iv u Q I r1 r2 r3 ⟨_, _, rfl, DPut.t e et h.1, h.2⟩
          · exact h.elim
        · exact h.elim
      · exact h.elim
    · exact h.elim
  · exact h.elim
end
/-- a reading that asks less of what follows -/
def MonoE (t : TE) : Prop := ∀ σ H Q Q', (∀ v H', Q v H' → Q' v H') → t σ H Q → t σ H Q'
end Cv
end
section
namespace Cv
open PySem L2
open PySem.Spec PyProof.Rows
section
variable {X : Cx}
/-! ### displays -/
def uTupD (t : TA) : TE := fun σ H Q => t σ H fun xs H1 => xs.length ≤ 1000 ∧ NewT xs H1 Q
def uLstD (t : TA) : TE := fun σ H Q => t σ H fun xs H1 => xs.length ≤ 1000 ∧ NewL xs H1 Q
theorem sz1000 {n : Nat} (h : n ≤ 1000) : n ≤ sizeLine := Nat.le_trans h (by rw [sizeLine_eq]; decide)
theorem ue_tup {x1} {es : List Expr} {t : TA} {pos : Pos} (h : PA X es t) : PE X (.Tuple es x1 pos) (uTupD t) := by
  refine ⟨fun pins s σ H Q I hq => ?_⟩
  refine wpAny_Tuple_spliced (thn (h.run pos pins s σ H _ I hq) fun us s1 ⟨xs, H1, I1, r, z, q⟩ => ⟨by rw [← r.length]; exact sz1000 z, ?_⟩)
  have hf : H1 s1.heap.objs.size = none := I1.hok.fresh (Nat.le_refl _)
  refine ⟨.ref s1.heap.objs.size, upd H1 s1.heap.objs.size (.tup xs), I1.laid (t' := s1.toks) (fun b u e => Heap.get?_push_of_some _ e) (Nat.le_refl _) ?_, rfl, al_tup q _ hf⟩
  exact ⟨sz1000 z, us, r, ⟨_, Heap.get?_push_size _ rfl, rfl, _, rfl⟩⟩
theorem ue_lst {es : List Expr} {t : TA} {pos : Pos} (h : PA X es t) : PE X (.List es pos) (uLstD t) := by
  refine ⟨fun pins s σ H Q I hq => ?_⟩
  refine wpAny_List_spliced (thn (h.run pos pins s σ H _ I hq) fun us s1 ⟨xs, H1, I1, r, z, q⟩ => ⟨by rw [← r.length]; exact sz1000 z, ?_⟩)
  have hf : H1 s1.heap.objs.size = none := I1.hok.fresh (Nat.le_refl _)
  refine ⟨.ref s1.heap.objs.size, upd H1 s1.heap.objs.size (.lst xs), I1.laid (t' := s1.toks) (fun b u e => Heap.get?_push_of_some _ e) (Nat.le_refl _) ?_, rfl, al_lst q _ hf⟩
  exact ⟨sz1000 z, us, 0, r, Heap.get?_push_size _ rfl⟩
abbrev NewDK (H : Hp) (Q : VK) : Prop := ∀ p H', Same H H' → H p = none → H' p = some (.dK []) → Q (.ref p) H'
abbrev NewDT (H : Hp) (Q : VK) : Prop := ∀ p H', Same H H' → H p = none → H' p = some (.dT []) → Q (.ref p) H'
def uDK : TE := fun _ H Q => NewDK H Q
def uDT : TE := fun _ H Q => NewDT H Q
theorem al_any {H : Hp} {o : HO} {Q : VK} (h : ∀ p H', Same H H' → H p = none → H' p = some o → Q (.ref p) H') : ∀ p, H p = none → Q (.ref p) (upd H p o) :=
  fun p hp => h p _ (fun b o e => by rw [upd_ne (ne_of_none e hp)]; exact e) hp upd_same
theorem ue_dK {pos : Pos} : PE X (.Dict [] [] pos) uDK := pe_imp pe_dnewK fun _ _ _ h => al_any h
theorem ue_dT {pos : Pos} : PE X (.Dict [] [] pos) uDT := pe_imp pe_dnewT fun _ _ _ h => al_any h
/-! ### built-ins -/
def uDivmod : List V → Hp → VK → Prop := fun xs H Q => match xs with
  | [.int i, .int j] => (0 < j ∧ j < 2 ^ 64) ∧ NewT [.int (i / j), .int (i % j)] H Q
  | _ => False
theorem log2_lt {j : Int} (h0 : 0 < j) (h : j < 2 ^ 64) : j.natAbs.log2 < 9000 := by
  have h1 : j.natAbs < 2 ^ 64 := by omega
  have h2 : j.natAbs.log2 < 64 := (Nat.log2_lt (by omega)).2 h1
  omega
theorem u_divmod : CallR X (.builtin "divmod") uDivmod := callR_imp call_divmodW fun xs H Q h => by
  unfold uDivmod at h
  split at h
  · exact ⟨_, _, rfl, ⟨h.1.1, PyProof.noPylong_of_log2 (log2_lt h.1.1 h.1.2)⟩, al_tup h.2⟩
  · exact h.elim
def uAll : List V → Hp → VK → Prop := fun xs H Q => match xs with
  | [.ref a] => (match H a with
    | some (.lst ys) => ∃ bs : List Bool, ys = bs.map V.bl ∧ Q (.bl (bs.all id)) H
    | _ => False)
  | _ => False
theorem u_all (hc : X.calm = true) : CallR X (.builtin "all") uAll := callR_imp (cr_all hc) fun xs H Q h => by
  unfold uAll at h
  split at h
  · split at h
    · obtain ⟨bs, rfl, q⟩ := h
      exact ⟨_, _, rfl, SqL.of (by assumption), q⟩
    · exact h.elim
  · exact h.elim
def uSum : List V → Hp → VK → Prop := fun xs H Q => match xs with
  | [.ref a] => (match H a with
    | some (.lst ys) => ∃ ns : List Int, ys = ns.map V.int ∧ Q (.int ns.sum) H
    | _ => False)
  | _ => False
theorem u_sum (hc : X.calm = true) : CallR X (.builtin "sum") uSum := callR_imp (cr_sum hc) fun xs H Q h => by
  unfold uSum at h
  split at h
  · split at h
    · obtain ⟨bs, rfl, q⟩ := h
      exact ⟨_, _, rfl, SqL.of (by assumption), q⟩
    · exact h.elim
  · exact h.elim
/-- list(x) -/
def uList : List V → Hp → VK → Prop := fun xs H Q => match xs with
  | [.ref a] => (match H a with
    | some (.lst ys) => NewL ys H Q
    | some (.tup ys) => NewL ys H Q
    | some (.frz _ (.tup ys)) => NewL ys H Q
    | _ => False)
  | _ => False
theorem u_list : CallR X (.type "list") uList := callR_imp call_list_of fun xs H Q h => by
  unfold uList at h
  split at h
  · split at h
    · exact ⟨_, _, rfl, .inl (SqL.of (by assumption)), al_lst h⟩
    · exact ⟨_, _, rfl, .inr (SqT.of (by assumption)), al_lst h⟩
    · exact ⟨_, _, rfl, .inr (.inl (.inr ⟨_, by assumption⟩)), al_lst h⟩
    · exact h.elim
  · exact h.elim
/-- tuple(x) -/
def uTuple : List V → Hp → VK → Prop := fun xs H Q => match xs with
  | [.ref a] => (match H a with
    | some (.lst ys) => NewT ys H Q
    | some (.tup ys) => Q (.ref a) H
    | some (.frz _ (.tup ys)) => Q (.ref a) H
    | _ => False)
  | _ => False
theorem u_tuple : CallR X (.type "tuple") uTuple := callR_imp call_tuple_of fun xs H Q h => by
  unfold uTuple at h
  split at h
  · split at h
    · exact ⟨_, _, rfl, .inl ⟨SqL.of (by assumption), al_tup h⟩⟩
    · exact ⟨_, _, rfl, .inr ⟨SqT.of (by assumption), h⟩⟩
    · exact ⟨_, _, rfl, .inr ⟨.inl (.inr ⟨_, by assumption⟩), h⟩⟩
    · exact h.elim
  · exact h.elim
/-- tuple(list), the new tuple known to have no attributes -/
def FT (H : Hp) (a : Addr) (xs : List V) : Prop := ∃ o : Obj, o.dict = none ∧ H a = some (.frz o (.tup xs))
def uTupleF : List V → Hp → VK → Prop := fun xs H Q => match xs with
  | [.ref a] => (match H a with
    | some (.lst ys) => ∀ p H', Same H H' → FT H' p ys → Q (.ref p) H'
    | _ => False)
  | _ => False
theorem u_tupleF : CallR X (.type "tuple") uTupleF := by
  intro pins s σ H xs us Q I r h
  unfold uTupleF at h
  split at h
  · rename_i p
    split at h
    · rename_i ys e
      obtain ⟨u, rfl, rx⟩ := vals1 r
      cases rx
      obtain ⟨its, r', pl, hz⟩ := I.list (SqL.of e)
      have hlen := r'.length
      refine call_tuple_list pl.isList (fun h' kp => ?_) (by simp only [List.size_toArray] <;> omega)
      have I1 : Inv X pins σ H { s with heap := h' } := I.kept (t' := s.toks) kp
      have I2 : Inv X pins σ (upd H h'.objs.size (.frz { cls := .type "tuple", data := .seq its.toArray } (.tup ys))) { s with heap := h'.push { cls := .type "tuple", data := .seq its.toArray } } :=
        I1.laid (t' := s.toks) (fun b o e => Heap.get?_push_of_some _ e) (Nat.le_refl _) (show ObjOk X.prog X.w _ _ _ (.frz _ (.tup ys)) from ⟨Heap.get?_push_size _ rfl, hz, its, r', IsTup.new _ _⟩)
      have hn := I1.hok.fresh (Nat.le_refl _)
      refine ⟨.ref h'.objs.size, _, I2, rfl, h _ _ (fun b o e => ?_) ⟨_, rfl, upd_same⟩⟩
      rw [upd_ne (ne_of_none e hn)]
      exact e
    · exact h.elim
  · exact h.elim
/-! ### methods -/
def tyU (T : String) (x : V) (H : Hp) : Prop := match x with
  | .str _ => T = "str"
  | .ref p => (match H p with
    | some (.lst _) => T = "list"
    | some (.frz o (.tup _)) => T = "tuple" ∧ o.dict = none
    | some (.dK _) => T = "dict"
    | some (.dT _) => T = "dict"
    | _ => False)
  | _ => False
theorem tyU_is {pins : List (Addr × Obj)} {σ : L2.St} {H : Hp} {s : Shared} {T : String} {x : V} {v : Value} (I : Inv X pins σ H s) (r : RelV x v) (ty : tyU T x H) :
    s.TypeIs v T ∧ ∀ a, v = .ref a → ∃ ob, s.heap.get? a = some ob ∧ ob.dict = none := by
  unfold tyU at ty
  split at ty
  · subst ty
    exact tyV_is I r rfl
  · rename_i p
    split at ty
    · subst ty
      exact tyV_is I r (.inl ⟨rfl, _, SqL.of (by assumption)⟩)
    · rename_i o xs e
      obtain ⟨rfl, hd⟩ := ty
      cases r
      obtain ⟨h1, h2⟩ := I.hok p _ e
      obtain ⟨_, its, rv, ob, h3, h4, _⟩ := h2
      rw [h1] at h3
      cases h3
      exact ⟨⟨o, h1, h4⟩, fun a q => by cases q; exact ⟨o, h1, hd⟩⟩
    · subst ty
      exact tyV_is I r (.inr (.inr (.inl ⟨rfl, .inl ⟨_, by assumption⟩⟩)))
    · subst ty
      exact tyV_is I r (.inr (.inr (.inl ⟨rfl, .inr ⟨_, by assumption⟩⟩)))
    · exact ty.elim
  · exact ty.elim
def uBM0 (T : String) (r : V → List V → Hp → VK → Prop) (to : TE) : TE := fun σ H Q => to σ H fun x H1 => tyU T x H1 ∧ r x [] H1 Q
def uBM (T : String) (r : V → List V → Hp → VK → Prop) (to : TE) (t : TA) : TE := fun σ H Q => to σ H fun x H1 => tyU T x H1 ∧ t σ H1 fun xs H2 => r x xs H2 Q
variable {o e : Expr} {es : List Expr} {to : TE} {t : TA} {name : Str} {apos cpos : Pos} {T id : String} {r : V → List V → Hp → VK → Prop}
theorem ue_bm0 (pa : PlainAttrs T) (slot : Slot T name id) (hty : typeOf (.builtin id) = pure (.type "method_descriptor")) (hm : MtR X id r) (ho : PE X o to)
    (hbase : attributeBase o name X.env (eval o X.env) = eval o X.env := by rfl) (hline : (apos.endLine == cpos.line) = true := by rfl) : PE X (.Call (.Attribute o name apos) [] [] cpos) (uBM0 T r to) := by
  refine ⟨fun pins s σ H Q I h => ?_⟩
  refine wpAny_Call_method0_late hbase hline (thn (ho.run pins s σ H _ I h) fun v s1 ⟨x, H1, I1, r1, ty, q1⟩ => ?_)
  obtain ⟨h1, h2⟩ := tyU_is I1 r1 ty
  exact ⟨T, id, pa, slot, hty, h1, h2, Calls.callWith_builtin rfl (PySem.evalArgs_none (hm pins s1 σ H1 x [] v [] Q I1 r1 .nil q1))⟩
theorem ue_bm (pa : PlainAttrs T) (slot : Slot T name id) (hty : typeOf (.builtin id) = pure (.type "method_descriptor")) (hm : MtR X id r) (ho : PE X o to) (ha : PA X (e :: es) t)
    (hbase : attributeBase o name X.env (eval o X.env) = eval o X.env := by rfl)
    (hfew : ((backTo cpos (starEach (e :: es) X.env)).all (fun x => !x.1) && (backToKw cpos (keywordEach [] X.env)).all (fun x => x.1.isSome)
      && decide ((e :: es).length + ([] : List Keyword).length + (if ([] : List Keyword).isEmpty then 0 else 1) < 30)) = true := by rfl)
    (hline : (apos.endLine == cpos.line) = true := by rfl) (hs : starEach (e :: es) X.env = (false, eval e X.env) :: starEach es X.env := by rfl) (hplain : (backTo cpos (starEach es X.env)).any (·.1) = false := by rfl) :
    PE X (.Call (.Attribute o name apos) (e :: es) [] cpos) (uBM T r to t) := by
  refine ⟨fun pins s σ H Q I h => ?_⟩
  refine wpAny_Call_method_late hbase hfew hline rfl (thn (ho.run pins s σ H _ I h) fun v s1 ⟨x, H1, I1, r1, ty, q1⟩ => ?_)
  obtain ⟨h1, h2⟩ := tyU_is I1 r1 ty
  refine ⟨T, id, pa, slot, hty, h1, h2, ?_⟩
  have hA := ha.run cpos pins s1 σ H1 _ I1 q1
  rw [hs] at hA ⊢
  refine Calls.callWith_builtin (by show (false || (backTo cpos (starEach es X.env)).any (·.1)) = false; rw [hplain] <;> rfl) (Calls.evalArgs_plain ?_)
  exact thn hA fun us s2 ⟨vs, H2, I2, r2, q2⟩ => hm pins s2 σ H2 x vs v us Q I2 r1 r2 q2
theorem mtR_imp {r r' : V → List V → Hp → VK → Prop} (h : MtR X id r) (k : ∀ x xs H Q, r' x xs H Q → r x xs H Q) : MtR X id r' := fun pins s σ H x xs v us Q I rx rs q => h pins s σ H x xs v us Q I rx rs (k _ _ _ _ q)
def uAppend : V → List V → Hp → VK → Prop := fun x vs H Q => match x, vs with
  | .ref l, [y] => (match H l with
    | some (.lst xs) => xs.length < sizeLine ∧ Q .non (upd H l (.lst (xs ++ [y])))
    | _ => False)
  | _, _ => False
theorem u_append : MtR X "list.append" uAppend := mtR_imp mt_append fun x xs H Q h => by
  unfold uAppend at h
  split at h
  · split at h
    · exact ⟨_, _, _, rfl, rfl, by assumption, h.1, h.2⟩
    · exact h.elim
  · exact h.elim
def uExtend : V → List V → Hp → VK → Prop := fun x vs H Q => match x, vs with
  | .ref l, [.ref b] => (match H l, H b with
    | some (.lst xs), some (.lst ys) => xs.length + ys.length ≤ sizeLine ∧ Q .non (upd H l (.lst (xs ++ ys)))
    | _, _ => False)
  | _, _ => False
theorem u_extend : MtR X "list.extend" uExtend := mtR_imp mt_extend fun x xs H Q h => by
  unfold uExtend at h
  split at h
  · split at h
    · exact ⟨_, _, _, _, rfl, rfl, by assumption, by assumption, h.1, h.2⟩
    · exact h.elim
  · exact h.elim
/-- xs.pop(i), i a place -/
def uPopAt : V → List V → Hp → VK → Prop := fun x vs H Q => match x, vs with
  | .ref l, [.int i] => (match H l with
    | some (.lst xs) => ∃ (k : Nat) (y : V), i = (k : Int) ∧ xs[k]? = some y ∧ Q y (upd H l (.lst (xs.eraseIdx k)))
    | _ => False)
  | _, _ => False
theorem seqIndex_nat {k n : Nat} (h : k < n) : seqIndex? (k : Int) n = some k := by
  unfold seqIndex?
  have h1 : ¬ ((k : Int) < 0) := by omega
  simp [h1, h]
theorem u_popAt : MtR X "list.pop" uPopAt := by
  intro pins s σ H x xs v us Q I rx rs h
  unfold uPopAt at h
  split at h
  · split at h
    · rename_i ys e
      obtain ⟨k, y, rfl, hy, q⟩ := h
      have hk : k < ys.length := (List.getElem?_eq_some_iff.mp hy).1
      have hz := (I.lstM e).1
      have hl := line63
      exact mt_popAt pins s σ H _ _ v us Q I rx rs ⟨_, _, _, _, _, rfl, rfl, e, by omega, by omega, seqIndex_nat hk, hy, q⟩
    · exact h.elim
  · exact h.elim
/-- list.index of flat things; list.count -/
def uLIndex : V → List V → Hp → VK → Prop := fun x vs H Q => match x, vs with
  | .ref l, [y] => (match H l with
    | some (.lst xs) => (flatV y = true ∧ xs.all flatV = true) ∧ ∃ j z, (xs[j]? = some z ∧ eqV z y = true ∧ ∀ (m : Nat) (z' : V), m < j → xs[m]? = some z' → eqV z' y = false) ∧ Q (.int (j : Nat)) H
    | _ => False)
  | _, _ => False
theorem u_lindex : MtR X "list.index" uLIndex := mtR_imp mt_index fun x xs H Q h => by
  unfold uLIndex at h
  split at h
  · split at h
    · obtain ⟨⟨h1, h2⟩, j, z, ⟨h3, h4, h5⟩, q⟩ := h
      exact ⟨_, _, _, j, z, rfl, rfl, SqL.of (by assumption), h1, h2, h3, h4, h5, q⟩
    · exact h.elim
  · exact h.elim
theorem count_eqU {x : V} : ∀ {xs : List V} {us : List Value}, Vals xs us → xs.all flatV = true → us.countP (eqU x) = xs.countP fun y => eqV y x
  | _, _, .nil, _ => rfl
  | y :: xs, u :: us, .cons r t, f => by
    rw [List.all_cons, Bool.and_eq_true] at f
    rw [List.countP_cons, List.countP_cons, eqU_of r f.1, count_eqU t f.2]
def uLCount : V → List V → Hp → VK → Prop := fun x vs H Q => match x, vs with
  | .ref l, [y] => (match H l with
    | some (.lst xs) => (flatV y = true ∧ xs.all flatV = true) ∧ Q (.int (xs.countP (fun z => eqV z y) : Nat)) H
    | _ => False)
  | _, _ => False
theorem u_lcount : MtR X "list.count" uLCount := by
  intro pins s σ H x xs v us Q I rx rxs h
  unfold uLCount at h
  split at h
  · rename_i p y
    split at h
    · rename_i ys e
      obtain ⟨⟨fy, fys⟩, q⟩ := h
      cases rx
      obtain ⟨u, rfl, ru⟩ := rxs.one
      obtain ⟨its, rv, ⟨⟨cls, dd, data, sl⟩, n, ho, hc, hdn, hd⟩, hlen⟩ := I.list (SqL.of e)
      simp only at hc hd
      subst hc hd
      refine call_meets PySem.F.slot_list_count ⟨_, ho, rfl⟩ PySem.F.entry_list_count (PySem.F.args_list_count_2 _ _)
        (SeqAt.list_countAt p its.toArray n dd sl u (eqU y)) ⟨ho, fun z hz => mem_eqAt ru fy rv fys z (by simpa using hz), ?_⟩
      have ec : its.toArray.toList.countP (eqU y) = ys.countP (fun z => eqV z y) := count_eqU rv fys
      refine ⟨.int (ys.countP (fun z => eqV z y) : Nat), H, I.tok _, ⟨s.toks, ?_⟩, q⟩
      show Value.int ((its.toArray.toList.countP (eqU y) : Nat) : Int) s.toks = Value.int ((ys.countP (fun z => eqV z y) : Nat) : Int) s.toks
      rw [ec]
    · exact h.elim
  · exact h.elim
/-- tuple.index of a whole number that is there -/
def uTIndex : V → List V → Hp → VK → Prop := fun x vs H Q => match x, vs with
  | .ref p, [.int k] => (match H p with
    | some (.frz _ (.tup xs)) => ∃ ns : List Int, xs = ns.map V.int ∧ k ∈ ns ∧ Q (.int (ns.idxOf k : Nat)) H
    | _ => False)
  | _, _ => False
theorem u_tindex : MtR X "tuple.index" uTIndex := by
  intro pins s σ H x xs v us Q I rx rxs h
  unfold uTIndex at h
  split at h
  · rename_i p k
    split at h
    · rename_i ys e
      obtain ⟨ns, rfl, hk, q⟩ := h
      cases rx
      obtain ⟨u, rfl, ru⟩ := rxs.one
      obtain ⟨t, rfl⟩ := ru
      obtain ⟨its, rv, pl, hz⟩ := I.tuple (.inl (.inr ⟨_, e⟩))
      exact PySem.SeqAt.tuple_index_ints pl (ints_of_vals rv) hk ⟨.int (ns.idxOf k : Nat), H, I.tok _, ⟨_, rfl⟩, q⟩
    · exact h.elim
  · exact h.elim
end
end Cv
end
section
namespace Cv
open PySem L2
theorem atI_n {α : Type} {xs : List α} {k : Nat} : atI xs (k : Int) = xs[k]? := by
  unfold atI ixN
  by_cases h : k < xs.length
  · rw [if_pos (by omega), if_pos (by omega)]
    simp
  · rw [if_pos (by omega), if_neg (by omega), List.getElem?_eq_none (by omega)]
    rfl
theorem atI_0 {α : Type} {a : α} {l : List α} : atI (a :: l) (0 : Int) = some a := atI_n (k := 0)
theorem atI_1 {α : Type} {a b : α} {l : List α} : atI (a :: b :: l) (1 : Int) = some b := atI_n (k := 1)
theorem atI_2 {α : Type} {a b c : α} {l : List α} : atI (a :: b :: c :: l) (2 : Int) = some c := atI_n (k := 2)
theorem atI_3 {α : Type} {a b c d : α} {l : List α} : atI (a :: b :: c :: d :: l) (3 : Int) = some d := atI_n (k := 3)
theorem atI_4 {α : Type} {a b c d e : α} {l : List α} : atI (a :: b :: c :: d :: e :: l) (4 : Int) = some e := atI_n (k := 4)
theorem if_true_eq {A B : Prop} : (if true = true then A else B) = A := if_pos rfl
theorem if_false_eq {A B : Prop} : (if false = true then A else B) = B := if_neg Bool.false_ne_true
theorem isaV_int {H : Hp} {i : Int} {T : String} : isaV H (.int i) T = some (T == "int") := rfl
theorem isaV_bl {H : Hp} {b : Bool} {T : String} : isaV H (.bl b) T = some (T == "bool" || T == "int") := rfl
theorem isaV_str {H : Hp} {z : Str} {T : String} : isaV H (.str z) T = some (T == "str") := rfl
theorem isaV_non {H : Hp} {T : String} : isaV H .non T = some false := rfl
theorem isa_ref_int {H : Hp} {p : Addr} (k : (isaV H (.ref p) "int").isSome = true) : isaV H (.ref p) "int" = some false := by
  unfold isaV at k ⊢
  simp only at k ⊢
  split at k <;> simp_all
theorem ok_int : ("int" ∈ okTy) = True := by decide
theorem ok_bool : ("bool" ∈ okTy) = True := by decide
theorem ok_str : ("str" ∈ okTy) = True := by decide
theorem ok_list : ("list" ∈ okTy) = True := by decide
theorem ok_tuple : ("tuple" ∈ okTy) = True := by decide
end Cv
end
section
namespace Cv
open PySem L2
/-! ### comprehensions -/
def MonoG (g : TG) : Prop := ∀ v σ H (Q Q' : L2.St → Hp → Prop), (∀ σ' H', Q σ' H' → Q' σ' H') → g v σ H Q → g v σ H Q'
theorem mono_name {i : Nat} : MonoG (gName i) := fun _ _ _ _ _ k h => k _ _ h
def MonoGs (g : TGs) : Prop := ∀ v σ H (Q Q' : L2.St → Hp → Prop), (∀ σ' H', Q σ' H' → Q' σ' H') → g v σ H Q → g v σ H Q'
theorem mono_nil : MonoGs uNil := fun v σ H Q Q' k h => by
  unfold uNil at h ⊢
  split at h
  · exact k _ _ h
  · exact h.elim
theorem mono_cons {t : TG} {u : TGs} (ht : MonoG t) (hu : MonoGs u) : MonoGs (uCons t u) := fun v σ H Q Q' k h => by
  unfold uCons at h ⊢
  split at h
  · exact ht _ _ _ _ _ (fun σ' H' q => hu _ _ _ _ _ k q) h
  · exact h.elim
theorem mono_tup {n : Nat} {t : TGs} (ht : MonoGs t) : MonoG (uTup n t) := fun v σ H Q Q' k h => by
  unfold uTup at h ⊢
  split at h
  · split at h
    · exact ⟨h.1, ht _ _ _ _ _ k h.2⟩
    · exact h.elim
  · exact h.elim
theorem same_upd {H H' : Hp} {D : Addr} {o : HO} (e : Same H H') (h : H D = none) : Same H (upd H' D o) := fun b u hb => by
  rw [upd_ne (ne_of_none hb h)]
  exact e b u hb
theorem same_new {H : Hp} {D : Addr} {o : HO} (h : H D = none) : Same H (upd H D o) := same_upd (Same.refl H) h
/-- the values that the turns below n give -/
def vals (f : Nat → V) (keep : Nat → Bool) (n : Nat) : List V := ((List.range n).filter keep).map f
theorem vals_succ (f : Nat → V) (keep : Nat → Bool) (n : Nat) : vals f keep (n + 1) = if keep n = true then vals f keep n ++ [f n] else vals f keep n := by
  unfold vals
  rw [List.range_succ, List.filter_append, List.map_append]
  by_cases h : keep n = true <;> simp [h]
theorem vals_len (f : Nat → V) (keep : Nat → Bool) (n : Nat) : (vals f keep n).length ≤ n := by
  unfold vals
  rw [List.length_map]
  have h := List.length_filter_le keep (List.range n)
  rw [List.length_range] at h
  exact h
theorem vals_all (f : Nat → V) (n : Nat) : vals f (fun _ => true) n = (List.range n).map f := by
  unfold vals
  rw [List.filter_eq_self.mpr (fun _ _ => rfl)]
/-- a comprehension behind its iterable -/
def LcB (g : TG) (tt : TT) (te : TE) (vs : List Nat) (σ : L2.St) (Q : VK) (J : It) (H1 : Hp) : Prop := ∀ D, H1 D = none → ∃ W : Nat → Nat → Hp → Prop, (∃ m, W 0 m (upd H1 D (.lst []))) ∧ ∀ i m H, W i m H →
  (J.stop i H ∧ Q (.ref D) H) ∨ (J.go i H ∧ ∃ Nx : Hp → Prop, (∀ H', Nx H' → ∃ m', m' < m ∧ W (i + 1) m' H') ∧ ∀ x H', J.yld i H x H' → g x (wipe σ vs) H' fun σ2 H2 => wipe σ2 vs = wipe σ vs ∧ tt σ2 H2 fun b H3 =>
    if b = true then te σ2 H3 fun y H4 => ∃ acc, H4 D = some (.lst acc) ∧ acc.length < sizeLine ∧ Nx (upd H4 D (.lst (acc ++ [y]))) else Nx H3)
theorem tLc_eq {wi : TI} {g : TG} {tt : TT} {te : TE} {vs : List Nat} {σ : L2.St} {H : Hp} {Q : VK} : tLc wi g tt te vs σ H Q = wi σ H (LcB g tt te vs σ Q) := rfl
/-- a for behind its iterable -/
def ForB (g : TG) (tb : TS) (D : Ends) (σ : L2.St) (J : It) (H1 : Hp) : Prop := ∃ W : Nat → Nat → L2.St → Hp → Prop, (∃ m, W 0 m σ H1) ∧ ∀ i m σ H, W i m σ H →
  (J.stop i H ∧ D.nx σ H) ∨ (J.go i H ∧ ∃ N : L2.St → Hp → Prop, (∀ σ' H', N σ' H' → ∃ m', m' < m ∧ W (i + 1) m' σ' H') ∧ ∀ x H', J.yld i H x H' → g x σ H' fun σ2 H2 => tb { D with nx := N, ct := N, bk := D.nx } σ2 H2)
theorem tFor_eq {wi : TI} {g : TG} {tb : TS} {D : Ends} {σ : L2.St} {H : Hp} : tFor wi g tb D σ H = wi σ H (ForB g tb D σ) := rfl
/-- a for by what holds between the turns -/
theorem for_pv {J : It} {n : Nat} {G : Hp → Prop} {Y : Nat → Hp → V → Hp → Prop} {g : TG} {tb : TS} {D : Ends} {σ : L2.St} {H : Hp} (w : Walk J n G Y) (Pv : Nat → L2.St → Hp → Prop) (h0 : Pv 0 σ H) (hG : ∀ i σ H, i ≤ n → Pv i σ H → G H)
    (hs : ∀ i x σ H H', i < n → Pv i σ H → Y i H x H' → g x σ H' fun σ2 H2 => tb { D with nx := Pv (i + 1), ct := Pv (i + 1), bk := D.nx } σ2 H2) (hd : ∀ σ H, Pv n σ H → D.nx σ H) : ForB g tb D σ J H := for_it w Pv h0 hG hs hd
/-- a while by what holds between the turns and a number that falls -/
theorem while_pv {c : TT} {tb : TS} {D : Ends} {σ : L2.St} {H : Hp} (W : Nat → L2.St → Hp → Prop) (m0 : Nat) (h0 : W m0 σ H)
    (hs : ∀ m σ H, W m σ H → c σ H fun b H1 => if b = true then tb { D with nx := fun σ' H' => ∃ m', m' < m ∧ W m' σ' H', ct := fun σ' H' => ∃ m', m' < m ∧ W m' σ' H', bk := D.nx } σ H1 else D.nx σ H1) (hc : ∀ σ H (Q Q' : Bool → Hp → Prop), (∀ b H', Q b H' → Q' b H') → c σ H Q → c σ H Q') : tWhile c tb D σ H := by
  refine ⟨W, ⟨m0, h0⟩, fun m σ H hw => hc σ H _ _ (fun b H' q => ?_) (hs m σ H hw)⟩
  cases b with
  | true => exact ⟨_, fun _ _ n => n, q⟩
  | false => exact q
/-- a comprehension whose turns change nothing that stood: f i, where keep i -/
theorem lc_pure {g : TG} {tt : TT} {te : TE} {vs : List Nat} {σ : L2.St} {H1 : Hp} {Q : VK} {J : It} {n : Nat} {G : Hp → Prop} {Y : Nat → Hp → V → Hp → Prop} (hm : MonoG g)
    (w : Walk J n G Y) (hn : n ≤ 100000) (hG : ∀ H', Same H1 H' → G H') (f : Nat → V) (keep : Nat → Bool)
    (hs : ∀ i x H' H'', i < n → Same H1 H' → Y i H' x H'' → g x (wipe σ vs) H'' fun σ2 H2 => wipe σ2 vs = wipe σ vs ∧ Same H' H2 ∧
      (∀ QT : Bool → Hp → Prop, (∀ H3, Same H2 H3 → QT (keep i) H3) → tt σ2 H2 QT) ∧ (keep i = true → ∀ H3, Same H2 H3 → ∀ Q' : VK, (∀ H4, Same H3 H4 → Q' (f i) H4) → te σ2 H3 Q'))
    (hQ : ∀ p H', Same H1 H' → H1 p = none → H' p = some (.lst (vals f keep n)) → Q (.ref p) H') : LcB g tt te vs σ Q J H1 := by
  refine fun D hD => ?_
  refine lc_it w (fun i H' => Same H1 H' ∧ H' D = some (.lst (vals f keep i))) ⟨same_new hD, upd_same⟩ (fun i H' _ p => hG H' p.1) (fun i x H' H'' hi p y => ?_) (fun H' p => hQ D H' p.1 hD p.2)
  refine hm _ _ _ _ _ (fun σ2 H2 q => ?_) (hs i x H' H'' hi p.1 y)
  obtain ⟨q1, q2, q3, q4⟩ := q
  refine ⟨q1, q3 _ fun H3 e3 => ?_⟩
  have hl := vals_len f keep i
  have sl : (100000 : Nat) < sizeLine := by rw [sizeLine_eq]; decide
  by_cases hk : keep i = true
  · rw [hk, if_pos rfl]
    refine q4 hk H3 e3 _ fun H4 e4 => ⟨vals f keep i, e4 _ _ (e3 _ _ (q2 _ _ p.2)), by omega, ?_, ?_⟩
    · exact same_upd (p.1.trans (q2.trans (e3.trans e4))) hD
    · rw [vals_succ, if_pos hk]
      exact upd_same
  · rw [if_neg hk]
    refine ⟨p.1.trans (q2.trans e3), ?_⟩
    rw [vals_succ, if_neg hk]
    exact e3 _ _ (q2 _ _ p.2)
theorem walk_zipT {K : PySem.W.Frag} {a b : Addr} {xs ys : List V} {n : Nat} (hn : n = min xs.length ys.length) : Walk (RZ.ItzT K a b) n (fun H => SqT K H a xs ∧ SqT K H b ys) (YPair (fun i => xs[i]?) (fun i => ys[i]?)) := by
  subst hn
  refine ⟨fun i _ hi q => ?_, fun _ q => ⟨xs, ys, q.1, q.2, by omega⟩, fun i H v H' _ q y => ?_⟩
  · have h1 : i < xs.length := by omega
    have h2 : i < ys.length := by omega
    exact ⟨xs, ys, xs[i], ys[i], q.1, q.2, by simp [h1], by simp [h2]⟩
  · obtain ⟨T, x, z, h1, h2, h3, h4, h5⟩ := y
    exact ⟨T, x, z, h1, h2, h3, h4 xs q.1, h5 ys q.2⟩
end Cv
end
section
/-! plain: from yard to yard by ways -/
namespace Cv
open PySem L2
/-- a way between two of n yards -/
def WayOk (n : Nat) (x : List Int) : Prop := ∃ a b l f : Int, x = [a, b, l, f] ∧ 0 ≤ a ∧ a < b ∧ b < n ∧ 0 ≤ l ∧ l ≤ 5 ∧ 1 ≤ f ∧ f ≤ 99
/-- each yard but the first has a way from a lesser one -/
def Joined (n : Nat) (ws : List (List Int)) : Prop := ∀ k : Int, 1 ≤ k → k < n → ∃ x ∈ ws, ∃ a l f : Int, x = [a, k, l, f]
theorem inV_int (a : Int) (fs : List Int) : inV (.int a) (fs.map V.int) = decide (a ∈ fs) := by
  induction fs with
  | nil => rfl
  | cons x r ih =>
    unfold inV at ih ⊢
    rw [List.map_cons, List.any_cons, ih]
    by_cases h : a = x
    · subst h
      simp [eqV]
    · have h' : ¬ x = a := fun e => h e.symm
      simp [eqV, h, h']
theorem flat_ints (fs : List Int) : (fs.map V.int).all flatV = true := by
  simp [flatV]
/-- what a turn puts to the yards found -/
def ext (fs : List Int) (a b : Int) : List Int := fs ++ [a, b].filter fun y => !decide (y ∈ fs)
structure Fnd (n : Nat) (fs : List Int) : Prop where
  nd : fs.Nodup
  bd : ∀ x ∈ fs, 0 ≤ x ∧ x < n
theorem Fnd.len {n : Nat} {fs : List Int} (h : Fnd n fs) : fs.length ≤ n := by
  have h1 : (fs.map Int.toNat).Nodup := by
    rw [List.nodup_iff_pairwise_ne, List.pairwise_map]
    refine (List.nodup_iff_pairwise_ne.mp h.nd).imp_of_mem fun {x y} hx hy ne e => ne ?_
    have h1 := h.bd x hx
    have h2 := h.bd y hy
    omega
  have h2 : (fs.map Int.toNat).Subset (List.range n) := fun k hk => by
    obtain ⟨x, hx, rfl⟩ := List.mem_map.mp hk
    have := h.bd x hx
    exact List.mem_range.mpr (by omega)
  have h3 := List.Nodup.length_le_of_subset h1 h2
  simpa using h3
theorem Fnd.ext {n : Nat} {fs : List Int} {a b : Int} (h : Fnd n fs) (hab : a ≠ b) (ha : 0 ≤ a ∧ a < n) (hb : 0 ≤ b ∧ b < n) : Fnd n (ext fs a b) := by
  refine ⟨?_, fun x hx => ?_⟩
  · unfold Cv.ext
    rw [List.nodup_append]
    refine ⟨h.nd, ?_, fun x hx y hy e => ?_⟩
    · exact List.Pairwise.filter _ (show [a, b].Nodup by simp [hab])
    · subst e
      have := (List.mem_filter.mp hy).2
      simp [hx] at this
  · rcases List.mem_append.mp hx with hx | hx
    · exact h.bd x hx
    · have := (List.mem_filter.mp hx).1
      simp at this
      rcases this with rfl | rfl
      · exact ha
      · exact hb
theorem ext_has {fs : List Int} {a b : Int} : a ∈ ext fs a b ∧ b ∈ ext fs a b := by
  unfold ext
  constructor
  · by_cases h : a ∈ fs
    · exact List.mem_append.mpr (.inl h)
    · exact List.mem_append.mpr (.inr (List.mem_filter.mpr ⟨by simp, by simp [h]⟩))
  · by_cases h : b ∈ fs
    · exact List.mem_append.mpr (.inl h)
    · exact List.mem_append.mpr (.inr (List.mem_filter.mpr ⟨by simp, by simp [h]⟩))
/-- behind the search all yards are found -/
theorem all_found {n : Nat} {ws : List (List Int)} {fs : List Int} (hn : 1 ≤ n) (hw : ∀ x ∈ ws, WayOk n x) (hj : Joined n ws) (h : Fnd n fs) (h0 : (0 : Int) ∈ fs)
    (hc : ∀ x ∈ ws, ∀ a b l f : Int, x = [a, b, l, f] → a ∈ fs ∨ b ∈ fs → a ∈ fs ∧ b ∈ fs) : fs.length = n := by
  have key : ∀ k : Nat, k < n → (k : Int) ∈ fs := by
    intro k
    induction k using Nat.strongRecOn with
    | ind k ih =>
      intro hk
      by_cases hz : k = 0
      · subst hz
        exact h0
      · obtain ⟨x, hx, a, l, f, rfl⟩ := hj k (by omega) (by omega)
        obtain ⟨a', b', l', f', e, h1, h2, h3, _⟩ := hw _ hx
        cases e
        have ha : a ∈ fs := by
          have := ih a.toNat (by omega) (by omega)
          rwa [Int.toNat_of_nonneg h1] at this
        exact (hc _ hx _ _ _ _ rfl (.inl ha)).2
  have h1 : ((List.range n).map fun k : Nat => (k : Int)).Nodup := by
    rw [List.nodup_iff_pairwise_ne, List.pairwise_map]
    exact (List.nodup_iff_pairwise_ne.mp List.nodup_range).imp fun ne e => ne (by omega)
  have h2 : ((List.range n).map fun k : Nat => (k : Int)).Subset fs := fun x hx => by
    obtain ⟨k, hk, rfl⟩ := List.mem_map.mp hx
    exact key k (List.mem_range.mp hk)
  have h3 := List.Nodup.length_le_of_subset h1 h2
  have h4 := h.len
  simp at h3
  omega
end Cv
end
section
/-! sorted of data -/
namespace Cv
open PySem L2
open PySem.Spec PyProof.Rows
/-- the less of two data comes first -/
def leD (p q : V × PyData) : Bool := !PySem.W.dataLt q.2 p.2
theorem leD_eq : PySem.W.dataLe false (fun b : V × PyData => b.2) = leD := by
  rw [PySem.W.dataLe_eq]
  rfl
theorem each_vals {xs : List V} {its : List Value} (r : Vals xs its) : ∀ {bs : List (V × PyData)}, xs = bs.map (·.1) → PySem.W.EachIs (fun v b => RelV b.1 v) its bs := by
  induction r with
  | nil =>
    intro bs e
    cases bs with
    | nil => exact .nil
    | cons b bs => cases e
  | cons h t ih =>
    intro bs e
    cases bs with
    | nil => cases e
    | cons b bs =>
      rw [List.map_cons] at e
      injection e with e1 e2
      subst e1
      exact .cons h (ih e2)
theorem vals_each {bs : List (V × PyData)} {its : List Value} (e : PySem.W.EachIs (fun v b => RelV b.1 v) its bs) : Vals (bs.map (·.1)) its := by
  induction e with
  | nil => exact .nil
  | cons h t ih => exact .cons h ih
mutual
theorem reads_lt {h : Heap} : ∀ {v : Value} {d : PyData} {as : List Addr}, Reads h v d as → ∀ a ∈ as, a < h.objs.size
  | _, _, _, .none, a, ha => by cases ha
  | _, _, _, .bool _, a, ha => by cases ha
  | _, _, _, .int _ _, a, ha => by cases ha
  | _, _, _, .str _ _, a, ha => by cases ha
  | _, _, _, .list h1 _ _ r, a, ha => by
    rcases List.mem_cons.mp ha with rfl | ha
    · exact Heap.lt_size h1
    · exact readsAll_lt r a ha
  | _, _, _, .tuple _ _ _ r, a, ha => readsAll_lt r a ha
  | _, _, _, .dict h1 _ _ r1 r2, a, ha => by
    rcases List.mem_append.mp ha with ha | ha
    · rcases List.mem_cons.mp ha with rfl | ha
      · exact Heap.lt_size h1
      · exact readsAll_lt r1 a ha
    · exact readsAll_lt r2 a ha
theorem readsAll_lt {h : Heap} : ∀ {vs : List Value} {ds : List PyData} {as : List Addr}, ReadsAll h vs ds as → ∀ a ∈ as, a < h.objs.size
  | _, _, _, .nil, a, ha => by cases ha
  | _, _, _, .cons r1 r2, a, ha => by
    rcases List.mem_append.mp ha with ha | ha
    · exact reads_lt r1 a ha
    · exact readsAll_lt r2 a ha
end
section
variable {X : Cx}
/-- what is to be sorted: values, each with the data that it stands for -/
structure Sorts (K : PySem.W.Frag) (H : Hp) (bs : List (V × PyData)) : Prop where
  dp : ∀ b ∈ bs, Dp K H b.1 b.2
  al : PySem.W.AllAlike (bs.map (·.2))
  so : PySem.W.Sortable (bs.map (·.2))
  de : ∀ b ∈ bs, b.2.depth ≤ 20
theorem each_reads {pins : List (Addr × Obj)} {σ : L2.St} {H : Hp} {s : Shared} (I : Inv X pins σ H s) {its : List Value} {bs : List (V × PyData)} (e : PySem.W.EachIs (fun v b => RelV b.1 v) its bs) (hd : ∀ b ∈ bs, Dp X.K H b.1 b.2) : PySem.W.EachIs (fun v b => ∃ as, Reads s.heap v b.2 as) its bs := by
  induction e with
  | nil => exact .nil
  | cons h t ih => exact .cons (Dp.reads I _ _ _ (hd _ (by simp)) h) (ih fun b hb => hd b (by simp [hb]))
def uSortedL (K : PySem.W.Frag) : List V → Hp → VK → Prop := fun vs H Q => match vs with
  | [.ref a] => (match H a with
    | some (.lst xs) => ∃ bs : List (V × PyData), xs = bs.map (·.1) ∧ Sorts K H bs ∧ NewL ((bs.mergeSort leD).map (·.1)) H Q
    | _ => False)
  | _ => False
theorem u_sortedL (hu : X.A.units + 64 < cLine) : CallR X (.builtin "sorted") (uSortedL X.K) := by
  intro pins s σ H vs us Q I r h
  unfold uSortedL at h
  split at h
  · rename_i a
    split at h
    · rename_i xs ea
      obtain ⟨bs, ex, S, q⟩ := h
      obtain ⟨its, rv, hl, hz⟩ := I.list (SqL.of ea)
      rw [Vals.ref1 r]
      have e := each_vals rv ex
      have hlen : bs.length = xs.length := by rw [ex, List.length_map]
      refine PySem.W.sorted_data (R := fun v b => RelV b.1 v) (enc := fun b : V × PyData => b.2) hl.isList e (each_reads I e S.dp) S.al S.so (by omega) (fun b hb => by have := S.de b hb; omega) fun out ho h1 => ?_
      rw [leD_eq] at h1
      obtain ⟨ep, he'⟩ := PyProof.Rows.sortedAll_at s.heap its out.toArray
      have hlen2 : ((bs.mergeSort leD).map (·.1)).length ≤ sizeLine := by rw [List.length_map, List.length_mergeSort]; omega
      exact ⟨.ref _, upd H (s.heap.objs.size + 1) (.lst ((bs.mergeSort leD).map (·.1))), I.laid (t' := s.toks) (fun _ _ => PyProof.Rows.sortedAll_old) (Nat.le_succ _) ⟨hlen2, out, ep, vals_each h1, he'⟩, rfl, al_lst q _ (I.hok.fresh (Nat.le_succ _))⟩
    · exact h.elim
  · exact h.elim
/-- a dict's key as data -/
def kD1 : Key → PyData
  | .inl i => .int i
  | .inr x => .str x
def kD (k : List Key) : PyData := .tuple (k.map kD1)
def keyed (cs : List Addr) (kvs : List (List Key × V)) : List (V × PyData) := List.zipWith (fun c kv => (V.ref c, kD kv.1)) cs kvs
theorem keyed_fst : ∀ {kvs : List (List Key × V)} {cs : List Addr}, cs.length = kvs.length → (keyed cs kvs).map (·.1) = cs.map V.ref
  | [], [], _ => rfl
  | [], _ :: _, h => by cases h
  | _ :: _, [], h => by cases h
  | kv :: kvs, c :: cs, h => by
    have ih := keyed_fst (kvs := kvs) (cs := cs) (by simpa using h)
    unfold keyed at ih ⊢
    rw [List.zipWith_cons_cons, List.map_cons, List.map_cons, ih]
def uSortedDT (K : PySem.W.Frag) : List V → Hp → VK → Prop := fun vs H Q => match vs with
  | [.ref a] => (match H a with
    | some (.dT kvs) => ∀ cs, IsKeys H kvs cs → Sorts K H (keyed cs kvs) ∧ NewL (((keyed cs kvs).mergeSort leD).map (·.1)) H Q
    | _ => False)
  | _ => False
theorem u_sortedDT (hcalm : X.calm = true) (hu : X.A.units + 64 < cLine) : CallR X (.builtin "sorted") (uSortedDT X.K) := by
  intro pins s σ H xs us Q I r h
  unfold uSortedDT at h
  split at h
  · rename_i d
    split at h
    · rename_i kvs hd
      obtain ⟨u, eu, rx⟩ := vals1 r
      subst eu
      cases rx
      obtain ⟨z, hs, ks, pr, o, es, ep, ho, hx, hdt, he, hn⟩ := (show ObjOk X.prog X.w H s.heap d (.dT kvs) from I.hok d _ hd)
      have l1 : es.size = ks.length := size_of_entries he
      have l2 : kvs.length = ks.length := Paired.length pr
      obtain ⟨S, q⟩ := h (ks.map fun x => x.2.1) (isKeys_of pr)
      refine Calls.call_function_entry PyProof.Rows.kind_sorted PyProof.Rows.plain_sorted PyProof.Rows.entry_sorted (PyProof.Rows.args_sorted1 _) ?_
      unfold Builtin.«sorted»
      refine wpAny_bind (m := checkCount "sorted" 1 1 _) (wpAny_pure ?_)
      refine wpAny_bind (PySem.W.kdu_collect (A := X.A.in1) (kdl_raw hs hx hdt) (I.ok.hd hcalm) ho (by omega) fun h' tk acc hk it => ?_)
      have ea : acc.toList = ks.map fun x => Value.ref x.2.1 := by
        have hl : acc.toList.length = ks.length := by rw [Array.length_toList, it.1]; exact l1
        apply List.ext_getElem?
        intro j
        rw [List.getElem?_map]
        cases hj : acc.toList[j]? with
        | none =>
          have h1 := List.getElem?_eq_none_iff.mp hj
          rw [List.getElem?_eq_none (by omega)]
          all_goals rfl
        | some v =>
          obtain ⟨en, hen, hv⟩ := it.2 j v (by rw [← Array.getElem?_toList]; exact hj)
          have qe := entry_at he j
          rw [hen] at qe
          cases hb : ks[j]? with
          | none =>
            rw [hb] at qe
            exact nomatch (show some en = none from qe)
          | some b =>
            rw [hb] at qe
            have e2 : en = entryOfKey (tupleKind (mixKind X.prog X.w)) b := Option.some.inj qe
            rw [hv, e2]
            all_goals rfl
      have hlc : (ks.map fun x => x.2.1).length = kvs.length := by rw [List.length_map]; omega
      have eb : acc.toList = (ks.map fun x => x.2.1).map Value.ref := by rw [ea, List.map_map]; all_goals rfl
      have rv : Vals ((ks.map fun x => x.2.1).map V.ref) acc.toList := by rw [eb]; exact vals_refs _
      have e := each_vals rv (keyed_fst hlc).symm
      have I1 : Inv X pins σ H { s with heap := h', toks := tk } := I.kept hk
      have hal : acc.toList.length = kvs.length := by rw [ea, List.length_map]; omega
      refine wpAny_bind (wpAny_newList ?_ (by omega))
      have hoL : (h'.push (seqObj "list" acc.toList.toArray 0)).get? h'.objs.size = some (seqObj "list" acc.toList.toArray 0) := Heap.get?_push_size _ rfl
      show wpAny _ _ _ _ _ { s with heap := h'.push (seqObj "list" acc.toList.toArray 0), toks := tk }
      have er0 := each_reads I1 e S.dp
      have hbl : (keyed (ks.map fun x => x.2.1) kvs).length = kvs.length := by
        have := congrArg List.length (keyed_fst hlc)
        rw [List.length_map, List.length_map] at this
        omega
      have er : PySem.W.EachIs (fun v b => ∃ as, Reads (h'.push (seqObj "list" acc.toList.toArray 0)) v b.2 as ∧ h'.objs.size ∉ as) acc.toList (keyed (ks.map fun x => x.2.1) kvs) := er0.mono fun v b ⟨as, rr⟩ => by
        refine ⟨as, PyProof.Rows.Reads.keeps (fun _ _ => Heap.get?_push_of_some _) rr, fun hm => Nat.lt_irrefl _ (reads_lt rr _ hm)⟩
      refine wpAny_bind (wpAny_holding (PySem.W.list_sort_data (s := { s with heap := h'.push (seqObj "list" acc.toList.toArray 0), toks := tk }) (R := fun v b => RelV b.1 v) (enc := fun b : V × PyData => b.2) hoL e er S.al S.so (by omega) (fun b hb => by have := S.de b hb; show X.A.units + 1 + 1 + _ < _; omega) fun out ho h1 => ?_))
      rw [leD_eq] at h1
      obtain ⟨e', he'⟩ := PyProof.Rows.sortedHeap_at (vs := acc.toList) (out := out.toArray) hoL
      have hlen : (((keyed (ks.map fun x => x.2.1) kvs).mergeSort leD).map (·.1)).length ≤ sizeLine := by
        rw [List.length_map, List.length_mergeSort, hbl]
        exact z
      refine wpAny_pure ⟨_, rfl, .ref h'.objs.size, upd H h'.objs.size (.lst (((keyed (ks.map fun x => x.2.1) kvs).mergeSort leD).map (·.1))), I1.laid (t' := tk) (fun b u e => ?_) (Nat.le_refl _)
        (show ObjOk X.prog X.w _ _ _ (.lst _) from ⟨hlen, out, e', vals_each h1, he'⟩), rfl, al_lst q _ (I1.hok.fresh (Nat.le_refl _))⟩
      have hb : b < h'.objs.size := Heap.lt_size e
      rw [PyProof.Rows.sortedHeap_old (Nat.ne_of_lt hb) (by rw [size_push']; exact Nat.lt_succ_of_lt hb)]
      exact Heap.get?_push_of_some _ e
    · exact h.elim
  · exact h.elim
end
end Cv
end
section
/-! sorted keys of whole numbers -/
namespace Cv
open PySem L2
theorem lexLt_lt : ∀ xs ys : List Int, HT.lexLt xs ys = decide (xs < ys)
  | [], [] => by simp [HT.lexLt]
  | [], y :: ys => by simp [HT.lexLt]
  | x :: xs, [] => by simp [HT.lexLt]
  | x :: xs, y :: ys => by
    rw [HT.lexLt_cons]
    by_cases h : x = y
    · rw [if_pos h, lexLt_lt xs ys]
      simp [h, List.cons_lt_cons_iff]
    · rw [if_neg h]
      simp [h, List.cons_lt_cons_iff]
theorem lt_data (xs ys : List Int) : PySem.W.dataLt (.tuple (xs.map .int)) (.tuple (ys.map .int)) = decide (xs < ys) := by
  rw [PySem.W.dataLt_tuple]
  exact PySem.W.dataLt_ints xs ys
theorem leD_total : PySem.W.TotalLe leD := by
  rw [← leD_eq]
  exact PySem.W.sortLe_total _ _ _
def kInts (k : List Key) : List Int := k.map fun
  | .inl i => i
  | .inr _ => 0
theorem kInts_inl (k : List Int) : kInts (k.map Sum.inl) = k := by
  unfold kInts
  rw [List.map_map]
  exact List.map_id' k
theorem kD_inl (k : List Int) : kD (k.map Sum.inl) = .tuple (k.map .int) := by
  unfold kD
  rw [List.map_map]
  rfl
theorem kV_inl (k : List Int) : (k.map (Sum.inl : Int → Key)).map kV = k.map V.int := by
  rw [List.map_map]
  rfl
/-- a key's tuple, as it is sorted -/
def KeyB (H : Hp) (b : V × PyData) (c : Addr) (k : List Int) : Prop := b = (.ref c, .tuple (k.map .int)) ∧ H c = some (.tup (k.map V.int)) ∧ k ≠ []
def adr : V → Addr
  | .ref c => c
  | _ => 0
def intD : PyData → Int
  | .int i => i
  | _ => 0
def intsD : PyData → List Int
  | .tuple ds => ds.map intD
  | _ => []
theorem intsD_ints (k : List Int) : intsD (.tuple (k.map .int)) = k := by
  show (k.map PyData.int).map intD = k
  rw [List.map_map]
  exact List.map_id' k
def IntKeys (kvs : List (List Key × V)) : Prop := ∀ kv ∈ kvs, ∃ k : List Int, kv.1 = k.map Sum.inl ∧ k ≠ []
theorem keyed_all {H : Hp} : ∀ {kvs : List (List Key × V)} {cs : List Addr}, IntKeys kvs → IsKeys H kvs cs → ∀ b ∈ keyed cs kvs, ∃ c k, KeyB H b c k
  | [], _, _, h, b, hb => by
    cases h
    cases hb
  | kv :: kvs, _, hk, h, b, hb => by
    cases h with
    | cons h1 h2 =>
      rename_i c cs
      unfold keyed at hb
      rw [List.zipWith_cons_cons] at hb
      rcases List.mem_cons.mp hb with rfl | hb
      · obtain ⟨k, e, hn⟩ := hk kv (by simp)
        refine ⟨c, k, ?_, ?_, hn⟩
        · rw [e, kD_inl]
        · rw [← kV_inl, ← e]
          exact h1
      · exact keyed_all (fun z hz => hk z (by simp [hz])) h2 b hb
theorem keyed_ints {H : Hp} : ∀ {kvs : List (List Key × V)} {cs : List Addr}, IntKeys kvs → IsKeys H kvs cs → (keyed cs kvs).map (fun b => intsD b.2) = kvs.map fun kv => kInts kv.1
  | [], _, _, h => by
    cases h
    rfl
  | kv :: kvs, _, hk, h => by
    cases h with
    | cons h1 h2 =>
      rename_i c cs
      have ih := keyed_ints (fun z hz => hk z (by simp [hz])) h2
      obtain ⟨k, e, hn⟩ := hk kv (by simp)
      unfold keyed at ih ⊢
      rw [List.zipWith_cons_cons, List.map_cons, List.map_cons, ih, e, kD_inl, intsD_ints, kInts_inl]
theorem dp_ints {K : PySem.W.Frag} {H : Hp} : ∀ k : List Int, DpAll K H (k.map V.int) (k.map .int)
  | [] => .nil
  | i :: k => .cons (.int i) (dp_ints k)
theorem sort_keys {K : PySem.W.Frag} {H : Hp} {kvs : List (List Key × V)} {cs : List Addr} (hk : IntKeys kvs) (hi : IsKeys H kvs cs) :
    Sorts K H (keyed cs kvs) ∧ ∃ (as : List Addr) (ws : List (List Int)), ((keyed cs kvs).mergeSort leD).map (·.1) = as.map V.ref ∧ (as.length = ws.length ∧ ∀ (i : Nat) (a : Addr) (x : List Int), as[i]? = some a → ws[i]? = some x → H a = some (.tup (x.map V.int))) ∧
      ws.Perm (kvs.map fun kv => kInts kv.1) ∧ ws.Pairwise fun x y => ¬ y < x := by
  have hall := keyed_all hk hi
  refine ⟨⟨fun b hb => ?_, fun d hd d' hd' => ?_, .inl fun d hd => ?_, fun b hb => ?_⟩, ((keyed cs kvs).mergeSort leD).map (fun b => adr b.1), ((keyed cs kvs).mergeSort leD).map (fun b => intsD b.2), ?_, ⟨by simp, fun i a x ha hx => ?_⟩, ?_, ?_⟩
  · obtain ⟨c, k, rfl, h2, h3⟩ := hall b hb
    exact .tup (SqT.of h2) (dp_ints k)
  · obtain ⟨b, hb, rfl⟩ := List.mem_map.mp hd
    obtain ⟨b', hb', rfl⟩ := List.mem_map.mp hd'
    obtain ⟨c, k, rfl, _⟩ := hall b hb
    obtain ⟨c', k', rfl, _⟩ := hall b' hb'
    exact PySem.W.alike_ints k k'
  · obtain ⟨b, hb, rfl⟩ := List.mem_map.mp hd
    obtain ⟨c, k, rfl, _, hn⟩ := hall b hb
    cases k with
    | nil => exact absurd rfl hn
    | cons x r => exact ⟨_, _, rfl⟩
  · obtain ⟨c, k, rfl, _⟩ := hall b hb
    show PyData.depth (.tuple (k.map .int)) ≤ 20
    have h := PySem.W.depth_ints k
    simp [PyData.depth, h]
  · rw [List.map_map]
    refine List.map_congr_left fun b hb => ?_
    obtain ⟨c, k, rfl, _⟩ := hall b (List.mem_mergeSort.mp hb)
    rfl
  · rw [List.getElem?_map] at ha hx
    cases e : ((keyed cs kvs).mergeSort leD)[i]? with
    | none => rw [e] at ha; cases ha
    | some b =>
      rw [e] at ha hx
      obtain ⟨c, k, rfl, h2, _⟩ := hall b (List.mem_mergeSort.mp (List.mem_of_getElem? e))
      have e1 : c = a := Option.some.inj ha
      have e2 : intsD (.tuple (k.map .int)) = x := Option.some.inj hx
      rw [intsD_ints] at e2
      rw [← e1, ← e2]
      exact h2
  · rw [← keyed_ints hk hi]
    exact (List.mergeSort_perm _ _).map _
  · rw [List.pairwise_map]
    refine (PySem.W.sort_pairwise leD_total _).imp_of_mem fun {a b} ha hb h => ?_
    obtain ⟨c, k, rfl, _⟩ := hall a (List.mem_mergeSort.mp ha)
    obtain ⟨c', k', rfl, _⟩ := hall b (List.mem_mergeSort.mp hb)
    unfold leD at h
    rw [lt_data] at h
    simpa [intsD_ints] using h
end Cv
end
section
namespace Cv
open PySem L2
/-- all but b stays -/
def But (b : Addr) (H H' : Hp) : Prop := ∀ a o, a ≠ b → H a = some o → H' a = some o
theorem But.refl (b : Addr) (H : Hp) : But b H H := fun _ _ _ h => h
theorem But.trans {b : Addr} {H H1 H2 : Hp} (x : But b H H1) (y : But b H1 H2) : But b H H2 := fun a o n h => y a o n (x a o n h)
theorem But.upd (b : Addr) (H : Hp) (o : HO) : But b H (upd H b o) := fun a u n h => by rw [upd_ne n]; exact h
theorem But.same {b : Addr} {H H' : Hp} (e : Same H H') : But b H H' := fun a o _ h => e a o h

def uInt1 : List V → Hp → VK → Prop := fun xs H Q => match xs with
  | [.int i] => Q (.int i) H
  | [.bl k] => Q (.int (if k = true then 1 else 0)) H
  | _ => False
theorem u_int1 {X : Cx} : CallR X (.type "int") uInt1 := callR_imp call_int1 fun xs H Q h => by
  unfold uInt1 at h
  split at h
  · exact .inl ⟨_, rfl, h⟩
  · exact .inr ⟨_, rfl, h⟩
  · exact h.elim
/-- a comprehension without tests whose turns may change what stands at b: M of the turn and what is gathered; B, what is known of b -/
theorem lc_acc {g : TG} {te : TE} {vs : List Nat} {σ : L2.St} {H1 : Hp} {Q : VK} {J : It} {n : Nat} {G : Hp → Prop} {Y : Nat → Hp → V → Hp → Prop} {b : Addr} {B : Hp → Prop} (hm : MonoG g)
    (w : Walk J n G Y) (M : Nat → List V → Prop) (hM : M 0 []) (hl : ∀ i acc, M i acc → acc.length ≤ 1000) (hB : ∀ H D o, D ≠ b → B H → B (upd H D o)) (hb : B H1) (hbb : ∃ o, H1 b = some o) (hG : ∀ H', B H' → But b H1 H' → G H')
    (hs : ∀ i x H' H'' acc, i < n → M i acc → B H' → But b H1 H' → Y i H' x H'' → g x (wipe σ vs) H'' fun σ2 H2 => wipe σ2 vs = wipe σ vs ∧ ∀ Q' : VK, (∀ y H4, M (i + 1) (acc ++ [y]) → B H4 → But b H' H4 → Q' y H4) → te σ2 H2 Q')
    (hQ : ∀ p H' acc, M n acc → B H' → But b H1 H' → H1 p = none → H' p = some (.lst acc) → Q (.ref p) H') : LcB g tYes te vs σ Q J H1 := by
  refine fun D hD => ?_
  have hDb : D ≠ b := fun e => by
    obtain ⟨o, ho⟩ := hbb
    rw [e, ho] at hD
    cases hD
  refine lc_it w (fun i H' => ∃ acc, M i acc ∧ B H' ∧ But b H1 H' ∧ H' D = some (.lst acc)) ⟨[], hM, hB _ _ _ hDb hb, But.same (same_new hD), upd_same⟩ (fun i H' _ ⟨_, _, p1, p2, _⟩ => hG H' p1 p2) (fun i x H' H'' hi p y => ?_) (fun H' ⟨acc, p1, p2, p3, p4⟩ => hQ D H' acc p1 p2 p3 hD p4)
  obtain ⟨acc, p1, p2, p3, p4⟩ := p
  refine hm _ _ _ _ _ (fun σ2 H2 q => ?_) (hs i x H' H'' acc hi p1 p2 p3 y)
  obtain ⟨q1, q2⟩ := q
  refine ⟨q1, ?_⟩
  unfold tYes
  refine iteT ?_
  refine q2 _ fun y H4 m1 m2 m3 => ⟨acc, m3 _ _ hDb p4, ?_, acc ++ [y], m1, hB _ _ _ hDb m2, ?_, upd_same⟩
  · have := hl i acc p1
    have sl : (1000 : Nat) < sizeLine := by rw [sizeLine_eq]; decide
    omega
  · intro a o ha ho
    rw [upd_ne (ne_of_none ho hD)]
    exact m3 a o ha (p3 a o ha ho)
end Cv
end
section
/-! plain: ways as keys of a dict -/
namespace Cv
open PySem L2
theorem keys_putK {κ : Type} [DecidableEq κ] (kvs : List (κ × V)) (k : κ) (v : V) : (putK kvs k v).map (·.1) = if k ∈ kvs.map (·.1) then kvs.map (·.1) else kvs.map (·.1) ++ [k] := by
  have e : (kvs.any fun kv => decide (kv.1 = k)) = decide (k ∈ kvs.map (·.1)) := by
    induction kvs with
    | nil => rfl
    | cons x r ih =>
      rw [List.any_cons, ih]
      by_cases h : x.1 = k
      · simp [h]
      · have h' : ¬ k = x.1 := fun z => h z.symm
        simp [h, h']
  unfold putK
  rw [e]
  by_cases h : k ∈ kvs.map (·.1)
  · rw [if_pos (decide_eq_true h), if_pos h, List.map_map]
    refine List.map_congr_left fun kv _ => ?_
    show (if kv.1 = k then (kv.1, v) else kv).1 = kv.1
    split <;> rfl
  · rw [if_neg (by simpa using h), if_neg h, List.map_append]
    rfl
/-- ways gathered as keys, at most c -/
structure DW (n : Nat) (kvs : List (List Key × V)) (c : Nat) : Prop where
  nd : (kvs.map (·.1)).Nodup
  ok : ∀ k ∈ kvs.map (·.1), ∃ x : List Int, k = x.map Sum.inl ∧ WayOk n x
  le : kvs.length ≤ c
theorem DW.put {n : Nat} {kvs : List (List Key × V)} {c : Nat} {x : List Int} {v : V} (h : DW n kvs c) (hx : WayOk n x) : DW n (putK kvs (x.map Sum.inl) v) (c + 1) := by
  refine ⟨?_, ?_, ?_⟩
  · rw [keys_putK]
    split
    · exact h.nd
    · rename_i hk
      rw [List.nodup_append]
      exact ⟨h.nd, by simp, fun a ha b hb e => hk (by simp at hb; rw [← hb, ← e]; exact ha)⟩
  · rw [keys_putK]
    split
    · exact h.ok
    · intro k hk
      rcases List.mem_append.mp hk with hk | hk
      · exact h.ok k hk
      · exact ⟨x, by simpa using hk, hx⟩
  · have := length_putK kvs (x.map Sum.inl) v
    have := h.le
    omega
/-- a way to the yard k is there -/
def HasW (kvs : List (List Key × V)) (k : Int) : Prop := ∃ a l f : Int, [a, k, l, f].map Sum.inl ∈ kvs.map (·.1)
theorem HasW.put {kvs : List (List Key × V)} {k : Int} {y : List Key} {v : V} (h : HasW kvs k) : HasW (putK kvs y v) k := by
  obtain ⟨a, l, f, h⟩ := h
  refine ⟨a, l, f, ?_⟩
  rw [keys_putK]
  split
  · exact h
  · exact List.mem_append.mpr (.inl h)
theorem HasW.self {kvs : List (List Key × V)} {a k l f : Int} {v : V} : HasW (putK kvs ([a, k, l, f].map Sum.inl) v) k := by
  refine ⟨a, l, f, ?_⟩
  rw [keys_putK]
  split
  · assumption
  · exact List.mem_append.mpr (.inr (by simp))
def risesB : List (List Int) → Bool
  | x :: y :: r => HT.lexLt x y && risesB (y :: r)
  | _ => true
theorem rises_of : ∀ {ws : List (List Int)}, ws.Nodup → ws.Pairwise (fun x y => ¬ y < x) → risesB ws = true
  | [], _, _ => rfl
  | [_], _, _ => rfl
  | x :: y :: r, hn, hp => by
    have ih := rises_of (ws := y :: r) (List.nodup_cons.mp hn).2 (List.pairwise_cons.mp hp).2
    have h1 : ¬ y < x := (List.pairwise_cons.mp hp).1 y (by simp)
    have h2 : x ≠ y := fun e => (List.nodup_cons.mp hn).1 (by simp [e])
    have h3 : x < y := by
      rcases Std.lt_trichotomy x y with h | h | h
      · exact h
      · exact absurd h h2
      · exact absurd h h1
    show (HT.lexLt x y && risesB (y :: r)) = true
    rw [ih, lexLt_lt]
    simp [h3]
theorem DW.keys {n : Nat} {kvs : List (List Key × V)} {c : Nat} (h : DW n kvs c) : IntKeys kvs := fun kv hkv => by
  obtain ⟨x, e, a, b, l, f, rfl, _⟩ := h.ok kv.1 (List.mem_map.mpr ⟨kv, hkv, rfl⟩)
  exact ⟨_, e, by simp⟩
/-- the sorted ways of such a dict -/
theorem DW.net {n : Nat} {kvs : List (List Key × V)} {c : Nat} {ws : List (List Int)} (h : DW n kvs c) (hj : ∀ k : Int, 1 ≤ k → k < n → HasW kvs k) (hp : ws.Perm (kvs.map fun kv => kInts kv.1)) (hs : ws.Pairwise fun x y => ¬ y < x) :
    ws.length ≤ c ∧ (∀ x ∈ ws, WayOk n x) ∧ risesB ws = true ∧ Joined n ws := by
  have e : (kvs.map fun kv => kInts kv.1) = (kvs.map (·.1)).map kInts := by rw [List.map_map]; rfl
  refine ⟨?_, fun x hx => ?_, rises_of ?_ hs, fun k h1 h2 => ?_⟩
  · rw [hp.length_eq, List.length_map]
    exact h.le
  · have := hp.mem_iff.mp hx
    rw [e] at this
    obtain ⟨k, hk, rfl⟩ := List.mem_map.mp this
    obtain ⟨y, rfl, hy⟩ := h.ok k hk
    rw [kInts_inl]
    exact hy
  · rw [hp.nodup_iff, e, List.nodup_iff_pairwise_ne, List.pairwise_map]
    refine (List.nodup_iff_pairwise_ne.mp h.nd).imp_of_mem fun {x y} hx hy ne e => ne ?_
    obtain ⟨a, rfl, _⟩ := h.ok x hx
    obtain ⟨b, rfl, _⟩ := h.ok y hy
    rw [kInts_inl, kInts_inl] at e
    rw [e]
  · obtain ⟨a, l, f, hm⟩ := hj k h1 h2
    refine ⟨[a, k, l, f], hp.mem_iff.mpr ?_, a, l, f, rfl⟩
    rw [e]
    exact List.mem_map.mpr ⟨_, hm, kInts_inl _⟩
end Cv
end
section
/-! an error that a suite holds -/
namespace Cv
open PySem L2
def uIsE (K : PySem.W.Frag) (a : Addr) (cls : Value) (d : Option Addr) : List V → Hp → VK → Prop := fun xs H Q => match xs with
  | [.ref x, .ref C] => x = a ∧ ∃ D, cls = .ref D ∧ d = none ∧ ExcC K D ∧ ∃ b, PySem.W.kitOne K (.ref D) (.ref C) = some b ∧ Q (.bl b) H
  | [.ref x, .ty T] => x = a ∧ ∃ D, cls = .ref D ∧ d = none ∧ ExcC K D ∧ ∃ b, PySem.W.kitOne K (.ref D) (.type T) = some b ∧ Q (.bl b) H
  | _ => False
theorem u_isE {X : Cx} {a : Addr} {cls : Value} {d : Option Addr} {oe : Obj} {pn : List (Addr × Obj)} (hz : Zc cls d oe) (hf : ∃ vs, oe.data = .fields vs) : CallR (X.suite a ((a, oe) :: pn)) (.builtin "isinstance") (uIsE X.K a cls d) := by
  intro pins s σ H xs us Q I r h
  unfold uIsE at h
  split at h
  · obtain ⟨rfl, D, rfl, rfl, hE, b, hb, q⟩ := h
    exact call_isE hE hz hf pins s σ H _ us Q I r ⟨_, _, b, rfl, fun u hu => hu, hb, q⟩
  · obtain ⟨rfl, D, rfl, rfl, hE, b, hb, q⟩ := h
    exact call_isE hE hz hf pins s σ H _ us Q I r ⟨_, _, b, rfl, fun u hu => hu, hb, q⟩
  · exact h.elim
def uRepr : List V → Hp → VK → Prop := fun xs H Q => match xs with
  | [.int i] => i.natAbs < 2 ^ 1900 ∧ Q (.str (toString i)) H
  | _ => False
theorem u_repr {X : Cx} : CallR X (.builtin "repr") uRepr := callR_imp SkE.call_repr_int fun xs H Q h => by
  unfold uRepr at h
  split at h
  · rename_i i
    refine ⟨_, rfl, ?_, h.2⟩
    by_cases hz : i.natAbs = 0
    · rw [hz]
      decide
    · have := (Nat.log2_lt hz).2 h.1
      omega
  · exact h.elim
/-- the truth of a plain value -/
def tTru (ta : TE) : St → Hp → (Bool → Hp → Prop) → Prop := fun σ H Q => ta σ H fun x H' => match x with
  | .non => Q false H'
  | .bl b => Q b H'
  | .int i => Q (i != 0) H'
  | .ref p => match H' p with
    | some (.lst xs) => Q (!xs.isEmpty) H'
    | some (.tup xs) => Q (!xs.isEmpty) H'
    | some (.frz _ (.tup xs)) => Q (!xs.isEmpty) H'
    | some (.dK kvs) => Q (!kvs.isEmpty) H'
    | _ => False
  | _ => False
theorem pt_tru {X : Cx} {a : Expr} {ta : TE} (ha : PE X a ta) (he : ∀ whole, isTrue a X.env whole = (do let v ← whole; standAt a.pos; holding [v] (truthy v))) : PT X a (tTru ta) := by
  refine ⟨fun pins s σ H Q I h => ?_⟩
  refine PyProof.Rows.isTrue_plain (thn (ha.run pins s σ H _ I h) fun v s1 ⟨x, H1, I1, r1, q1⟩ => tru_ok pins s1 σ H1 x v Q I1 r1 ?_) (he _)
  dsimp only at q1
  split at q1
  · exact ⟨_, rfl, q1⟩
  · exact ⟨_, rfl, q1⟩
  · exact ⟨_, rfl, q1⟩
  · split at q1
    · rename_i hp
      exact ⟨_, Or.inl ⟨_, Or.inl (Or.inl hp), rfl⟩, q1⟩
    · rename_i hp
      exact ⟨_, Or.inr (Or.inl ⟨_, Or.inl (Or.inl hp), rfl⟩), q1⟩
    · rename_i hp
      exact ⟨_, Or.inr (Or.inl ⟨_, Or.inl (Or.inr ⟨_, hp⟩), rfl⟩), q1⟩
    · rename_i hp
      exact ⟨_, Or.inr (Or.inr ⟨_, hp, rfl⟩), q1⟩
    · exact q1.elim
  · exact q1.elim
theorem u_neK {X : Cx} {K : PySem.W.Frag} (hk : X.K = K) (hu : X.A.units + 64 < cLine) : OpR X (compareOp .NotEq) (uNe K) := hk ▸ u_ne hu
theorem u_isEK {X : Cx} {K : PySem.W.Frag} {a : Addr} {cls : Value} {d : Option Addr} {oe : Obj} {pn : List (Addr × Obj)} (hk : X.K = K) (hz : Zc cls d oe) (hf : ∃ vs, oe.data = .fields vs) : CallR (X.suite a ((a, oe) :: pn)) (.builtin "isinstance") (uIsE K a cls d) := hk ▸ u_isE hz hf
theorem take_len {X : Cx} {W : WX} (t : Takes X W) : Takes X (fun c d σ H => σ.length = X.N.length → W c d σ H) := fun u s' ⟨a, B, sI, pins, σ, H, cls, d, e, I, nb, up, sky, na, os, ag, w⟩ =>
  t u s' ⟨a, B, sI, pins, σ, H, cls, d, e, I, nb, up, sky, na, os, ag, w I.len⟩
/-- the suite of a def's first try -/
def trySuite (s : Stmt) : List Stmt := match defBody s with
  | .Try _ [.ExceptHandler _ _ b _] _ _ _ :: _ => b
  | _ => []
end Cv
end
section
/-! the law's own def: tables, lambdas, ends -/
namespace Cv
open PySem L2
open PySem.Spec PyProof.Rows
def uMax2 : List V → Hp → VK → Prop := fun xs H Q => match xs with
  | [.int i, .int j] => Q (.int (if j > i then j else i)) H
  | _ => False
def uMin2 : List V → Hp → VK → Prop := fun xs H Q => match xs with
  | [.int i, .int j] => Q (.int (if j < i then j else i)) H
  | _ => False
theorem u_max2 {X : Cx} (hc : X.calm = true) : CallR X (.builtin "max") uMax2 := callR_imp (call_max2 hc) fun xs H Q h => by
  unfold uMax2 at h
  split at h
  · exact ⟨_, _, rfl, h⟩
  · exact h.elim
theorem u_min2 {X : Cx} (hc : X.calm = true) : CallR X (.builtin "min") uMin2 := callR_imp (call_min2 hc) fun xs H Q h => by
  unfold uMin2 at h
  split at h
  · exact ⟨_, _, rfl, h⟩
  · exact h.elim
/-- list(range(n)) -/
def uLstRg (ta : TE) : TE := fun σ H Q => ta σ H fun x H1 => match x with
  | .int n => RgOk 0 n ∧ NewL (rgV 0 n) H1 Q
  | _ => False
theorem ue_listRg {X : Cx} {a : Expr} {ta : TE} {p pos p2 pos2 : Pos} (hc : X.calm = true) (hg : Gl X "list") (hm : X.mg "list" = none) (hg2 : Gl X "range") (hm2 : X.mg "range" = none) (ha : PE X a ta)
    (na : starEach [a] X.env = (false, eval a X.env) :: starEach [] X.env := by rfl)
    (nb : starEach [Expr.Call (.Name "range" p) [a] [] pos] X.env = (false, eval (Expr.Call (.Name "range" p) [a] [] pos) X.env) :: starEach [] X.env := by rfl) :
    PE X (.Call (.Name "list" p2) [Expr.Call (.Name "range" p) [a] [] pos] [] pos2) (uLstRg ta) := by
  refine ⟨fun pins s σ H Q I h => (pe_listRg hc hg hm (te := fun σ H R => (∀ n H1, RgOk 0 n → NewL (rgV 0 n) H1 Q → R 0 n H1) ∧ uLstRg ta σ H Q) ?_ nb).run pins s σ H Q I ⟨fun n H1 h1 h2 => ⟨h1, al_any h2⟩, h⟩⟩
  intro pins s σ H R I h
  refine Call_ (ld_blt I hg2 hm2 boot_range (PyProof.Rows.callWith_type1 (one_arg ha I h.2 (fun v s2 x H2 I2 r q => ?_) na) na))
  cases x with
  | int n =>
    obtain ⟨t, rfl⟩ := r
    exact call_range_1 ⟨_, 0, n, _, _, _, H2, rfl, IsRange.new _ _ _ _ _ _ _, I2.kept fun b u e => Heap.get?_push_of_some _ e, h.1 _ _ q.1 q.2⟩
  | _ => exact q.elim
/-- a def by its body, its code object known -/
theorem okC {P : Program} {w : World} {K : PySem.W.Frag} {mg : Str → Option Value} {base : Heap} {x qual : Str} {st : Stmt} {f : Addr} {fd : FuncData} {N ps : List Str} {k : Nat} {sp : Sp} {cdv : Value} (F : Fun K x qual st f fd) (hcv : fd.code = cdv) (S : FnScope N ps (defScope st)) (len : ∀ vs H Q E, sp vs H Q E → vs.length = ps.length)
    (hbody : ∀ (A : Around) (outer : List Env) (s : Shared) (H : Hp) (vs : List V) (Q : VK) (E : XK), Room k (A.deeper (envOfC qual (defScope st) s.heap.objs.size f cdv)) → sp vs H Q E →
      ∃ t, PSs (cxOf C8.CX0 P w K mg base N qual (defScope st) f cdv A outer s H E).nox (defBody st) t ∧ t { nx := fun _ H' => Q .non H', rt := Q } (L2.start N vs) H) : FnOk P w K mg base C8.CX0 (k + 1) f fd ps sp := by
  obtain ⟨oc, od, kV, doc, pm, an, cdv', ct, osl, rfl, lk, hcd⟩ := F.ex
  have e : cdv' = cdv := hcv
  subst e
  refine fn_of lk hcd S len fun A outer s H vs Q E hr hsp => ?_
  obtain ⟨t, h, q⟩ := hbody A outer s H vs Q E hr hsp
  exact ⟨t, h.nox, q⟩
/-- what stands but for tables stays -/
theorem sqL_ext {K : PySem.W.Frag} {H H' : Hp} {a : Addr} {xs : List V} (h : SqL K H a xs) (e : LamX.ExtN H H') : SqL K H' a xs := by
  rcases h with (h | ⟨o, h⟩) | h
  · exact .inl (.inl (e _ _ h (by intro _ z; cases z)))
  · exact .inl (.inr ⟨o, e _ _ h (by intro _ z; cases z)⟩)
  · exact .inr h
end Cv
end
section
/-! data within data: less, least, taken out -/
namespace Cv
open PySem L2
variable {X : Cx}
def uLtD (K : PySem.W.Frag) : R2 := fun x y H Q => ∃ d e, Dp K H x d ∧ Dp K H y e ∧ PySem.W.alike d e = true ∧ d ≠ .none ∧ d.depth ≤ 20 ∧ Q (.bl (PySem.W.dataLt d e)) H
theorem u_ltD (hu : X.A.units + 64 < cLine) : OpR X (compareOp .Lt) (uLtD X.K) := by
  intro pins s σ H x y v u Q I rx ry h
  obtain ⟨d, e, h1, h2, h3, h4, h5, q⟩ := h
  obtain ⟨as, ra⟩ := Dp.reads I _ _ _ h1 rx
  obtain ⟨bs, rb⟩ := Dp.reads I _ _ _ h2 ry
  exact PySem.W.lt_data ra rb h3 h4 (by omega) ⟨.bl _, H, I, rfl, q⟩
theorem plain_mem : ∀ {ds : List PyData} {d : PyData}, PyData.plainAll ds = true → d ∈ ds → d.plain = true
  | [], _, _, h => by cases h
  | x :: r, d, h, hm => by
    have h' : (x.plain && PyData.plainAll r) = true := h
    rw [Bool.and_eq_true] at h'
    rcases List.mem_cons.1 hm with rfl | hm
    · exact h'.1
    · exact plain_mem h'.2 hm
theorem minD_mem (d : PyData) : ∀ ds : List PyData, PySem.W.minD d ds ∈ d :: ds := by
  intro ds
  unfold PySem.W.minD
  induction ds generalizing d with
  | nil => simp
  | cons x r ih =>
    have := ih (if PySem.W.dataLt x d then x else d)
    rw [List.foldl_cons]
    rcases List.mem_cons.1 this with h | h
    · rw [h]
      split <;> simp
    · simp [h]
/-- least of a list of data -/
def uMinD (K : PySem.W.Frag) : List V → Hp → VK → Prop := fun vs H Q => match vs with
  | [.ref l] => (match H l with
    | some (.lst xs) => ∃ d ds, DpAll K H xs (d :: ds) ∧ PySem.W.AlikeAll (d :: ds) ∧ PyData.plainAll (d :: ds) = true ∧ PyData.depthAll (d :: ds) ≤ 20 ∧ ∀ (i : Nat) x, xs[i]? = some x → (d :: ds)[i]? = some (PySem.W.minD d ds) → Q x H
    | _ => False)
  | _ => False
theorem vals_at {xs : List V} {us : List Value} (r : Vals xs us) : ∀ (i : Nat) (u : Value), us[i]? = some u → ∃ x, xs[i]? = some x ∧ RelV x u := by
  induction r with
  | nil =>
    intro i u h
    simp at h
  | cons h t ih =>
    intro i u e
    cases i with
    | zero =>
      simp at e
      subst e
      exact ⟨_, rfl, h⟩
    | succ i => exact ih i u (by simpa using e)
theorem u_minD (hc : X.calm = true) (hu : X.A.units + 64 < cLine) : CallR X (.builtin "min") (uMinD X.K) := by
  intro pins s σ H vs us Q I r h
  unfold uMinD at h
  split at h
  · rename_i l
    split at h
    · rename_i xs ea
      obtain ⟨d, ds, hD, hA, hp, hde, q⟩ := h
      obtain ⟨its, rv, hl, hz⟩ := I.list (SqL.of ea)
      rw [Vals.ref1 r]
      obtain ⟨as, hr⟩ := Dp.readsAll I _ _ _ hD rv
      refine PySem.W.min_list_data (I.ok.hd hc) hl.isList (by simpa using hr) hA (by omega) fun i v h' tk bs hv rd hk => ?_
      have hv' : its[i]? = some v := by simpa using hv
      obtain ⟨x, hx, rx⟩ := vals_at rv i v hv'
      refine ⟨x, H, I.kept hk, rx, q i x hx ?_⟩
      have hpm := plain_mem hp (minD_mem d ds)
      have e1 := PySem.SeqAt.readOf_plain hpm rd
      have hr' : ReadsAll h' its (d :: ds) as := PyProof.Rows.ReadsAll.keeps hk hr
      have e2 := PySem.SeqAt.readsAll_map_plain _ _ _ hp hr'
      have e3 : (its.map (PySem.SeqAt.readOf h'))[i]? = (d :: ds)[i]? := by rw [e2]
      rw [List.getElem?_map, hv'] at e3
      rw [← e3, ← e1]
      rfl
    · exact h.elim
  · exact h.elim
/-- list.remove of data -/
def uRemoveD (K : PySem.W.Frag) : V → List V → Hp → VK → Prop := fun x vs H Q => match x, vs with
  | .ref l, [y] => (match H l with
    | some (.lst xs) => ∃ ds e j, DpAll K H xs ds ∧ Dp K H y e ∧ PyData.plainAll ds = true ∧ e.plain = true ∧ PyData.depthAll ds ≤ 20 ∧ PySem.SeqAt.dataPlace ds e = some j ∧ Q .non (upd H l (.lst (xs.eraseIdx j)))
    | _ => False)
  | _, _ => False
theorem u_removeD (hu : X.A.units + 64 < cLine) : MtR X "list.remove" (uRemoveD X.K) := by
  intro pins s σ H x xs v us Q I rx rxs h
  unfold uRemoveD at h
  split at h
  · rename_i l y
    split at h
    · rename_i ys ea
      obtain ⟨ds, e, j, hD, hE, hp, hpe, hde, hj, q⟩ := h
      cases (show v = Value.ref l from rx)
      obtain ⟨u, rfl, ry⟩ := vals1 rxs
      obtain ⟨z, its, n, r, hl, e0⟩ := I.lstM ea
      obtain ⟨as, hr⟩ := Dp.readsAll I _ _ _ hD r
      obtain ⟨bs, hx⟩ := Dp.reads I _ _ _ hE ry
      refine PySem.SeqAt.remove_list_data (vs := its.toArray) ⟨_, e0, rfl, n, rfl⟩ (by simpa using hr) hx hp hpe (by omega) hj (by rw [List.size_toArray, ← hl]; exact z) ?_
      refine ⟨.non, _, I.lset (its' := its.eraseIdx j) ea e0 ?_ (r.eraseIdx j) ?_, rfl, q⟩
      · show its.toArray.eraseIdxIfInBounds j = (its.eraseIdx j).toArray
        rw [List.eraseIdxIfInBounds_toArray]
      · have := List.length_eraseIdx_le ys j
        omega
    · exact h.elim
  · exact h.elim
end Cv
end
section
/-! (miles, path): how Python sets them in order -/
namespace Cv
open PySem L2
theorem lex_irr : ∀ x : List Int, HT.lexLt x x = false
  | [] => rfl
  | a :: r => by rw [HT.lexLt_cons, if_pos rfl]; exact lex_irr r
theorem lex_tot : ∀ x y : List Int, HT.lexLt x y = false → HT.lexLt y x = false → x = y
  | [], [], _, _ => rfl
  | [], _ :: _, h, _ => by cases h
  | _ :: _, [], _, h => by cases h
  | a :: r, b :: t, h1, h2 => by
    rw [HT.lexLt_cons] at h1 h2
    by_cases e : a = b
    · subst e
      rw [if_pos rfl] at h1 h2
      rw [lex_tot r t h1 h2]
    · rw [if_neg e] at h1
      rw [if_neg (Ne.symm e)] at h2
      simp at h1 h2
      omega
theorem lex_trans : ∀ x y z : List Int, HT.lexLt x y = true → HT.lexLt y z = true → HT.lexLt x z = true
  | [], [], _, h, _ => by cases h
  | _ :: _, [], _, h, _ => by cases h
  | _, _ :: _, [], _, h => by cases h
  | [], _ :: _, _ :: _, _, _ => rfl
  | a :: r, b :: t, c :: u, h1, h2 => by
    rw [HT.lexLt_cons] at h1 h2 ⊢
    by_cases e : a = b
    · subst e
      rw [if_pos rfl] at h1
      by_cases e2 : a = c
      · subst e2
        rw [if_pos rfl] at h2 ⊢
        exact lex_trans r t u h1 h2
      · rw [if_neg e2] at h2 ⊢
        exact h2
    · rw [if_neg e] at h1
      by_cases e2 : b = c
      · subst e2
        rw [if_neg e]
        exact h1
      · rw [if_neg e2] at h2
        simp at h1 h2
        rw [if_neg (by omega)]
        simp
        omega
abbrev Pth := Int × List Int
def ltP (x y : Pth) : Bool := if x.1 = y.1 then HT.lexLt x.2 y.2 else decide (x.1 < y.1)
theorem ltP_irr (x : Pth) : ltP x x = false := by unfold ltP; rw [if_pos rfl]; exact lex_irr _
theorem ltP_tot {x y : Pth} (h1 : ltP x y = false) (h2 : ltP y x = false) : x = y := by
  unfold ltP at h1 h2
  by_cases e : x.1 = y.1
  · rw [if_pos e] at h1
    rw [if_pos e.symm] at h2
    exact Prod.ext e (lex_tot _ _ h1 h2)
  · rw [if_neg e] at h1
    rw [if_neg (Ne.symm e)] at h2
    simp at h1 h2
    omega
theorem ltP_trans {x y z : Pth} (h1 : ltP x y = true) (h2 : ltP y z = true) : ltP x z = true := by
  unfold ltP at h1 h2 ⊢
  by_cases e : x.1 = y.1
  · rw [if_pos e] at h1
    by_cases e2 : y.1 = z.1
    · rw [if_pos e2] at h2
      rw [if_pos (e.trans e2)]
      exact lex_trans _ _ _ h1 h2
    · rw [if_neg e2] at h2
      rw [if_neg (by rw [e]; exact e2), e]
      exact h2
  · rw [if_neg e] at h1
    by_cases e2 : y.1 = z.1
    · rw [if_neg (by rw [← e2]; exact e), ← e2]
      exact h1
    · rw [if_neg e2] at h2
      simp at h1 h2
      rw [if_neg (by omega)]
      simp
      omega
/-- not after -/
def leP (x y : Pth) : Prop := ltP y x = false
theorem leP_refl (x : Pth) : leP x x := ltP_irr x
theorem leP_trans {x y z : Pth} (h1 : leP x y) (h2 : leP y z) : leP x z := by
  unfold leP at *
  cases h : ltP z x with
  | false => rfl
  | true =>
    cases hxy : ltP x y with
    | true => rw [ltP_trans h hxy] at h2; cases h2
    | false =>
      have e : x = y := ltP_tot hxy h1
      rw [e] at h
      rw [h] at h2
      cases h2
theorem leP_anti {x y : Pth} (h1 : leP x y) (h2 : leP y x) : x = y := ltP_tot h2 h1
theorem leP_of_lt {x y : Pth} (h : ltP x y = true) : leP x y := by
  unfold leP
  cases h2 : ltP y x with
  | false => rfl
  | true =>
    have := ltP_trans h h2
    rw [ltP_irr] at this
    cases this
theorem leP_total (x y : Pth) : leP x y ∨ leP y x := by
  unfold leP
  cases h : ltP y x with
  | false => exact .inl rfl
  | true => exact .inr (leP_of_lt h)
/-- the least -/
def minP (x : Pth) (xs : List Pth) : Pth := xs.foldl (fun a y => if ltP y a then y else a) x
theorem minP_mem (x : Pth) (xs : List Pth) : minP x xs ∈ x :: xs := by
  unfold minP
  induction xs generalizing x with
  | nil => simp
  | cons y r ih =>
    rw [List.foldl_cons]
    rcases List.mem_cons.1 (ih (if ltP y x then y else x)) with h | h
    · rw [h]
      split <;> simp
    · simp [h]
theorem minP_le (x : Pth) (xs : List Pth) : ∀ y ∈ x :: xs, leP (minP x xs) y := by
  unfold minP
  induction xs generalizing x with
  | nil =>
    intro y hy
    simp at hy
    rw [hy]
    exact leP_refl _
  | cons z r ih =>
    intro y hy
    rw [List.foldl_cons]
    have h0 := ih (if ltP z x then z else x) (if ltP z x then z else x) (by simp)
    have hzx : leP (if ltP z x then z else x) z ∧ leP (if ltP z x then z else x) x := by
      cases h : ltP z x with
      | true => exact ⟨leP_refl _, leP_of_lt h⟩
      | false => exact ⟨h, leP_refl _⟩
    rcases List.mem_cons.1 hy with rfl | hy
    · exact leP_trans h0 hzx.2
    · rcases List.mem_cons.1 hy with rfl | hy
      · exact leP_trans h0 hzx.1
      · exact ih _ _ (by simp [hy])
/-! as data -/
def pD (x : Pth) : PyData := .tuple [.int x.1, .tuple (x.2.map .int)]
theorem toks_ints : ∀ xs ys : List Int, PyProof.Rows.lexLt PyProof.Rows.itemOrd (PySem.W.keyToksAll (xs.map .int)) (PySem.W.keyToksAll (ys.map .int)) = HT.lexLt xs ys
  | [], [] => by decide
  | [], y :: ys => by
    rw [List.map_nil, List.map_cons, PySem.W.toks_all_cons]
    rfl
  | x :: xs, [] => by
    rw [List.map_nil, List.map_cons, PySem.W.toks_all_cons]
    rfl
  | x :: xs, y :: ys => by
    rw [HT.lexLt_cons, List.map_cons, List.map_cons]
    by_cases e : x = y
    · rw [if_pos e, PySem.W.dataLt_all_yes (by rfl) (by simp [PyData.eqv, e])]
      exact toks_ints xs ys
    · rw [if_neg e, PySem.W.dataLt_all_no (by rfl) (by simp [PyData.eqv, e])]
      exact PySem.W.dataLt_int x y
theorem alike_ints : ∀ xs ys : List Int, PySem.W.alikeAll (xs.map .int) (ys.map .int) = true
  | [], _ => by simp [PySem.W.alikeAll]
  | _ :: _, [] => by simp [PySem.W.alikeAll]
  | x :: xs, y :: ys => by
    rw [List.map_cons, List.map_cons, PySem.W.alikeAll, alike_ints xs ys]
    rfl
theorem eqv_ints : ∀ xs ys : List Int, PyData.eqvAll (xs.map .int) (ys.map .int) = decide (xs = ys)
  | [], [] => by simp [PyData.eqvAll]
  | [], _ :: _ => by simp [PyData.eqvAll]
  | _ :: _, [] => by simp [PyData.eqvAll]
  | x :: xs, y :: ys => by
    rw [List.map_cons, List.map_cons, PySem.W.eqv_all_cons, eqv_ints xs ys]
    simp [PyData.eqv]
    by_cases h : x = y <;> simp [h]
theorem pD_alike (x y : Pth) : PySem.W.alike (pD x) (pD y) = true := by
  simp [pD, PySem.W.alike, PySem.W.alikeAll, alike_ints]
theorem pD_eqv (x y : Pth) : PyData.eqv (pD x) (pD y) = decide (x = y) := by
  unfold pD
  simp only [PyData.eqv, PyData.eqvAll, eqv_ints]
  obtain ⟨a, b⟩ := x
  obtain ⟨c, d⟩ := y
  by_cases h : a = c <;> by_cases h2 : b = d <;> simp [h, h2]
theorem pD_lt (x y : Pth) : PySem.W.dataLt (pD x) (pD y) = ltP x y := by
  unfold pD ltP
  rw [PySem.W.dataLt_tuple]
  by_cases e : x.1 = y.1
  · rw [if_pos e, PySem.W.dataLt_all_yes (by rfl) (by simp [PyData.eqv, e])]
    by_cases e2 : x.2 = y.2
    · rw [PySem.W.dataLt_all_yes (by simp [PySem.W.alike, alike_ints]) (by simp [PyData.eqv, eqv_ints, e2]), e2, lex_irr]
      decide
    · rw [PySem.W.dataLt_all_no (by simp [PySem.W.alike, alike_ints]) (by simp [PyData.eqv, eqv_ints, e2]), PySem.W.dataLt_tuple, toks_ints]
  · rw [if_neg e, PySem.W.dataLt_all_no (by rfl) (by simp [PyData.eqv, e])]
    exact PySem.W.dataLt_int _ _
theorem pD_inj {x y : Pth} (h : pD x = pD y) : x = y := by
  have := pD_eqv x y
  rw [h] at this
  have e := pD_eqv y y
  simp at e
  rw [e] at this
  simpa using this.symm
theorem pD_min (x : Pth) : ∀ xs : List Pth, PySem.W.minD (pD x) (xs.map pD) = pD (minP x xs) := by
  intro xs
  unfold PySem.W.minD minP
  induction xs generalizing x with
  | nil => rfl
  | cons y r ih =>
    rw [List.map_cons, List.foldl_cons, List.foldl_cons, pD_lt]
    cases ltP y x with
    | true => exact ih y
    | false => exact ih x
theorem pD_plain (x : Pth) : (pD x).plain = true := by
  have : ∀ l : List Int, PyData.plainAll (l.map .int) = true := fun l => by
    induction l with
    | nil => rfl
    | cons a r ih =>
      show (true && _) = true
      rw [ih]
      rfl
  show (true && (PyData.plainAll (x.2.map .int) && true)) = true
  rw [this]
  rfl
end Cv
end
section
/-! (miles, path) as they stand -/
namespace Cv
open PySem L2
def PthAt (H : Hp) (a : Addr) (x : Pth) : Prop := ∃ b, H a = some (.tup [.int x.1, .ref b]) ∧ H b = some (.tup (x.2.map V.int))
theorem PthAt.keep {H H' : Hp} {a : Addr} {x : Pth} (h : PthAt H a x) (e : ∀ b o, H b = some o → (∀ l, o ≠ .lst l) → (∀ l, o ≠ .dK l) → (∀ l, o ≠ .dT l) → H' b = some o) : PthAt H' a x :=
  let ⟨b, h1, h2⟩ := h; ⟨b, e _ _ h1 (by intro _ z; cases z) (by intro _ z; cases z) (by intro _ z; cases z), e _ _ h2 (by intro _ z; cases z) (by intro _ z; cases z) (by intro _ z; cases z)⟩
theorem dpInts {K : PySem.W.Frag} {H : Hp} : ∀ k : List Int, DpAll K H (k.map V.int) (k.map .int)
  | [] => .nil
  | i :: k => .cons (.int i) (dpInts k)
theorem PthAt.dp {K : PySem.W.Frag} {H : Hp} {a : Addr} {x : Pth} (h : PthAt H a x) : Dp K H (.ref a) (pD x) :=
  let ⟨_, h1, h2⟩ := h; .tup (SqT.of h1) (.cons (.int _) (.cons (.tup (SqT.of h2) (dpInts _)) .nil))
def Pths (H : Hp) (as : List Addr) (xs : List Pth) : Prop := as.length = xs.length ∧ ∀ (i : Nat) a x, as[i]? = some a → xs[i]? = some x → PthAt H a x
theorem Pths.nil {H : Hp} : Pths H [] [] := ⟨rfl, fun i a x h => by simp at h⟩
theorem Pths.add {H : Hp} {as : List Addr} {xs : List Pth} {a : Addr} {x : Pth} (h : Pths H as xs) (p : PthAt H a x) : Pths H (as ++ [a]) (xs ++ [x]) := by
  refine ⟨by simp [h.1], fun i b y hb hy => ?_⟩
  by_cases hi : i < as.length
  · rw [List.getElem?_append_left hi] at hb
    rw [List.getElem?_append_left (by rw [← h.1]; exact hi)] at hy
    exact h.2 i b y hb hy
  · rw [List.getElem?_append_right (by omega)] at hb
    rw [List.getElem?_append_right (by rw [← h.1]; omega)] at hy
    rw [h.1] at hb
    rcases Nat.eq_zero_or_pos (i - xs.length) with e | e
    · rw [e] at hb hy
      simp at hb hy
      subst hb hy
      exact p
    · rw [List.getElem?_eq_none (by simp; omega)] at hb
      cases hb
theorem Pths.del {H : Hp} {as : List Addr} {xs : List Pth} (h : Pths H as xs) (j : Nat) : Pths H (as.eraseIdx j) (xs.eraseIdx j) := by
  refine ⟨by simp [List.length_eraseIdx, h.1], fun i b y hb hy => ?_⟩
  rw [List.getElem?_eraseIdx] at hb hy
  split at hb
  · rename_i hi
    rw [if_pos hi] at hy
    exact h.2 i b y hb hy
  · rename_i hi
    rw [if_neg hi] at hy
    exact h.2 (i + 1) b y hb hy
theorem Pths.keep {H H' : Hp} {as : List Addr} {xs : List Pth} (h : Pths H as xs) (e : ∀ b o, H b = some o → (∀ l, o ≠ .lst l) → (∀ l, o ≠ .dK l) → (∀ l, o ≠ .dT l) → H' b = some o) : Pths H' as xs :=
  ⟨h.1, fun i a x ha hx => (h.2 i a x ha hx).keep e⟩
theorem Pths.dp {K : PySem.W.Frag} {H : Hp} : ∀ {as : List Addr} {xs : List Pth}, Pths H as xs → DpAll K H (as.map V.ref) (xs.map pD)
  | [], [], _ => .nil
  | [], _ :: _, h => by cases h.1
  | _ :: _, [], h => by cases h.1
  | a :: as, x :: xs, h => .cons (h.2 0 a x rfl rfl).dp (Pths.dp ⟨by simpa using h.1, fun i b y hb hy => h.2 (i + 1) b y (by simpa using hb) (by simpa using hy)⟩)
theorem depth_ints : ∀ l : List Int, PyData.depthAll (l.map .int) ≤ 1
  | [] => by simp [PyData.depthAll]
  | a :: r => by
    have := depth_ints r
    simp only [List.map_cons, PyData.depthAll, PyData.depth]
    omega
theorem pD_depth (x : Pth) : (pD x).depth ≤ 10 := by
  have := depth_ints x.2
  simp only [pD, PyData.depth, PyData.depthAll]
  omega
theorem pDs_depth : ∀ xs : List Pth, PyData.depthAll (xs.map pD) ≤ 10
  | [] => by simp [PyData.depthAll]
  | a :: r => by
    have h1 := pDs_depth r
    have h2 := pD_depth a
    simp only [List.map_cons, PyData.depthAll]
    omega
theorem pDs_plain : ∀ xs : List Pth, PyData.plainAll (xs.map pD) = true
  | [] => rfl
  | a :: r => by
    show ((pD a).plain && PyData.plainAll (r.map pD)) = true
    rw [pD_plain, pDs_plain r]
    rfl
theorem minP_ok {K : PySem.W.Frag} {H : Hp} {Q : VK} {l : Addr} {as : List Addr} {x : Pth} {xs : List Pth} (hl : H l = some (.lst (as.map V.ref))) (hp : Pths H as (x :: xs))
    (q : ∀ (i : Nat) a, as[i]? = some a → (x :: xs)[i]? = some (minP x xs) → Q (.ref a) H) : uMinD K [.ref l] H Q := by
  simp only [uMinD, hl]
  refine ⟨pD x, xs.map pD, hp.dp, ⟨fun d hd e he => ?_, fun d hd => ?_⟩, pDs_plain (x :: xs), Nat.le_trans (pDs_depth (x :: xs)) (by decide), fun i v hv hm => ?_⟩
  · rw [← List.map_cons] at hd he
    obtain ⟨y, _, rfl⟩ := List.mem_map.1 hd
    obtain ⟨z, _, rfl⟩ := List.mem_map.1 he
    exact pD_alike y z
  · rw [← List.map_cons] at hd
    obtain ⟨y, _, rfl⟩ := List.mem_map.1 hd
    intro e
    cases e
  · rw [List.getElem?_map] at hv
    obtain ⟨a, ha, rfl⟩ := Option.map_eq_some_iff.1 hv
    refine q i a ha ?_
    rw [pD_min, ← List.map_cons, List.getElem?_map] at hm
    obtain ⟨y, hy, e⟩ := Option.map_eq_some_iff.1 hm
    rw [hy, pD_inj e]
theorem removeP_ok {K : PySem.W.Frag} {H : Hp} {Q : VK} {l a : Addr} {as : List Addr} {x : Pth} {xs : List Pth} (hl : H l = some (.lst (as.map V.ref))) (hp : Pths H as xs) (ha : PthAt H a x) (hx : x ∈ xs)
    (q : ∀ j : Nat, xs[j]? = some x → Q .non (upd H l (.lst ((as.eraseIdx j).map V.ref)))) : uRemoveD K (.ref l) [.ref a] H Q := by
  simp only [uRemoveD, hl]
  have hs : (PySem.SeqAt.dataPlace (xs.map pD) (pD x)).isSome = true := by
    unfold PySem.SeqAt.dataPlace
    rw [List.findIdx?_isSome, List.any_eq_true]
    exact ⟨pD x, List.mem_map.2 ⟨x, hx, rfl⟩, by rw [pD_eqv]; simp⟩
  obtain ⟨j, hj⟩ := Option.isSome_iff_exists.1 hs
  refine ⟨_, _, j, hp.dp, ha.dp, pDs_plain xs, pD_plain x, Nat.le_trans (pDs_depth xs) (by decide), hj, ?_⟩
  have e : (as.map V.ref).eraseIdx j = (as.eraseIdx j).map V.ref := by
    apply List.ext_getElem?
    intro i
    simp only [List.getElem?_eraseIdx, List.getElem?_map]
    split <;> rfl
  rw [e]
  refine q j ?_
  obtain ⟨h1, h2, _⟩ := List.findIdx?_eq_some_iff_getElem.mp hj
  rw [List.getElem_map, pD_eqv] at h2
  rw [List.getElem?_eq_getElem (by simpa using h1)]
  simpa using h2
theorem ltP_ok {K : PySem.W.Frag} {H : Hp} {Q : VK} {a b : Addr} {x y : Pth} (ha : PthAt H a x) (hb : PthAt H b y) (q : Q (.bl (ltP x y)) H) : uLtD K (.ref a) (.ref b) H Q :=
  ⟨_, _, ha.dp, hb.dp, pD_alike x y, (by intro e; cases e), Nat.le_trans (pD_depth x) (by decide), by rw [pD_lt]; exact q⟩
end Cv
end
section
/-! walks over a net and the least of them; no program in sight -/
namespace Cv
open PySem L2
/-- a way from u to v of f miles -/
def Edg (ws : List (List Int)) (u v f : Int) : Prop := ∃ l, [u, v, l, f] ∈ ws ∨ [v, u, l, f] ∈ ws
/-- longer by a yard -/
def extP (x : Pth) (f v : Int) : Pth := (x.1 + f, x.2 ++ [v])
inductive Wk (ws : List (List Int)) (s : Int) : Int → Pth → Prop
  | nil : Wk ws s s (0, [s])
  | step {u v f : Int} {x : Pth} : Wk ws s u x → Edg ws u v f → Wk ws s v (extP x f v)
section
variable {ws : List (List Int)} {s : Int} (hp : ∀ u v f, Edg ws u v f → 1 ≤ f)
theorem Wk.last {v : Int} {x : Pth} (h : Wk ws s v x) : x.2.getLast? = some v := by
  cases h with
  | nil => rfl
  | step h e => simp [extP]
theorem Wk.ne {v : Int} {x : Pth} (h : Wk ws s v x) : x.2 ≠ [] := fun e => by
  have := h.last
  rw [e] at this
  cases this
theorem Wk.ends {v u : Int} {x : Pth} (h : Wk ws s v x) (h' : Wk ws s u x) : v = u := by
  have := h.last.symm.trans h'.last
  simpa using this
include hp in
theorem Wk.len {v : Int} {x : Pth} (h : Wk ws s v x) : (x.2.length : Int) ≤ x.1 + 1 := by
  induction h with
  | nil => simp
  | step h e ih =>
    have := hp _ _ _ e
    simp [extP]
    omega
include hp in
/-- a front part of a walk -/
theorem Wk.front {v : Int} {x : Pth} (h : Wk ws s v x) : ∀ (p r : List Int), x.2 = p ++ r → p ≠ [] → r ≠ [] → ∃ u d, Wk ws s u (d, p) ∧ d < x.1 := by
  induction h with
  | nil =>
    intro p r e hp' hr
    have := congrArg List.length e
    cases p with
    | nil => exact absurd rfl hp'
    | cons a p =>
      cases r with
      | nil => exact absurd rfl hr
      | cons b r =>
        simp at this
  | @step u v f x h e ih =>
    intro p r er hp' hr
    have hf := hp _ _ _ e
    have er' : x.2 ++ [v] = p ++ r := er
    obtain ⟨r', b, rfl⟩ : ∃ r' b, r = r' ++ [b] := ⟨r.dropLast, r.getLast hr, (List.dropLast_concat_getLast hr).symm⟩
    rw [← List.append_assoc] at er'
    obtain ⟨e1, _⟩ := List.append_inj' er' rfl
    by_cases hr' : r' = []
    · subst hr'
      rw [List.append_nil] at e1
      refine ⟨u, x.1, ?_, by show x.1 < x.1 + f; omega⟩
      rw [← e1]
      exact h
    · obtain ⟨u', d, h1, h2⟩ := ih p r' e1 hp' hr'
      exact ⟨u', d, h1, by show d < x.1 + f; omega⟩
theorem lex_snoc : ∀ (p q : List Int) (v : Int), HT.lexLt p q = true → (∀ r, q = p ++ r → r = []) → HT.lexLt (p ++ [v]) (q ++ [v]) = true
  | [], q, v, h, hn => by
    have := hn q rfl
    subst this
    cases h
  | _ :: _, [], _, h, _ => by cases h
  | a :: p, b :: q, v, h, hn => by
    rw [List.cons_append, List.cons_append]
    rw [HT.lexLt_cons] at h ⊢
    by_cases e : a = b
    · subst e
      rw [if_pos rfl] at h ⊢
      exact lex_snoc p q v h fun r hr => hn r (by rw [hr]; rfl)
    · rw [if_neg e] at h ⊢
      exact h
include hp in
/-- what is least among the short ones stays so when both are made longer -/
theorem ext_le {u v f : Int} {x y : Pth} {k : Nat} (hx : Wk ws s u x) (hy : Wk ws s u y) (hk : y.2.length ≤ k) (hl : ∀ z, Wk ws s u z → z.2.length ≤ k → leP x z) : leP (extP x f v) (extP y f v) := by
  have h := hl y hy hk
  unfold leP ltP at h ⊢
  change (if y.1 + f = x.1 + f then HT.lexLt (y.2 ++ [v]) (x.2 ++ [v]) else decide (y.1 + f < x.1 + f)) = false
  by_cases e : y.1 = x.1
  · rw [if_pos e] at h
    rw [if_pos (by omega)]
    by_cases e2 : x.2 = y.2
    · rw [e2]
      exact lex_irr _
    · have hlt : HT.lexLt x.2 y.2 = true := by
        cases h3 : HT.lexLt x.2 y.2 with
        | true => rfl
        | false => exact absurd (lex_tot _ _ h3 h) e2
      have : HT.lexLt (x.2 ++ [v]) (y.2 ++ [v]) = true := by
        refine lex_snoc _ _ _ hlt fun r hr => ?_
        by_cases hr' : r = []
        · exact hr'
        · exfalso
          obtain ⟨u', d, h1, h2⟩ := hy.front hp x.2 r hr hx.ne hr'
          have eu : u = u' := by
            have q1 := hx.last
            have q2 : x.2.getLast? = some u' := h1.last
            rw [q1] at q2
            simpa using q2
          subst eu
          have hlen : x.2.length ≤ k := by
            have := congrArg List.length hr
            rw [List.length_append] at this
            omega
          have := hl (d, x.2) h1 hlen
          unfold leP ltP at this
          rw [if_neg (show ¬ d = x.1 by omega)] at this
          simp at this
          omega
      cases h4 : HT.lexLt (y.2 ++ [v]) (x.2 ++ [v]) with
      | false => rfl
      | true =>
        have := lex_trans _ _ _ this h4
        rw [lex_irr] at this
        cases this
  · rw [if_neg e] at h
    rw [if_neg (by omega)]
    simp at h ⊢
    omega
theorem ext_far {x : Pth} {f g v : Int} (h : f ≤ g) : leP (extP x f v) (extP x g v) := by
  unfold leP ltP extP
  simp only
  by_cases e : f = g
  · subst e
    rw [if_pos rfl]
    exact lex_irr _
  · rw [if_neg (by omega)]
    simp
    omega
theorem ext_more {x : Pth} {f v : Int} (h : 1 ≤ f) : leP x (extP x f v) := by
  unfold leP ltP extP
  simp only
  rw [if_neg (by omega)]
  simp
  omega
/-- the least walk to v -/
def Best (ws : List (List Int)) (s v : Int) (x : Pth) : Prop := Wk ws s v x ∧ ∀ y, Wk ws s v y → leP x y
theorem Best.uniq {v : Int} {x y : Pth} (h1 : Best ws s v x) (h2 : Best ws s v y) : x = y := leP_anti (h1.2 y h2.1) (h2.2 x h1.1)
/-! the relaxing of all ways -/
def Walks (ws : List (List Int)) (s : Int) (F : Int → Option Pth) : Prop := ∀ v x, F v = some x → Wk ws s v x
def BF (ws : List (List Int)) (s : Int) (r : Nat) (F : Int → Option Pth) : Prop := ∀ v y, Wk ws s v y → y.2.length ≤ r + 1 → ∃ x, F v = some x ∧ leP x y
/-- F is at least as good as G -/
def Btr (F G : Int → Option Pth) : Prop := ∀ v y, G v = some y → ∃ x, F v = some x ∧ leP x y
theorem Btr.refl (F : Int → Option Pth) : Btr F F := fun v y h => ⟨y, h, leP_refl _⟩
theorem Btr.trans {F G K : Int → Option Pth} (h1 : Btr F G) (h2 : Btr G K) : Btr F K := fun v y h => by
  obtain ⟨x, hx, l⟩ := h2 v y h
  obtain ⟨z, hz, l2⟩ := h1 v x hx
  exact ⟨z, hz, leP_trans l2 l⟩
theorem bf0 : BF ws s 0 (fun v => if v = s then some (0, [s]) else none) := by
  intro v y h hl
  cases h with
  | nil => exact ⟨_, if_pos rfl, leP_refl _⟩
  | step h e =>
    have := h.ne
    simp [extP] at hl
    exact absurd hl this
include hp in
theorem bf_step {r : Nat} {F G : Int → Option Pth} (hF : Walks ws s F) (h : BF ws s r F) (hb : Btr G F) (hr : ∀ u v f x, F u = some x → Edg ws u v f → ∃ z, G v = some z ∧ leP z (extP x f v)) : BF ws s (r + 1) G := by
  intro v y hy hl
  cases hy with
  | nil =>
    obtain ⟨x, hx, l⟩ := h s (0, [s]) .nil (by simp)
    obtain ⟨z, hz, l2⟩ := hb _ _ hx
    exact ⟨z, hz, leP_trans l2 l⟩
  | @step u _ f y hy e =>
    have hl' : y.2.length ≤ r + 1 := by
      simp [extP] at hl
      exact hl
    obtain ⟨x, hx, _⟩ := h u y hy hl'
    obtain ⟨z, hz, l⟩ := hr u v f x hx e
    refine ⟨z, hz, leP_trans l (ext_le hp (hF _ _ hx) hy hl' fun w hw hwl => ?_)⟩
    obtain ⟨x', hx', l'⟩ := h u w hw hwl
    rw [hx] at hx'
    cases hx'
    exact l'
include hp in
theorem bf_all {F : Int → Option Pth} (hF : Walks ws s F) (h0 : BF ws s 0 F) (hr : ∀ u v f x, F u = some x → Edg ws u v f → ∃ z, F v = some z ∧ leP z (extP x f v)) : ∀ r, BF ws s r F
  | 0 => h0
  | r + 1 => bf_step hp hF (bf_all hF h0 hr r) (Btr.refl F) hr
theorem bf_best {F : Int → Option Pth} (hF : Walks ws s F) (h : ∀ r, BF ws s r F) {v : Int} {x : Pth} (hx : F v = some x) : Best ws s v x := by
  refine ⟨hF _ _ hx, fun y hy => ?_⟩
  obtain ⟨z, hz, l⟩ := h y.2.length v y hy (by omega)
  rw [hx] at hz
  cases hz
  exact l
include hp in
/-- far enough: nothing gets better -/
theorem bf_far {D r : Nat} {F : Int → Option Pth} (hF : Walks ws s F) (h : BF ws s r F) (hD : D ≤ r) (hreach : ∀ v y, Wk ws s v y → ∃ z, Wk ws s v z ∧ z.1 ≤ D) : ∀ v y, Wk ws s v y → ∃ x, F v = some x ∧ leP x y := by
  intro v y hy
  obtain ⟨z, hz, hzD⟩ := hreach v y hy
  have hzl := hz.len hp
  obtain ⟨x, hx, l⟩ := h v z hz (by omega)
  by_cases hyD : y.1 ≤ D
  · have := hy.len hp
    exact h v y hy (by omega)
  · refine ⟨x, hx, ?_⟩
    have hxz : x.1 ≤ z.1 := by
      unfold leP ltP at l
      by_cases e : z.1 = x.1
      · omega
      · rw [if_neg e] at l
        simp at l
        omega
    unfold leP ltP
    rw [if_neg (by omega)]
    simp
    omega
/-! the least that waits -/
structure Dij (ws : List (List Int)) (s : Int) (F : Int → Option Pth) (Wt : List Pth) : Prop where
  best : ∀ v x, F v = some x → Best ws s v x
  walk : ∀ x ∈ Wt, ∃ v, Wk ws s v x
  ext : ∀ u x v f, F u = some x → Edg ws u v f → F v = none → ∃ w ∈ Wt, Wk ws s v w ∧ leP w (extP x f v)
  beg : F s = none → (0, [s]) ∈ Wt
theorem Dij.start : Dij ws s (fun _ => none) [(0, [s])] where
  best := fun v x h => by cases h
  walk := fun x h => by
    simp at h
    subst h
    exact ⟨s, .nil⟩
  ext := fun u x v f h => by cases h
  beg := fun _ => by simp
include hp in
theorem Dij.waits {F : Int → Option Pth} {Wt : List Pth} (d : Dij ws s F Wt) {z : Int} {y : Pth} (hy : Wk ws s z y) : F z = none → ∃ w ∈ Wt, leP w y := by
  induction hy with
  | nil => exact fun h => ⟨_, d.beg h, leP_refl _⟩
  | @step u v f y hy e ih =>
    intro hz
    cases hu : F u with
    | none =>
      obtain ⟨w, hw, l⟩ := ih hu
      exact ⟨w, hw, leP_trans l (ext_more (hp _ _ _ e))⟩
    | some x =>
      obtain ⟨w, hw, _, l⟩ := d.ext u x v f hu e hz
      have hb := d.best u x hu
      exact ⟨w, hw, leP_trans l (ext_le hp hb.1 hy (Nat.le_refl _) fun q hq _ => hb.2 q hq)⟩
include hp in
theorem Dij.least {F : Int → Option Pth} {Wt : List Pth} (d : Dij ws s F Wt) {v : Int} {x : Pth} (hx : x ∈ Wt) (hl : ∀ y ∈ Wt, leP x y) (hv : Wk ws s v x) (hF : F v = none) : Best ws s v x :=
  ⟨hv, fun y hy => by
    obtain ⟨w, hw, l⟩ := d.waits hp hy hF
    exact leP_trans (hl w hw) l⟩
/-- taken out, its end known -/
theorem Dij.drop {F : Int → Option Pth} {Wt Wt' : List Pth} (d : Dij ws s F Wt) {v : Int} {x : Pth} (hv : Wk ws s v x) (hF : F v ≠ none) (hs : ∀ y ∈ Wt', y ∈ Wt) (hk : ∀ y ∈ Wt, y ≠ x → y ∈ Wt') : Dij ws s F Wt' where
  best := d.best
  walk := fun y hy => d.walk y (hs y hy)
  ext := fun u y z f hu e hz => by
    obtain ⟨w, hw, h1, l⟩ := d.ext u y z f hu e hz
    refine ⟨w, hk w hw (fun q => ?_), h1, l⟩
    rw [q] at h1
    rw [← h1.ends hv] at hF
    exact hF hz
  beg := fun h => by
    refine hk _ (d.beg h) fun q => ?_
    rw [← q] at hv
    have : v = s := hv.ends .nil
    rw [this] at hF
    exact hF h
/-- taken out, its end new -/
theorem Dij.settle {F : Int → Option Pth} {Wt Wt' : List Pth} (d : Dij ws s F Wt) {v : Int} {x : Pth} (hb : Best ws s v x) (hs : ∀ y ∈ Wt', y ∈ Wt ∨ ∃ z, Wk ws s z y) (hk : ∀ y ∈ Wt, y ≠ x → y ∈ Wt')
    (hn : ∀ z f, Edg ws v z f → F z = none → z ≠ v → ∃ w ∈ Wt', Wk ws s z w ∧ leP w (extP x f z)) : Dij ws s (fun z => if z = v then some x else F z) Wt' where
  best := fun z y h => by
    by_cases e : z = v
    · rw [if_pos e] at h
      cases h
      rw [e]
      exact hb
    · rw [if_neg e] at h
      exact d.best z y h
  walk := fun y hy => (hs y hy).elim (d.walk y) id
  ext := fun u y z f hu e hz => by
    by_cases ez : z = v
    · rw [if_pos ez] at hz
      cases hz
    · rw [if_neg ez] at hz
      by_cases eu : u = v
      · rw [if_pos eu] at hu
        cases hu
        rw [eu] at e
        exact hn z f e hz ez
      · rw [if_neg eu] at hu
        obtain ⟨w, hw, h1, l⟩ := d.ext u y z f hu e hz
        exact ⟨w, hk w hw (fun q => ez (by rw [q] at h1; exact h1.ends hb.1)), h1, l⟩
  beg := fun h => by
    by_cases e : s = v
    · rw [if_pos e] at h
      cases h
    · rw [if_neg e] at h
      exact hk _ (d.beg h) fun q => e (by
        have := hb.1
        rw [← q] at this
        exact (this.ends .nil).symm)
end
end Cv
end
section
/-! the links of a net -/
namespace Cv
open PySem L2
abbrev Lnk := Int → Int → Option (Int × Int)
def LinkS (S : List (Int × Int × Int × Int)) (G : Lnk) : Prop := ∀ a b, (∀ f l, G a b = some (f, l) → (a, b, f, l) ∈ S) ∧ ∀ f l, (a, b, f, l) ∈ S → ∃ g k, G a b = some (g, k) ∧ HT.lexLt [f, l] [g, k] = false
def putG (G : Lnk) (a b : Int) (x : Int × Int) : Lnk := fun a' b' => if a' = a ∧ b' = b then some x else G a' b'
theorem LinkS.nil : LinkS [] (fun _ _ => none) := fun a b => ⟨fun f l h => (by cases h), fun f l h => by cases h⟩
theorem LinkS.put {S : List (Int × Int × Int × Int)} {G : Lnk} (h : LinkS S G) {a b f l : Int} (hn : ∀ g k, G a b = some (g, k) → HT.lexLt [f, l] [g, k] = true) : LinkS (S ++ [(a, b, f, l)]) (putG G a b (f, l)) := by
  intro a' b'
  unfold putG
  by_cases e : a' = a ∧ b' = b
  · obtain ⟨rfl, rfl⟩ := e
    simp only [and_self, if_true]
    refine ⟨fun g k hg => ?_, fun g k hg => ⟨f, l, rfl, ?_⟩⟩
    · simp at hg
      simp [hg.1, hg.2]
    · rcases List.mem_append.1 hg with hg | hg
      · obtain ⟨g', k', h1, h2⟩ := (h a' b').2 g k hg
        have h3 := hn g' k' h1
        cases h4 : HT.lexLt [g, k] [f, l] with
        | false => rfl
        | true => rw [lex_trans _ _ _ h4 h3] at h2; cases h2
      · simp at hg
        rw [hg.1, hg.2]
        exact lex_irr _
  · rw [if_neg e]
    refine ⟨fun g k hg => List.mem_append.2 (.inl ((h a' b').1 g k hg)), fun g k hg => ?_⟩
    rcases List.mem_append.1 hg with hg | hg
    · exact (h a' b').2 g k hg
    · simp at hg
      exact absurd ⟨hg.1, hg.2.1⟩ e
theorem LinkS.pass {S : List (Int × Int × Int × Int)} {G : Lnk} (h : LinkS S G) {a b f l g k : Int} (hg : G a b = some (g, k)) (hn : HT.lexLt [f, l] [g, k] = false) : LinkS (S ++ [(a, b, f, l)]) G := by
  intro a' b'
  refine ⟨fun g' k' hg' => List.mem_append.2 (.inl ((h a' b').1 g' k' hg')), fun g' k' hg' => ?_⟩
  rcases List.mem_append.1 hg' with hg' | hg'
  · exact (h a' b').2 g' k' hg'
  · simp at hg'
    obtain ⟨rfl, rfl, rfl, rfl⟩ := hg'
    exact ⟨g, k, hg, hn⟩
/-- both directions of a way -/
def dir2 : List Int → List (Int × Int × Int × Int)
  | [a, b, l, f] => [(a, b, f, l), (b, a, f, l)]
  | _ => []
def dirs (ws : List (List Int)) : List (Int × Int × Int × Int) := ws.flatMap dir2
theorem mem_dirs {ws : List (List Int)} {a b f l : Int} : (a, b, f, l) ∈ dirs ws ↔ ([a, b, l, f] ∈ ws ∨ [b, a, l, f] ∈ ws) := by
  unfold dirs
  rw [List.mem_flatMap]
  constructor
  · rintro ⟨x, hx, h⟩
    unfold dir2 at h
    split at h
    · simp at h
      rcases h with ⟨rfl, rfl, rfl, rfl⟩ | ⟨rfl, rfl, rfl, rfl⟩
      · exact .inl hx
      · exact .inr hx
    · cases h
  · rintro (h | h)
    · exact ⟨_, h, by simp [dir2]⟩
    · exact ⟨_, h, by simp [dir2]⟩
theorem dirs_take {ws : List (List Int)} {i : Nat} {x : List Int} (h : ws[i]? = some x) : dirs (ws.take (i + 1)) = dirs (ws.take i) ++ dir2 x := by
  unfold dirs
  rw [List.take_add_one, h, List.flatMap_append]
  simp
/-- the dict of links as it stands -/
structure LkAt (H : Hp) (kvs : List (List Key × V)) (G : Lnk) : Prop where
  key : ∀ k v, (k, v) ∈ kvs → ∃ a b : Int, k = [Sum.inl a, Sum.inl b]
  non : ∀ a b, G a b = none → valV kvs [Sum.inl a, Sum.inl b] = none
  val : ∀ a b f l, G a b = some (f, l) → ∃ p, valV kvs [Sum.inl a, Sum.inl b] = some (.ref p) ∧ H p = some (.tup [.int f, .int l])
theorem LkAt.nil {H : Hp} : LkAt H [] (fun _ _ => none) := ⟨fun _ _ h => (by cases h), fun _ _ _ => rfl, fun _ _ _ _ h => by cases h⟩
theorem LkAt.keep {H H' : Hp} {kvs : List (List Key × V)} {G : Lnk} (h : LkAt H kvs G) (e : ∀ b o, H b = some o → (∀ l, o ≠ .lst l) → (∀ l, o ≠ .dK l) → (∀ l, o ≠ .dT l) → H' b = some o) : LkAt H' kvs G :=
  ⟨h.key, h.non, fun a b f l hg => let ⟨p, h1, h2⟩ := h.val a b f l hg; ⟨p, h1, e _ _ h2 (by intro _ z; cases z) (by intro _ z; cases z) (by intro _ z; cases z)⟩⟩
theorem mem_putK {κ : Type} [DecidableEq κ] {kvs : List (κ × V)} {k k' : κ} {v v' : V} (h : (k', v') ∈ putK kvs k v) : k' = k ∨ (k', v') ∈ kvs := by
  unfold putK at h
  split at h
  · obtain ⟨kv, h1, h2⟩ := List.mem_map.1 h
    split at h2
    · rename_i e
      injection h2 with h3 h4
      exact .inl (h3 ▸ e)
    · exact .inr (h2 ▸ h1)
  · rcases List.mem_append.1 h with h | h
    · exact .inr h
    · simp at h
      exact .inl h.1
theorem LkAt.put {H : Hp} {kvs : List (List Key × V)} {G : Lnk} (h : LkAt H kvs G) {a b f l : Int} {p : Addr} (hp : H p = some (.tup [.int f, .int l])) : LkAt H (putK kvs [Sum.inl a, Sum.inl b] (.ref p)) (putG G a b (f, l)) := by
  refine ⟨fun k v hk => ?_, fun a' b' hg => ?_, fun a' b' f' l' hg => ?_⟩
  · rcases mem_putK hk with rfl | hk
    · exact ⟨a, b, rfl⟩
    · exact h.key k v hk
  · unfold putG at hg
    split at hg
    · cases hg
    · rename_i e
      rw [valV_put, if_neg (fun z => e (by simpa using z))]
      exact h.non a' b' hg
  · unfold putG at hg
    rw [valV_put]
    split at hg
    · rename_i e
      cases hg
      exact ⟨p, by rw [if_pos (by rw [e.1, e.2])], hp⟩
    · rename_i e
      rw [if_neg (fun z => e (by simpa using z))]
      exact h.val a' b' f' l' hg
theorem LkAt.some? {H : Hp} {kvs : List (List Key × V)} {G : Lnk} (h : LkAt H kvs G) (a b : Int) : (valV kvs [Sum.inl a, Sum.inl b]).isSome = (G a b).isSome := by
  cases hg : G a b with
  | none => rw [h.non a b hg]; rfl
  | some x =>
    obtain ⟨f, l⟩ := x
    obtain ⟨p, h1, _⟩ := h.val a b f l hg
    rw [h1]
    rfl
/-- a key that stands is a link -/
theorem LkAt.has {H : Hp} {kvs : List (List Key × V)} {G : Lnk} (h : LkAt H kvs G) {k : List Key} {v : V} (hk : (k, v) ∈ kvs) : ∃ a b f l p, k = [Sum.inl a, Sum.inl b] ∧ G a b = some (f, l) ∧ valV kvs k = some (.ref p) ∧ H p = some (.tup [.int f, .int l]) := by
  obtain ⟨a, b, rfl⟩ := h.key k v hk
  cases hg : G a b with
  | none =>
    have h1 := h.non a b hg
    have h2 := valV_any [Sum.inl a, Sum.inl b] kvs
    rw [h1] at h2
    have : (kvs.any fun kv => decide (kv.1 = [Sum.inl a, Sum.inl b])) = true := List.any_eq_true.2 ⟨_, hk, by simp⟩
    rw [this] at h2
    cases h2
  | some x =>
    obtain ⟨f, l⟩ := x
    obtain ⟨p, h1, h2⟩ := h.val a b f l hg
    exact ⟨a, b, f, l, p, rfl, hg, h1, h2⟩
/-- a link stands as a key -/
theorem LkAt.in {H : Hp} {kvs : List (List Key × V)} {G : Lnk} (h : LkAt H kvs G) {a b f l : Int} (hg : G a b = some (f, l)) : ∃ (i : Nat) (v : V), kvs[i]? = some ([Sum.inl a, Sum.inl b], v) := by
  obtain ⟨p, h1, _⟩ := h.val a b f l hg
  unfold valV at h1
  obtain ⟨kv, h2, _⟩ := Option.map_eq_some_iff.1 h1
  have h3 := List.mem_of_find?_eq_some h2
  have h4 := List.find?_some h2
  obtain ⟨i, hi, e⟩ := List.getElem_of_mem h3
  refine ⟨i, kv.2, ?_⟩
  rw [List.getElem?_eq_getElem hi, e]
  simp at h4
  rw [← h4]
/-- d[t] of a locked dict -/
def uIxF : R2 := fun x y H Q => match x with
  | .ref p => (match H p with
    | some (.frz _ (.dT kvs)) => (match y with
      | .ref t => (match H t with
        | some (.tup xs) => (match keysV xs with
          | some k => ∃ v, valV kvs k = some v ∧ Q v H
          | none => False)
        | _ => False)
      | _ => False)
    | _ => False)
  | _ => False
theorem u_ixF {X : Cx} (hu : X.A.units + 1 < cLine) : IxR X uIxF := by
  intro value slice pins s σ H x y v u Q I rx ry h hs
  unfold uIxF at h
  split at h
  · rename_i p
    split at h
    · rename_i o kvs e
      split at h
      · rename_i t
        split at h
        · rename_i xs et
          split at h
          · rename_i k ek
            have ex := keysV_is ek
            subst ex
            obtain ⟨w', e1, q⟩ := h
            exact ix_dict hu value slice pins s σ H _ _ v u Q I rx ry ⟨_, _, rfl, e1 ▸ .inr ⟨kvs, k, t, .inr ⟨o, e⟩, rfl, et, rfl⟩, q⟩ hs
          · exact h.elim
        · exact h.elim
      · exact h.elim
    · exact h.elim
  · exact h.elim
end Cv
end
section
/-! every yard is reached -/
namespace Cv
open PySem L2
theorem Edg.symm {ws : List (List Int)} {u v f : Int} (h : Edg ws u v f) : Edg ws v u f := let ⟨l, h⟩ := h; ⟨l, h.symm⟩
theorem edg_in {n : Nat} {ws : List (List Int)} (hw : ∀ x ∈ ws, WayOk n x) {u v f : Int} (h : Edg ws u v f) : (0 ≤ u ∧ u < n) ∧ (0 ≤ v ∧ v < n) ∧ 1 ≤ f := by
  obtain ⟨l, h | h⟩ := h
  · obtain ⟨a, b, l', f', e, h1, h2, h3, h4, h5, h6, h7⟩ := hw _ h
    cases e
    omega
  · obtain ⟨a, b, l', f', e, h1, h2, h3, h4, h5, h6, h7⟩ := hw _ h
    cases e
    omega
theorem edg_pos {n : Nat} {ws : List (List Int)} (hw : ∀ x ∈ ws, WayOk n x) : ∀ u v f, Edg ws u v f → 1 ≤ f := fun u v f h => (edg_in hw h).2.2
theorem wk_in {n : Nat} {ws : List (List Int)} (hw : ∀ x ∈ ws, WayOk n x) {s : Int} (hs : 0 ≤ s ∧ s < n) {v : Int} {x : Pth} (h : Wk ws s v x) : 0 ≤ v ∧ v < n := by
  cases h with
  | nil => exact hs
  | step _ e => exact (edg_in hw e).2.1
theorem reach_all {n : Nat} {ws : List (List Int)} (hw : ∀ x ∈ ws, WayOk n x) (hj : Joined n ws) {s : Int} (hs : 0 ≤ s ∧ s < n) {v : Int} (hv : 0 ≤ v ∧ v < n) : ∃ x, Wk ws s v x := by
  have key : ∀ k : Nat, k < n → ((∃ x, Wk ws s k x) ↔ ∃ x, Wk ws s 0 x) := by
    intro k
    induction k using Nat.strongRecOn with
    | ind k ih =>
      intro hk
      by_cases hz : k = 0
      · subst hz
        exact Iff.rfl
      · obtain ⟨x, hx, a, l, f, rfl⟩ := hj k (by omega) (by omega)
        obtain ⟨a', b', l', f', e, h1, h2, h3, _⟩ := hw _ hx
        cases e
        have ha := ih a.toNat (by omega) (by omega)
        rw [Int.toNat_of_nonneg h1] at ha
        rw [← ha]
        have hE : Edg ws a k f := ⟨l, .inl hx⟩
        exact ⟨fun ⟨y, hy⟩ => ⟨_, .step hy hE.symm⟩, fun ⟨y, hy⟩ => ⟨_, .step hy hE⟩⟩
  have h1 := (key s.toNat (by omega)).1 (by rw [Int.toNat_of_nonneg hs.1]; exact ⟨_, .nil⟩)
  have h2 := (key v.toNat (by omega)).2 h1
  rwa [Int.toNat_of_nonneg hv.1] at h2
theorem linkS_edg {ws : List (List Int)} {G : Lnk} (h : LinkS (dirs ws) G) {a b f l : Int} (hg : G a b = some (f, l)) : Edg ws a b f := ⟨l, mem_dirs.1 ((h a b).1 f l hg)⟩
theorem linkS_le {ws : List (List Int)} {G : Lnk} (h : LinkS (dirs ws) G) {a b f : Int} (he : Edg ws a b f) : ∃ g k, G a b = some (g, k) ∧ g ≤ f := by
  obtain ⟨l, he⟩ := he
  obtain ⟨g, k, h1, h2⟩ := (h a b).2 f l (mem_dirs.2 he)
  refine ⟨g, k, h1, ?_⟩
  rw [HT.lexLt_cons] at h2
  by_cases e : f = g
  · omega
  · rw [if_neg e] at h2
    simp at h2
    omega
theorem pDs_shaped (xs : List Pth) : PySem.SeqAt.shaped (.list (xs.map pD)) = true := by
  have h1 : ∀ l : List Int, PyData.canLayAll0 (l.map .int) = true := fun l => by
    induction l with
    | nil => rfl
    | cons a r ih =>
      show (true && _) = true
      rw [ih]
      rfl
  have h2 : PyData.canLayAll0 (xs.map pD) = true := by
    induction xs with
    | nil => rfl
    | cons x r ih =>
      show ((true && (PyData.canLayAll0 (x.2.map .int) && true)) && _) = true
      rw [h1, ih]
      rfl
  have h3 := pDs_depth xs
  unfold PySem.SeqAt.shaped
  rw [Bool.and_eq_true]
  refine ⟨h2, decide_eq_true ?_⟩
  simp only [PyData.depth]
  omega
theorem Fnd.add {n : Nat} {ks : List Int} (h : Fnd n ks) {v : Int} (hv : 0 ≤ v ∧ v < n) (hn : v ∉ ks) : Fnd n (v :: ks) :=
  ⟨List.nodup_cons.2 ⟨hn, h.nd⟩, fun x hx => (List.mem_cons.1 hx).elim (fun e => e ▸ hv) (h.bd x)⟩
theorem isaV_ref {H : Hp} {p : Addr} {T : String} : isaV H (.ref p) T = (match H p with
    | some (.lst _) => some (T == "list")
    | some (.tup _) => some (T == "tuple")
    | some (.frz _ (.tup _)) => some (T == "tuple")
    | some (.dK _) => some (T == "dict")
    | some (.dT _) => some (T == "dict")
    | _ => none) := rfl
theorem isa_mono {H H' : Hp} {x : V} {T : String} (e : Same H H') (h : (isaV H x T).isSome = true) : (isaV H' x T).isSome = true := by
  cases x with
  | ref p =>
    rw [isaV_ref] at h ⊢
    split at h
    all_goals first
      | (rename_i q; rw [e _ _ q]; rfl)
      | exact absurd h Bool.false_ne_true
  | _ => exact h
end Cv
end
section
/-! The V layer: what a text computes, told over data (trees), not over the heap.
  Sh Z H v d: the value v stands for the data d, all of it locked (never written again).
  Ow: an own list or dict (its items are locked data), that may be written. -/
namespace Cv
open PySem L2
abbrev D := PyData
/-- the program, the world, the written part -/
structure Zx where
  P : Program
  w : World
  K : PySem.W.Frag
/-! a key of a dict, up to == -/
mutual
def nk : D → Option NestedKey
  | .none => some .none
  | .bool b => some (.num (if b = true then 1 else 0))
  | .int i => some (.num i)
  | .str x => some (.text x)
  | .tuple xs => match nkAll xs with
    | some ks => some (.tup ks)
    | none => none
  | .list _ => none
  | .dict _ => none
def nkAll : List D → Option (List NestedKey)
  | [] => some []
  | x :: xs => match nk x, nkAll xs with
    | some k, some ks => some (k :: ks)
    | _, _ => none
end
/-- a dict whose keys are tuples, nested -/
def oN (Z : Zx) (a : Addr) (kvs : List (NestedKey × Addr × V)) : HO := .ext fun h => (a == sysModules) = false ∧ kvs.length ≤ sizeLine ∧ ∃ xs : List (NestedKey × Addr × Value),
  Paired (fun (p : NestedKey × Addr × V) (q : NestedKey × Addr × Value) => p.1 = q.1 ∧ p.2.1 = q.2.1 ∧ RelV p.2.2 q.2.2) kvs xs ∧
  ∃ o es ep, h.get? a = some o ∧ o.ExactDict ∧ o.data = .dict es ep ∧ es.toList = xs.map (entryOfKey (nestedKind Z.P Z.w)) ∧ (xs.map (·.1)).Nodup
/-- a tuple, locked or of the written part, that has no attributes -/
def TupAt (Z : Zx) (H : Hp) (a : Addr) (vs : List V) : Prop :=
  (∃ o : Obj, o.dict = none ∧ H a = some (.frz o (.tup vs))) ∨
  ∃ (o : Obj) (its : Array Value) (n : Nat), Z.K.lookup a = some o ∧ o.cls = .type "tuple" ∧ o.dict = none ∧ o.data = .seq its n ∧ its.size ≤ sizeLine ∧ Vals vs its.toList
/-- a list, locked or of the written part -/
def LstAt (Z : Zx) (H : Hp) (a : Addr) (vs : List V) : Prop :=
  (∃ o : Obj, H a = some (.frz o (.lst vs))) ∨ ∃ (its : List Value) (n : Nat), Z.K.lookup a = some { cls := .type "list", data := .seq its.toArray n } ∧ vs.length ≤ sizeLine ∧ Vals vs its
def keyD : Key → D
  | .inl i => .int i
  | .inr x => .str x
mutual
inductive Sh (Z : Zx) (H : Hp) : V → D → Prop
  | non : Sh Z H .non .none
  | bl (b : Bool) : Sh Z H (.bl b) (.bool b)
  | int (i : Int) : Sh Z H (.int i) (.int i)
  | str (x : Str) : Sh Z H (.str x) (.str x)
  | tup {a : Addr} {vs : List V} {ds : List D} : TupAt Z H a vs → ShAll Z H vs ds → Sh Z H (.ref a) (.tuple ds)
  | lst {a : Addr} {vs : List V} {ds : List D} : LstAt Z H a vs → ShAll Z H vs ds → Sh Z H (.ref a) (.list ds)
  | dK {a : Addr} {o : Obj} {kvs : List (Key × V)} {ds : List (D × D)} : H a = some (.frz o (.dK kvs)) → ShKv Z H kvs ds → Sh Z H (.ref a) (.dict ds)
  | dN {a : Addr} {o : Obj} {kvs : List (NestedKey × Addr × V)} {ds : List (D × D)} : H a = some (.frz o (oN Z a kvs)) → ShN Z H kvs ds → ds ≠ [] → Sh Z H (.ref a) (.dict ds)
inductive ShN (Z : Zx) (H : Hp) : List (NestedKey × Addr × V) → List (D × D) → Prop
  | nil : ShN Z H [] []
  | cons {k : NestedKey} {b : Addr} {v : V} {vs : List (NestedKey × Addr × V)} {ks : List D} {d : D} {ds : List (D × D)} : Sh Z H (.ref b) (.tuple ks) → nk (.tuple ks) = some k → k.depth ≤ 8 → Sh Z H v d → ShN Z H vs ds → ShN Z H ((k, b, v) :: vs) ((.tuple ks, d) :: ds)
inductive ShAll (Z : Zx) (H : Hp) : List V → List D → Prop
  | nil : ShAll Z H [] []
  | cons {v : V} {vs : List V} {d : D} {ds : List D} : Sh Z H v d → ShAll Z H vs ds → ShAll Z H (v :: vs) (d :: ds)
inductive ShKv (Z : Zx) (H : Hp) : List (Key × V) → List (D × D) → Prop
  | nil : ShKv Z H [] []
  | cons {k : Key} {v : V} {vs : List (Key × V)} {d : D} {ds : List (D × D)} : Sh Z H v d → ShKv Z H vs ds → ShKv Z H ((k, v) :: vs) ((keyD k, d) :: ds)
end
/-- what is locked stays -/
def Fz (H H' : Hp) : Prop := ∀ a o u, H a = some (.frz o u) → H' a = some (.frz o u)
theorem Fz.refl (H : Hp) : Fz H H := fun _ _ _ h => h
theorem Fz.trans {H H1 H2 : Hp} (a : Fz H H1) (b : Fz H1 H2) : Fz H H2 := fun p o u h => b p o u (a p o u h)
theorem Same.fz {H H' : Hp} (h : Same H H') : Fz H H' := fun a o u e => h a _ e
section
variable {Z : Zx} {H H' : Hp}
theorem TupAt.keep {a : Addr} {vs : List V} (h : TupAt Z H a vs) (f : Fz H H') : TupAt Z H' a vs := by
  rcases h with ⟨o, hd, e⟩ | h
  · exact .inl ⟨o, hd, f _ _ _ e⟩
  · exact .inr h
theorem LstAt.keep {a : Addr} {vs : List V} (h : LstAt Z H a vs) (f : Fz H H') : LstAt Z H' a vs := by
  rcases h with ⟨o, e⟩ | h
  · exact .inl ⟨o, f _ _ _ e⟩
  · exact .inr h
/-- a list to be read -/
def LstR (Z : Zx) (H : Hp) (a : Addr) (vs : List V) : Prop := Rd H a (.lst vs) ∨ ∃ (its : List Value) (n : Nat), Z.K.lookup a = some { cls := .type "list", data := .seq its.toArray n } ∧ vs.length ≤ sizeLine ∧ Vals vs its
theorem LstAt.r {a : Addr} {vs : List V} (h : LstAt Z H a vs) : LstR Z H a vs := by
  rcases h with ⟨o, e⟩ | h
  · exact .inl (.inr ⟨o, e⟩)
  · exact .inr h
theorem LstR.sq {a : Addr} {vs : List V} (h : LstR Z H a vs) : SqL Z.K H a vs := by
  rcases h with h | ⟨its, n, e, hz, rv⟩
  · exact .inl h
  · refine .inr ⟨_, its.toArray, n, e, rfl, rfl, rfl, ?_, by simpa using rv⟩
    have := rv.length
    rw [List.size_toArray]; omega
theorem TupAt.sq {a : Addr} {vs : List V} (h : TupAt Z H a vs) : SqT Z.K H a vs := by
  rcases h with ⟨o, _, e⟩ | ⟨o, its, n, h1, h2, _, h3⟩
  · exact .inl (.inr ⟨o, e⟩)
  · exact .inr ⟨o, its, n, h1, h2, h3⟩
mutual
theorem Sh.keep (f : Fz H H') : ∀ (d : D) (v : V), Sh Z H v d → Sh Z H' v d
  | .none, _, h => by cases h; exact .non
  | .bool b, _, h => by cases h; exact .bl b
  | .int i, _, h => by cases h; exact .int i
  | .str x, _, h => by cases h; exact .str x
  | .list ds, _, h => by
    cases h with
    | lst e a => exact .lst (e.keep f) (ShAll.keep f ds _ a)
  | .tuple ds, _, h => by
    cases h with
    | tup e a => exact .tup (e.keep f) (ShAll.keep f ds _ a)
  | .dict ds, _, h => by
    cases h with
    | dK e a => exact .dK (f _ _ _ e) (ShKv.keep f ds _ a)
    | dN e a n => exact .dN (f _ _ _ e) (ShN.keep f ds _ a) n
theorem ShN.keep (f : Fz H H') : ∀ (ds : List (D × D)) (vs : List (NestedKey × Addr × V)), ShN Z H vs ds → ShN Z H' vs ds
  | [], _, h => by cases h; exact .nil
  | d :: ds, _, h => by
    cases h with
    | cons h1 h2 h3 h4 h5 => exact .cons (Sh.keep f _ _ h1) h2 h3 (Sh.keep f _ _ h4) (ShN.keep f ds _ h5)
theorem ShAll.keep (f : Fz H H') : ∀ (ds : List D) (vs : List V), ShAll Z H vs ds → ShAll Z H' vs ds
  | [], _, h => by cases h; exact .nil
  | d :: ds, _, h => by
    cases h with
    | cons h1 h2 => exact .cons (Sh.keep f d _ h1) (ShAll.keep f ds _ h2)
theorem ShKv.keep (f : Fz H H') : ∀ (ds : List (D × D)) (vs : List (Key × V)), ShKv Z H vs ds → ShKv Z H' vs ds
  | [], _, h => by cases h; exact .nil
  | d :: ds, _, h => by
    cases h with
    | cons h1 h2 => exact .cons (Sh.keep f _ _ h1) (ShKv.keep f ds _ h2)
end
theorem Sh.up {v : V} {d : D} (h : Sh Z H v d) (f : Fz H H') : Sh Z H' v d := Sh.keep f d v h
theorem ShAll.up {v : List V} {d : List D} (h : ShAll Z H v d) (f : Fz H H') : ShAll Z H' v d := ShAll.keep f d v h
theorem ShKv.up {v : List (Key × V)} {d : List (D × D)} (h : ShKv Z H v d) (f : Fz H H') : ShKv Z H' v d := ShKv.keep f d v h
theorem ShN.up {v : List (NestedKey × Addr × V)} {d : List (D × D)} (h : ShN Z H v d) (f : Fz H H') : ShN Z H' v d := ShN.keep f d v h
theorem ShAll.length : ∀ {vs : List V} {ds : List D}, ShAll Z H vs ds → vs.length = ds.length
  | [], _, h => by cases h; rfl
  | v :: vs, _, h => by
    cases h with
    | cons h1 h2 => simp [ShAll.length h2]
theorem ShAll.append : ∀ {vs ws : List V} {ds es : List D}, ShAll Z H vs ds → ShAll Z H ws es → ShAll Z H (vs ++ ws) (ds ++ es)
  | [], _, _, _, h, g => by cases h; exact g
  | v :: vs, _, _, _, h, g => by
    cases h with
    | cons h1 h2 => exact .cons h1 (h2.append g)
theorem ShAll.drop : ∀ {vs : List V} {ds : List D} (n : Nat), ShAll Z H vs ds → ShAll Z H (vs.drop n) (ds.drop n)
  | _, _, 0, h => h
  | [], _, n + 1, h => by cases h; simp; exact .nil
  | v :: vs, _, n + 1, h => by
    cases h with
    | cons h1 h2 => simpa using h2.drop n
theorem ShAll.take : ∀ {vs : List V} {ds : List D} (n : Nat), ShAll Z H vs ds → ShAll Z H (vs.take n) (ds.take n)
  | _, _, 0, h => by simp; exact .nil
  | [], _, n + 1, h => by cases h; simp; exact .nil
  | v :: vs, _, n + 1, h => by
    cases h with
    | cons h1 h2 => simpa using ShAll.cons h1 (h2.take n)
theorem ShAll.get : ∀ {vs : List V} {ds : List D} {i : Nat} {d : D}, ShAll Z H vs ds → ds[i]? = some d → ∃ v, vs[i]? = some v ∧ Sh Z H v d
  | [], _, i, d, h, e => by cases h; simp at e
  | v :: vs, _, 0, d, h, e => by
    cases h with
    | cons h1 h2 => simp at e; subst e; exact ⟨v, rfl, h1⟩
  | v :: vs, _, i + 1, d, h, e => by
    cases h with
    | cons h1 h2 => simp at e; simpa using h2.get e
theorem ShAll.get' : ∀ {vs : List V} {ds : List D} {i : Nat} {v : V}, ShAll Z H vs ds → vs[i]? = some v → ∃ d, ds[i]? = some d ∧ Sh Z H v d
  | [], _, i, d, h, e => by cases h; simp at e
  | v :: vs, _, 0, d, h, e => by
    cases h with
    | cons h1 h2 => simp at e; subst e; exact ⟨_, rfl, h1⟩
  | v :: vs, _, i + 1, d, h, e => by
    cases h with
    | cons h1 h2 => simp at e; simpa using h2.get' e
theorem ShAll.set : ∀ {vs : List V} {ds : List D} {v : V} {d : D} (i : Nat), ShAll Z H vs ds → Sh Z H v d → ShAll Z H (vs.set i v) (ds.set i d)
  | [], _, _, _, i, h, g => by cases h; exact .nil
  | w :: vs, _, _, _, 0, h, g => by
    cases h with
    | cons h1 h2 => exact .cons g h2
  | w :: vs, _, _, _, i + 1, h, g => by
    cases h with
    | cons h1 h2 => exact .cons h1 (h2.set i g)
theorem ShAll.eraseIdx : ∀ {vs : List V} {ds : List D} (i : Nat), ShAll Z H vs ds → ShAll Z H (vs.eraseIdx i) (ds.eraseIdx i)
  | [], _, i, h => by cases h; simp; exact .nil
  | v :: vs, _, 0, h => by
    cases h with
    | cons h1 h2 => simpa using h2
  | v :: vs, _, i + 1, h => by
    cases h with
    | cons h1 h2 => simpa using ShAll.cons h1 (h2.eraseIdx i)
theorem ShAll.rep {vs : List V} {ds : List D} (h : ShAll Z H vs ds) : ∀ n : Nat, ShAll Z H (List.replicate n vs).flatten (List.replicate n ds).flatten
  | 0 => .nil
  | n + 1 => by
    rw [List.replicate_succ, List.replicate_succ, List.flatten_cons, List.flatten_cons]
    exact h.append (h.rep n)
theorem ShAll.ints : ∀ ns : List Int, ShAll Z H (ns.map V.int) (ns.map .int)
  | [] => .nil
  | n :: ns => .cons (.int n) (ShAll.ints ns)
theorem ShAll.strs : ∀ ns : List Str, ShAll Z H (ns.map V.str) (ns.map .str)
  | [] => .nil
  | n :: ns => .cons (.str n) (ShAll.strs ns)
/-- own: a list or a dict that may be written -/
inductive Ow (Z : Zx) (H : Hp) : V → D → Prop
  | lst {a : Addr} {vs : List V} {ds : List D} : H a = some (.lst vs) → ShAll Z H vs ds → Ow Z H (.ref a) (.list ds)
  | dK {a : Addr} {kvs : List (Key × V)} {ds : List (D × D)} : H a = some (.dK kvs) → ShKv Z H kvs ds → Ow Z H (.ref a) (.dict ds)
  | dN {a : Addr} {kvs : List (NestedKey × Addr × V)} {ds : List (D × D)} : H a = some (oN Z a kvs) → ShN Z H kvs ds → ds ≠ [] → Ow Z H (.ref a) (.dict ds)
/-- to be read -/
inductive Rp (Z : Zx) (H : Hp) : V → D → Prop
  | sh {v : V} {d : D} : Sh Z H v d → Rp Z H v d
  | ow {v : V} {d : D} : Ow Z H v d → Rp Z H v d
theorem Ow.mut {a : Addr} {d : D} (h : Ow Z H (.ref a) d) : Mut (H a) := by
  cases h with
  | lst e _ => rw [e]; trivial
  | dK e _ => rw [e]; trivial
  | dN e _ _ => rw [e]; trivial
/-- no table of code objects, no code object -/
structure NoTab (x : Option HO) : Prop where
  t : ∀ ps, x ≠ some (.tbl ps)
  c : ∀ c q, x ≠ some (LamX.CodeO c q)
theorem nt_none : NoTab none := ⟨fun _ => by simp, fun _ _ => by simp⟩
theorem nt_lst {xs : List V} : NoTab (some (.lst xs)) := ⟨fun _ => by simp, fun _ _ => by simp [LamX.CodeO]⟩
theorem nt_dK {xs : List (Key × V)} : NoTab (some (.dK xs)) := ⟨fun _ => by simp, fun _ _ => by simp [LamX.CodeO]⟩
theorem nt_oN {Z : Zx} {a : Addr} {kvs : List (NestedKey × Addr × V)} : NoTab (some (oN Z a kvs)) := ⟨fun _ => by simp [oN], fun c q z => by
  simp only [oN, LamX.CodeO, Option.some.injEq, HO.ext.injEq] at z
  have e := congrFun z ⟨Array.replicate (c + 1) { cls := .none, data := .fields #[.none, .str q default] }, {}⟩
  have g : ∀ b o, (Heap.mk (Array.replicate (c + 1) { cls := .none, data := .fields #[.none, .str q default] }) {}).get? b = some o → o = { cls := .none, data := .fields #[.none, .str q default] } := fun b o hb => by
    have := (Heap.get?_some_iff.mp hb).1
    simp only [Array.getElem?_replicate] at this
    split at this
    · exact (Option.some.inj this).symm
    · cases this
  have : ∃ (oc : Obj) (vs : Array Value) (t : Tok), (Heap.mk (Array.replicate (c + 1) { cls := .none, data := .fields #[.none, .str q default] }) {}).get? c = some oc ∧ oc.data = .fields vs ∧ vs[1]? = some (.str q t) :=
    ⟨{ cls := .none, data := .fields #[.none, .str q default] }, _, default, Heap.get?_some_iff.mpr ⟨by simp, rfl⟩, rfl, rfl⟩
  rw [← e] at this
  obtain ⟨_, _, xs, _, o, es, ep, h1, _, h3, _⟩ := this
  rw [g _ _ h1] at h3
  cases h3⟩
theorem Ow.noTab {a : Addr} {d : D} (h : Ow Z H (.ref a) d) : NoTab (H a) := by
  cases h with
  | lst e _ => rw [e]; exact nt_lst
  | dK e _ => rw [e]; exact nt_dK
  | dN e _ _ => rw [e]; exact nt_oN
theorem Ow.ref {v : V} {d : D} (h : Ow Z H v d) : ∃ a, v = .ref a := by
  cases h <;> exact ⟨_, rfl⟩
/-- an own thing that is not touched -/
theorem Ow.keep {a : Addr} {d : D} (h : Ow Z H (.ref a) d) (f : Fz H H') (e : H' a = H a) : Ow Z H' (.ref a) d := by
  cases h with
  | lst e1 h2 => exact .lst (e.trans e1) (h2.up f)
  | dK e1 h2 => exact .dK (e.trans e1) (h2.up f)
  | dN e1 h2 n => exact .dN (e.trans e1) (h2.up f) n
theorem Ow.frz {a : Addr} {d : D} (h : Ow Z H (.ref a) d) : ∃ u, H a = some u ∧ Mut (some u) ∧ ∀ o, Fz H (upd H a (.frz o u)) ∧ Sh Z (upd H a (.frz o u)) (.ref a) d := by
  have fz : ∀ u o, H a = some u → Mut (some u) → Fz H (upd H a (.frz o u)) := fun u o e m b o' u' e' => by
    have : b ≠ a := fun z => by
      subst z
      rw [e] at e'
      cases e'
      exact m
    rw [upd_ne this]; exact e'
  cases h with
  | lst e h2 => exact ⟨_, e, trivial, fun o => ⟨fz _ o e trivial, .lst (.inl ⟨o, upd_same⟩) (h2.up (fz _ o e trivial))⟩⟩
  | dK e h2 => exact ⟨_, e, trivial, fun o => ⟨fz _ o e trivial, .dK upd_same (h2.up (fz _ o e trivial))⟩⟩
  | dN e h2 n => exact ⟨_, e, trivial, fun o => ⟨fz _ o e trivial, .dN upd_same (h2.up (fz _ o e trivial)) n⟩⟩
end
end Cv
end
section
/-! The V layer: states, judgements. -/
namespace Cv
open PySem L2
/-- a slot: own (may be written), its data -/
structure Sl where
  o : Bool
  d : D
abbrev Ev := List (Option Sl)
/-- an exception: its class, its fields -/
structure Ex where
  c : String
  fs : List D
inductive R (α : Type) where
  | ok (a : α) (ρ : Ev)
  | ex (e : Ex)
abbrev M (α : Type) := Ev → Option (R α)
def ret {α : Type} (a : α) : M α := fun ρ => some (.ok a ρ)
def bnd {α β : Type} (m : M α) (k : α → M β) : M β := fun ρ => match m ρ with
  | some (.ok a ρ') => k a ρ'
  | some (.ex e) => some (.ex e)
  | none => none
def lft {α : Type} (o : Option α) : M α := fun ρ => match o with
  | some a => some (.ok a ρ)
  | none => none
/-- a list or a dict -/
def isC : D → Bool
  | .list _ => true
  | .dict _ => true
  | _ => false
/-- nothing but perhaps a table of code objects -/
def Nn (H : Hp) (p : Addr) : Prop := ∀ o, H p = some o → ∃ ps, o = .tbl ps
theorem Nn.of {H : Hp} {p : Addr} (h : H p = none) : Nn H p := fun o e => by rw [h] at e; cases e
/-- from H on to H': only what stands at S was changed; the tables of T are told -/
structure Mv (T : List (Addr × Str)) (S : List Addr) (H H' : Hp) : Prop where
  old : ∀ a o, H a = some o → a ∉ S → (∀ ps, o ≠ .tbl ps) → H' a = some o
  fz : Fz H H'
  dom : ∀ a o, H a = some o → (∀ ps, o ≠ .tbl ps) → ∃ o', H' a = some o' ∧ ∀ ps, o' ≠ .tbl ps
  tb : LamX.Tabs T H ∧ LamX.Tabs T H'
theorem Mv.refl {T : List (Addr × Str)} (S : List Addr) (H : Hp) (t : LamX.Tabs T H) : Mv T S H H := ⟨fun _ _ h _ _ => h, Fz.refl H, fun _ o h n => ⟨o, h, n⟩, t, t⟩
theorem Mv.same {T : List (Addr × Str)} {S : List Addr} {H H' : Hp} (h : Same H H') (t : LamX.Tabs T H) : Mv T S H H' := ⟨fun a o e _ _ => h a o e, Same.fz h, fun a o e n => ⟨o, h a o e, n⟩, t, t.ext h⟩
theorem Mv.trans {T : List (Addr × Str)} {S S' : List Addr} {H H1 H2 : Hp} (a : Mv T S H H1) (b : Mv T S' H1 H2) (hs : ∀ p ∈ S', p ∈ S ∨ Nn H p) : Mv T S H H2 := by
  refine ⟨fun p o e hp n => ?_, a.fz.trans b.fz, fun p o e n => let ⟨o1, e1, n1⟩ := a.dom p o e n; b.dom p o1 e1 n1, a.tb.1, b.tb.2⟩
  have np : p ∉ S' := fun z => (hs p z).elim hp (fun q => let ⟨ps, z⟩ := q o e; n ps z)
  exact b.old p o (a.old p o e hp n) np n
theorem Mv.upd {T : List (Addr × Str)} {S : List Addr} {H H1 : Hp} {p : Addr} {o : HO} (a : Mv T S H H1) (hp : Nn H p ∨ p ∈ S) (nf : ∀ o' u, H1 p ≠ some (.frz o' u)) (nt : NoTab (H1 p)) (no : ∀ ps, o ≠ .tbl ps) : Mv T S H (L2.upd H1 p o) := by
  refine ⟨fun b u e hb n => ?_, fun b o' u e => ?_, fun b u e n => ?_, a.tb.1, fun r hr => ?_⟩
  · have ne : b ≠ p := fun z => by
      subst z
      rcases hp with h | h
      · obtain ⟨ps, z⟩ := h u e; exact n ps z
      · exact hb h
    rw [upd_ne ne]
    exact a.old b u e hb n
  · have := a.fz b o' u e
    rw [upd_ne (fun z => by subst z; exact nf _ _ this)]
    exact this
  · by_cases z : b = p
    · subst z; exact ⟨_, upd_same, no⟩
    · rw [upd_ne z]; exact a.dom b u e n
  · obtain ⟨ps, h1, h2, h3⟩ := a.tb.2 r hr
    refine ⟨ps, by rw [upd_ne (fun z => by rw [z] at h1; exact nt.t _ h1)]; exact h1, h2, fun pos cv hc => ?_⟩
    obtain ⟨c, e1, e2⟩ := h3 pos cv hc
    exact ⟨c, e1, by rw [upd_ne (fun z => by subst z; exact nt.c _ _ e2)]; exact e2⟩
/-- the classes; the tables of code objects -/
structure Cl where
  f : String → Addr
  T : List (Addr × Str)
instance : CoeFun Cl (fun _ => String → Addr) := ⟨Cl.f⟩
/-- what a def's text runs in: the written part, the classes, the heap at the entry, what may be written of it, what is wanted of what is raised -/
structure Gh where
  Z : Zx
  cl : Cl
  H0 : Hp
  S : List Addr
  W : XK
  fx : List Nat
  fv : Nat → Option V
  tp : List (Addr × HO)
def fldN : String → List Str
  | "Clash" => ["ahead", "note", "pages", "needed", "days"]
  | "NoText" => ["row"]
  | "TooMany" => ["many", "most"]
  | _ => []
def ExcAt (Z : Zx) (cl : Cl) (H : Hp) (e : Ex) (cls : Value) (od : Option Addr) : Prop := cls = .ref (cl e.c) ∧ match e.fs with
  | [] => od = none
  | fs => ∃ d vs, od = some d ∧ H d = some (.xd ((fldN e.c).zip vs)) ∧ ShAll Z H vs fs
def Kont {α : Type} (G : Gh) (r : Option (R α)) (k : α → Ev → Prop) : Prop := match r with
  | some (.ok a ρ) => k a ρ
  | some (.ex e) => ∀ cls od H, Mv G.cl.T G.S G.H0 H → ExcAt G.Z G.cl H e cls od → G.W cls od H
  | none => False
theorem Kont.mono {α : Type} {G : Gh} {r : Option (R α)} {k k' : α → Ev → Prop} (h : Kont G r k) (m : ∀ a ρ, k a ρ → k' a ρ) : Kont G r k' := by
  cases r with
  | none => exact h
  | some x =>
    cases x with
    | ok a ρ => exact m a ρ h
    | ex e => exact h
theorem Kont.bnd {α β : Type} {G : Gh} {m : M α} {k : α → M β} {ρ : Ev} {q : β → Ev → Prop} (h : Kont G (bnd m k ρ) q) : Kont G (m ρ) fun a ρ' => Kont G (k a ρ') q := by
  unfold Cv.bnd at h
  cases e : m ρ with
  | none => rw [e] at h; exact h
  | some x =>
    rw [e] at h
    cases x with
    | ok a ρ' => exact h
    | ex z => exact h
theorem Kont.lft {α : Type} {G : Gh} {o : Option α} {ρ : Ev} {q : α → Ev → Prop} (h : Kont G (lft o ρ) q) : ∃ a, o = some a ∧ q a ρ := by
  unfold Cv.lft at h
  cases o with
  | none => exact h.elim
  | some a => exact ⟨a, rfl, h⟩
/-- what is new or may be written -/
def NewA (G : Gh) (p : Addr) : Prop := Nn G.H0 p ∨ p ∈ G.S
def SlOk (G : Gh) (i : Nat) (H : Hp) (v : V) (s : Sl) : Prop := match s.o with
  | false => Sh G.Z H v s.d
  | true => Ow G.Z H v s.d ∧ ∀ p, v = .ref p → Nn G.H0 p ∨ (i ∈ G.fx ∧ p ∈ G.S)
structure Stt (G : Gh) (H : Hp) (σ : St) (ρ : Ev) : Prop where
  len : ρ.length = σ.length
  val : ∀ (i : Nat) s, ρ[i]? = some (some s) → ∃ v, σ[i]? = some (some v) ∧ SlOk G i H v s
  dis : ∀ (i j : Nat) (s t : Sl) p, ρ[i]? = some (some s) → ρ[j]? = some (some t) → s.o = true → t.o = true → σ[i]? = some (some (.ref p)) → σ[j]? = some (some (.ref p)) → i = j
  mv : Mv G.cl.T G.S G.H0 H
  fix : ∀ i ∈ G.fx, σ[i]? = some (G.fv i)
  tmp : ∀ q ∈ G.tp, H q.1 = some q.2 ∧ (Mut (some q.2) ∧ Nn G.H0 q.1 ∧ NoTab (some q.2)) ∧ ∀ (j : Nat) s, ρ[j]? = some (some s) → s.o = true → σ[j]? ≠ some (some (.ref q.1))
theorem SlOk.keep {G : Gh} {i : Nat} {H H' : Hp} {v : V} {s : Sl} (h : SlOk G i H v s) (f : Fz H H') (e : ∀ p, v = .ref p → s.o = true → H' p = H p) : SlOk G i H' v s := by
  unfold SlOk at *
  cases ho : s.o with
  | false => rw [ho] at h; exact h.up f
  | true =>
    rw [ho] at h
    obtain ⟨p, rfl⟩ := h.1.ref
    exact ⟨h.1.keep f (e p rfl ho), h.2⟩
/-- things more alone -/
theorem Stt.same {G : Gh} {H H' : Hp} {σ : St} {ρ : Ev} (h : Stt G H σ ρ) (e : Same H H') : Stt G H' σ ρ := by
  refine ⟨h.len, fun i s hs => ?_, h.dis, h.mv.trans (S' := []) (Mv.same e h.mv.tb.2) (fun _ z => nomatch z), h.fix, fun q hq => ⟨e _ _ (h.tmp q hq).1, (h.tmp q hq).2⟩⟩
  obtain ⟨v, h1, h2⟩ := h.val i s hs
  refine ⟨v, h1, h2.keep (Same.fz e) fun p hv ho => ?_⟩
  unfold SlOk at h2
  rw [ho, hv] at h2
  have m := h2.1.mut
  cases q : H p with
  | none => rw [q] at m; exact m.elim
  | some u => rw [e p u q]
/-- fresh: not of the entry, no own slot's -/
def FreshO (G : Gh) (σ : St) (ρ : Ev) (p : Addr) : Prop := Nn G.H0 p ∧ (∀ (j : Nat) s, ρ[j]? = some (some s) → s.o = true → σ[j]? ≠ some (some (.ref p))) ∧ ∀ q ∈ G.tp, q.1 ≠ p
/-- a result that may be one's own -/
def RO (G : Gh) (H : Hp) (σ : St) (ρ : Ev) (v : V) (d : D) : Prop := match isC d with
  | true => ∃ p, v = .ref p ∧ Ow G.Z H v d ∧ FreshO G σ ρ p
  | false => Sh G.Z H v d
/-- a new result of an operation -/
def NR (Z : Zx) (H H' : Hp) (v : V) (d : D) : Prop := match isC d with
  | true => ∃ p, v = .ref p ∧ H p = none ∧ Ow Z H' v d
  | false => Sh Z H' v d
theorem Stt.nn_new {G : Gh} {H : Hp} {σ : St} {ρ : Ev} (h : Stt G H σ ρ) {p : Addr} (e : Nn H p) : FreshO G σ ρ p := by
  have mu : ∀ u, H p = some u → Mut (some u) → False := fun u hu m => by
    obtain ⟨ps, rfl⟩ := e u hu
    exact m
  refine ⟨?_, fun j s hs ho he => ?_, fun q hq z => mu q.2 (by rw [← z]; exact (h.tmp q hq).1) (h.tmp q hq).2.1.1⟩
  · intro o q
    by_cases n : ∃ ps, o = .tbl ps
    · exact n
    · obtain ⟨o', e', n'⟩ := h.mv.dom p o q (fun ps z => n ⟨ps, z⟩)
      obtain ⟨ps, z⟩ := e o' e'
      exact (n' ps z).elim
  · obtain ⟨v, h1, h2⟩ := h.val j s hs
    rw [h1] at he
    cases he
    unfold SlOk at h2
    rw [ho] at h2
    have := h2.1.mut
    cases hp : H p with
    | none => rw [hp] at this; exact this
    | some u => rw [hp] at this; exact mu u hp this
theorem Stt.none_new {G : Gh} {H : Hp} {σ : St} {ρ : Ev} (h : Stt G H σ ρ) {p : Addr} (e : H p = none) : FreshO G σ ρ p := h.nn_new (.of e)
theorem NR.ro {G : Gh} {H H' : Hp} {σ : St} {ρ : Ev} {v : V} {d : D} (h : NR G.Z H H' v d) (s : Stt G H σ ρ) : RO G H' σ ρ v d := by
  unfold NR at h
  unfold RO
  cases e : isC d with
  | false => rw [e] at h; exact h
  | true =>
    rw [e] at h
    obtain ⟨p, hv, hp, hw⟩ := h
    exact ⟨p, hv, hw, s.none_new hp⟩
def tvE (G : Gh) (f : M D) : TE := fun σ H Q => ∃ ρ, Stt G H σ ρ ∧ Kont G (f ρ) fun d ρ' => ∀ v H', Fz H H' → Stt G H' σ ρ' → Sh G.Z H' v d → Q v H'
def tvB (G : Gh) (f : M D) : TE := fun σ H Q => ∃ ρ, Stt G H σ ρ ∧ Kont G (f ρ) fun d ρ' => ∀ v H', Fz H H' → Stt G H' σ ρ' → Rp G.Z H' v d → Q v H'
def tvO (G : Gh) (f : M D) : TE := fun σ H Q => ∃ ρ, Stt G H σ ρ ∧ Kont G (f ρ) fun d ρ' => ∀ v H', Fz H H' → Stt G H' σ ρ' → RO G H' σ ρ' v d → Q v H'
def tvT (G : Gh) (f : M Bool) : TT := fun σ H Q => ∃ ρ, Stt G H σ ρ ∧ Kont G (f ρ) fun b ρ' => ∀ H', Fz H H' → Stt G H' σ ρ' → Q b H'
def tvA (G : Gh) (f : M (List D)) : TA := fun σ H Q => ∃ ρ, Stt G H σ ρ ∧ Kont G (f ρ) fun ds ρ' => ∀ vs H', Fz H H' → Stt G H' σ ρ' → ShAll G.Z H' vs ds → Q vs H'
abbrev VE (X : Cx) (G : Gh) (e : Expr) (f : M D) : Prop := PE X e (tvE G f)
abbrev VB (X : Cx) (G : Gh) (e : Expr) (f : M D) : Prop := PE X e (tvB G f)
abbrev VO (X : Cx) (G : Gh) (e : Expr) (f : M D) : Prop := PE X e (tvO G f)
abbrev VT (X : Cx) (G : Gh) (e : Expr) (f : M Bool) : Prop := PT X e (tvT G f)
abbrev VA (X : Cx) (G : Gh) (es : List Expr) (f : M (List D)) : Prop := PA X es (tvA G f)
section
variable {X : Cx} {G : Gh}
/-! ### locking -/
theorem pe_lockV {e : Expr} {t : TE} (h : PE X e t) : PE X e (fun σ H Q => t σ H fun v H1 => Q v H1 ∨ ∃ a u, v = .ref a ∧ H1 a = some u ∧ Mut (some u) ∧ ∀ o, Q v (upd H1 a (.frz o u))) := by
  refine ⟨fun pins s σ H Q I hq => thn (h.run pins s σ H _ I hq) fun v s1 ⟨x, H1, I1, r, q⟩ => ?_⟩
  rcases q with q | ⟨a, u, rfl, e1, m, q⟩
  · exact ⟨x, H1, I1, r, q⟩
  · obtain ⟨od, I2⟩ := I1.lock e1 m
    exact ⟨_, _, I2, r, q od⟩
/-- locking an object that no own slot has -/
theorem Stt.lock {H : Hp} {σ : St} {ρ : Ev} {p : Addr} {u : HO} {o : Obj} (h : Stt G H σ ρ) (f : FreshO G σ ρ p) (e : H p = some u) (m : Mut (some u)) (nt : NoTab (H p)) (fz : Fz H (upd H p (.frz o u))) : Stt G (upd H p (.frz o u)) σ ρ := by
  refine ⟨h.len, fun i s hs => ?_, h.dis, h.mv.upd (.inl f.1) (fun o' u' z => by rw [e] at z; cases z; exact m) nt (fun _ z => nomatch z), h.fix, fun q hq => ⟨by rw [upd_ne (f.2.2 q hq)]; exact (h.tmp q hq).1, (h.tmp q hq).2⟩⟩
  obtain ⟨v, h1, h2⟩ := h.val i s hs
  refine ⟨v, h1, h2.keep fz fun q hv ho => ?_⟩
  have : q ≠ p := fun z => by
    subst z hv
    exact f.2.1 i s hs ho h1
  exact upd_ne this
/-- locking an own slot's object -/
theorem Stt.lockSlot {H : Hp} {σ : St} {ρ : Ev} {p : Addr} {u : HO} {o : Obj} {i : Nat} {s : Sl} (h : Stt G H σ ρ) (hi : ρ[i]? = some (some s)) (ho : s.o = true) (hv : σ[i]? = some (some (.ref p))) (e : H p = some u) (m : Mut (some u)) (nt : NoTab (H p)) (fz : Fz H (upd H p (.frz o u)))
    (sh : Sh G.Z (upd H p (.frz o u)) (.ref p) s.d) : Stt G (upd H p (.frz o u)) σ (ρ.set i (some ⟨false, s.d⟩)) := by
  have hil : i < ρ.length := (List.getElem?_eq_some_iff.mp hi).1
  have aux : ∀ (k : Nat) (t : Sl), (ρ.set i (some ⟨false, s.d⟩))[k]? = some (some t) → t.o = true → ρ[k]? = some (some t) := fun k t hk hot => by
    by_cases z : k = i
    · subst z
      rw [List.getElem?_set_self hil] at hk
      cases hk
      cases hot
    · rw [List.getElem?_set_ne (Ne.symm z)] at hk
      exact hk
  refine ⟨by simpa using h.len, fun j t ht => ?_, fun j k t1 t2 q h1 h2 h3 h4 h5 h6 => ?_, h.mv.upd ?_ (fun o' u' z => by rw [e] at z; cases z; exact m) nt (fun _ z => nomatch z), h.fix, fun q hq => ⟨?_, (h.tmp q hq).2.1, fun j t hj ht => (h.tmp q hq).2.2 j t (aux j t hj ht) ht⟩⟩
  · by_cases hj : j = i
    · subst hj
      rw [List.getElem?_set_self hil] at ht
      cases ht
      exact ⟨_, hv, sh⟩
    · rw [List.getElem?_set_ne (Ne.symm hj)] at ht
      obtain ⟨v, h1, h2⟩ := h.val j t ht
      refine ⟨v, h1, h2.keep fz fun q hq hoq => ?_⟩
      have : q ≠ p := fun z => by
        subst z hq
        exact hj (h.dis j i t s q ht hi hoq ho h1 hv)
      exact upd_ne this
  · exact h.dis j k t1 t2 q (aux j t1 h1 h3) (aux k t2 h2 h4) h3 h4 h5 h6
  · obtain ⟨v, h1, h2⟩ := h.val i s hi
    rw [hv] at h1
    cases h1
    unfold SlOk at h2
    rw [ho] at h2
    exact (h2.2 p rfl).imp id And.right
  · rw [upd_ne (fun z => (h.tmp q hq).2.2 i s hi ho (by rw [z]; exact hv))]
    exact (h.tmp q hq).1
/-- what is one's own is locked where it is handed on -/
theorem ve_frz {e : Expr} {f : M D} (h : VO X G e f) : VE X G e f := pe_imp (pe_lockV h) fun σ H Q ⟨ρ, S, k⟩ => ⟨ρ, S, k.mono fun d ρ' q v H1 fz S1 ro => by
  unfold RO at ro
  cases hd : isC d with
  | false => rw [hd] at ro; exact .inl (q v H1 fz S1 ro)
  | true =>
    rw [hd] at ro
    obtain ⟨p, rfl, ow, fr⟩ := ro
    obtain ⟨u, e1, m, z⟩ := ow.frz
    exact .inr ⟨p, u, rfl, e1, m, fun o => q _ _ (fz.trans (z o).1) (S1.lock fr e1 m ow.noTab (z o).1) (z o).2⟩⟩
theorem vb_of {e : Expr} {f : M D} (h : VE X G e f) : VB X G e f := pe_imp h fun σ H Q ⟨ρ, S, k⟩ => ⟨ρ, S, k.mono fun d ρ' q v H1 fz S1 sh => q v H1 fz S1 (.sh sh)⟩
/-- what isn't a list or a dict -/
def nonC : Option (R D) → Prop
  | some (.ok d _) => isC d = false
  | _ => True
/-! ### names, constants -/
def vVar (i : Nat) : M D := fun ρ => match ρ[i]? with
  | some (some s) => some (.ok s.d (if s.o then ρ.set i (some ⟨false, s.d⟩) else ρ))
  | _ => none
def vGet (i : Nat) : M D := fun ρ => match ρ[i]? with
  | some (some s) => some (.ok s.d ρ)
  | _ => none
theorem ve_var (i : Nat) {x : Str} {pos : Pos} (hN : X.N[i]? = some x := by rfl) (hv : Vis X.env.scope x := by first | exact Or.inl rfl | exact Or.inr (Or.inl rfl) | exact Or.inr (Or.inr rfl)) (hd : (x == ("__debug__" : Str)) = false := by decide)
    (hcd : (x == ("__classdict__" : Str)) = false := by decide) : VE X G (.Name x pos) (vVar i) := pe_imp (pe_lockV (pe_var hN hv hd hcd)) fun σ H Q ⟨ρ, S, k⟩ => by
  unfold vVar at k
  cases hs : ρ[i]? with
  | none => rw [hs] at k; exact k.elim
  | some r =>
    cases r with
    | none => rw [hs] at k; exact k.elim
    | some s =>
      rw [hs] at k
      obtain ⟨v, h1, h2⟩ := S.val i s hs
      refine ⟨v, h1, ?_⟩
      cases ho : s.o with
      | false =>
        simp only [ho] at k
        unfold SlOk at h2
        rw [ho] at h2
        exact .inl (k v H (Fz.refl H) S h2)
      | true =>
        simp only [ho] at k
        unfold SlOk at h2
        rw [ho] at h2
        obtain ⟨p, rfl⟩ := h2.1.ref
        obtain ⟨u, e1, m, z⟩ := h2.1.frz
        exact .inr ⟨p, u, rfl, e1, m, fun o => k _ _ (z o).1 (S.lockSlot hs ho h1 e1 m h2.1.noTab (z o).1 (z o).2) (z o).2⟩
theorem vb_var (i : Nat) {x : Str} {pos : Pos} (hN : X.N[i]? = some x := by rfl) (hv : Vis X.env.scope x := by first | exact Or.inl rfl | exact Or.inr (Or.inl rfl) | exact Or.inr (Or.inr rfl)) (hd : (x == ("__debug__" : Str)) = false := by decide)
    (hcd : (x == ("__classdict__" : Str)) = false := by decide) : VB X G (.Name x pos) (vGet i) := pe_imp (pe_var hN hv hd hcd) fun σ H Q ⟨ρ, S, k⟩ => by
  unfold vGet at k
  cases hs : ρ[i]? with
  | none => rw [hs] at k; exact k.elim
  | some r =>
    cases r with
    | none => rw [hs] at k; exact k.elim
    | some s =>
      rw [hs] at k
      obtain ⟨v, h1, h2⟩ := S.val i s hs
      refine ⟨v, h1, k v H (Fz.refl H) S ?_⟩
      unfold SlOk at h2
      cases ho : s.o with
      | false => rw [ho] at h2; exact .sh h2
      | true => rw [ho] at h2; exact .ow h2.1
theorem vo_c {e : Expr} {v : V} {d : D} (h : PE X e (tC v)) (hs : ∀ H, Sh G.Z H v d) (hc : isC d = false := by rfl) : VO X G e (ret d) := pe_imp h fun σ H Q ⟨ρ, S, k⟩ => k v H (Fz.refl H) S (by unfold RO; rw [hc]; exact hs H)
theorem ve_c {e : Expr} {v : V} {d : D} (h : PE X e (tC v)) (hs : ∀ H, Sh G.Z H v d) : VE X G e (ret d) := pe_imp h fun σ H Q ⟨ρ, S, k⟩ => k v H (Fz.refl H) S (hs H)
theorem vo_int {i : Int} {j : Nat} {pos : Pos} : VO X G (.Constant (.int i) j pos) (ret (.int i)) := vo_c pe_int fun _ => .int i
theorem vo_bl {i : Bool} {j : Nat} {pos : Pos} : VO X G (.Constant (.bool i) j pos) (ret (.bool i)) := vo_c pe_bl fun _ => .bl i
theorem vo_non {j : Nat} {pos : Pos} : VO X G (.Constant .none j pos) (ret .none) := vo_c pe_non fun _ => .non
theorem vo_str {i : Str} {j : Nat} {pos : Pos} : VO X G (.Constant (.str i) j pos) (ret (.str i)) := vo_c pe_str fun _ => .str i
theorem vo_glI {x : Str} {i : Int} {pos : Pos} (hg : Gl X x) (h : ∃ t, X.mg x = some (.int i t)) (hd : (x == ("__debug__" : Str)) = false := by decide) : VO X G (.Name x pos) (ret (.int i)) := vo_c (pe_cI hg h hd) fun _ => .int i
/-- a written thing of the module -/
theorem vo_gl {x : Str} {u : Value} {v : V} {d : D} {pos : Pos} (hg : Gl X x) (h : X.mg x = some u) (r : RelV v u) (hs : ∀ H, Sh G.Z H v d) (hd : (x == ("__debug__" : Str)) = false := by decide) : VE X G (.Name x pos) (ret d) := ve_c (pe_glob hg h r hd) hs
end
end Cv
end
section
/-! The V layer: operators. -/
namespace Cv
open PySem L2
open PySem.Spec PyProof.Rows
section
variable {X : Cx} {G : Gh} {pins : List (Addr × Obj)} {σ : L2.St} {H : Hp} {s : Shared}
abbrev zx (X : Cx) : Zx := ⟨X.prog, X.w, X.K⟩
/-! ### data as the model reads it -/
theorem reads_key {h : Heap} {k : Key} {v : Value} (e : keyIs k v = true) : ∃ as, Reads h v (keyD k) as := by
  rcases keyIs_shape e with ⟨i, t, rfl, rfl⟩ | ⟨x, t, rfl, rfl⟩
  · exact ⟨_, .int i t⟩
  · exact ⟨_, .str x t⟩
theorem reads_keys {h : Heap} {knd : KeyKind X.prog X.w Key} (hk : knd = mixKind X.prog X.w) : ∀ {es : List DictEntry} {vs : List (Key × Value)} {kvs : List (Key × V)} {ds : List (D × D)}, Pairs knd es vs → KV kvs vs → ShKv (zx X) H kvs ds →
    ∃ as, ReadsAll h (es.map (·.key)) (ds.map (·.1)) as
  | [], _, _, _, p, q, r => by cases p; cases q; cases r; exact ⟨_, .nil⟩
  | e :: es, _, _, _, p, q, r => by
    cases p with
    | cons p1 p2 p3 =>
      cases q with
      | cons q1 q2 =>
        cases r with
        | cons r1 r2 =>
          subst hk
          obtain ⟨as, h1⟩ := reads_keys rfl p3 q2 r2
          simp only at q1
          obtain ⟨bs, h2⟩ := reads_key (h := h) (q1.1 ▸ p1)
          exact ⟨_, .cons h2 h1⟩
abbrev RelN : (NestedKey × Addr × V) → (NestedKey × Addr × Value) → Prop := fun p q => p.1 = q.1 ∧ p.2.1 = q.2.1 ∧ RelV p.2.2 q.2.2
theorem oN_ok (I : Inv X pins σ H s) {a : Addr} {kvs : List (NestedKey × Addr × V)} (h : Rd H a (oN (zx X) a kvs)) : (a == sysModules) = false ∧ kvs.length ≤ sizeLine ∧ ∃ xs : List (NestedKey × Addr × Value), Paired RelN kvs xs ∧
    ∃ o es ep, s.heap.get? a = some o ∧ o.ExactDict ∧ o.data = .dict es ep ∧ es.toList = xs.map (entryOfKey (nestedKind X.prog X.w)) ∧ (xs.map (·.1)).Nodup := (h.ok I.hok).1
mutual
theorem Sh.reads (I : Inv X pins σ H s) : ∀ (d : D) (v : V) (u : Value), Sh (zx X) H v d → RelV v u → ∃ as, Reads s.heap u d as
  | .none, _, _, h, r => by cases h; cases r; exact ⟨_, Reads.none⟩
  | .bool b, _, _, h, r => by cases h; cases r; exact ⟨_, Reads.bool b⟩
  | .int i, _, _, h, r => by cases h; obtain ⟨t, rfl⟩ := r; exact ⟨_, Reads.int i t⟩
  | .str x, _, _, h, r => by cases h; obtain ⟨t, rfl⟩ := r; exact ⟨_, Reads.str x t⟩
  | .list ds, _, _, h, r => by
    cases h with
    | lst hs ha =>
      cases r
      obtain ⟨its, rv, ⟨o, n, ho, hc, _, hd⟩, _⟩ := I.list hs.r.sq
      obtain ⟨as, hr⟩ := Sh.readsAll I ds _ its ha rv
      exact ⟨_, Reads.list ho hc hd hr⟩
  | .tuple ds, _, _, h, r => by
    cases h with
    | tup hs ha =>
      cases r
      obtain ⟨its, rv, ⟨o, ho, hc, n, hd⟩, _⟩ := I.tuple hs.sq
      obtain ⟨as, hr⟩ := Sh.readsAll I ds _ its ha rv
      exact ⟨_, Reads.tuple ho hc hd hr⟩
  | .dict ds, _, _, h, r => by
    cases h with
    | dK hs ha =>
      cases r
      obtain ⟨_, _, _, vs, kv, o, es, ep, e, ex, hd, _, pr, _⟩ := I.hok _ _ hs
      obtain ⟨as, h1⟩ := reads_keys (h := s.heap) rfl pr kv ha
      obtain ⟨bs, h2⟩ := Sh.readsKv I ds _ vs es.toList ha kv pr
      exact ⟨_, Reads.dict e ex.1 hd h1 h2⟩
    | dN hs ha hne =>
      cases r
      obtain ⟨_, _, xs, pr, o, es, ep, e, ex, hd, he, _⟩ := oN_ok I (.inr ⟨_, hs⟩)
      obtain ⟨as, bs, h1, h2⟩ := Sh.readsN I ds _ xs ha pr
      refine ⟨_, Reads.dict (as := as) (bs := bs) e ex.1 hd ?_ ?_⟩
      · rw [he, List.map_map]; exact h1
      · rw [he, List.map_map]; exact h2
theorem Sh.readsAll (I : Inv X pins σ H s) : ∀ (ds : List D) (vs : List V) (us : List Value), ShAll (zx X) H vs ds → Vals vs us → ∃ as, ReadsAll s.heap us ds as
  | [], _, _, h, r => by cases h; cases r; exact ⟨_, ReadsAll.nil⟩
  | d :: ds, _, _, h, r => by
    cases h with
    | cons h1 h2 =>
      cases r with
      | cons r1 r2 =>
        obtain ⟨as, q1⟩ := Sh.reads I d _ _ h1 r1
        obtain ⟨bs, q2⟩ := Sh.readsAll I ds _ _ h2 r2
        exact ⟨_, ReadsAll.cons q1 q2⟩
theorem Sh.readsN (I : Inv X pins σ H s) : ∀ (ds : List (D × D)) (kvs : List (NestedKey × Addr × V)) (xs : List (NestedKey × Addr × Value)), ShN (zx X) H kvs ds → Paired RelN kvs xs →
    ∃ as bs, ReadsAll s.heap (xs.map fun x => Value.ref x.2.1) (ds.map (·.1)) as ∧ ReadsAll s.heap (xs.map (·.2.2)) (ds.map (·.2)) bs
  | [], _, _, h, r => by cases h; cases r; exact ⟨_, _, ReadsAll.nil, ReadsAll.nil⟩
  | d :: ds, _, _, h, r => by
    cases h with
    | cons h1 h2 h3 h4 h5 =>
      cases r with
      | cons r1 r2 =>
        obtain ⟨_, e2, r3⟩ := r1
        simp only at e2 r3
        obtain ⟨as, q1⟩ := Sh.reads I _ _ (.ref _) h1 rfl
        obtain ⟨bs, q2⟩ := Sh.reads I _ _ _ h4 r3
        obtain ⟨cs, es, q3, q4⟩ := Sh.readsN I ds _ _ h5 r2
        rw [e2] at q1
        exact ⟨_, _, ReadsAll.cons q1 q3, ReadsAll.cons q2 q4⟩
theorem Sh.readsKv (I : Inv X pins σ H s) : ∀ (ds : List (D × D)) (kvs : List (Key × V)) (vs : List (Key × Value)) (es : List DictEntry), ShKv (zx X) H kvs ds → KV kvs vs → Pairs (mixKind X.prog X.w) es vs → ∃ as, ReadsAll s.heap (es.map (·.val)) (ds.map (·.2)) as
  | [], _, _, _, h, r, p => by cases h; cases r; cases p; exact ⟨_, ReadsAll.nil⟩
  | d :: ds, _, _, _, h, r, p => by
    cases h with
    | cons h1 h2 =>
      cases r with
      | cons r1 r2 =>
        cases p with
        | cons p1 p2 p3 =>
          obtain ⟨as, q1⟩ := Sh.reads I _ _ _ h1 r1.2
          obtain ⟨bs, q2⟩ := Sh.readsKv I ds _ _ _ h2 r2 p3
          rw [← p2] at q1
          exact ⟨_, ReadsAll.cons q1 q2⟩
end
theorem Rp.reads (I : Inv X pins σ H s) {d : D} {v : V} {u : Value} (h : Rp (zx X) H v d) (r : RelV v u) : ∃ as, Reads s.heap u d as := by
  cases h with
  | sh h => exact Sh.reads I d v u h r
  | ow h =>
    cases h with
    | lst hs ha =>
      cases r
      obtain ⟨its, rv, ⟨o, n, ho, hc, _, hd⟩, _⟩ := I.list (SqL.of hs)
      obtain ⟨as, hr⟩ := Sh.readsAll I _ _ its ha rv
      exact ⟨_, Reads.list ho hc hd hr⟩
    | dK hs ha =>
      cases r
      obtain ⟨_, _, vs, kv, o, es, ep, e, ex, hd, _, pr, _⟩ := I.hok _ _ hs
      obtain ⟨as, h1⟩ := reads_keys (h := s.heap) rfl pr kv ha
      obtain ⟨bs, h2⟩ := Sh.readsKv I _ _ vs es.toList ha kv pr
      exact ⟨_, Reads.dict e ex.1 hd h1 h2⟩
    | dN hs ha hne =>
      cases r
      obtain ⟨_, _, xs, pr, o, es, ep, e, ex, hd, he, _⟩ := oN_ok I (.inl hs)
      obtain ⟨as, bs, h1, h2⟩ := Sh.readsN I _ _ xs ha pr
      refine ⟨_, Reads.dict (as := as) (bs := bs) e ex.1 hd ?_ ?_⟩
      · rw [he, List.map_map]; exact h1
      · rw [he, List.map_map]; exact h2
theorem Rp.int {Z : Zx} {v : V} {i : Int} (h : Rp Z H v (.int i)) : v = .int i := by
  cases h with
  | sh h => cases h; rfl
  | ow h => cases h
theorem Rp.str {Z : Zx} {v : V} {i : Str} (h : Rp Z H v (.str i)) : v = .str i := by
  cases h with
  | sh h => cases h; rfl
  | ow h => cases h
theorem Rp.bl {Z : Zx} {v : V} {i : Bool} (h : Rp Z H v (.bool i)) : v = .bl i := by
  cases h with
  | sh h => cases h; rfl
  | ow h => cases h
theorem Rp.non {Z : Zx} {v : V} (h : Rp Z H v .none) : v = .non := by
  cases h with
  | sh h => cases h; rfl
  | ow h => cases h
theorem Rp.lst {Z : Zx} {v : V} {ds : List D} (h : Rp Z H v (.list ds)) : ∃ a vs, v = .ref a ∧ LstR Z H a vs ∧ ShAll Z H vs ds := by
  cases h with
  | sh h => cases h with | lst e a => exact ⟨_, _, rfl, e.r, a⟩
  | ow h => cases h with | lst e a => exact ⟨_, _, rfl, .inl (.inl e), a⟩
theorem Rp.tup {Z : Zx} {v : V} {ds : List D} (h : Rp Z H v (.tuple ds)) : ∃ a vs, v = .ref a ∧ TupAt Z H a vs ∧ ShAll Z H vs ds := by
  cases h with
  | sh h => cases h with | tup e a => exact ⟨_, _, rfl, e, a⟩
  | ow h => cases h
theorem Rp.dic {Z : Zx} {v : V} {ds : List (D × D)} (h : Rp Z H v (.dict ds)) : ∃ a, v = .ref a ∧ ((∃ kvs, Rd H a (.dK kvs) ∧ ShKv Z H kvs ds) ∨ (ds ≠ [] ∧ ∃ kvs, Rd H a (oN Z a kvs) ∧ ShN Z H kvs ds)) := by
  cases h with
  | sh h =>
    cases h with
    | dK e a => exact ⟨_, rfl, .inl ⟨_, .inr ⟨_, e⟩, a⟩⟩
    | dN e a n => exact ⟨_, rfl, .inr ⟨n, _, .inr ⟨_, e⟩, a⟩⟩
  | ow h =>
    cases h with
    | dK e a => exact ⟨_, rfl, .inl ⟨_, .inl e, a⟩⟩
    | dN e a n => exact ⟨_, rfl, .inr ⟨n, _, .inl e, a⟩⟩
theorem inv_lst {a : Addr} {xs : List V} (I : Inv X pins σ H s) (hH : LstR (zx X) H a xs) : xs.length ≤ sizeLine ∧ ∃ (its : List Value) (n : Nat), Vals xs its ∧ xs.length = its.length ∧ s.heap.get? a = some { cls := .type "list", data := .seq its.toArray n } := by
  rcases hH with hH | ⟨its, n, e, hz, rv⟩
  · obtain ⟨z, its, n, r, e⟩ := hH.ok I.hok
    exact ⟨z, its, n, r, r.length, e⟩
  · exact ⟨hz, its, n, rv, rv.length, I.kIn a _ e⟩
theorem nr_sh {Z : Zx} {H H' : Hp} {v : V} {d : D} (hc : isC d = false) (h : Sh Z H' v d) : NR Z H H' v d := by unfold NR; rw [hc]; exact h
theorem nr_ow {Z : Zx} {H H' : Hp} {p : Addr} {d : D} (hc : isC d = true) (hp : H p = none) (h : Ow Z H' (.ref p) d) : NR Z H H' (.ref p) d := by unfold NR; rw [hc]; exact ⟨p, rfl, hp, h⟩
theorem sm_upd {H : Hp} {p : Addr} {o : HO} (hp : H p = none) : Same H (upd H p o) := fun b u e => by rw [upd_ne (ne_of_none e hp)]; exact e
theorem nr_lst {Z : Zx} {H : Hp} {p : Addr} {vs : List V} {ds : List D} (hp : H p = none) (h : ShAll Z H vs ds) : NR Z H (upd H p (.lst vs)) (.ref p) (.list ds) := nr_ow rfl hp (.lst upd_same (h.up (Same.fz (sm_upd hp))))
/-- a new tuple is laid -/
theorem inv_tnew {tk : Nat} {vs : List V} {us : List Value} (I : Inv X pins σ H s) (r : Vals vs us) (hz : vs.length ≤ sizeLine) :
    Inv X pins σ (upd H s.heap.objs.size (.frz { cls := .type "tuple", data := .seq us.toArray } (.tup vs))) { s with heap := s.heap.push { cls := .type "tuple", data := .seq us.toArray }, toks := tk } :=
  I.laid (fun b u e => Heap.get?_push_of_some _ e) (Nat.le_refl _) (show ObjOk X.prog X.w _ _ _ (.frz _ (.tup vs)) from ⟨Heap.get?_push_size _ rfl, hz, us, r, IsTup.new _ _⟩)
theorem nr_tup {Z : Zx} {H : Hp} {p : Addr} {o : Obj} {vs : List V} {ds : List D} (hd : o.dict = none) (hp : H p = none) (h : ShAll Z H vs ds) : NR Z H (upd H p (.frz o (.tup vs))) (.ref p) (.tuple ds) :=
  nr_sh rfl (.tup (.inl ⟨o, hd, upd_same⟩) (h.up (Same.fz (sm_upd hp))))
/-! ### two-place operators -/
def rN (Z : Zx) (p : D → D → Option D) : R2 := fun x y H Q => ∃ dx dy d, Rp Z H x dx ∧ Rp Z H y dy ∧ p dx dy = some d ∧ ∀ v H', Same H H' → NR Z H H' v d → Q v H'
def OpV (X : Cx) (f : Value → Value → Sem Value) (p : D → D → Option D) : Prop := OpR X f (rN (zx X) p)
def dAdd : D → D → Option D
  | .int i, .int j => some (.int (i + j))
  | .str a, .str b => if a.length + b.length ≤ sizeLine then some (.str (a ++ b)) else none
  | .list a, .list b => if a.length + b.length ≤ sizeLine then some (.list (a ++ b)) else none
  | .tuple a, .tuple b => if a.length + b.length ≤ sizeLine then some (.tuple (a ++ b)) else none
  | _, _ => none
theorem o_add : OpV X (binaryOp .Add) dAdd := by
  intro pins s σ H x y v u Q I rx ry ⟨dx, dy, d, hx, hy, e, q⟩
  unfold dAdd at e
  split at e
  · cases e
    cases hx.int
    cases hy.int
    exact op_add pins s σ H _ _ v u Q I rx ry ⟨_, _, rfl, rfl, q _ _ (Same.refl H) (nr_sh rfl (.int _))⟩
  · split at e
    · cases e
      cases hx.str
      cases hy.str
      exact op_add_str pins s σ H _ _ v u Q I rx ry ⟨_, _, rfl, rfl, by assumption, q _ _ (Same.refl H) (nr_sh rfl (.str _))⟩
    · cases e
  · split at e
    · rename_i hz
      cases e
      obtain ⟨a, vs, rfl, ha, sa⟩ := hx.lst
      obtain ⟨b, ws, rfl, hb, sb⟩ := hy.lst
      cases rx
      cases ry
      obtain ⟨z, its, n, r, hl, e⟩ := inv_lst I ha
      obtain ⟨z2, its2, n2, r2, hl2, e2⟩ := inv_lst I hb
      rw [← sa.length, ← sb.length] at hz
      refine PySem.P.add_list e e2 ?_ (by rw [List.size_toArray, List.size_toArray]; omega)
      have ea : its.toArray ++ its2.toArray = (its ++ its2).toArray := by simp
      rw [ea]
      exact ⟨.ref _, _, I.lnew (t' := s.toks) (r.append r2) (by rw [List.length_append]; omega), rfl, q _ _ (sm_upd I.fresh) (nr_lst I.fresh (sa.append sb))⟩
    · cases e
  · split at e
    · rename_i hz
      cases e
      obtain ⟨a, vs, rfl, ha, sa⟩ := hx.tup
      obtain ⟨b, ws, rfl, hb, sb⟩ := hy.tup
      rw [← sa.length, ← sb.length] at hz
      cases rx
      cases ry
      obtain ⟨its, r1, p1, _⟩ := I.tuple ha.sq
      obtain ⟨its2, r2, p2, _⟩ := I.tuple hb.sq
      by_cases hv : vs = []
      · subst hv
        cases r1
        cases sa
        exact cat_tup0 p1 p2 ⟨.ref b, H, I, rfl, q _ _ (Same.refl H) (nr_sh rfl (.tup hb sb))⟩
      · refine HT.cat_tup p1 p2 (fun z => hv (r1.nil_iff.mp z)) (fun z => ?_) (fun z => ?_) (by rw [← r1.length, ← r2.length]; exact hz)
        · have hw := r2.nil_iff.mp z
          subst hw
          cases sb
          rw [List.append_nil] at q
          exact ⟨.ref a, H, I, rfl, q _ _ (Same.refl H) (nr_sh rfl (.tup ha sa))⟩
        · exact ⟨.ref s.heap.objs.size, _, inv_tnew I (tk := s.toks) (r1.append r2) (by rw [List.length_append]; exact hz), rfl, q _ _ (sm_upd I.fresh) (nr_tup rfl I.fresh (sa.append sb))⟩
    · cases e
  · cases e
/-- an operation on whole numbers -/
def dI (c : Int → Int → Prop) [DecidableRel c] (f : Int → Int → Int) : D → D → Option D
  | .int i, .int j => if c i j then some (.int (f i j)) else none
  | _, _ => none
theorem o_int {g : Value → Value → Sem Value} {c : Int → Int → Prop} [DecidableRel c] {f : Int → Int → Int} (h : ∀ i j, c i j → ∀ (pins : List (Addr × Obj)) (s : Shared) (σ : L2.St) (H : Hp) (v u : Value) (Q : VK), Inv X pins σ H s → RelV (.int i) v → RelV (.int j) u → Q (.int (f i j)) H → wpAny (model X.prog X.w) X.A (g v u) (EP X pins σ Q) X.xe s) : OpV X g (dI c f) := by
  intro pins s σ H x y v u Q I rx ry ⟨dx, dy, d, hx, hy, e, q⟩
  unfold dI at e
  split at e
  · split at e
    · cases e
      cases hx.int
      cases hy.int
      exact h _ _ (by assumption) pins s σ H v u Q I rx ry (q _ _ (Same.refl H) (nr_sh rfl (.int _)))
    · cases e
  · cases e
def cT : Int → Int → Prop := fun _ _ => True
instance : DecidableRel cT := fun _ _ => isTrue trivial
def dSub : D → D → Option D
  | .int i, .int j => some (.int (i - j))
  | _, _ => none
theorem o_sub : OpV X (binaryOp .Sub) dSub := by
  intro pins s σ H x y v u Q I rx ry ⟨dx, dy, d, hx, hy, e, q⟩
  unfold dSub at e
  split at e
  · cases e
    cases hx.int
    cases hy.int
    exact op_sub pins s σ H _ _ v u Q I rx ry ⟨_, _, rfl, rfl, q _ _ (Same.refl H) (nr_sh rfl (.int _))⟩
  · cases e
instance : DecidableRel CMul := fun i j => inferInstanceAs (Decidable ((-(2 ^ 64) < i ∧ i < 2 ^ 64) ∨ (-(2 ^ 64) < j ∧ j < 2 ^ 64)))
instance : DecidableRel CPow := fun i j => inferInstanceAs (Decidable (0 ≤ j ∧ j ≤ 1000000 ∧ i.natAbs < 2 ^ 64))
def dMul : D → D → Option D
  | .int i, .int j => if CMul i j then some (.int (i * j)) else none
  | .list xs, .int k => if -(2 ^ 63) ≤ k ∧ k < 2 ^ 63 ∧ xs.length * k.toNat ≤ sizeLine then some (.list (List.replicate k.toNat xs).flatten) else none
  | _, _ => none
theorem o_mul : OpV X (binaryOp .Mult) dMul := by
  intro pins s σ H x y v u Q I rx ry ⟨dx, dy, d, hx, hy, e, q⟩
  unfold dMul at e
  split at e
  · split at e
    · cases e
      cases hx.int
      cases hy.int
      exact op_mul pins s σ H _ _ v u Q I rx ry ⟨_, _, rfl, rfl, by assumption, q _ _ (Same.refl H) (nr_sh rfl (.int _))⟩
    · cases e
  · rename_i xs k
    split at e
    · rename_i hz
      obtain ⟨h1, h2, hz⟩ := hz
      cases e
      cases hy.int
      obtain ⟨a, vs, rfl, ha, sa⟩ := hx.lst
      cases rx
      obtain ⟨t, rfl⟩ := ry
      obtain ⟨z, its, n, r, hl, e⟩ := inv_lst I ha
      rw [← sa.length] at hz
      have big : (sizeLine : Nat) ≤ (2 ^ 63 - 1) / 8 := by decide
      have fold : ∀ m : Nat, List.foldl (fun x1 x2 => x1 ++ x2) #[] (List.replicate m its.toArray) = (List.replicate m its).flatten.toArray := fun m => by simpa using foldl_rep its m []
      have made : List.foldl (fun x1 x2 => x1 ++ x2) #[] (List.replicate (if its.toArray.isEmpty = true then 0 else k.toNat) its.toArray) = (List.replicate k.toNat its).flatten.toArray := by
        rw [fold]
        cases its with
        | nil => simp
        | cons _ _ => simp
      have inLine : its.toArray.size * k.toNat ≤ sizeLine := by simpa [← hl] using hz
      have go := AutoListH.list___mul___list_int_3 a its.toArray n k t (by simp [fitsIndex_both h1 h2]) (by omega) (by rw [notLongL inLine]; simp)
      refine wpAny_binaryOp_repeat_ref (T := "list") (U := "int") (by decide) ⟨_, e, rfl⟩ (fun s' => typeIs_int s' k t) noFill_list_mul F.fills_int_mul F.slot_int_rmul repeat_list F.slot_int_index.lookup (call_meets F.slot_int_rmul (typeIs_int s k t) F.entry_int_rmul (F.args_int_rmul_2 _ _) (int___rmul___int_list k t a its.toArray n) ⟨e, rfl, ⟨_, e, rfl⟩, call_meets F.slot_list_mul ⟨_, e, rfl⟩ F.entry_list_mul (F.args_list_mul_2 _ _) go ⟨e, ?_⟩⟩)
      rw [made]
      exact ⟨.ref _, _, I.lnew (t' := s.toks) (r.rep k.toNat) (by simpa [PyProof.Rows.lm_len_rep_flat, Nat.mul_comm] using hz), rfl, q _ _ (sm_upd I.fresh) (nr_lst I.fresh (sa.rep k.toNat))⟩
    · cases e
  · cases e
def dMod : D → D → Option D
  | .int i, .int j => if 0 < j then some (.int (i % j)) else none
  | _, _ => none
theorem o_mod : OpV X (binaryOp .Mod) dMod := by
  intro pins s σ H x y v u Q I rx ry ⟨dx, dy, d, hx, hy, e, q⟩
  unfold dMod at e
  split at e
  · split at e
    · cases e
      cases hx.int
      cases hy.int
      exact op_mod pins s σ H _ _ v u Q I rx ry ⟨_, _, rfl, rfl, by assumption, q _ _ (Same.refl H) (nr_sh rfl (.int _))⟩
    · cases e
  · cases e
/-- // : the divisor below 2 ^ 8000 -/
def dFdiv : D → D → Option D
  | .int i, .int j => if 0 < j ∧ j.natAbs.log2 < 9000 then some (.int (i / j)) else none
  | _, _ => none
theorem o_fdiv : OpV X (binaryOp .FloorDiv) dFdiv := by
  intro pins s σ H x y v u Q I rx ry ⟨dx, dy, d, hx, hy, e, q⟩
  unfold dFdiv at e
  split at e
  · split at e
    · rename_i hj
      cases e
      cases hx.int
      cases hy.int
      exact op_fdivW pins s σ H _ _ v u Q I rx ry ⟨_, _, rfl, rfl, hj, q _ _ (Same.refl H) (nr_sh rfl (.int _))⟩
    · cases e
  · cases e
def dPow : D → D → Option D
  | .int i, .int j => if CPow i j then some (.int (i ^ j.toNat)) else none
  | _, _ => none
theorem o_pow : OpV X (binaryOp .Pow) dPow := by
  intro pins s σ H x y v u Q I rx ry ⟨dx, dy, d, hx, hy, e, q⟩
  unfold dPow at e
  split at e
  · split at e
    · cases e
      cases hx.int
      cases hy.int
      exact op_pow pins s σ H _ _ v u Q I rx ry ⟨_, _, rfl, rfl, by assumption, q _ _ (Same.refl H) (nr_sh rfl (.int _))⟩
    · cases e
  · cases e
/-! ### comparisons -/
def gd (d : D) : Bool := d.plain && decide (d.depth ≤ 40)
def dEqB : D → D → Option Bool
  | .int i, .int j => some (decide (i = j))
  | .str i, .str j => some (decide (i = j))
  | .bool i, .bool j => some (decide (i = j))
  | .none, .none => some true
  | d, e => if gd d && gd e then some (PyData.eqv d e) else none
theorem dEqB_eqv {d e : D} {b : Bool} (h : dEqB d e = some b) : d.plain = true ∧ e.plain = true ∧ d.depth ≤ 40 ∧ b = PyData.eqv d e := by
  unfold dEqB at h
  split at h
  · cases h
    exact ⟨rfl, rfl, by simp [PyData.depth], by rw [Bool.eq_iff_iff]; simp [PyData.eqv]⟩
  · cases h
    exact ⟨rfl, rfl, by simp [PyData.depth], by rw [Bool.eq_iff_iff]; simp [PyData.eqv]⟩
  · cases h
    exact ⟨rfl, rfl, by simp [PyData.depth], by rw [Bool.eq_iff_iff]; simp [PyData.eqv]⟩
  · cases h
    exact ⟨rfl, rfl, by simp [PyData.depth], by simp [PyData.eqv]⟩
  · split at h
    · rename_i hg
      cases h
      simp only [gd, Bool.and_eq_true, decide_eq_true_eq] at hg
      exact ⟨hg.1.1, hg.2.1, hg.1.2, rfl⟩
    · cases h
def dEq (x y : D) : Option D := (dEqB x y).map .bool
def dNe (x y : D) : Option D := (dEqB x y).map fun b => .bool (!b)
theorem o_eq (hu : X.A.units + 64 < cLine) : OpV X (compareOp .Eq) dEq := by
  intro pins s σ H x y v u Q I rx ry ⟨dx, dy, d, hx, hy, e, q⟩
  obtain ⟨b, hb, rfl⟩ := Option.map_eq_some_iff.1 e
  obtain ⟨h1, h2, h3, rfl⟩ := dEqB_eqv hb
  obtain ⟨as, ra⟩ := hx.reads I rx
  obtain ⟨bs, rb⟩ := hy.reads I ry
  exact SeqAt.eq_plain ra rb h1 h2 (by omega) ⟨.bl _, H, I, rfl, q _ _ (Same.refl H) (nr_sh rfl (.bl _))⟩
theorem o_ne (hu : X.A.units + 64 < cLine) : OpV X (compareOp .NotEq) dNe := by
  intro pins s σ H x y v u Q I rx ry ⟨dx, dy, d, hx, hy, e, q⟩
  obtain ⟨b, hb, rfl⟩ := Option.map_eq_some_iff.1 e
  obtain ⟨h1, h2, h3, rfl⟩ := dEqB_eqv hb
  obtain ⟨as, ra⟩ := hx.reads I rx
  obtain ⟨bs, rb⟩ := hy.reads I ry
  exact SeqAt.ne_plain ra rb h1 h2 (by omega) ⟨.bl _, H, I, rfl, q _ _ (Same.refl H) (nr_sh rfl (.bl _))⟩
def isN : D → Bool
  | .none => true
  | _ => false
/-- less: numbers; else data that are alike -/
def dLtB : D → D → Option Bool
  | .int i, .int j => some (decide (i < j))
  | d, e => if gd d && PySem.W.alike d e && !isN d then some (PySem.W.dataLt d e) else none
theorem dLtB_is {d e : D} {b : Bool} (h : dLtB d e = some b) : PySem.W.alike d e = true ∧ d ≠ .none ∧ d.depth ≤ 40 ∧ b = PySem.W.dataLt d e := by
  unfold dLtB at h
  split at h
  · cases h
    exact ⟨rfl, (by intro z; cases z), by simp [PyData.depth], (PySem.W.dataLt_int _ _).symm⟩
  · split at h
    · rename_i hg
      cases h
      simp only [gd, Bool.and_eq_true, decide_eq_true_eq] at hg
      refine ⟨hg.1.2, fun z => ?_, hg.1.1.2, rfl⟩
      subst z
      exact Bool.false_ne_true hg.2
    · cases h
def dLt (x y : D) : Option D := (dLtB x y).map .bool
def dGt (x y : D) : Option D := (dLtB y x).map .bool
def dLe (x y : D) : Option D := (dLtB y x).map fun b => .bool (!b)
def dGe (x y : D) : Option D := (dLtB x y).map fun b => .bool (!b)
theorem alike_symm_none {d e : D} (h : PySem.W.alike d e = true) (hn : d ≠ .none) : e ≠ .none := fun z => by
  subst z
  cases d <;> first | exact hn rfl | (simp [PySem.W.alike] at h)
mutual
theorem alike_comm : ∀ d e : D, PySem.W.alike d e = PySem.W.alike e d
  | .none, e => by cases e <;> rfl
  | .bool _, e => by cases e <;> rfl
  | .int _, e => by cases e <;> rfl
  | .str _, e => by cases e <;> rfl
  | .dict _, e => by cases e <;> rfl
  | .list xs, .list ys => by simp only [PySem.W.alike]; exact alikeAll_comm xs ys
  | .tuple xs, .tuple ys => by simp only [PySem.W.alike]; exact alikeAll_comm xs ys
  | .list _, .none | .list _, .bool _ | .list _, .int _ | .list _, .str _ | .list _, .tuple _ | .list _, .dict _ => rfl
  | .tuple _, .none | .tuple _, .bool _ | .tuple _, .int _ | .tuple _, .str _ | .tuple _, .list _ | .tuple _, .dict _ => rfl
theorem alikeAll_comm : ∀ d e : List D, PySem.W.alikeAll d e = PySem.W.alikeAll e d
  | [], [] => rfl
  | [], _ :: _ => by simp [PySem.W.alikeAll]
  | _ :: _, [] => by simp [PySem.W.alikeAll]
  | x :: xs, y :: ys => by simp only [PySem.W.alikeAll]; rw [alike_comm x y, alikeAll_comm xs ys]
end
theorem o_lt (hu : X.A.units + 64 < cLine) : OpV X (compareOp .Lt) dLt := by
  intro pins s σ H x y v u Q I rx ry ⟨dx, dy, d, hx, hy, e, q⟩
  obtain ⟨b, hb, rfl⟩ := Option.map_eq_some_iff.1 e
  obtain ⟨h1, h2, h3, rfl⟩ := dLtB_is hb
  obtain ⟨as, ra⟩ := hx.reads I rx
  obtain ⟨bs, rb⟩ := hy.reads I ry
  exact PySem.W.lt_data ra rb h1 h2 (by omega) ⟨.bl _, H, I, rfl, q _ _ (Same.refl H) (nr_sh rfl (.bl _))⟩
theorem o_ge (hu : X.A.units + 64 < cLine) : OpV X (compareOp .GtE) dGe := by
  intro pins s σ H x y v u Q I rx ry ⟨dx, dy, d, hx, hy, e, q⟩
  obtain ⟨b, hb, rfl⟩ := Option.map_eq_some_iff.1 e
  obtain ⟨h1, h2, h3, rfl⟩ := dLtB_is hb
  obtain ⟨as, ra⟩ := hx.reads I rx
  obtain ⟨bs, rb⟩ := hy.reads I ry
  exact PySem.W.ge_data ra rb h1 h2 (by omega) ⟨.bl _, H, I, rfl, q _ _ (Same.refl H) (nr_sh rfl (.bl _))⟩
theorem o_gt (hu : X.A.units + 64 < cLine) : OpV X (compareOp .Gt) dGt := by
  intro pins s σ H x y v u Q I rx ry ⟨dx, dy, d, hx, hy, e, q⟩
  obtain ⟨b, hb, rfl⟩ := Option.map_eq_some_iff.1 e
  obtain ⟨h1, h2, h3, rfl⟩ := dLtB_is hb
  obtain ⟨as, ra⟩ := hx.reads I rx
  obtain ⟨bs, rb⟩ := hy.reads I ry
  exact PySem.W.gt_data ra rb (by rw [alike_comm]; exact h1) (alike_symm_none h1 h2) (by omega) ⟨.bl _, H, I, rfl, q _ _ (Same.refl H) (nr_sh rfl (.bl _))⟩
theorem o_le (hu : X.A.units + 64 < cLine) : OpV X (compareOp .LtE) dLe := by
  intro pins s σ H x y v u Q I rx ry ⟨dx, dy, d, hx, hy, e, q⟩
  obtain ⟨b, hb, rfl⟩ := Option.map_eq_some_iff.1 e
  obtain ⟨h1, h2, h3, rfl⟩ := dLtB_is hb
  obtain ⟨as, ra⟩ := hx.reads I rx
  obtain ⟨bs, rb⟩ := hy.reads I ry
  exact PySem.W.le_data ra rb (by rw [alike_comm]; exact h1) (alike_symm_none h1 h2) (by omega) ⟨.bl _, H, I, rfl, q _ _ (Same.refl H) (nr_sh rfl (.bl _))⟩
/-- is None; is True, is False -/
def dIsB : D → D → Option Bool
  | .bool a, .bool b => some (decide (a = b))
  | x, .none => some (isN x)
  | _, _ => none
def dIs (x y : D) : Option D := (dIsB x y).map .bool
def dIsNot (x y : D) : Option D := (dIsB x y).map fun b => .bool (!b)
theorem isNon_rp {Z : Zx} {v : V} {d : D} (h : Rp Z H v d) : isNon v = isN d := by
  cases h with
  | sh h => cases h <;> rfl
  | ow h => cases h <;> rfl
theorem o_is : OpV X (compareOp .Is) dIs := by
  intro pins s σ H x y v u Q I rx ry ⟨dx, dy, d, hx, hy, e, q⟩
  obtain ⟨b, hb, rfl⟩ := Option.map_eq_some_iff.1 e
  unfold dIsB at hb
  split at hb
  · cases hb
    cases hx.bl
    cases hy.bl
    exact op_is_bl pins s σ H _ _ v u Q I rx ry ⟨_, _, rfl, rfl, q _ _ (Same.refl H) (nr_sh rfl (.bl _))⟩
  · cases hb
    cases hy.non
    refine op_isN pins s σ H _ _ v u Q I rx ry ⟨rfl, ?_⟩
    rw [isNon_dec, isNon_rp hx]
    exact q _ _ (Same.refl H) (nr_sh rfl (.bl _))
  · cases hb
theorem o_isnot : OpV X (compareOp .IsNot) dIsNot := by
  intro pins s σ H x y v u Q I rx ry ⟨dx, dy, d, hx, hy, e, q⟩
  obtain ⟨b, hb, rfl⟩ := Option.map_eq_some_iff.1 e
  unfold dIsB at hb
  split at hb
  · cases hb
    cases hx.bl
    cases hy.bl
    exact op_isnot_bl pins s σ H _ _ v u Q I rx ry ⟨_, _, rfl, rfl, q _ _ (Same.refl H) (nr_sh rfl (.bl _))⟩
  · cases hb
    cases hy.non
    refine op_notN pins s σ H _ _ v u Q I rx ry ⟨rfl, ?_⟩
    rw [isNon_dec, isNon_rp hx]
    exact q _ _ (Same.refl H) (nr_sh rfl (.bl _))
  · cases hb
/-! ### dicts -/
def keyOf : D → Option Key
  | .int i => some (.inl i)
  | .str x => some (.inr x)
  | _ => none
def isT : D → Bool
  | .tuple _ => true
  | _ => false
/-- the key is of the kind of the dict's keys -/
def kOk (ds : List (D × D)) : D → Bool
  | .int _ => ds.all fun p => (keyOf p.1).isSome
  | .str _ => ds.all fun p => (keyOf p.1).isSome
  | .tuple xs => (match nk (.tuple xs) with
    | some k => decide (k.depth ≤ 8)
    | none => false) && ds.all fun p => isT p.1
  | _ => false
def gN : List (D × D) → NestedKey → Option D
  | [], _ => none
  | (d, x) :: r, k => if nk d = some k then some x else gN r k
def dGet (ds : List (D × D)) (x : D) : Option (Option D) := if kOk ds x then (match nk x with
  | some k => some (gN ds k)
  | none => none) else none
def keyN : Key → NestedKey
  | .inl i => .num i
  | .inr x => .text x
theorem keyN_inj {k k' : Key} (h : keyN k = keyN k') : k = k' := by
  cases k <;> cases k' <;> simp [keyN] at h <;> rw [h]
theorem nk_keyD (k : Key) : nk (keyD k) = some (keyN k) := by cases k <;> simp [keyD, nk, keyN]
def OptV (Z : Zx) (H : Hp) (o : Option V) : Option D → Prop
  | some d => ∃ v, o = some v ∧ Sh Z H v d
  | none => o = none
def OptK (Z : Zx) (H : Hp) (o : Option (Addr × Value)) : Option D → Prop
  | some d => ∃ p v, o = some p ∧ RelV v p.2 ∧ Sh Z H v d
  | none => o = none
theorem OptV.same {Z : Zx} {o : Option V} {r : Option D} (h : OptV Z H o r) : o.isSome = r.isSome := by
  cases r with
  | none => rw [show o = none from h]; rfl
  | some d => obtain ⟨v, rfl, _⟩ := h; rfl
theorem OptK.same {Z : Zx} {o : Option (Addr × Value)} {r : Option D} (h : OptK Z H o r) : o.isSome = r.isSome := by
  cases r with
  | none => rw [show o = none from h]; rfl
  | some d => obtain ⟨p, v, rfl, _⟩ := h; rfl
theorem gN_val {Z : Zx} : ∀ {kvs : List (Key × V)} {ds : List (D × D)} (k : Key), ShKv Z H kvs ds → OptV Z H (valV kvs k) (gN ds (keyN k))
  | [], _, k, h => by cases h; rfl
  | (k', v) :: r, _, k, h => by
    cases h with
    | cons h1 h2 =>
      have ih := gN_val k h2
      simp only [gN, nk_keyD, Option.some.injEq]
      by_cases e : k' = k
      · subst e
        rw [if_pos rfl]
        exact ⟨v, by simp [valV], h1⟩
      · rw [if_neg (fun z => e (keyN_inj z))]
        have hv : valV ((k', v) :: r) k = valV r k := by simp [valV, e]
        rw [hv]
        exact ih
mutual
theorem nest_is (I : Inv X pins σ H s) : ∀ (d : D) (v : V) (u : Value) (k : NestedKey), Sh (zx X) H v d → RelV v u → nk d = some k → NestedIs s.heap k u
  | .none, _, _, _, h, r, e => by cases h; cases r; cases e; exact .none
  | .bool b, _, _, _, h, r, e => by cases h; cases r; cases e; exact .bool rfl
  | .int i, _, _, _, h, r, e => by cases h; obtain ⟨t, rfl⟩ := r; cases e; exact .int i t
  | .str x, _, _, _, h, r, e => by cases h; obtain ⟨t, rfl⟩ := r; cases e; exact .text x t
  | .list _, _, _, _, _, _, e => by cases e
  | .dict _, _, _, _, _, _, e => by cases e
  | .tuple ds, _, _, k, h, r, e => by
    cases h with
    | tup hs ha =>
      cases r
      obtain ⟨its, rv, ⟨o, ho, hc, n, hd⟩, _⟩ := I.tuple hs.sq
      simp only [nk] at e
      split at e
      · rename_i ks ek
        cases e
        exact .tup ho hc hd (by simpa using nest_all I ds _ its ks ha rv ek)
      · cases e
theorem nest_all (I : Inv X pins σ H s) : ∀ (ds : List D) (vs : List V) (us : List Value) (ks : List NestedKey), ShAll (zx X) H vs ds → Vals vs us → nkAll ds = some ks → NestedAll s.heap ks us
  | [], _, _, _, h, r, e => by cases h; cases r; cases e; exact .nil
  | d :: ds, _, _, ks, h, r, e => by
    cases h with
    | cons h1 h2 =>
      cases r with
      | cons r1 r2 =>
        simp only [nkAll] at e
        split at e
        · rename_i k ks' e1 e2
          cases e
          exact .cons (nest_is I d _ _ k h1 r1 e1) (nest_all I ds _ _ ks' h2 r2 e2)
        · cases e
end
theorem atKey_gN {Z : Zx} (k : NestedKey) : ∀ {ds : List (D × D)} {kvs : List (NestedKey × Addr × V)} {xs : List (NestedKey × Addr × Value)}, ShN Z H kvs ds → Paired RelN kvs xs →
    OptK Z H (atKey xs k) (gN ds k)
  | [], _, _, h, r => by cases h; cases r; rfl
  | d :: ds, _, _, h, r => by
    cases h with
    | cons h1 h2 h3 h4 h5 =>
      cases r with
      | cons r1 r2 =>
        rename_i q _
        obtain ⟨e1, e2, r3⟩ := r1
        simp only at e1 r3
        have ih := atKey_gN k h5 r2
        simp only [gN, h2, Option.some.injEq]
        obtain ⟨k', b', u'⟩ := q
        simp only at e1
        subst e1
        rename_i k2 _ _ _ _ _ l2
        by_cases ek : k2 = k
        · rw [if_pos ek]
          exact ⟨_, _, by simp [atKey, ek], r3, h4⟩
        · rw [if_neg ek]
          have : atKey ((k2, b', u') :: l2) k = atKey l2 k := by simp only [atKey, List.find?_cons, ek, decide_false]
          rw [this]
          exact ih
/-- a dict asked by a tuple -/
theorem tupDict (I : Inv X pins σ H s) {a : Addr} {ds : List (D × D)} (h : Rp (zx X) H (.ref a) (.dict ds)) (ht : (ds.all fun p => isT p.1) = true) :
    (a == sysModules) = false ∧ ∃ kvs xs, ShN (zx X) H kvs ds ∧ Paired RelN kvs xs ∧ xs.length ≤ sizeLine ∧ s.heap.DictOfH (nestedKind X.prog X.w) a xs ∧ (Rd H a (oN (zx X) a kvs) ∨ (kvs = [] ∧ Rd H a (.dK []))) := by
  obtain ⟨_, e, h⟩ := h.dic
  cases e
  rcases h with ⟨kvs, hr, hk⟩ | ⟨_, kvs, hr, hn⟩
  · have en : ds = [] ∧ kvs = [] := by
      cases hk with
      | nil => exact ⟨rfl, rfl⟩
      | cons h1 h2 =>
        rename_i k _ _ _ _
        cases k <;> simp [keyD, isT] at ht
    obtain ⟨rfl, rfl⟩ := en
    obtain ⟨_, hs, vs, kv, o, es, ep, e, ex, hd, _, pr, _⟩ := hr.ok I.hok
    cases kv
    have he : es.toList = [] := by
      cases hh : es.toList with
      | nil => rfl
      | cons _ _ => rw [hh] at pr; cases pr
    exact ⟨hs, [], [], .nil, .nil, Nat.zero_le _, ⟨o, es, ep, e, ex, hd, by rw [he]; rfl, (by intro x hx; cases hx), List.nodup_nil⟩, .inr ⟨rfl, hr⟩⟩
  · obtain ⟨hs, hz, xs, pr, o, es, ep, e, ex, hd, he, nd⟩ := oN_ok I hr
    have hl : kvs.length = xs.length := Paired.length pr
    refine ⟨hs, kvs, xs, hn, pr, by omega, ⟨o, es, ep, e, ex, hd, he, fun x hx => ?_, nd⟩, .inl hr⟩
    have all : ∀ {ds : List (D × D)} {kvs : List (NestedKey × Addr × V)} {xs : List (NestedKey × Addr × Value)}, ShN (zx X) H kvs ds → Paired RelN kvs xs → ∀ x ∈ xs, (nestedKind X.prog X.w).is s.heap x.1 x.2.1 := by
      intro ds
      induction ds with
      | nil => intro _ _ h r; cases h; cases r; intro x hx; cases hx
      | cons d ds ih =>
        intro _ _ h r
        cases h with
        | cons h1 h2 h3 h4 h5 =>
          cases r with
          | cons r1 r2 =>
            rename_i q _
            intro x hx
            rcases List.mem_cons.1 hx with rfl | hx
            · obtain ⟨e1, e2, _⟩ := r1
              simp only at e1 e2
              rw [← e1, ← e2]
              exact ⟨nest_is I _ _ _ _ h1 rfl h2, h3⟩
            · exact ih h5 r2 x hx
    exact all hn pr x hx
theorem keyOf_kV {Z : Zx} {x : V} {d : D} {k : Key} (h : Rp Z H x d) (e : keyOf d = some k) : x = kV k ∧ nk d = some (keyN k) := by
  cases d <;> simp [keyOf] at e
  · cases h.int; subst e; exact ⟨rfl, by simp [nk, keyN]⟩
  · cases h.str; subst e; exact ⟨rfl, by simp [nk, keyN]⟩
/-- what a dict is asked -/
theorem dGet_ask {a : Addr} {x : V} {u : Value} {ds : List (D × D)} {dx : D} {r : Option D} (I : Inv X pins σ H s) (h : Rp (zx X) H (.ref a) (.dict ds)) (hx : Rp (zx X) H x dx) (rx : RelV x u) (e : dGet ds dx = some r) :
    (∃ o, DGet H a x o ∧ OptV (zx X) H o r) ∨
    (∃ b k xs, u = .ref b ∧ (a == sysModules) = false ∧ (nestedKind X.prog X.w).is s.heap k b ∧ s.heap.DictOfH (nestedKind X.prog X.w) a xs ∧ OptK (zx X) H (atKey xs k) r) := by
  unfold dGet at e
  split at e
  · rename_i ok
    have flat : ∀ k, keyOf dx = some k → (ds.all fun p => (keyOf p.1).isSome) = true → ∃ o, DGet H a x o ∧ OptV (zx X) H o r := by
      intro k ek hk
      obtain ⟨rfl, en⟩ := keyOf_kV hx ek
      rw [en] at e
      cases e
      obtain ⟨_, e, h⟩ := h.dic
      cases e
      rcases h with ⟨kvs, hr, hs⟩ | ⟨ne, kvs, hr, hn⟩
      · have := gN_val k hs
        exact ⟨valV kvs k, .inl ⟨kvs, k, hr, rfl, rfl⟩, this⟩
      · cases hn with
        | nil => exact absurd rfl ne
        | cons _ _ _ _ _ => simp [keyOf] at hk
    cases dx with
    | int i => exact .inl (flat _ rfl ok)
    | str i => exact .inl (flat _ rfl ok)
    | tuple xs =>
      simp only [kOk, Bool.and_eq_true] at ok
      obtain ⟨ok1, ok2⟩ := ok
      split at ok1
      · rename_i k ek
        rw [ek] at e
        cases e
        obtain ⟨hs, kvs, ys, hn, pr, hz, dd, _⟩ := tupDict I h ok2
        have := atKey_gN k hn pr
        obtain ⟨b, vs, rfl, ht, hv⟩ := hx.tup
        cases rx
        exact .inr ⟨b, k, ys, rfl, hs, ⟨nest_is I _ _ _ _ (.tup ht hv) rfl ek, of_decide_eq_true ok1⟩, dd, this⟩
      · cases ok1
    | none => cases ok
    | bool _ => cases ok
    | list _ => cases ok
    | dict _ => cases ok
  · cases e
/-- in: a list, a tuple, the keys of a dict -/
def gdAll (ds : List D) : Bool := PyData.plainAll ds && decide (PyData.depthAll ds ≤ 40)
def dInB : D → D → Option Bool
  | x, .list ys => if gd x && gdAll ys then some (ys.any fun y => PyData.eqv y x) else none
  | x, .tuple ys => if gd x && gdAll ys then some (ys.any fun y => PyData.eqv y x) else none
  | x, .dict kvs => (dGet kvs x).map Option.isSome
  | .str x, .str y => some (!(Builtin.Str.occurrences y x 0 y.length 1).isEmpty)
  | _, _ => none
def dIn (x y : D) : Option D := (dInB x y).map .bool
def dNotIn (x y : D) : Option D := (dInB x y).map fun b => .bool (!b)
theorem o_in (hu : X.A.units + 64 < cLine) : OpV X (compareOp .In) dIn := by
  intro pins s σ H x y v u Q I rx ry ⟨dx, dy, d, hx, hy, e, q⟩
  obtain ⟨b, hb, rfl⟩ := Option.map_eq_some_iff.1 e
  have q' := q (.bl b) H (Same.refl H) (nr_sh rfl (.bl _))
  unfold dInB at hb
  split at hb
  · split at hb
    · rename_i hg
      cases hb
      simp only [gd, gdAll, Bool.and_eq_true, decide_eq_true_eq] at hg
      obtain ⟨as, ra⟩ := hx.reads I rx
      obtain ⟨bs, rb⟩ := hy.reads I ry
      exact SeqAt.in_list_data rb ra hg.2.1 hg.1.1 (by omega) ⟨.bl _, H, I, rfl, q'⟩
    · cases hb
  · split at hb
    · rename_i hg
      cases hb
      simp only [gd, gdAll, Bool.and_eq_true, decide_eq_true_eq] at hg
      obtain ⟨as, ra⟩ := hx.reads I rx
      obtain ⟨bs, rb⟩ := hy.reads I ry
      exact SeqAt.in_tuple_data rb ra hg.2.1 hg.1.1 (by omega) ⟨.bl _, H, I, rfl, q'⟩
    · cases hb
  · obtain ⟨r, hr, rfl⟩ := Option.map_eq_some_iff.1 hb
    obtain ⟨a, rfl, _⟩ := hy.dic
    cases ry
    rcases dGet_ask I hy hx rx hr with ⟨o, g, z⟩ | ⟨b, k, xs, rfl, hs, hk, dd, z⟩
    · refine d_in (by omega) I g rx fun s3 I3 => ⟨.bl _, H, I3, rfl, ?_⟩
      rw [z.same]; exact q'
    · refine wpAny_in_heap (show X.A.in1.units + 8 < cLine by show X.A.units + 1 + 8 < cLine; omega) hk hs dd ?_
      rw [z.same]
      exact ⟨.bl _, H, I.tok _, rfl, q'⟩
  · cases hb
    cases hx.str
    cases hy.str
    exact op_in_str pins s σ H _ _ v u Q I rx ry ⟨_, _, rfl, rfl, q'⟩
  · cases hb
theorem o_notin (hu : X.A.units + 64 < cLine) : OpV X (compareOp .NotIn) dNotIn := by
  intro pins s σ H x y v u Q I rx ry ⟨dx, dy, d, hx, hy, e, q⟩
  obtain ⟨b, hb, rfl⟩ := Option.map_eq_some_iff.1 e
  have q' := q (.bl (!b)) H (Same.refl H) (nr_sh rfl (.bl _))
  unfold dInB at hb
  split at hb
  · split at hb
    · rename_i hg
      cases hb
      simp only [gd, gdAll, Bool.and_eq_true, decide_eq_true_eq] at hg
      obtain ⟨as, ra⟩ := hx.reads I rx
      obtain ⟨bs, rb⟩ := hy.reads I ry
      exact SeqAt.notIn_list_data rb ra hg.2.1 hg.1.1 (by omega) ⟨.bl _, H, I, rfl, q'⟩
    · cases hb
  · split at hb
    · rename_i hg
      cases hb
      simp only [gd, gdAll, Bool.and_eq_true, decide_eq_true_eq] at hg
      obtain ⟨as, ra⟩ := hx.reads I rx
      obtain ⟨bs, rb⟩ := hy.reads I ry
      exact SeqAt.notIn_tuple_data rb ra hg.2.1 hg.1.1 (by omega) ⟨.bl _, H, I, rfl, q'⟩
    · cases hb
  · obtain ⟨r, hr, rfl⟩ := Option.map_eq_some_iff.1 hb
    obtain ⟨a, rfl, _⟩ := hy.dic
    cases ry
    rcases dGet_ask I hy hx rx hr with ⟨o, g, z⟩ | ⟨b, k, xs, rfl, hs, hk, dd, z⟩
    · refine d_notIn (by omega) I g rx fun s3 I3 => ⟨.bl _, H, I3, rfl, ?_⟩
      rw [z.same]; exact q'
    · refine wpAny_notIn_heap (show X.A.in1.units + 8 < cLine by show X.A.units + 1 + 8 < cLine; omega) hk hs dd ?_
      rw [z.same]
      exact ⟨.bl _, H, I.tok _, rfl, q'⟩
  · cases hb
    cases hx.str
    cases hy.str
    refine op_notIn_str pins s σ H _ _ v u Q I rx ry ⟨_, _, rfl, rfl, ?_⟩
    simpa using q'
  · cases hb
end
end Cv
end
section
/-! The V layer: expressions. -/
namespace Cv
open PySem L2
section
variable {X : Cx} {G : Gh}
def vOp (p : D → D → Option D) (fa fb : M D) : M D := bnd fa fun x => bnd fb fun y => lft (p x y)
/-- the left one is an own name: read when the right one has been reckoned -/
def vOpL (p : D → D → Option D) (i : Nat) (fb : M D) : M D := bnd fb fun y => bnd (vGet i) fun x => lft (p x y)
theorem top_ro {p : D → D → Option D} {fa fb : M D} (hZ : G.Z = zx X) : ∀ σ H Q, tvO G (vOp p fa fb) σ H Q → tOp (rN (zx X) p) (tvE G fa) (tvB G fb) σ H Q := by
  obtain ⟨Z, cl, H0, S0, W, fx, fv, tp⟩ := G
  cases hZ
  rintro σ H Q ⟨ρ, S, k⟩
  refine ⟨ρ, S, k.bnd.mono fun x ρ1 k1 v H1 fz1 S1 s1 => ⟨ρ1, S1, k1.bnd.mono fun y ρ2 k2 w H2 fz2 S2 r2 => ?_⟩⟩
  obtain ⟨d, e, q⟩ := k2.lft
  exact ⟨x, y, d, .sh (s1.up fz2), r2, e, fun z H3 sm nr => q z H3 (fz1.trans (fz2.trans (Same.fz sm))) (S2.same sm) (nr.ro S2)⟩
/-- an own name, as it stands behind another reckoning -/
theorem Stt.get {H : Hp} {σ : St} {ρ : Ev} {i : Nat} {v : V} {s : Sl} (S : Stt G H σ ρ) (hv : σ[i]? = some (some v)) (hs : ρ[i]? = some (some s)) : Rp G.Z H v s.d := by
  obtain ⟨w, h1, h2⟩ := S.val i s hs
  rw [hv] at h1
  cases h1
  unfold SlOk at h2
  cases ho : s.o with
  | false => rw [ho] at h2; exact .sh h2
  | true => rw [ho] at h2; exact .ow h2.1
theorem Kont.get {α : Type} {i : Nat} {k : D → M α} {ρ : Ev} {q : α → Ev → Prop} (h : Kont G (Cv.bnd (vGet i) k ρ) q) : ∃ s, ρ[i]? = some (some s) ∧ Kont G (k s.d ρ) q := by
  have h1 := h.bnd
  unfold vGet at h1
  cases hs : ρ[i]? with
  | none => rw [hs] at h1; exact h1.elim
  | some r =>
    cases r with
    | none => rw [hs] at h1; exact h1.elim
    | some s => rw [hs] at h1; exact ⟨s, rfl, h1⟩
/-- a slot's value, whatever it holds (asked ahead of what may change it) -/
def tAny (i : Nat) : TE := tVar i
theorem topL_ro {p : D → D → Option D} {i : Nat} {fb : M D} (hZ : G.Z = zx X) : ∀ σ H Q, tvO G (fun ρ => if (ρ[i]?.join).isSome then vOpL p i fb ρ else none) σ H Q → tOp (rN (zx X) p) (tVar i) (tvB G fb) σ H Q := by
  obtain ⟨Z, cl, H0, S0, W, fx, fv, tp⟩ := G
  cases hZ
  rintro σ H Q ⟨ρ, S, k⟩
  dsimp only at k
  split at k
  · rename_i hi
    cases hs : ρ[i]? with
    | none => rw [hs] at hi; cases hi
    | some r =>
      cases r with
      | none => rw [hs] at hi; cases hi
      | some s0 =>
        obtain ⟨v, hv, _⟩ := S.val i s0 hs
        refine ⟨v, hv, ρ, S, k.bnd.mono fun y ρ2 k2 w H2 fz2 S2 r2 => ?_⟩
        obtain ⟨s, hs2, k3⟩ := k2.get
        obtain ⟨d, e, q⟩ := k3.lft
        exact ⟨s.d, y, d, S2.get hv hs2, r2, e, fun z H3 sm nr => q z H3 (fz2.trans (Same.fz sm)) (S2.same sm) (nr.ro S2)⟩
  · exact k.elim
def vOpN (p : D → D → Option D) (i : Nat) (fb : M D) : M D := fun ρ => if (ρ[i]?.join).isSome then vOpL p i fb ρ else none
variable {a b c : Expr} {fa fb fc : M D} {pos : Pos} {p p' : D → D → Option D}
theorem vo_op {op : Operator} (ho : OpV X (binaryOp op) p) (ha : VE X G a fa) (hb : VB X G b fb) (hZ : G.Z = zx X := by rfl) : VO X G (.BinOp a op b pos) (vOp p fa fb) := pe_imp (pe_op ho ha hb) (top_ro hZ)
theorem vo_opN {op : Operator} (i : Nat) {x : Str} {ps : Pos} (ho : OpV X (binaryOp op) p) (hb : VB X G b fb) (hZ : G.Z = zx X := by rfl) (hN : X.N[i]? = some x := by rfl) (hv : Vis X.env.scope x := by first | exact Or.inl rfl | exact Or.inr (Or.inl rfl) | exact Or.inr (Or.inr rfl))
    (hd : (x == ("__debug__" : Str)) = false := by decide) (hcd : (x == ("__classdict__" : Str)) = false := by decide) : VO X G (.BinOp (.Name x ps) op b pos) (vOpN p i fb) := pe_imp (pe_op ho (pe_var hN hv hd hcd) hb) (topL_ro hZ)
theorem vo_cmp {op : CmpOp} (ho : OpV X (compareOp op) p) (ha : VE X G a fa) (hb : VB X G b fb) (hm : behindInMarks op b = false) (hZ : G.Z = zx X := by rfl) : VO X G (.Compare a [op] [b] pos) (vOp p fa fb) := pe_imp (pe_cmpR ho ha hb hm) (top_ro hZ)
theorem vo_cmpN {op : CmpOp} (i : Nat) {x : Str} {ps : Pos} (ho : OpV X (compareOp op) p) (hb : VB X G b fb) (hm : behindInMarks op b = false) (hZ : G.Z = zx X := by rfl) (hN : X.N[i]? = some x := by rfl) (hv : Vis X.env.scope x := by first | exact Or.inl rfl | exact Or.inr (Or.inl rfl) | exact Or.inr (Or.inr rfl))
    (hd : (x == ("__debug__" : Str)) = false := by decide) (hcd : (x == ("__classdict__" : Str)) = false := by decide) : VO X G (.Compare (.Name x ps) [op] [b] pos) (vOpN p i fb) := pe_imp (pe_cmpR ho (pe_var hN hv hd hcd) hb hm) (topL_ro hZ)
/-- a op b op' c -/
def vChain (p p' : D → D → Option D) (fa fb fc : M D) : M D := bnd fa fun x => bnd fb fun y => bnd (lft (p x y)) fun r => match r with
  | .bool true => bnd fc fun z => lft (p' y z)
  | .bool false => ret (.bool false)
  | _ => fun _ => none
theorem vo_chain {op op' : CmpOp} (ho : OpV X (compareOp op) p) (ho' : OpV X (compareOp op') p') (ha : VE X G a fa) (hb : VE X G b fb) (hc : VB X G c fc) (hZ : G.Z = zx X := by rfl) (hm : lastMarks [op, op'] [b, c] = false := by rfl) :
    VO X G (.Compare a [op, op'] [b, c] pos) (vChain p p' fa fb fc) := pe_imp (pe_chain ho ho' ha hb hc hm) (by
  obtain ⟨Z, cl, H0, S0, W, fx, fv, tp⟩ := G
  cases hZ
  rintro σ H Q ⟨ρ, S, k⟩
  refine ⟨ρ, S, k.bnd.mono fun x ρ1 k1 v H1 fz1 S1 s1 => ⟨ρ1, S1, k1.bnd.mono fun y ρ2 k2 w H2 fz2 S2 r2 => ?_⟩⟩
  obtain ⟨d, e, q⟩ := k2.bnd.lft
  refine ⟨x, y, d, .sh (s1.up fz2), .sh r2, e, fun z H3 sm nr => ?_⟩
  cases d with
  | bool t =>
    have : z = .bl t := by
      have h : Sh (zx X) H3 z (.bool t) := nr
      cases h
      rfl
    subst this
    refine ⟨t, rfl, ?_⟩
    cases t with
    | true =>
      rw [if_pos rfl]
      refine ⟨ρ2, S2.same sm, (Kont.bnd q).mono fun y' ρ3 k3 w' H4 fz4 S4 r4 => ?_⟩
      obtain ⟨d', e', q'⟩ := k3.lft
      exact ⟨y, y', d', .sh ((r2.up (Same.fz sm)).up fz4), r4, e', fun z' H5 sm' nr' => q' z' H5 (fz1.trans (fz2.trans ((Same.fz sm).trans (fz4.trans (Same.fz sm'))))) (S4.same sm') (nr'.ro S4)⟩
    | false =>
      rw [if_neg (by decide)]
      exact q _ H3 (fz1.trans (fz2.trans (Same.fz sm))) (S2.same sm) (.bl false)
  | _ => exact q.elim)
/-! ### and, or, not -/
def vAnd (fa fb : M D) : M D := bnd fa fun x => match x with
  | .bool true => fb
  | .bool false => ret (.bool false)
  | _ => fun _ => none
def vOr (fa fb : M D) : M D := bnd fa fun x => match x with
  | .bool false => fb
  | .bool true => ret (.bool true)
  | _ => fun _ => none
def vNot (fa : M D) : M D := bnd fa fun x => match x with
  | .bool b => ret (.bool (!b))
  | _ => fun _ => none
variable {rest : List Expr}
theorem tvO_kont {f : M D} {σ : St} {H H' : Hp} {Q : VK} {ρ : Ev} (S : Stt G H' σ ρ) (fz : Fz H H') (k : Kont G (f ρ) fun d ρ' => ∀ v H'', Fz H H'' → Stt G H'' σ ρ' → RO G H'' σ ρ' v d → Q v H'') : tvO G f σ H' Q :=
  ⟨ρ, S, k.mono fun d ρ' q v H'' f2 => q v H'' (fz.trans f2)⟩
theorem tvE_kont {f : M D} {σ : St} {H H' : Hp} {Q : VK} {ρ : Ev} (S : Stt G H' σ ρ) (fz : Fz H H') (k : Kont G (f ρ) fun d ρ' => ∀ v H'', Fz H H'' → Stt G H'' σ ρ' → Sh G.Z H'' v d → Q v H'') : tvE G f σ H' Q :=
  ⟨ρ, S, k.mono fun d ρ' q v H'' f2 => q v H'' (fz.trans f2)⟩
theorem vo_one {op : BoolOp} (h : VO X G a fa) : VO X G (.BoolOp op [a] pos) fa := pe_one h
theorem vo_and (ha : VE X G a fa) (hb : VO X G (.BoolOp .And (b :: rest) pos) fb) : VO X G (.BoolOp .And (a :: b :: rest) pos) (vAnd fa fb) := pe_imp (pe_and ha hb) (by
  rintro σ H Q ⟨ρ, S, k⟩
  refine ⟨ρ, S, k.bnd.mono fun x ρ1 k1 v H1 fz1 S1 s1 => ?_⟩
  cases x with
  | bool t =>
    cases s1
    refine ⟨t, rfl, ?_⟩
    cases t with
    | true => rw [if_pos rfl]; exact tvO_kont S1 fz1 k1
    | false => rw [if_neg (by decide)]; exact k1 _ H1 fz1 S1 (show Sh G.Z H1 (.bl false) (.bool false) from .bl false)
  | _ => exact k1.elim)
theorem vo_or (ha : VE X G a fa) (hb : VO X G (.BoolOp .Or (b :: rest) pos) fb) : VO X G (.BoolOp .Or (a :: b :: rest) pos) (vOr fa fb) := pe_imp (pe_or ha hb) (by
  rintro σ H Q ⟨ρ, S, k⟩
  refine ⟨ρ, S, k.bnd.mono fun x ρ1 k1 v H1 fz1 S1 s1 => ?_⟩
  cases x with
  | bool t =>
    cases s1
    refine ⟨t, rfl, ?_⟩
    cases t with
    | false => rw [if_neg (by decide)]; exact tvO_kont S1 fz1 k1
    | true => rw [if_pos rfl]; exact k1 _ H1 fz1 S1 (show Sh G.Z H1 (.bl true) (.bool true) from .bl true)
  | _ => exact k1.elim)
theorem vo_not (ha : VE X G a fa) : VO X G (.UnaryOp .Not a pos) (vNot fa) := pe_imp (pe_not ha) (by
  rintro σ H Q ⟨ρ, S, k⟩
  refine ⟨ρ, S, k.bnd.mono fun x ρ1 k1 v H1 fz1 S1 s1 => ?_⟩
  cases x with
  | bool t => cases s1; exact ⟨t, rfl, k1 _ H1 fz1 S1 (show Sh G.Z H1 (.bl (!t)) (.bool (!t)) from .bl _)⟩
  | _ => exact k1.elim)
def dNeg : D → Option D
  | .int i => some (.int (-i))
  | _ => none
def vNeg (fa : M D) : M D := bnd fa fun x => lft (dNeg x)
theorem vo_neg (ha : VE X G a fa) : VO X G (.UnaryOp .USub a pos) (vNeg fa) := pe_imp (pe_un un_neg ha) (by
  rintro σ H Q ⟨ρ, S, k⟩
  refine ⟨ρ, S, k.bnd.mono fun x ρ1 k1 v H1 fz1 S1 s1 => ?_⟩
  obtain ⟨d, e, q⟩ := k1.lft
  cases x with
  | int i => cases e; cases s1; exact ⟨i, rfl, q _ H1 fz1 S1 (show Sh G.Z H1 (.int (-i)) (.int (-i)) from .int _)⟩
  | _ => cases e)
/-! ### tests -/
def vT (f : M D) : M Bool := bnd f fun x => match x with
  | .bool b => ret b
  | _ => fun _ => none
theorem vt_val (h : VE X G a fa) (he : ∀ whole, isTrue a X.env whole = (do let v ← whole; standAt a.pos; holding [v] (truthy v)) := by intro _; rfl) : VT X G a (vT fa) := pt_imp (pt_val h he) (by
  rintro σ H Q ⟨ρ, S, k⟩
  refine ⟨ρ, S, k.bnd.mono fun x ρ1 k1 v H1 fz1 S1 s1 => ?_⟩
  cases x with
  | bool t => cases s1; exact ⟨t, rfl, k1 H1 fz1 S1⟩
  | _ => exact k1.elim)
theorem vt_cmp {op : CmpOp} (ho : OpV X (compareOp op) p) (ha : VE X G a fa) (hb : VB X G b fb) (hm : behindInMarks op b = false) (hZ : G.Z = zx X := by rfl) : VT X G (.Compare a [op] [b] pos) (vT (vOp p fa fb)) := pt_imp (pt_cmpR ho ha hb hm) (by
  rintro σ H Q ⟨ρ, S, k⟩
  refine top_ro hZ σ H _ ⟨ρ, S, k.bnd.mono fun x ρ1 k1 v H1 fz1 S1 s1 => ?_⟩
  cases x with
  | bool t =>
    have h : Sh G.Z H1 v (.bool t) := s1
    cases h
    exact ⟨t, rfl, k1 H1 fz1 S1⟩
  | _ => exact k1.elim)
theorem vt_cmpN {op : CmpOp} (i : Nat) {x : Str} {ps : Pos} (ho : OpV X (compareOp op) p) (hb : VB X G b fb) (hm : behindInMarks op b = false) (hZ : G.Z = zx X := by rfl) (hN : X.N[i]? = some x := by rfl) (hv : Vis X.env.scope x := by first | exact Or.inl rfl | exact Or.inr (Or.inl rfl) | exact Or.inr (Or.inr rfl))
    (hd : (x == ("__debug__" : Str)) = false := by decide) (hcd : (x == ("__classdict__" : Str)) = false := by decide) : VT X G (.Compare (.Name x ps) [op] [b] pos) (vT (vOpN p i fb)) := pt_imp (pt_cmpR ho (pe_var hN hv hd hcd) hb hm) (by
  rintro σ H Q ⟨ρ, S, k⟩
  refine topL_ro hZ σ H _ ⟨ρ, S, k.bnd.mono fun x ρ1 k1 v H1 fz1 S1 s1 => ?_⟩
  cases x with
  | bool t =>
    have h : Sh G.Z H1 v (.bool t) := s1
    cases h
    exact ⟨t, rfl, k1 H1 fz1 S1⟩
  | _ => exact k1.elim)
abbrev VW (X : Cx) (G : Gh) (e : Expr) (f : M Bool) : Prop := PW X e (tvT G f)
variable {ta tb : M Bool}
def vNotT (t : M Bool) : M Bool := bnd t fun b => ret (!b)
def vAndT (t u : M Bool) : M Bool := bnd t fun b => if b then u else ret false
def vOrT (t u : M Bool) : M Bool := bnd t fun b => if b then ret true else u
theorem pw_imp {e : Expr} {t t' : TT} (h : PW X e t) (k : ∀ σ H Q, t' σ H Q → t σ H Q) : PW X e t' := ⟨fun w pins s σ H Q I q => h.run w pins s σ H Q I (k σ H Q q)⟩
theorem vt_not (ha : VT X G a ta) : VT X G (.UnaryOp .Not a pos) (vNotT ta) := pt_imp (pt_not ha) (by
  rintro σ H Q ⟨ρ, S, k⟩
  exact ⟨ρ, S, k.bnd.mono fun x ρ1 k1 H1 fz1 S1 => k1 H1 fz1 S1⟩)
theorem vw_and1 (ha : VT X G a ta) : VW X G (.BoolOp .And [a] pos) ta := pw_and1 ha
theorem vw_or1 (ha : VT X G a ta) : VW X G (.BoolOp .Or [a] pos) ta := pw_or1 ha
theorem vw_and (ha : VT X G a ta) (hb : VW X G (.BoolOp .And (b :: rest) pos) tb) : VW X G (.BoolOp .And (a :: b :: rest) pos) (vAndT ta tb) := pw_imp (pw_and ha hb) (by
  rintro σ H Q ⟨ρ, S, k⟩
  refine ⟨ρ, S, k.bnd.mono fun x ρ1 k1 H1 fz1 S1 => ?_⟩
  cases x with
  | true => rw [if_pos rfl]; exact ⟨ρ1, S1, Kont.mono k1 fun c ρ2 q H2 f2 => q H2 (fz1.trans f2)⟩
  | false => rw [if_neg (by decide)]; exact k1 H1 fz1 S1)
theorem vw_or (ha : VT X G a ta) (hb : VW X G (.BoolOp .Or (b :: rest) pos) tb) : VW X G (.BoolOp .Or (a :: b :: rest) pos) (vOrT ta tb) := pw_imp (pw_or ha hb) (by
  rintro σ H Q ⟨ρ, S, k⟩
  refine ⟨ρ, S, k.bnd.mono fun x ρ1 k1 H1 fz1 S1 => ?_⟩
  cases x with
  | false => rw [if_neg (by decide)]; exact ⟨ρ1, S1, Kont.mono k1 fun c ρ2 q H2 f2 => q H2 (fz1.trans f2)⟩
  | true => rw [if_pos rfl]; exact k1 H1 fz1 S1)
theorem vt_w (h : VW X G a ta) : VT X G a ta := h.pt
def vIf {α : Type} (t : M Bool) (fa fb : M α) : M α := bnd t fun b => if b then fa else fb
theorem vo_if (ht : VT X G c ta) (ha : VO X G a fa) (hb : VO X G b fb) : VO X G (.IfExp c a b pos) (vIf ta fa fb) := pe_imp (pe_ifExp ht ha hb) (by
  rintro σ H Q ⟨ρ, S, k⟩
  refine ⟨ρ, S, k.bnd.mono fun x ρ1 k1 H1 fz1 S1 => ?_⟩
  cases x with
  | true => rw [if_pos rfl]; exact tvO_kont S1 fz1 k1
  | false => rw [if_neg (by decide)]; exact tvO_kont S1 fz1 k1)
theorem ve_if (ht : VT X G c ta) (ha : VE X G a fa) (hb : VE X G b fb) : VE X G (.IfExp c a b pos) (vIf ta fa fb) := pe_imp (pe_ifExp ht ha hb) (by
  rintro σ H Q ⟨ρ, S, k⟩
  refine ⟨ρ, S, k.bnd.mono fun x ρ1 k1 H1 fz1 S1 => ?_⟩
  cases x with
  | true => rw [if_pos rfl]; exact tvE_kont S1 fz1 k1
  | false => rw [if_neg (by decide)]; exact tvE_kont S1 fz1 k1)
/-! ### arguments -/
variable {es : List Expr} {fs : M (List D)}
def vNil : M (List D) := ret []
def vCons (f : M D) (fs : M (List D)) : M (List D) := bnd f fun x => bnd fs fun xs => ret (x :: xs)
theorem va_nil : VA X G [] vNil := ⟨fun pos pins s σ H Q I ⟨ρ, S, k⟩ => pa_nil.run pos pins s σ H Q I (k [] H (Fz.refl H) S .nil)⟩
theorem va_cons (ha : VE X G a fa) (hr : VA X G es fs) (hs : starEach (a :: es) X.env = (false, eval a X.env) :: starEach es X.env := by rfl) : VA X G (a :: es) (vCons fa fs) := ⟨fun pos pins s σ H Q I ⟨ρ, S, k⟩ => (pa_cons ha hr hs).run pos pins s σ H Q I
  ⟨ρ, S, k.bnd.mono fun x ρ1 k1 v H1 fz1 S1 s1 => ⟨ρ1, S1, k1.bnd.mono fun xs ρ2 k2 vs H2 fz2 S2 r2 => k2 _ H2 (fz1.trans fz2) S2 (.cons (s1.up fz2) r2)⟩⟩⟩
/-! ### displays -/
def vTup (fs : M (List D)) : M D := bnd fs fun xs => lft (if xs.length ≤ 1000 then some (.tuple xs) else none)
def vLst (fs : M (List D)) : M D := bnd fs fun xs => lft (if xs.length ≤ 1000 then some (.list xs) else none)
theorem vo_tup {x1 : Nat} (h : VA X G es fs) (hZ : G.Z = zx X := by rfl) : VO X G (.Tuple es x1 pos) (vTup fs) := by
  obtain ⟨Z, cl, H0, S0, W, fx, fv, tp⟩ := G
  cases hZ
  refine ⟨fun pins s σ H Q I ⟨ρ, S, k⟩ => ?_⟩
  refine wpAny_Tuple_spliced (thn (h.run pos pins s σ H (fun vs H1 => vs.length ≤ 1000 ∧ ∀ p o, o.dict = none → H1 p = none → Q (.ref p) (upd H1 p (.frz o (.tup vs)))) I ⟨ρ, S, k.bnd.mono fun xs ρ1 k1 vs H1 fz1 S1 s1 => ?_⟩) fun us s1 ⟨xs, H1, I1, r, z, q⟩ => ⟨by rw [← r.length]; exact sz1000 z, ?_⟩)
  · obtain ⟨d, e, q⟩ := k1.lft
    split at e
    · cases e
      refine ⟨by rw [s1.length]; assumption, fun p o ho hp => ?_⟩
      have sm := sm_upd (o := .frz o (.tup vs)) hp
      exact q _ _ (fz1.trans (Same.fz sm)) (S1.same sm) (show Sh (zx X) _ _ _ from .tup (.inl ⟨o, ho, upd_same⟩) (s1.up (Same.fz sm)))
    · cases e
  · exact ⟨.ref s1.heap.objs.size, _, inv_tnew (tk := s1.toks) I1 r (sz1000 z), rfl, q _ _ rfl I1.fresh⟩
theorem vo_lst (h : VA X G es fs) (hZ : G.Z = zx X := by rfl) : VO X G (.List es pos) (vLst fs) := pe_imp (ue_lst h) (by
  obtain ⟨Z, cl, H0, S0, W, fx, fv, tp⟩ := G
  cases hZ
  rintro σ H Q ⟨ρ, S, k⟩
  refine ⟨ρ, S, k.bnd.mono fun xs ρ1 k1 vs H1 fz1 S1 s1 => ?_⟩
  obtain ⟨d, e, q⟩ := k1.lft
  split at e
  · cases e
    refine ⟨by rw [s1.length]; assumption, fun p H2 sm hp e2 => ?_⟩
    exact q _ _ (fz1.trans (Same.fz sm)) (S1.same sm) (NR.ro (nr_ow rfl hp (.lst e2 (s1.up (Same.fz sm)))) S1)
  · cases e)
def vDict0 : M D := ret (.dict [])
theorem vo_dict0 : VO X G (.Dict [] [] pos) vDict0 := pe_imp ue_dK (by
  rintro σ H Q ⟨ρ, S, k⟩
  intro p H2 sm hp e2
  exact k _ _ (Same.fz sm) (S.same sm) (NR.ro (nr_ow rfl hp (.dK e2 .nil)) S))
end
end Cv
end
section
/-! The V layer: subscripts, slices, built-ins. -/
namespace Cv
open PySem L2
section
variable {X : Cx} {G : Gh}
/-! ### x[y] -/
theorem ShAll.atI {Z : Zx} {H : Hp} {vs : List V} {ds : List D} {i : Int} {d : D} (h : ShAll Z H vs ds) (e : L2.atI ds i = some d) : ∃ v, L2.atI vs i = some v ∧ Sh Z H v d := by
  unfold L2.atI at *
  rw [h.length]
  cases hj : ixN ds.length i with
  | none => rw [hj] at e; cases e
  | some j => rw [hj] at e; exact h.get e
def dIx : D → D → Option D
  | .list xs, .int i => L2.atI xs i
  | .tuple xs, .int i => L2.atI xs i
  | .dict kvs, k => (dGet kvs k).join
  | .str z, .int i => if z.length ≤ sizeLine then (L2.atI z.cps.toList i).map fun c => .str ⟨#[c]⟩ else none
  | _, _ => none
def rS (Z : Zx) (p : D → D → Option D) : R2 := fun x y H Q => ∃ dx dy d, Rp Z H x dx ∧ Rp Z H y dy ∧ p dx dy = some d ∧ ∀ v, Sh Z H v d → Q v H
open PySem.Spec PyProof.Rows in
theorem o_ix (hu : X.A.units + 64 < cLine) : IxR X (rS (zx X) dIx) := by
  intro value slice pins s σ H x y v u Q I rx ry ⟨dx, dy, d, hx, hy, e, q⟩ hs
  unfold dIx at e
  split at e
  · cases hy.int
    obtain ⟨a, vs, rfl, hr, sv⟩ := hx.lst
    obtain ⟨z, e1, sz⟩ := sv.atI e
    exact ix_list value slice pins s σ H _ _ v u Q I rx ry ⟨_, _, _, _, rfl, rfl, hr.sq, e1, q z sz⟩ hs
  · cases hy.int
    obtain ⟨a, vs, rfl, hr, sv⟩ := hx.tup
    obtain ⟨z, e1, sz⟩ := sv.atI e
    exact ix_tup value slice pins s σ H _ _ v u Q I rx ry ⟨_, _, _, _, rfl, rfl, hr.sq, e1, q z sz⟩ hs
  · obtain ⟨a, rfl, _⟩ := hx.dic
    obtain ⟨r, hr, er⟩ := Option.join_eq_some_iff.1 e |> fun h => (⟨some d, h, rfl⟩ : ∃ r, dGet _ _ = some r ∧ r = some d)
    subst er
    rcases dGet_ask I hx hy ry hr with ⟨o, g, z⟩ | ⟨b, k, xs, rfl, hsm, hk, dd, z⟩
    · obtain ⟨w, rfl, sw⟩ := z
      exact ix_dict (by omega) value slice pins s σ H _ _ v u Q I rx ry ⟨a, w, rfl, g, q w sw⟩ hs
    · obtain ⟨p, w, ep, rw', sw⟩ := z
      cases rx
      have hT := dd.typeIs
      unfold subscriptTail
      refine wpAny_bind ?_
      rw [getitemInPython_of_ne hT.not_modules]
      refine wpAny_bind (wpAny_specialOf hT PySem.F.slot_dict_getitem.lookup ?_)
      have got : wpAny (model X.prog X.w) X.A (getItem (.ref a) (.ref b)) (EP X pins σ Q) X.xe s := wpAny_getItem_heap (show X.A.in1.units + 8 < cLine by show X.A.units + 1 + 8 < cLine; omega) hk dd ep ⟨w, H, I.tok _, rw', q w sw⟩
      have fin : wpAny (model X.prog X.w) X.A (subscripted slice false (.ref a) (.ref b)) (fun r s₃ => wpAny (model X.prog X.w) X.A (letTemporaryGo value (.ref a) r >>= fun _ => pure r) (EP X pins σ Q) X.xe s₃) X.xe s := by
        rw [hs]
        exact wpAny_operating (wpAny_mono got (fun r s₃ h₃ => wpAny_bind (wpAny_letTemporaryGo (wpAny_pure h₃))) fun _ _ x => x)
      first
        | exact wpAny_pure (wpAny_bind fin)
        | exact wpAny_bind (wpAny_pure (wpAny_bind fin))
        | exact wpAny_bind fin
  · cases hy.int
    cases hx.str
    split at e
    · obtain ⟨c, ec, rfl⟩ := Option.map_eq_some_iff.1 e
      exact ix_str value slice pins s σ H _ _ v u Q I rx ry ⟨_, _, _, rfl, rfl, by assumption, ec, q _ (.str _)⟩ hs
    · cases e
  · cases e
variable {a b c : Expr} {fa fb fc : M D} {pos : Pos}
theorem top_sh {p : D → D → Option D} (hZ : G.Z = zx X) : ∀ σ H Q, tvE G (vOp p fa fb) σ H Q → tOp (rS (zx X) p) (tvE G fa) (tvB G fb) σ H Q := by
  obtain ⟨Z, cl, H0, S0, W, fx, fv, tp⟩ := G
  cases hZ
  rintro σ H Q ⟨ρ, S, k⟩
  refine ⟨ρ, S, k.bnd.mono fun x ρ1 k1 v H1 fz1 S1 s1 => ⟨ρ1, S1, k1.bnd.mono fun y ρ2 k2 w H2 fz2 S2 r2 => ?_⟩⟩
  obtain ⟨d, e, q⟩ := k2.lft
  exact ⟨x, y, d, .sh (s1.up fz2), r2, e, fun z sz => q z H2 (fz1.trans fz2) S2 sz⟩
theorem topL_sh {p : D → D → Option D} {i : Nat} (hZ : G.Z = zx X) : ∀ σ H Q, tvE G (vOpN p i fb) σ H Q → tOp (rS (zx X) p) (tVar i) (tvB G fb) σ H Q := by
  obtain ⟨Z, cl, H0, S0, W, fx, fv, tp⟩ := G
  cases hZ
  rintro σ H Q ⟨ρ, S, k⟩
  unfold vOpN at k
  split at k
  · rename_i hi
    cases hs : ρ[i]? with
    | none => rw [hs] at hi; cases hi
    | some r =>
      cases r with
      | none => rw [hs] at hi; cases hi
      | some s0 =>
        obtain ⟨v, hv, _⟩ := S.val i s0 hs
        refine ⟨v, hv, ρ, S, k.bnd.mono fun y ρ2 k2 w H2 fz2 S2 r2 => ?_⟩
        obtain ⟨s, hs2, k3⟩ := k2.get
        obtain ⟨d, e, q⟩ := k3.lft
        exact ⟨s.d, y, d, S2.get hv hs2, r2, e, fun z sz => q z H2 fz2 S2 sz⟩
  · exact k.elim
theorem ve_ix (hu : X.A.units + 64 < cLine) (ha : VE X G a fa) (hb : VB X G b fb) (hs : PlainIx b) (hZ : G.Z = zx X := by rfl) : VE X G (.Subscript a b pos) (vOp dIx fa fb) := pe_imp (pe_ix (o_ix hu) ha hb hs) (top_sh hZ)
theorem ve_ixN (i : Nat) {x : Str} {ps : Pos} (hu : X.A.units + 64 < cLine) (hb : VB X G b fb) (hs : PlainIx b) (hZ : G.Z = zx X := by rfl) (hN : X.N[i]? = some x := by rfl) (hv : Vis X.env.scope x := by first | exact Or.inl rfl | exact Or.inr (Or.inl rfl) | exact Or.inr (Or.inr rfl))
    (hd : (x == ("__debug__" : Str)) = false := by decide) (hcd : (x == ("__classdict__" : Str)) = false := by decide) : VE X G (.Subscript (.Name x ps) b pos) (vOpN dIx i fb) := pe_imp (pe_ix (o_ix hu) (pe_var hN hv hd hcd) hb hs) (topL_sh hZ)
/-! ### x[lo:hi] -/
def cutD {α : Type} (xs : List α) (lo hi : Option Int) : List α := (xs.drop (HT.sIx xs.length 0 lo)).take (HT.sIx xs.length xs.length hi - HT.sIx xs.length 0 lo)
def dSl : D → Option Int → Option Int → Option D
  | .list xs, lo, hi => some (.list (cutD xs lo hi))
  | .tuple xs, lo, hi => some (.tuple (cutD xs lo hi))
  | .str z, lo, hi => if z.length ≤ sizeLine then some (.str (cutS z lo hi)) else none
  | _, _, _ => none
theorem ShAll.cut {Z : Zx} {H : Hp} {vs : List V} {ds : List D} (h : ShAll Z H vs ds) (lo hi : Option Int) : ShAll Z H (cutV vs lo hi) (cutD ds lo hi) := by
  unfold cutV cutD
  rw [h.length]
  exact (h.drop _).take _
def rSl (Z : Zx) : V → Option Int → Option Int → Hp → VK → Prop := fun x lo hi H Q => ∃ dx d, Rp Z H x dx ∧ dSl dx lo hi = some d ∧ ∀ v H', Same H H' → NR Z H H' v d → Q v H'
open PySem.Spec PyProof.Rows in
theorem o_sl : SlR X (rSl (zx X)) := by
  intro pins s σ H x v lo' hi' lo hi sl Q I rx hs pl ph ⟨dx, d, hx, e, q⟩
  unfold dSl at e
  split at e
  · cases e
    obtain ⟨a, vs, rfl, hr, sv⟩ := hx.lst
    exact sl_list pins s σ H _ v lo' hi' lo hi sl Q I rx hs pl ph ⟨_, _, rfl, hr.sq, fun p hp => q _ _ (sm_upd hp) (nr_lst hp (sv.cut lo hi))⟩
  · cases e
    obtain ⟨a, vs, rfl, hr, sv⟩ := hx.tup
    by_cases hw : HT.sIx vs.length 0 lo = 0 ∧ HT.sIx vs.length vs.length hi = vs.length
    · have ec : cutV vs lo hi = vs := cut_all hw
      have sc := sv.cut lo hi
      rw [ec] at sc
      refine sl_tupA pins s σ H _ v lo' hi' lo hi sl Q I rx hs pl ph ⟨_, _, rfl, hr.sq, fun _ => q _ _ (Same.refl H) (nr_sh rfl (.tup hr sc)), fun z => absurd hw z⟩
    · cases rx
      obtain ⟨its, r, ht, hz⟩ := I.tuple hr.sq
      have hlen : its.toArray.size = vs.length := by simpa using r.length.symm
      refine ⟨"tuple", _, PyProof.Rows.slot_tuple_getitem.lookup, ht.typeIs, HT.getItem_tuple_cut ht hs pl ph (by rw [hlen]; exact hw) ?_ (by rw [hlen]; exact hz)⟩
      rw [hlen]
      exact ⟨.ref s.heap.objs.size, _, inv_tnew (tk := s.toks) I (vs := cutV vs lo hi) ((r.drop _).take _) (Nat.le_trans (cutV_length vs lo hi) hz), rfl, q _ _ (sm_upd I.fresh) (nr_tup rfl I.fresh (sv.cut lo hi))⟩
  · split at e
    · cases e
      cases hx.str
      exact sl_str pins s σ H _ v lo' hi' lo hi sl Q I rx hs pl ph ⟨_, rfl, by assumption, q _ _ (Same.refl H) (nr_sh rfl (.str _))⟩
    · cases e
  · cases e
/-- a part of a slice -/
def tvP (G : Gh) (f : M (Option Int)) : TO := fun σ H Q => ∃ ρ, Stt G H σ ρ ∧ Kont G (f ρ) fun o ρ' => ∀ H', Fz H H' → Stt G H' σ ρ' → Q o H'
abbrev VP (X : Cx) (G : Gh) (e : Option Expr) (f : M (Option Int)) : Prop := PO X e (tvP G f)
theorem po_imp {e : Option Expr} {t t' : TO} (h : PO X e t) (k : ∀ σ H Q, t' σ H Q → t σ H Q) : PO X e t' := ⟨fun pins s σ H Q I q => h.run pins s σ H Q I (k σ H Q q)⟩
def vPart (f : M D) : M (Option Int) := bnd f fun x => match x with
  | .int i => ret (some i)
  | _ => fun _ => none
def vNoPart : M (Option Int) := ret none
theorem vp_none : VP X G none vNoPart := po_imp po_none (by
  rintro σ H Q ⟨ρ, S, k⟩
  exact k H (Fz.refl H) S)
theorem vp_some (h : VE X G a fa) : VP X G (some a) (vPart fa) := po_imp (po_some h) (by
  rintro σ H Q ⟨ρ, S, k⟩
  refine ⟨ρ, S, k.bnd.mono fun x ρ1 k1 v H1 fz1 S1 s1 => ?_⟩
  cases x with
  | int i => cases s1; exact ⟨i, rfl, k1 H1 fz1 S1⟩
  | _ => exact k1.elim)
def vSl (fa : M D) (lo hi : M (Option Int)) : M D := bnd fa fun x => bnd lo fun l => bnd hi fun h => lft (dSl x l h)
theorem vo_sl {lo hi : Option Expr} {fl fh : M (Option Int)} {p2 : Pos} (ha : VE X G a fa) (hl : VP X G lo fl) (hh : VP X G hi fh) (hZ : G.Z = zx X := by rfl) : VO X G (.Subscript a (.Slice lo hi none p2) pos) (vSl fa fl fh) := pe_imp (pe_slice o_sl ha hl hh) (by
  obtain ⟨Z, cl, H0, S0, W, fx, fv, tp⟩ := G
  cases hZ
  rintro σ H Q ⟨ρ, S, k⟩
  refine ⟨ρ, S, k.bnd.mono fun x ρ1 k1 v H1 fz1 S1 s1 => ⟨ρ1, S1, k1.bnd.mono fun l ρ2 k2 H2 fz2 S2 => ⟨ρ2, S2, k2.bnd.mono fun h ρ3 k3 H3 fz3 S3 => ?_⟩⟩⟩
  obtain ⟨d, e, q⟩ := k3.lft
  exact ⟨x, d, .sh (s1.up (fz2.trans fz3)), e, fun z H4 sm nr => q z H4 (fz1.trans (fz2.trans (fz3.trans (Same.fz sm)))) (S3.same sm) (nr.ro S3)⟩)
/-- the slice of an own name, its ends written -/
def vSlN (i : Nat) (lo hi : M (Option Int)) : M D := fun ρ => if (ρ[i]?.join).isSome then bnd lo (fun l => bnd hi fun h => bnd (vGet i) fun x => lft (dSl x l h)) ρ else none
theorem vo_slN (i : Nat) {x : Str} {ps : Pos} {lo hi : Option Expr} {fl fh : M (Option Int)} {p2 : Pos} (hl : VP X G lo fl) (hh : VP X G hi fh) (hZ : G.Z = zx X := by rfl) (hN : X.N[i]? = some x := by rfl) (hv : Vis X.env.scope x := by first | exact Or.inl rfl | exact Or.inr (Or.inl rfl) | exact Or.inr (Or.inr rfl))
    (hd : (x == ("__debug__" : Str)) = false := by decide) (hcd : (x == ("__classdict__" : Str)) = false := by decide) : VO X G (.Subscript (.Name x ps) (.Slice lo hi none p2) pos) (vSlN i fl fh) := pe_imp (pe_slice o_sl (pe_var hN hv hd hcd) hl hh) (by
  obtain ⟨Z, cl, H0, S0, W, fx, fv, tp⟩ := G
  cases hZ
  rintro σ H Q ⟨ρ, S, k⟩
  unfold vSlN at k
  split at k
  · rename_i hi'
    cases hs : ρ[i]? with
    | none => rw [hs] at hi'; cases hi'
    | some r =>
      cases r with
      | none => rw [hs] at hi'; cases hi'
      | some s0 =>
        obtain ⟨v, hv, _⟩ := S.val i s0 hs
        refine ⟨v, hv, ρ, S, k.bnd.mono fun l ρ2 k2 H2 fz2 S2 => ⟨ρ2, S2, k2.bnd.mono fun h ρ3 k3 H3 fz3 S3 => ?_⟩⟩
        obtain ⟨s, hs2, k4⟩ := k3.get
        obtain ⟨d, e, q⟩ := k4.lft
        exact ⟨s.d, d, S3.get hv hs2, e, fun z H4 sm nr => q z H4 (fz2.trans (fz3.trans (Same.fz sm))) (S3.same sm) (nr.ro S3)⟩
  · exact k.elim)
/-! ### built-ins of one argument, of several -/
def rC1 (Z : Zx) (p : D → Option D) : List V → Hp → VK → Prop := fun xs H Q => ∃ x d r, xs = [x] ∧ Rp Z H x d ∧ p d = some r ∧ ∀ v H', Same H H' → NR Z H H' v r → Q v H'
def rCN (Z : Zx) (p : List D → Option D) : List V → Hp → VK → Prop := fun xs H Q => ∃ ds r, ShAll Z H xs ds ∧ p ds = some r ∧ ∀ v H', Same H H' → NR Z H H' v r → Q v H'
def vC1 (p : D → Option D) (fa : M D) : M D := bnd fa fun x => lft (p x)
def vCN (p : List D → Option D) (fs : M (List D)) : M D := bnd fs fun xs => lft (p xs)
theorem tc1 {p : D → Option D} (hZ : G.Z = zx X) : ∀ σ H Q, tvO G (vC1 p fa) σ H Q → tCB (rC1 (zx X) p) (tCons (tvB G fa) tNil) σ H Q := by
  obtain ⟨Z, cl, H0, S0, W, fx, fv, tp⟩ := G
  cases hZ
  rintro σ H Q ⟨ρ, S, k⟩
  refine ⟨ρ, S, k.bnd.mono fun x ρ1 k1 v H1 fz1 S1 r1 => ?_⟩
  obtain ⟨d, e, q⟩ := k1.lft
  exact ⟨v, x, d, rfl, r1, e, fun z H2 sm nr => q z H2 (fz1.trans (Same.fz sm)) (S1.same sm) (nr.ro S1)⟩
theorem tcN {p : List D → Option D} {fs : M (List D)} (hZ : G.Z = zx X) : ∀ σ H Q, tvO G (vCN p fs) σ H Q → tCB (rCN (zx X) p) (tvA G fs) σ H Q := by
  obtain ⟨Z, cl, H0, S0, W, fx, fv, tp⟩ := G
  cases hZ
  rintro σ H Q ⟨ρ, S, k⟩
  refine ⟨ρ, S, k.bnd.mono fun x ρ1 k1 v H1 fz1 S1 r1 => ?_⟩
  obtain ⟨d, e, q⟩ := k1.lft
  exact ⟨x, d, r1, e, fun z H2 sm nr => q z H2 (fz1.trans (Same.fz sm)) (S1.same sm) (nr.ro S1)⟩
variable {x : Str} {id T : String} {pp : Pos} {es : List Expr} {fs : M (List D)}
theorem vo_b1 {p : D → Option D} (hc : CallR X (.builtin id) (rC1 (zx X) p)) (hg : Gl X x) (hm : X.mg x = none) (hv : bootBuiltins x = some (.builtin id)) (ha : VB X G a fa) (hZ : G.Z = zx X := by rfl) (hn : x ≠ "__name__" := by decide) (hdb : (x == ("__debug__" : Str)) = false := by decide)
    (hs : starEach [a] X.env = (false, eval a X.env) :: starEach [] X.env := by rfl) : VO X G (.Call (.Name x pp) [a] [] pos) (vC1 p fa) := pe_imp (pe_callB hc hg hm hv (pa_cons ha pa_nil hs) hn hdb hs rfl) (tc1 hZ)
theorem vo_t1 {p : D → Option D} (hc : CallR X (.type T) (rC1 (zx X) p)) (hg : Gl X x) (hm : X.mg x = none) (hv : bootBuiltins x = some (.type T)) (ha : VB X G a fa) (hZ : G.Z = zx X := by rfl) (hn : x ≠ "__name__" := by decide) (hdb : (x == ("__debug__" : Str)) = false := by decide)
    (hs : starEach [a] X.env = (false, eval a X.env) :: starEach [] X.env := by rfl) : VO X G (.Call (.Name x pp) [a] [] pos) (vC1 p fa) := pe_imp (pe_callTy hc hg hm hv (pa_cons ha pa_nil hs) hn hdb hs rfl) (tc1 hZ)
theorem vo_bN {p : List D → Option D} (hc : CallR X (.builtin id) (rCN (zx X) p)) (hg : Gl X x) (hm : X.mg x = none) (hv : bootBuiltins x = some (.builtin id)) (ha : VA X G (a :: es) fs) (hZ : G.Z = zx X := by rfl) (hn : x ≠ "__name__" := by decide) (hdb : (x == ("__debug__" : Str)) = false := by decide)
    (hs : starEach (a :: es) X.env = (false, eval a X.env) :: starEach es X.env := by rfl) (hpl : (backTo pos (starEach es X.env)).any (·.1) = false := by rfl) : VO X G (.Call (.Name x pp) (a :: es) [] pos) (vCN p fs) := pe_imp (pe_callB hc hg hm hv ha hn hdb hs hpl) (tcN hZ)
end
end Cv
end
section
/-! The V layer: the built-ins by name. -/
namespace Cv
open PySem L2
open PySem.Spec PyProof.Rows
section
variable {X : Cx} {G : Gh}
def dLen : D → Option D
  | .list xs => some (.int xs.length)
  | .tuple xs => some (.int xs.length)
  | .dict xs => some (.int xs.length)
  | .str z => if z.length ≤ sizeLine then some (.int z.length) else none
  | _ => none
theorem ShKv.length {Z : Zx} {H : Hp} : ∀ {vs : List (Key × V)} {ds : List (D × D)}, ShKv Z H vs ds → vs.length = ds.length
  | [], _, h => by cases h; rfl
  | v :: vs, _, h => by
    cases h with
    | cons h1 h2 => simp [ShKv.length h2]
theorem ShN.length {Z : Zx} {H : Hp} : ∀ {vs : List (NestedKey × Addr × V)} {ds : List (D × D)}, ShN Z H vs ds → vs.length = ds.length
  | [], _, h => by cases h; rfl
  | v :: vs, _, h => by
    cases h with
    | cons h1 h2 h3 h4 h5 => simp [ShN.length h5]
theorem ShN.isT {Z : Zx} {H : Hp} : ∀ {vs : List (NestedKey × Addr × V)} {ds : List (D × D)}, ShN Z H vs ds → (ds.all fun p => Cv.isT p.1) = true
  | [], _, h => by cases h; rfl
  | v :: vs, _, h => by
    cases h with
    | cons h1 h2 h3 h4 h5 => rw [List.all_cons, ShN.isT h5]; rfl
theorem c_len : CallR X (.builtin "len") (rC1 (zx X) dLen) := by
  intro pins s σ H xs us Q I r ⟨x, d, z, e, hx, ed, q⟩
  subst e
  unfold dLen at ed
  split at ed
  · cases ed
    obtain ⟨a, vs, rfl, hr, sv⟩ := hx.lst
    refine call_len_seq pins s σ H _ us Q I r ⟨_, _, rfl, .inl hr.sq, ?_⟩
    rw [sv.length]
    exact q _ _ (Same.refl H) (nr_sh rfl (.int _))
  · cases ed
    obtain ⟨a, vs, rfl, hr, sv⟩ := hx.tup
    refine call_len_seq pins s σ H _ us Q I r ⟨_, _, rfl, .inr hr.sq, ?_⟩
    rw [sv.length]
    exact q _ _ (Same.refl H) (nr_sh rfl (.int _))
  · cases ed
    obtain ⟨a, rfl, h⟩ := hx.dic
    obtain ⟨u, rfl, ru⟩ := vals1 r
    cases ru
    rcases h with ⟨kvs, hr, sv⟩ | ⟨_, kvs, hr, sv⟩
    · refine d_len I hr fun t s' I' => ⟨.int kvs.length, H, I', ⟨t, rfl⟩, ?_⟩
      rw [sv.length]
      exact q _ _ (Same.refl H) (nr_sh rfl (.int _))
    · obtain ⟨hs, kvs', xs, sv', pr, hz, dd, _⟩ := tupDict I hx sv.isT
      have l2 : kvs'.length = xs.length := Paired.length pr
      have big : sizeLine = 16777216 := sizeLine_eq
      rw [← sv'.length, l2] at q
      exact call_len_dictH hs dd (by omega) ⟨.int xs.length, H, I.tok _, ⟨_, rfl⟩, q _ _ (Same.refl H) (nr_sh rfl (.int _))⟩
  · split at ed
    · cases ed
      cases hx.str
      exact call_len_str pins s σ H _ us Q I r ⟨_, rfl, by assumption, q _ _ (Same.refl H) (nr_sh rfl (.int _))⟩
    · cases ed
  · cases ed
/-! isinstance -/
def rIs (Z : Zx) (T : String) (g : D → Bool) : List V → Hp → VK → Prop := fun xs H Q => ∃ x d, xs = [x, .ty T] ∧ Rp Z H x d ∧ Q (.bl (g d)) H
theorem c_isR {T : String} {g : D → Bool} (h : ∀ (s : Shared) (v : Value) (d : D) (as : List Addr) (Q : Value → Shared → Prop), Reads s.heap v d as → (∀ tk, s.toks ≤ tk → Q (.bool (g d)) { s with toks := tk }) → wpAny (model X.prog X.w) X.A (call (.builtin "isinstance") [v, .type T]) Q X.xe s) :
    CallR X (.builtin "isinstance") (rIs (zx X) T g) := by
  intro pins s σ H xs us Q I r ⟨x, d, e, hx, q⟩
  subst e
  cases r with
  | cons r1 r2 =>
    cases r2 with
    | cons r3 r4 =>
      cases r4
      cases (show _ = Value.type T from r3)
      obtain ⟨as, ra⟩ := hx.reads I r1
      exact h s _ d as _ ra fun tk _ => ⟨.bl _, H, I.tok _, rfl, q⟩
theorem c_is_int : CallR X (.builtin "isinstance") (rIs (zx X) "int" PyData.isInt) := c_isR fun s v d as Q r h => PySem.W.isinstance_int_data r h
theorem c_is_bool : CallR X (.builtin "isinstance") (rIs (zx X) "bool" PyData.isBool) := c_isR fun s v d as Q r h => PySem.W.isinstance_bool_data r h
theorem c_is_str : CallR X (.builtin "isinstance") (rIs (zx X) "str" PyData.isStr) := c_isR fun s v d as Q r h => PySem.W.isinstance_str_data r h
theorem c_is_list : CallR X (.builtin "isinstance") (rIs (zx X) "list" PyData.isList) := c_isR fun s v d as Q r h => PySem.W.isinstance_list_data r h
theorem c_is_tuple : CallR X (.builtin "isinstance") (rIs (zx X) "tuple" PyData.isTuple) := c_isR fun s v d as Q r h => PySem.W.isinstance_tuple_data r h
theorem c_is_dict : CallR X (.builtin "isinstance") (rIs (zx X) "dict" PyData.isDict) := c_isR fun s v d as Q r h => PySem.W.isinstance_dict_data r h
def vIs (g : D → Bool) (fa : M D) : M D := bnd fa fun x => ret (.bool (g x))
theorem vo_is {T : String} {g : D → Bool} {x y : Str} {a : Expr} {fa : M D} {p1 p2 pos : Pos} (hc : CallR X (.builtin "isinstance") (rIs (zx X) T g)) (hg : Gl X "isinstance") (hm : X.mg "isinstance" = none) (hg2 : Gl X y) (hm2 : X.mg y = none) (hv2 : bootBuiltins y = some (.type T)) (ha : VB X G a fa) (hZ : G.Z = zx X := by rfl)
    (hn2 : y ≠ "__name__" := by decide) (hd2 : (y == ("__debug__" : Str)) = false := by decide) (hs : starEach [a, .Name y p2] X.env = (false, eval a X.env) :: starEach [.Name y p2] X.env := by rfl) (hs2 : starEach [.Name y p2] X.env = (false, eval (.Name y p2) X.env) :: starEach [] X.env := by rfl)
    (hpl : (backTo pos (starEach [.Name y p2] X.env)).any (·.1) = false := by rfl) : VO X G (.Call (.Name "isinstance" p1) [a, .Name y p2] [] pos) (vIs g fa) := pe_imp (pe_callB hc hg hm (by decide +kernel) (pa_cons ha (pa_cons (pe_bltn (v := .ty T) hg2 hm2 hv2 rfl hn2 hd2) pa_nil hs2) hs) (by decide) (by decide) hs hpl) (by
  obtain ⟨Z, cl, H0, S0, W, fx, fv, tp⟩ := G
  cases hZ
  rintro σ H Q ⟨ρ, S, k⟩
  refine ⟨ρ, S, k.bnd.mono fun x ρ1 k1 v H1 fz1 S1 r1 => ?_⟩
  exact ⟨v, x, rfl, r1, k1 _ H1 fz1 S1 (show Sh (zx X) H1 (.bl (g x)) (.bool (g x)) from .bl _)⟩)
/-! numbers -/
def dAbs : D → Option D
  | .int i => some (.int (if i < 0 then -i else i))
  | _ => none
theorem c_abs : CallR X (.builtin "abs") (rC1 (zx X) dAbs) := by
  intro pins s σ H xs us Q I r ⟨x, d, z, e, hx, ed, q⟩
  subst e
  unfold dAbs at ed
  split at ed
  · cases ed
    cases hx.int
    exact call_abs pins s σ H _ us Q I r ⟨_, rfl, q _ _ (Same.refl H) (nr_sh rfl (.int _))⟩
  · cases ed
def dMax2 : List D → Option D
  | [.int i, .int j] => some (.int (if j > i then j else i))
  | _ => none
def dMin2 : List D → Option D
  | [.int i, .int j] => some (.int (if j < i then j else i))
  | _ => none
theorem sh_int2 {Z : Zx} {H : Hp} {xs : List V} {i j : Int} (h : ShAll Z H xs [.int i, .int j]) : xs = [.int i, .int j] := by
  cases h with
  | cons h1 h2 =>
    cases h2 with
    | cons h3 h4 => cases h4; cases h1; cases h3; rfl
theorem c_max2 (hc : X.calm = true) : CallR X (.builtin "max") (rCN (zx X) dMax2) := by
  intro pins s σ H xs us Q I r ⟨ds, z, hx, ed, q⟩
  unfold dMax2 at ed
  split at ed
  · cases ed
    cases sh_int2 hx
    exact call_max2 hc pins s σ H _ us Q I r ⟨_, _, rfl, q _ _ (Same.refl H) (nr_sh rfl (.int _))⟩
  · cases ed
theorem c_min2 (hc : X.calm = true) : CallR X (.builtin "min") (rCN (zx X) dMin2) := by
  intro pins s σ H xs us Q I r ⟨ds, z, hx, ed, q⟩
  unfold dMin2 at ed
  split at ed
  · cases ed
    cases sh_int2 hx
    exact call_min2 hc pins s σ H _ us Q I r ⟨_, _, rfl, q _ _ (Same.refl H) (nr_sh rfl (.int _))⟩
  · cases ed
def dDivmod : List D → Option D
  | [.int i, .int j] => if 0 < j ∧ j.natAbs.log2 < 9000 then some (.tuple [.int (i / j), .int (i % j)]) else none
  | _ => none
def dInt : D → Option D
  | .int i => some (.int i)
  | .bool k => some (.int (if k then 1 else 0))
  | _ => none
theorem c_int : CallR X (.type "int") (rC1 (zx X) dInt) := by
  intro pins s σ H xs us Q I r ⟨x, d, z, e, hx, ed, q⟩
  subst e
  unfold dInt at ed
  split at ed
  · cases ed
    cases hx.int
    exact call_int1 pins s σ H _ us Q I r (.inl ⟨_, rfl, q _ _ (Same.refl H) (nr_sh rfl (.int _))⟩)
  · cases ed
    cases hx.bl
    exact call_int1 pins s σ H _ us Q I r (.inr ⟨_, rfl, q _ _ (Same.refl H) (nr_sh rfl (.int _))⟩)
  · cases ed
/-! sums, all, any -/
def intsOf : List D → Option (List Int)
  | [] => some []
  | .int i :: r => (intsOf r).map (i :: ·)
  | _ => none
def blsOf : List D → Option (List Bool)
  | [] => some []
  | .bool i :: r => (blsOf r).map (i :: ·)
  | _ => none
theorem intsOf_sh {Z : Zx} {H : Hp} : ∀ {ds : List D} {vs : List V} {ns : List Int}, ShAll Z H vs ds → intsOf ds = some ns → vs = ns.map V.int
  | [], _, _, h, e => by cases h; cases e; rfl
  | d :: ds, _, _, h, e => by
    cases h with
    | cons h1 h2 =>
      cases d with
      | int i =>
        simp only [intsOf] at e
        obtain ⟨ms, e1, rfl⟩ := Option.map_eq_some_iff.1 e
        cases h1
        rw [intsOf_sh h2 e1]
        rfl
      | _ => cases e
theorem blsOf_sh {Z : Zx} {H : Hp} : ∀ {ds : List D} {vs : List V} {ns : List Bool}, ShAll Z H vs ds → blsOf ds = some ns → vs = ns.map V.bl
  | [], _, _, h, e => by cases h; cases e; rfl
  | d :: ds, _, _, h, e => by
    cases h with
    | cons h1 h2 =>
      cases d with
      | bool i =>
        simp only [blsOf] at e
        obtain ⟨ms, e1, rfl⟩ := Option.map_eq_some_iff.1 e
        cases h1
        rw [blsOf_sh h2 e1]
        rfl
      | _ => cases e
def dSum : D → Option D
  | .list ds => (intsOf ds).map fun ns => .int ns.sum
  | _ => none
def dAll : D → Option D
  | .list ds => (blsOf ds).map fun bs => .bool (bs.all id)
  | _ => none
def dAny : D → Option D
  | .list ds => (blsOf ds).map fun bs => .bool (bs.any id)
  | _ => none
theorem c_sum (hc : X.calm = true) : CallR X (.builtin "sum") (rC1 (zx X) dSum) := by
  intro pins s σ H xs us Q I r ⟨x, d, z, e, hx, ed, q⟩
  subst e
  unfold dSum at ed
  split at ed
  · obtain ⟨ns, e1, rfl⟩ := Option.map_eq_some_iff.1 ed
    obtain ⟨a, vs, rfl, hr, sv⟩ := hx.lst
    cases intsOf_sh sv e1
    exact cr_sum hc pins s σ H _ us Q I r ⟨_, _, rfl, hr.sq, q _ _ (Same.refl H) (nr_sh rfl (.int _))⟩
  · cases ed
theorem c_all (hc : X.calm = true) : CallR X (.builtin "all") (rC1 (zx X) dAll) := by
  intro pins s σ H xs us Q I r ⟨x, d, z, e, hx, ed, q⟩
  subst e
  unfold dAll at ed
  split at ed
  · obtain ⟨ns, e1, rfl⟩ := Option.map_eq_some_iff.1 ed
    obtain ⟨a, vs, rfl, hr, sv⟩ := hx.lst
    cases blsOf_sh sv e1
    exact cr_all hc pins s σ H _ us Q I r ⟨_, _, rfl, hr.sq, q _ _ (Same.refl H) (nr_sh rfl (.bl _))⟩
  · cases ed
theorem c_any (hc : X.calm = true) : CallR X (.builtin "any") (rC1 (zx X) dAny) := by
  intro pins s σ H xs us Q I r ⟨x, d, z, e, hx, ed, q⟩
  subst e
  unfold dAny at ed
  split at ed
  · obtain ⟨ns, e1, rfl⟩ := Option.map_eq_some_iff.1 ed
    obtain ⟨a, vs, rfl, hr, sv⟩ := hx.lst
    cases blsOf_sh sv e1
    exact cr_any hc pins s σ H _ us Q I r ⟨_, _, rfl, hr.sq, q _ _ (Same.refl H) (nr_sh rfl (.bl _))⟩
  · cases ed
/-! list, tuple -/
def dList : D → Option D
  | .list ds => some (.list ds)
  | .tuple ds => some (.list ds)
  | _ => none
def dTuple : D → Option D
  | .list ds => some (.tuple ds)
  | .tuple ds => some (.tuple ds)
  | _ => none
theorem c_list : CallR X (.type "list") (rC1 (zx X) dList) := by
  intro pins s σ H xs us Q I r ⟨x, d, z, e, hx, ed, q⟩
  subst e
  unfold dList at ed
  split at ed
  · cases ed
    obtain ⟨a, vs, rfl, hr, sv⟩ := hx.lst
    exact call_list_of pins s σ H _ us Q I r ⟨_, _, rfl, .inl hr.sq, fun p hp => q _ _ (sm_upd hp) (nr_lst hp sv)⟩
  · cases ed
    obtain ⟨a, vs, rfl, hr, sv⟩ := hx.tup
    exact call_list_of pins s σ H _ us Q I r ⟨_, _, rfl, .inr hr.sq, fun p hp => q _ _ (sm_upd hp) (nr_lst hp sv)⟩
  · cases ed
theorem c_tuple : CallR X (.type "tuple") (rC1 (zx X) dTuple) := by
  intro pins s σ H xs us Q I r ⟨x, d, z, e, hx, ed, q⟩
  subst e
  unfold dTuple at ed
  split at ed
  · cases ed
    obtain ⟨a, vs, rfl, hr, sv⟩ := hx.lst
    obtain ⟨u, rfl, rx⟩ := vals1 r
    cases rx
    obtain ⟨its, rv, pl, hz⟩ := I.list hr.sq
    have hl := rv.length
    refine call_tuple_list pl.isList (fun h' kp => ?_) (by simp only [List.size_toArray] <;> omega)
    have I1 : Inv X pins σ H { s with heap := h' } := I.kept (t' := s.toks) kp
    exact ⟨.ref h'.objs.size, _, inv_tnew (tk := s.toks) I1 rv hz, rfl, q _ _ (sm_upd I1.fresh) (nr_tup rfl I1.fresh sv)⟩
  · cases ed
    obtain ⟨a, vs, rfl, hr, sv⟩ := hx.tup
    exact call_tupleT pins s σ H _ us Q I r ⟨_, _, rfl, hr.sq, q _ _ (Same.refl H) (nr_sh rfl (.tup hr sv))⟩
  · cases ed
end
end Cv
end
section
/-! The V layer: statements. -/
namespace Cv
open PySem L2
inductive Fl where
  | nx
  | rt (d : D)
  | bk
  | ct
def RetOk (G : Gh) (rm : Bool) (H : Hp) (v : V) (d : D) : Prop := match rm && isC d with
  | true => ∃ p, v = .ref p ∧ Ow G.Z H v d ∧ Nn G.H0 p
  | false => Sh G.Z H v d
def FlK (G : Gh) (rm : Bool) (H : Hp) (D : Ends) : Fl → Ev → Prop
  | .nx, ρ => ∀ σ' H', Fz H H' → Stt G H' σ' ρ → D.nx σ' H'
  | .bk, ρ => ∀ σ' H', Fz H H' → Stt G H' σ' ρ → D.bk σ' H'
  | .ct, ρ => ∀ σ' H', Fz H H' → Stt G H' σ' ρ → D.ct σ' H'
  | .rt d, ρ => ∀ v σ' H', Fz H H' → Stt G H' σ' ρ → RetOk G rm H' v d → D.rt v H'
def tvS (G : Gh) (rm : Bool) (f : M Fl) : TS := fun D σ H => ∃ ρ, Stt G H σ ρ ∧ Kont G (f ρ) (FlK G rm H D)
abbrev VS (X : Cx) (G : Gh) (rm : Bool) (st : Stmt) (f : M Fl) : Prop := PS X st (tvS G rm f)
abbrev VSs (X : Cx) (G : Gh) (rm : Bool) (st : List Stmt) (f : M Fl) : Prop := PSs X st (tvS G rm f)
section
variable {X : Cx} {G : Gh} {rm : Bool}
theorem pss_imp {e : List Stmt} {t t' : TS} (h : PSs X e t) (k : ∀ D σ H, t' D σ H → t D σ H) : PSs X e t' := ⟨fun pins s σ H D I q => h.run pins s σ H D I (k D σ H q)⟩
theorem FlK.up {H H1 : Hp} {D : Ends} {fl : Fl} {ρ : Ev} (h : FlK G rm H D fl ρ) (f : Fz H H1) : FlK G rm H1 D fl ρ := by
  cases fl with
  | nx => exact fun σ' H' g => h σ' H' (f.trans g)
  | bk => exact fun σ' H' g => h σ' H' (f.trans g)
  | ct => exact fun σ' H' g => h σ' H' (f.trans g)
  | rt d => exact fun v σ' H' g => h v σ' H' (f.trans g)
variable {st : Stmt} {rest : List Stmt} {f g : M Fl} {e : Expr} {fe : M D} {pos : Pos}
def vSeq (f g : M Fl) : M Fl := bnd f fun fl => match fl with
  | .nx => g
  | x => ret x
theorem vss_nil : VSs X G rm [] (ret .nx) := pss_imp pss_nil fun D σ H ⟨ρ, S, k⟩ => k σ H (Fz.refl H) S
theorem vss_one (h : VS X G rm st f) : VSs X G rm [st] f := pss_one h
theorem vss_cons (h : VS X G rm st f) (h2 : VSs X G rm rest g) : VSs X G rm (st :: rest) (vSeq f g) := pss_imp (pss_cons h h2) fun D σ H ⟨ρ, S, k⟩ => ⟨ρ, S, k.bnd.mono fun fl ρ1 k1 => by
  cases fl with
  | nx => exact fun σ' H' fz S' => ⟨ρ1, S', Kont.mono k1 fun fl ρ2 q => q.up fz⟩
  | bk => exact k1
  | ct => exact k1
  | rt d => exact k1⟩
theorem vs_pass : VS X G rm (.Pass pos) (ret .nx) := ps_imp ps_pass fun D σ H ⟨ρ, S, k⟩ => k σ H (Fz.refl H) S
theorem vs_break : VS X G rm (.Break pos) (ret .bk) := ps_imp ps_break fun D σ H ⟨ρ, S, k⟩ => k σ H (Fz.refl H) S
theorem vs_continue : VS X G rm (.Continue pos) (ret .ct) := ps_imp ps_continue fun D σ H ⟨ρ, S, k⟩ => k σ H (Fz.refl H) S
def vDrop (f : M D) : M Fl := bnd f fun _ => ret .nx
theorem vs_expr (h : VO X G e fe) (hs : swapsWith e none pos.line X.env = pure false := by rfl) : VS X G rm (.Expr e pos) (vDrop fe) := ps_imp (ps_expr h hs) fun D σ H ⟨ρ, S, k⟩ => ⟨ρ, S, k.bnd.mono fun d ρ1 k1 v H1 fz S1 _ => k1 σ H1 fz S1⟩
def vRet (f : M D) : M Fl := bnd f fun d => ret (.rt d)
theorem vs_ret (h : VE X G e fe) : VS X G false (.Return (some e) pos) (vRet fe) := ps_imp (ps_ret h) fun D σ H ⟨ρ, S, k⟩ => ⟨ρ, S, k.bnd.mono fun d ρ1 k1 v H1 fz S1 sh => k1 v σ H1 fz S1 sh⟩
theorem vs_retO (h : VO X G e fe) : VS X G true (.Return (some e) pos) (vRet fe) := ps_imp (ps_ret h) fun D σ H ⟨ρ, S, k⟩ => ⟨ρ, S, k.bnd.mono fun d ρ1 k1 v H1 fz S1 ro => k1 v σ H1 fz S1 (by
  unfold RO at ro
  unfold RetOk
  cases hd : isC d with
  | false => rw [hd] at ro; exact ro
  | true => rw [hd] at ro; obtain ⟨p, h1, h2, h3⟩ := ro; exact ⟨p, h1, h2, h3.1⟩)⟩
theorem Ow.isC {Z : Zx} {H : Hp} {v : V} {d : D} (h : Ow Z H v d) : Cv.isC d = true := by
  cases h <;> rfl
/-- return x, x an own name -/
def vRetN (i : Nat) : M Fl := fun ρ => match ρ[i]? with
  | some (some s) => if isC s.d && !s.o then none else some (.ok (.rt s.d) ρ)
  | _ => none
theorem vs_retN (i : Nat) {x : Str} {ps : Pos} (hf : i ∉ G.fx) (hN : X.N[i]? = some x := by rfl) (hv : Vis X.env.scope x := by first | exact Or.inl rfl | exact Or.inr (Or.inl rfl) | exact Or.inr (Or.inr rfl)) (hd : (x == ("__debug__" : Str)) = false := by decide)
    (hcd : (x == ("__classdict__" : Str)) = false := by decide) : VS X G true (.Return (some (.Name x ps)) pos) (vRetN i) := ps_imp (ps_ret (pe_var hN hv hd hcd)) fun D σ H ⟨ρ, S, k⟩ => by
  unfold vRetN at k
  cases hs : ρ[i]? with
  | none => rw [hs] at k; exact k.elim
  | some r =>
    cases r with
    | none => rw [hs] at k; exact k.elim
    | some s =>
      rw [hs] at k
      obtain ⟨v, h1, h2⟩ := S.val i s hs
      refine ⟨v, h1, ?_⟩
      simp only at k
      unfold SlOk at h2
      cases ho : s.o with
      | false =>
        rw [ho] at h2 k
        cases hc : isC s.d with
        | true => rw [hc] at k; exact k.elim
        | false => rw [hc] at k; exact k v σ H (Fz.refl H) S (by unfold RetOk; rw [hc]; exact h2)
      | true =>
        rw [ho] at h2 k
        obtain ⟨p, rfl⟩ := h2.1.ref
        have hc : isC s.d = true := h2.1.isC
        rw [hc] at k
        refine k _ σ H (Fz.refl H) S ?_
        unfold RetOk
        rw [hc]
        refine ⟨p, rfl, h2.1, ?_⟩
        rcases h2.2 p rfl with z | z
        · exact z
        · exact absurd z.1 hf
def vRetNone : M Fl := ret (.rt .none)
theorem vs_retNone : VS X G rm (.Return none pos) vRetNone := ps_imp ps_retN fun D σ H ⟨ρ, S, k⟩ => k .non σ H (Fz.refl H) S (by unfold RetOk; cases rm <;> exact Sh.non)
theorem vs_if {c : Expr} {a b : List Stmt} {t : M Bool} (hc : VT X G c t) (ha : VSs X G rm a f) (hb : VSs X G rm b g) : VS X G rm (.If c a b pos) (vIf t f g) := ps_imp (ps_if hc ha hb) fun D σ H ⟨ρ, S, k⟩ => ⟨ρ, S, k.bnd.mono fun x ρ1 k1 H1 fz S1 => by
  cases x with
  | true => rw [if_pos rfl]; exact ⟨ρ1, S1, Kont.mono k1 fun fl ρ2 q => q.up fz⟩
  | false => rw [if_neg (by decide)]; exact ⟨ρ1, S1, Kont.mono k1 fun fl ρ2 q => q.up fz⟩⟩
/-! ### stores -/
def vSetSh (i : Nat) (d : D) : M Unit := fun ρ => some (.ok () (ρ.set i (some ⟨false, d⟩)))
def vSetOw (i : Nat) (d : D) : M Unit := fun ρ => some (.ok () (ρ.set i (some ⟨isC d, d⟩)))
theorem set_get {α : Type} {l : List α} {i j : Nat} {a b : α} (h : (l.set i a)[j]? = some b) : (j = i ∧ b = a) ∨ (j ≠ i ∧ l[j]? = some b) := by
  by_cases e : j = i
  · subst e
    by_cases hl : j < l.length
    · rw [List.getElem?_set_self hl] at h
      cases h
      exact .inl ⟨rfl, rfl⟩
    · rw [List.getElem?_eq_none (by simpa using hl)] at h
      cases h
  · rw [List.getElem?_set_ne (Ne.symm e)] at h
    exact .inr ⟨e, h⟩
theorem Stt.setSh {H : Hp} {σ : St} {ρ : Ev} {i : Nat} {v : V} {d : D} (S : Stt G H σ ρ) (hf : i ∉ G.fx) (sh : Sh G.Z H v d) : Stt G H (σ.set i (some v)) (ρ.set i (some ⟨false, d⟩)) := by
  have aux : ∀ (k : Nat) (t : Sl), (ρ.set i (some ⟨false, d⟩))[k]? = some (some t) → t.o = true → ρ[k]? = some (some t) ∧ (σ.set i (some v))[k]? = σ[k]? := fun k t hk hot => by
    rcases set_get hk with ⟨rfl, z⟩ | ⟨h1, h2⟩
    · cases z; cases hot
    · exact ⟨h2, List.getElem?_set_ne (Ne.symm h1)⟩
  refine ⟨by simpa using S.len, fun j t ht => ?_, fun j k t1 t2 q h1 h2 h3 h4 h5 h6 => ?_, S.mv, fun j hj => ?_, fun q hq => ⟨(S.tmp q hq).1, (S.tmp q hq).2.1, fun j t hj ht => ?_⟩⟩
  · rcases set_get ht with ⟨rfl, z⟩ | ⟨h1, h2⟩
    · cases z
      refine ⟨v, ?_, sh⟩
      have : j < ρ.length := by
        have := (List.getElem?_eq_some_iff.mp ht).1
        simpa using this
      rw [S.len] at this
      exact List.getElem?_set_self this
    · rw [List.getElem?_set_ne (Ne.symm h1)]
      exact S.val j t h2
  · obtain ⟨a1, a2⟩ := aux j t1 h1 h3
    obtain ⟨b1, b2⟩ := aux k t2 h2 h4
    rw [a2] at h5
    rw [b2] at h6
    exact S.dis j k t1 t2 q a1 b1 h3 h4 h5 h6
  · rw [List.getElem?_set_ne (fun z : i = j => hf (by rw [z]; exact hj))]
    exact S.fix j hj
  · obtain ⟨a1, a2⟩ := aux j t hj ht
    rw [a2]
    exact (S.tmp q hq).2.2 j t a1 ht
theorem Stt.setOw {H : Hp} {σ : St} {ρ : Ev} {i : Nat} {v : V} {d : D} (S : Stt G H σ ρ) (hf : i ∉ G.fx) (ro : RO G H σ ρ v d) : Stt G H (σ.set i (some v)) (ρ.set i (some ⟨isC d, d⟩)) := by
  unfold RO at ro
  cases hc : isC d with
  | false => rw [hc] at ro; exact S.setSh hf ro
  | true =>
    rw [hc] at ro
    obtain ⟨p, rfl, ow, fr⟩ := ro
    have aux : ∀ (k : Nat) (t : Sl), (ρ.set i (some ⟨true, d⟩))[k]? = some (some t) → (k = i ∧ t = ⟨true, d⟩ ∧ k < σ.length) ∨ (k ≠ i ∧ ρ[k]? = some (some t) ∧ (σ.set i (some (.ref p)))[k]? = σ[k]?) := fun k t hk => by
      have hl := (List.getElem?_eq_some_iff.mp hk).1
      rcases set_get hk with ⟨rfl, z⟩ | ⟨h1, h2⟩
      · cases z
        exact .inl ⟨rfl, rfl, by rw [← S.len]; simpa using hl⟩
      · exact .inr ⟨h1, h2, List.getElem?_set_ne (Ne.symm h1)⟩
    refine ⟨by simpa using S.len, fun j t ht => ?_, fun j k t1 t2 q h1 h2 h3 h4 h5 h6 => ?_, S.mv, fun j hj => ?_, fun q hq => ⟨(S.tmp q hq).1, (S.tmp q hq).2.1, fun j t hj ht => ?_⟩⟩
    · rcases aux j t ht with ⟨rfl, rfl, hl⟩ | ⟨h1, h2, h3⟩
      · exact ⟨.ref p, List.getElem?_set_self hl, ow, fun q hq => by cases hq; exact .inl fr.1⟩
      · rw [h3]; exact S.val j t h2
    · rcases aux j t1 h1 with ⟨rfl, rfl, hl⟩ | ⟨a1, a2, a3⟩
      · rcases aux k t2 h2 with ⟨rfl, _, _⟩ | ⟨b1, b2, b3⟩
        · rfl
        · rw [List.getElem?_set_self hl] at h5
          cases h5
          rw [b3] at h6
          exact absurd h6 (fr.2.1 k t2 b2 h4)
      · rcases aux k t2 h2 with ⟨rfl, _, hl⟩ | ⟨b1, b2, b3⟩
        · rw [List.getElem?_set_self hl] at h6
          cases h6
          rw [a3] at h5
          exact absurd h5 (fr.2.1 j t1 a2 h3)
        · rw [a3] at h5
          rw [b3] at h6
          exact S.dis j k t1 t2 q a2 b2 h3 h4 h5 h6
    · rw [List.getElem?_set_ne (fun z : i = j => hf (by rw [z]; exact hj))]
      exact S.fix j hj
    · rcases aux j t hj with ⟨rfl, rfl, hl⟩ | ⟨a1, a2, a3⟩
      · rw [List.getElem?_set_self hl]
        intro z
        cases z
        exact fr.2.2 q hq rfl
      · rw [a3]
        exact (S.tmp q hq).2.2 j t a2 ht
def vSet (i : Nat) (f : M D) : M Fl := bnd f fun d => bnd (vSetSh i d) fun _ => ret .nx
def vSetO (i : Nat) (f : M D) : M Fl := bnd f fun d => bnd (vSetOw i d) fun _ => ret .nx
variable {i : Nat} {x : Str} {pos' : Pos}
theorem vs_set (hN : X.N.Nodup) (hi : X.N[i]? = some x) (hx : Loc X.env.scope x) (he : VE X G e fe) (hfx : i ∉ G.fx) (hs : swapsWith e (some (.Name x pos')) pos.line X.env = pure false := by rfl) (hf : X.fn x = true ∨ X.env.scope.names.lookup x = some .local := by first | exact .inl rfl | exact .inr rfl | assumption) :
    VS X G rm (.Assign [.Name x pos'] e pos) (vSet i fe) := ps_imp (ps_set hN hi hx he hs hf) fun D σ H ⟨ρ, S, k⟩ => ⟨ρ, S, k.bnd.mono fun d ρ1 k1 v H1 fz S1 sh => k1 _ H1 fz (S1.setSh hfx sh)⟩
theorem vs_setO (hN : X.N.Nodup) (hi : X.N[i]? = some x) (hx : Loc X.env.scope x) (he : VO X G e fe) (hfx : i ∉ G.fx) (hs : swapsWith e (some (.Name x pos')) pos.line X.env = pure false := by rfl) (hf : X.fn x = true ∨ X.env.scope.names.lookup x = some .local := by first | exact .inl rfl | exact .inr rfl | assumption) :
    VS X G rm (.Assign [.Name x pos'] e pos) (vSetO i fe) := ps_imp (ps_set hN hi hx he hs hf) fun D σ H ⟨ρ, S, k⟩ => ⟨ρ, S, k.bnd.mono fun d ρ1 k1 v H1 fz S1 ro => k1 _ H1 fz (S1.setOw hfx ro)⟩
/-! ### targets -/
/-- only the slots vs may have changed -/
def SetOnly (vs : List Nat) (σ σ' : St) : Prop := σ'.length = σ.length ∧ ∀ j, j ∉ vs → σ'[j]? = σ[j]?
theorem SetOnly.refl (vs : List Nat) (σ : St) : SetOnly vs σ σ := ⟨rfl, fun _ _ => rfl⟩
theorem SetOnly.trans {vs : List Nat} {σ σ1 σ2 : St} (a : SetOnly vs σ σ1) (b : SetOnly vs σ1 σ2) : SetOnly vs σ σ2 := ⟨b.1.trans a.1, fun j h => (b.2 j h).trans (a.2 j h)⟩
/-- locked data, or a pair just made -/
inductive Up (Z : Zx) (H : Hp) : V → D → Prop
  | sh {v : V} {d : D} : Sh Z H v d → Up Z H v d
  | tp {a : Addr} {vs : List V} {ds : List D} : H a = some (.tup vs) → ShAll Z H vs ds → Up Z H (.ref a) (.tuple ds)
def tvG (G : Gh) (rel : Zx → Hp → V → D → Prop) (vs : List Nat) (g : D → M Unit) : TG := fun v σ H Q => ∃ ρ d, Stt G H σ ρ ∧ rel G.Z H v d ∧ Kont G (g d ρ) fun _ ρ' => ∀ σ', SetOnly vs σ σ' → Stt G H σ' ρ' → Q σ' H
abbrev VG (X : Cx) (G : Gh) (rel : Zx → Hp → V → D → Prop) (vs : List Nat) (t : Expr) (g : D → M Unit) : Prop := PG X t (tvG G rel vs g)
def tvGs (G : Gh) (vs : List Nat) (g : List D → M Unit) : TGs := fun xs σ H Q => ∃ ρ ds, Stt G H σ ρ ∧ ShAll G.Z H xs ds ∧ Kont G (g ds ρ) fun _ ρ' => ∀ σ', SetOnly vs σ σ' → Stt G H σ' ρ' → Q σ' H
abbrev VGs (X : Cx) (G : Gh) (vs : List Nat) (t : List Expr) (g : List D → M Unit) : Prop := PGs X t (tvGs G vs g)
theorem pgs_imp {e : List Expr} {t t' : TGs} (h : PGs X e t) (k : ∀ v σ H Q, t' v σ H Q → t v σ H Q) : PGs X e t' := ⟨fun pins s σ H v u Q I r q => h.run pins s σ H v u Q I r (k v σ H Q q)⟩
variable {vs : List Nat}
theorem set_only {σ : St} {v : Option V} (h : i ∈ vs) : SetOnly vs σ (σ.set i v) := ⟨by simp, fun j hj => List.getElem?_set_ne (fun z : i = j => hj (by rw [← z]; exact h))⟩
theorem vg_name (hN : X.N.Nodup) (hi : X.N[i]? = some x) (hx : Loc X.env.scope x) (hfx : i ∉ G.fx) (hv : i ∈ vs := by simp) (hf : X.fn x = true ∨ X.env.scope.names.lookup x = some .local := by first | exact .inl rfl | exact .inr rfl | assumption) : VG X G Sh vs (.Name x pos) (vSetSh i) :=
  pg_imp (pg_name hN hi hx hf) fun v σ H Q ⟨ρ, d, S, sh, k⟩ => k _ (set_only hv) (S.setSh hfx sh)
def vGNil : List D → M Unit
  | [] => ret ()
  | _ => fun _ => none
def vGCons (g : D → M Unit) (gs : List D → M Unit) : List D → M Unit
  | x :: r => bnd (g x) fun _ => gs r
  | _ => fun _ => none
theorem vgs_nil : VGs X G vs [] vGNil := pgs_imp pgs_nil fun xs σ H Q ⟨ρ, ds, S, sh, k⟩ => by
  cases sh with
  | nil => exact ⟨rfl, k σ (SetOnly.refl vs σ) S⟩
  | cons h1 h2 => exact k.elim
theorem vgs_cons {es : List Expr} {g1 : D → M Unit} {gs : List D → M Unit} (h1 : VG X G Sh vs e g1) (h2 : VGs X G vs es gs) (hs : (assignEach (e :: es) X.env).map (·.2) = assign e X.env :: (assignEach es X.env).map (·.2) := by rfl) : VGs X G vs (e :: es) (vGCons g1 gs) :=
  pgs_imp (pgs_cons h1 h2 hs) fun xs σ H Q ⟨ρ, ds, S, sh, k⟩ => by
  cases sh with
  | nil => exact k.elim
  | cons h1 h2 =>
    exact ⟨_, _, rfl, ρ, _, S, h1, (Kont.bnd k).mono fun _ ρ1 k1 σ1 so S1 => ⟨ρ1, _, S1, h2, Kont.mono k1 fun _ ρ2 q σ2 so2 S2 => q σ2 (so.trans so2) S2⟩⟩
def vGTup (n : Nat) (gs : List D → M Unit) : D → M Unit
  | .tuple ds => if ds.length = n then gs ds else fun _ => none
  | _ => fun _ => none
theorem vg_tup {es : List Expr} {k n : Nat} {gs : List D → M Unit} (hc : X.calm = true) (h : VGs X G vs es gs) (hZ : G.Z = zx X := by rfl) (hn : (assignEach es X.env).length = n := by rfl) (hst : (assignEach es X.env).findIdx? (·.1) = none := by rfl) : VG X G Up vs (.Tuple es k pos) (vGTup n gs) :=
  pg_imp (pg_tup hc h hn hst) fun v σ H Q ⟨ρ, d, S, up, k⟩ => by
  cases d with
  | tuple ds =>
    unfold vGTup at k
    simp only at k
    split at k
    · rename_i hl
      have : ∃ a ws, v = .ref a ∧ SqT X.K H a ws ∧ ShAll G.Z H ws ds := by
        cases up with
        | sh sh =>
          cases sh with
          | tup ht hs =>
            refine ⟨_, _, rfl, ?_, hs⟩
            have := ht.sq
            rw [hZ] at this
            exact this
        | tp e hs => exact ⟨_, _, rfl, SqT.of e, hs⟩
      obtain ⟨a, ws, rfl, hsq, hs⟩ := this
      exact ⟨a, ws, rfl, hsq, by rw [hs.length]; exact hl, ρ, ds, S, hs, k⟩
    · exact k.elim
  | _ => exact k.elim
theorem vg_weak {t : Expr} {g : D → M Unit} (h : VG X G Up vs t g) : VG X G Sh vs t g := pg_imp h fun v σ H Q ⟨ρ, d, S, sh, k⟩ => ⟨ρ, d, S, .sh sh, k⟩
def vAsg (f : M D) (g : D → M Unit) : M Fl := bnd f fun d => bnd (g d) fun _ => ret .nx
theorem vs_asg {t : Expr} {g : D → M Unit} (he : VE X G e fe) (hg : VG X G Sh vs t g) (hs : swapsWithSole [t] e pos.line X.env = pure false := by rfl) (hw : swappedStores [t] e X.env = pure none := by rfl) (h1 : (assignEach [t] X.env).map (·.2) = [assign t X.env] := by rfl) : VS X G rm (.Assign [t] e pos) (vAsg fe g) :=
  ps_imp (ps_asg he hg hs hw h1) fun D σ H ⟨ρ, S, k⟩ => ⟨ρ, S, k.bnd.mono fun d ρ1 k1 v H1 fz S1 sh => ⟨ρ1, d, S1, sh, k1.bnd.mono fun _ ρ2 k2 σ' so S2 => k2 σ' H1 fz S2⟩⟩
/-- a, b = e1, e2 -/
def vPar (i j : Nat) (fa fb : M D) : M Fl := bnd fa fun x => bnd fb fun y => bnd (vSetSh i x) fun _ => bnd (vSetOw j y) fun _ => ret .nx
/-- e1 locked, e2 perhaps one's own -/
theorem vs_par {j : Nat} {y : Str} {a b : Expr} {fa fb : M D} {px py pt : Pos} {kt k2 : Nat} {pt2 : Pos} (hc : X.calm = true) (hN : X.N.Nodup) (hi : X.N[i]? = some x) (hj : X.N[j]? = some y) (hij : i ≠ j) (hx : X.env.scope.names.lookup x = some .local) (hy : X.env.scope.names.lookup y = some .local)
    (ha : VE X G a fa) (hb : VO X G b fb) (hfi : i ∉ G.fx) (hfj : j ∉ G.fx) (hw : swappedStores [.Tuple [.Name x px, .Name y py] kt pt] (.Tuple [a, b] k2 pt2) X.env = pure (some [x, y])) (hs : swapsWithSole [.Tuple [.Name x px, .Name y py] kt pt] (.Tuple [a, b] k2 pt2) pos.line X.env = pure false := by rfl)
    (hs1 : starEach [a, b] X.env = (false, eval a X.env) :: starEach [b] X.env := by rfl) (hs2 : starEach [b] X.env = (false, eval b X.env) :: starEach [] X.env := by rfl) : VS X G rm (.Assign [.Tuple [.Name x px, .Name y py] kt pt] (.Tuple [a, b] k2 pt2) pos) (vPar i j fa fb) :=
  ps_imp (ps_par hc hN hi hj hij hx hy (pa_cons ha (pa_cons hb pa_nil hs2) hs1) hw hs) fun D σ H ⟨ρ, S, k⟩ => ⟨ρ, S, k.bnd.mono fun d ρ1 k1 v H1 fz S1 sh => ⟨ρ1, S1, k1.bnd.mono fun d2 ρ2 k2 w H2 fz2 S2 ro => ⟨v, w, rfl, by
    have S3 := S2.setSh hfi (sh.up fz2)
    refine k2 _ H2 (fz.trans fz2) (S3.setOw hfj ?_)
    unfold RO at ro ⊢
    cases hd : isC d2 with
    | false => rw [hd] at ro; exact ro
    | true =>
      rw [hd] at ro
      obtain ⟨p, h1, h2, h3, h4, h5⟩ := ro
      refine ⟨p, h1, h2, h3, fun m s hm ho => ?_, h5⟩
      rcases set_get hm with ⟨rfl, z⟩ | ⟨a1, a2⟩
      · cases z; cases ho
      · rw [List.getElem?_set_ne (Ne.symm a1)]
        exact h4 m s a2 ho⟩⟩⟩
/-! ### while -/
def vWhileN : Nat → M Bool → M Fl → M Fl
  | 0, _, _ => fun _ => none
  | n + 1, t, b => bnd t fun c => if c then bnd b fun fl => match fl with
    | .nx => vWhileN n t b
    | .ct => vWhileN n t b
    | .bk => ret .nx
    | .rt d => ret (.rt d) else ret .nx
def vWhile (t : M Bool) (b : M Fl) : M Fl := fun ρ => vWhileN 1000000000 t b ρ
theorem vs_while {c : Expr} {body : List Stmt} {t : M Bool} {b : M Fl} (hp : PassesOwn (model X.prog X.w) X.A X.env X.xe) (hc : VT X G c t) (hb : VSs X G rm body b) : VS X G rm (.While c body [] pos) (vWhile t b) := ps_imp (ps_while hp hc hb) fun D σ H ⟨ρ, S, k⟩ => by
  refine ⟨fun m σ' H' => ∃ ρ', Stt G H' σ' ρ' ∧ Fz H H' ∧ Kont G (vWhileN m t b ρ') (FlK G rm H D), ⟨_, ρ, S, Fz.refl H, k⟩, ?_⟩
  rintro m σ1 H1 ⟨ρ1, S1, fz1, k1⟩
  cases m with
  | zero => exact k1.elim
  | succ m =>
    refine ⟨ρ1, S1, (Kont.bnd k1).mono fun c ρ2 k2 H2 fz2 S2 => ?_⟩
    cases c with
    | false => rw [if_neg (by decide)]; exact k2 σ1 H2 (fz1.trans fz2) S2
    | true =>
      rw [if_pos rfl]
      refine ⟨fun σ' H' => ∃ ρ', Stt G H' σ' ρ' ∧ Fz H H' ∧ Kont G (vWhileN m t b ρ') (FlK G rm H D), fun σ' H' h => ⟨m, Nat.lt_succ_self m, h⟩, ρ2, S2, (Kont.bnd k2).mono fun fl ρ3 k3 => ?_⟩
      cases fl with
      | nx => exact fun σ' H' f S' => ⟨ρ3, S', fz1.trans (fz2.trans f), k3⟩
      | ct => exact fun σ' H' f S' => ⟨ρ3, S', fz1.trans (fz2.trans f), k3⟩
      | bk => exact fun σ' H' f S' => k3 σ' H' (fz1.trans (fz2.trans f)) S'
      | rt d => exact fun v σ' H' f S' r => k3 v σ' H' (fz1.trans (fz2.trans f)) S' r
/-! ### for -/
/-- an iterator over ds, while what is locked stays -/
def ItV (rel : Zx → Hp → V → D → Prop) (Z : Zx) (J : It) (ds : List D) (H1 : Hp) : Prop := ∃ (Gd : Hp → Prop) (Y : Nat → Hp → V → Hp → Prop), Walk J ds.length Gd Y ∧ (∀ H2, Fz H1 H2 → Gd H2) ∧
  ∀ (i : Nat) H2 x H3, i < ds.length → Fz H1 H2 → Y i H2 x H3 → Same H2 H3 ∧ ∃ d, ds[i]? = some d ∧ rel Z H3 x d
def tvI (G : Gh) (rel : Zx → Hp → V → D → Prop) (f : M (List D)) : TI := fun σ H R => ∃ ρ, Stt G H σ ρ ∧ Kont G (f ρ) fun ds ρ' => ∀ J H', Fz H H' → Stt G H' σ ρ' → ItV rel G.Z J ds H' → R J H'
abbrev VI (X : Cx) (G : Gh) (rel : Zx → Hp → V → D → Prop) (tg e : Expr) (f : M (List D)) : Prop := PI X tg e (tvI G rel f)
def vForL (g : D → M Unit) (b : M Fl) : List D → M Fl
  | [] => ret .nx
  | x :: r => bnd (g x) fun _ => bnd b fun fl => match fl with
    | .nx => vForL g b r
    | .ct => vForL g b r
    | .bk => ret .nx
    | .rt d => ret (.rt d)
def vFor (it : M (List D)) (g : D → M Unit) (b : M Fl) : M Fl := bnd it fun xs => vForL g b xs
theorem vs_for {rel : Zx → Hp → V → D → Prop} {tg iter : Expr} {body : List Stmt} {it : M (List D)} {g : D → M Unit} {b : M Fl} (hp : PassesOwn (model X.prog X.w) X.A X.env X.xe) (hc : X.calm = true) (hi : VI X G rel tg iter it) (hg : VG X G rel vs tg g) (hb : VSs X G rm body b)
    (hs : ∀ x, foldedSetIterable iter X.env x = pure x := by intro _; rfl) : VS X G rm (.For tg iter body [] pos) (vFor it g b) := ps_imp (ps_for hp hc hi hg hb hs) fun D σ H ⟨ρ, S, k⟩ => by
  refine ⟨ρ, S, k.bnd.mono fun ds ρ1 k1 J H1 fz1 S1 ⟨Gd, Y, w, hG, hY⟩ => ?_⟩
  refine for_it w (fun i σ' H' => ∃ ρ', Stt G H' σ' ρ' ∧ Fz H1 H' ∧ Kont G (vForL g b (ds.drop i) ρ') (FlK G rm H D)) ⟨ρ1, S1, Fz.refl H1, by simpa using k1⟩ (fun i σ' H' _ ⟨_, _, f, _⟩ => hG H' f) ?_ ?_
  · rintro i x σ2 H2 H3 hi ⟨ρ2, S2, f2, k2⟩ hy
    obtain ⟨sm, d, hd, rl⟩ := hY i H2 x H3 hi f2 hy
    rw [List.drop_eq_getElem_cons hi] at k2
    have ed : ds[i] = d := by
      rw [List.getElem?_eq_getElem hi] at hd
      exact Option.some.inj hd
    rw [ed] at k2
    refine ⟨ρ2, d, S2.same sm, rl, (Kont.bnd k2).mono fun _ ρ3 k3 σ3 so S3 => ⟨ρ3, S3, (Kont.bnd k3).mono fun fl ρ4 k4 => ?_⟩⟩
    have f3 : Fz H1 H3 := f2.trans (Same.fz sm)
    cases fl with
    | nx => exact fun σ' H' f S' => ⟨ρ4, S', f3.trans f, k4⟩
    | ct => exact fun σ' H' f S' => ⟨ρ4, S', f3.trans f, k4⟩
    | bk => exact fun σ' H' f S' => k4 σ' H' (fz1.trans (f3.trans f)) S'
    | rt d => exact fun v σ' H' f S' r => k4 v σ' H' (fz1.trans (f3.trans f)) S' r
  · rintro σ2 H2 ⟨ρ2, S2, f2, k2⟩
    rw [List.drop_length] at k2
    exact k2 σ2 H2 (fz1.trans f2) S2
end
end Cv
end
section
/-! The V layer: what is one's own is written. -/
namespace Cv
open PySem L2
open PySem.Spec PyProof.Rows
section
variable {X : Cx} {G : Gh} {rm : Bool} {pins : List (Addr × Obj)} {σ : L2.St} {H : Hp} {s : Shared}
theorem fz_mut {p : Addr} {o : HO} (m : Mut (H p)) : Fz H (upd H p o) := fun b o' u e => by
  rw [upd_ne (fun z => by subst z; rw [e] at m; exact m)]
  exact e
theorem Stt.mutate {ρ : Ev} {i : Nat} {d d' : D} {p : Addr} {o : HO} (S : Stt G H σ ρ) (hi : ρ[i]? = some (some ⟨true, d⟩)) (hv : σ[i]? = some (some (.ref p))) (m : Mut (H p)) (ow : Ow G.Z (upd H p o) (.ref p) d') : Stt G (upd H p o) σ (ρ.set i (some ⟨true, d'⟩)) := by
  have fz := fz_mut (o := o) m
  obtain ⟨v, h1, h2⟩ := S.val i _ hi
  rw [hv] at h1
  cases h1
  have h3 : Ow G.Z H (.ref p) d ∧ ∀ q, V.ref p = .ref q → Nn G.H0 q ∨ (i ∈ G.fx ∧ q ∈ G.S) := h2
  have aux : ∀ (k : Nat) (t : Sl), (ρ.set i (some ⟨true, d'⟩))[k]? = some (some t) → ∃ t', ρ[k]? = some (some t') ∧ (t.o = true → t'.o = true) ∧ (k ≠ i → t' = t) := fun k t hk => by
    rcases set_get hk with ⟨rfl, z⟩ | ⟨a1, a2⟩
    · cases z; exact ⟨_, hi, fun _ => rfl, fun z => absurd rfl z⟩
    · exact ⟨t, a2, id, fun _ => rfl⟩
  refine ⟨by simpa using S.len, fun j t ht => ?_, fun j k t1 t2 q e1 e2 e3 e4 e5 e6 => ?_, S.mv.upd ((h3.2 p rfl).imp id And.right) (fun o' u z => by rw [z] at m; exact m) h3.1.noTab (fun ps z => ow.noTab.t ps (by rw [upd_same, z])), S.fix, fun q hq => ⟨?_, (S.tmp q hq).2.1, fun j t hj ht => ?_⟩⟩
  · rcases set_get ht with ⟨rfl, z⟩ | ⟨a1, a2⟩
    · cases z
      exact ⟨_, hv, ow, h3.2⟩
    · obtain ⟨w, b1, b2⟩ := S.val j t a2
      refine ⟨w, b1, b2.keep fz fun q hq hoq => upd_ne fun z => ?_⟩
      subst z hq
      exact a1 (S.dis j i t _ q a2 hi hoq rfl b1 hv)
  · obtain ⟨t1', c1, c2, _⟩ := aux j t1 e1
    obtain ⟨t2', d1, d2, _⟩ := aux k t2 e2
    exact S.dis j k t1' t2' q c1 d1 (c2 e3) (d2 e4) e5 e6
  · rw [upd_ne (fun z => (S.tmp q hq).2.2 i _ hi rfl (by rw [z]; exact hv))]
    exact (S.tmp q hq).1
  · obtain ⟨t', c1, c2, _⟩ := aux j t hj
    exact (S.tmp q hq).2.2 j t' c1 (c2 ht)
/-! ### methods -/
def tyD : D → Option String
  | .list _ => some "list"
  | .tuple _ => some "tuple"
  | .dict _ => some "dict"
  | .str _ => some "str"
  | _ => none
theorem ty_rp {T : String} {x : V} {v : Value} {d : D} (I : Inv X pins σ H s) (r : RelV x v) (h : Rp (zx X) H x d) (ty : tyD d = some T) : s.TypeIs v T ∧ ∀ a, v = .ref a → ∃ ob, s.heap.get? a = some ob ∧ ob.dict = none := by
  cases d with
  | list ds =>
    cases ty
    obtain ⟨a, vs, rfl, hr, _⟩ := h.lst
    cases r
    obtain ⟨_, its, n, _, _, e⟩ := inv_lst I hr
    exact ⟨⟨_, e, rfl⟩, fun b z => by cases z; exact ⟨_, e, rfl⟩⟩
  | tuple ds =>
    cases ty
    obtain ⟨a, vs, rfl, hr, _⟩ := h.tup
    cases r
    rcases hr with ⟨o, ho, e⟩ | ⟨o, its, n, e, hc, ho, _⟩
    · obtain ⟨h1, _, its, _, ob, h3, h4, _⟩ := I.hok a _ e
      rw [h1] at h3
      cases h3
      exact ⟨⟨o, h1, h4⟩, fun b z => by cases z; exact ⟨o, h1, ho⟩⟩
    · have h1 := I.kIn a o e
      exact ⟨⟨o, h1, hc⟩, fun b z => by cases z; exact ⟨o, h1, ho⟩⟩
  | dict ds =>
    cases ty
    obtain ⟨a, rfl, hh⟩ := h.dic
    cases r
    have : ∃ o, s.heap.get? a = some o ∧ o.ExactDict := by
      rcases hh with ⟨kvs, hr, _⟩ | ⟨_, kvs, hr, _⟩
      · obtain ⟨_, _, vs, _, o, _, _, e, ex, _⟩ := hr.ok I.hok
        exact ⟨o, e, ex⟩
      · obtain ⟨_, _, _, _, o, _, _, e, ex, _⟩ := oN_ok I hr
        exact ⟨o, e, ex⟩
    obtain ⟨o, e, ex⟩ := this
    exact ⟨⟨o, e, ex.1⟩, fun b z => by cases z; exact ⟨o, e, ex.2.1⟩⟩
  | str z =>
    cases ty
    cases h.str
    exact tyV_is I r rfl
  | none => cases ty
  | bool _ => cases ty
  | int _ => cases ty
def tBM (Z : Zx) (T : String) (r : V → List V → Hp → VK → Prop) (to : TE) (t : TA) : TE := fun σ H Q => to σ H fun x H1 => (∃ d, Rp Z H1 x d ∧ tyD d = some T) ∧ t σ H1 fun xs H2 => r x xs H2 Q
def tBM0 (Z : Zx) (T : String) (r : V → List V → Hp → VK → Prop) (to : TE) : TE := fun σ H Q => to σ H fun x H1 => (∃ d, Rp Z H1 x d ∧ tyD d = some T) ∧ r x [] H1 Q
variable {o e : Expr} {es : List Expr} {to : TE} {t : TA} {name : Str} {apos cpos : Pos} {T id : String} {r : V → List V → Hp → VK → Prop}
theorem pe_m0 (pa : PlainAttrs T) (slot : Slot T name id) (hty : typeOf (.builtin id) = pure (.type "method_descriptor")) (hm : MtR X id r) (ho : PE X o to)
    (hbase : attributeBase o name X.env (eval o X.env) = eval o X.env := by rfl) (hline : (apos.endLine == cpos.line) = true := by rfl) : PE X (.Call (.Attribute o name apos) [] [] cpos) (tBM0 (zx X) T r to) := by
  refine ⟨fun pins s σ H Q I h => wpAny_Call_method0_late hbase hline (thn (ho.run pins s σ H _ I h) fun v s1 ⟨x, H1, I1, r1, ⟨d, rp, ty⟩, q1⟩ => ?_)⟩
  obtain ⟨h1, h2⟩ := ty_rp I1 r1 rp ty
  exact ⟨T, id, pa, slot, hty, h1, h2, Calls.callWith_builtin rfl (PySem.evalArgs_none (hm pins s1 σ H1 x [] v [] Q I1 r1 .nil q1))⟩
theorem pe_m (pa : PlainAttrs T) (slot : Slot T name id) (hty : typeOf (.builtin id) = pure (.type "method_descriptor")) (hm : MtR X id r) (ho : PE X o to) (ha : PA X (e :: es) t)
    (hbase : attributeBase o name X.env (eval o X.env) = eval o X.env := by rfl)
    (hfew : ((backTo cpos (starEach (e :: es) X.env)).all (fun x => !x.1) && (backToKw cpos (keywordEach [] X.env)).all (fun x => x.1.isSome) && decide ((e :: es).length + ([] : List Keyword).length + (if ([] : List Keyword).isEmpty then 0 else 1) < 30)) = true := by rfl)
    (hline : (apos.endLine == cpos.line) = true := by rfl) (hs : starEach (e :: es) X.env = (false, eval e X.env) :: starEach es X.env := by rfl) (hplain : (backTo cpos (starEach es X.env)).any (·.1) = false := by rfl) :
    PE X (.Call (.Attribute o name apos) (e :: es) [] cpos) (tBM (zx X) T r to t) := by
  refine ⟨fun pins s σ H Q I h => wpAny_Call_method_late hbase hfew hline rfl (thn (ho.run pins s σ H _ I h) fun v s1 ⟨x, H1, I1, r1, ⟨d, rp, ty⟩, q1⟩ => ?_)⟩
  obtain ⟨h1, h2⟩ := ty_rp I1 r1 rp ty
  refine ⟨T, id, pa, slot, hty, h1, h2, ?_⟩
  have hA := ha.run cpos pins s1 σ H1 _ I1 q1
  rw [hs] at hA ⊢
  exact Calls.callWith_builtin (by show (false || (backTo cpos (starEach es X.env)).any (·.1)) = false; rw [hplain] <;> rfl) (Calls.evalArgs_plain (thn hA fun us s2 ⟨vs, H2, I2, r2, q2⟩ => hm pins s2 σ H2 x vs v us Q I2 r1 r2 q2))
/-- a method that reads; the receiver locked -/
def rM (Z : Zx) (p : D → List D → Option D) : V → List V → Hp → VK → Prop := fun x xs H Q => ∃ d ds r, Rp Z H x d ∧ ShAll Z H xs ds ∧ p d ds = some r ∧ ∀ v H', Same H H' → NR Z H H' v r → Q v H'
/-- a method that gives an item -/
def rMS (Z : Zx) (p : D → List D → Option D) : V → List V → Hp → VK → Prop := fun x xs H Q => ∃ d ds r, Rp Z H x d ∧ ShAll Z H xs ds ∧ p d ds = some r ∧ ∀ v, Sh Z H v r → Q v H
def vM (T : String) (p : D → List D → Option D) (fo : M D) (fs : M (List D)) : M D := bnd fo fun x => if tyD x = some T then bnd fs fun xs => lft (p x xs) else fun _ => none
def vMN (T : String) (p : D → List D → Option D) (i : Nat) (fs : M (List D)) : M D := bnd (vGet i) fun x => if tyD x = some T then bnd fs fun xs => bnd (vGet i) fun y => lft (p y xs) else fun _ => none
variable {fo : M D} {fs : M (List D)} {p : D → List D → Option D}
theorem vo_m (pa : PlainAttrs T) (slot : Slot T name id) (hty : typeOf (.builtin id) = pure (.type "method_descriptor")) (hm : MtR X id (rM (zx X) p)) (ho : VE X G o fo) (ha : VA X G (e :: es) fs) (hZ : G.Z = zx X := by rfl) (hbase : attributeBase o name X.env (eval o X.env) = eval o X.env := by rfl)
    (hfew : ((backTo cpos (starEach (e :: es) X.env)).all (fun x => !x.1) && (backToKw cpos (keywordEach [] X.env)).all (fun x => x.1.isSome) && decide ((e :: es).length + ([] : List Keyword).length + (if ([] : List Keyword).isEmpty then 0 else 1) < 30)) = true := by rfl)
    (hline : (apos.endLine == cpos.line) = true := by rfl) (hs : starEach (e :: es) X.env = (false, eval e X.env) :: starEach es X.env := by rfl) (hplain : (backTo cpos (starEach es X.env)).any (·.1) = false := by rfl) :
    VO X G (.Call (.Attribute o name apos) (e :: es) [] cpos) (vM T p fo fs) := pe_imp (pe_m pa slot hty hm ho ha hbase hfew hline hs hplain) (by
  obtain ⟨Z, cl, H0, S0, W, fx, fv, tp⟩ := G
  cases hZ
  rintro σ H Q ⟨ρ, S, k⟩
  refine ⟨ρ, S, k.bnd.mono fun x ρ1 k1 v H1 fz1 S1 s1 => ?_⟩
  split at k1
  · rename_i hT
    refine ⟨⟨x, .sh s1, hT⟩, ρ1, S1, k1.bnd.mono fun xs ρ2 k2 vs H2 fz2 S2 s2 => ?_⟩
    obtain ⟨d, e, q⟩ := k2.lft
    exact ⟨x, xs, d, .sh (s1.up fz2), s2, e, fun z H3 sm nr => q z H3 (fz1.trans (fz2.trans (Same.fz sm))) (S2.same sm) (nr.ro S2)⟩
  · exact k1.elim)
theorem ve_m (pa : PlainAttrs T) (slot : Slot T name id) (hty : typeOf (.builtin id) = pure (.type "method_descriptor")) (hm : MtR X id (rMS (zx X) p)) (ho : VE X G o fo) (ha : VA X G (e :: es) fs) (hZ : G.Z = zx X := by rfl) (hbase : attributeBase o name X.env (eval o X.env) = eval o X.env := by rfl)
    (hfew : ((backTo cpos (starEach (e :: es) X.env)).all (fun x => !x.1) && (backToKw cpos (keywordEach [] X.env)).all (fun x => x.1.isSome) && decide ((e :: es).length + ([] : List Keyword).length + (if ([] : List Keyword).isEmpty then 0 else 1) < 30)) = true := by rfl)
    (hline : (apos.endLine == cpos.line) = true := by rfl) (hs : starEach (e :: es) X.env = (false, eval e X.env) :: starEach es X.env := by rfl) (hplain : (backTo cpos (starEach es X.env)).any (·.1) = false := by rfl) :
    VE X G (.Call (.Attribute o name apos) (e :: es) [] cpos) (vM T p fo fs) := pe_imp (pe_m pa slot hty hm ho ha hbase hfew hline hs hplain) (by
  obtain ⟨Z, cl, H0, S0, W, fx, fv, tp⟩ := G
  cases hZ
  rintro σ H Q ⟨ρ, S, k⟩
  refine ⟨ρ, S, k.bnd.mono fun x ρ1 k1 v H1 fz1 S1 s1 => ?_⟩
  split at k1
  · rename_i hT
    refine ⟨⟨x, .sh s1, hT⟩, ρ1, S1, k1.bnd.mono fun xs ρ2 k2 vs H2 fz2 S2 s2 => ?_⟩
    obtain ⟨d, e, q⟩ := k2.lft
    exact ⟨x, xs, d, .sh (s1.up fz2), s2, e, fun z sz => q z H2 (fz1.trans fz2) S2 sz⟩
  · exact k1.elim)
variable {i : Nat} {x : Str} {ps : Pos}
theorem vo_mN (i : Nat) (pa : PlainAttrs T) (slot : Slot T name id) (hty : typeOf (.builtin id) = pure (.type "method_descriptor")) (hm : MtR X id (rM (zx X) p)) (ha : VA X G (e :: es) fs) (hZ : G.Z = zx X := by rfl)
    (hN : X.N[i]? = some x := by rfl) (hv : Vis X.env.scope x := by first | exact Or.inl rfl | exact Or.inr (Or.inl rfl) | exact Or.inr (Or.inr rfl)) (hd : (x == ("__debug__" : Str)) = false := by decide) (hcd : (x == ("__classdict__" : Str)) = false := by decide)
    (hbase : attributeBase (.Name x ps) name X.env (eval (.Name x ps) X.env) = eval (.Name x ps) X.env := by rfl)
    (hfew : ((backTo cpos (starEach (e :: es) X.env)).all (fun x => !x.1) && (backToKw cpos (keywordEach [] X.env)).all (fun x => x.1.isSome) && decide ((e :: es).length + ([] : List Keyword).length + (if ([] : List Keyword).isEmpty then 0 else 1) < 30)) = true := by rfl)
    (hline : (apos.endLine == cpos.line) = true := by rfl) (hs : starEach (e :: es) X.env = (false, eval e X.env) :: starEach es X.env := by rfl) (hplain : (backTo cpos (starEach es X.env)).any (·.1) = false := by rfl) :
    VO X G (.Call (.Attribute (.Name x ps) name apos) (e :: es) [] cpos) (vMN T p i fs) := pe_imp (pe_m pa slot hty hm (pe_var hN hv hd hcd) ha hbase hfew hline hs hplain) (by
  obtain ⟨Z, cl, H0, S0, W, fx, fv, tp⟩ := G
  cases hZ
  rintro σ H Q ⟨ρ, S, k⟩
  obtain ⟨s0, hs0, k0⟩ := k.get
  obtain ⟨v, hv, _⟩ := S.val i s0 hs0
  split at k0
  · rename_i hT
    refine ⟨v, hv, ⟨s0.d, S.get hv hs0, hT⟩, ρ, S, k0.bnd.mono fun xs ρ2 k2 vs H2 fz2 S2 s2 => ?_⟩
    obtain ⟨s1, hs1, k3⟩ := k2.get
    obtain ⟨d, e, q⟩ := k3.lft
    exact ⟨s1.d, xs, d, S2.get hv hs1, s2, e, fun z H3 sm nr => q z H3 (fz2.trans (Same.fz sm)) (S2.same sm) (nr.ro S2)⟩
  · exact k0.elim)
/-- a method that writes: p gives what is told, and the receiver behind it -/
def rMW (Z : Zx) (p : D → List D → Option (D × D)) : V → List V → Hp → VK → Prop := fun x xs H Q => ∃ d ds r d', Ow Z H x d ∧ ShAll Z H xs ds ∧ p d ds = some (r, d') ∧ ∀ v q o, x = .ref q → Fz H (upd H q o) → Ow Z (upd H q o) x d' → Sh Z (upd H q o) v r → Q v (upd H q o)
def putO (i : Nat) (d : D) : M Unit := fun ρ => some (.ok () (ρ.set i (some ⟨true, d⟩)))
def getO (i : Nat) : M D := fun ρ => match ρ[i]? with
  | some (some s) => if s.o then some (.ok s.d ρ) else none
  | _ => none
def vMW (T : String) (p : D → List D → Option (D × D)) (i : Nat) (fs : M (List D)) : M D := bnd (vGet i) fun x => if tyD x = some T then bnd fs fun xs => bnd (getO i) fun y => bnd (lft (p y xs)) fun r => bnd (putO i r.2) fun _ => ret r.1 else fun _ => none
theorem Kont.getO {α : Type} {i : Nat} {k : D → M α} {ρ : Ev} {q : α → Ev → Prop} (h : Kont G (Cv.bnd (Cv.getO i) k ρ) q) : ∃ d, ρ[i]? = some (some ⟨true, d⟩) ∧ Kont G (k d ρ) q := by
  have h1 := h.bnd
  unfold Cv.getO at h1
  cases hs : ρ[i]? with
  | none => rw [hs] at h1; exact h1.elim
  | some r =>
    cases r with
    | none => rw [hs] at h1; exact h1.elim
    | some s =>
      rw [hs] at h1
      obtain ⟨o, d⟩ := s
      cases o with
      | false => exact h1.elim
      | true => exact ⟨d, rfl, h1⟩
theorem Stt.own {ρ : Ev} {i : Nat} {d : D} (S : Stt G H σ ρ) (hi : ρ[i]? = some (some ⟨true, d⟩)) : ∃ q, σ[i]? = some (some (.ref q)) ∧ Ow G.Z H (.ref q) d := by
  obtain ⟨v, h1, h2⟩ := S.val i _ hi
  have h3 : Ow G.Z H v d ∧ _ := h2
  obtain ⟨q, rfl⟩ := h3.1.ref
  exact ⟨q, h1, h3.1⟩
theorem ve_mw (i : Nat) {p : D → List D → Option (D × D)} (pa : PlainAttrs T) (slot : Slot T name id) (hty : typeOf (.builtin id) = pure (.type "method_descriptor")) (hm : MtR X id (rMW (zx X) p)) (ha : VA X G (e :: es) fs) (hZ : G.Z = zx X := by rfl)
    (hN : X.N[i]? = some x := by rfl) (hv : Vis X.env.scope x := by first | exact Or.inl rfl | exact Or.inr (Or.inl rfl) | exact Or.inr (Or.inr rfl)) (hd : (x == ("__debug__" : Str)) = false := by decide) (hcd : (x == ("__classdict__" : Str)) = false := by decide)
    (hbase : attributeBase (.Name x ps) name X.env (eval (.Name x ps) X.env) = eval (.Name x ps) X.env := by rfl)
    (hfew : ((backTo cpos (starEach (e :: es) X.env)).all (fun x => !x.1) && (backToKw cpos (keywordEach [] X.env)).all (fun x => x.1.isSome) && decide ((e :: es).length + ([] : List Keyword).length + (if ([] : List Keyword).isEmpty then 0 else 1) < 30)) = true := by rfl)
    (hline : (apos.endLine == cpos.line) = true := by rfl) (hs : starEach (e :: es) X.env = (false, eval e X.env) :: starEach es X.env := by rfl) (hplain : (backTo cpos (starEach es X.env)).any (·.1) = false := by rfl) :
    VE X G (.Call (.Attribute (.Name x ps) name apos) (e :: es) [] cpos) (vMW T p i fs) := pe_imp (pe_m pa slot hty hm (pe_var hN hv hd hcd) ha hbase hfew hline hs hplain) (by
  obtain ⟨Z, cl, H0, S0, W, fx, fv, tp⟩ := G
  cases hZ
  rintro σ H Q ⟨ρ, S, k⟩
  obtain ⟨s0, hs0, k0⟩ := k.get
  obtain ⟨v, hv, _⟩ := S.val i s0 hs0
  split at k0
  · rename_i hT
    refine ⟨v, hv, ⟨s0.d, S.get hv hs0, hT⟩, ρ, S, k0.bnd.mono fun xs ρ2 k2 vs H2 fz2 S2 s2 => ?_⟩
    obtain ⟨d, hd, k3⟩ := k2.getO
    obtain ⟨r, e, q⟩ := k3.bnd.lft
    obtain ⟨qa, hq, ow⟩ := S2.own hd
    rw [hv] at hq
    cases hq
    refine ⟨d, xs, r.1, r.2, ow, s2, e, fun w q' o eq fz3 ow' sw => ?_⟩
    cases eq
    exact q w _ (fz2.trans fz3) (S2.mutate hd hv ow.mut ow') sw
  · exact k0.elim)
theorem vs_exprE {f : M D} {pos : Pos} (h : VE X G e f) (hs : swapsWith e none pos.line X.env = pure false := by rfl) : VS X G rm (.Expr e pos) (vDrop f) := ps_imp (ps_expr h hs) fun D σ H ⟨ρ, S, k⟩ => ⟨ρ, S, k.bnd.mono fun d ρ1 k1 v H1 fz S1 _ => k1 σ H1 fz S1⟩
end
end Cv
end
section
/-! The V layer: methods by name; x[i] = e; what is walked; comprehensions. -/
namespace Cv
open PySem L2
open PySem.Spec PyProof.Rows
section
variable {X : Cx} {G : Gh} {rm : Bool}
def dAppend : D → List D → Option (D × D)
  | .list xs, [y] => if xs.length < sizeLine then some (.none, .list (xs ++ [y])) else none
  | _, _ => none
theorem sh_one {Z : Zx} {H : Hp} {xs : List V} {d : D} (h : ShAll Z H xs [d]) : ∃ v, xs = [v] ∧ Sh Z H v d := by
  cases h with
  | cons h1 h2 => cases h2; exact ⟨_, rfl, h1⟩
theorem m_append : MtR X "list.append" (rMW (zx X) dAppend) := by
  intro pins s σ H x xs v us Q I rx rs ⟨d, ds, r, d', ow, sh, e, q⟩
  unfold dAppend at e
  split at e
  · split at e
    · cases e
      obtain ⟨y, rfl, sy⟩ := sh_one sh
      cases ow with
      | lst ea sv =>
        rename_i a vs
        have fz := fz_mut (H := H) (o := .lst (vs ++ [y])) (by rw [ea]; trivial)
        exact mt_append pins s σ H _ _ v us Q I rx rs ⟨_, _, _, rfl, rfl, ea, by rw [sv.length]; assumption, q .non _ _ rfl fz (.lst upd_same ((sv.append (.cons sy .nil)).up fz)) .non⟩
    · cases e
  · cases e
def dExtend : D → List D → Option (D × D)
  | .list xs, [.list ys] => if xs.length + ys.length ≤ sizeLine then some (.none, .list (xs ++ ys)) else none
  | _, _ => none
theorem m_extend : MtR X "list.extend" (rMW (zx X) dExtend) := by
  intro pins s σ H x xs v us Q I rx rs ⟨d, ds, r, d', ow, sh, e, q⟩
  unfold dExtend at e
  split at e
  · split at e
    · rename_i hz
      cases e
      obtain ⟨y, rfl, sy⟩ := sh_one sh
      obtain ⟨b, ws, rfl, hb, sb⟩ := (Rp.sh sy).lst
      cases ow with
      | lst ea sv =>
        rename_i a vs
        cases rx
        obtain ⟨u, rfl, ru⟩ := vals1 rs
        cases ru
        rw [← sv.length, ← sb.length] at hz
        obtain ⟨_, its, n, rv, hl, e1⟩ := inv_lst I (.inl (.inl ea))
        obtain ⟨_, jts, m, rw', hm, e2⟩ := inv_lst I hb
        have fz := fz_mut (H := H) (o := .lst (vs ++ ws)) (by rw [ea]; trivial)
        have short : its.toArray.size + jts.toArray.size ≤ sizeLine := by simp only [List.size_toArray]; omega
        refine call_meets F.slot_list_extend ⟨_, e1, rfl⟩ F.entry_list_extend (F.args_list_extend_2 _ _) (AutoSeq1.list_extend_list_list_0 a its.toArray n b jts.toArray m (by rw [notLongL short, Bool.and_false]; decide) (by simp only [List.size_toArray]; omega) (by omega)) ⟨e1, e2, ?_⟩
        exact ⟨.non, _, I.lset (its' := its ++ jts) ea e1 (by simp) (rv.append rw') (by rw [List.length_append]; omega), rfl, q .non _ _ rfl fz (.lst upd_same ((sv.append sb).up fz)) .non⟩
    · cases e
  · cases e
def dPopAt : D → List D → Option (D × D)
  | .list xs, [.int i] => match ixN xs.length i with
    | some k => (xs[k]?).map fun y => (y, .list (xs.eraseIdx k))
    | none => none
  | _, _ => none
theorem m_popAt : MtR X "list.pop" (rMW (zx X) dPopAt) := by
  intro pins s σ H x xs v us Q I rx rs ⟨d, ds, r, d', ow, sh, e, q⟩
  unfold dPopAt at e
  split at e
  · rename_i i
    split at e
    · rename_i k hk
      obtain ⟨y, hy, e⟩ := Option.map_eq_some_iff.1 e
      cases e
      obtain ⟨w, rfl, sw⟩ := sh_one sh
      cases sw
      cases ow with
      | lst ea sv =>
        rename_i a vs
        obtain ⟨z, hz, sz⟩ := sv.get hy
        rw [← sv.length] at hk
        obtain ⟨h1, h2, h3, h4⟩ := ixN_seq hk
        have big := line63
        have hl := (I.lstM ea).1
        have fz := fz_mut (H := H) (o := .lst (vs.eraseIdx k)) (by rw [ea]; trivial)
        exact mt_popAt pins s σ H _ _ v us Q I rx rs ⟨_, _, _, _, _, rfl, rfl, ea, by omega, by omega, h1, hz, q z _ _ rfl fz (.lst upd_same ((sv.eraseIdx k).up fz)) (sz.up fz)⟩
    · cases e
  · cases e
def dRemove : D → List D → Option (D × D)
  | .list xs, [y] => if gd y && gdAll xs then (match SeqAt.dataPlace xs y with
    | some j => some (.none, .list (xs.eraseIdx j))
    | none => none) else none
  | _, _ => none
theorem m_remove (hu : X.A.units + 64 < cLine) : MtR X "list.remove" (rMW (zx X) dRemove) := by
  intro pins s σ H x xs v us Q I rx rs ⟨d, ds, r, d', ow, sh, e, q⟩
  unfold dRemove at e
  split at e
  · split at e
    · rename_i hg
      split at e
      · rename_i j hj
        cases e
        obtain ⟨y, rfl, sy⟩ := sh_one sh
        simp only [gd, gdAll, Bool.and_eq_true, decide_eq_true_eq] at hg
        cases ow with
        | lst ea sv =>
          rename_i a vs
          cases rx
          obtain ⟨u, rfl, ru⟩ := vals1 rs
          obtain ⟨z, its, n, rv, hl, e0⟩ := inv_lst I (.inl (.inl ea))
          obtain ⟨as, hr⟩ := Sh.readsAll I _ _ _ sv rv
          obtain ⟨bs, hx⟩ := Sh.reads I _ _ _ sy ru
          have fz := fz_mut (H := H) (o := .lst (vs.eraseIdx j)) (by rw [ea]; trivial)
          have short := List.length_eraseIdx_le vs j
          refine PySem.SeqAt.remove_list_data (vs := its.toArray) ⟨_, e0, rfl, n, rfl⟩ (by simpa using hr) hx hg.2.1 hg.1.1 (by omega) hj (by rw [List.size_toArray, ← hl]; exact z) ?_
          refine ⟨.non, _, I.lset (its' := its.eraseIdx j) ea e0 ?_ (rv.eraseIdx j) (by omega), rfl, q .non _ _ rfl fz (.lst upd_same ((sv.eraseIdx j).up fz)) .non⟩
          show its.toArray.eraseIdxIfInBounds j = (its.eraseIdx j).toArray
          rw [List.eraseIdxIfInBounds_toArray]
      · cases e
    · cases e
  · cases e
/-! ### x[i] = e -/
def putD (kvs : List (D × D)) (k : D) (n : NestedKey) (v : D) : List (D × D) := if (gN kvs n).isSome then kvs.map (fun p => if nk p.1 = some n then (p.1, v) else p) else kvs ++ [(k, v)]
def dSet : D → D → D → Option D
  | .list xs, .int i, v => (ixN xs.length i).map fun j => .list (xs.set j v)
  | .dict kvs, k, v => if kOk kvs k && decide (kvs.length < sizeLine) then (nk k).map fun n => .dict (putD kvs k n v) else none
  | _, _, _ => none
def rSet (Z : Zx) : V → V → V → Hp → (Hp → Prop) → Prop := fun o i v H Q => ∃ d di dv d', Ow Z H o d ∧ Rp Z H i di ∧ Sh Z H v dv ∧ dSet d di dv = some d' ∧ ∀ q u, o = .ref q → Fz H (upd H q u) → Ow Z (upd H q u) o d' → Q (upd H q u)
theorem putK_sh {Z : Zx} {H : Hp} {k : Key} {v : V} {d : D} (sv : Sh Z H v d) : ∀ {kvs : List (Key × V)} {ds : List (D × D)}, ShKv Z H kvs ds → ShKv Z H (putK kvs k v) (putD ds (keyD k) (keyN k) d) := by
  intro kvs ds h
  have l := gN_val k h
  have any : (kvs.any fun kv => decide (kv.1 = k)) = (gN ds (keyN k)).isSome := by
    rw [← l.same]
    clear l h
    induction kvs with
    | nil => rfl
    | cons p r ih =>
      obtain ⟨k', w⟩ := p
      by_cases e : k' = k
      · simp [valV, e]
      · simp only [List.any_cons, e, decide_false, Bool.false_or, ih]
        simp [valV, e]
  unfold putK putD
  rw [any]
  split
  · rename_i hh
    clear hh l any
    induction ds generalizing kvs with
    | nil => cases h; exact .nil
    | cons p ds ih =>
      cases h with
      | @cons k' w vs d' _ h1 h2 =>
        simp only [List.map_cons, nk_keyD, Option.some.injEq]
        by_cases e : k' = k
        · subst e
          rw [if_pos rfl, if_pos rfl]
          exact .cons sv (ih h2)
        · rw [if_neg e, if_neg (fun z => e (keyN_inj z))]
          exact .cons h1 (ih h2)
  · rename_i hh
    clear hh l any
    induction ds generalizing kvs with
    | nil => cases h; exact .cons sv .nil
    | cons p ds ih =>
      cases h with
      | cons h1 h2 => exact .cons h1 (ih h2)
/-- an entry more, or another value -/
def putN (kvs : List (NestedKey × Addr × V)) (k : NestedKey) (b : Addr) (v : V) : List (NestedKey × Addr × V) := if (kvs.any fun p => decide (p.1 = k)) then kvs.map (fun p => if p.1 = k then (p.1, p.2.1, v) else p) else kvs ++ [(k, b, v)]
theorem putN_sh {Z : Zx} {H : Hp} {k : NestedKey} {b : Addr} {v : V} {ks : List D} {d : D} (sb : Sh Z H (.ref b) (.tuple ks)) (hk : nk (.tuple ks) = some k) (hd : k.depth ≤ 8) (sv : Sh Z H v d) : ∀ {ds : List (D × D)} {kvs : List (NestedKey × Addr × V)}, ShN Z H kvs ds → ShN Z H (putN kvs k b v) (putD ds (.tuple ks) k d) := by
  intro ds kvs h
  have any : (kvs.any fun p => decide (p.1 = k)) = (gN ds k).isSome := by
    induction ds generalizing kvs with
    | nil => cases h; rfl
    | cons p ds ih =>
      cases h with
      | cons h1 h2 h3 h4 h5 =>
        rename_i k' _ _ _ _ _
        simp only [List.any_cons, gN, h2, Option.some.injEq]
        by_cases e : k' = k
        · simp [e]
        · simp only [e, decide_false, Bool.false_or, if_false]
          exact ih h5
  unfold putN putD
  rw [any]
  split
  · rename_i hh
    clear hh any
    induction ds generalizing kvs with
    | nil => cases h; exact .nil
    | cons p ds ih =>
      cases h with
      | cons h1 h2 h3 h4 h5 =>
        rename_i k' _ _ _ _ _ 
        simp only [List.map_cons, h2, Option.some.injEq]
        by_cases e : k' = k
        · rw [if_pos e, if_pos e]
          exact .cons h1 h2 h3 sv (ih h5)
        · rw [if_neg e, if_neg e]
          exact .cons h1 h2 h3 h4 (ih h5)
  · rename_i hh
    clear hh any
    induction ds generalizing kvs with
    | nil => cases h; exact .cons sb hk hd sv .nil
    | cons p ds ih =>
      cases h with
      | cons h1 h2 h3 h4 h5 => exact .cons h1 h2 h3 h4 (ih h5)
theorem putN_stored {k : NestedKey} {b : Addr} {v : V} {u : Value} (r : RelV v u) : ∀ {kvs : List (NestedKey × Addr × V)} {xs : List (NestedKey × Addr × Value)}, Paired RelN kvs xs → Paired RelN (putN kvs k b v) (storedH xs k b u) := by
  intro kvs xs h
  have any : (kvs.any fun p => decide (p.1 = k)) = (atKey xs k).isSome := by
    induction h with
    | nil => rfl
    | @cons p q ps qs h1 h2 ih =>
      obtain ⟨e1, _, _⟩ := h1
      simp only [List.any_cons, e1, atKey, List.find?_cons]
      by_cases e : q.1 = k
      · simp [e]
      · simp only [e, decide_false, Bool.false_or]
        rw [ih]
        rfl
  unfold putN storedH
  rw [any]
  split
  · rename_i hh
    clear hh any
    induction h with
    | nil => exact .nil
    | @cons p q ps qs h1 h2 ih =>
      obtain ⟨e1, e2, e3⟩ := h1
      refine .cons ?_ ih
      unfold putAt
      dsimp only
      rw [e1]
      by_cases e : q.1 = k
      · rw [if_pos e, if_pos e]; exact ⟨rfl, e2, r⟩
      · rw [if_neg e, if_neg e]; exact ⟨e1, e2, e3⟩
  · rename_i hh
    clear hh any
    induction h with
    | nil => exact .cons ⟨rfl, rfl, r⟩ .nil
    | cons h1 h2 ih => exact .cons h1 ih
theorem putN_length (kvs : List (NestedKey × Addr × V)) (k : NestedKey) (b : Addr) (v : V) : (putN kvs k b v).length ≤ kvs.length + 1 := by
  unfold putN
  split
  · simp
  · simp
theorem putD_ne (ds : List (D × D)) (k : D) (n : NestedKey) (d : D) : putD ds k n d ≠ [] := by
  unfold putD
  split
  · rename_i h
    cases ds with
    | nil => simp [gN] at h
    | cons _ _ => simp
  · simp
theorem s_set (hu : X.A.units + 64 < cLine) : PSet X (rSet (zx X)) := by
  intro pins s σ H o i v ov iv u Q I ro ri rv ⟨d, di, dv, d', ow, hi, sv, e, q⟩
  cases d with
  | list xs =>
    cases di with
    | int i =>
      obtain ⟨j, hj, rfl⟩ := Option.map_eq_some_iff.1 (show (ixN xs.length i).map _ = _ from e)
      cases hi.int
      cases ow with
      | lst ea sa =>
        rename_i a vs
        rw [← sa.length] at hj
        have fz := fz_mut (H := H) (o := .lst (vs.set j v)) (by rw [ea]; trivial)
        exact set_list pins s σ H _ _ v ov iv u Q I ro ri rv ⟨_, _, _, _, rfl, rfl, ea, hj, q _ _ rfl fz (.lst upd_same ((sa.set j sv).up fz))⟩
    | _ => cases e
  | dict kvs =>
    have e : (if kOk kvs di && decide (kvs.length < sizeLine) then (nk di).map fun n => PyData.dict (putD kvs di n dv) else none) = some d' := e
    split at e
    · rename_i hg
      obtain ⟨n, hn, rfl⟩ := Option.map_eq_some_iff.1 e
      simp only [Bool.and_eq_true, decide_eq_true_eq] at hg
      obtain ⟨ok, hz⟩ := hg
      have flat : ∀ k, keyOf di = some k → (kvs.all fun p => (keyOf p.1).isSome) = true → wpAny (model X.prog X.w) X.A (setItem ov iv u) (fun _ s' => ∃ H', Inv X pins σ H' s' ∧ Q H') X.xe s := by
        intro k ek hk
        obtain ⟨rfl, en⟩ := keyOf_kV hi ek
        rw [en] at hn
        cases hn
        have ed : di = keyD k := by
          cases di <;> simp [keyOf] at ek <;> subst ek <;> rfl
        subst ed
        cases ow with
        | dK ea sa =>
          rename_i a ws
          cases ro
          rw [← sa.length] at hz
          have fz := fz_mut (H := H) (o := .dK (putK ws k v)) (by rw [ea]; trivial)
          exact d_setItem (by omega) I (DPut.k ea hz) ri rv fun s' I' => ⟨_, I', q _ _ rfl fz (.dK upd_same ((putK_sh sv sa).up fz))⟩
        | dN ea sa ne =>
          cases sa with
          | nil => exact absurd rfl ne
          | cons _ _ _ _ _ => simp [keyOf] at hk
      cases di with
      | int _ => exact flat _ rfl ok
      | str _ => exact flat _ rfl ok
      | tuple ks =>
        simp only [kOk, Bool.and_eq_true] at ok
        obtain ⟨ok1, ok2⟩ := ok
        rw [hn] at ok1
        have hdp : n.depth ≤ 8 := of_decide_eq_true ok1
        obtain ⟨a, rfl⟩ := ow.ref
        obtain ⟨hs, ws, xs, sa, pr, hzx, dd, hrd⟩ := tupDict I (.ow ow) ok2
        obtain ⟨b, vs, rfl, ht, hv⟩ := hi.tup
        cases ro
        cases ri
        have hlw : ws.length = kvs.length := sa.length
        have hm : Mut (H a) := ow.mut
        have fz := fz_mut (H := H) (o := oN (zx X) a (putN ws n b v)) hm
        refine wpAny_setItem_heap (hsz := hzx) (knd := nestedKind X.prog X.w) (show X.A.in1.units + 8 < cLine by show X.A.units + 1 + 8 < cLine; omega) ⟨nest_is I _ _ _ _ (.tup ht hv) rfl hn, hdp⟩ dd fun h' dd' hs' => ?_
        obtain ⟨ob, es, ep, hq, h2, h3, h4, _, h5⟩ := dd'
        have hl := putN_length ws n b v
        refine ⟨_, d_write (ob := oN (zx X) a (putN ws n b v)) I hm hs' ⟨ob, hq⟩ ⟨⟨hs, by omega, _, putN_stored rv pr, ob, es, ep, hq, h2, h3, h4, h5⟩, ⟨ob, hq⟩, ?_⟩, q _ _ rfl fz (.dN upd_same ((putN_sh (.tup ht hv) hn hdp sv sa).up fz) (putD_ne _ _ _ _))⟩
        rintro g1 g2 ⟨c1, c2, ys, c3, ob', es', ep', c4, c5⟩ hk
        exact ⟨c1, c2, ys, c3, ob', es', ep', hk _ c4, c5⟩
      | none => cases ok
      | bool _ => cases ok
      | list _ => cases ok
      | dict _ => cases ok
    · cases e
  | _ => cases e
variable {a b e : Expr} {fa fb fe : M D} {pos : Pos}
/-- x[b] = e, x an own name -/
def vPut (i : Nat) (fb : M D) (fe : M D) : M Fl := bnd fe fun v => bnd (vGet i) fun _ => bnd fb fun k => bnd (getO i) fun d => bnd (lft (dSet d k v)) fun d' => bnd (putO i d') fun _ => ret .nx
theorem vs_put (i : Nat) {x : Str} {ps pos' : Pos} (hu : X.A.units + 64 < cLine) (he : VE X G e fe) (hb : VB X G b fb) (hZ : G.Z = zx X := by rfl) (hN : X.N[i]? = some x := by rfl) (hv : Vis X.env.scope x := by first | exact Or.inl rfl | exact Or.inr (Or.inl rfl) | exact Or.inr (Or.inr rfl))
    (hd : (x == ("__debug__" : Str)) = false := by decide) (hcd : (x == ("__classdict__" : Str)) = false := by decide) (ha : ∀ v, assign (.Subscript (.Name x ps) b pos') X.env v = (do
      let ov ← holding [v] (eval (.Name x ps) X.env)
      let iv ← holding [v, ov] (eval b X.env)
      standAt pos'
      holding [v, ov, iv] (setItem ov iv v)
      release [v, ov, iv] []) := by intro _; rfl)
    (hs : swapsWithSole [.Subscript (.Name x ps) b pos'] e pos.line X.env = pure false := by rfl) (hw : swappedStores [.Subscript (.Name x ps) b pos'] e X.env = pure none := by rfl) (h1 : (assignEach [.Subscript (.Name x ps) b pos'] X.env).map (·.2) = [assign (.Subscript (.Name x ps) b pos') X.env] := by rfl) :
    VS X G rm (.Assign [.Subscript (.Name x ps) b pos'] e pos) (vPut i fb fe) := ps_imp (ps_asg he (pg_sub (pe_var hN hv hd hcd) hb (s_set hu) ha) hs hw h1) (by
  obtain ⟨Z, cl, H0, S0, W, fx, fv, tp⟩ := G
  cases hZ
  rintro D σ H ⟨ρ, S, k⟩
  refine ⟨ρ, S, k.bnd.mono fun dv ρ1 k1 w H1 fz1 S1 sw => ?_⟩
  obtain ⟨s0, hs0, k2⟩ := k1.get
  obtain ⟨v, hv, _⟩ := S1.val i s0 hs0
  refine ⟨v, hv, ρ1, S1, k2.bnd.mono fun dk ρ2 k3 y H2 fz2 S2 ry => ?_⟩
  obtain ⟨d, hd, k4⟩ := k3.getO
  obtain ⟨d', e, q⟩ := k4.bnd.lft
  obtain ⟨qa, hq, ow⟩ := S2.own hd
  rw [hv] at hq
  cases hq
  refine ⟨d, dk, dv, d', ow, ry, sw.up fz2, e, fun q' o eq fz3 ow' => ?_⟩
  cases eq
  exact q σ _ (fz1.trans (fz2.trans fz3)) (S2.mutate hd hv ow.mut ow'))
end
end Cv
end
section
/-! The V layer: what is walked; comprehensions. -/
namespace Cv
open PySem L2
open PySem.Spec PyProof.Rows
section
variable {X : Cx} {G : Gh} {rm : Bool} {tg e : Expr} {fe : M D}
theorem fz_sq {Z : Zx} {H H' : Hp} {a : Addr} {vs : List V} (h : LstAt Z H a vs) (f : Fz H H') : SqL Z.K H' a vs := (h.keep f).r.sq
def vItL (f : M D) : M (List D) := bnd f fun x => match x with
  | .list ds => ret ds
  | _ => fun _ => none
def vItT (f : M D) : M (List D) := bnd f fun x => match x with
  | .tuple ds => ret ds
  | _ => fun _ => none
theorem vi_list (he : VE X G e fe) (hZ : G.Z = zx X := by rfl) : VI X G Sh tg e (vItL fe) := pi_imp (pi_list he) (by
  obtain ⟨Z, cl, H0, S0, W, fx, fv, tp⟩ := G
  cases hZ
  rintro σ H R ⟨ρ, S, k⟩
  refine ⟨ρ, S, k.bnd.mono fun x ρ1 k1 v H1 fz1 S1 s1 => ?_⟩
  cases x with
  | list ds =>
    cases s1 with
    | lst ea sv =>
      refine ⟨_, rfl, ⟨_, fz_sq ea (Fz.refl H1)⟩, k1 _ H1 fz1 S1 ⟨_, _, sv.length ▸ walk_list, fun H2 f => fz_sq ea f, fun i H2 x H3 hi f hy => ?_⟩⟩
      obtain ⟨rfl, hx⟩ := hy
      obtain ⟨d, hd, sd⟩ := (sv.up f).get' hx
      exact ⟨Same.refl _, d, hd, sd⟩
  | _ => exact k1.elim)
theorem vi_tup (he : VE X G e fe) (hZ : G.Z = zx X := by rfl) : VI X G Sh tg e (vItT fe) := pi_imp (pi_tup he) (by
  obtain ⟨Z, cl, H0, S0, W, fx, fv, tp⟩ := G
  cases hZ
  rintro σ H R ⟨ρ, S, k⟩
  refine ⟨ρ, S, k.bnd.mono fun x ρ1 k1 v H1 fz1 S1 s1 => ?_⟩
  cases x with
  | tuple ds =>
    cases s1 with
    | tup ea sv =>
      refine ⟨_, rfl, ⟨_, ea.sq⟩, k1 _ H1 fz1 S1 ⟨_, _, sv.length ▸ walk_tup, fun H2 f => (ea.keep f).sq, fun i H2 x H3 hi f hy => ?_⟩⟩
      obtain ⟨rfl, hx⟩ := hy
      obtain ⟨d, hd, sd⟩ := (sv.up f).get' hx
      exact ⟨Same.refl _, d, hd, sd⟩
  | _ => exact k1.elim)
/-- whole numbers in a row -/
def rngD (lo : Int) (n : Nat) : List D := (List.range n).map fun (k : Nat) => .int (lo + (k : Int))
theorem itv_range {Z : Zx} {H : Hp} {lo : Int} {n : Nat} : ItV Sh Z (Itr lo n) (rngD lo n) H := by
  have hl : (rngD lo n).length = n := by simp [rngD]
  refine ⟨_, _, by rw [hl]; exact walk_range, fun _ _ => trivial, fun i H2 x H3 hi _ hy => ?_⟩
  obtain ⟨rfl, rfl⟩ := hy
  rw [hl] at hi
  exact ⟨Same.refl _, .int (lo + i), by simp [rngD, hi], .int _⟩
def vRng1 (f : M D) : M (List D) := bnd f fun x => match x with
  | .int j => if -(2 ^ 62) ≤ j ∧ j < 2 ^ 62 then ret (rngD 0 j.toNat) else fun _ => none
  | _ => fun _ => none
def vRng2 (f g : M D) : M (List D) := bnd f fun x => bnd g fun y => match x, y with
  | .int i, .int j => if -(2 ^ 62) ≤ i ∧ i < 2 ^ 62 ∧ -(2 ^ 62) ≤ j ∧ j < 2 ^ 62 then ret (rngD i (j - i).toNat) else fun _ => none
  | _, _ => fun _ => none
variable {a b : Expr} {fa fb : M D} {p pos : Pos}
theorem vi_rng1 (hg : Gl X "range") (hm : X.mg "range" = none) (ha : VE X G a fa) (hs : starEach [a] X.env = [(false, eval a X.env)] := by rfl) : VI X G Sh tg (.Call (.Name "range" p) [a] [] pos) (vRng1 fa) := pi_imp (pi_range1 hg hm (pa_cons ha pa_nil hs) hs) (by
  rintro σ H R ⟨ρ, S, k⟩
  refine ⟨ρ, S, k.bnd.mono fun x ρ1 k1 v H1 fz1 S1 s1 => ?_⟩
  cases x with
  | int j =>
    cases s1
    simp only at k1
    split at k1
    · rename_i hj
      exact ⟨j, rfl, hj.1, hj.2, k1 _ H1 fz1 S1 itv_range⟩
    · exact k1.elim
  | _ => exact k1.elim)
theorem vi_rng2 (hg : Gl X "range") (hm : X.mg "range" = none) (ha : VE X G a fa) (hb : VE X G b fb) (hs : starEach [a, b] X.env = [(false, eval a X.env), (false, eval b X.env)] := by rfl) (hs2 : starEach [b] X.env = [(false, eval b X.env)] := by rfl) :
    VI X G Sh tg (.Call (.Name "range" p) [a, b] [] pos) (vRng2 fa fb) := pi_imp (pi_range2 hg hm (pa_cons ha (pa_cons hb pa_nil hs2) (by rw [hs, hs2])) hs hs2) (by
  rintro σ H R ⟨ρ, S, k⟩
  refine ⟨ρ, S, k.bnd.mono fun x ρ1 k1 v H1 fz1 S1 s1 => ⟨ρ1, S1, k1.bnd.mono fun y ρ2 k2 w H2 fz2 S2 s2 => ?_⟩⟩
  cases x with
  | int i =>
    cases y with
    | int j =>
      cases s1
      cases s2
      simp only at k2
      split at k2
      · rename_i hj
        exact ⟨i, j, rfl, hj, k2 _ H2 (fz1.trans fz2) S2 itv_range⟩
      · exact k2.elim
    | _ => exact k2.elim
  | _ => cases y <;> exact k2.elim)
/-! ### the keys of a dict -/
theorem frzN {pins : List (Addr × Obj)} {σ : L2.St} {H : Hp} {s : Shared} (I : Inv X pins σ H s) {d : Addr} {o : Obj} {kvs : List (NestedKey × Addr × V)} (h : H d = some (.frz o (oN (zx X) d kvs))) : (d == sysModules) = false ∧ s.heap.get? d = some o ∧ o.ExactDict ∧
    ∃ es ep, o.data = .dict es ep ∧ es.size = kvs.length ∧ ∀ (i : Nat) k b v, kvs[i]? = some (k, b, v) → ∃ en, es[i]? = some en ∧ en.key = .ref b := by
  obtain ⟨h1, _⟩ := I.hok d _ h
  obtain ⟨hs, _, xs, pr, o', es, ep, e, ex, hd, he, _⟩ := oN_ok I (.inr ⟨o, h⟩)
  rw [h1] at e
  cases e
  have l1 : es.toList.length = xs.length := by rw [he, List.length_map]
  have l2 : kvs.length = xs.length := Paired.length pr
  refine ⟨hs, h1, ex, es, ep, hd, by rw [Array.length_toList] at l1; omega, fun i k b v hk => ?_⟩
  obtain ⟨q, hq, e1, e2, _⟩ := paired_get pr hk
  have he' : es.toList[i]? = some (entryOfKey (nestedKind X.prog X.w) q) := by rw [he, List.getElem?_map, hq]; rfl
  rw [Array.getElem?_toList] at he'
  exact ⟨_, he', by show Value.ref q.2.1 = _; rw [← e2]⟩
def Itn (Z : Zx) (d : Addr) (o : Obj) (kvs : List (NestedKey × Addr × V)) : It :=
  ⟨fun i H => H d = some (.frz o (oN Z d kvs)) ∧ i < kvs.length, fun i H x H' => H' = H ∧ ∃ k b v, kvs[i]? = some (k, b, v) ∧ x = .ref b, fun i H => H d = some (.frz o (oN Z d kvs)) ∧ kvs.length ≤ i⟩
theorem turn_keysN {P : Program} {w : World} {K : PySem.W.Frag} {d : Addr} {o : Obj} {es : Array DictEntry} {ep : Nat} {kvs : List (NestedKey × Addr × V)} (it : Addr) (hod : o.data = .dict es ep) : Turn P w K tg (Itn ⟨P, w, K⟩ d o kvs) [it] it (fun i h => h.IsKeyIter it d i kvs.length ep) where
  mem := by simp
  obj := fun i h st b hb => by
    obtain rfl : b = it := by simpa using hb
    obtain ⟨oi, e, c, dd⟩ := st
    exact ⟨oi, e, fun v z => by rw [dd] at z; cases z⟩
  keep := fun i h h' st k => st.at fun oi e => k it (by simp) oi e
  item := by
    intro Y hP hw hK hc i pins s σ H E I hf st hg
    subst hP hw hK
    obtain ⟨hd, hi⟩ := hg
    obtain ⟨f0, f1, f2, f3, f4, f5⟩ := hf it (by simp)
    obtain ⟨_, hgd, hx, es', ep', hdt, hsz, ent⟩ := frzN I hd
    obtain ⟨rfl, rfl⟩ := dict_ep hod hdt
    obtain ⟨⟨k, b, v⟩, hkv⟩ : ∃ p, kvs[i]? = some p := ⟨kvs[i], List.getElem?_eq_getElem hi⟩
    obtain ⟨en, hen, hkey⟩ := ent i k b v hkv
    refine next_key_item st hgd hdt hsz hen fun h' st' sb => ?_
    have J : Inv Y pins σ H { s with heap := h' } := I.turned (t' := s.toks) (fun c ob hb q => (sb.2 c hb).trans q) f0 f1 f3 f4 f5
    obtain ⟨oi, q, c, dd⟩ := id st'
    exact ⟨en.key, rfl, go_of (s := { s with heap := h' }) q c dd (by decide) ⟨.ref b, H, J, hkey, ⟨rfl, k, b, v, hkv, rfl⟩, st', fun c hb => (hf c hb).1⟩⟩
  done := by
    intro Y hP hw hK hc i pins s σ H E I hf st hg
    subst hP hw hK
    obtain ⟨hd, hi⟩ := hg
    obtain ⟨f0, f1, f2, f3, f4, f5⟩ := hf it (by simp)
    obtain ⟨_, hgd, hx, es', ep', hdt, hsz, ent⟩ := frzN I hd
    obtain ⟨rfl, rfl⟩ := dict_ep hod hdt
    exact next_key_end (I.ok.hd hc) st hgd hdt hsz hi fun h' eb => ⟨rfl, I.turned (t' := s.toks) (fun c ob hb q => eb c ob hb q) f0 f1 f3 f4 f5⟩
  self := fun A i s Q E st h => wpAny_pyIter_keyiter st h
def iKeysN (Z : Zx) (td : TE) : TI := fun σ H R => td σ H fun x H1 => ∃ d o, x = .ref d ∧ ((∃ kvs, H1 d = some (.frz o (.dK kvs)) ∧ R (Itk d o kvs) H1) ∨ ∃ kvs, H1 d = some (.frz o (oN Z d kvs)) ∧ R (Itn Z d o kvs) H1)
theorem pi_keysN {td : TE} (he : PE X e td) : PI X tg e (iKeysN (zx X) td) := by
  refine ⟨fun pins s σ H R I h => thn (he.run pins s σ H _ I h) fun u s1 ⟨x, H1, I1, rx, d, o, ex, q⟩ => ?_⟩
  subst ex
  obtain rfl : u = Value.ref d := rx
  rcases q with ⟨kvs, hd, q⟩ | ⟨kvs, hd, q⟩
  · obtain ⟨hs, hgd, hx, es, ep, vs, hdt, hsz, kv, hm⟩ := I1.frzK hd
    exact iter_keys hs hgd hx hdt (pi_one (tk := s1.toks) I1 _ (turn_keys _ hdt) ⟨_, Heap.get?_push_size _ rfl, rfl, by rw [hsz] <;> rfl⟩ q)
  · obtain ⟨hs, hgd, hx, es, ep, hdt, hsz, ent⟩ := frzN I1 hd
    exact iter_keys hs hgd hx hdt (pi_one (tk := s1.toks) I1 _ (turn_keysN _ hdt) ⟨_, Heap.get?_push_size _ rfl, rfl, by rw [hsz] <;> rfl⟩ q)
def vItK (f : M D) : M (List D) := bnd f fun x => match x with
  | .dict ds => ret (ds.map (·.1))
  | _ => fun _ => none
theorem ShKv.get {Z : Zx} {H : Hp} : ∀ {ds : List (D × D)} {kvs : List (Key × V)} {i : Nat} {k : Key} {v : V}, ShKv Z H kvs ds → kvs[i]? = some (k, v) → ∃ d, ds[i]? = some (keyD k, d)
  | [], _, i, k, v, h, e => by cases h; simp at e
  | _ :: _, _, 0, k, v, h, e => by
    cases h with
    | cons h1 h2 => simp at e; obtain ⟨rfl, rfl⟩ := e; exact ⟨_, rfl⟩
  | _ :: _, _, i + 1, k, v, h, e => by
    cases h with
    | cons h1 h2 => simp at e; simpa using h2.get e
theorem ShN.get {Z : Zx} {H : Hp} : ∀ {ds : List (D × D)} {kvs : List (NestedKey × Addr × V)} {i : Nat} {k : NestedKey} {b : Addr} {v : V}, ShN Z H kvs ds → kvs[i]? = some (k, b, v) → ∃ ks d, ds[i]? = some (.tuple ks, d) ∧ Sh Z H (.ref b) (.tuple ks)
  | [], _, i, k, b, v, h, e => by cases h; simp at e
  | _ :: _, _, 0, k, b, v, h, e => by
    cases h with
    | cons h1 h2 h3 h4 h5 => simp at e; obtain ⟨rfl, rfl, rfl⟩ := e; exact ⟨_, _, rfl, h1⟩
  | _ :: _, _, i + 1, k, b, v, h, e => by
    cases h with
    | cons h1 h2 h3 h4 h5 => simp at e; simpa using h5.get e
theorem sh_keyD {Z : Zx} {H : Hp} (k : Key) : Sh Z H (kV k) (keyD k) := by
  cases k
  · exact .int _
  · exact .str _
theorem vi_keys (he : VE X G e fe) (hZ : G.Z = zx X := by rfl) : VI X G Sh tg e (vItK fe) := pi_imp (pi_keysN he) (by
  obtain ⟨Z, cl, H0, S0, W, fx, fv, tp⟩ := G
  cases hZ
  rintro σ H R ⟨ρ, S, k⟩
  refine ⟨ρ, S, k.bnd.mono fun x ρ1 k1 v H1 fz1 S1 s1 => ?_⟩
  cases x with
  | dict ds =>
    cases s1 with
    | dK ea sv =>
      rename_i a o kvs
      have hl : (ds.map (·.1)).length = kvs.length := by rw [List.length_map, sv.length]
      refine ⟨_, _, rfl, .inl ⟨_, ea, k1 _ H1 fz1 S1 ⟨_, _, hl.symm ▸ walk_keys, fun H2 f => f _ _ _ ea, fun i H2 x H3 hi f hy => ?_⟩⟩⟩
      obtain ⟨rfl, k, w, hk, rfl⟩ := hy
      obtain ⟨d, hd⟩ := sv.get hk
      exact ⟨Same.refl _, keyD k, by rw [List.getElem?_map, hd]; rfl, sh_keyD k⟩
    | dN ea sv hne =>
      rename_i a o kvs
      have hl : (ds.map (·.1)).length = kvs.length := by rw [List.length_map, sv.length]
      refine ⟨_, _, rfl, .inr ⟨_, ea, k1 _ H1 fz1 S1 ⟨fun H2 => H2 a = some (.frz o (oN (zx X) a kvs)), fun i H x H' => H' = H ∧ ∃ k b v, kvs[i]? = some (k, b, v) ∧ x = .ref b, hl.symm ▸ ⟨fun i H hi h => ⟨h, hi⟩, fun H h => ⟨h, Nat.le_refl _⟩, fun i H x H' _ _ y => y⟩, fun H2 f => f _ _ _ ea, fun i H2 x H3 hi f hy => ?_⟩⟩⟩
      obtain ⟨rfl, k, b, w, hk, rfl⟩ := hy
      obtain ⟨ks, d, hd, sb⟩ := (sv.up f).get hk
      exact ⟨Same.refl _, .tuple ks, by rw [List.getElem?_map, hd]; rfl, sb⟩
  | _ => exact k1.elim)
/-! ### enumerate, zip: pairs -/
def enumD (ds : List D) : List D := List.zipWith (fun (i : Nat) d => .tuple [.int i, d]) (List.range ds.length) ds
def vEnum (f : M D) : M (List D) := bnd f fun x => match x with
  | .list ds => ret (enumD ds)
  | _ => fun _ => none
theorem vi_enum {elts : List Expr} {kk : Nat} {tpos : Pos} (hg : Gl X "enumerate") (hm : X.mg "enumerate" = none) (ha : VE X G a fa) (hZ : G.Z = zx X := by rfl) (hs : starEach [a] X.env = [(false, eval a X.env)] := by rfl) : VI X G Up (.Tuple elts kk tpos) (.Call (.Name "enumerate" p) [a] [] pos) (vEnum fa) := pi_imp (pi_enum hg hm (pa_cons ha pa_nil hs) hs) (by
  obtain ⟨Z, cl, H0, S0, W, fx, fv, tp⟩ := G
  cases hZ
  rintro σ H R ⟨ρ, S, k⟩
  refine ⟨ρ, S, k.bnd.mono fun x ρ1 k1 v H1 fz1 S1 s1 => ?_⟩
  cases x with
  | list ds =>
    cases s1 with
    | lst ea sv =>
      rename_i a vs
      have hl : (enumD ds).length = vs.length := by simp [enumD, sv.length]
      refine ⟨_, _, rfl, fz_sq ea (Fz.refl H1), k1 _ H1 fz1 S1 ⟨_, _, hl.symm ▸ walk_enum, fun H2 f => fz_sq ea f, fun i H2 x H3 hi f hy => ?_⟩⟩
      obtain ⟨T, x, y, rfl, hT, rfl, hx, hy⟩ := hy
      cases hx
      obtain ⟨d, hd, sd⟩ := (sv.up f).get' hy
      have sm := sm_upd (o := .tup [.int (i : Nat), y]) hT
      have hi' : i < ds.length := (List.getElem?_eq_some_iff.mp hd).1
      refine ⟨sm, .tuple [.int i, d], ?_, .tp upd_same (.cons (.int _) (.cons (sd.up (Same.fz sm)) .nil))⟩
      simp only [enumD, List.getElem?_zipWith, hd, List.getElem?_range hi']
  | _ => exact k1.elim)
def zipD (xs ys : List D) : List D := List.zipWith (fun d e => .tuple [d, e]) xs ys
def vZip (f g : M D) : M (List D) := bnd f fun x => bnd g fun y => match x, y with
  | .list ds, .list es => ret (zipD ds es)
  | .tuple ds, .tuple es => ret (zipD ds es)
  | _, _ => fun _ => none
theorem itv_pair {Z : Zx} {J : It} {H1 : Hp} {xs ys : List V} {ds es : List D} {n : Nat} {Gd : Hp → Prop} (hn : n = min xs.length ys.length) (w : Walk J n Gd (YPair (fun i => xs[i]?) (fun i => ys[i]?))) (hG : ∀ H2, Fz H1 H2 → Gd H2) (sx : ShAll Z H1 xs ds) (sy : ShAll Z H1 ys es) : ItV Up Z J (zipD ds es) H1 := by
  have hl : (zipD ds es).length = n := by simp [zipD, hn, sx.length, sy.length]
  refine ⟨Gd, _, hl.symm ▸ w, hG, fun i H2 x H3 hi f hy => ?_⟩
  obtain ⟨T, x, y, rfl, hT, rfl, hx, hy⟩ := hy
  obtain ⟨d, hd, sd⟩ := (sx.up f).get' hx
  obtain ⟨e, he, se⟩ := (sy.up f).get' hy
  have sm := sm_upd (o := .tup [x, y]) hT
  refine ⟨sm, .tuple [d, e], ?_, .tp upd_same (.cons (sd.up (Same.fz sm)) (.cons (se.up (Same.fz sm)) .nil))⟩
  simp [zipD, List.getElem?_zipWith, hd, he]
theorem vi_zip {elts : List Expr} {kk : Nat} {tpos : Pos} (hg : Gl X "zip") (hm : X.mg "zip" = none) (ha : VE X G a fa) (hb : VE X G b fb) (hZ : G.Z = zx X := by rfl) (hs : starEach [a, b] X.env = (false, eval a X.env) :: starEach [b] X.env := by rfl) (hs2 : starEach [b] X.env = (false, eval b X.env) :: starEach [] X.env := by rfl) (hpl : (backTo pos (starEach [b] X.env)).any (·.1) = false := by rfl) :
    VI X G Up (.Tuple elts kk tpos) (.Call (.Name "zip" p) [a, b] [] pos) (vZip fa fb) := pi_imp (RZ.pi_zipA hg hm (pa_cons ha (pa_cons hb pa_nil hs2) hs) hs hpl) (by
  obtain ⟨Z, cl, H0, S0, W, fx, fv, tp⟩ := G
  cases hZ
  rintro σ H R ⟨ρ, S, k⟩
  refine ⟨ρ, S, k.bnd.mono fun x ρ1 k1 v H1 fz1 S1 s1 => ⟨ρ1, S1, k1.bnd.mono fun y ρ2 k2 w H2 fz2 S2 s2 => ?_⟩⟩
  cases x with
  | list ds =>
    cases y with
    | list es =>
      have s1 := s1.up fz2
      cases s1 with
      | lst ea sv =>
        cases s2 with
        | lst eb sw =>
          exact ⟨_, _, _, _, rfl, .inl ⟨fz_sq ea (Fz.refl H2), fz_sq eb (Fz.refl H2), k2 _ H2 (fz1.trans fz2) S2 (itv_pair rfl (walk_zip rfl) (fun H3 f => ⟨fz_sq ea f, fz_sq eb f⟩) sv sw)⟩⟩
    | _ => exact k2.elim
  | tuple ds =>
    cases y with
    | tuple es =>
      have s1 := s1.up fz2
      cases s1 with
      | tup ea sv =>
        cases s2 with
        | tup eb sw =>
          exact ⟨_, _, _, _, rfl, .inr ⟨ea.sq, eb.sq, k2 _ H2 (fz1.trans fz2) S2 (itv_pair rfl (walk_zipT rfl) (fun H3 f => ⟨(ea.keep f).sq, (eb.keep f).sq⟩) sv sw)⟩⟩
    | _ => exact k2.elim
  | _ => cases y <;> exact k2.elim)
/-! ### comprehensions -/
def wipeE (ρ : Ev) : List Nat → Ev
  | [] => ρ
  | v :: vs => (wipeE ρ vs).set v none
def backE (ρ0 : Ev) (ρ : Ev) : List Nat → Ev
  | [] => ρ
  | v :: vs => (backE ρ0 ρ vs).set v (ρ0[v]?.join)
def noOwn (ρ : Ev) (vs : List Nat) : Bool := vs.all fun i => match ρ[i]? with
  | some (some s) => !s.o
  | _ => true
def lcL (vs : List Nat) (g : D → M Unit) (t : M Bool) (f : M D) : List D → List D → M (List D)
  | [], acc => ret acc
  | x :: r, acc => fun ρ => bnd (g x) (fun _ => bnd t fun b => if b then bnd f fun y => if acc.length < sizeLine then lcL vs g t f r (acc ++ [y]) else fun _ => none else lcL vs g t f r acc) (wipeE ρ vs)
def vLc (it : M (List D)) (vs : List Nat) (g : D → M Unit) (t : M Bool) (f : M D) : M D := bnd it fun xs => fun ρ => if noOwn ρ vs then (match lcL vs g t f xs [] ρ with
  | some (.ok acc ρ') => some (.ok (.list acc) (backE ρ ρ' vs))
  | _ => none) else none
def Gh.inn (G : Gh) (tp : List (Addr × HO)) : Gh := { G with tp := tp, W := fun _ _ _ => False }
theorem wipe_get {σ : L2.St} {j : Nat} : ∀ vs : List Nat, (wipe σ vs)[j]? = if j ∈ vs then (if j < σ.length then some none else none) else σ[j]?
  | [] => by simp [wipe]
  | v :: vs => by
    have hl := wipe_length σ vs
    simp only [wipe, List.mem_cons]
    by_cases e : j = v
    · subst e
      simp only [true_or, if_true]
      by_cases h : j < σ.length
      · rw [List.getElem?_set_self (by omega), if_pos h]
      · rw [if_neg h, List.getElem?_eq_none (by simp; omega)]
    · rw [List.getElem?_set_ne (Ne.symm e), wipe_get vs]
      simp [e]
theorem wipeE_length (ρ : Ev) : ∀ vs : List Nat, (wipeE ρ vs).length = ρ.length
  | [] => rfl
  | v :: vs => by simp [wipeE, wipeE_length ρ vs]
theorem wipeE_get {ρ : Ev} {j : Nat} : ∀ vs : List Nat, (wipeE ρ vs)[j]? = if j ∈ vs then (if j < ρ.length then some none else none) else ρ[j]?
  | [] => by simp [wipeE]
  | v :: vs => by
    have hl := wipeE_length ρ vs
    simp only [wipeE, List.mem_cons]
    by_cases e : j = v
    · subst e
      simp only [true_or, if_true]
      by_cases h : j < ρ.length
      · rw [List.getElem?_set_self (by omega), if_pos h]
      · rw [if_neg h, List.getElem?_eq_none (by simp; omega)]
    · rw [List.getElem?_set_ne (Ne.symm e), wipeE_get vs]
      simp [e]
theorem backE_length (ρ0 ρ : Ev) : ∀ vs : List Nat, (backE ρ0 ρ vs).length = ρ.length
  | [] => rfl
  | v :: vs => by simp [backE, backE_length ρ0 ρ vs]
theorem backE_get {ρ0 ρ : Ev} {j : Nat} : ∀ vs : List Nat, (backE ρ0 ρ vs)[j]? = if j ∈ vs then (if j < ρ.length then some (ρ0[j]?.join) else none) else ρ[j]?
  | [] => by simp [backE]
  | v :: vs => by
    have hl := backE_length ρ0 ρ vs
    simp only [backE, List.mem_cons]
    by_cases e : j = v
    · subst e
      simp only [true_or, if_true]
      by_cases h : j < ρ.length
      · rw [List.getElem?_set_self (by omega), if_pos h]
      · rw [if_neg h, List.getElem?_eq_none (by simp; omega)]
    · rw [List.getElem?_set_ne (Ne.symm e), backE_get vs]
      simp [e]
theorem wipe_only {vs : List Nat} {σ σ' : L2.St} (h : SetOnly vs σ σ') : wipe σ' vs = wipe σ vs := by
  apply List.ext_getElem?
  intro j
  rw [wipe_get, wipe_get, h.1]
  split
  · rfl
  · exact h.2 j (by assumption)
theorem wipe_wipe {vs : List Nat} {σ : L2.St} : wipe (wipe σ vs) vs = wipe σ vs := by
  apply List.ext_getElem?
  intro j
  rw [wipe_get, wipe_get, wipe_length]
  split <;> rfl
theorem Stt.wipe {H : Hp} {σ : L2.St} {ρ : Ev} (vs : List Nat) (hf : ∀ i ∈ vs, i ∉ G.fx) (S : Stt G H σ ρ) : Stt G H (L2.wipe σ vs) (wipeE ρ vs) := by
  have aux : ∀ (j : Nat) (s : Sl), (wipeE ρ vs)[j]? = some (some s) → ρ[j]? = some (some s) ∧ (L2.wipe σ vs)[j]? = σ[j]? := fun j s h => by
    rw [wipeE_get] at h
    split at h
    · split at h <;> cases h
    · exact ⟨h, by rw [wipe_get, if_neg (by assumption)]⟩
  refine ⟨by rw [wipeE_length, wipe_length]; exact S.len, fun j s h => ?_, fun j k s t q h1 h2 h3 h4 h5 h6 => ?_, S.mv, fun j hj => ?_, fun q hq => ⟨(S.tmp q hq).1, (S.tmp q hq).2.1, fun j s h ho => ?_⟩⟩
  · obtain ⟨a, b⟩ := aux j s h
    rw [b]; exact S.val j s a
  · obtain ⟨a1, b1⟩ := aux j s h1
    obtain ⟨a2, b2⟩ := aux k t h2
    rw [b1] at h5
    rw [b2] at h6
    exact S.dis j k s t q a1 a2 h3 h4 h5 h6
  · rw [wipe_get, if_neg (fun z => hf j z hj)]; exact S.fix j hj
  · obtain ⟨a, b⟩ := aux j s h
    rw [b]; exact (S.tmp q hq).2.2 j s a ho
theorem Stt.inn {H : Hp} {σ : L2.St} {ρ : Ev} {A : Addr} {av : List V} (S : Stt G H σ ρ) (hA : H A = none) : Stt (G.inn ((A, .lst av) :: G.tp)) (upd H A (.lst av)) σ ρ := by
  have sm := sm_upd (o := .lst av) hA
  have S1 := S.same sm
  have fr := S.none_new hA
  refine ⟨S1.len, S1.val, S1.dis, S1.mv, S1.fix, fun q hq => ?_⟩
  rcases List.mem_cons.1 hq with rfl | hq
  · exact ⟨upd_same, ⟨trivial, fr.1, nt_lst⟩, fr.2.1⟩
  · exact S1.tmp q hq
theorem Stt.inn2 {H : Hp} {σ : L2.St} {ρ : Ev} {A : Addr} {av aw : List V} {tp : List (Addr × HO)} (S : Stt (G.inn ((A, .lst av) :: tp)) H σ ρ) (hn : ∀ q ∈ tp, q.1 ≠ A) : Stt (G.inn ((A, .lst aw) :: tp)) (upd H A (.lst aw)) σ ρ := by
  obtain ⟨h1, h2, h3⟩ := S.tmp (A, .lst av) (by simp [Gh.inn])
  have m : Mut (H A) := by rw [h1]; trivial
  have fz := fz_mut (o := .lst aw) m
  refine ⟨S.len, fun j s h => ?_, S.dis, S.mv.upd (.inl h2.2.1) (fun o u z => by rw [z] at m; exact m) (by rw [h1]; exact nt_lst) (fun _ z => nomatch z), S.fix, fun q hq => ?_⟩
  · obtain ⟨v, a, b⟩ := S.val j s h
    refine ⟨v, a, b.keep fz fun p hp ho => upd_ne fun z => ?_⟩
    subst z hp
    exact h3 j s h ho a
  · rcases List.mem_cons.1 hq with rfl | hq
    · exact ⟨upd_same, ⟨trivial, h2.2.1, nt_lst⟩, h3⟩
    · obtain ⟨c1, c2⟩ := S.tmp q (List.mem_cons_of_mem _ hq)
      exact ⟨by rw [upd_ne (hn q hq)]; exact c1, c2⟩
theorem Stt.out {H1 H : Hp} {σ : L2.St} {ρ0 ρ : Ev} {A : Addr} {av : List V} {vs : List Nat} (S0 : Stt G H1 σ ρ0) (no : noOwn ρ0 vs = true) (fz : Fz H1 H) (S : Stt (G.inn ((A, .lst av) :: G.tp)) H (L2.wipe σ vs) (wipeE ρ vs)) : Stt G H σ (backE ρ0 ρ vs) ∧ ∀ (j : Nat) s, (backE ρ0 ρ vs)[j]? = some (some s) → s.o = true → σ[j]? ≠ some (some (.ref A)) := by
  have hl : ρ.length = σ.length := by
    have := S.len
    rwa [wipeE_length, wipe_length] at this
  have aux : ∀ (j : Nat) (s : Sl), (backE ρ0 ρ vs)[j]? = some (some s) → (j ∈ vs ∧ ρ0[j]? = some (some s) ∧ s.o = false) ∨ (j ∉ vs ∧ (wipeE ρ vs)[j]? = some (some s) ∧ (L2.wipe σ vs)[j]? = σ[j]?) := fun j s h => by
    rw [backE_get] at h
    split at h
    · rename_i hj
      split at h
      · have h' : ρ0[j]?.join = some s := Option.some.inj h
        have h2 : ρ0[j]? = some (some s) := Option.join_eq_some_iff.1 h'
        refine .inl ⟨hj, h2, ?_⟩
        have := List.all_eq_true.1 no j hj
        rw [h2] at this
        simpa using this
      · cases h
    · rename_i hj
      exact .inr ⟨hj, by rw [wipeE_get, if_neg hj]; exact h, by rw [wipe_get, if_neg hj]⟩
  have auxO : ∀ (j : Nat) (s : Sl), (backE ρ0 ρ vs)[j]? = some (some s) → s.o = true → (wipeE ρ vs)[j]? = some (some s) ∧ (L2.wipe σ vs)[j]? = σ[j]? := fun j s h ho => by
    rcases aux j s h with ⟨_, _, z⟩ | ⟨_, a, b⟩
    · rw [ho] at z; cases z
    · exact ⟨a, b⟩
  refine ⟨⟨by rw [backE_length]; exact hl, fun j s h => ?_, fun j k s t q h1 h2 h3 h4 h5 h6 => ?_, S.mv, S0.fix, fun q hq => ?_⟩, fun j s h ho => by
    obtain ⟨a, b⟩ := auxO j s h ho
    rw [← b]
    exact (S.tmp (A, .lst av) (by simp [Gh.inn])).2.2 j s a ho⟩
  · rcases aux j s h with ⟨_, a, z⟩ | ⟨_, a, b⟩
    · obtain ⟨v, c1, c2⟩ := S0.val j s a
      refine ⟨v, c1, c2.keep fz fun p _ ho => ?_⟩
      rw [z] at ho; cases ho
    · rw [← b]; exact S.val j s a
  · obtain ⟨a1, b1⟩ := auxO j s h1 h3
    obtain ⟨a2, b2⟩ := auxO k t h2 h4
    rw [← b1] at h5
    rw [← b2] at h6
    exact S.dis j k s t q a1 a2 h3 h4 h5 h6
  · obtain ⟨c1, c2, c3⟩ := S.tmp q (List.mem_cons_of_mem _ hq)
    refine ⟨c1, c2, fun j s h ho => ?_⟩
    obtain ⟨a, b⟩ := auxO j s h ho
    rw [← b]; exact c3 j s a ho
theorem bnd_ok {α β : Type} {m : M α} {k : α → M β} {ρ ρ' : Ev} {a : β} (h : bnd m k ρ = some (.ok a ρ')) : ∃ b ρ1, m ρ = some (.ok b ρ1) ∧ k b ρ1 = some (.ok a ρ') := by
  unfold bnd at h
  cases e : m ρ with
  | none => rw [e] at h; cases h
  | some x =>
    rw [e] at h
    cases x with
    | ok b ρ1 => exact ⟨b, ρ1, rfl, h⟩
    | ex _ => cases h
theorem Kont.ofEq {α : Type} {r : Option (R α)} {a : α} {ρ : Ev} (h : r = some (.ok a ρ)) : Kont G r fun b ρ' => b = a ∧ ρ' = ρ := by
  rw [h]; exact ⟨rfl, rfl⟩
def exE {α : Type} (t : List (Addr × HO) → α → Prop) (a : α) : Prop := ∃ tp, t tp a
def tLE (G : Gh) (f : M D) : TE := fun σ H Q => ∃ tp, tvE (G.inn tp) f σ H Q
def tLT (G : Gh) (f : M Bool) : TT := fun σ H Q => ∃ tp, tvT (G.inn tp) f σ H Q
def tLG (G : Gh) (rel : Zx → Hp → V → D → Prop) (vs : List Nat) (g : D → M Unit) : TG := fun v σ H Q => ∃ tp, tvG (G.inn tp) rel vs g v σ H Q
theorem lc_v {rel : Zx → Hp → V → D → Prop} {it : M (List D)} {vs : List Nat} {g : D → M Unit} {t : M Bool} {f : M D} (hf : ∀ i ∈ vs, i ∉ G.fx) : ∀ σ H Q, tvO G (vLc it vs g t f) σ H Q → tLc (tvI G rel it) (tLG G rel vs g) (tLT G t) (tLE G f) vs σ H Q := by
  rintro σ H Q ⟨ρ, S, k⟩
  refine ⟨ρ, S, k.bnd.mono fun ds ρ1 k1 J H1 fz1 S1 ⟨Gd, Y, w, hG, hY⟩ => ?_⟩
  split at k1
  · rename_i no
    cases hL : lcL vs g t f ds [] ρ1 with
    | none => rw [hL] at k1; exact k1.elim
    | some r =>
      cases r with
      | ex _ => rw [hL] at k1; exact k1.elim
      | ok accF ρF =>
        rw [hL] at k1
        intro A hA
        have sm0 := sm_upd (o := .lst []) hA
        have hnA : ∀ q ∈ G.tp, q.1 ≠ A := (S1.none_new hA).2.2
        refine lc_it w (fun i H' => ∃ ρ' acc av, Stt (G.inn ((A, .lst av) :: G.tp)) H' (wipe σ vs) (wipeE ρ' vs) ∧ Fz H1 H' ∧ ShAll G.Z H' av acc ∧ lcL vs g t f (ds.drop i) acc ρ' = some (.ok accF ρF)) ⟨ρ1, [], [], (S1.inn hA).wipe vs hf, Same.fz sm0, .nil, by simpa using hL⟩ (fun i H' _ ⟨_, _, _, _, f, _⟩ => hG H' f) ?_ ?_
        · rintro i x H2 H3 hi ⟨ρ2, acc, av, S2, f2, sa, e2⟩ hy
          obtain ⟨sm, d, hd, rl⟩ := hY i H2 x H3 hi f2 hy
          rw [List.drop_eq_getElem_cons hi] at e2
          have ed : ds[i] = d := by
            rw [List.getElem?_eq_getElem hi] at hd
            exact Option.some.inj hd
          rw [ed] at e2
          obtain ⟨u3, ρ3, g3, e3⟩ := bnd_ok (show bnd (g d) _ (wipeE ρ2 vs) = _ from e2)
          obtain ⟨b, ρ4, g4, e4⟩ := bnd_ok e3
          have f3 : Fz H1 H3 := f2.trans (Same.fz sm)
          refine ⟨_, wipeE ρ2 vs, d, S2.same sm, rl, (Kont.ofEq g3).mono fun _ ρ3' ⟨_, eq3⟩ σ3 so S3 => ⟨by rw [wipe_only so, wipe_wipe], _, ρ3, eq3 ▸ S3, (Kont.ofEq g4).mono fun b' ρ4' ⟨eb, eq4⟩ H4 fz4 S4 => ?_⟩⟩
          subst eb eq4
          have ws : wipe σ3 vs = wipe σ vs := by rw [wipe_only so, wipe_wipe]
          have f4 : Fz H1 H4 := f3.trans fz4
          cases b' with
          | true =>
            rw [if_pos rfl]
            obtain ⟨y, ρ5, g5, e5⟩ := bnd_ok (show bnd f _ ρ4' = _ from e4)
            refine ⟨_, ρ4', S4, (Kont.ofEq g5).mono fun y' ρ5' ⟨ey, eq5⟩ v H5 fz5 S5 sy => ?_⟩
            subst ey eq5
            split at e5
            · rename_i hz
              obtain ⟨c1, _, _⟩ := S5.tmp (A, .lst av) (by simp [Gh.inn])
              have sa5 := sa.up ((Same.fz sm).trans (fz4.trans fz5))
              have m : Mut (H5 A) := by rw [c1]; trivial
              have fzm := fz_mut (o := .lst (av ++ [v])) m
              refine ⟨av, c1, by rw [sa.length]; exact hz, ρ5', acc ++ [y'], av ++ [v], ?_, f4.trans (fz5.trans fzm), (sa5.append (.cons sy .nil)).up fzm, e5⟩
              have := Stt.wipe (G := G.inn ((A, .lst (av ++ [v])) :: G.tp)) vs hf (S5.inn2 (aw := av ++ [v]) hnA)
              rwa [ws] at this
            · cases e5
          | false =>
            rw [if_neg (by decide)]
            refine ⟨ρ4', acc, av, ?_, f4, sa.up ((Same.fz sm).trans fz4), e4⟩
            have := Stt.wipe (G := G.inn ((A, .lst av) :: G.tp)) vs hf S4
            rwa [ws] at this
        · rintro H2 ⟨ρ2, acc, av, S2, f2, sa, e2⟩
          rw [List.drop_length] at e2
          cases e2
          obtain ⟨c1, c2, c3⟩ := S2.tmp (A, .lst av) (by simp [Gh.inn])
          obtain ⟨So, Sf⟩ := Stt.out S1 no f2 S2
          exact k1 _ H2 (fz1.trans f2) So (show ∃ p, _ from ⟨A, rfl, .lst c1 sa, c2.2.1, Sf, hnA⟩)
  · exact k1.elim
/-- the conditions of a comprehension -/
def vYes : M Bool := ret true
theorem vts_nil {tp : List (Addr × HO)} : PTs X [] (tvT (G.inn tp) vYes) := ⟨fun pins s σ H Q I ⟨ρ, S, k⟩ => pts_nil.run pins s σ H Q I (k H (Fz.refl H) S)⟩
theorem vts_one {c : Expr} {t : M Bool} {tp : List (Addr × HO)} (h : VT X (G.inn tp) c t) : PTs X [c] (tvT (G.inn tp) t) := pts_one h
theorem vo_lc {rel : Zx → Hp → V → D → Prop} {elt iter : Expr} {ifs : List Expr} {scope : Scope} {own : List (Str × Nat)} {it : M (List D)} {g : D → M Unit} {t : M Bool} {f : M D} (hc : X.calm = true) (hN : X.N.Nodup) (hi : VI X G rel tg iter it) (ok : BlkOk X.N X.env.scope scope own) (hf : ∀ i ∈ own.map (·.2), i ∉ G.fx)
    (hg : ∀ (s : Shared) (H : Hp) (C : Addr) (cl : List (Str × Addr)) (fp : List Addr) (tp : List (Addr × HO)), VG (X.blk s H scope (compEnvC scope cl C X.env) fp) (G.inn tp) rel (own.map (·.2)) tg g)
    (ht : ∀ (s : Shared) (H : Hp) (C : Addr) (cl : List (Str × Addr)) (fp : List Addr) (tp : List (Addr × HO)), PTs (X.blk s H scope (compEnvC scope cl C X.env) fp) ifs (tvT (G.inn tp) t))
    (he : ∀ (s : Shared) (H : Hp) (C : Addr) (cl : List (Str × Addr)) (fp : List Addr) (tp : List (Addr × HO)), VE (X.blk s H scope (compEnvC scope cl C X.env) fp) (G.inn tp) elt f)
    (hs : ∀ x, foldedSetIterable iter X.env x = pure x := by intro _; rfl) : VO X G (.ListComp elt [⟨tg, iter, ifs, 0⟩] scope pos) (vLc it (own.map (·.2)) g t f) :=
  pe_imp (pe_lc hc hN hi ok (fun s H C cl fp => ⟨fun pins s' σ H' v u Q I r ⟨tp, h⟩ => (hg s H C cl fp tp).run pins s' σ H' v u Q I r h⟩) (fun s H C cl fp => ⟨fun pins s' σ H' Q I ⟨tp, h⟩ => (ht s H C cl fp tp).run pins s' σ H' Q I h⟩) (fun s H C cl fp => ⟨fun pins s' σ H' Q I ⟨tp, h⟩ => (he s H C cl fp tp).run pins s' σ H' Q I h⟩) hs) (lc_v hf)
/-- name = [..] on one line -/
theorem vs_setLc {rel : Zx → Hp → V → D → Prop} {i : Nat} {y : Str} {py spos : Pos} {elt iter : Expr} {ifs : List Expr} {scope : Scope} {own : List (Str × Nat)} {it : M (List D)} {g : D → M Unit} {t : M Bool} {f : M D} (hc : X.calm = true) (hN : X.N.Nodup) (hy : X.N[i]? = some y) (hyl : X.env.scope.names.lookup y = some .local)
    (hsw : swapsWith (.ListComp elt [⟨tg, iter, ifs, 0⟩] scope pos) (some (.Name y py)) spos.line X.env = pure true) (hi : VI X G rel tg iter it) (ok : BlkOk X.N X.env.scope scope own) (hf : ∀ i ∈ own.map (·.2), i ∉ G.fx) (hfi : i ∉ G.fx)
    (hg : ∀ (s : Shared) (H : Hp) (C : Addr) (cl : List (Str × Addr)) (fp : List Addr) (tp : List (Addr × HO)), VG (X.blk s H scope (compEnvC scope cl C X.env) fp) (G.inn tp) rel (own.map (·.2)) tg g)
    (ht : ∀ (s : Shared) (H : Hp) (C : Addr) (cl : List (Str × Addr)) (fp : List Addr) (tp : List (Addr × HO)), PTs (X.blk s H scope (compEnvC scope cl C X.env) fp) ifs (tvT (G.inn tp) t))
    (he : ∀ (s : Shared) (H : Hp) (C : Addr) (cl : List (Str × Addr)) (fp : List Addr) (tp : List (Addr × HO)), VE (X.blk s H scope (compEnvC scope cl C X.env) fp) (G.inn tp) elt f)
    (hs : ∀ x, foldedSetIterable iter X.env x = pure x := by intro _; rfl) : VS X G rm (.Assign [.Name y py] (.ListComp elt [⟨tg, iter, ifs, 0⟩] scope pos) spos) (vSetO i (vLc it (own.map (·.2)) g t f)) :=
  ps_imp (ps_setLc hc hN hy hyl hsw hi ok (fun s H C cl fp => ⟨fun pins s' σ H' v u Q I r ⟨tp, h⟩ => (hg s H C cl fp tp).run pins s' σ H' v u Q I r h⟩) (fun s H C cl fp => ⟨fun pins s' σ H' Q I ⟨tp, h⟩ => (ht s H C cl fp tp).run pins s' σ H' Q I h⟩) (fun s H C cl fp => ⟨fun pins s' σ H' Q I ⟨tp, h⟩ => (he s H C cl fp tp).run pins s' σ H' Q I h⟩) hs)
    fun D σ H ⟨ρ, S, k⟩ => lc_v hf σ H _ ⟨ρ, S, k.bnd.mono fun d ρ1 k1 v H1 fz S1 ro => k1 _ H1 fz (S1.setOw hfi ro)⟩
end
end Cv
end
section
/-! The V layer: defs and their calls. -/
namespace Cv
open PySem L2
open PySem.Spec
inductive Rf where
  | ret (d : D) (outs : List D)
  | exc (e : Ex)
def entL (fx : List Nat) : Nat → List D → Ev
  | _, [] => []
  | i, d :: r => some ⟨fx.contains i, d⟩ :: entL fx (i + 1) r
def ent (fx : List Nat) (n : Nat) (ds : List D) : Ev := entL fx 0 ds ++ List.replicate (n - ds.length) none
def outsOf : List Nat → Ev → Option (List D)
  | [], _ => some []
  | i :: r, ρ => match ρ[i]?, outsOf r ρ with
    | some (some ⟨true, d⟩), some ds => some (d :: ds)
    | _, _ => none
/-- what a def computes -/
def runR (fx : List Nat) : Option (R Fl) → Option Rf
  | some (.ok (.rt d) ρ) => (outsOf fx ρ).map (.ret d)
  | some (.ok .nx ρ) => (outsOf fx ρ).map (.ret .none)
  | some (.ex e) => some (.exc e)
  | _ => none
def runF (np : Nat) (fx : List Nat) (n : Nat) (body : M Fl) (ds : List D) : Option Rf := if ds.length = np then runR fx (body (ent fx n ds)) else none
theorem runF_len {np : Nat} {fx : List Nat} {n : Nat} {body : M Fl} : ∀ ds r, runF np fx n body ds = some r → ds.length = np := fun ds r h => by
  unfold runF at h
  split at h
  · assumption
  · cases h
def refOf : Option V → Option Addr
  | some (.ref p) => some p
  | _ => none
def ioA (fx : List Nat) (vs : List V) : List Addr := fx.filterMap fun i => refOf vs[i]?
structure ArgOk (Z : Zx) (fx : List Nat) (H : Hp) (vs : List V) (ds : List D) : Prop where
  len : vs.length = ds.length
  val : ∀ (i : Nat) v d, vs[i]? = some v → ds[i]? = some d → if i ∈ fx then Ow Z H v d else Sh Z H v d
  dis : ∀ (i j : Nat) p, i ∈ fx → j ∈ fx → vs[i]? = some (.ref p) → vs[j]? = some (.ref p) → i = j
def OutOk (Z : Zx) (fx : List Nat) (H : Hp) (vs : List V) (outs : List D) : Prop := ∀ (k i : Nat), fx[k]? = some i → ∃ v d, vs[i]? = some v ∧ outs[k]? = some d ∧ Ow Z H v d
def ResOk (Z : Zx) (rm : Bool) (H H' : Hp) (v : V) (d : D) : Prop := match rm && isC d with
  | true => ∃ p, v = .ref p ∧ Ow Z H' v d ∧ Nn H p
  | false => Sh Z H' v d
def spV (Z : Zx) (cl : Cl) (np : Nat) (fx : List Nat) (rm : Bool) (mf : List D → Option Rf) : Sp := fun vs H Q E => vs.length = np ∧ LamX.Tabs cl.T H ∧ ∃ ds, ArgOk Z fx H vs ds ∧ match mf ds with
  | some (.ret d outs) => ∀ v H', Mv cl.T (ioA fx vs) H H' → OutOk Z fx H' vs outs → ResOk Z rm H H' v d → Q v H'
  | some (.exc e) => ∀ cls od H', Mv cl.T (ioA fx vs) H H' → ExcAt Z cl H' e cls od → E cls od H'
  | none => False
abbrev gh (Z : Zx) (cl : Cl) (H : Hp) (W : XK) (fx : List Nat) (vs : List V) : Gh := ⟨Z, cl, H, ioA fx vs, W, fx, fun i => vs[i]?, []⟩
theorem nfx {G : Gh} {i : Nat} {fx : List Nat} (h : G.fx = fx) (c : fx.contains i = false) : i ∉ G.fx := by
  rw [h]
  intro z
  have : fx.contains i = true := by simpa using z
  rw [this] at c
  cases c
theorem nfxs {G : Gh} {fx vs : List Nat} (h : G.fx = fx) (c : (vs.all fun i => !fx.contains i) = true) : ∀ i ∈ vs, i ∉ G.fx := fun i hi => nfx h (by simpa using List.all_eq_true.1 c i hi)
theorem entL_get {fx : List Nat} : ∀ {ds : List D} {k j : Nat}, (entL fx k ds)[j]? = (ds[j]?).map fun d => some ⟨fx.contains (k + j), d⟩
  | [], k, j => by simp [entL]
  | d :: r, k, 0 => by simp [entL]
  | d :: r, k, j + 1 => by
    simp only [entL, List.getElem?_cons_succ]
    rw [entL_get, Nat.add_right_comm, ← Nat.add_assoc]
theorem entL_length {fx : List Nat} : ∀ {ds : List D} {k : Nat}, (entL fx k ds).length = ds.length
  | [], k => rfl
  | d :: r, k => by simp [entL, entL_length]
theorem ioA_mem {fx : List Nat} {vs : List V} {p : Addr} (h : p ∈ ioA fx vs) : ∃ i ∈ fx, vs[i]? = some (.ref p) := by
  obtain ⟨i, hi, e⟩ := List.mem_filterMap.1 h
  refine ⟨i, hi, ?_⟩
  unfold refOf at e
  split at e
  · cases e; assumption
  · cases e
theorem mem_ioA {fx : List Nat} {vs : List V} {p : Addr} {i : Nat} (hi : i ∈ fx) (e : vs[i]? = some (.ref p)) : p ∈ ioA fx vs := List.mem_filterMap.2 ⟨i, hi, by rw [e]; rfl⟩
theorem stt_start {Z : Zx} {cl : Cl} {H : Hp} {W : XK} {fx : List Nat} {vs : List V} {ds : List D} {N : List Str} (tb : LamX.Tabs cl.T H) (A : ArgOk Z fx H vs ds) (hl : vs.length ≤ N.length) (hfx : ∀ i ∈ fx, i < vs.length) : Stt (gh Z cl H W fx vs) H (L2.start N vs) (ent fx N.length ds) := by
  have hlen : (ent fx N.length ds).length = N.length := by
    unfold ent
    rw [List.length_append, entL_length, List.length_replicate, ← A.len]
    omega
  have aux : ∀ (i : Nat) (s : Sl), (ent fx N.length ds)[i]? = some (some s) → ∃ v d, vs[i]? = some v ∧ ds[i]? = some d ∧ s = ⟨fx.contains i, d⟩ ∧ (L2.start N vs)[i]? = some (some v) := fun i s h => by
    unfold ent at h
    by_cases hi : i < ds.length
    · rw [List.getElem?_append_left (by rw [entL_length]; exact hi), entL_get, List.getElem?_eq_getElem hi] at h
      simp only [Option.map_some, Option.some.injEq, Nat.zero_add] at h
      have hi' : i < vs.length := by rw [A.len]; exact hi
      refine ⟨vs[i], ds[i], List.getElem?_eq_getElem hi', List.getElem?_eq_getElem hi, h.symm, ?_⟩
      unfold L2.start
      rw [List.getElem?_append_left (by simpa using hi'), List.getElem?_map, List.getElem?_eq_getElem hi']
      rfl
    · rw [List.getElem?_append_right (by rw [entL_length]; omega), List.getElem?_replicate] at h
      split at h <;> cases h
  have own : ∀ (i : Nat) (s : Sl), (ent fx N.length ds)[i]? = some (some s) → s.o = true → i ∈ fx ∧ ∃ v, vs[i]? = some v ∧ (L2.start N vs)[i]? = some (some v) := fun i s h ho => by
    obtain ⟨v, d, h1, h2, rfl, h4⟩ := aux i s h
    exact ⟨by simpa using ho, v, h1, h4⟩
  refine ⟨?_, fun i s h => ?_, fun i j s t p h1 h2 h3 h4 h5 h6 => ?_, Mv.refl _ _ tb, fun i hi => ?_, fun q hq => nomatch hq⟩
  · rw [hlen]
    unfold L2.start
    rw [List.length_append, List.length_map, List.length_replicate]
    omega
  · obtain ⟨v, d, h1, h2, rfl, h4⟩ := aux i s h
    refine ⟨v, h4, ?_⟩
    have hv := A.val i v d h1 h2
    unfold SlOk
    by_cases hi : i ∈ fx
    · have hc : fx.contains i = true := by simpa using hi
      rw [if_pos hi] at hv
      simp only [hc]
      exact ⟨hv, fun p e => .inr ⟨hi, mem_ioA hi (by rw [h1, e])⟩⟩
    · have hc : fx.contains i = false := by simpa using hi
      rw [if_neg hi] at hv
      simp only [hc]
      exact hv
  · obtain ⟨i1, v, e1, e2⟩ := own i s h1 h3
    obtain ⟨j1, w, f1, f2⟩ := own j t h2 h4
    rw [e2] at h5
    cases h5
    rw [f2] at h6
    cases h6
    exact A.dis i j p i1 j1 e1 f1
  · have hi' := hfx i hi
    unfold L2.start
    rw [List.getElem?_append_left (by simpa using hi'), List.getElem?_map]
    show Option.map some vs[i]? = some vs[i]?
    rw [List.getElem?_eq_getElem hi']
    rfl
theorem outs_ok {G : Gh} {H : Hp} {σ : St} {ρ : Ev} {vs : List V} (S : Stt G H σ ρ) (hv : ∀ i ∈ G.fx, ∃ v, vs[i]? = some v ∧ G.fv i = some v) : ∀ {fx : List Nat} {outs : List D}, (∀ i ∈ fx, i ∈ G.fx) → outsOf fx ρ = some outs → OutOk G.Z fx H vs outs
  | [], _, _, _ => fun k i h => by simp at h
  | j :: fx, outs, hs, h => fun k i hk => by
    simp only [outsOf] at h
    split at h
    · rename_i d ds e1 e2
      cases h
      cases k with
      | zero =>
        simp at hk
        subst hk
        obtain ⟨v, h1, h2⟩ := hv j (hs j (by simp))
        obtain ⟨w, a, b⟩ := S.val j _ e1
        have f := S.fix j (hs j (by simp))
        rw [a, h2] at f
        cases f
        exact ⟨_, d, h1, rfl, And.left b⟩
      | succ k =>
        have ih := outs_ok S hv (fx := fx) (fun i hi => hs i (by simp [hi])) e2 k i (by simpa using hk)
        simpa using ih
    · cases h
section
variable {P : Program} {w : World} {K : PySem.W.Frag} {mg : Str → Option Value} {base : Heap} {cl : Cl}
theorem body_ok {X : Cx} {Z : Zx} {fx : List Nat} {rm : Bool} {N : List Str} {vs : List V} {H : Hp} {Q : VK} {E W : XK} {body : M Fl} {np : Nat} {sts : List Stmt} (hE : ∀ cls od H', E cls od H' → W cls od H') (hp : np ≤ N.length) (hfx : (fx.all fun i => decide (i < np)) = true) (hsp : spV Z cl np fx rm (runF np fx N.length body) vs H Q E)
    (hb : VSs X (gh Z cl H W fx vs) rm sts body) : ∃ t, PSs X sts t ∧ t { nx := fun _ H' => Q .non H', rt := Q } (L2.start N vs) H := by
  obtain ⟨hl, tb, ds, A, k⟩ := hsp
  have hfx' : ∀ i ∈ fx, i < vs.length := fun i hi => by rw [hl]; simpa using List.all_eq_true.1 hfx i hi
  refine ⟨_, hb, ent fx N.length ds, stt_start tb A (by omega) hfx', ?_⟩
  unfold runF at k
  rw [if_pos (by rw [← A.len]; exact hl)] at k
  have hv : ∀ i ∈ (gh Z cl H W fx vs).fx, ∃ v, vs[i]? = some v ∧ (gh Z cl H W fx vs).fv i = some v := fun i hi => ⟨vs[i]'(hfx' i hi), List.getElem?_eq_getElem (hfx' i hi), List.getElem?_eq_getElem (hfx' i hi)⟩
  cases hr : body (ent fx N.length ds) with
  | none => rw [hr] at k; exact k.elim
  | some r =>
    rw [hr] at k
    cases r with
    | ex e => exact fun cls od H' mv ea => hE _ _ _ (k cls od H' mv ea)
    | ok fl ρ =>
      cases fl with
      | nx =>
        rw [show runR fx (some (.ok .nx ρ)) = (outsOf fx ρ).map (.ret .none) from rfl] at k
        cases ho : outsOf fx ρ with
        | none => rw [ho] at k; exact k.elim
        | some outs =>
          rw [ho] at k
          exact fun σ' H' fz S => k .non H' S.mv (outs_ok S hv (fun _ h => h) ho) (by unfold ResOk; cases rm <;> exact Sh.non)
      | rt d =>
        rw [show runR fx (some (.ok (.rt d) ρ)) = (outsOf fx ρ).map (.ret d) from rfl] at k
        cases ho : outsOf fx ρ with
        | none => rw [ho] at k; exact k.elim
        | some outs =>
          rw [ho] at k
          exact fun v σ' H' fz S rk => k v H' S.mv (outs_ok S hv (fun _ h => h) ho) rk
      | bk => exact k.elim
      | ct => exact k.elim
/-- a def that raises nothing -/
theorem def_ok {x qual : Str} {st : Stmt} {f : Addr} {fd : FuncData} {N ps : List Str} {k np : Nat} {fx : List Nat} {rm : Bool} {body : M Fl} (F : Fun K x qual st f fd) (S : FnScope N ps (defScope st)) (hnp : ps.length = np) (hp : np ≤ N.length) (hfx : (fx.all fun i => decide (i < np)) = true)
    (hb : ∀ (cdv : Value) (A : Around) (outer : List Env) (s : Shared) (H : Hp) (vs : List V) (E : XK), Room k (A.deeper (PyProof.Rows.envOfC qual (defScope st) s.heap.objs.size f cdv)) → VSs (cxOf CX0 P w K mg base N qual (defScope st) f cdv A outer s H E).nox (gh ⟨P, w, K⟩ cl H (fun _ _ _ => False) fx vs) rm (defBody st) body)
    (hx : ∀ ds e, runF np fx N.length body ds ≠ some (.exc e)) : FnOk P w K mg base CX0 (k + 1) f fd ps (spV ⟨P, w, K⟩ cl np fx rm (runF np fx N.length body)) := by
  refine F.ok S (fun vs H Q E h => by rw [hnp]; exact h.1) fun cdv A outer s H vs Q E hr hsp => ?_
  refine body_ok (E := fun _ _ _ => False) (fun _ _ _ h => h) hp hfx ?_ (hb cdv A outer s H vs E hr)
  obtain ⟨hl, tb, ds, Ao, kk⟩ := hsp
  refine ⟨hl, tb, ds, Ao, ?_⟩
  cases hr : runF np fx N.length body ds with
  | none => rw [hr] at kk; exact kk.elim
  | some r =>
    rw [hr] at kk
    cases r with
    | ret d outs => exact kk
    | exc e => exact (hx ds e hr).elim
/-- a def that may raise -/
theorem def_okX {x qual : Str} {st : Stmt} {f : Addr} {fd : FuncData} {N ps : List Str} {k np : Nat} {fx : List Nat} {rm : Bool} {body : M Fl} (F : Fun K x qual st f fd) (S : FnScope N ps (defScope st)) (hnp : ps.length = np) (hp : np ≤ N.length) (hfx : (fx.all fun i => decide (i < np)) = true)
    (hb : ∀ (cdv : Value) (A : Around) (outer : List Env) (s : Shared) (H : Hp) (vs : List V) (E : XK), Room k (A.deeper (PyProof.Rows.envOfC qual (defScope st) s.heap.objs.size f cdv)) → VSs (cxOf (L2.CX P w) P w K mg base N qual (defScope st) f cdv A outer s H E) (gh ⟨P, w, K⟩ cl H E fx vs) rm (defBody st) body) :
    FnOk P w K mg base (L2.CX P w) (k + 1) f fd ps (spV ⟨P, w, K⟩ cl np fx rm (runF np fx N.length body)) := by
  refine F.okX S (fun vs H Q E h => by rw [hnp]; exact h.1) fun cdv A outer s H vs Q E hr hsp => ?_
  exact body_ok (E := E) (fun _ _ _ h => h) hp hfx hsp (hb cdv A outer s H vs E hr)
end
/-! ### calls -/
section
variable {X : Cx} {G : Gh} {CX : CXT} {k : Nat} {f : Addr} {fd : FuncData} {ps : List Str} {x : Str} {e : Expr} {es : List Expr} {p pos : Pos} {fs : M (List D)} {mf : List D → Option Rf} {rm : Bool} {np : Nat}
def vCall (mf : List D → Option Rf) (fs : M (List D)) : M D := bnd fs fun ds => fun ρ => match mf ds with
  | some (.ret d _) => some (.ok d ρ)
  | some (.exc e) => some (.ex e)
  | none => none
theorem ResOk.ro {Z : Zx} {H H' : Hp} {σ : St} {ρ : Ev} {v : V} {d : D} (h : ResOk G.Z true H H' v d) (s : Stt G H σ ρ) : RO G H' σ ρ v d := by
  unfold ResOk at h
  unfold RO
  cases hc : isC d with
  | false => rw [hc] at h; exact h
  | true =>
    rw [hc] at h
    obtain ⟨p, h1, h2, h3⟩ := h
    exact ⟨p, h1, h2, s.nn_new h3⟩
/-- behind a call that wrote nothing of ours -/
theorem Stt.called {H H' : Hp} {σ : St} {ρ : Ev} {S : List Addr} (h : Stt G H σ ρ) (m : Mv G.cl.T S H H') (hS : ∀ p ∈ S, False) : Stt G H' σ ρ := by
  have keep : ∀ p, Mut (H p) → H' p = H p := fun p hm => by
    cases q : H p with
    | none => rw [q] at hm; exact hm.elim
    | some u =>
      exact m.old p u q (fun z => hS p z) (fun ps z => by rw [q, z] at hm; exact hm.elim)
  refine ⟨h.len, fun i s hs => ?_, h.dis, h.mv.trans m (fun p hp => (hS p hp).elim), h.fix, fun q hq => ?_⟩
  · obtain ⟨v, h1, h2⟩ := h.val i s hs
    refine ⟨v, h1, h2.keep m.fz fun p hv ho => keep p ?_⟩
    unfold SlOk at h2
    rw [ho, hv] at h2
    exact h2.1.mut
  · obtain ⟨c1, c2⟩ := h.tmp q hq
    exact ⟨by rw [keep _ (by rw [c1]; exact c2.1.1)]; exact c1, c2⟩
theorem ExcAt.up {Z : Zx} {cl : Cl} {H : Hp} {e : Ex} {cls : Value} {od : Option Addr} (h : ExcAt Z cl H e cls od) : ExcAt Z cl H e cls od := h
theorem argOk_of {Z : Zx} {H : Hp} {vs : List V} {ds : List D} (h : ShAll Z H vs ds) : ArgOk Z [] H vs ds := ⟨h.length, fun i v d h1 h2 => by
  rw [if_neg (by simp)]
  obtain ⟨d', e, s⟩ := h.get' h1
  rw [h2] at e
  cases e
  exact s, fun i j p hi => nomatch hi⟩
theorem tcall {cl : Cl} (hcl : G.cl = cl) (hZ : G.Z = zx X) (hl : ∀ ds r, mf ds = some r → ds.length = np) : ∀ σ H Q, tvO G (vCall mf fs) σ H Q → tCall (spV (zx X) cl np [] true mf) [] G.W (tvA G fs) σ H Q := by
  obtain ⟨Z, cl', H0, S0, W, fx, fv, tp⟩ := G
  cases hZ
  cases hcl
  rintro σ H Q ⟨ρ, S, k⟩
  refine ⟨ρ, S, k.bnd.mono fun ds ρ1 k1 vs H1 fz1 S1 s1 => ?_⟩
  show spV _ _ _ _ _ _ (vs ++ []) H1 Q _
  rw [List.append_nil]
  refine ⟨?_, S1.mv.tb.2, ds, argOk_of s1, ?_⟩
  · cases hm : mf ds with
    | none => rw [hm] at k1; exact k1.elim
    | some r => rw [s1.length]; exact hl ds r hm
  · cases hm : mf ds with
    | none => rw [hm] at k1; exact k1.elim
    | some r =>
      rw [hm] at k1
      cases r with
      | ret d outs => exact fun v H' mv _ rk => k1 v H' (fz1.trans mv.fz) (S1.called mv (fun _ z => nomatch z)) (ResOk.ro (Z := zx X) (G := ⟨zx X, cl', H0, S0, W, fx, fv, tp⟩) rk S1 |> fun r => by
          unfold RO at r ⊢
          exact r)
      | exc e => exact fun cls od H' mv ea => k1 cls od H' (S1.mv.trans mv (fun _ z => nomatch z)) ea
theorem vo_call {cl : Cl} (F : FnOk X.prog X.w X.K X.mg X.base CX k f fd ps (spV (zx X) cl np [] true mf)) (hr : Room k X.A) (hg : Gl X x) (hm : X.mg x = some (.ref f)) (hk : PySem.W.keepIn X.K (.ref f) = true) (hb : Binds X.K fd ps []) (hx : Passes CX X G.W) (hl : ∀ ds r, mf ds = some r → ds.length = np)
    (ha : VA X G (e :: es) fs) (hcl : G.cl = cl := by rfl) (hZ : G.Z = zx X := by rfl) (hdb : (x == ("__debug__" : Str)) = false := by decide) (he : starEach (e :: es) X.env = (false, eval e X.env) :: starEach es X.env := by rfl) (hpl : (backTo pos (starEach es X.env)).any (·.1) = false := by rfl) :
    VO X G (.Call (.Name x p) (e :: es) [] pos) (vCall mf fs) := pe_imp (pe_call F hr hg hm hk hb .nil hx ha hdb he hpl) (tcall hcl hZ hl)
theorem tcallE {cl : Cl} (hcl : G.cl = cl) (hZ : G.Z = zx X) (hl : ∀ ds r, mf ds = some r → ds.length = np) : ∀ σ H Q, tvE G (vCall mf fs) σ H Q → tCall (spV (zx X) cl np [] false mf) [] G.W (tvA G fs) σ H Q := by
  obtain ⟨Z, cl', H0, S0, W, fx, fv, tp⟩ := G
  cases hZ
  cases hcl
  rintro σ H Q ⟨ρ, S, k⟩
  refine ⟨ρ, S, k.bnd.mono fun ds ρ1 k1 vs H1 fz1 S1 s1 => ?_⟩
  show spV _ _ _ _ _ _ (vs ++ []) H1 Q _
  rw [List.append_nil]
  refine ⟨?_, S1.mv.tb.2, ds, argOk_of s1, ?_⟩
  · cases hm : mf ds with
    | none => rw [hm] at k1; exact k1.elim
    | some r => rw [s1.length]; exact hl ds r hm
  · cases hm : mf ds with
    | none => rw [hm] at k1; exact k1.elim
    | some r =>
      rw [hm] at k1
      cases r with
      | ret d outs => exact fun v H' mv _ rk => k1 v H' (fz1.trans mv.fz) (S1.called mv (fun _ z => nomatch z)) rk
      | exc e => exact fun cls od H' mv ea => k1 cls od H' (S1.mv.trans mv (fun _ z => nomatch z)) ea
theorem ve_call {cl : Cl} (F : FnOk X.prog X.w X.K X.mg X.base CX k f fd ps (spV (zx X) cl np [] false mf)) (hr : Room k X.A) (hg : Gl X x) (hm : X.mg x = some (.ref f)) (hk : PySem.W.keepIn X.K (.ref f) = true) (hb : Binds X.K fd ps []) (hx : Passes CX X G.W) (hl : ∀ ds r, mf ds = some r → ds.length = np)
    (ha : VA X G (e :: es) fs) (hcl : G.cl = cl := by rfl) (hZ : G.Z = zx X := by rfl) (hdb : (x == ("__debug__" : Str)) = false := by decide) (he : starEach (e :: es) X.env = (false, eval e X.env) :: starEach es X.env := by rfl) (hpl : (backTo pos (starEach es X.env)).any (·.1) = false := by rfl) :
    VE X G (.Call (.Name x p) (e :: es) [] pos) (vCall mf fs) := pe_imp (pe_call F hr hg hm hk hb .nil hx ha hdb he hpl) (tcallE hcl hZ hl)
/-! ### a call that writes one own name, the q-th argument -/
structure ArgQ (Z : Zx) (H : Hp) (σ : St) (q j : Nat) (vs : List V) (ds : List D) : Prop where
  ex : ∃ vp vq dp dq v, vs = vp ++ v :: vq ∧ ds = dp ++ dq ∧ vp.length = q ∧ ShAll Z H vp dp ∧ ShAll Z H vq dq ∧ σ[j]? = some (some v)
def tvQ (G : Gh) (q j : Nat) (f : M (List D)) : TA := fun σ H Q => ∃ ρ, Stt G H σ ρ ∧ Kont G (f ρ) fun ds ρ' => ∀ vs H', Fz H H' → Stt G H' σ ρ' → ArgQ G.Z H' σ q j vs ds → Q vs H'
abbrev VQ (X : Cx) (G : Gh) (q j : Nat) (es : List Expr) (f : M (List D)) : Prop := PA X es (tvQ G q j f)
def vHere (j : Nat) (f : M (List D)) : M (List D) := fun ρ => if (ρ[j]?.join).isSome then f ρ else none
theorem vq_here (j : Nat) {y : Str} {py : Pos} (hr : VA X G es fs) (hN : X.N[j]? = some y := by rfl) (hv : Vis X.env.scope y := by first | exact Or.inl rfl | exact Or.inr (Or.inl rfl) | exact Or.inr (Or.inr rfl)) (hd : (y == ("__debug__" : Str)) = false := by decide) (hcd : (y == ("__classdict__" : Str)) = false := by decide)
    (hs : starEach (.Name y py :: es) X.env = (false, eval (.Name y py) X.env) :: starEach es X.env := by rfl) : VQ X G 0 j (.Name y py :: es) (vHere j fs) := ⟨fun pos pins s σ H Q I ⟨ρ, S, k⟩ => (pa_cons (pe_var hN hv hd hcd) hr hs).run pos pins s σ H Q I (by
  unfold vHere at k
  split at k
  · rename_i hj
    cases hr : ρ[j]? with
    | none => rw [hr] at hj; cases hj
    | some r =>
      cases r with
      | none => rw [hr] at hj; cases hj
      | some s0 =>
        obtain ⟨v, hv, _⟩ := S.val j s0 hr
        exact ⟨v, hv, ρ, S, k.mono fun ds ρ2 k2 vs H2 fz2 S2 s2 => k2 _ H2 fz2 S2 ⟨[], vs, [], ds, v, rfl, rfl, rfl, .nil, s2, hv⟩⟩
  · exact k.elim)⟩
theorem vq_cons {q j : Nat} {fa : M D} (ha : VE X G e fa) (hr : VQ X G q j es fs) (hs : starEach (e :: es) X.env = (false, eval e X.env) :: starEach es X.env := by rfl) : VQ X G (q + 1) j (e :: es) (vCons fa fs) := ⟨fun pos pins s σ H Q I ⟨ρ, S, k⟩ => (pa_cons ha hr hs).run pos pins s σ H Q I
  ⟨ρ, S, k.bnd.mono fun x ρ1 k1 v H1 fz1 S1 s1 => ⟨ρ1, S1, k1.bnd.mono fun xs ρ2 k2 vs H2 fz2 S2 r2 => k2 _ H2 (fz1.trans fz2) S2 (by
    obtain ⟨vp, vq, dp, dq, w, rfl, rfl, hl, sp, sq, hw⟩ := r2.ex
    exact ⟨v :: vp, vq, x :: dp, dq, w, rfl, rfl, by simp [hl], .cons (s1.up fz2) sp, sq, hw⟩)⟩⟩⟩
def vCallQ (mf : List D → Option Rf) (q j : Nat) (fs : M (List D)) : M D := bnd fs fun ds => bnd (getO j) fun dj => fun ρ => match mf (ds.take q ++ dj :: ds.drop q) with
  | some (.ret d [o]) => if isC o then some (.ok d (ρ.set j (some ⟨true, o⟩))) else none
  | some (.exc e) => some (.ex e)
  | _ => none
theorem Stt.calledQ {H H' : Hp} {σ : St} {ρ : Ev} {j : Nat} {d d' : D} {p : Addr} (h : Stt G H σ ρ) (hj : ρ[j]? = some (some ⟨true, d⟩)) (hv : σ[j]? = some (some (.ref p))) (m : Mv G.cl.T [p] H H') (ow : Ow G.Z H' (.ref p) d') : Stt G H' σ (ρ.set j (some ⟨true, d'⟩)) := by
  have h3 : Ow G.Z H (.ref p) d ∧ ∀ q, V.ref p = .ref q → Nn G.H0 q ∨ (j ∈ G.fx ∧ q ∈ G.S) := by
    obtain ⟨v, h1, h2⟩ := h.val j _ hj
    rw [hv] at h1
    cases h1
    exact h2
  have keep : ∀ q, Mut (H q) → q ≠ p → H' q = H q := fun q hm hq => by
    cases e : H q with
    | none => rw [e] at hm; exact hm.elim
    | some u =>
      exact m.old q u e (fun z => hq (by simpa using z)) (fun ps z => by rw [e, z] at hm; exact hm.elim)
  have aux : ∀ (k : Nat) (t : Sl), (ρ.set j (some ⟨true, d'⟩))[k]? = some (some t) → ∃ t', ρ[k]? = some (some t') ∧ (t.o = true → t'.o = true) := fun k t hk => by
    rcases set_get hk with ⟨rfl, z⟩ | ⟨a1, a2⟩
    · cases z; exact ⟨_, hj, fun _ => rfl⟩
    · exact ⟨t, a2, id⟩
  refine ⟨by simpa using h.len, fun i t ht => ?_, fun i k t1 t2 q e1 e2 e3 e4 e5 e6 => ?_, h.mv.trans m (fun q hq => ?_), h.fix, fun q hq => ?_⟩
  · rcases set_get ht with ⟨rfl, z⟩ | ⟨a1, a2⟩
    · cases z
      exact ⟨_, hv, ow, h3.2⟩
    · obtain ⟨w, b1, b2⟩ := h.val i t a2
      refine ⟨w, b1, b2.keep m.fz fun q hq hoq => keep q ?_ fun z => ?_⟩
      · unfold SlOk at b2
        rw [hoq, hq] at b2
        exact b2.1.mut
      · subst z hq
        exact a1 (h.dis i j t _ q a2 hj hoq rfl b1 hv)
  · obtain ⟨t1', c1, c2⟩ := aux i t1 e1
    obtain ⟨t2', d1, d2⟩ := aux k t2 e2
    exact h.dis i k t1' t2' q c1 d1 (c2 e3) (d2 e4) e5 e6
  · have : q = p := by simpa using hq
    subst this
    exact ((h3.2 q rfl).imp id And.right).symm
  · obtain ⟨c1, c2, c3⟩ := h.tmp q hq
    refine ⟨?_, c2, fun i t hi ht => ?_⟩
    · rw [keep q.1 (by rw [c1]; exact c2.1) fun z => c3 j _ hj rfl (by rw [z]; exact hv)]
      exact c1
    · obtain ⟨t', a1, a2⟩ := aux i t hi
      exact c3 i t' a1 (a2 ht)
theorem tcallQ {cl : Cl} {q j : Nat} (hcl : G.cl = cl) (hZ : G.Z = zx X) (hl : ∀ ds r, mf ds = some r → ds.length = np) : ∀ σ H Q, tvE G (vCallQ mf q j fs) σ H Q → tCall (spV (zx X) cl np [q] false mf) [] G.W (tvQ G q j fs) σ H Q := by
  obtain ⟨Z, cl', H0, S0, W, fx, fv, tp⟩ := G
  cases hZ
  cases hcl
  rintro σ H Q ⟨ρ, S, k⟩
  refine ⟨ρ, S, k.bnd.mono fun ds ρ1 k1 vs H1 fz1 S1 aq => ?_⟩
  show spV _ _ _ _ _ _ (vs ++ []) H1 Q _
  rw [List.append_nil]
  obtain ⟨dj, hj, k2⟩ := k1.getO
  obtain ⟨p, hp, ow⟩ := S1.own hj
  obtain ⟨vp, vq, dp, dq, v, rfl, rfl, hlq, sp, sq, hv⟩ := aq.ex
  rw [hp] at hv
  cases hv
  have hdp : dp.length = q := by rw [← sp.length]; exact hlq
  have et : (dp ++ dq).take q ++ dj :: (dp ++ dq).drop q = dp ++ dj :: dq := by
    rw [← hdp]; simp
  rw [et] at k2
  have hq : (vp ++ V.ref p :: vq)[q]? = some (.ref p) := by rw [List.getElem?_append_right (by omega)]; simp [hlq]
  have hio : ioA [q] (vp ++ V.ref p :: vq) = [p] := by simp [ioA, hq, refOf]
  have len : (vp ++ V.ref p :: vq).length = (dp ++ dj :: dq).length := by simp [sp.length, sq.length]
  have ao : ArgOk (zx X) [q] H1 (vp ++ V.ref p :: vq) (dp ++ dj :: dq) := by
    refine ⟨len, fun i w d h1 h2 => ?_, fun i j' r hi hj' _ _ => by simp at hi hj'; omega⟩
    by_cases hi : i = q
    · subst hi
      rw [if_pos (by simp)]
      rw [hq] at h1
      cases h1
      rw [List.getElem?_append_right (by omega)] at h2
      have : i - dp.length = 0 := by omega
      rw [this] at h2
      simp at h2
      subst h2
      exact ow
    · rw [if_neg (by simpa using hi)]
      by_cases hlt : i < q
      · rw [List.getElem?_append_left (by omega)] at h1 h2
        obtain ⟨d', e', s'⟩ := sp.get' h1
        rw [h2] at e'
        cases e'
        exact s'
      · rw [List.getElem?_append_right (by omega)] at h1 h2
        rw [hlq] at h1
        rw [hdp] at h2
        obtain ⟨m, hm⟩ : ∃ m, i - q = m + 1 := ⟨i - q - 1, by omega⟩
        rw [hm] at h1 h2
        simp at h1 h2
        obtain ⟨d', e', s'⟩ := sq.get' h1
        rw [h2] at e'
        cases e'
        exact s'
  refine ⟨?_, S1.mv.tb.2, _, ao, ?_⟩
  · cases hm : mf (dp ++ dj :: dq) with
    | none => rw [hm] at k2; exact k2.elim
    | some r => rw [len]; exact hl _ r hm
  · cases hm : mf (dp ++ dj :: dq) with
    | none => rw [hm] at k2; exact k2.elim
    | some r =>
      rw [hm] at k2
      cases r with
      | exc e => exact fun cls od H' mv ea => k2 cls od H' (S1.mv.trans mv (fun a ha => by
          rw [hio] at ha
          obtain rfl : a = p := by simpa using ha
          obtain ⟨v, h1, h2⟩ := S1.val j _ hj
          rw [hp] at h1
          cases h1
          exact ((And.right h2 a rfl).imp id And.right).symm)) ea
      | ret d outs =>
        cases outs with
        | nil => exact k2.elim
        | cons o r =>
          cases r with
          | cons _ _ => exact k2.elim
          | nil =>
            intro v H' mv oo rk
            rw [hio] at mv
            obtain ⟨w, o', e1, e2, ow'⟩ := oo 0 q rfl
            rw [hq] at e1
            cases e1
            simp at e2
            subst e2
            dsimp only at k2
            split at k2
            · exact k2 v H' (fz1.trans mv.fz) (S1.calledQ hj hp mv ow') rk
            · exact k2.elim
theorem ve_callQ {cl : Cl} {q j : Nat} (F : FnOk X.prog X.w X.K X.mg X.base CX k f fd ps (spV (zx X) cl np [q] false mf)) (hr : Room k X.A) (hg : Gl X x) (hm : X.mg x = some (.ref f)) (hk : PySem.W.keepIn X.K (.ref f) = true) (hb : Binds X.K fd ps []) (hx : Passes CX X G.W) (hl : ∀ ds r, mf ds = some r → ds.length = np)
    (ha : VQ X G q j (e :: es) fs) (hcl : G.cl = cl := by rfl) (hZ : G.Z = zx X := by rfl) (hdb : (x == ("__debug__" : Str)) = false := by decide) (he : starEach (e :: es) X.env = (false, eval e X.env) :: starEach es X.env := by rfl) (hpl : (backTo pos (starEach es X.env)).any (·.1) = false := by rfl) :
    VE X G (.Call (.Name x p) (e :: es) [] pos) (vCallQ mf q j fs) := pe_imp (pe_call F hr hg hm hk hb .nil hx ha hdb he hpl) (tcallQ hcl hZ hl)
end
end Cv
end
section
/-! The V layer: what was lacking. -/
namespace Cv
open PySem L2
section
variable {X : Cx} {G : Gh} {rm : Bool} {a b : Expr} {rest : List Expr} {fa fb : M D} {pos : Pos}
theorem ve_one {op : BoolOp} (h : VE X G a fa) : VE X G (.BoolOp op [a] pos) fa := pe_one h
theorem ve_and (ha : VE X G a fa) (hb : VE X G (.BoolOp .And (b :: rest) pos) fb) : VE X G (.BoolOp .And (a :: b :: rest) pos) (vAnd fa fb) := pe_imp (pe_and ha hb) (by
  rintro σ H Q ⟨ρ, S, k⟩
  refine ⟨ρ, S, k.bnd.mono fun x ρ1 k1 v H1 fz1 S1 s1 => ?_⟩
  cases x with
  | bool t =>
    cases s1
    refine ⟨t, rfl, ?_⟩
    cases t with
    | true => rw [if_pos rfl]; exact tvE_kont S1 fz1 k1
    | false => rw [if_neg (by decide)]; exact k1 _ H1 fz1 S1 (.bl false)
  | _ => exact k1.elim)
theorem ve_or (ha : VE X G a fa) (hb : VE X G (.BoolOp .Or (b :: rest) pos) fb) : VE X G (.BoolOp .Or (a :: b :: rest) pos) (vOr fa fb) := pe_imp (pe_or ha hb) (by
  rintro σ H Q ⟨ρ, S, k⟩
  refine ⟨ρ, S, k.bnd.mono fun x ρ1 k1 v H1 fz1 S1 s1 => ?_⟩
  cases x with
  | bool t =>
    cases s1
    refine ⟨t, rfl, ?_⟩
    cases t with
    | false => rw [if_neg (by decide)]; exact tvE_kont S1 fz1 k1
    | true => rw [if_pos rfl]; exact k1 _ H1 fz1 S1 (.bl true)
  | _ => exact k1.elim)
/-- nothing is let out -/
theorem passF {P : Program} {w : World} : Passes (L2.CX P w) X (fun _ _ _ => False) := fun _ _ _ _ _ _ _ h => by
  obtain ⟨_, _, _, _, _, _, _, _, _, _, _, _, z⟩ := h
  exact z.elim
def vRaise (c : String) : M Fl := fun _ => some (.ex ⟨c, []⟩)
theorem vs_raise {st : Stmt} {c : String} {C : Addr} (h : PS X st (fun _ _ H => G.W (.ref C) none H)) (hC : G.cl c = C) : VS X G rm st (vRaise c) := ps_imp h fun D σ H ⟨ρ, S, k⟩ => k (.ref C) none H S.mv ⟨by rw [hC], rfl⟩
/-- a chain as a test -/
theorem vt_chain {op op' : CmpOp} {c : Expr} {fc : M D} {p p' : D → D → Option D} (ho : OpV X (compareOp op) p) (ho' : OpV X (compareOp op') p') (ha : VE X G a fa) (hb : VE X G b fb) (hc : VB X G c fc) (hZ : G.Z = zx X := by rfl) (hm : lastMarks [op, op'] [b, c] = false := by rfl) :
    VT X G (.Compare a [op, op'] [b, c] pos) (vT (vChain p p' fa fb fc)) := pt_imp (pt_chain ho ho' ha hb hc hm) (by
  obtain ⟨Z, cl, H0, S0, W, fx, fv, tp⟩ := G
  cases hZ
  rintro σ H Q ⟨ρ, S, k⟩
  replace k := k.bnd
  refine ⟨ρ, S, k.bnd.mono fun x ρ1 k1 v H1 fz1 S1 s1 => ⟨ρ1, S1, k1.bnd.mono fun y ρ2 k2 w H2 fz2 S2 r2 => ?_⟩⟩
  obtain ⟨d, e, q⟩ := k2.bnd.lft
  refine ⟨x, y, d, .sh (s1.up fz2), .sh r2, e, fun z H3 sm nr => ?_⟩
  cases d with
  | bool t =>
    have : z = .bl t := by
      have h : Sh (zx X) H3 z (.bool t) := nr
      cases h
      rfl
    subst this
    refine ⟨t, rfl, ?_⟩
    cases t with
    | true =>
      rw [if_pos rfl]
      refine ⟨ρ2, S2.same sm, (Kont.bnd q).mono fun y' ρ3 k3 w' H4 fz4 S4 r4 => ?_⟩
      obtain ⟨d', e', q'⟩ := k3.lft
      refine ⟨y, y', d', .sh ((r2.up (Same.fz sm)).up fz4), r4, e', fun z' H5 sm' nr' => ?_⟩
      cases d' with
      | bool t' =>
        have h : Sh (zx X) H5 z' (.bool t') := nr'
        cases h
        exact ⟨t', rfl, q' H5 (fz1.trans (fz2.trans ((Same.fz sm).trans (fz4.trans (Same.fz sm'))))) (S4.same sm')⟩
      | _ => exact q'.elim
    | false =>
      rw [if_neg (by decide)]
      exact ⟨false, rfl, q H3 (fz1.trans (fz2.trans (Same.fz sm))) (S2.same sm)⟩
  | _ => exact q.elim)
/-! sorted -/
def allAlike (ds : List D) : Bool := ds.all fun x => ds.all fun y => PySem.W.alike x y
def isTup1 : D → Bool
  | .tuple (_ :: _) => true
  | _ => false
def noTup : D → Bool
  | .tuple _ => false
  | .none => false
  | _ => true
def sortOk (ds : List D) : Bool := allAlike ds && (ds.all isTup1 || ds.all noTup) && decide (PyData.depthAll ds ≤ 40) && decide (ds.length ≤ 100000)
def leDD (p q : D) : Bool := !PySem.W.dataLt q p
def dSorted : D → Option D
  | .list ds => if sortOk ds then some (.list (ds.mergeSort leDD)) else none
  | .dict kvs => if sortOk (kvs.map (·.1)) && kvs.all (fun p => isT p.1) then some (.list ((kvs.map (·.1)).mergeSort leDD)) else none
  | _ => none
theorem sortOk_is {ds : List D} (h : sortOk ds = true) : PySem.W.AllAlike ds ∧ PySem.W.Sortable ds ∧ PyData.depthAll ds ≤ 40 ∧ ds.length ≤ 100000 := by
  simp only [sortOk, Bool.and_eq_true, Bool.or_eq_true, decide_eq_true_eq] at h
  obtain ⟨⟨⟨h1, h2⟩, h3⟩, h4⟩ := h
  refine ⟨fun d hd d' hd' => ?_, ?_, h3, h4⟩
  · exact List.all_eq_true.1 (List.all_eq_true.1 h1 d hd) d' hd'
  · rcases h2 with h2 | h2
    · refine .inl fun d hd => ?_
      have := List.all_eq_true.1 h2 d hd
      unfold isTup1 at this
      split at this
      · exact ⟨_, _, rfl⟩
      · cases this
    · refine .inr fun d hd => ?_
      have := List.all_eq_true.1 h2 d hd
      unfold noTup at this
      split at this
      · cases this
      · cases this
      · rename_i n1 n2
        exact ⟨n2, fun xs => n1 xs⟩
theorem depth_mem : ∀ {ds : List D} {d : D}, d ∈ ds → d.depth ≤ PyData.depthAll ds
  | x :: r, d, h => by
    rw [PyData.depthAll]
    rcases List.mem_cons.1 h with rfl | h
    · exact Nat.le_max_left _ _
    · exact Nat.le_trans (depth_mem h) (Nat.le_max_right _ _)
theorem zip_sh {Z : Zx} {H : Hp} : ∀ {vs : List V} {ds : List D}, ShAll Z H vs ds → vs = (vs.zip ds).map (·.1) ∧ ds = (vs.zip ds).map (·.2) ∧ ∀ b ∈ vs.zip ds, Sh Z H b.1 b.2
  | [], _, h => by cases h; exact ⟨rfl, rfl, fun b hb => nomatch hb⟩
  | v :: vs, _, h => by
    cases h with
    | cons h1 h2 =>
      obtain ⟨a, b, c⟩ := zip_sh h2
      refine ⟨by rw [List.zip_cons_cons, List.map_cons, ← a], by rw [List.zip_cons_cons, List.map_cons, ← b], fun p hp => ?_⟩
      rw [List.zip_cons_cons] at hp
      rcases List.mem_cons.1 hp with rfl | hp
      · exact h1
      · exact c p hp
theorem sh_pairs {Z : Zx} {H : Hp} : ∀ {bs : List (V × D)}, (∀ b ∈ bs, Sh Z H b.1 b.2) → ShAll Z H (bs.map (·.1)) (bs.map (·.2))
  | [], _ => .nil
  | b :: bs, h => .cons (h b (by simp)) (sh_pairs fun c hc => h c (by simp [hc]))
theorem each_readsV {pins : List (Addr × Obj)} {σ : L2.St} {H : Hp} {s : Shared} (I : Inv X pins σ H s) {its : List Value} {bs : List (V × D)} (e : PySem.W.EachIs (fun v b => RelV b.1 v) its bs) (hd : ∀ b ∈ bs, Sh (zx X) H b.1 b.2) : PySem.W.EachIs (fun v b => ∃ as, Reads s.heap v b.2 as) its bs := by
  induction e with
  | nil => exact .nil
  | cons h t ih => exact .cons (Sh.reads I _ _ _ (hd _ (by simp)) h) (ih fun b hb => hd b (by simp [hb]))
theorem sort_snd (bs : List (V × D)) : (bs.mergeSort leD).map (·.2) = (bs.map (·.2)).mergeSort leDD := List.map_mergeSort fun _ _ _ _ => rfl
theorem keysN {Z : Zx} {H : Hp} : ∀ {kvs : List (D × D)} {ws : List (NestedKey × Addr × V)} {ks : List (NestedKey × Addr × Value)}, ShN Z H ws kvs → Paired RelN ws ks → ShAll Z H (ks.map fun x => V.ref x.2.1) (kvs.map (·.1))
  | [], _, _, sn, pr => by cases sn; cases pr; exact .nil
  | p :: kvs, _, _, sn, pr => by
    cases sn with
    | cons c1 c2 c3 c4 c5 =>
      cases pr with
      | cons p1 p2 =>
        refine .cons ?_ (keysN c5 p2)
        have e := p1.2.1
        simp only at e
        show Sh Z H (V.ref _) _
        rw [← e]
        exact c1
theorem valsN : ∀ ks : List (NestedKey × Addr × Value), Vals (ks.map fun x => V.ref x.2.1) (ks.map fun x => Value.ref x.2.1)
  | [] => .nil
  | _ :: ks => .cons rfl (valsN ks)
open PySem.Spec PyProof.Rows in
theorem c_sorted (hcalm : X.calm = true) (hu : X.A.units + 64 < cLine) : CallR X (.builtin "sorted") (rC1 (zx X) dSorted) := by
  intro pins s σ H xs us Q I r ⟨x, d, z, e, hx, ed, q⟩
  subst e
  cases d with
  | list ds =>
    simp only [dSorted] at ed
    split at ed
    · rename_i ok
      cases ed
      obtain ⟨h1, h2, h3, h4⟩ := sortOk_is ok
      obtain ⟨a, vs, rfl, hr, sv⟩ := hx.lst
      obtain ⟨e1, e2, e3⟩ := zip_sh sv
      obtain ⟨its, rv, hl, hz⟩ := I.list hr.sq
      rw [Vals.ref1 r]
      have e := each_vals rv e1
      have hlen : (vs.zip ds).length = vs.length := by rw [← List.length_map (f := (·.1)), ← e1]
      have el : (vs.zip ds).map (fun b : V × PyData => b.2) = ds := e2.symm
      refine PySem.W.sorted_data (R := fun v b => RelV b.1 v) (enc := fun b : V × PyData => b.2) hl.isList e (each_readsV I e e3) (by rw [el]; exact h1) (by rw [el]; exact h2) (by omega) (fun b hb => by have := depth_mem (ds := ds) (d := b.2) (by rw [e2]; exact List.mem_map.2 ⟨b, hb, rfl⟩); omega) fun out ho h1 => ?_
      rw [leD_eq] at h1
      obtain ⟨ep, he'⟩ := PyProof.Rows.sortedAll_at s.heap its out.toArray
      have hlen2 : (((vs.zip ds).mergeSort leD).map (·.1)).length ≤ sizeLine := by rw [List.length_map, List.length_mergeSort]; omega
      have hf : H (s.heap.objs.size + 1) = none := I.hok.fresh (Nat.le_succ _)
      refine ⟨.ref _, upd H (s.heap.objs.size + 1) (.lst (((vs.zip ds).mergeSort leD).map (·.1))), I.laid (t' := s.toks) (fun _ _ => PyProof.Rows.sortedAll_old) (Nat.le_succ _) ⟨hlen2, out, ep, vals_each h1, he'⟩, rfl, q _ _ (sm_upd hf) (nr_lst hf ?_)⟩
      have ss := sh_pairs (Z := zx X) (H := H) (bs := (vs.zip ds).mergeSort leD) fun b hb => e3 b (List.mem_mergeSort.1 hb)
      rw [sort_snd, ← e2] at ss
      exact ss
    · cases ed
  | dict kvs =>
    simp only [dSorted] at ed
    split at ed
    · rename_i ok
      cases ed
      rw [Bool.and_eq_true] at ok
      obtain ⟨ok, isTs⟩ := ok
      obtain ⟨h1, h2, h3, h4⟩ := sortOk_is ok
      obtain ⟨a, rfl, _⟩ := hx.dic
      obtain ⟨u, eu, rx⟩ := vals1 r
      subst eu
      cases rx
      obtain ⟨hs, ws, ks, sn, pr, hz, ⟨o, es, ep, ho, hx', hdt, he, _, _⟩, _⟩ := tupDict I hx isTs
      have l1 : es.size = ks.length := by have := congrArg List.length he; simpa using this
      have l2 : ws.length = ks.length := Paired.length pr
      have l3 := sn.length
      have keys : ShAll (zx X) H (ks.map fun x => V.ref x.2.1) (kvs.map (·.1)) := keysN sn pr
      obtain ⟨e1, e2, e3⟩ := zip_sh keys
      refine Calls.call_function_entry PyProof.Rows.kind_sorted PyProof.Rows.plain_sorted PyProof.Rows.entry_sorted (PyProof.Rows.args_sorted1 _) ?_
      unfold Builtin.«sorted»
      refine wpAny_bind (m := checkCount "sorted" 1 1 _) (wpAny_pure ?_)
      refine wpAny_bind (PySem.W.kdu_collect (A := X.A.in1) (kdl_raw hs hx' hdt) (I.ok.hd hcalm) ho (by omega) fun h' tk acc hk it => ?_)
      have ea : acc.toList = ks.map fun x => Value.ref x.2.1 := by
        have hl : acc.toList.length = ks.length := by rw [Array.length_toList, it.1]; exact l1
        apply List.ext_getElem?
        intro j
        rw [List.getElem?_map]
        cases hj : acc.toList[j]? with
        | none => rw [List.getElem?_eq_none (by have := List.getElem?_eq_none_iff.mp hj; omega)]; rfl
        | some v =>
          obtain ⟨en, hen, hv⟩ := it.2 j v (by rw [← Array.getElem?_toList]; exact hj)
          have qe := entry_at he j
          rw [hen] at qe
          cases hb : ks[j]? with
          | none => rw [hb] at qe; exact nomatch (show some en = none from qe)
          | some b =>
            rw [hb] at qe
            rw [hv, Option.some.inj (show some en = some _ from qe)]
            rfl
      have rv : Vals (ks.map fun x => V.ref x.2.1) acc.toList := by rw [ea]; exact valsN ks
      have e := each_vals rv e1
      have I1 : Inv X pins σ H { s with heap := h', toks := tk } := I.kept hk
      have hal : acc.toList.length = ks.length := by rw [ea, List.length_map]
      have hbl : ((ks.map fun x => V.ref x.2.1).zip (kvs.map (·.1))).length = ks.length := by rw [← List.length_map (f := (·.1)), ← e1, List.length_map]
      have el : ((ks.map fun x => V.ref x.2.1).zip (kvs.map (·.1))).map (fun b : V × PyData => b.2) = kvs.map (·.1) := e2.symm
      refine wpAny_bind (wpAny_newList ?_ (by omega))
      have hoL : (h'.push (seqObj "list" acc.toList.toArray 0)).get? h'.objs.size = some (seqObj "list" acc.toList.toArray 0) := Heap.get?_push_size _ rfl
      show wpAny _ _ _ _ _ { s with heap := h'.push (seqObj "list" acc.toList.toArray 0), toks := tk }
      have er := (each_readsV I1 e e3).mono fun v b ⟨as, rr⟩ => (show ∃ as, Reads (h'.push (seqObj "list" acc.toList.toArray 0)) v b.2 as ∧ h'.objs.size ∉ as from ⟨as, PyProof.Rows.Reads.keeps (fun _ _ => Heap.get?_push_of_some _) rr, fun hm => Nat.lt_irrefl _ (reads_lt rr _ hm)⟩)
      refine wpAny_bind (wpAny_holding (PySem.W.list_sort_data (s := { s with heap := h'.push (seqObj "list" acc.toList.toArray 0), toks := tk }) (R := fun v b => RelV b.1 v) (enc := fun b : V × PyData => b.2) hoL e er (by rw [el]; exact h1) (by rw [el]; exact h2) (by omega) (fun b hb => by have := depth_mem (ds := kvs.map (·.1)) (d := b.2) (by rw [e2]; exact List.mem_map.2 ⟨b, hb, rfl⟩); show X.A.units + 1 + 1 + b.2.depth < cLine; omega) fun out ho' h1' => ?_))
      rw [leD_eq] at h1'
      obtain ⟨e', he'⟩ := PyProof.Rows.sortedHeap_at (vs := acc.toList) (out := out.toArray) hoL
      have hlen : ((((ks.map fun x => V.ref x.2.1).zip (kvs.map (·.1))).mergeSort leD).map (·.1)).length ≤ sizeLine := by
        rw [List.length_map, List.length_mergeSort, hbl]
        exact hz
      have hf : H h'.objs.size = none := I1.hok.fresh (Nat.le_refl _)
      refine wpAny_pure ⟨_, rfl, .ref h'.objs.size, upd H h'.objs.size (.lst _), I1.laid (t' := tk) (fun b u e => ?_) (Nat.le_refl _) (show ObjOk X.prog X.w _ _ _ (.lst _) from ⟨hlen, out, e', vals_each h1', he'⟩), rfl, q _ _ (sm_upd hf) (nr_lst hf ?_)⟩
      · have hb : b < h'.objs.size := Heap.lt_size e
        rw [PyProof.Rows.sortedHeap_old (Nat.ne_of_lt hb) (by rw [size_push']; exact Nat.lt_succ_of_lt hb)]
        exact Heap.get?_push_of_some _ e
      · have ss := sh_pairs (Z := zx X) (H := H) (bs := ((ks.map fun x => V.ref x.2.1).zip (kvs.map (·.1))).mergeSort leD) fun b hb => e3 b (List.mem_mergeSort.1 hb)
        rw [sort_snd, ← e2] at ss
        exact ss
    · cases ed
  | _ => cases ed
end
end Cv
end
section
/-! The V layer: more built-ins. -/
namespace Cv
open PySem L2
open PySem.Spec PyProof.Rows
section
variable {X : Cx} {G : Gh} {rm : Bool} {a b : Expr} {fa fb : M D} {pos : Pos}
theorem c_divmod : CallR X (.builtin "divmod") (rCN (zx X) dDivmod) := by
  intro pins s σ H xs us Q I r ⟨ds, z, hx, ed, q⟩
  unfold dDivmod at ed
  split at ed
  · split at ed
    · rename_i i j hj
      cases ed
      cases sh_int2 hx
      obtain ⟨u, w', rfl, ⟨t, rfl⟩, ⟨t', rfl⟩⟩ := vals2 r
      have pl : Vals [V.int (i / j), .int (i % j)] [Value.int (i / j) s.toks, .int (i % j) (s.toks + 1)] := .cons ⟨_, rfl⟩ (.cons ⟨_, rfl⟩ .nil)
      refine divmod_int (by omega) ?_ (.inl (PyProof.noPylong_of_log2 hj.2))
      rw [Int.fdiv_eq_ediv_of_nonneg i (by omega), Int.fmod_eq_emod_of_nonneg i (by omega)]
      exact ⟨.ref s.heap.objs.size, _, inv_tnew I pl (sz1000 (by simp)), rfl, q _ _ (sm_upd I.fresh) (nr_tup rfl I.fresh (.cons (.int _) (.cons (.int _) .nil)))⟩
    · cases ed
  · cases ed
/-- least, greatest of a list: one of its items -/
def rC1S (Z : Zx) (p : D → Option D) : List V → Hp → VK → Prop := fun xs H Q => ∃ x d r, xs = [x] ∧ Rp Z H x d ∧ p d = some r ∧ ∀ v, Sh Z H v r → Q v H
variable {x : Str} {id T : String} {pp : Pos}
theorem ve_b1S {p : D → Option D} (hc : CallR X (.builtin id) (rC1S (zx X) p)) (hg : Gl X x) (hm : X.mg x = none) (hv : bootBuiltins x = some (.builtin id)) (ha : VB X G a fa) (hZ : G.Z = zx X := by rfl) (hn : x ≠ "__name__" := by decide) (hdb : (x == ("__debug__" : Str)) = false := by decide)
    (hs : starEach [a] X.env = (false, eval a X.env) :: starEach [] X.env := by rfl) : VE X G (.Call (.Name x pp) [a] [] pos) (vC1 p fa) := pe_imp (pe_callB hc hg hm hv (pa_cons ha pa_nil hs) hn hdb hs rfl) (by
  obtain ⟨Z, cl, H0, S0, W, fx, fv, tp⟩ := G
  cases hZ
  rintro σ H Q ⟨ρ, S, k⟩
  refine ⟨ρ, S, k.bnd.mono fun x ρ1 k1 v H1 fz1 S1 r1 => ?_⟩
  obtain ⟨d, e, q⟩ := k1.lft
  exact ⟨v, x, d, rfl, r1, e, fun z sz => q z H1 fz1 S1 sz⟩)
def minOk (ds : List D) : Bool := allAlike ds && ds.all (fun d => !isN d) && PyData.plainAll ds && decide (PyData.depthAll ds ≤ 40)
def dMinD : D → Option D
  | .list (d :: ds) => if minOk (d :: ds) then some (PySem.W.minD d ds) else none
  | _ => none
theorem minOk_is {ds : List D} (h : minOk ds = true) : PySem.W.AlikeAll ds ∧ PyData.plainAll ds = true ∧ PyData.depthAll ds ≤ 40 := by
  simp only [minOk, Bool.and_eq_true, decide_eq_true_eq] at h
  obtain ⟨⟨⟨h1, h2⟩, h3⟩, h4⟩ := h
  refine ⟨⟨fun d hd d' hd' => List.all_eq_true.1 (List.all_eq_true.1 h1 d hd) d' hd', fun d hd z => ?_⟩, h3, h4⟩
  have := List.all_eq_true.1 h2 d hd
  rw [z] at this
  cases this
theorem c_minD (hc : X.calm = true) (hu : X.A.units + 64 < cLine) : CallR X (.builtin "min") (rC1S (zx X) dMinD) := by
  intro pins s σ H xs us Q I r ⟨x, d, z, e, hx, ed, q⟩
  subst e
  unfold dMinD at ed
  split at ed
  · split at ed
    · rename_i d ds ok
      cases ed
      obtain ⟨hA, hp, hde⟩ := minOk_is ok
      obtain ⟨l, vs, rfl, hr, sv⟩ := hx.lst
      obtain ⟨its, rv, hl, hz⟩ := I.list hr.sq
      rw [Vals.ref1 r]
      obtain ⟨as, ra⟩ := Sh.readsAll I _ _ _ sv rv
      refine PySem.W.min_list_data (I.ok.hd hc) hl.isList (by simpa using ra) hA (by omega) fun i v h' tk bs hv rd hk => ?_
      have hv' : its[i]? = some v := by simpa using hv
      obtain ⟨y, hy, ry⟩ := vals_at rv i v hv'
      obtain ⟨d', hd', sy⟩ := sv.get' hy
      have e1 := PySem.SeqAt.readOf_plain (plain_mem hp (minD_mem d ds)) rd
      have e2 := PySem.SeqAt.readsAll_map_plain _ _ _ hp (PyProof.Rows.ReadsAll.keeps hk ra)
      have e3 : (its.map (PySem.SeqAt.readOf h'))[i]? = some d' := by rw [e2]; exact hd'
      rw [List.getElem?_map, hv'] at e3
      have e4 : PySem.W.minD d ds = d' := e1.symm.trans (Option.some.inj e3)
      rw [e4] at q
      exact ⟨y, H, I.kept hk, ry, q y sy⟩
    · cases ed
  · cases ed
def dMaxD : D → Option D
  | .list (d :: ds) => if minOk (d :: ds) then some (PySem.W.maxD d ds) else none
  | _ => none
theorem maxD_mem (d : D) : ∀ ds : List D, PySem.W.maxD d ds ∈ d :: ds := by
  intro ds
  unfold PySem.W.maxD
  induction ds generalizing d with
  | nil => simp
  | cons x r ih =>
    rw [List.foldl_cons]
    rcases List.mem_cons.1 (ih (if PySem.W.dataLt d x then x else d)) with h | h
    · rw [h]; split <;> simp
    · simp [h]
theorem c_maxD (hc : X.calm = true) (hu : X.A.units + 64 < cLine) : CallR X (.builtin "max") (rC1S (zx X) dMaxD) := by
  intro pins s σ H xs us Q I r ⟨x, d, z, e, hx, ed, q⟩
  subst e
  unfold dMaxD at ed
  split at ed
  · split at ed
    · rename_i d ds ok
      cases ed
      obtain ⟨hA, hp, hde⟩ := minOk_is ok
      obtain ⟨l, vs, rfl, hr, sv⟩ := hx.lst
      obtain ⟨its, rv, hl, hz⟩ := I.list hr.sq
      rw [Vals.ref1 r]
      obtain ⟨as, ra⟩ := Sh.readsAll I _ _ _ sv rv
      refine PySem.W.max_list_data (I.ok.hd hc) hl.isList (by simpa using ra) hA (by omega) fun i v h' tk bs hv rd hk => ?_
      have hv' : its[i]? = some v := by simpa using hv
      obtain ⟨y, hy, ry⟩ := vals_at rv i v hv'
      obtain ⟨d', hd', sy⟩ := sv.get' hy
      have e1 := PySem.SeqAt.readOf_plain (plain_mem hp (maxD_mem d ds)) rd
      have e2 := PySem.SeqAt.readsAll_map_plain _ _ _ hp (PyProof.Rows.ReadsAll.keeps hk ra)
      have e3 : (its.map (PySem.SeqAt.readOf h'))[i]? = some d' := by rw [e2]; exact hd'
      rw [List.getElem?_map, hv'] at e3
      have e4 : PySem.W.maxD d ds = d' := e1.symm.trans (Option.some.inj e3)
      rw [e4] at q
      exact ⟨y, H, I.kept hk, ry, q y sy⟩
    · cases ed
  · cases ed
end
end Cv
end
section
/-! The V layer: dict displays, dict(pairs), repr. -/
namespace Cv
open PySem L2
section
variable {X : Cx} {G : Gh} {rm : Bool} {a b : Expr} {fa fb : M D} {pos : Pos}
theorem Stt.innO {H : Hp} {σ : L2.St} {ρ : Ev} {A : Addr} {o : HO} (S : Stt G H σ ρ) (hA : H A = none) (m : Mut (some o)) (nt : NoTab (some o)) : Stt (G.inn ((A, o) :: G.tp)) (upd H A o) σ ρ := by
  have sm := sm_upd (o := o) hA
  have S1 := S.same sm
  have fr := S.none_new hA
  refine ⟨S1.len, S1.val, S1.dis, S1.mv, S1.fix, fun q hq => ?_⟩
  rcases List.mem_cons.1 hq with rfl | hq
  · exact ⟨upd_same, ⟨m, fr.1, nt⟩, fr.2.1⟩
  · exact S1.tmp q hq
theorem Stt.outO {H : Hp} {σ : L2.St} {ρ : Ev} {A : Addr} {o o' : HO} (S : Stt (G.inn ((A, o) :: G.tp)) H σ ρ) (hn : ∀ q ∈ G.tp, q.1 ≠ A) (no : ∀ ps, o' ≠ .tbl ps) : Stt G (upd H A o') σ ρ ∧ FreshO G σ ρ A ∧ Fz H (upd H A o') := by
  obtain ⟨h1, h2, h3⟩ := S.tmp (A, o) (by simp [Gh.inn])
  have m : Mut (H A) := by rw [h1]; exact h2.1
  have fz := fz_mut (o := o') m
  refine ⟨⟨S.len, fun j s h => ?_, S.dis, S.mv.upd (.inl h2.2.1) (fun o u z => by rw [z] at m; exact m) (by rw [h1]; exact h2.2.2) no, S.fix, fun q hq => ?_⟩, ⟨h2.2.1, h3, hn⟩, fz⟩
  · obtain ⟨v, c1, c2⟩ := S.val j s h
    refine ⟨v, c1, SlOk.keep (G := G) c2 fz fun p hp ho => upd_ne fun z => ?_⟩
    subst z hp
    exact h3 j s h ho c1
  · obtain ⟨c1, c2⟩ := S.tmp q (List.mem_cons_of_mem _ hq)
    exact ⟨by rw [upd_ne (hn q hq)]; exact c1, c2⟩
/-- {k: v} -/
def vDisp1 (fk fv : M D) : M D := fun ρ => match bnd fk (fun k => bnd fv fun v => ret (k, v)) ρ with
  | some (.ok r ρ') => (match keyOf r.1 with
    | some _ => some (.ok (.dict [(r.1, r.2)]) ρ')
    | none => none)
  | _ => none
theorem vo_disp1 (hk : ∀ tp, VE X (G.inn tp) a fa) (hv : ∀ tp, VE X (G.inn tp) b fb) : VO X G (.Dict [some a] [b] pos) (vDisp1 fa fb) :=
  pe_imp (pe_disp (trs := [(tLE G fa, tLE G fb)]) (pps_cons ⟨fun pins s σ H Q I ⟨tp, h⟩ => (hk tp).run pins s σ H Q I h⟩ ⟨fun pins s σ H Q I ⟨tp, h⟩ => (hv tp).run pins s σ H Q I h⟩ pps_nil) rfl rfl (by simp) (by simp)) (by
  rintro σ H Q ⟨ρ, S, k⟩ p hp
  unfold vDisp1 at k
  cases hr : bnd fa (fun k => bnd fb fun v => ret (k, v)) ρ with
  | none => rw [hr] at k; exact k.elim
  | some r =>
    cases r with
    | ex _ => rw [hr] at k; exact k.elim
    | ok r ρ' =>
      rw [hr] at k
      simp only at k
      split at k
      · rename_i kk hkk
        obtain ⟨dk, ρ1, e1, e2⟩ := bnd_ok hr
        obtain ⟨dv, ρ2, e3, e4⟩ := bnd_ok e2
        cases e4
        have sm := sm_upd (o := .dK []) hp
        have hn : ∀ q ∈ G.tp, q.1 ≠ p := (S.none_new hp).2.2
        refine ⟨_, ρ, S.innO hp trivial nt_dK, (Kont.ofEq e1).mono fun dk' ρ1' ⟨z1, z2⟩ x H1 fz1 S1 s1 => ⟨_, ρ1, z2 ▸ S1, (Kont.ofEq e3).mono fun dv' ρ2' ⟨z3, z4⟩ y H2 fz2 S2 s2 => ?_⟩⟩
        subst z1 z3 z4
        obtain ⟨h1, h2, h3⟩ := S2.tmp (p, .dK []) (by simp [Gh.inn])
        obtain ⟨rfl, en⟩ := keyOf_kV (.sh s1) hkk
        have ed : dk' = keyD kk := by
          cases dk' <;> simp [keyOf] at hkk <;> subst hkk <;> rfl
        refine ⟨h1, [(kk, y)], rfl, by simp, ?_⟩
        have em : mergeK [] [(kk, y)] = [(kk, y)] := rfl
        rw [em]
        obtain ⟨S3, fr, fz⟩ := S2.outO (o' := .dK [(kk, y)]) hn (fun _ z => nomatch z)
        refine k _ _ ((Same.fz sm).trans (fz1.trans (fz2.trans fz))) S3 (show ∃ q, _ from ⟨p, rfl, .dK upd_same ?_, fr⟩)
        rw [ed]
        exact .cons (s2.up fz) .nil
      · exact k.elim)
/-! repr -/
theorem reads_plain : ∀ {h : Heap} {v : Value} {d : D} {as : List Addr}, Reads h v d as → True := fun _ => trivial
def dRepr : D → Option D
  | .int i => if i.natAbs.log2 < 1920 then some (.str (toString i)) else none
  | .none => some (.str "None")
  | .bool b => some (.str (if b then "True" else "False"))
  | .str x => if (reprText x).length ≤ sizeLine then some (.str (reprText x)) else none
  | d => if d.showable && !d.hasDict && decide (d.depth ≤ 40) && decide (d.shown.length ≤ sizeLine) then some (.str d.shown) else none
def isBox : D → Bool
  | .list _ => true
  | .tuple _ => true
  | .dict _ => true
  | _ => false
theorem rp_ref {Z : Zx} {H : Hp} {v : V} {d : D} (h : Rp Z H v d) (hd : isBox d = true) : ∃ a, v = .ref a := by
  cases d with
  | list ds => obtain ⟨a, _, e, _⟩ := h.lst; exact ⟨a, e⟩
  | tuple ds => obtain ⟨a, _, e, _⟩ := h.tup; exact ⟨a, e⟩
  | dict ds => obtain ⟨a, e, _⟩ := h.dic; exact ⟨a, e⟩
  | _ => cases hd
theorem c_repr (hG : X.A.guards = some []) (hu : X.A.units + 64 < cLine) : CallR X (.builtin "repr") (rC1 (zx X) dRepr) := by
  intro pins s σ H xs us Q I r ⟨x, d, z, e, hx, ed, q⟩
  subst e
  obtain ⟨u, rfl, rx⟩ := vals1 r
  have box : isBox d = true → (if d.showable && !d.hasDict && decide (d.depth ≤ 40) && decide (d.shown.length ≤ sizeLine) then some (PyData.str d.shown) else none) = some z → wpAny (model X.prog X.w) X.A (call (.builtin "repr") [u]) (EP X pins σ Q) X.xe s := by
    intro hd ez
    split at ez
    · rename_i ok
      cases ez
      simp only [Bool.and_eq_true, decide_eq_true_eq] at ok
      obtain ⟨⟨⟨o1, o2⟩, o3⟩, o4⟩ := ok
      obtain ⟨a, rfl⟩ := rp_ref hx hd
      obtain ⟨as, ra⟩ := hx.reads I rx
      cases rx
      exact repr_of_reads' ra o1 (fun hh => by rw [hh] at o2; cases o2) hG (by omega) (fun _ _ h => h) (fun h' t tk hk => ⟨.str _, H, I.kept hk, ⟨_, rfl⟩, q _ _ (Same.refl H) (nr_sh rfl (.str _))⟩) o4
    · cases ez
  cases d with
  | int i =>
    simp only [dRepr] at ed
    split at ed
    · cases ed
      cases hx.int
      obtain ⟨t, rfl⟩ := rx
      exact PySem.P.repr_of_int (by assumption) ⟨.str _, H, I.tok _, ⟨_, rfl⟩, q _ _ (Same.refl H) (nr_sh rfl (.str _))⟩
    · cases ed
  | none =>
    cases ed
    cases hx.non
    cases rx
    exact PySem.P.repr_of_none ⟨.str _, H, I.tok _, ⟨_, rfl⟩, q _ _ (Same.refl H) (nr_sh rfl (.str _))⟩
  | bool b =>
    cases ed
    cases hx.bl
    cases rx
    refine PySem.P.repr_of_bool ⟨.str (if b then "True" else "False"), H, I.tok _, ⟨s.toks, ?_⟩, q _ _ (Same.refl H) (nr_sh rfl (.str _))⟩
    cases b <;> rfl
  | str x =>
    simp only [dRepr] at ed
    split at ed
    · cases ed
      cases hx.str
      obtain ⟨t, rfl⟩ := rx
      exact PySem.P.repr_of_str ⟨.str _, H, I.tok _, ⟨_, rfl⟩, q _ _ (Same.refl H) (nr_sh rfl (.str _))⟩ (by assumption)
    · cases ed
  | list ds => exact box rfl ed
  | tuple ds => exact box rfl ed
  | dict ds => exact box rfl ed
end
end Cv
end
section
/-! The V layer: dict(list of pairs). -/
namespace Cv
open PySem L2
open PySem.Spec PyProof.Rows
section
variable {X : Cx} {G : Gh}
def pairsOf : List D → Option (List (D × D))
  | [] => some []
  | .tuple [k, v] :: r => (pairsOf r).map ((k, v) :: ·)
  | _ => none
/-- the pairs put in one by one; keys all tuples, or all whole numbers and texts -/
def putAll (acc : List (D × D)) : List (D × D) → List (D × D)
  | [] => acc
  | p :: r => putAll (match nk p.1 with
    | some n => putD acc p.1 n p.2
    | none => acc) r
def tupKey (d : D) : Bool := isT d && (match nk d with
  | some k => decide (k.depth ≤ 8)
  | none => false)
def dDict : D → Option D
  | .list ds => (match pairsOf ds with
    | some ps => if ps.length ≤ 100000 && ps.all (fun p => tupKey p.1) then some (.dict (putAll [] ps)) else none
    | none => none)
  | _ => none
/-- the pairs as they stand -/
structure PairsAt (X : Cx) (H : Hp) (h : Heap) (vs : List V) (its : List Value) (ps : List (D × D)) (ts : List Addr) (kv : List (Value × Value)) (ws : List (NestedKey × Addr × V)) (xs : List (NestedKey × Addr × Value)) : Prop where
  l1 : its.length = ps.length
  l2 : kv.length = ps.length
  l3 : xs.length = ps.length
  l4 : ts.length = ps.length
  it : ∀ (j : Nat) (k v : Value), kv[j]? = some (k, v) → ∃ t, ts[j]? = some t ∧ its[j]? = some (.ref t) ∧ PairAt h t k v ∧ ∃ n b, xs[j]? = some (n, b, v) ∧ k = .ref b
  is : ∀ x ∈ xs, (nestedKind X.prog X.w).is h x.1 x.2.1
  pr : Paired RelN ws xs
  sh : ∀ (acc : List (D × D)) (aw : List (NestedKey × Addr × V)) (ax : List (NestedKey × Addr × Value)), ShN (zx X) H aw acc → Paired RelN aw ax → ∃ rw, ShN (zx X) H rw (putAll acc ps) ∧ Paired RelN rw (storedAllH ax xs)
theorem pairsAt {pins : List (Addr × Obj)} {σ : L2.St} {H : Hp} {s : Shared} (I : Inv X pins σ H s) : ∀ {ps : List (D × D)} {ds : List D} {vs : List V} {its : List Value}, pairsOf ds = some ps → (ps.all fun p => tupKey p.1) = true → ShAll (zx X) H vs ds → Vals vs its →
    ∃ ts kv ws xs, PairsAt X H s.heap vs its ps ts kv ws xs
  | [], ds, vs, its, e, _, sh, rv => by
    have : ds = [] := by
      cases ds with
      | nil => rfl
      | cons d r =>
        unfold pairsOf at e
        split at e
        · rename_i h; cases h
        · obtain ⟨_, _, z⟩ := Option.map_eq_some_iff.1 e
          cases z
        · cases e
    subst this
    cases sh
    cases rv
    exact ⟨[], [], [], [], rfl, rfl, rfl, rfl, fun j k v h => by simp at h, fun x hx => (by cases hx), .nil, fun acc aw ax h1 h2 => ⟨aw, h1, h2⟩⟩
  | (k, v) :: ps, ds, vs, its, e, ok, sh, rv => by
    cases ds with
    | nil => cases e
    | cons d r =>
      have hd : d = .tuple [k, v] ∧ pairsOf r = some ps := by
        unfold pairsOf at e
        split at e
        · rename_i h; cases h
        · rename_i k' v' r' h
          cases h
          obtain ⟨ps', e', z⟩ := Option.map_eq_some_iff.1 e
          cases z
          exact ⟨rfl, e'⟩
        · cases e
      obtain ⟨rfl, er⟩ := hd
      rw [List.all_cons, Bool.and_eq_true] at ok
      obtain ⟨ok1, ok2⟩ := ok
      cases sh with
      | cons s1 s2 =>
        cases rv with
        | cons r1 r2 =>
          rename_i vx vr ux ur
          obtain ⟨ts, kv, ws, xs, P⟩ := pairsAt I er ok2 s2 r2
          obtain ⟨t, vv, ev, ht, hv⟩ := (Rp.sh s1).tup
          subst ev
          cases r1
          cases hv with
          | cons c1 c2 =>
            cases c2 with
            | cons c3 c4 =>
              cases c4
              rename_i x y
              obtain ⟨jts, rj, ⟨o, ho, hc, n, hdt⟩, _⟩ := I.tuple ht.sq
              cases rj with
              | cons rk rj =>
                cases rj with
                | cons rw' rj =>
                  cases rj
                  rename_i uk uv
                  simp only [tupKey, Bool.and_eq_true] at ok1
                  obtain ⟨o1, o2⟩ := ok1
                  cases k with
                  | tuple ks =>
                    split at o2
                    · rename_i nkk en
                      obtain ⟨b, _, eb, hb, hbv⟩ := (Rp.sh c1).tup
                      subst eb
                      cases rk
                      have hdp : nkk.depth ≤ 8 := of_decide_eq_true o2
                      refine ⟨t :: ts, (.ref b, uv) :: kv, (nkk, b, y) :: ws, (nkk, b, uv) :: xs, by simp [P.l1], by simp [P.l2], by simp [P.l3], by simp [P.l4], fun j k' v' hj => ?_, fun x hx => ?_, .cons ⟨rfl, rfl, rw'⟩ P.pr, fun acc aw ax h1 h2 => ?_⟩
                      · cases j with
                        | zero =>
                          simp at hj
                          obtain ⟨rfl, rfl⟩ := hj
                          exact ⟨t, rfl, rfl, .inl ⟨o, ho, hc, n, by simpa using hdt⟩, nkk, b, rfl, rfl⟩
                        | succ j =>
                          simp at hj
                          simpa using P.it j k' v' hj
                      · rcases List.mem_cons.1 hx with rfl | hx
                        · exact ⟨nest_is I _ _ _ _ c1 rfl en, hdp⟩
                        · exact P.is x hx
                      · have q1 := putN_sh c1 en hdp c3 h1
                        have q2 := putN_stored (k := nkk) (b := b) rw' h2
                        obtain ⟨rw2, q3, q4⟩ := P.sh _ _ _ q1 q2
                        refine ⟨rw2, ?_, q4⟩
                        simp only [putAll, en]
                        exact q3
                    · cases o2
                  | _ => cases o1
theorem putAll_ne : ∀ {ps : List (D × D)} {acc : List (D × D)}, acc ≠ [] → putAll acc ps ≠ []
  | [], acc, h => h
  | p :: r, acc, h => by
    unfold putAll
    refine putAll_ne ?_
    split
    · exact putD_ne _ _ _ _
    · exact h
theorem c_dict (hcalm : X.calm = true) (hu : X.A.units + 64 < cLine) : CallR X (.type "dict") (rC1 (zx X) dDict) := by
  intro pins s σ H xs us Q I r ⟨x, d, z, e, hx, ed, q⟩
  subst e
  cases d with
  | list ds =>
    simp only [dDict] at ed
    split at ed
    · rename_i ps ep
      split at ed
      · rename_i ok
        cases ed
        simp only [Bool.and_eq_true, decide_eq_true_eq] at ok
        obtain ⟨o1, o3⟩ := ok
        obtain ⟨a, vs, rfl, hr, sv⟩ := hx.lst
        obtain ⟨_, its, n, rv, hl, e0⟩ := inv_lst I hr
        rw [Vals.ref1 r]
        obtain ⟨ts, kv, ws, xs, P⟩ := pairsAt I ep o3 sv rv
        have big : sizeLine = 16777216 := sizeLine_eq
        refine call_dict_pairsH (knd := nestedKind X.prog X.w) (ps := xs) (PairArg.list a its.toArray (fun j => ts.getD j 0) kv) (I.ok.hd hcalm) (show X.A.units + 1 + 1 + 8 < cLine by omega) ⟨⟨_, n, e0, rfl, rfl, rfl⟩, by simp [P.l1, P.l2], fun j k v hj => ?_⟩ ⟨by rw [P.l3, P.l2], fun i k v hi => ?_⟩ (fun h' hk x hx' => ?_) (by rw [P.l2]; omega) fun h' tk hd' hk => ?_
        · obtain ⟨t, h1, h2, h3, _⟩ := P.it j k v hj
          have : ts.getD j 0 = t := by simp [List.getD, h1]
          dsimp only
          rw [this]
          exact ⟨by simpa using h2, h3⟩
        · obtain ⟨t, _, _, _, nn, b, h4, h5⟩ := P.it i k v hi
          exact ⟨nn, b, h4, h5⟩
        · obtain ⟨c1, c2⟩ := P.is x hx'
          exact ⟨NestedIs.at (fun b ob vs n hb _ => hk b ob (Nat.ne_of_lt (Heap.lt_size hb)) (by simp) hb) _ _ c1, c2⟩
        · obtain ⟨rw2, q1, q2⟩ := P.sh [] [] [] .nil .nil
          obtain ⟨ob, es, ep', hq, h2, h3, h4, _, h5⟩ := hd'
          have I1 : Inv X pins σ H { s with heap := h', toks := tk } := I.kept fun b o e => hk b o (by simp) e
          have hf : H s.heap.objs.size = none := I.hok.fresh (Nat.le_refl _)
          have hl2 : rw2.length ≤ sizeLine := by
            have h6 : (storedAllH ([] : List (NestedKey × Addr × Value)) xs).length ≤ xs.length := by
              have gen : ∀ (ys acc : List (NestedKey × Addr × Value)), (storedAllH acc ys).length ≤ acc.length + ys.length := by
                intro ys
                induction ys with
                | nil => intro acc; simp [storedAllH]
                | cons y ys ih =>
                  intro acc
                  have := ih (storedH acc y.1 y.2.1 y.2.2)
                  have l : (storedH acc y.1 y.2.1 y.2.2).length ≤ acc.length + 1 := by unfold storedH; split <;> simp
                  show (storedAllH (storedH acc y.1 y.2.1 y.2.2) ys).length ≤ _
                  rw [List.length_cons]
                  omega
              simpa using gen xs []
            have h7 : rw2.length = _ := Paired.length q2
            have := P.l3
            omega
          have hns : (s.heap.objs.size == sysModules) = false := by
            have hb := I.big
            exact beq_eq_false_iff_ne.mpr (Nat.ne_of_gt hb)
          by_cases o2 : ps = []
          · subst o2
            have hx0 : xs = [] := List.eq_nil_of_length_eq_zero P.l3
            subst hx0
            have he0 : es = #[] := by
              have : es.toList = [] := h4
              exact Array.toList_eq_nil_iff.mp this
            subst he0
            have sm := sm_upd (o := .dK []) hf
            refine ⟨.ref s.heap.objs.size, upd H s.heap.objs.size (.dK []), I.laid (t' := tk) (h' := h') (fun b o e => hk b o (by simp) e) (Nat.le_refl _) ⟨Nat.zero_le _, hns, [], .nil, ⟨ob, #[], ep', hq, h2, h3, fun _ he => by simp at he, by first | trivial | exact .nil | simp [Pairs], List.nodup_nil⟩⟩, rfl, q _ _ sm (nr_ow rfl hf (.dK upd_same .nil))⟩
          have sm := sm_upd (o := oN (zx X) s.heap.objs.size rw2) hf
          have hne : putAll [] ps ≠ [] := by
            cases ps with
            | nil => exact absurd rfl o2
            | cons p r =>
              unfold putAll
              refine putAll_ne ?_
              rw [List.all_cons, Bool.and_eq_true] at o3
              have := o3.1
              simp only [tupKey, Bool.and_eq_true] at this
              split
              · exact putD_ne _ _ _ _
              · rename_i hn
                rw [hn] at this
                cases this.2
          refine ⟨.ref s.heap.objs.size, upd H s.heap.objs.size (oN (zx X) s.heap.objs.size rw2), I.laid (t' := tk) (h' := h') (fun b o e => hk b o (by simp) e) (Nat.le_refl _) ⟨⟨hns, hl2, _, q2, ob, es, ep', hq, h2, h3, h4, h5⟩, ⟨ob, hq⟩, ?_⟩, rfl, q _ _ sm (nr_ow rfl hf (.dN upd_same (q1.up (Same.fz sm)) hne))⟩
          rintro g1 g2 ⟨c1, c2, ys, c3, ob', es', ep2, c4, c5⟩ hk2
          exact ⟨c1, c2, ys, c3, ob', es', ep2, hk2 _ c4, c5⟩
      · cases ed
    · cases ed
  | _ => cases ed
variable {rm : Bool} {i j : Nat} {x y : Str} {a b : Expr} {fa fb : M D} {px py pt pt2 pos : Pos} {kt k2 : Nat}
/-- a, b = e1, e2, both locked -/
def vParE (i j : Nat) (fa fb : M D) : M Fl := bnd fa fun x => bnd fb fun y => bnd (vSetSh i x) fun _ => bnd (vSetSh j y) fun _ => ret .nx
theorem vs_parE (hc : X.calm = true) (hN : X.N.Nodup) (hi : X.N[i]? = some x) (hj : X.N[j]? = some y) (hij : i ≠ j) (hx : X.env.scope.names.lookup x = some .local) (hy : X.env.scope.names.lookup y = some .local)
    (ha : VE X G a fa) (hb : VE X G b fb) (hfi : i ∉ G.fx) (hfj : j ∉ G.fx) (hw : swappedStores [.Tuple [.Name x px, .Name y py] kt pt] (.Tuple [a, b] k2 pt2) X.env = pure (some [x, y])) (hs : swapsWithSole [.Tuple [.Name x px, .Name y py] kt pt] (.Tuple [a, b] k2 pt2) pos.line X.env = pure false := by rfl)
    (hs1 : starEach [a, b] X.env = (false, eval a X.env) :: starEach [b] X.env := by rfl) (hs2 : starEach [b] X.env = (false, eval b X.env) :: starEach [] X.env := by rfl) : VS X G rm (.Assign [.Tuple [.Name x px, .Name y py] kt pt] (.Tuple [a, b] k2 pt2) pos) (vParE i j fa fb) :=
  ps_imp (ps_par hc hN hi hj hij hx hy (pa_cons ha (pa_cons hb pa_nil hs2) hs1) hw hs) fun D σ H ⟨ρ, S, k⟩ => ⟨ρ, S, k.bnd.mono fun d ρ1 k1 v H1 fz S1 sh => ⟨ρ1, S1, k1.bnd.mono fun d2 ρ2 k2 w H2 fz2 S2 sh2 => ⟨v, w, rfl, k2 _ H2 (fz.trans fz2) ((S2.setSh hfi (sh.up fz2)).setSh hfj sh2)⟩⟩⟩
/-- a, b = e1, e2, the first one's own, kept while the second is reckoned -/
def vParF (i j : Nat) (fa fb : M D) : M Fl := bnd fa fun x => if isC x then fun ρ => (match fb ρ with
  | some (.ok y ρ') => (bnd (vSetOw i x) fun _ => bnd (vSetSh j y) fun _ => ret .nx) ρ'
  | _ => none) else fun _ => none
theorem vs_parF (hc : X.calm = true) (hN : X.N.Nodup) (hi : X.N[i]? = some x) (hj : X.N[j]? = some y) (hij : i ≠ j) (hx : X.env.scope.names.lookup x = some .local) (hy : X.env.scope.names.lookup y = some .local)
    (ha : VO X G a fa) (hb : ∀ tp, VE X (G.inn tp) b fb) (hfi : i ∉ G.fx) (hfj : j ∉ G.fx) (hw : swappedStores [.Tuple [.Name x px, .Name y py] kt pt] (.Tuple [a, b] k2 pt2) X.env = pure (some [x, y])) (hs : swapsWithSole [.Tuple [.Name x px, .Name y py] kt pt] (.Tuple [a, b] k2 pt2) pos.line X.env = pure false := by rfl)
    (hs1 : starEach [a, b] X.env = (false, eval a X.env) :: starEach [b] X.env := by rfl) (hs2 : starEach [b] X.env = (false, eval b X.env) :: starEach [] X.env := by rfl) : VS X G rm (.Assign [.Tuple [.Name x px, .Name y py] kt pt] (.Tuple [a, b] k2 pt2) pos) (vParF i j fa fb) :=
  ps_imp (ps_par hc hN hi hj hij hx hy (pa_cons ha (pa_cons (te := tLE G fb) ⟨fun pins s σ H Q I ⟨tp, h⟩ => (hb tp).run pins s σ H Q I h⟩ pa_nil hs2) hs1) hw hs) fun D σ H ⟨ρ, S, k⟩ => ⟨ρ, S, k.bnd.mono fun d ρ1 k1 v H1 fz S1 ro => by
    split at k1
    · rename_i hC
      unfold RO at ro
      rw [hC] at ro
      obtain ⟨p, rfl, ow, fr⟩ := ro
      obtain ⟨u, eu, mu, _⟩ := ow.frz
      have Si : Stt (G.inn ((p, u) :: G.tp)) H1 σ ρ1 := by
        refine ⟨S1.len, S1.val, S1.dis, S1.mv, S1.fix, fun q hq => ?_⟩
        rcases List.mem_cons.1 hq with rfl | hq
        · exact ⟨eu, ⟨mu, fr.1, by rw [← eu]; exact ow.noTab⟩, fr.2.1⟩
        · exact S1.tmp q hq
      dsimp only at k1
      cases hr : fb ρ1 with
      | none => rw [hr] at k1; exact k1.elim
      | some r =>
        cases r with
        | ex _ => rw [hr] at k1; exact k1.elim
        | ok d2 ρ2 =>
          rw [hr] at k1
          refine ⟨_, ρ1, Si, (Kont.ofEq hr).mono fun d2' ρ2' ⟨z1, z2⟩ w H2 fz2 S2 sh2 => ⟨.ref p, w, rfl, ?_⟩⟩
          subst z1 z2
          obtain ⟨c1, c2, c3⟩ := S2.tmp (p, u) (by simp [Gh.inn])
          have S3 : Stt G H2 σ ρ2' := ⟨S2.len, S2.val, S2.dis, S2.mv, S2.fix, fun q hq => S2.tmp q (List.mem_cons_of_mem _ hq)⟩
          have ow2 : Ow G.Z H2 (.ref p) d := ow.keep fz2 (by rw [c1, eu])
          have S4 := S3.setOw (i := i) hfi (v := .ref p) (d := d) (by unfold RO; rw [hC]; exact ⟨p, rfl, ow2, c2.2.1, c3, fr.2.2⟩)
          exact k1 _ H2 (fz.trans fz2) (S4.setSh hfj sh2)
    · exact k1.elim⟩
end
end Cv
end
section
/-! The V layer: defs that ask repr of things (no repr is under way around them); the end of a law. -/
namespace Cv
open PySem L2
open PySem.Spec PyProof.Rows
/-- as FnOk, called where no repr is under way -/
structure FnG (P : Program) (w : World) (K : PySem.W.Frag) (mg : Str → Option Value) (base : Heap) (CX : CXT) (k : Nat) (f : Addr) (fd : FuncData) (ps : List Str) (sp : Sp) : Prop where
  len : ∀ vs H Q E, sp vs H Q E → vs.length = ps.length
  run : ∀ (A : Around) (outer : List Env) (s : Shared) (H : Hp) (args : Args) (us : List Value) (vs : List V) (Q : VK) (E : XK), Room k A → A.guards = some [] → Env0 P w K mg base A outer s H → BindsTo s fd args (ps.zip us) → Vals vs us → sp vs H Q E → codeAny (model P w) A (.call (.ref f) args) (CR CX outer P w H s Q E) s
theorem gd_deeper (A : Around) (env : Env) : (A.deeper env).guards = A.guards := rfl
section
variable {P : Program} {w : World} {K : PySem.W.Frag} {mg : Str → Option Value} {base : Heap} {cl : Cl} {CX : CXT}
theorem okGC {x qual : Str} {st : Stmt} {f : Addr} {fd : FuncData} {N ps : List Str} {k : Nat} {sp : Sp} (F : Fun K x qual st f fd) (S : FnScope N ps (defScope st)) (len : ∀ vs H Q E, sp vs H Q E → vs.length = ps.length)
    (hb : ∀ (cdv : Value), fd.code = cdv → ∀ (A : Around) (outer : List Env) (s : Shared) (H : Hp) (vs : List V) (Q : VK) (E : XK), Room k (A.deeper (envOfC qual (defScope st) s.heap.objs.size f cdv)) → A.guards = some [] → sp vs H Q E →
      ∃ t, PSs (cxOf CX P w K mg base N qual (defScope st) f cdv A outer s H E) (defBody st) t ∧ t { nx := fun _ H' => Q .non H', rt := Q } (L2.start N vs) H) : FnG P w K mg base CX (k + 1) f fd ps sp := by
  obtain ⟨oc, od, kV, doc, pm, an, cdv, ct, osl, rfl, lk, hcd⟩ := F.ex
  refine ⟨len, fun A outer s H args us vs Q E hr hg env binds rv hsp => ?_⟩
  have same : ∀ b o, base.get? b = some o → s.heap.get? b = some o := fun b o e => (env.bs b o e).1
  have kin : K.In s.heap := env.mod.kin.keeps same
  refine codeAny_call_function hr.depth (kin _ _ lk) rfl S.co S.gen rfl (PySem.W.codeRec_of kin hcd) (binds _ _ _ _ ?_)
  refine wpAny_newFunctionEnv_cells S.kind (fun ⟨n, v⟩ hy => (S.par n (List.of_mem_zip hy).1).imp id fun q => ⟨q, PySem.W.cellsFrom_some _ _ _ (.inl q)⟩) fun fr hfr s1 born => ?_
  subst hfr
  refine ⟨(env.mod.nolimit.keeps same).keeps born.toInCall.keep, codeAny_func ?_⟩
  obtain ⟨t, pt, q⟩ := hb cdv rfl A outer s H vs Q E (hr.deeper _) hg hsp
  have I : Inv (cxOf CX P w K mg base N qual (defScope st) f cdv A outer s H E) [] (L2.start N vs) H s1 := inv_start S hr.hd env (len _ _ _ _ hsp) rv born
  refine wpAny_mono (pt.run [] s1 (L2.start N vs) H _ I q) (fun fl s2 end_ => ?_) fun e s2 z => z
  cases fl with
  | ret u => obtain ⟨v, σ', H', J, rv', q'⟩ := end_; exact ⟨v, H', J.os, J.bare, J.base, J.hok, rv', q'⟩
  | next => obtain ⟨σ', H', J, q'⟩ := end_; exact ⟨.non, H', J.os, J.bare, J.base, J.hok, rfl, q'⟩
  | brk => obtain ⟨_, _, _, z⟩ := end_; exact z.elim
  | cont => obtain ⟨_, _, _, z⟩ := end_; exact z.elim
theorem def_okGC {x qual : Str} {st : Stmt} {f : Addr} {fd : FuncData} {N ps : List Str} {k np : Nat} {fx : List Nat} {rm : Bool} {body : M Fl} (F : Fun K x qual st f fd) (S : FnScope N ps (defScope st)) (hnp : ps.length = np) (hp : np ≤ N.length) (hfx : (fx.all fun i => decide (i < np)) = true)
    (hb : ∀ (cdv : Value), fd.code = cdv → ∀ (A : Around) (outer : List Env) (s : Shared) (H : Hp) (vs : List V) (E : XK), Room k (A.deeper (envOfC qual (defScope st) s.heap.objs.size f cdv)) → (cxOf (L2.CX P w) P w K mg base N qual (defScope st) f cdv A outer s H E).A.guards = some [] → VSs (cxOf (L2.CX P w) P w K mg base N qual (defScope st) f cdv A outer s H E) (gh ⟨P, w, K⟩ cl H E fx vs) rm (defBody st) body) :
    FnG P w K mg base (L2.CX P w) (k + 1) f fd ps (spV ⟨P, w, K⟩ cl np fx rm (runF np fx N.length body)) := by
  refine okGC F S (fun vs H Q E h => by rw [hnp]; exact h.1) fun cdv hcd A outer s H vs Q E hr hg hsp => ?_
  exact body_ok (E := E) (fun _ _ _ h => h) hp hfx hsp (hb cdv hcd A outer s H vs E hr hg)
theorem def_okG {x qual : Str} {st : Stmt} {f : Addr} {fd : FuncData} {N ps : List Str} {k np : Nat} {fx : List Nat} {rm : Bool} {body : M Fl} (F : Fun K x qual st f fd) (S : FnScope N ps (defScope st)) (hnp : ps.length = np) (hp : np ≤ N.length) (hfx : (fx.all fun i => decide (i < np)) = true)
    (hb : ∀ (cdv : Value) (A : Around) (outer : List Env) (s : Shared) (H : Hp) (vs : List V) (E : XK), Room k (A.deeper (envOfC qual (defScope st) s.heap.objs.size f cdv)) → (cxOf (L2.CX P w) P w K mg base N qual (defScope st) f cdv A outer s H E).A.guards = some [] → VSs (cxOf (L2.CX P w) P w K mg base N qual (defScope st) f cdv A outer s H E) (gh ⟨P, w, K⟩ cl H E fx vs) rm (defBody st) body) :
    FnG P w K mg base (L2.CX P w) (k + 1) f fd ps (spV ⟨P, w, K⟩ cl np fx rm (runF np fx N.length body)) := by
  refine okGC F S (fun vs H Q E h => by rw [hnp]; exact h.1) fun cdv _ A outer s H vs Q E hr hg hsp => ?_
  exact body_ok (E := E) (fun _ _ _ h => h) hp hfx hsp (hb cdv A outer s H vs E hr hg)
end
section
variable {X : Cx} {G : Gh} {CX : CXT} {k : Nat} {f : Addr} {fd : FuncData} {ps : List Str} {x : Str} {e : Expr} {es : List Expr} {p pos : Pos} {fs : M (List D)} {mf : List D → Option Rf} {np : Nat} {sp : Sp} {ds : List Value} {dvs : List V} {E : XK} {t : TA}
theorem pe_callG (F : FnG X.prog X.w X.K X.mg X.base CX k f fd ps sp) (hG : X.A.guards = some []) (hr : Room k X.A) (hg : Gl X x) (hm : X.mg x = some (.ref f)) (hk : PySem.W.keepIn X.K (.ref f) = true) (hb : Binds X.K fd ps []) (hx : Passes CX X E)
    (ha : PA X (e :: es) t) (hdb : (x == ("__debug__" : Str)) = false := by decide) (he : starEach (e :: es) X.env = (false, eval e X.env) :: starEach es X.env := by rfl) (hpl : (backTo pos (starEach es X.env)).any (·.1) = false := by rfl) : PE X (.Call (.Name x p) (e :: es) [] pos) (tCall sp [] E t) := by
  refine ⟨fun pins s σ H Q I h => wpAny_Call_Name_kw (ld_glob I hg hm (PySem.W.callWith_K (h₀ := X.base) I.ok.mod.kin hk (thn (ha.run pos pins s σ H _ I h) fun us s1 ⟨vs, H1, I1, r, q⟩ => ⟨I1.kIn, ?_⟩) he hpl) hdb)⟩
  have q : sp (vs ++ []) H1 Q E := q
  rw [List.append_nil] at q
  have hl : us.length = ps.length := by rw [← r.length]; exact F.len _ _ _ _ q
  have b1 := hb s1 us I1.kIn (by rw [List.append_nil]; exact hl)
  rw [List.append_nil] at b1
  refine wpAny_call (codeAny_mono (F.run X.A X.stack s1 H1 ⟨us, []⟩ us vs Q E hr hG I1.env0 b1 r q) fun out s2 z => ?_)
  cases out with
  | error e => exact hx pins σ H1 s1 e s2 I1 z
  | ok fl =>
    cases fl with
    | ret u => exact I1.after z
    | next => exact z.elim
    | brk => exact z.elim
    | cont => exact z.elim
theorem ve_callG {cl : Cl} (F : FnG X.prog X.w X.K X.mg X.base CX k f fd ps (spV (zx X) cl np [] false mf)) (hG : X.A.guards = some []) (hr : Room k X.A) (hg : Gl X x) (hm : X.mg x = some (.ref f)) (hk : PySem.W.keepIn X.K (.ref f) = true) (hb : Binds X.K fd ps []) (hx : Passes CX X G.W) (hl : ∀ ds r, mf ds = some r → ds.length = np)
    (ha : VA X G (e :: es) fs) (hcl : G.cl = cl := by rfl) (hZ : G.Z = zx X := by rfl) (hdb : (x == ("__debug__" : Str)) = false := by decide) (he : starEach (e :: es) X.env = (false, eval e X.env) :: starEach es X.env := by rfl) (hpl : (backTo pos (starEach es X.env)).any (·.1) = false := by rfl) :
    VE X G (.Call (.Name x p) (e :: es) [] pos) (vCall mf fs) := pe_imp (pe_callG F hG hr hg hm hk hb hx ha hdb he hpl) (tcallE hcl hZ hl)
theorem ve_callGQ {cl : Cl} {q j : Nat} (F : FnG X.prog X.w X.K X.mg X.base CX k f fd ps (spV (zx X) cl np [q] false mf)) (hG : X.A.guards = some []) (hr : Room k X.A) (hg : Gl X x) (hm : X.mg x = some (.ref f)) (hk : PySem.W.keepIn X.K (.ref f) = true) (hb : Binds X.K fd ps []) (hx : Passes CX X G.W) (hl : ∀ ds r, mf ds = some r → ds.length = np)
    (ha : VQ X G q j (e :: es) fs) (hcl : G.cl = cl := by rfl) (hZ : G.Z = zx X := by rfl) (hdb : (x == ("__debug__" : Str)) = false := by decide) (he : starEach (e :: es) X.env = (false, eval e X.env) :: starEach es X.env := by rfl) (hpl : (backTo pos (starEach es X.env)).any (·.1) = false := by rfl) :
    VE X G (.Call (.Name x p) (e :: es) [] pos) (vCallQ mf q j fs) := pe_imp (pe_callG F hG hr hg hm hk hb hx ha hdb he hpl) (tcallQ hcl hZ hl)
end
/-- the table of the modules is a dict -/
def SysB (base : Heap) : Prop := ∃ (o : Obj) (es : Array DictEntry) (ep : Nat), base.get? sysModules = some o ∧ o.data = .dict es ep
theorem sysB_of {h : Heap} (n : h.NoSeer) : SysB h := by
  obtain ⟨_, ⟨o, es, ep, e, d, _⟩, _⟩ := n.mods
  exact ⟨o, es, ep, e, d⟩
/-! ### the end of a law -/
/-- what is tracked where the law begins: the script, unless it is of the written part; the tables of code objects, empty -/
def atLaw (K : PySem.W.Frag) (a : Addr) (o : Obj) (ns : List Int) (cs : List (Addr × Addr)) : Hp := fun b => if b = a ∧ K.lookup a = none then some (.frz o (.lst (ns.map V.int))) else if (cs.any fun p => decide (p.2 = b)) = true then some (.tbl #[]) else none
abbrev tabO : Obj := { cls := .none, data := .fields #[] }
theorem law_callG {P : Program} {w : World} {K : PySem.W.Frag} {mg mb : Str → Option Value} {CX : CXT} {k : Nat} {fa a : Addr} {fd : FuncData} {x : Str} {sp : Sp} {s : Shared} {its : List Value} {ns : List Int} {cs : List (Addr × Addr)} (kin : K.In s.heap) (glob : s.heap.Ns mainGlobals mg) (blt : s.heap.Ns builtinsNs mb)
    (boot : ∀ x : Str, x ≠ "__name__" → mb x = bootBuiltins x) (lim : s.heap.NoLimit) (gens : s.gens = #[]) (scr : s.heap.get? a = some { cls := .type "list", data := .seq its.toArray }) (isI : IntsAre its ns) (short : ns.length ≤ sizeLine) (room : Room k callerA)
    (tabs : ∀ p ∈ cs, s.heap.get? p.2 = some tabO) (notK : ∀ p ∈ cs, K.lookup p.2 = none) (codes : ∀ p ∈ cs, PySem.W.CodeHd s.heap p.1 p.2)
    (bmain : ∃ (bm : Addr) (ob : Obj), mg "__builtins__" = some (.ref bm) ∧ bm ≠ builtinsNs ∧ s.heap.get? bm = some ob ∧ ob.cls = .type "module" ∧ ob.dict = some builtinsNs ∧ ob.data = .plain)
    (F : ∀ base : Heap, K.In base → base.Ns mainGlobals mg → (∀ p ∈ cs, LamX.TabB base mg p.1 p.2) → SysB base → FnG P w K mg base CX k fa fd [x] sp) (sysb : SysB s.heap) (binds : ∀ (s : Shared) (u : Value), BindsTo s fd ⟨[u], []⟩ [(x, u)])
    (hsp : ∀ H : Hp, (∀ p ∈ cs, H p.2 = some (.tbl #[])) → Sh ⟨P, w, K⟩ H (.ref a) (.list (ns.map .int)) → sp [.ref a] H (fun v _ => v = .bl true) fun _ _ _ => False) (calm : ∀ H e s', CX [] H s (fun _ _ _ => False) e s' → False) :
    codeAny (model P w) callerA (.call (.ref fa) ⟨[.ref a], []⟩) (fun r s' => r = .ok (.ret (.bool true)) ∧ OldK s.heap s'.heap ∧ s'.os = s.os ∧ AllBare s'.gens) s := by
  have vals := vals_ints isI
  obtain ⟨ob, eob⟩ : ∃ ob : Obj, ob = { cls := .type "list", data := .seq its.toArray } := ⟨_, rfl⟩
  obtain ⟨H, eH⟩ : ∃ H, H = atLaw K a ob ns cs := ⟨_, rfl⟩
  have only : ∀ b u, H b = some u → (b = a ∧ K.lookup a = none ∧ u = .frz ob (.lst (ns.map V.int))) ∨ (u = .tbl #[] ∧ ∃ p ∈ cs, p.2 = b) := fun b u z => by
    rw [eH] at z
    unfold atLaw at z
    split at z
    · rename_i c; cases z; exact .inl ⟨c.1, c.2, rfl⟩
    · split at z
      · rename_i c
        cases z
        obtain ⟨p, h1, h2⟩ := List.any_eq_true.1 c
        exact .inr ⟨rfl, p, h1, by simpa using h2⟩
      · cases z
  have notA : ∀ p ∈ cs, p.2 ≠ a := fun p hp z => by
    have e := tabs p hp
    rw [z, scr] at e
    cases e
  have atT : ∀ p ∈ cs, H p.2 = some (.tbl #[]) := fun p hp => by
    rw [eH]
    unfold atLaw
    rw [if_neg (fun c => notA p hp c.1), if_pos (List.any_eq_true.2 ⟨p, hp, by simp⟩)]
  have free : ∀ b o, s.heap.get? b = some o → (∀ vs n, o.data ≠ .seq vs n) → o.data ≠ .fields #[] → H b = none := fun b o e nd nf => by
    cases q : H b with
    | none => rfl
    | some u =>
      rcases only b u q with ⟨rfl, _, _⟩ | ⟨_, p, hp, rfl⟩
      · rw [scr] at e
        cases e
        exact (nd _ _ rfl).elim
      · rw [tabs p hp] at e
        cases e
        exact (nf rfl).elim
  have ns' : ∀ {b : Addr} {m : Str → Option Value}, s.heap.Ns b m → (hidT s.heap H).Ns b m := fun {b m} ⟨o, es, ep, e, d, r⟩ => ⟨o, es, ep, hidT_get e (free b o e (fun vs n z => by rw [d] at z; cases z) fun z => by rw [d] at z; cases z), d, r⟩
  have kin' : K.In (hidT s.heap H) := fun b o e => hidT_get (kin b o e) (by
    cases q : H b with
    | none => rfl
    | some u =>
      rcases only b u q with ⟨rfl, z, _⟩ | ⟨_, p, hp, rfl⟩
      · rw [z] at e
        cases e
      · rw [notK p hp] at e
        cases e)
  have hok : HOk P w H s.heap := fun b u z => by
    rcases only b u z with ⟨rfl, _, rfl⟩ | ⟨rfl, p, hp, rfl⟩
    · rw [eob]
      exact ⟨scr, by rw [List.length_map]; exact short, its, _, vals, scr⟩
    · exact tabs p hp
  have tb : ∀ p ∈ cs, LamX.TabB (hidT s.heap H) mg p.1 p.2 := fun p hp => by
    refine ⟨?_, ?_, fun z => ?_⟩
    · obtain ⟨o, us, f1, f2, f3, f4, f5, f6, f7, g1, g2, g3, g4, g5⟩ := codes p hp
      exact ⟨o, us, f1, f2, f3, f4, f5, f6, f7, hidT_get g1 (free _ _ g1 (fun vs n z => by rw [g3] at z; cases z) fun z => by rw [g3] at z; cases z; simp at g4), g2, g3, g4, g5⟩
    · obtain ⟨bm, om, b1, b2, b3, b4, b5, b6⟩ := bmain
      refine ⟨bm, om, b1, b2, fun z => ?_, fun z => ?_, hidT_get b3 (free _ _ b3 (fun vs n z => by rw [b6] at z; cases z) fun z => by rw [b6] at z; cases z), b4, b5, b6⟩
      · obtain ⟨o, es, ep, e, d, _⟩ := glob
        rw [z, e] at b3
        cases b3
        rw [d] at b6
        cases b6
      · rw [z, tabs p hp] at b3
        cases b3
        cases b6
    · obtain ⟨o, es, ep, e, d, _⟩ := glob
      rw [z, tabs p hp] at e
      cases e
      cases d
  have md : Mod K mg (hidT s.heap H) := ⟨kin', ns' glob, ⟨mb, ns' blt, boot⟩, let ⟨mc, h1, h2⟩ := lim; ⟨mc, ns' h1, h2⟩⟩
  have env : Env0 P w K mg (hidT s.heap H) callerA [] s H := ⟨rfl, md, fun b o e => of_hidT e, Nat.le_of_eq (hidT_size _ _), trivial, (by intro b hb; cases hb), hok, .of_eq gens⟩
  have sh : Sh ⟨P, w, K⟩ H (.ref a) (.list (ns.map .int)) := by
    refine .lst ?_ (ShAll.ints ns)
    cases hk : K.lookup a with
    | none => exact .inl ⟨ob, by rw [eH]; exact if_pos ⟨rfl, hk⟩⟩
    | some o =>
      have e := kin a o hk
      rw [scr] at e
      cases e
      exact .inr ⟨its, _, hk, by rw [List.length_map]; exact short, vals⟩
  have sb : SysB (hidT s.heap H) := by
    obtain ⟨o, es, ep, e, d⟩ := sysb
    exact ⟨o, es, ep, hidT_get e (free _ _ e (fun vs n z => by rw [d] at z; cases z) fun z => by rw [d] at z; cases z), d⟩
  refine codeAny_mono ((F _ kin' (ns' glob) tb sb).run callerA [] s H ⟨[.ref a], []⟩ [.ref a] [.ref a] _ _ room rfl env (binds s (.ref a)) (.cons rfl .nil) (hsp H atT sh)) fun r s' out => ?_
  cases r with
  | error e => exact (calm H e s' out).elim
  | ok fl =>
    cases fl with
    | next => exact out.elim
    | brk => exact out.elim
    | cont => exact out.elim
    | ret u =>
      obtain ⟨v, H', os, bare, un, hok', rel, q⟩ := out
      cases (show v = .bl true from q)
      cases (show u = Value.bool true from rel)
      have each : ∀ b o, s.heap.get? b = some o → s'.heap.get? b = some o ∨ ∃ p ∈ cs, p.2 = b ∧ o = tabO ∧ ∃ more, s'.heap.get? b = some { cls := .none, data := .fields more } := fun b o e => by
        cases hb : H b with
        | none => exact .inl (un.keep b o e hb (by intro z; cases z) (by simp))
        | some u =>
          rcases only b u hb with ⟨_, _, rfl⟩ | ⟨rfl, p, hp, rfl⟩
          · obtain ⟨e1, _⟩ := hok b _ hb
            obtain ⟨e2, _⟩ := hok' b _ (un.frzs b ob _ hb)
            rw [e] at e1
            cases e1
            exact .inl e2
          · rw [tabs p hp] at e
            cases e
            obtain ⟨more, z⟩ := un.tbls _ _ hb
            exact .inr ⟨p, hp, rfl, rfl, _, hok' _ _ z⟩
      refine ⟨rfl, ⟨fun b o e => ?_, fun b o e => ?_⟩, os, bare⟩
      · rcases each b o e with h | ⟨p, hp, rfl, rfl, more, h⟩
        · exact .inl h
        · exact .inr (.inl ⟨((codes p hp).tab (tabs p hp)).isCodeTable, rfl, #[], more, rfl, by simpa using h⟩)
      · rcases each b o e with h | ⟨p, hp, rfl, rfl, more, h⟩
        · exact ⟨_, h⟩
        · exact ⟨_, h⟩
/-- what is known of the law's text at the head's heap: cs, the code objects that make lambdas, with their tables -/
def LawG (l : PySem.W.OpenLaw) (w : World) (K : PySem.W.Frag) (k : Nat) (x : Str) (mf : List D → Option Rf) (mg : Str → Option Value) (fa : Addr) (h : Heap) : Prop := ∃ (fd : FuncData) (cl : Cl) (cs : List (Addr × Addr)), (∀ (s : Shared) (u : Value), BindsTo s fd ⟨[u], []⟩ [(x, u)]) ∧
  (∀ p ∈ cs, h.get? p.2 = some tabO) ∧ (∀ p ∈ cs, K.lookup p.2 = none) ∧ (∀ p ∈ cs, PySem.W.CodeHd h p.1 p.2) ∧ (∀ q ∈ cl.T, ∃ p ∈ cs, p.2 = q.1) ∧
  ∀ base : Heap, K.In base → base.Ns mainGlobals mg → (∀ p ∈ cs, LamX.TabB base mg p.1 p.2) → SysB base → FnG l.prog w K mg base (L2.CX l.prog w) k fa fd [x] (spV ⟨l.prog, w, K⟩ cl 1 [] false mf)
theorem walk_ofG {l : PySem.W.OpenLaw} {n k : Nat} {q : Program} {loose : List Str} {XP : (Str → Option Value) → Heap → Prop} {YP : World → Heap → Prop} {d : DefRec} {K : Params → PySem.W.Frag} {x : Str} {mf : List D → Option Rf} (hn : l.most = some n) (hn2 : n ≤ sizeLine) (hdf : d.params.defaults = []) (hr : Room k callerA) (himp : importsNone q = true)
    (hY : ∀ (w : World) (h : Heap), YP w h → (K w.params).In h)
    (F : ∀ (w : World) (mg : Str → Option Value) (fa : Addr) (h : Heap), YP w h → (K w.params).In h → h.Ns mainGlobals mg → mg d.name = some (.ref fa) → LawG l w (K w.params) k x mf mg fa h)
    (told : ∀ ns : List Int, ns.length ≤ n → (∀ z ∈ ns, Builtin.Int.intBits z ≤ 1048576) → mf [.list (ns.map .int)] = some (.ret (.bool true) [])) :
    PySem.W.WalkO q loose XP YP l.row.toRowW d [] (fun f vs => PySem.call f vs) := by
  refine Att.attach_callB hn hdf fun w s₀ s₁ mg mb fa o pm cd doc a vs ns G Y ho hd hcd hmg hobj hints hlen hbits hg => ?_
  have KX := hY w _ Y
  obtain ⟨fd, cl, cs, hb, ht, nk, hc, hcl, hF⟩ := F w mg fa _ Y KX G.T.g hmg
  refine law_callG KX G.T.g G.T.b G.T.builtins G.T.nolimit hg hobj hints (Nat.le_trans hlen hn2) hr ht nk hc G.T.bmain hF (sysB_of (G.T.seer himp)) hb (fun H hT sh => ⟨rfl, fun q hq => ?_, [.list (ns.map .int)], argOk_of (.cons sh .nil), ?_⟩) fun H e s' z => ?_
  · obtain ⟨p, hp, e⟩ := hcl q hq
    exact LamX.TabS.nil (e ▸ hT p hp)
  · rw [told ns hlen hbits]
    intro v H' _ _ rk
    cases (show Sh _ H' v (.bool true) from rk)
    rfl
  · obtain ⟨_, _, _, _, _, _, _, _, _, _, _, _, z⟩ := z
    exact z.elim
end Cv
end
section
/-! Plain tools for the mirrors: loops by what stays true. -/
namespace Cv
open PySem L2
theorem for_nil {g : D → M Unit} {b : M Fl} {ρ : Ev} : vForL g b [] ρ = some (.ok .nx ρ) := rfl
theorem for_nx {g : D → M Unit} {b : M Fl} {x : D} {r : List D} {ρ ρ1 ρ2 : Ev} (hg : g x ρ = some (.ok () ρ1)) (hb : b ρ1 = some (.ok .nx ρ2)) : vForL g b (x :: r) ρ = vForL g b r ρ2 := by
  simp only [vForL, bnd, hg, hb]
theorem for_ct {g : D → M Unit} {b : M Fl} {x : D} {r : List D} {ρ ρ1 ρ2 : Ev} (hg : g x ρ = some (.ok () ρ1)) (hb : b ρ1 = some (.ok .ct ρ2)) : vForL g b (x :: r) ρ = vForL g b r ρ2 := by
  simp only [vForL, bnd, hg, hb]
theorem for_rt {g : D → M Unit} {b : M Fl} {x : D} {r : List D} {ρ ρ1 ρ2 : Ev} {d : D} (hg : g x ρ = some (.ok () ρ1)) (hb : b ρ1 = some (.ok (.rt d) ρ2)) : vForL g b (x :: r) ρ = some (.ok (.rt d) ρ2) := by
  simp only [vForL, bnd, hg, hb, ret]
/-- a loop that goes to its end -/
theorem for_inv {g : D → M Unit} {b : M Fl} (I : List D → Ev → Prop) (step : ∀ x r ρ, I (x :: r) ρ → ∃ ρ1 ρ2, g x ρ = some (.ok () ρ1) ∧ b ρ1 = some (.ok .nx ρ2) ∧ I r ρ2) : ∀ (xs : List D) (ρ : Ev), I xs ρ → ∃ ρ', vForL g b xs ρ = some (.ok .nx ρ') ∧ I [] ρ'
  | [], ρ, h => ⟨ρ, rfl, h⟩
  | x :: r, ρ, h => by
    obtain ⟨ρ1, ρ2, h1, h2, h3⟩ := step x r ρ h
    rw [for_nx h1 h2]
    exact for_inv I step r ρ2 h3
/-- a loop that may be left by a return -/
theorem for_invR {g : D → M Unit} {b : M Fl} (I : List D → Ev → Prop) (R : D → Ev → Prop) (step : ∀ x r ρ, I (x :: r) ρ → ∃ ρ1 ρ2, g x ρ = some (.ok () ρ1) ∧ ((b ρ1 = some (.ok .nx ρ2) ∧ I r ρ2) ∨ ∃ d, b ρ1 = some (.ok (.rt d) ρ2) ∧ R d ρ2)) : ∀ (xs : List D) (ρ : Ev), I xs ρ → ∃ ρ', (vForL g b xs ρ = some (.ok .nx ρ') ∧ I [] ρ') ∨ ∃ d, vForL g b xs ρ = some (.ok (.rt d) ρ') ∧ R d ρ'
  | [], ρ, h => ⟨ρ, .inl ⟨rfl, h⟩⟩
  | x :: r, ρ, h => by
    obtain ⟨ρ1, ρ2, h1, h2⟩ := step x r ρ h
    rcases h2 with ⟨h2, h3⟩ | ⟨d, h2, h3⟩
    · rw [for_nx h1 h2]
      exact for_invR I R step r ρ2 h3
    · exact ⟨ρ2, .inr ⟨d, for_rt h1 h2, h3⟩⟩
theorem whileN_mono {t : M Bool} {b : M Fl} : ∀ {n m : Nat} {ρ : Ev} {r : R Fl}, vWhileN n t b ρ = some r → n ≤ m → vWhileN m t b ρ = some r
  | 0, _, _, _, h, _ => by cases h
  | n + 1, 0, _, _, _, h => absurd h (by omega)
  | n + 1, m + 1, ρ, r, h, hm => by
    unfold vWhileN bnd at h ⊢
    cases ht : t ρ with
    | none => rw [ht] at h; cases h
    | some z =>
      rw [ht] at h
      cases z with
      | ex e => exact h
      | ok c ρ1 =>
        cases c with
        | false => exact h
        | true =>
          dsimp only at h ⊢
          simp only [if_true] at h ⊢
          cases hb : b ρ1 with
          | none => rw [hb] at h; cases h
          | some y =>
            rw [hb] at h
            cases y with
            | ex e => exact h
            | ok fl ρ2 =>
              cases fl with
              | nx => exact whileN_mono h (by omega)
              | ct => exact whileN_mono h (by omega)
              | bk => exact h
              | rt d => exact h
theorem while_of {t : M Bool} {b : M Fl} {n : Nat} {ρ : Ev} {r : R Fl} (h : vWhileN n t b ρ = some r) (hn : n ≤ 1000000000) : vWhile t b ρ = some r := whileN_mono h hn
/-- a while by a falling number -/
theorem while_inv {t : M Bool} {b : M Fl} (I : Nat → Ev → Prop) (Q : Ev → Prop) (step : ∀ n ρ, I n ρ → ∃ c ρ1, t ρ = some (.ok c ρ1) ∧ (c = false → Q ρ1) ∧ (c = true → ∃ ρ2 m, b ρ1 = some (.ok .nx ρ2) ∧ m < n ∧ I m ρ2)) : ∀ (n : Nat) (ρ : Ev), I n ρ → n < 1000000000 → ∃ ρ', vWhile t b ρ = some (.ok .nx ρ') ∧ Q ρ' := by
  have core : ∀ (k n : Nat) (ρ : Ev), n ≤ k → I n ρ → ∃ ρ', vWhileN (k + 1) t b ρ = some (.ok .nx ρ') ∧ Q ρ' := by
    intro k
    induction k with
    | zero =>
      intro n ρ hn h
      obtain ⟨c, ρ1, h1, h2, h3⟩ := step n ρ h
      cases c with
      | false => exact ⟨ρ1, by simp [vWhileN, bnd, h1, ret], h2 rfl⟩
      | true =>
        obtain ⟨ρ2, m, _, hm, _⟩ := h3 rfl
        omega
    | succ k ih =>
      intro n ρ hn h
      obtain ⟨c, ρ1, h1, h2, h3⟩ := step n ρ h
      cases c with
      | false => exact ⟨ρ1, by simp [vWhileN, bnd, h1, ret], h2 rfl⟩
      | true =>
        obtain ⟨ρ2, m, e, hm, h4⟩ := h3 rfl
        obtain ⟨ρ', e', q⟩ := ih m ρ2 (by omega) h4
        refine ⟨ρ', ?_, q⟩
        rw [vWhileN]
        simp only [bnd, h1, if_true, e]
        exact e'
  intro n ρ h hn
  obtain ⟨ρ', e, q⟩ := core n n ρ (Nat.le_refl n) h
  exact ⟨ρ', while_of e (by omega), q⟩
/-- a comprehension, item by item -/
theorem lc_inv {vs : List Nat} {g : D → M Unit} {t : M Bool} {f : M D} (I : List D → List D → Ev → Prop)
    (step : ∀ x r acc ρ, I (x :: r) acc ρ → ∃ ρ1 c ρ2, g x (wipeE ρ vs) = some (.ok () ρ1) ∧ t ρ1 = some (.ok c ρ2) ∧ (c = false → I r acc ρ2) ∧ (c = true → acc.length < sizeLine ∧ ∃ y ρ3, f ρ2 = some (.ok y ρ3) ∧ I r (acc ++ [y]) ρ3)) :
    ∀ (xs acc : List D) (ρ : Ev), I xs acc ρ → ∃ acc' ρ', lcL vs g t f xs acc ρ = some (.ok acc' ρ') ∧ I [] acc' ρ'
  | [], acc, ρ, h => ⟨acc, ρ, rfl, h⟩
  | x :: r, acc, ρ, h => by
    obtain ⟨ρ1, c, ρ2, h1, h2, h3, h4⟩ := step x r acc ρ h
    cases c with
    | false =>
      obtain ⟨acc', ρ', e, q⟩ := lc_inv I step r acc ρ2 (h3 rfl)
      exact ⟨acc', ρ', by simp only [lcL, bnd, h1, h2]; exact e, q⟩
    | true =>
      obtain ⟨hz, y, ρ3, h5, h6⟩ := h4 rfl
      obtain ⟨acc', ρ', e, q⟩ := lc_inv I step r (acc ++ [y]) ρ3 h6
      exact ⟨acc', ρ', by simp only [lcL, bnd, h1, h2, if_true, h5, hz]; exact e, q⟩
/-- a comprehension that changes nothing -/
theorem lc_map {vs : List Nat} {g : D → M Unit} {t : M Bool} {f : M D} (p : D → Bool) (F : D → D) (ρ : Ev) (xs : List D) (hl : xs.length ≤ 1000000) (ok : ∀ x ∈ xs, ∀ ρ', wipeE ρ' vs = wipeE ρ vs → ∃ ρ1, g x (wipeE ρ' vs) = some (.ok () ρ1) ∧ t ρ1 = some (.ok (p x) ρ1) ∧ wipeE ρ1 vs = wipeE ρ vs ∧ (p x = true → f ρ1 = some (.ok (F x) ρ1))) :
    ∃ ρ', lcL vs g t f xs [] ρ = some (.ok ((xs.filter p).map F) ρ') ∧ wipeE ρ' vs = wipeE ρ vs := by
  have core : ∀ (ys zs acc : List D) (ρ' : Ev), (∀ x ∈ ys, x ∈ xs) → acc.length + ys.length ≤ 1000000 → wipeE ρ' vs = wipeE ρ vs → ∃ ρ2, lcL vs g t f ys acc ρ' = some (.ok (acc ++ (ys.filter p).map F) ρ2) ∧ wipeE ρ2 vs = wipeE ρ vs := by
    intro ys
    induction ys with
    | nil => intro zs acc ρ' _ _ h; exact ⟨ρ', by simp [lcL, ret], h⟩
    | cons x r ih =>
      intro zs acc ρ' hm hl h
      obtain ⟨ρ1, h1, h2, h3, h4⟩ := ok x (hm x (by simp)) ρ' h
      cases hp : p x with
      | false =>
        obtain ⟨ρ2, e, q⟩ := ih zs acc ρ1 (fun y hy => hm y (by simp [hy])) (by simp at hl; omega) h3
        refine ⟨ρ2, ?_, q⟩
        simp only [lcL, bnd, h1, h2, hp, List.filter_cons]
        exact e
      | true =>
        obtain ⟨ρ2, e, q⟩ := ih zs (acc ++ [F x]) ρ1 (fun y hy => hm y (by simp [hy])) (by simp at hl ⊢; omega) h3
        refine ⟨ρ2, ?_, q⟩
        have hz : acc.length < sizeLine := by rw [sizeLine_eq]; simp at hl; omega
        simp only [lcL, bnd, h1, h2, hp, if_true, h4 hp, hz, List.filter_cons]
        rw [e]
        simp
  obtain ⟨ρ2, e, q⟩ := core xs [] [] ρ (fun x h => h) (by simpa using hl) rfl
  exact ⟨ρ2, by simpa using e, q⟩
theorem ixN_0 {n : Nat} : ixN (n + 1) (0 : Int) = some 0 := by unfold ixN; simp
theorem ixN_1 {n : Nat} : ixN (n + 2) (1 : Int) = some 1 := by
  unfold ixN
  have : (1 : Int) < ↑n + 2 := by omega
  simp [this]
end Cv
end
section
/-! What a mirror wants: for `simp only` from the front to the end. -/
namespace Cv
open PySem L2
/-- m ends well in q, or in an exception of E -/
@[irreducible] def Wp {α : Type} (E : Ex → Prop) (m : M α) (ρ : Ev) (q : α → Ev → Prop) : Prop := match m ρ with
  | some (.ok a ρ') => q a ρ'
  | some (.ex e) => E e
  | none => False
@[irreducible] def Fw (E : Ex → Prop) (mf : List D → Option Rf) (ds : List D) (q : D → List D → Prop) : Prop := match mf ds with
  | some (.ret d os) => q d os
  | some (.exc e) => E e
  | none => False
def Wo (o : Option (Option Sl)) (p : Sl → Prop) : Prop := match o with
  | some (some s) => p s
  | _ => False
def Wl (o : Option D) (p : D → Prop) : Prop := match o with
  | some d => p d
  | none => False
section
variable {α β : Type} {E : Ex → Prop} {ρ : Ev} {q : α → Ev → Prop} {qd : D → Ev → Prop} {qf : Fl → Ev → Prop} {qb : Bool → Ev → Prop} {qs : List D → Ev → Prop} {qu : Unit → Ev → Prop}
theorem Wp.mono {m : M α} {q' : α → Ev → Prop} (h : Wp E m ρ q) (i : ∀ a ρ', q a ρ' → q' a ρ') : Wp E m ρ q' := by
  unfold Wp at h ⊢
  cases hm : m ρ with
  | none => rw [hm] at h; exact h
  | some r => cases r with
    | ok a ρ' => rw [hm] at h; exact i _ _ h
    | ex e => rw [hm] at h; exact h
theorem Fw.mono {mf : List D → Option Rf} {ds : List D} {p p' : D → List D → Prop} (h : Fw E mf ds p) (i : ∀ d os, p d os → p' d os) : Fw E mf ds p' := by
  unfold Fw at h ⊢
  cases hm : mf ds with
  | none => rw [hm] at h; exact h
  | some r => cases r with
    | ret d os => rw [hm] at h; exact i _ _ h
    | exc e => rw [hm] at h; exact h
theorem Fw.told {mf : List D → Option Rf} {ds : List D} {d : D} {os : List D} (h : Fw (fun _ => False) mf ds fun d' os' => d' = d ∧ os' = os) : mf ds = some (.ret d os) := by
  unfold Fw at h
  cases hm : mf ds with
  | none => rw [hm] at h; exact h.elim
  | some r => cases r with
    | ret d os => rw [hm] at h; rw [h.1, h.2]
    | exc e => rw [hm] at h; exact h.elim
theorem fw_of {mf : List D → Option Rf} {ds : List D} {d : D} {os : List D} {p : D → List D → Prop} (h : mf ds = some (.ret d os)) (hp : p d os) : Fw E mf ds p := by unfold Fw; rw [h]; exact hp
theorem fw_is {mf : List D → Option Rf} {ds : List D} {d : D} {os : List D} {p : D → List D → Prop} (h : mf ds = some (.ret d os)) : Fw E mf ds p = p d os := by unfold Fw; rw [h]
theorem wp_ret (a : α) : Wp E (ret a) ρ q = q a ρ := by with_unfolding_all rfl
theorem wp_bnd {m : M β} {k : β → M α} : Wp E (bnd m k) ρ q = Wp E m ρ fun a ρ' => Wp E (k a) ρ' q := by
  unfold Wp bnd
  cases m ρ with
  | none => with_unfolding_all rfl
  | some r => cases r <;> with_unfolding_all rfl
theorem wp_no : Wp E (fun _ => none : M α) ρ q = False := by with_unfolding_all rfl
theorem wp_iteP {c : Prop} [Decidable c] {m : M α} : Wp E (if c then m else fun _ => none) ρ q = (c ∧ Wp E m ρ q) := by
  by_cases h : c
  · rw [if_pos h]; simp [h]
  · rw [if_neg h]; simp [h, wp_no]
theorem wp_lft {o : Option D} : Wp E (lft o) ρ qd = Wl o fun d => qd d ρ := by cases o <;> with_unfolding_all rfl
theorem wl_some {d : D} {p : D → Prop} : Wl (some d) p = p d := by with_unfolding_all rfl
theorem wl_none {p : D → Prop} : Wl none p = False := by with_unfolding_all rfl
theorem wl_of {o : Option D} {d : D} {p : D → Prop} (h : o = some d) (hp : p d) : Wl o p := by rw [h]; exact hp
theorem wl_if {c : Prop} [Decidable c] {d : D} {p : D → Prop} : Wl (if c then some d else none) p = (c ∧ p d) := by
  by_cases h : c <;> simp [h, Wl]
theorem wo_some {s : Sl} {p : Sl → Prop} : Wo (some (some s)) p = p s := by with_unfolding_all rfl
theorem wp_var {i : Nat} : Wp E (vVar i) ρ qd = Wo ρ[i]? fun s => qd s.d (if s.o then ρ.set i (some ⟨false, s.d⟩) else ρ) := by
  unfold Wp vVar Wo
  cases ρ[i]? with
  | none => with_unfolding_all rfl
  | some r => cases r <;> with_unfolding_all rfl
theorem wp_get {i : Nat} : Wp E (vGet i) ρ qd = Wo ρ[i]? fun s => qd s.d ρ := by
  unfold Wp vGet Wo
  cases ρ[i]? with
  | none => with_unfolding_all rfl
  | some r => cases r <;> with_unfolding_all rfl
theorem wp_getO {i : Nat} : Wp E (getO i) ρ qd = Wo ρ[i]? fun s => s.o = true ∧ qd s.d ρ := by
  unfold Wp getO Wo
  cases ρ[i]? with
  | none => with_unfolding_all rfl
  | some r => cases r with
    | none => with_unfolding_all rfl
    | some s => rcases s with ⟨o, d⟩; cases o <;> simp
theorem wp_putO {i : Nat} {d : D} : Wp E (putO i d) ρ qu = qu () (ρ.set i (some ⟨true, d⟩)) := by with_unfolding_all rfl
theorem wp_setSh {i : Nat} {d : D} : Wp E (vSetSh i d) ρ qu = qu () (ρ.set i (some ⟨false, d⟩)) := by with_unfolding_all rfl
theorem wp_setOw {i : Nat} {d : D} : Wp E (vSetOw i d) ρ qu = qu () (ρ.set i (some ⟨isC d, d⟩)) := by with_unfolding_all rfl
theorem wp_op {p : D → D → Option D} {fa fb : M D} : Wp E (vOp p fa fb) ρ qd = Wp E fa ρ fun x ρ1 => Wp E fb ρ1 fun y ρ2 => Wl (p x y) fun d => qd d ρ2 := by simp only [vOp, wp_bnd, wp_lft]
theorem wp_opN {p : D → D → Option D} {i : Nat} {fb : M D} : Wp E (vOpN p i fb) ρ qd = ((ρ[i]?.join).isSome = true ∧ Wp E fb ρ fun y ρ1 => Wo ρ1[i]? fun s => Wl (p s.d y) fun d => qd d ρ1) := by
  have : Wp E (vOpN p i fb) ρ qd = ((ρ[i]?.join).isSome = true ∧ Wp E (vOpL p i fb) ρ qd) := by
    unfold vOpN Wp
    by_cases h : (ρ[i]?.join).isSome = true <;> simp [h]
  rw [this, vOpL]
  simp only [wp_bnd, wp_lft, wp_get]
theorem wp_T {f : M D} : Wp E (vT f) ρ qb = Wp E f ρ fun x ρ1 => match x with
    | .bool b => qb b ρ1
    | _ => False := by
  simp only [vT, wp_bnd]
  congr 1
  funext x ρ1
  cases x <;> with_unfolding_all rfl
theorem wp_chain {p p' : D → D → Option D} {fa fb fc : M D} : Wp E (vChain p p' fa fb fc) ρ qd = Wp E fa ρ fun x ρ1 => Wp E fb ρ1 fun y ρ2 => Wl (p x y) fun r => match r with
    | .bool b => (b = true → Wp E fc ρ2 fun z ρ3 => Wl (p' y z) fun d => qd d ρ3) ∧ (b = false → qd (.bool false) ρ2)
    | _ => False := by
  simp only [vChain, wp_bnd, wp_lft]
  congr 1
  funext x ρ1
  congr 1
  funext y ρ2
  congr 1
  funext r
  cases r with
  | bool b => cases b <;> simp [wp_bnd, wp_lft, wp_ret]
  | _ => with_unfolding_all rfl
theorem wp_and {fa fb : M D} : Wp E (vAnd fa fb) ρ qd = Wp E fa ρ fun x ρ1 => match x with
    | .bool b => (b = true → Wp E fb ρ1 qd) ∧ (b = false → qd (.bool false) ρ1)
    | _ => False := by
  simp only [vAnd, wp_bnd]
  congr 1
  funext x ρ1
  cases x with
  | bool b => cases b <;> simp [wp_ret]
  | _ => with_unfolding_all rfl
theorem wp_or {fa fb : M D} : Wp E (vOr fa fb) ρ qd = Wp E fa ρ fun x ρ1 => match x with
    | .bool b => (b = false → Wp E fb ρ1 qd) ∧ (b = true → qd (.bool true) ρ1)
    | _ => False := by
  simp only [vOr, wp_bnd]
  congr 1
  funext x ρ1
  cases x with
  | bool b => cases b <;> simp [wp_ret]
  | _ => with_unfolding_all rfl
theorem wp_not {fa : M D} : Wp E (vNot fa) ρ qd = Wp E fa ρ fun x ρ1 => match x with
    | .bool b => qd (.bool (!b)) ρ1
    | _ => False := by
  simp only [vNot, wp_bnd]
  congr 1
  funext x ρ1
  cases x <;> with_unfolding_all rfl
theorem wp_notT {t : M Bool} : Wp E (vNotT t) ρ qb = Wp E t ρ fun b ρ1 => qb (!b) ρ1 := by simp only [vNotT, wp_bnd, wp_ret]
theorem wp_ite {b : Bool} {fa fb : M α} : Wp E (if b then fa else fb) ρ q = ((b = true → Wp E fa ρ q) ∧ (b = false → Wp E fb ρ q)) := by cases b <;> simp
theorem wp_andT {t u : M Bool} : Wp E (vAndT t u) ρ qb = Wp E t ρ fun b ρ1 => (b = true → Wp E u ρ1 qb) ∧ (b = false → qb false ρ1) := by simp only [vAndT, wp_bnd, wp_ite, wp_ret]
theorem wp_orT {t u : M Bool} : Wp E (vOrT t u) ρ qb = Wp E t ρ fun b ρ1 => (b = true → qb true ρ1) ∧ (b = false → Wp E u ρ1 qb) := by simp only [vOrT, wp_bnd, wp_ite, wp_ret]
theorem wp_if {t : M Bool} {fa fb : M α} : Wp E (vIf t fa fb) ρ q = Wp E t ρ fun b ρ1 => (b = true → Wp E fa ρ1 q) ∧ (b = false → Wp E fb ρ1 q) := by simp only [vIf, wp_bnd, wp_ite]
theorem wp_nil : Wp E vNil ρ qs = qs [] ρ := by with_unfolding_all rfl
theorem wp_cons {f : M D} {fs : M (List D)} : Wp E (vCons f fs) ρ qs = Wp E f ρ fun x ρ1 => Wp E fs ρ1 fun xs ρ2 => qs (x :: xs) ρ2 := by simp only [vCons, wp_bnd, wp_ret]
theorem wp_tup {fs : M (List D)} : Wp E (vTup fs) ρ qd = Wp E fs ρ fun xs ρ1 => xs.length ≤ 1000 ∧ qd (.tuple xs) ρ1 := by simp only [vTup, wp_bnd, wp_lft, wl_if]
theorem wp_lst {fs : M (List D)} : Wp E (vLst fs) ρ qd = Wp E fs ρ fun xs ρ1 => xs.length ≤ 1000 ∧ qd (.list xs) ρ1 := by simp only [vLst, wp_bnd, wp_lft, wl_if]
theorem wp_c1 {p : D → Option D} {f : M D} : Wp E (vC1 p f) ρ qd = Wp E f ρ fun x ρ1 => Wl (p x) fun d => qd d ρ1 := by simp only [vC1, wp_bnd, wp_lft]
theorem wp_cN {p : List D → Option D} {f : M (List D)} : Wp E (vCN p f) ρ qd = Wp E f ρ fun x ρ1 => Wl (p x) fun d => qd d ρ1 := by simp only [vCN, wp_bnd, wp_lft]
theorem wp_seq {f g : M Fl} : Wp E (vSeq f g) ρ qf = Wp E f ρ fun fl ρ1 => match fl with
    | .nx => Wp E g ρ1 qf
    | x => qf x ρ1 := by
  simp only [vSeq, wp_bnd]
  congr 1
  funext fl ρ1
  cases fl <;> with_unfolding_all rfl
theorem wp_drop {f : M D} : Wp E (vDrop f) ρ qf = Wp E f ρ fun _ ρ1 => qf .nx ρ1 := by simp only [vDrop, wp_bnd, wp_ret]
theorem wp_rt {f : M D} : Wp E (vRet f) ρ qf = Wp E f ρ fun d ρ1 => qf (.rt d) ρ1 := by simp only [vRet, wp_bnd, wp_ret]
theorem wp_rtN {i : Nat} : Wp E (vRetN i) ρ qf = Wo ρ[i]? fun s => (isC s.d && !s.o) = false ∧ qf (.rt s.d) ρ := by
  unfold Wp vRetN Wo
  cases ρ[i]? with
  | none => with_unfolding_all rfl
  | some r => cases r with
    | none => with_unfolding_all rfl
    | some s => cases h : (isC s.d && !s.o) <;> simp [h]
theorem wp_set {i : Nat} {f : M D} : Wp E (vSet i f) ρ qf = Wp E f ρ fun d ρ1 => qf .nx (ρ1.set i (some ⟨false, d⟩)) := by simp only [vSet, wp_bnd, wp_ret, wp_setSh]
theorem wp_setO {i : Nat} {f : M D} : Wp E (vSetO i f) ρ qf = Wp E f ρ fun d ρ1 => qf .nx (ρ1.set i (some ⟨isC d, d⟩)) := by simp only [vSetO, wp_bnd, wp_ret, wp_setOw]
theorem wp_asg {f : M D} {g : D → M Unit} : Wp E (vAsg f g) ρ qf = Wp E f ρ fun d ρ1 => Wp E (g d) ρ1 fun _ ρ2 => qf .nx ρ2 := by simp only [vAsg, wp_bnd, wp_ret]
theorem wp_gtup {n : Nat} {gs : List D → M Unit} {ds : List D} : Wp E (vGTup n gs (.tuple ds)) ρ qu = (ds.length = n ∧ Wp E (gs ds) ρ qu) := by
  unfold vGTup
  by_cases h : ds.length = n <;> simp [h, wp_no]
theorem wp_gcons {g : D → M Unit} {gs : List D → M Unit} {d : D} {ds : List D} : Wp E (vGCons g gs (d :: ds)) ρ qu = Wp E (g d) ρ fun _ ρ1 => Wp E (gs ds) ρ1 qu := by simp only [vGCons, wp_bnd]
theorem wp_gnil : Wp E (vGNil []) ρ qu = qu () ρ := by with_unfolding_all rfl
theorem wp_par {i j : Nat} {fa fb : M D} : Wp E (vPar i j fa fb) ρ qf = Wp E fa ρ fun x ρ1 => Wp E fb ρ1 fun y ρ2 => qf .nx ((ρ2.set i (some ⟨false, x⟩)).set j (some ⟨isC y, y⟩)) := by simp only [vPar, wp_bnd, wp_ret, wp_setSh, wp_setOw]
theorem wp_parE {i j : Nat} {fa fb : M D} : Wp E (vParE i j fa fb) ρ qf = Wp E fa ρ fun x ρ1 => Wp E fb ρ1 fun y ρ2 => qf .nx ((ρ2.set i (some ⟨false, x⟩)).set j (some ⟨false, y⟩)) := by simp only [vParE, wp_bnd, wp_ret, wp_setSh]
theorem wp_put {i : Nat} {fb fe : M D} : Wp E (vPut i fb fe) ρ qf = Wp E fe ρ fun v ρ1 => Wo ρ1[i]? fun _ => Wp E fb ρ1 fun k ρ2 => Wo ρ2[i]? fun s => s.o = true ∧ Wl (dSet s.d k v) fun d => qf .nx (ρ2.set i (some ⟨true, d⟩)) := by simp only [vPut, wp_bnd, wp_ret, wp_get, wp_getO, wp_putO, wp_lft]
theorem wp_for0 {it : M (List D)} {g : D → M Unit} {b : M Fl} : Wp E (vFor it g b) ρ qf = Wp E it ρ fun xs ρ1 => Wp E (vForL g b xs) ρ1 qf := by simp only [vFor, wp_bnd]
theorem wp_itL {f : M D} : Wp E (vItL f) ρ qs = Wp E f ρ fun x ρ1 => match x with
    | .list ds => qs ds ρ1
    | _ => False := by
  simp only [vItL, wp_bnd]
  congr 1
  funext x ρ1
  cases x <;> with_unfolding_all rfl
theorem wp_itT {f : M D} : Wp E (vItT f) ρ qs = Wp E f ρ fun x ρ1 => match x with
    | .tuple ds => qs ds ρ1
    | _ => False := by
  simp only [vItT, wp_bnd]
  congr 1
  funext x ρ1
  cases x <;> with_unfolding_all rfl
theorem wp_itK {f : M D} : Wp E (vItK f) ρ qs = Wp E f ρ fun x ρ1 => match x with
    | .dict ds => qs (ds.map (·.1)) ρ1
    | _ => False := by
  simp only [vItK, wp_bnd]
  congr 1
  funext x ρ1
  cases x <;> with_unfolding_all rfl
theorem wp_rng1 {f : M D} : Wp E (vRng1 f) ρ qs = Wp E f ρ fun x ρ1 => match x with
    | .int j => (-(2 ^ 62) ≤ j ∧ j < 2 ^ 62) ∧ qs (rngD 0 j.toNat) ρ1
    | _ => False := by
  simp only [vRng1, wp_bnd]
  congr 1
  funext x ρ1
  cases x with
  | int j => show Wp E (if _ then _ else _) _ _ = _; rw [wp_iteP, wp_ret]
  | _ => with_unfolding_all rfl
theorem wp_rng2 {f g : M D} : Wp E (vRng2 f g) ρ qs = Wp E f ρ fun x ρ1 => Wp E g ρ1 fun y ρ2 => match x, y with
    | .int i, .int j => (-(2 ^ 62) ≤ i ∧ i < 2 ^ 62 ∧ -(2 ^ 62) ≤ j ∧ j < 2 ^ 62) ∧ qs (rngD i (j - i).toNat) ρ2
    | _, _ => False := by
  simp only [vRng2, wp_bnd]
  congr 1
  funext x ρ1
  congr 1
  funext y ρ2
  cases x with
  | int i => cases y with
    | int j => show Wp E (if _ then _ else _) _ _ = _; rw [wp_iteP, wp_ret]
    | _ => with_unfolding_all rfl
  | _ => with_unfolding_all rfl
theorem wp_zip {f g : M D} : Wp E (vZip f g) ρ qs = Wp E f ρ fun x ρ1 => Wp E g ρ1 fun y ρ2 => match x, y with
    | .list ds, .list es => qs (zipD ds es) ρ2
    | .tuple ds, .tuple es => qs (zipD ds es) ρ2
    | _, _ => False := by
  simp only [vZip, wp_bnd]
  congr 1
  funext x ρ1
  congr 1
  funext y ρ2
  cases x <;> cases y <;> with_unfolding_all rfl
theorem wp_call {mf : List D → Option Rf} {fs : M (List D)} : Wp E (vCall mf fs) ρ qd = Wp E fs ρ fun ds ρ1 => Fw E mf ds fun d _ => qd d ρ1 := by
  simp only [vCall, wp_bnd]
  congr 1
  funext ds ρ1
  unfold Wp Fw
  cases mf ds with
  | none => with_unfolding_all rfl
  | some r => cases r <;> with_unfolding_all rfl
theorem wp_here {j : Nat} {f : M (List D)} : Wp E (vHere j f) ρ qs = ((ρ[j]?.join).isSome = true ∧ Wp E f ρ qs) := by
  unfold vHere Wp
  by_cases h : (ρ[j]?.join).isSome = true <;> simp [h]
theorem wp_callQ {mf : List D → Option Rf} {n j : Nat} {fs : M (List D)} : Wp E (vCallQ mf n j fs) ρ qd = Wp E fs ρ fun ds ρ1 => Wo ρ1[j]? fun s => s.o = true ∧ Fw E mf (ds.take n ++ s.d :: ds.drop n) fun d os => match os with
    | [o] => isC o = true ∧ qd d (ρ1.set j (some ⟨true, o⟩))
    | _ => False := by
  simp only [vCallQ, wp_bnd, wp_getO]
  congr 1
  funext ds ρ1
  congr 1
  funext s
  congr 1
  unfold Wp Fw
  cases mf (ds.take n ++ s.d :: ds.drop n) with
  | none => with_unfolding_all rfl
  | some r => cases r with
    | exc e => with_unfolding_all rfl
    | ret d os => match os with
      | [] => with_unfolding_all rfl
      | [o] => cases h : isC o <;> simp [h]
      | _ :: _ :: _ => with_unfolding_all rfl
theorem wp_raise {c : String} : Wp E (vRaise c) ρ qf = E ⟨c, []⟩ := by with_unfolding_all rfl
theorem fw_run {np : Nat} {fx : List Nat} {n : Nat} {b : M Fl} {ds : List D} {p : D → List D → Prop} : Fw E (runF np fx n b) ds p = (ds.length = np ∧ Wp E b (ent fx n ds) fun fl ρ' => match fl, outsOf fx ρ' with
    | .rt d, some os => p d os
    | .nx, some os => p .none os
    | _, _ => False) := by
  unfold Fw runF
  by_cases h : ds.length = np
  · simp only [h, if_true, true_and]
    unfold Wp runR
    cases b (ent fx n ds) with
    | none => with_unfolding_all rfl
    | some r => cases r with
      | ex e => with_unfolding_all rfl
      | ok fl ρ' => cases fl <;> cases ho : outsOf fx ρ' <;> simp [ho]
  · simp [h]
/-! ### loops -/
theorem wp_for {g : D → M Unit} {b : M Fl} (I : List D → Ev → Prop) (step : ∀ x r ρ, I (x :: r) ρ → Wp E (g x) ρ fun _ ρ1 => Wp E b ρ1 fun fl ρ2 => match fl with
    | .nx => I r ρ2
    | .ct => I r ρ2
    | .bk => qf .nx ρ2
    | .rt d => qf (.rt d) ρ2) (post : ∀ ρ, I [] ρ → qf .nx ρ) : ∀ (xs : List D) (ρ : Ev), I xs ρ → Wp E (vForL g b xs) ρ qf
  | [], ρ, h => by simp only [vForL, wp_ret]; exact post ρ h
  | x :: r, ρ, h => by
    simp only [vForL, wp_bnd]
    refine (step x r ρ h).mono fun _ ρ1 h1 => h1.mono fun fl ρ2 h2 => ?_
    cases fl with
    | nx => exact wp_for I step post r ρ2 h2
    | ct => exact wp_for I step post r ρ2 h2
    | bk => simp only [wp_ret]; exact h2
    | rt d => simp only [wp_ret]; exact h2
theorem wp_while {t : M Bool} {b : M Fl} (I : Nat → Ev → Prop) (step : ∀ n ρ, I n ρ → Wp E t ρ fun c ρ1 => (c = false → qf .nx ρ1) ∧ (c = true → Wp E b ρ1 fun fl ρ2 => match fl with
    | .nx => ∃ m, m < n ∧ I m ρ2
    | .ct => ∃ m, m < n ∧ I m ρ2
    | .bk => qf .nx ρ2
    | .rt d => qf (.rt d) ρ2)) (n : Nat) (hI : I n ρ) (hn : n < 1000000000) : Wp E (vWhile t b) ρ qf := by
  have core : ∀ (k n : Nat) (ρ : Ev), n < k → I n ρ → Wp E (vWhileN k t b) ρ qf := by
    intro k
    induction k with
    | zero => intro n ρ hn _; omega
    | succ k ih =>
      intro n ρ hn h
      rw [vWhileN]
      simp only [wp_bnd, wp_ite]
      refine (step n ρ h).mono fun c ρ1 h1 => ⟨fun hc => ?_, fun hc => by simp only [wp_ret]; exact h1.1 hc⟩
      refine (h1.2 hc).mono fun fl ρ2 h2 => ?_
      cases fl with
      | nx => obtain ⟨m, hm, h3⟩ := h2; exact ih m ρ2 (by omega) h3
      | ct => obtain ⟨m, hm, h3⟩ := h2; exact ih m ρ2 (by omega) h3
      | bk => simp only [wp_ret]; exact h2
      | rt d => simp only [wp_ret]; exact h2
  exact core 1000000000 n ρ hn hI
theorem wp_lc0 {it : M (List D)} {vs : List Nat} {g : D → M Unit} {t : M Bool} {f : M D} : Wp E (vLc it vs g t f) ρ qd = Wp E it ρ fun xs ρ1 => noOwn ρ1 vs = true ∧ Wp (fun _ => False) (lcL vs g t f xs []) ρ1 fun acc ρ2 => qd (.list acc) (backE ρ1 ρ2 vs) := by
  simp only [vLc, wp_bnd]
  congr 1
  funext xs ρ1
  unfold Wp
  cases h : noOwn ρ1 vs with
  | false => simp [h]
  | true =>
    cases hl : lcL vs g t f xs [] ρ1 with
    | none => simp [h, hl]
    | some r => cases r <;> simp [h, hl]
theorem wp_lcL {vs : List Nat} {g : D → M Unit} {t : M Bool} {f : M D} (I : List D → List D → Ev → Prop) (step : ∀ x r acc ρ, I (x :: r) acc ρ → Wp E (g x) (wipeE ρ vs) fun _ ρ1 => Wp E t ρ1 fun c ρ2 => (c = false → I r acc ρ2) ∧ (c = true → Wp E f ρ2 fun y ρ3 => acc.length < sizeLine ∧ I r (acc ++ [y]) ρ3)) (post : ∀ acc ρ, I [] acc ρ → qs acc ρ) : ∀ (xs acc : List D) (ρ : Ev), I xs acc ρ → Wp E (lcL vs g t f xs acc) ρ qs
  | [], acc, ρ, h => by simp only [lcL, wp_ret]; exact post acc ρ h
  | x :: r, acc, ρ, h => by
    have e : Wp E (lcL vs g t f (x :: r) acc) ρ qs = Wp E (bnd (g x) (fun _ => bnd t fun b => if b then bnd f fun y => if acc.length < sizeLine then lcL vs g t f r (acc ++ [y]) else fun _ => none else lcL vs g t f r acc)) (wipeE ρ vs) qs := by with_unfolding_all rfl
    rw [e]
    simp only [wp_bnd, wp_ite]
    refine (step x r acc ρ h).mono fun _ ρ1 h1 => h1.mono fun c ρ2 h2 => ⟨fun hc => ?_, fun hc => ?_⟩
    · refine (h2.2 hc).mono fun y ρ3 h3 => ?_
      rw [if_pos h3.1]
      exact wp_lcL I step post r _ _ h3.2
    · exact wp_lcL I step post r _ _ (h2.1 hc)
/-! ### what operators want -/
theorem wl_add {i j : Int} {p : D → Prop} : Wl (dAdd (.int i) (.int j)) p = p (.int (i + j)) := propext Iff.rfl
theorem wl_addT {a b : List D} {p : D → Prop} : Wl (dAdd (.tuple a) (.tuple b)) p = (a.length + b.length ≤ sizeLine ∧ p (.tuple (a ++ b))) := by simp only [dAdd, wl_if]
theorem wl_addL {a b : List D} {p : D → Prop} : Wl (dAdd (.list a) (.list b)) p = (a.length + b.length ≤ sizeLine ∧ p (.list (a ++ b))) := by simp only [dAdd, wl_if]
theorem wl_sub {i j : Int} {p : D → Prop} : Wl (dSub (.int i) (.int j)) p = p (.int (i - j)) := propext Iff.rfl
theorem wl_mul {i j : Int} {p : D → Prop} : Wl (dMul (.int i) (.int j)) p = (CMul i j ∧ p (.int (i * j))) := by simp only [dMul, wl_if]
theorem wl_mulL {xs : List D} {k : Int} {p : D → Prop} : Wl (dMul (.list xs) (.int k)) p = ((-(2 ^ 63) ≤ k ∧ k < 2 ^ 63 ∧ xs.length * k.toNat ≤ sizeLine) ∧ p (.list (List.replicate k.toNat xs).flatten)) := by simp only [dMul, wl_if]
theorem wl_mod {i j : Int} {p : D → Prop} : Wl (dMod (.int i) (.int j)) p = (0 < j ∧ p (.int (i % j))) := by simp only [dMod, wl_if]
theorem wl_fdiv {i j : Int} {p : D → Prop} : Wl (dFdiv (.int i) (.int j)) p = ((0 < j ∧ j.natAbs.log2 < 9000) ∧ p (.int (i / j))) := by simp only [dFdiv, wl_if]
theorem wl_divmod {i j : Int} {p : D → Prop} : Wl (dDivmod [.int i, .int j]) p = ((0 < j ∧ j.natAbs.log2 < 9000) ∧ p (.tuple [.int (i / j), .int (i % j)])) := by simp only [dDivmod, wl_if]
theorem wl_lt {i j : Int} {p : D → Prop} : Wl (dLt (.int i) (.int j)) p = p (.bool (decide (i < j))) := propext Iff.rfl
theorem wl_gt {i j : Int} {p : D → Prop} : Wl (dGt (.int i) (.int j)) p = p (.bool (decide (j < i))) := propext Iff.rfl
theorem wl_le {i j : Int} {p : D → Prop} : Wl (dLe (.int i) (.int j)) p = p (.bool (!decide (j < i))) := propext Iff.rfl
theorem wl_ge {i j : Int} {p : D → Prop} : Wl (dGe (.int i) (.int j)) p = p (.bool (!decide (i < j))) := propext Iff.rfl
theorem wl_eq {i j : Int} {p : D → Prop} : Wl (dEq (.int i) (.int j)) p = p (.bool (decide (i = j))) := propext Iff.rfl
theorem wl_ne {i j : Int} {p : D → Prop} : Wl (dNe (.int i) (.int j)) p = p (.bool (!decide (i = j))) := propext Iff.rfl
theorem wl_lenL {xs : List D} {p : D → Prop} : Wl (dLen (.list xs)) p = p (.int xs.length) := propext Iff.rfl
theorem wl_lenT {xs : List D} {p : D → Prop} : Wl (dLen (.tuple xs)) p = p (.int xs.length) := propext Iff.rfl
theorem wl_lenD {xs : List (D × D)} {p : D → Prop} : Wl (dLen (.dict xs)) p = p (.int xs.length) := propext Iff.rfl
theorem wl_ixL {xs : List D} {i : Int} {p : D → Prop} : Wl (dIx (.list xs) (.int i)) p = Wl (L2.atI xs i) p := propext Iff.rfl
theorem wl_ixT {xs : List D} {i : Int} {p : D → Prop} : Wl (dIx (.tuple xs) (.int i)) p = Wl (L2.atI xs i) p := propext Iff.rfl
theorem wl_setL {xs : List D} {i : Int} {v : D} {p : D → Prop} : Wl (dSet (.list xs) (.int i) v) p = (match ixN xs.length i with
    | some j => p (.list (xs.set j v))
    | none => False) := by
  simp only [dSet]
  cases ixN xs.length i <;> rfl
theorem wl_abs {i : Int} {p : D → Prop} : Wl (dAbs (.int i)) p = p (.int (if i < 0 then -i else i)) := propext Iff.rfl
theorem wl_max2 {i j : Int} {p : D → Prop} : Wl (dMax2 [.int i, .int j]) p = p (.int (if j > i then j else i)) := propext Iff.rfl
theorem wl_min2 {i j : Int} {p : D → Prop} : Wl (dMin2 [.int i, .int j]) p = p (.int (if j < i then j else i)) := propext Iff.rfl
theorem wl_intB {b : Bool} {p : D → Prop} : Wl (dInt (.bool b)) p = p (.int (if b then 1 else 0)) := propext Iff.rfl
theorem wl_tupL {xs : List D} {p : D → Prop} : Wl (dTuple (.list xs)) p = p (.tuple xs) := propext Iff.rfl
end
end Cv
end
section
/-! Plain facts about data: tuples of whole numbers, dicts. -/
namespace Cv
open PySem L2
theorem isC_list {xs : List D} : isC (.list xs) = true := rfl
theorem isC_dict {xs : List (D × D)} : isC (.dict xs) = true := rfl
theorem isC_tup {xs : List D} : isC (.tuple xs) = false := rfl
theorem isC_int {i : Int} : isC (.int i) = false := rfl
theorem isC_bool {b : Bool} : isC (.bool b) = false := rfl
theorem isC_str {x : Str} : isC (.str x) = false := rfl
theorem isC_none : isC .none = false := rfl
/-- a tuple of whole numbers -/
def tI (x : List Int) : D := .tuple (x.map .int)
theorem isC_tI {x : List Int} : isC (tI x) = false := rfl
theorem nkAll_ints : ∀ x : List Int, nkAll (x.map .int) = some (x.map .num)
  | [] => by simp [nkAll]
  | a :: r => by simp [nkAll, nk, nkAll_ints r]
theorem nk_tI (x : List Int) : nk (tI x) = some (.tup (x.map .num)) := by
  unfold tI
  rw [nk, nkAll_ints]
theorem num_inj : ∀ x y : List Int, x.map NestedKey.num = y.map NestedKey.num → x = y
  | [], [], _ => rfl
  | [], _ :: _, h => by simp at h
  | _ :: _, [], h => by simp at h
  | a :: r, b :: t, h => by
    simp at h
    rw [h.1, num_inj r t (by simpa using h.2)]
theorem depth_num : ∀ x : List Int, NestedKey.depthAll (x.map .num) ≤ 1
  | [] => by simp [NestedKey.depthAll]
  | a :: r => by
    have := depth_num r
    simp only [List.map_cons, NestedKey.depthAll, NestedKey.depth]
    omega
section
variable {κ : Type} [DecidableEq κ]
structure KeyD (key : κ → D) : Type where
  n : κ → NestedKey
  nk : ∀ a, Cv.nk (key a) = some (n a)
  inj : ∀ a b, n a = n b → a = b
  ok : ∀ (kvs : List (κ × D)) a, kOk (kvs.map fun p => (key p.1, p.2)) (key a) = true
def keyI : KeyD PyData.int where
  n := .num
  nk := fun _ => rfl
  inj := fun a b h => by cases h; rfl
  ok := fun kvs a => by simp [kOk, keyOf]
def keyT : KeyD tI where
  n := fun x => .tup (x.map .num)
  nk := nk_tI
  inj := fun a b h => num_inj a b (by injection h)
  ok := fun kvs a => by
    have h := nk_tI a
    have hd := depth_num a
    unfold tI at h ⊢
    unfold kOk
    simp only [h]
    have : (NestedKey.tup (a.map .num)).depth ≤ 8 := by
      simp only [NestedKey.depth]
      omega
    simp [this, isT]
def gK : List (κ × D) → κ → Option D
  | [], _ => none
  | (b, x) :: r, a => if b = a then some x else gK r a
def pK (kvs : List (κ × D)) (a : κ) (v : D) : List (κ × D) := if (gK kvs a).isSome then kvs.map (fun p => if p.1 = a then (p.1, v) else p) else kvs ++ [(a, v)]
def dOf (key : κ → D) (kvs : List (κ × D)) : D := .dict (kvs.map fun p => (key p.1, p.2))
theorem gN_gK {key : κ → D} (k : KeyD key) (a : κ) : ∀ kvs : List (κ × D), gN (kvs.map fun p => (key p.1, p.2)) (k.n a) = gK kvs a
  | [] => rfl
  | (b, x) :: r => by
    simp only [List.map_cons, gN, gK, k.nk, Option.some.injEq]
    by_cases h : b = a
    · simp [h]
    · have : k.n b ≠ k.n a := fun e => h (k.inj _ _ e)
      simp [h, this, gN_gK k a r]
theorem dGet_of {key : κ → D} (k : KeyD key) (kvs : List (κ × D)) (a : κ) : dGet (kvs.map fun p => (key p.1, p.2)) (key a) = some (gK kvs a) := by
  simp only [dGet, k.ok, k.nk, if_true, gN_gK]
theorem wl_setD {key : κ → D} (k : KeyD key) {kvs : List (κ × D)} {a : κ} {v : D} {p : D → Prop} (hk : ∀ xs i, key a = .int i → dOf key kvs ≠ .list xs := by intro xs i h e; cases e) : Wl (dSet (dOf key kvs) (key a) v) p = (kvs.length < sizeLine ∧ p (dOf key (pK kvs a v))) := by
  have e : dSet (dOf key kvs) (key a) v = if kvs.length < sizeLine then some (dOf key (pK kvs a v)) else none := by
    simp only [dOf, dSet, k.ok, k.nk, Option.map_some, List.length_map, Bool.true_and, decide_eq_true_eq]
    congr 1
    simp only [putD, gN_gK, pK]
    split
    · simp only [List.map_map, Option.some.injEq, PyData.dict.injEq]
      refine List.map_congr_left fun p hp => ?_
      simp only [Function.comp_apply, k.nk, Option.some.injEq]
      by_cases h : p.1 = a
      · simp [h]
      · have : k.n p.1 ≠ k.n a := fun e => h (k.inj _ _ e)
        simp [h, this]
    · simp
  rw [e, wl_if]
theorem wl_ixD {key : κ → D} (k : KeyD key) {kvs : List (κ × D)} {a : κ} {p : D → Prop} : Wl (dIx (dOf key kvs) (key a)) p = Wl (gK kvs a) p := by
  have e : dIx (dOf key kvs) (key a) = gK kvs a := by
    simp only [dOf, dIx, dGet_of k, Option.join_some]
  rw [e]
theorem wl_inD {key : κ → D} (k : KeyD key) {kvs : List (κ × D)} {a : κ} {p : D → Prop} : Wl (dIn (key a) (dOf key kvs)) p = p (.bool (gK kvs a).isSome) := by
  have e : dIn (key a) (dOf key kvs) = some (.bool (gK kvs a).isSome) := by
    have : dInB (key a) (dOf key kvs) = some (gK kvs a).isSome := by
      simp only [dOf, dInB, dGet_of k, Option.map_some]
    simp only [dIn, this, Option.map_some]
  rw [e, wl_some]
theorem wl_niD {key : κ → D} (k : KeyD key) {kvs : List (κ × D)} {a : κ} {p : D → Prop} : Wl (dNotIn (key a) (dOf key kvs)) p = p (.bool (!(gK kvs a).isSome)) := by
  have e : dNotIn (key a) (dOf key kvs) = some (.bool (!(gK kvs a).isSome)) := by
    have : dInB (key a) (dOf key kvs) = some (gK kvs a).isSome := by
      simp only [dOf, dInB, dGet_of k, Option.map_some]
    simp only [dNotIn, this, Option.map_some]
  rw [e, wl_some]
theorem gK_pK (kvs : List (κ × D)) (a b : κ) (v : D) : gK (pK kvs a v) b = if a = b then some v else gK kvs b := by
  unfold pK
  split
  · rename_i h
    induction kvs with
    | nil => simp [gK] at h
    | cons p r ih =>
      rcases p with ⟨c, x⟩
      simp only [List.map_cons, gK] at h ⊢
      by_cases hc : c = a
      · subst hc
        by_cases hb : c = b
        · simp [gK, hb]
        · simp only [if_true, gK, hb, if_false]
          by_cases hr : (gK r c).isSome
          · simpa [hb] using ih hr
          · have : r.map (fun p => if p.1 = c then (p.1, v) else p) = r := by
              conv => rhs; rw [← List.map_id r]
              refine List.map_congr_left fun p hp => ?_
              by_cases hpc : p.1 = c
              · exfalso
                apply hr
                clear ih h
                induction r with
                | nil => cases hp
                | cons q t ih2 =>
                  rcases q with ⟨e, y⟩
                  simp only [gK]
                  by_cases he : e = c
                  · simp [he]
                  · simp only [he, if_false]
                    rcases List.mem_cons.1 hp with rfl | hp
                    · exact absurd hpc he
                    · exact ih2 (fun h => hr (by simpa [gK, he] using h)) hp
              · simp [hpc]
            rw [this]
      · simp only [hc, if_false, gK] at h ⊢
        by_cases hb : c = b
        · have : a ≠ b := fun e => hc (hb.trans e.symm)
          simp [hb, this]
        · simp only [hb, if_false]
          exact ih h
  · rename_i h
    induction kvs with
    | nil => simp [gK]
    | cons p r ih =>
      rcases p with ⟨c, x⟩
      simp only [gK, List.cons_append] at h ⊢
      by_cases hc : c = a
      · simp [hc] at h
      · simp only [hc, if_false] at h
        by_cases hb : c = b
        · have : a ≠ b := fun e => hc (hb.trans e.symm)
          simp [hb, this]
        · simp only [hb, if_false]
          exact ih h
theorem keys_pK (kvs : List (κ × D)) (a : κ) (v : D) : (pK kvs a v).map (·.1) = if (gK kvs a).isSome then kvs.map (·.1) else kvs.map (·.1) ++ [a] := by
  unfold pK
  split
  · simp only [List.map_map]
    refine List.map_congr_left fun p hp => ?_
    simp only [Function.comp_apply]
    split <;> rfl
  · simp
theorem gK_mem {kvs : List (κ × D)} {a : κ} : (gK kvs a).isSome = true ↔ a ∈ kvs.map (·.1) := by
  induction kvs with
  | nil => simp [gK]
  | cons p r ih =>
    rcases p with ⟨c, x⟩
    simp only [gK, List.map_cons, List.mem_cons]
    by_cases hc : c = a
    · simp [hc]
    · simp only [hc, if_false, ih]
      constructor
      · exact .inr
      · rintro (h | h)
        · exact absurd h.symm hc
        · exact h
end
abbrev dKI (kvs : List (Int × D)) : D := dOf PyData.int kvs
abbrev dKT (kvs : List (List Int × D)) : D := dOf tI kvs
theorem isC_dOf {κ : Type} {key : κ → D} {kvs : List (κ × D)} : isC (dOf key kvs) = true := rfl
theorem wl_setI {kvs : List (Int × D)} {i : Int} {v : D} {p : D → Prop} : Wl (dSet (dOf PyData.int kvs) (.int i) v) p = (kvs.length < sizeLine ∧ p (dOf PyData.int (pK kvs i v))) := wl_setD keyI
theorem wl_ixI {kvs : List (Int × D)} {i : Int} {p : D → Prop} : Wl (dIx (dOf PyData.int kvs) (.int i)) p = Wl (gK kvs i) p := wl_ixD keyI
theorem wl_inI {kvs : List (Int × D)} {i : Int} {p : D → Prop} : Wl (dIn (.int i) (dOf PyData.int kvs)) p = p (.bool (gK kvs i).isSome) := wl_inD keyI
theorem wl_niI {kvs : List (Int × D)} {i : Int} {p : D → Prop} : Wl (dNotIn (.int i) (dOf PyData.int kvs)) p = p (.bool (!(gK kvs i).isSome)) := wl_niD keyI
theorem wl_set4 {kvs : List (List Int × D)} {a b c d : Int} {v : D} {p : D → Prop} : Wl (dSet (dOf tI kvs) (.tuple [.int a, .int b, .int c, .int d]) v) p = (kvs.length < sizeLine ∧ p (dOf tI (pK kvs [a, b, c, d] v))) := wl_setD keyT (a := [a, b, c, d])
theorem wl_set2 {kvs : List (List Int × D)} {a b : Int} {v : D} {p : D → Prop} : Wl (dSet (dOf tI kvs) (.tuple [.int a, .int b]) v) p = (kvs.length < sizeLine ∧ p (dOf tI (pK kvs [a, b] v))) := wl_setD keyT (a := [a, b])
theorem wl_ix2 {kvs : List (List Int × D)} {a b : Int} {p : D → Prop} : Wl (dIx (dOf tI kvs) (.tuple [.int a, .int b])) p = Wl (gK kvs [a, b]) p := wl_ixD keyT (a := [a, b])
theorem wl_ni2 {kvs : List (List Int × D)} {a b : Int} {p : D → Prop} : Wl (dNotIn (.tuple [.int a, .int b]) (dOf tI kvs)) p = p (.bool (!(gK kvs [a, b]).isSome)) := wl_niD keyT (a := [a, b])
/-! ### sorted keys -/
theorem tI_lt (x y : List Int) : PySem.W.dataLt (tI x) (tI y) = HT.lexLt x y := by
  unfold tI PySem.W.dataLt
  rw [PySem.W.keyToks, PySem.W.keyToks]
  exact toks_ints x y
theorem tI_inj {x y : List Int} (h : tI x = tI y) : x = y := by
  unfold tI at h
  injection h with h
  exact (List.map_inj_right (fun a b e => by injection e)).1 h
/-- sorting by the order of tuples of whole numbers -/
def srt (xs : List (List Int)) : List (List Int) := xs.mergeSort fun x y => !HT.lexLt y x
theorem leDD_tI (x y : List Int) : leDD (tI x) (tI y) = !HT.lexLt y x := by unfold leDD; rw [tI_lt]
theorem srt_map (xs : List (List Int)) : (xs.map tI).mergeSort leDD = (srt xs).map tI := by
  unfold srt
  rw [List.map_mergeSort]
  intro a _ b _
  rw [leDD_tI]
theorem srt_perm (xs : List (List Int)) : (srt xs).Perm xs := List.mergeSort_perm _ _
theorem lexle_trans (x y z : List Int) (h1 : (!HT.lexLt y x) = true) (h2 : (!HT.lexLt z y) = true) : (!HT.lexLt z x) = true := by
  rw [Bool.not_eq_true'] at h1 h2 ⊢
  cases h : HT.lexLt z x with
  | false => rfl
  | true =>
    exfalso
    cases h3 : HT.lexLt x y with
    | true => rw [lex_trans z x y h h3] at h2; cases h2
    | false =>
      have := lex_tot x y h3 h1
      rw [this] at h
      rw [h] at h2
      cases h2
theorem lexle_tot (x y : List Int) : (!HT.lexLt y x || !HT.lexLt x y) = true := by
  cases h : HT.lexLt y x with
  | false => rfl
  | true =>
    cases h2 : HT.lexLt x y with
    | false => rfl
    | true =>
      have := lex_trans _ _ _ h h2
      rw [lex_irr] at this
      cases this
theorem srt_sorted (xs : List (List Int)) : (srt xs).Pairwise fun x y => (!HT.lexLt y x) = true := List.pairwise_mergeSort (fun a b c => lexle_trans a b c) (fun a b => lexle_tot a b) xs
theorem rises_srt : ∀ {ws : List (List Int)}, ws.Nodup → ws.Pairwise (fun x y => (!HT.lexLt y x) = true) → risesB ws = true
  | [], _, _ => rfl
  | [_], _, _ => rfl
  | x :: y :: r, hn, hp => by
    rw [risesB, Bool.and_eq_true]
    refine ⟨?_, rises_srt (List.nodup_cons.1 hn).2 (List.pairwise_cons.1 hp).2⟩
    have h1 := (List.pairwise_cons.1 hp).1 y (by simp)
    rw [Bool.not_eq_true'] at h1
    cases h : HT.lexLt x y with
    | true => rfl
    | false =>
      have := lex_tot x y h h1
      exact absurd this (fun e => (List.nodup_cons.1 hn).1 (by simp [e]))
theorem alike_tI (x y : List Int) : PySem.W.alike (tI x) (tI y) = true := by
  unfold tI
  rw [PySem.W.alike]
  exact alike_ints x y
theorem depth_tI (x : List Int) : (tI x).depth ≤ 3 := by
  have := depth_ints x
  unfold tI
  simp only [PyData.depth]
  omega
theorem depths_tI : ∀ xs : List (List Int), PyData.depthAll (xs.map tI) ≤ 4
  | [] => by simp [PyData.depthAll]
  | x :: r => by
    have := depth_tI x
    have := depths_tI r
    simp only [List.map_cons, PyData.depthAll]
    omega
theorem alikes_tI : ∀ xs : List (List Int), allAlike (xs.map tI) = true := by
  intro xs
  unfold allAlike
  simp [List.all_map, alike_tI]
theorem sortOk_tI {xs : List (List Int)} (hn : ∀ x ∈ xs, x ≠ []) (hl : xs.length ≤ 100000) : sortOk (xs.map tI) = true := by
  have h1 := alikes_tI xs
  have h2 : (xs.map tI).all isTup1 = true := by
    simp only [List.all_map, List.all_eq_true]
    intro x hx
    cases x with
    | nil => exact absurd rfl (hn _ hx)
    | cons a r => rfl
  have h3 := depths_tI xs
  unfold sortOk
  simp only [h1, h2, Bool.true_or, Bool.true_and, Bool.and_eq_true, decide_eq_true_eq, List.length_map]
  omega
theorem wl_sortD {kvs : List (List Int × D)} {p : D → Prop} (hn : ∀ x ∈ kvs.map (·.1), x ≠ []) (hl : kvs.length ≤ 100000) : Wl (dSorted (dOf tI kvs)) p = p (.list ((srt (kvs.map (·.1))).map tI)) := by
  have e : dSorted (dOf tI kvs) = some (.list ((srt (kvs.map (·.1))).map tI)) := by
    have hk : (kvs.map fun p => (tI p.1, p.2)).map (·.1) = (kvs.map (·.1)).map tI := by simp [List.map_map, Function.comp_def]
    simp only [dOf, dSorted, hk]
    rw [sortOk_tI hn (by simpa using hl), srt_map]
    have : (kvs.map fun p => (tI p.1, p.2)).all (fun p => isT p.1) = true := by
      simp only [List.all_map, List.all_eq_true]
      intro x _
      rfl
    simp [this]
  rw [e, wl_some]
end Cv
end
section
/-! More of what mirrors want: methods, slices, kinds, membership, order. -/
namespace Cv
open PySem L2
def Wr (o : Option (D × D)) (p : D → D → Prop) : Prop := match o with
  | some r => p r.1 r.2
  | none => False
section
variable {E : Ex → Prop} {ρ : Ev} {qd : D → Ev → Prop} {qo : Option Int → Ev → Prop}
theorem wp_is {g : D → Bool} {f : M D} : Wp E (vIs g f) ρ qd = Wp E f ρ fun x ρ1 => qd (.bool (g x)) ρ1 := by simp only [vIs, wp_bnd, wp_ret]
theorem wp_mw {T : String} {p : D → List D → Option (D × D)} {i : Nat} {fs : M (List D)} : Wp E (vMW T p i fs) ρ qd = Wo ρ[i]? fun s => tyD s.d = some T ∧ Wp E fs ρ fun xs ρ1 => Wo ρ1[i]? fun s' => s'.o = true ∧ Wr (p s'.d xs) fun d r => qd d (ρ1.set i (some ⟨true, r⟩)) := by
  simp only [vMW, wp_bnd, wp_get]
  congr 1
  funext s
  by_cases h : tyD s.d = some T
  · simp only [h, if_true, true_and, wp_bnd, wp_getO, wp_putO, wp_ret]
    congr 1
    funext xs ρ1
    congr 1
    funext s'
    congr 1
    cases p s'.d xs <;> with_unfolding_all rfl
  · simp only [h, if_false, false_and]
    with_unfolding_all rfl
theorem wp_neg {f : M D} : Wp E (vNeg f) ρ qd = Wp E f ρ fun x ρ1 => Wl (dNeg x) fun d => qd d ρ1 := by simp only [vNeg, wp_bnd, wp_lft]
theorem wp_sl {f : M D} {lo hi : M (Option Int)} : Wp E (vSl f lo hi) ρ qd = Wp E f ρ fun x ρ1 => Wp E lo ρ1 fun l ρ2 => Wp E hi ρ2 fun h ρ3 => Wl (dSl x l h) fun d => qd d ρ3 := by simp only [vSl, wp_bnd, wp_lft]
theorem wp_part {f : M D} : Wp E (vPart f) ρ qo = Wp E f ρ fun x ρ1 => match x with
    | .int i => qo (some i) ρ1
    | _ => False := by
  simp only [vPart, wp_bnd]
  congr 1
  funext x ρ1
  cases x <;> with_unfolding_all rfl
theorem wp_noPart : Wp E vNoPart ρ qo = qo none ρ := by with_unfolding_all rfl
end
section
variable {p : D → Prop} {p2 : D → D → Prop}
theorem wr_append {xs : List D} {y : D} : Wr (dAppend (.list xs) [y]) p2 = (xs.length < sizeLine ∧ p2 .none (.list (xs ++ [y]))) := by
  simp only [dAppend]
  by_cases h : xs.length < sizeLine <;> simp [h, Wr]
theorem wr_extend {xs ys : List D} : Wr (dExtend (.list xs) [.list ys]) p2 = (xs.length + ys.length ≤ sizeLine ∧ p2 .none (.list (xs ++ ys))) := by
  simp only [dExtend]
  by_cases h : xs.length + ys.length ≤ sizeLine <;> simp [h, Wr]
theorem ty_list {xs : List D} : tyD (.list xs) = some "list" := rfl
theorem wl_neg {i : Int} : Wl (dNeg (.int i)) p = p (.int (-i)) := propext Iff.rfl
theorem cutD_1 {α : Type} (xs : List α) : cutD xs (some 1) none = xs.tail := by
  unfold cutD HT.sIx
  simp
  cases xs with
  | nil => rfl
  | cons x r =>
    have h : min 1 (r.length + 1) = 1 := by omega
    simp
theorem wl_sl1T {xs : List D} : Wl (dSl (.tuple xs) (some 1) none) p = p (.tuple xs.tail) := by
  simp only [dSl, cutD_1, wl_some]
theorem wl_sl1L {xs : List D} : Wl (dSl (.list xs) (some 1) none) p = p (.list xs.tail) := by
  simp only [dSl, cutD_1, wl_some]
theorem blsOf_map : ∀ bs : List Bool, blsOf (bs.map .bool) = some bs
  | [] => rfl
  | b :: r => by simp [blsOf, blsOf_map r]
theorem wl_all {bs : List Bool} : Wl (dAll (.list (bs.map .bool))) p = p (.bool (bs.all id)) := by simp only [dAll, blsOf_map, Option.map_some, wl_some]
theorem wl_any {bs : List Bool} : Wl (dAny (.list (bs.map .bool))) p = p (.bool (bs.any id)) := by simp only [dAny, blsOf_map, Option.map_some, wl_some]
theorem isInt_int {i : Int} : PyData.isInt (.int i) = true := rfl
theorem isBool_int {i : Int} : PyData.isBool (.int i) = false := rfl
theorem isTuple_tup {xs : List D} : PyData.isTuple (.tuple xs) = true := rfl
theorem isTuple_tI {xs : List Int} : PyData.isTuple (tI xs) = true := rfl
theorem wl_lenI {xs : List Int} : Wl (dLen (tI xs)) p = p (.int xs.length) := by
  simp only [tI, dLen, wl_some, List.length_map]
theorem wl_ixtI {xs : List Int} {i : Int} : Wl (dIx (tI xs) (.int i)) p = Wl ((L2.atI xs i).map .int) p := by
  have e : dIx (tI xs) (.int i) = (L2.atI xs i).map .int := by
    simp only [tI, dIx, L2.atI, List.length_map]
    cases L2.ixN xs.length i with
    | none => rfl
    | some j => simp
  rw [e]
theorem gd_int {i : Int} : gd (.int i) = true := by
  have : (PyData.int i).plain = true := rfl
  simp [gd, this, PyData.depth]
theorem plains_int : ∀ xs : List Int, PyData.plainAll (xs.map .int) = true
  | [] => rfl
  | a :: r => by simp only [List.map_cons, PyData.plainAll, plains_int r]; rfl
theorem gdAll_ints (xs : List Int) : gdAll (xs.map .int) = true := by
  have := depth_ints xs
  simp only [gdAll, plains_int, Bool.true_and, decide_eq_true_eq]
  omega
theorem any_eqv (a : Int) (xs : List Int) : ((xs.map PyData.int).any fun y => PyData.eqv y (.int a)) = decide (a ∈ xs) := by
  rw [Bool.eq_iff_iff]
  simp only [List.any_map, List.any_eq_true, Function.comp_apply, decide_eq_true_eq]
  constructor
  · rintro ⟨x, hx, e⟩
    have : x = a := by simpa [PyData.eqv] using e
    rw [← this]
    exact hx
  · intro h
    exact ⟨a, h, by simp [PyData.eqv]⟩
theorem wl_inL {a : Int} {xs : List Int} : Wl (dIn (.int a) (.list (xs.map .int))) p = p (.bool (decide (a ∈ xs))) := by
  simp only [dIn, dInB, gd_int, gdAll_ints, Bool.true_and, if_true, Option.map_some, wl_some, any_eqv]
theorem wl_niL {a : Int} {xs : List Int} : Wl (dNotIn (.int a) (.list (xs.map .int))) p = p (.bool (!decide (a ∈ xs))) := by
  simp only [dNotIn, dInB, gd_int, gdAll_ints, Bool.true_and, if_true, Option.map_some, wl_some, any_eqv]
theorem wl_inT {a : Int} {xs : List Int} : Wl (dIn (.int a) (.tuple (xs.map .int))) p = p (.bool (decide (a ∈ xs))) := by
  simp only [dIn, dInB, gd_int, gdAll_ints, Bool.true_and, if_true, Option.map_some, wl_some, any_eqv]
theorem wl_inT2 {a b c : Int} : Wl (dIn (.int a) (.tuple [.int b, .int c])) p = p (.bool (decide (a = b ∨ a = c))) := by
  have := @wl_inT p a [b, c]
  simpa using this
theorem gd_tI (x : List Int) : gd (tI x) = true := by
  have h1 := depth_tI x
  have h2 : (tI x).plain = true := by
    unfold tI
    rw [PyData.plain]
    exact plains_int x
  simp only [gd, h2, Bool.true_and, decide_eq_true_eq]
  omega
theorem wl_ltT {x y : List Int} : Wl (dLt (tI x) (tI y)) p = p (.bool (HT.lexLt x y)) := by
  have e : dLtB (tI x) (tI y) = some (HT.lexLt x y) := by
    have h1 := gd_tI x
    have h2 := alike_tI x y
    have h3 : isN (tI x) = false := rfl
    have h4 := tI_lt x y
    unfold tI at *
    simp only [dLtB, h1, h2, h3, h4, Bool.not_false, Bool.and_true, if_true]
  simp only [dLt, e, Option.map_some, wl_some]
theorem wl_lt2 {a b c d : Int} : Wl (dLt (.tuple [.int a, .int b]) (.tuple [.int c, .int d])) p = p (.bool (HT.lexLt [a, b] [c, d])) := wl_ltT (x := [a, b]) (y := [c, d])
theorem eqv_tI (x y : List Int) : PyData.eqv (tI x) (tI y) = decide (x = y) := by
  unfold tI
  rw [PyData.eqv]
  exact eqv_ints x y
theorem wp_forN {E : Ex → Prop} {ρ : Ev} {qf : Fl → Ev → Prop} {g : D → M Unit} {b : M Fl} : Wp E (vForL g b []) ρ qf = qf .nx ρ := by with_unfolding_all rfl
theorem wp_forC {E : Ex → Prop} {ρ : Ev} {qf : Fl → Ev → Prop} {g : D → M Unit} {b : M Fl} {x : D} {r : List D} : Wp E (vForL g b (x :: r)) ρ qf = Wp E (g x) ρ fun _ ρ1 => Wp E b ρ1 fun fl ρ2 => match fl with
    | .nx => Wp E (vForL g b r) ρ2 qf
    | .ct => Wp E (vForL g b r) ρ2 qf
    | .bk => qf .nx ρ2
    | .rt d => qf (.rt d) ρ2 := by
  simp only [vForL, wp_bnd]
  congr 1
  funext _ ρ1
  congr 1
  funext fl ρ2
  cases fl <;> with_unfolding_all rfl
end
/-- a list that is the last part of a mapped one -/
theorem cons_map {α : Type} {key : α → D} {x : D} {r : List D} {vs : List α} (h : x :: r = vs.map key) : ∃ v vs', vs = v :: vs' ∧ x = key v ∧ r = vs'.map key := by
  cases vs with
  | nil => cases h
  | cons v vs' =>
    injection h with h1 h2
    exact ⟨v, vs', rfl, h1, h2⟩
theorem nil_map {α : Type} {key : α → D} {vs : List α} (h : [] = vs.map key) : vs = [] := by
  cases vs with
  | nil => rfl
  | cons _ _ => cases h
end Cv
end
section
/-! Plain: rounds of bettering, in place. -/
namespace Cv
open PySem L2
section
variable {ws : List (List Int)} {s : Int}
theorem reach_down {n : Nat} (hw : ∀ x ∈ ws, WayOk n x) (hj : Joined n ws) : ∀ k : Nat, k < n → ∀ x, Wk ws s k x → ∃ z, Wk ws s 0 z ∧ z.1 ≤ x.1 + 99 * k := by
  intro k
  induction k using Nat.strongRecOn with
  | ind k ih =>
    intro hk x hx
    by_cases h0 : k = 0
    · subst h0
      exact ⟨x, hx, by omega⟩
    · obtain ⟨y, hy, a, l, f, rfl⟩ := hj k (by omega) (by omega)
      obtain ⟨a', b', l', f', e, h1, h2, h3, h4, h5, h6, h7⟩ := hw _ hy
      simp at e
      obtain ⟨rfl, rfl, rfl, rfl⟩ := e
      obtain ⟨j, rfl⟩ : ∃ j : Nat, a = j := ⟨a.toNat, by omega⟩
      obtain ⟨z, hz, hl⟩ := ih j (by omega) (by omega) _ (.step hx ⟨l, .inr hy⟩)
      refine ⟨z, hz, ?_⟩
      simp [extP] at hl
      omega
theorem reach_up {n : Nat} (hw : ∀ x ∈ ws, WayOk n x) (hj : Joined n ws) : ∀ k : Nat, k < n → ∀ x, Wk ws s 0 x → ∃ z, Wk ws s k z ∧ z.1 ≤ x.1 + 99 * k := by
  intro k
  induction k using Nat.strongRecOn with
  | ind k ih =>
    intro hk x hx
    by_cases h0 : k = 0
    · subst h0
      exact ⟨x, hx, by omega⟩
    · obtain ⟨y, hy, a, l, f, rfl⟩ := hj k (by omega) (by omega)
      obtain ⟨a', b', l', f', e, h1, h2, h3, h4, h5, h6, h7⟩ := hw _ hy
      simp at e
      obtain ⟨rfl, rfl, rfl, rfl⟩ := e
      obtain ⟨j, rfl⟩ : ∃ j : Nat, a = j := ⟨a.toNat, by omega⟩
      obtain ⟨z, hz, hl⟩ := ih j (by omega) (by omega) x hx
      refine ⟨extP z f k, .step hz ⟨l, .inl hy⟩, ?_⟩
      simp [extP]
      omega
theorem reach_far {n : Nat} (hn : n ≤ 10) (hw : ∀ x ∈ ws, WayOk n x) (hj : Joined n ws) (hs : 0 ≤ s ∧ s < n) {v : Int} (hv : 0 ≤ v ∧ v < n) : ∃ z, Wk ws s v z ∧ z.1 ≤ ((1782 : Nat) : Int) := by
  obtain ⟨i, rfl⟩ : ∃ i : Nat, s = i := ⟨s.toNat, by omega⟩
  obtain ⟨k, rfl⟩ : ∃ k : Nat, v = k := ⟨v.toNat, by omega⟩
  obtain ⟨z, hz, h1⟩ := reach_down (s := (i : Int)) hw hj i (by omega) _ .nil
  obtain ⟨y, hy, h2⟩ := reach_up hw hj k (by omega) z hz
  refine ⟨y, hy, ?_⟩
  simp at h1
  omega
theorem bf_step2 (hp : ∀ u v f, Edg ws u v f → 1 ≤ f) {r : Nat} {F G : Int → Option Pth} (hF : Walks ws s F) (h : BF ws s r F) (hb : Btr G F) (hr : ∀ u v f x, F u = some x → Edg ws u v f → ∃ x' z, Wk ws s u x' ∧ leP x' x ∧ G v = some z ∧ leP z (extP x' f v)) : BF ws s (r + 1) G := by
  intro v y hy hl
  cases hy with
  | nil =>
    obtain ⟨x, hx, l⟩ := h s (0, [s]) .nil (by simp)
    obtain ⟨z, hz, l2⟩ := hb _ _ hx
    exact ⟨z, hz, leP_trans l2 l⟩
  | @step u _ f y hy e =>
    have hl' : y.2.length ≤ r + 1 := by
      simp [extP] at hl
      exact hl
    obtain ⟨x, hx, _⟩ := h u y hy hl'
    obtain ⟨x', z, hw, hle, hz, l⟩ := hr u v f x hx e
    refine ⟨z, hz, leP_trans l (ext_le hp hw hy hl' fun w hw2 hwl => ?_)⟩
    obtain ⟨x2, hx2, l'⟩ := h u w hw2 hwl
    rw [hx] at hx2
    cases hx2
    exact leP_trans hle l'
/-- within a round -/
structure Rnd (ws : List (List Int)) (s : Int) (F0 F : Int → Option Pth) (S : List (Int × Int × Int × Int)) (b : Bool) : Prop where
  walks : Walks ws s F
  btr : Btr F F0
  done : ∀ u v f l, (u, v, f, l) ∈ S → ∀ x, F0 u = some x → ∃ x' z, Wk ws s u x' ∧ leP x' x ∧ F v = some z ∧ leP z (extP x' f v) ∧ (b = false → x' = x)
  same : b = false → F = F0
theorem Rnd.start {F : Int → Option Pth} (h : Walks ws s F) : Rnd ws s F F [] false := ⟨h, Btr.refl F, fun u v f l hm => (by cases hm), fun _ => rfl⟩
theorem Rnd.none {F0 F : Int → Option Pth} {S : List (Int × Int × Int × Int)} {b : Bool} (R : Rnd ws s F0 F S b) {u v f l : Int} (hu : F u = Option.none) : Rnd ws s F0 F (S ++ [(u, v, f, l)]) b := by
  refine ⟨R.walks, R.btr, fun u' v' f' l' hm x hx => ?_, R.same⟩
  rcases List.mem_append.1 hm with hm | hm
  · exact R.done u' v' f' l' hm x hx
  · simp at hm
    obtain ⟨rfl, rfl, rfl, rfl⟩ := hm
    obtain ⟨y, hy, _⟩ := R.btr _ _ hx
    rw [hu] at hy
    cases hy
theorem Rnd.pass {F0 F : Int → Option Pth} {S : List (Int × Int × Int × Int)} {b : Bool} (R : Rnd ws s F0 F S b) {u v f l : Int} {x z : Pth} (hu : F u = some x) (hv : F v = some z) (hn : ltP (extP x f v) z = false) : Rnd ws s F0 F (S ++ [(u, v, f, l)]) b := by
  refine ⟨R.walks, R.btr, fun u' v' f' l' hm x0 hx0 => ?_, R.same⟩
  rcases List.mem_append.1 hm with hm | hm
  · exact R.done u' v' f' l' hm x0 hx0
  · simp at hm
    obtain ⟨rfl, rfl, rfl, rfl⟩ := hm
    obtain ⟨y, hy, hl⟩ := R.btr _ _ hx0
    rw [hu] at hy
    cases hy
    refine ⟨x, z, R.walks _ _ hu, hl, hv, hn, fun hb => ?_⟩
    rw [R.same hb] at hu
    rw [hu] at hx0
    injection hx0
theorem Rnd.put {F0 F : Int → Option Pth} {S : List (Int × Int × Int × Int)} {b : Bool} (R : Rnd ws s F0 F S b) {u v f l : Int} {x : Pth} (hu : F u = some x) (he : Edg ws u v f) (hv : ∀ z, F v = some z → ltP (extP x f v) z = true) : Rnd ws s F0 (fun z => if z = v then some (extP x f v) else F z) (S ++ [(u, v, f, l)]) true := by
  have hb : Btr (fun z => if z = v then some (extP x f v) else F z) F := by
    intro z y hy
    by_cases e : z = v
    · subst e
      exact ⟨_, if_pos rfl, leP_of_lt (hv _ hy)⟩
    · exact ⟨y, by simp only [if_neg e]; exact hy, leP_refl _⟩
  refine ⟨fun z y hy => ?_, hb.trans R.btr, fun u' v' f' l' hm x0 hx0 => ?_, fun z => by cases z⟩
  · by_cases e : z = v
    · subst e
      simp at hy
      rw [← hy]
      exact .step (R.walks _ _ hu) he
    · simp only [if_neg e] at hy
      exact R.walks _ _ hy
  · rcases List.mem_append.1 hm with hm | hm
    · obtain ⟨x', z, h1, h2, h3, h4, _⟩ := R.done u' v' f' l' hm x0 hx0
      obtain ⟨z', h5, h6⟩ := hb _ _ h3
      exact ⟨x', z', h1, h2, h5, leP_trans h6 h4, fun z => by cases z⟩
    · simp at hm
      obtain ⟨rfl, rfl, rfl, rfl⟩ := hm
      obtain ⟨y, hy, hl⟩ := R.btr _ _ hx0
      rw [hu] at hy
      cases hy
      exact ⟨x, _, R.walks _ _ hu, hl, if_pos rfl, leP_refl _, fun z => by cases z⟩
theorem Rnd.bf {F0 F : Int → Option Pth} {b : Bool} {r : Nat} (hp : ∀ u v f, Edg ws u v f → 1 ≤ f) (R : Rnd ws s F0 F (dirs ws) b) (hF : Walks ws s F0) (h : BF ws s r F0) : BF ws s (r + 1) F :=
  bf_step2 hp hF h R.btr fun u v f x hx ⟨l, he⟩ => by
    obtain ⟨x', z, h1, h2, h3, h4, _⟩ := R.done u v f l (mem_dirs.2 he) x hx
    exact ⟨x', z, h1, h2, h3, h4⟩
theorem BF.less {r k : Nat} {F : Int → Option Pth} (h : BF ws s r F) (hk : k ≤ r) : BF ws s k F := fun v y hy hl => h v y hy (by omega)
/-- a round without a change: all is best -/
theorem Rnd.best {F0 F : Int → Option Pth} {r : Nat} (hp : ∀ u v f, Edg ws u v f → 1 ≤ f) (R : Rnd ws s F0 F (dirs ws) false) (h : BF ws s r F0) : (∀ v x, F v = some x → Best ws s v x) ∧ ∀ v y, Wk ws s v y → ∃ x, F v = some x := by
  have e := R.same rfl
  subst e
  have hall := bf_all hp R.walks (h.less (Nat.zero_le r)) fun u v f x hx ⟨l, he⟩ => by
    obtain ⟨x', z, h1, h2, h3, h4, h5⟩ := R.done u v f l (mem_dirs.2 he) x hx
    rw [h5 rfl] at h4
    exact ⟨z, h3, h4⟩
  refine ⟨fun v x hx => bf_best R.walks hall hx, fun v y hy => ?_⟩
  obtain ⟨x, hx, _⟩ := hall y.2.length v y hy (by omega)
  exact ⟨x, hx⟩
end
end Cv
end
section
/-! zip of two tuples whose pair may still be held: the turn for a name as target. -/
namespace Cv
open PySem L2 RZ
abbrev ZipAt (h : Heap) (z TI TO : Addr) (f0 f1 : Value) : Prop := h.get? z = some { cls := .type "zip", dict := none, data := .fields #[f0, f1, .bool false, .ref TI, .ref TO], slots := #[] }
def Lent (f0 f1 : Value) : Prop := (f0 = .none ∧ f1 = .bool false) ∨ ∃ (T : Addr) (f : Bool), f0 = rawInt T ∧ f1 = .bool f
section
variable {prog : Program} {w : World} {A : Around} {E : Value → Shared → Prop} {s : Shared}
theorem load_alive {a : Addr} {Q : Option Obj → Shared → Prop} (h : Q (s.heap.get? a) s) : wpAny (model prog w) A (loadIfAlive a) Q E s := fun _ _ _ => h
theorem zip_free {z TI TO : Addr} {f0 f1 : Value} {Q : Bool → Shared → Prop} (Hz : ZipAt s.heap z TI TO f0 f1) (hf : Lent f0 f1) (yes : Q true s) (no : ∀ (T : Addr) h', ZipAt h' z TI TO (rawInt T) (.bool true) → Heap.SameBut z s.heap h' → Q false { s with heap := h' }) :
    wpAny (model prog w) A (Builtin.SmallTypes.ownedTupleIsFree (.ref z)) Q E s := by
  unfold Builtin.SmallTypes.ownedTupleIsFree
  rcases hf with ⟨rfl, rfl⟩ | ⟨T, f, rfl, rfl⟩
  · exact wpAny_bind (wpAny_field Hz rfl (x := .none) rfl (wpAny_pure yes))
  · refine wpAny_bind (wpAny_field Hz rfl (x := rawInt T) rfl ?_)
    show wpAny _ _ (loadIfAlive ((T : Int).toNat) >>= fun _ => _) _ _ _
    rw [Int.toNat_natCast]
    refine wpAny_bind (load_alive ?_)
    cases hT : s.heap.get? T with
    | none =>
      simp only [Option.isNone_none, if_true]
      exact wpAny_pure yes
    | some oT =>
      simp only [Option.isNone_some, Bool.false_eq_true, if_false]
      refine wpAny_bind (wpAny_field Hz rfl (x := .bool f) rfl ?_)
      cases f with
      | true =>
        have c1 : (Value.bool true != Value.bool true) = false := rfl
        simp only [c1, Bool.false_eq_true, if_false]
        exact wpAny_pure (no T s.heap Hz (Heap.SameBut.refl _ _))
      | false =>
        have c1 : (Value.bool false != Value.bool true) = true := rfl
        simp only [c1, if_true]
        exact wpAny_bind (wpAny_setField_rec Hz (by simp) fun g₁ Hz₁ e₁ => wpAny_pure (no T g₁ Hz₁ e₁))
theorem zipN_item {z TI TO i1 i2 l1 l2 : Addr} {k1 k2 : Nat} {xs ys : Array Value} {x y a b f0 f1 : Value} {Q : Value → Shared → Prop} (D : ZipApart z TI TO i1 i2 l1 l2)
    (Hz : ZipAt s.heap z TI TO f0 f1) (hf : Lent f0 f1) (HI : IsPair s.heap TI (.ref i1) (.ref i2)) (HO' : IsPair s.heap TO a b)
    (j1 : s.heap.IsTupleIter i1 l1 k1) (j2 : s.heap.IsTupleIter i2 l2 k2) (t1 : s.heap.IsTuple l1 xs) (t2 : s.heap.IsTuple l2 ys) (hx : xs[k1]? = some x) (hy : ys[k2]? = some y)
    (hQ : ∀ h' f0' f1', ZipAt h' z TI TO f0' f1' → Lent f0' f1' → (∃ u v, IsPair h' TO u v) → h'.IsTupleIter i1 l1 (k1 + 1) → h'.IsTupleIter i2 l2 (k2 + 1) → IsPair h' s.heap.objs.size x y →
      (∀ c o, c ≠ z → c ≠ TO → c ≠ i1 → c ≠ i2 → s.heap.get? c = some o → h'.get? c = some o) → Q (.ref s.heap.objs.size) { s with heap := h' }) :
    wpAny (model prog w) A (Builtin.«zip.__next__» ⟨[.ref z], []⟩) (fun fin s' => ∃ v, fin = .done (.ret v) ∧ Q v s') E s := by
  show wpAny _ _ (field (.ref z) 2 >>= fun _ => _) _ _ _
  refine wpAny_bind (wpAny_field Hz rfl (x := .bool false) rfl ?_)
  show wpAny _ _ (field (.ref z) 3 >>= fun _ => _) _ _ _
  refine wpAny_bind (wpAny_field Hz rfl (x := .ref TI) rfl ?_)
  refine wpAny_bind (wpAny_seqItems HI rfl ?_)
  show wpAny _ _ (Builtin.SmallTypes.ownedTupleIsFree (.ref z) >>= fun _ => _) _ _ _
  refine wpAny_bind (zip_free Hz hf ?_ fun T g₁ Hz₁ e₁ => ?_)
  · simp only [if_true]
    refine wpAny_bind (wpAny_rule (wpAny_bind (wpAny_field Hz rfl (x := .ref TO) rfl ?_)))
    refine wpAny_bind (wpAny_setField_rec Hz (by simp) fun g₁ Hz₁ e₁ => ?_)
    replace Hz₁ : ZipAt g₁ z TI TO .ellipsis f1 := Hz₁
    refine wpAny_bind ?_
    simp only [List.zipIdx_cons, List.zipIdx_nil, List.forIn_cons, List.forIn_nil]
    refine wpAny_bind (wpAny_bind (wpAny_onRaise ?_))
    show wpAny _ _ (Builtin.SmallTypes.nextOf (.ref i1) >>= fun _ => _) _ _ _
    refine wpAny_bind (nextOf_tuple_item (j1.extBut e₁.extBut D.i1z) (t1.extBut e₁.extBut D.l1z) hx fun g₂ j1₂ e₂ => wpAny_pure ?_)
    have O₂ : IsPair g₂ TO a b := e₂.extBut _ _ D.TOi1 (e₁.extBut _ _ D.TOz HO')
    refine wpAny_bind (wpAny_seqItems O₂ rfl (wpAny_bind (wpAny_updateSeq_pair O₂ fun g₃ O₃ e₃ => ?_)))
    replace O₃ : IsPair g₃ TO x b := O₃
    refine wpAny_bind (wpAny_letGo (wpAny_pure (wpAny_bind (wpAny_bind (wpAny_onRaise ?_)))))
    show wpAny _ _ (Builtin.SmallTypes.nextOf (.ref i2) >>= fun _ => _) _ _ _
    refine wpAny_bind (nextOf_tuple_item (((j2.extBut e₁.extBut D.i2z).extBut e₂.extBut D.i12.symm).extBut e₃.extBut D.TOi2.symm)
      (((t2.extBut e₁.extBut D.l2z).extBut e₂.extBut D.l2i1).extBut e₃.extBut D.l2TO) hy fun g₄ j2₄ e₄ => wpAny_pure ?_)
    have O₄ : IsPair g₄ TO x b := e₄.extBut _ _ D.TOi2 O₃
    refine wpAny_bind (wpAny_seqItems O₄ rfl (wpAny_bind (wpAny_updateSeq_pair O₄ fun g₅ O₅ e₅ => ?_)))
    replace O₅ : IsPair g₅ TO x y := O₅
    refine wpAny_bind (wpAny_letGo (wpAny_pure (wpAny_pure (wpAny_bind (wpAny_seqItems O₅ rfl (wpAny_bind (wpAny_newTuple ?_)))))))
    have sz : g₅.objs.size = s.heap.objs.size := by rw [e₅.1, e₄.1, e₃.1, e₂.1, e₁.1]
    have Hz₅ : ZipAt g₅ z TI TO .ellipsis f1 := e₅.extBut _ _ D.TOz.symm (e₄.extBut _ _ D.i2z.symm (e₃.extBut _ _ D.TOz.symm (e₂.extBut _ _ D.i1z.symm Hz₁)))
    have kp : ∀ c o, c ≠ z → c ≠ TO → c ≠ i1 → c ≠ i2 → s.heap.get? c = some o → g₅.get? c = some o := fun c o n1 n2 n3 n4 e =>
      e₅.extBut _ _ n2 (e₄.extBut _ _ n4 (e₃.extBut _ _ n2 (e₂.extBut _ _ n3 (e₁.extBut _ _ n1 e))))
    have J1 : g₅.IsTupleIter i1 l1 (k1 + 1) := ((j1₂.extBut e₃.extBut D.TOi1.symm).extBut e₄.extBut D.i12).extBut e₅.extBut D.TOi1.symm
    have J2 : g₅.IsTupleIter i2 l2 (k2 + 1) := j2₄.extBut e₅.extBut D.TOi2.symm
    have zl : z < g₅.objs.size := Heap.lt_size Hz₅
    show wpAny _ _ (Builtin.SmallTypes.ownedTupleHandOut (.ref z) (.ref g₅.objs.size) >>= fun _ => _) _ _ _
    refine wpAny_bind ?_
    unfold Builtin.SmallTypes.ownedTupleHandOut
    have Hz₆ : ZipAt (g₅.push { cls := .type "tuple", data := .seq #[x, y] }) z TI TO .ellipsis f1 := Heap.get?_push_of_some _ Hz₅
    refine wpAny_bind (wpAny_setField_rec Hz₆ (by simp) fun g₇ Hz₇ e₇ => ?_)
    replace Hz₇ : ZipAt g₇ z TI TO (rawInt g₅.objs.size) f1 := Hz₇
    refine wpAny_setField_rec Hz₇ (by simp) fun g₈ Hz₈ e₈ => ?_
    replace Hz₈ : ZipAt g₈ z TI TO (rawInt g₅.objs.size) (.bool false) := Hz₈
    have up : ∀ c o, c ≠ z → g₅.get? c = some o → g₈.get? c = some o := fun c o n1 e => e₈.extBut _ _ n1 (e₇.extBut _ _ n1 (Heap.get?_push_of_some _ e))
    have P₈ : IsPair g₈ g₅.objs.size x y := e₈.extBut _ _ (Nat.ne_of_gt zl) (e₇.extBut _ _ (Nat.ne_of_gt zl) (Heap.get?_push_size _ rfl))
    refine wpAny_pure ⟨_, rfl, ?_⟩
    rw [sz] at Hz₈ P₈
    show Q (.ref g₅.objs.size) _
    rw [sz]
    exact hQ g₈ _ _ Hz₈ (.inr ⟨_, _, rfl, rfl⟩) ⟨x, y, up _ _ D.TOz O₅⟩ (J1.at fun o e => up _ o D.i1z e) (J2.at fun o e => up _ o D.i2z e) P₈ fun c o n1 n2 n3 n4 e => up c o n1 (kp c o n1 n2 n3 n4 e)
  · simp only [Bool.false_eq_true, if_false]
    refine wpAny_bind ?_
    rw [← Array.forIn_toList]
    simp only [List.forIn_cons, List.forIn_nil]
    refine wpAny_bind (wpAny_bind (wpAny_holding ?_))
    show wpAny _ _ (Builtin.SmallTypes.nextOf (.ref i1) >>= fun _ => _) _ _ _
    refine wpAny_bind (nextOf_tuple_item (s := { s with heap := g₁ }) (j1.extBut e₁.extBut D.i1z) (t1.extBut e₁.extBut D.l1z) hx fun g₂ j1₂ e₂ => wpAny_pure ?_)
    refine wpAny_pure (wpAny_bind (wpAny_bind (wpAny_holding ?_)))
    show wpAny _ _ (Builtin.SmallTypes.nextOf (.ref i2) >>= fun _ => _) _ _ _
    refine wpAny_bind (nextOf_tuple_item (s := { s with heap := g₂ }) ((j2.extBut e₁.extBut D.i2z).extBut e₂.extBut D.i12.symm) ((t2.extBut e₁.extBut D.l2z).extBut e₂.extBut D.l2i1) hy fun g₃ j2₃ e₃ => wpAny_pure ?_)
    refine wpAny_pure (wpAny_pure ?_)
    show wpAny _ _ (newTuple [x, y] >>= fun _ => _) _ _ _
    refine wpAny_bind (wpAny_newTuple (wpAny_pure ⟨_, rfl, ?_⟩))
    have sz : g₃.objs.size = s.heap.objs.size := by rw [e₃.1, e₂.1, e₁.1]
    have Hz₃ : ZipAt g₃ z TI TO (rawInt T) (.bool true) := e₃.extBut _ _ D.i2z.symm (e₂.extBut _ _ D.i1z.symm Hz₁)
    have kp : ∀ c o, c ≠ z → c ≠ i1 → c ≠ i2 → s.heap.get? c = some o → g₃.get? c = some o := fun c o n1 n2 n3 e => e₃.extBut _ _ n3 (e₂.extBut _ _ n2 (e₁.extBut _ _ n1 e))
    have J1 : g₃.IsTupleIter i1 l1 (k1 + 1) := j1₂.extBut e₃.extBut D.i12
    show Q (.ref g₃.objs.size) _
    have P : IsPair (g₃.push { cls := .type "tuple", data := .seq #[x, y] }) g₃.objs.size x y := Heap.get?_push_size _ rfl
    rw [sz] at P ⊢
    exact hQ _ _ _ (Heap.get?_push_of_some _ Hz₃) (.inr ⟨_, _, rfl, rfl⟩) ⟨a, b, Heap.get?_push_of_some _ (kp _ _ D.TOz D.TOi1 D.TOi2 HO')⟩ (J1.at fun o e => Heap.get?_push_of_some _ e) (j2₃.at fun o e => Heap.get?_push_of_some _ e) P fun c o n1 _ n3 n4 e => Heap.get?_push_of_some _ (kp c o n1 n3 n4 e)
theorem zipN_end {z TI TO i1 i2 l1 l2 : Addr} {k1 k2 : Nat} {xs ys : Array Value} {a b f0 f1 : Value} {Q : Fin → Shared → Prop} (hh : A.handled = none) (D : ZipApart z TI TO i1 i2 l1 l2)
    (Hz : ZipAt s.heap z TI TO f0 f1) (hf : Lent f0 f1) (HI : IsPair s.heap TI (.ref i1) (.ref i2)) (HO' : IsPair s.heap TO a b)
    (j1 : s.heap.IsTupleIter i1 l1 k1) (j2 : s.heap.IsTupleIter i2 l2 k2) (t1 : s.heap.IsTuple l1 xs) (t2 : s.heap.IsTuple l2 ys) (hend : xs[k1]? = none ∨ ys[k2]? = none)
    (hE : ∀ h' e, (∀ c o, c ≠ z → c ≠ TO → c ≠ i1 → c ≠ i2 → s.heap.get? c = some o → h'.get? c = some o) → (∃ o, h'.get? e = some o ∧ o.cls = .type "StopIteration") → E (.ref e) { s with heap := h' }) :
    wpAny (model prog w) A (Builtin.«zip.__next__» ⟨[.ref z], []⟩) Q E s := by
  show wpAny _ _ (field (.ref z) 2 >>= fun _ => _) _ _ _
  refine wpAny_bind (wpAny_field Hz rfl (x := .bool false) rfl ?_)
  show wpAny _ _ (field (.ref z) 3 >>= fun _ => _) _ _ _
  refine wpAny_bind (wpAny_field Hz rfl (x := .ref TI) rfl ?_)
  refine wpAny_bind (wpAny_seqItems HI rfl ?_)
  show wpAny _ _ (Builtin.SmallTypes.ownedTupleIsFree (.ref z) >>= fun _ => _) _ _ _
  refine wpAny_bind (zip_free Hz hf ?_ fun T g₁ Hz₁ e₁ => ?_)
  · simp only [if_true]
    refine wpAny_bind (wpAny_rule (wpAny_bind (wpAny_field Hz rfl (x := .ref TO) rfl ?_)))
    refine wpAny_bind (wpAny_setField_rec Hz (by simp) fun g₁ Hz₁ e₁ => ?_)
    replace Hz₁ : ZipAt g₁ z TI TO .ellipsis f1 := Hz₁
    refine wpAny_bind ?_
    simp only [List.zipIdx_cons, List.zipIdx_nil, List.forIn_cons, List.forIn_nil]
    refine wpAny_bind (wpAny_bind (wpAny_onRaise ?_))
    show wpAny _ _ (Builtin.SmallTypes.nextOf (.ref i1) >>= fun _ => _) _ _ _
    cases hx : xs[k1]? with
    | none =>
      refine wpAny_bind (nextOf_tuple_end hh (j1.extBut e₁.extBut D.i1z) (t1.extBut e₁.extBut D.l1z) hx fun g₂ e e₂ he => ?_)
      obtain ⟨oe, he1, he2⟩ := he
      have Hz₂ : ZipAt g₂ z TI TO .ellipsis f1 := e₂ _ _ D.i1z.symm Hz₁
      have ne : e ≠ z := fun q => by subst q; rw [Hz₂] at he1; cases he1; simp at he2
      exact wpAny_setField_rec Hz₂ (by simp) fun g₃ _ e₃ => hE g₃ e (fun c o n1 _ n3 _ q => e₃.extBut _ _ n1 (e₂ _ _ n3 (e₁.extBut _ _ n1 q))) ⟨oe, e₃.extBut _ _ ne he1, he2⟩
    | some x =>
      have hy : ys[k2]? = none := by
        rcases hend with q | q
        · rw [hx] at q; cases q
        · exact q
      refine wpAny_bind (nextOf_tuple_item (j1.extBut e₁.extBut D.i1z) (t1.extBut e₁.extBut D.l1z) hx fun g₂ j1₂ e₂ => wpAny_pure ?_)
      have O₂ : IsPair g₂ TO a b := e₂.extBut _ _ D.TOi1 (e₁.extBut _ _ D.TOz HO')
      refine wpAny_bind (wpAny_seqItems O₂ rfl (wpAny_bind (wpAny_updateSeq_pair O₂ fun g₃ O₃ e₃ => ?_)))
      refine wpAny_bind (wpAny_letGo (wpAny_pure (wpAny_bind (wpAny_bind (wpAny_onRaise ?_)))))
      show wpAny _ _ (Builtin.SmallTypes.nextOf (.ref i2) >>= fun _ => _) _ _ _
      refine wpAny_bind (nextOf_tuple_end hh (((j2.extBut e₁.extBut D.i2z).extBut e₂.extBut D.i12.symm).extBut e₃.extBut D.TOi2.symm)
        (((t2.extBut e₁.extBut D.l2z).extBut e₂.extBut D.l2i1).extBut e₃.extBut D.l2TO) hy fun g₄ e e₄ he => ?_)
      obtain ⟨oe, he1, he2⟩ := he
      have Hz₄ : ZipAt g₄ z TI TO .ellipsis f1 := e₄ _ _ D.i2z.symm (e₃.extBut _ _ D.TOz.symm (e₂.extBut _ _ D.i1z.symm Hz₁))
      have ne : e ≠ z := fun q => by subst q; rw [Hz₄] at he1; cases he1; simp at he2
      exact wpAny_setField_rec Hz₄ (by simp) fun g₅ _ e₅ => hE g₅ e (fun c o n1 n2 n3 n4 q => e₅.extBut _ _ n1 (e₄ _ _ n4 (e₃.extBut _ _ n2 (e₂.extBut _ _ n3 (e₁.extBut _ _ n1 q))))) ⟨oe, e₅.extBut _ _ ne he1, he2⟩
  · simp only [Bool.false_eq_true, if_false]
    refine wpAny_bind ?_
    rw [← Array.forIn_toList]
    simp only [List.forIn_cons, List.forIn_nil]
    refine wpAny_bind (wpAny_bind (wpAny_holding ?_))
    show wpAny _ _ (Builtin.SmallTypes.nextOf (.ref i1) >>= fun _ => _) _ _ _
    cases hx : xs[k1]? with
    | none =>
      refine wpAny_bind (nextOf_tuple_end (s := { s with heap := g₁ }) hh (j1.extBut e₁.extBut D.i1z) (t1.extBut e₁.extBut D.l1z) hx fun g₂ e e₂ he => ?_)
      exact hE g₂ e (fun c o n1 _ n3 _ q => e₂ _ _ n3 (e₁.extBut _ _ n1 q)) he
    | some x =>
      have hy : ys[k2]? = none := by
        rcases hend with q | q
        · rw [hx] at q; cases q
        · exact q
      refine wpAny_bind (nextOf_tuple_item (s := { s with heap := g₁ }) (j1.extBut e₁.extBut D.i1z) (t1.extBut e₁.extBut D.l1z) hx fun g₂ j1₂ e₂ => wpAny_pure ?_)
      refine wpAny_pure (wpAny_bind (wpAny_bind (wpAny_holding ?_)))
      show wpAny _ _ (Builtin.SmallTypes.nextOf (.ref i2) >>= fun _ => _) _ _ _
      refine wpAny_bind (nextOf_tuple_end (s := { s with heap := g₂ }) hh ((j2.extBut e₁.extBut D.i2z).extBut e₂.extBut D.i12.symm) ((t2.extBut e₁.extBut D.l2z).extBut e₂.extBut D.l2i1) hy fun g₃ e e₃ he => ?_)
      exact hE g₃ e (fun c o n1 _ n3 n4 q => e₃ _ _ n4 (e₂.extBut _ _ n3 (e₁.extBut _ _ n1 q))) he
theorem next_zipN {z TI TO i1 i2 l1 l2 : Addr} {k1 k2 : Nat} {xs ys : Array Value} {x y a b f0 f1 : Value} {Q : Option Value → Shared → Prop} (D : ZipApart z TI TO i1 i2 l1 l2)
    (Hz : ZipAt s.heap z TI TO f0 f1) (hf : Lent f0 f1) (HI : IsPair s.heap TI (.ref i1) (.ref i2)) (HO' : IsPair s.heap TO a b)
    (j1 : s.heap.IsTupleIter i1 l1 k1) (j2 : s.heap.IsTupleIter i2 l2 k2) (t1 : s.heap.IsTuple l1 xs) (t2 : s.heap.IsTuple l2 ys) (hx : xs[k1]? = some x) (hy : ys[k2]? = some y)
    (hQ : ∀ h' f0' f1', ZipAt h' z TI TO f0' f1' → Lent f0' f1' → (∃ u v, IsPair h' TO u v) → h'.IsTupleIter i1 l1 (k1 + 1) → h'.IsTupleIter i2 l2 (k2 + 1) → IsPair h' s.heap.objs.size x y →
      (∀ c o, c ≠ z → c ≠ TO → c ≠ i1 → c ≠ i2 → s.heap.get? c = some o → h'.get? c = some o) → Q (some (.ref s.heap.objs.size)) { s with heap := h' }) :
    wpAny (model prog w) A (pyNext (.ref z)) Q E s := by
  have ty : s.TypeIs (.ref z) "zip" := ⟨_, Hz, rfl⟩
  unfold pyNext
  exact wpAny_bind (wpAny_attempt (wpAny_callSpecial?_slot (name := Str.ofString "__next__") ty F.slot_zip_next
    (wpAny_call_entry F.slot_zip_next ty F.entry_zip_next (zipN_item D Hz hf HI HO' j1 j2 t1 t2 hx hy fun h' g0 g1 a1 a2 a3 a4 a5 a6 a7 => wpAny_pure (hQ h' g0 g1 a1 a2 a3 a4 a5 a6 a7)) (F.args_zip_next_1 _))))
theorem stop_zipN {z TI TO i1 i2 l1 l2 : Addr} {k1 k2 : Nat} {xs ys : Array Value} {a b f0 f1 : Value} {Q : Option Value → Shared → Prop} (hh : A.handled = none) (D : ZipApart z TI TO i1 i2 l1 l2)
    (Hz : ZipAt s.heap z TI TO f0 f1) (hf : Lent f0 f1) (HI : IsPair s.heap TI (.ref i1) (.ref i2)) (HO' : IsPair s.heap TO a b)
    (j1 : s.heap.IsTupleIter i1 l1 k1) (j2 : s.heap.IsTupleIter i2 l2 k2) (t1 : s.heap.IsTuple l1 xs) (t2 : s.heap.IsTuple l2 ys) (hend : xs[k1]? = none ∨ ys[k2]? = none)
    (hQ : ∀ h', (∀ c o, c ≠ z → c ≠ TO → c ≠ i1 → c ≠ i2 → s.heap.get? c = some o → h'.get? c = some o) → Q none { s with heap := h' }) : wpAny (model prog w) A (pyNext (.ref z)) Q E s := by
  have ty : s.TypeIs (.ref z) "zip" := ⟨_, Hz, rfl⟩
  unfold pyNext
  refine wpAny_bind (wpAny_attempt (wpAny_callSpecial?_slot (name := Str.ofString "__next__") ty F.slot_zip_next
    (wpAny_call_entry F.slot_zip_next ty F.entry_zip_next (zipN_end hh D Hz hf HI HO' j1 j2 t1 t2 hend fun h' e hk he => ?_) (F.args_zip_next_1 _))))
  obtain ⟨o, ho, hc⟩ := he
  exact wpAny_bind (wpAny_isInstance (T := "StopIteration") (b := true) ⟨o, ho, hc⟩ isSubtype_stop (wpAny_pure (hQ _ hk)))
end
/-- the tuples at a and b as they stand, each pair a new one, locked -/
def ItzF (K : PySem.W.Frag) (a b : Addr) : It :=
  ⟨fun i H => ∃ (xs ys : List V) (x y : V), SqT K H a xs ∧ SqT K H b ys ∧ xs[i]? = some x ∧ ys[i]? = some y,
    fun i H v H' => ∃ T x y, v = .ref T ∧ H T = none ∧ (∃ o : Obj, o.dict = none ∧ H' = upd H T (.frz o (.tup [x, y]))) ∧ (∀ xs, SqT K H a xs → xs[i]? = some x) ∧ ∀ ys, SqT K H b ys → ys[i]? = some y,
    fun i H => ∃ xs ys : List V, SqT K H a xs ∧ SqT K H b ys ∧ (xs.length ≤ i ∨ ys.length ≤ i)⟩
/-- the turn, the target a name -/
theorem turn_zipN {P : Program} {w : World} {K : PySem.W.Frag} {n : Str} {np : Pos} {a b z TI TO i1 i2 : Addr} (D : ZipApart z TI TO i1 i2 a b) :
    Turn P w K (.Name n np) (ItzF K a b) [z, TI, TO, i1, i2] z (fun i h => (∃ f0 f1, ZipAt h z TI TO f0 f1 ∧ Lent f0 f1) ∧ IsPair h TI (.ref i1) (.ref i2) ∧ (∃ x y, IsPair h TO x y) ∧ h.IsTupleIter i1 a i ∧ h.IsTupleIter i2 b i) where
  mem := by simp
  obj := fun i h st c hc => by
    obtain ⟨⟨f0, f1, Hz, _⟩, HI, ⟨x, y, HO'⟩, ⟨o1, q1, _, d1⟩, ⟨o2, q2, _, d2⟩⟩ := st
    simp only [List.mem_cons, List.not_mem_nil, or_false] at hc
    rcases hc with rfl | rfl | rfl | rfl | rfl
    · exact ⟨_, Hz, fun v q => nomatch q⟩
    · exact ⟨_, HI, fun v q => nomatch q⟩
    · exact ⟨_, HO', fun v q => nomatch q⟩
    · exact ⟨o1, q1, fun v q => by rw [d1] at q; cases q⟩
    · exact ⟨o2, q2, fun v q => by rw [d2] at q; cases q⟩
  keep := fun i h h' st k => by
    obtain ⟨⟨f0, f1, Hz, hf⟩, HI, ⟨x, y, HO'⟩, j1, j2⟩ := st
    exact ⟨⟨f0, f1, k z (by simp) _ Hz, hf⟩, k TI (by simp) _ HI, ⟨x, y, k TO (by simp) _ HO'⟩, j1.at fun o q => k i1 (by simp) o q, j2.at fun o q => k i2 (by simp) o q⟩
  item := by
    intro X hP hw hK hc i pins s σ H E I hfp st hg
    subst hP hw hK
    obtain ⟨⟨f0, f1, Hz, hf⟩, HI, ⟨x0, y0, HO'⟩, j1, j2⟩ := st
    obtain ⟨xs, ys, x, y, sx, sy, hx, hy⟩ := hg
    obtain ⟨its, rv, p, _⟩ := I.tuple sx
    obtain ⟨its2, rv2, p2, _⟩ := I.tuple sy
    obtain ⟨u, hu, ru⟩ := rv.get hx
    obtain ⟨u2, hu2, ru2⟩ := rv2.get hy
    refine next_zipN D Hz hf HI HO' j1 j2 p p2 (x := u) (y := u2) (by simpa using hu) (by simpa using hu2) fun h' f0' f1' Hz' hf' O' J1 J2 hT hk => ?_
    have new : ObjOk X.prog X.w (upd H s.heap.objs.size (.frz { cls := .type "tuple", data := .seq #[u, u2] } (.tup [x, y]))) h' s.heap.objs.size (.frz { cls := .type "tuple", data := .seq #[u, u2] } (.tup [x, y])) :=
      ⟨hT, by show 2 ≤ sizeLine; decide, [u, u2], .cons ru (.cons ru2 .nil), ⟨_, hT, rfl, _, rfl⟩⟩
    have I1 : Inv X pins σ (upd H s.heap.objs.size (.frz { cls := .type "tuple", data := .seq #[u, u2] } (.tup [x, y]))) { s with heap := h' } :=
      I.turnedNew (t' := s.toks) (ch := [z, TI, TO, i1, i2]) (fun c o hb q => hk c o (fun q' => hb (by simp [q'])) (fun q' => hb (by simp [q'])) (fun q' => hb (by simp [q'])) (fun q' => hb (by simp [q'])) q) hfp (Nat.le_refl _) new
    refine ⟨_, rfl, wpAny_pure ⟨.ref s.heap.objs.size, _, I1, rfl, ⟨_, x, y, rfl, I.hok.fresh (Nat.le_refl _), ⟨_, rfl, rfl⟩, fun l hl => by rw [I.tuple_inj hl sx]; exact hx, fun l hl => by rw [I.tuple_inj hl sy]; exact hy⟩, ⟨⟨f0', f1', Hz', hf'⟩, hk _ _ D.TIz D.TITO D.TIi1 D.TIi2 HI, O', J1, J2⟩, fun c hcm => ?_⟩⟩
    have hlt : c < s.heap.objs.size := by
      simp only [List.mem_cons, List.not_mem_nil, or_false] at hcm
      rcases hcm with rfl | rfl | rfl | rfl | rfl
      · exact Heap.lt_size Hz
      · exact Heap.lt_size HI
      · exact Heap.lt_size HO'
      · obtain ⟨_, q, _⟩ := j1; exact Heap.lt_size q
      · obtain ⟨_, q, _⟩ := j2; exact Heap.lt_size q
    rw [upd_ne (Nat.ne_of_lt hlt)]
    exact (hfp c hcm).1
  done := by
    intro X hP hw hK hc i pins s σ H E I hfp st hg
    subst hP hw hK
    obtain ⟨⟨f0, f1, Hz, hf⟩, HI, ⟨x0, y0, HO'⟩, j1, j2⟩ := st
    obtain ⟨xs, ys, sx, sy, hend⟩ := hg
    obtain ⟨its, rv, p, _⟩ := I.tuple sx
    obtain ⟨its2, rv2, p2, _⟩ := I.tuple sy
    have n1 := rv.length
    have n2 := rv2.length
    have he : its.toArray[i]? = none ∨ its2.toArray[i]? = none := by
      rcases hend with q | q
      · exact .inl (by simp; omega)
      · exact .inr (by simp; omega)
    exact stop_zipN (I.ok.hd hc) D Hz hf HI HO' j1 j2 p p2 he fun h' hk => ⟨rfl, I.turnedL (t' := s.toks) (ch := [z, TI, TO, i1, i2]) (fun c o hb q => hk c o (fun q' => hb (by simp [q'])) (fun q' => hb (by simp [q'])) (fun q' => hb (by simp [q'])) (fun q' => hb (by simp [q'])) q) hfp⟩
  self := fun A i s Q E st h => by
    obtain ⟨⟨f0, f1, Hz, hf⟩, _⟩ := st
    have ty : s.TypeIs (.ref z) "zip" := ⟨_, Hz, rfl⟩
    refine wpAny_pyIter_slot ty F.slot_zip_iter (wpAny_call_entry F.slot_zip_iter ty F.entry_zip_iter ?_ (F.args_zip_iter_1 _))
    show wpAny _ _ (PySem.ret (.ref z)) _ _ s
    exact wpAny_pure ⟨_, rfl, "zip", _, ty, F.slot_zip_next.lookup, h⟩
def vZipT (f g : M D) : M (List D) := bnd f fun x => bnd g fun y => match x, y with
  | .tuple ds, .tuple es => ret (zipD ds es)
  | _, _ => fun _ => none
theorem wp_zipT {E : Ex → Prop} {ρ : Ev} {qs : List D → Ev → Prop} {f g : M D} : Wp E (vZipT f g) ρ qs = Wp E f ρ fun x ρ1 => Wp E g ρ1 fun y ρ2 => match x, y with
    | .tuple ds, .tuple es => qs (zipD ds es) ρ2
    | _, _ => False := by
  simp only [vZipT, wp_bnd]
  congr 1
  funext x ρ1
  congr 1
  funext y ρ2
  cases x <;> cases y <;> with_unfolding_all rfl
def iZipN (K : PySem.W.Frag) (ta : TA) : TI := fun σ H R => ta σ H fun vs H1 => ∃ a b xs ys, vs = [.ref a, .ref b] ∧ SqT K H1 a xs ∧ SqT K H1 b ys ∧ R (ItzF K a b) H1
theorem pi_zipN {X : Cx} {e e2 : Expr} {ta : TA} {p pos np : Pos} {n : Str} (hg : Gl X "zip") (hm : X.mg "zip" = none) (ha : PA X [e, e2] ta)
    (hs : starEach [e, e2] X.env = (false, eval e X.env) :: starEach [e2] X.env := by rfl) (hpl : (backTo pos (starEach [e2] X.env)).any (·.1) = false := by rfl) :
    PI X (.Name n np) (.Call (.Name "zip" p) [e, e2] [] pos) (iZipN X.K ta) := by
  refine ⟨fun pins s σ H R I h => PyProof.Rows.Call_ (ld_blt I hg hm PyProof.Rows.boot_zip (PyProof.Rows.callWith_type1 (thn (ha.run pos pins s σ H _ I h) fun us s1 ⟨vs, H1, I1, r1, q1⟩ => ?_) hs hpl))⟩
  obtain ⟨a, b, xs, ys, rfl, sx, sy, q⟩ := q1
  cases r1 with
  | cons ra rr =>
    cases rr with
    | cons rb rr =>
      cases rr
      cases ra
      cases rb
      obtain ⟨its, rv, p1, _⟩ := I1.tuple sx
      obtain ⟨its2, rv2, p2, _⟩ := I1.tuple sy
      obtain ⟨o1, q1, _⟩ := id p1
      obtain ⟨o2, q2, _⟩ := id p2
      refine call_zipT (show s1.heap.IsTuple a its.toArray from p1) (show s1.heap.IsTuple b its2.toArray from p2) fun g Hz HI HO' j1 j2 _ hk => wpAny_pyIter_zip Hz ?_
      have I2 : Inv X pins σ H1 { s1 with heap := g } := I1.kept (t' := s1.toks) hk
      refine ⟨s1.heap.objs.size + 4, [s1.heap.objs.size + 4, s1.heap.objs.size + 2, s1.heap.objs.size + 3, s1.heap.objs.size, s1.heap.objs.size + 1], _, _, H1, rfl, I2, turn_zipN (PySem.W.ktu_apart s1.heap.objs.size a b (Heap.lt_size q1) (Heap.lt_size q2)), ⟨⟨_, _, Hz, .inl ⟨rfl, rfl⟩⟩, HI, ⟨_, _, HO'⟩, j1, j2⟩, fun c hc => ?_, q⟩
      have hle : s1.heap.objs.size ≤ c := by
        simp only [List.mem_cons, List.not_mem_nil, or_false] at hc
        rcases hc with rfl | rfl | rfl | rfl | rfl
        all_goals first
          | exact Nat.le_refl _
          | exact Nat.le_add_right _ _
      exact I1.fpOk hle (I1.hok.fresh hle)
def YFrz (f g : Nat → Option V) : Nat → Hp → V → Hp → Prop := fun i H v H' => ∃ T x y, v = .ref T ∧ H T = none ∧ (∃ o : Obj, o.dict = none ∧ H' = upd H T (.frz o (.tup [x, y]))) ∧ f i = some x ∧ g i = some y
theorem walk_zipF {K : PySem.W.Frag} {a b : Addr} {xs ys : List V} {n : Nat} (hn : n = min xs.length ys.length) : Walk (ItzF K a b) n (fun H => SqT K H a xs ∧ SqT K H b ys) (YFrz (fun i => xs[i]?) (fun i => ys[i]?)) := by
  subst hn
  refine ⟨fun i _ hi q => ?_, fun _ q => ⟨xs, ys, q.1, q.2, by omega⟩, fun i H v H' _ q y => ?_⟩
  · have h1 : i < xs.length := by omega
    have h2 : i < ys.length := by omega
    exact ⟨xs, ys, xs[i], ys[i], q.1, q.2, by simp [h1], by simp [h2]⟩
  · obtain ⟨T, x, z, h1, h2, h3, h4, h5⟩ := y
    exact ⟨T, x, z, h1, h2, h3, h4 xs q.1, h5 ys q.2⟩
theorem itv_frz {Z : Zx} {J : It} {H1 : Hp} {xs ys : List V} {ds es : List D} {n : Nat} {Gd : Hp → Prop} (hn : n = min xs.length ys.length) (w : Walk J n Gd (YFrz (fun i => xs[i]?) (fun i => ys[i]?))) (hG : ∀ H2, Fz H1 H2 → Gd H2) (sx : ShAll Z H1 xs ds) (sy : ShAll Z H1 ys es) : ItV Sh Z J (zipD ds es) H1 := by
  have hl : (zipD ds es).length = n := by simp [zipD, hn, sx.length, sy.length]
  refine ⟨Gd, _, hl.symm ▸ w, hG, fun i H2 x H3 hi f hy => ?_⟩
  obtain ⟨T, x, y, rfl, hT, ⟨o, ho, rfl⟩, hx, hy⟩ := hy
  obtain ⟨d, hd, sd⟩ := (sx.up f).get' hx
  obtain ⟨e, he, se⟩ := (sy.up f).get' hy
  have sm := sm_upd (o := .frz o (.tup [x, y])) hT
  refine ⟨sm, .tuple [d, e], ?_, .tup (.inl ⟨o, ho, upd_same⟩) (.cons (sd.up (Same.fz sm)) (.cons (se.up (Same.fz sm)) .nil))⟩
  simp [zipD, List.getElem?_zipWith, hd, he]
section
variable {X : Cx} {G : Gh} {a b : Expr} {fa fb : M D} {p pos : Pos}
theorem vi_zipN {n : Str} {np : Pos} (hg : Gl X "zip") (hm : X.mg "zip" = none) (ha : VE X G a fa) (hb : VE X G b fb) (hZ : G.Z = zx X := by rfl) (hs : starEach [a, b] X.env = (false, eval a X.env) :: starEach [b] X.env := by rfl) (hs2 : starEach [b] X.env = (false, eval b X.env) :: starEach [] X.env := by rfl) (hpl : (backTo pos (starEach [b] X.env)).any (·.1) = false := by rfl) :
    VI X G Sh (.Name n np) (.Call (.Name "zip" p) [a, b] [] pos) (vZipT fa fb) := pi_imp (pi_zipN hg hm (pa_cons ha (pa_cons hb pa_nil hs2) hs) hs hpl) (by
  obtain ⟨Z, cl, H0, S0, W, fx, fv, tp⟩ := G
  cases hZ
  rintro σ H R ⟨ρ, S, k⟩
  refine ⟨ρ, S, k.bnd.mono fun x ρ1 k1 v H1 fz1 S1 s1 => ⟨ρ1, S1, k1.bnd.mono fun y ρ2 k2 w H2 fz2 S2 s2 => ?_⟩⟩
  cases x with
  | tuple ds =>
    cases y with
    | tuple es =>
      have s1 := s1.up fz2
      cases s1 with
      | tup ea sv =>
        cases s2 with
        | tup eb sw =>
          exact ⟨_, _, _, _, rfl, ea.sq, eb.sq, k2 _ H2 (fz1.trans fz2) S2 (itv_frz rfl (walk_zipF rfl) (fun H3 f => ⟨(ea.keep f).sq, (eb.keep f).sq⟩) sv sw)⟩
    | _ => exact k2.elim
  | _ => cases y <;> exact k2.elim)
end
end Cv
end
section
/-! More calls: a fresh list handed to a def that writes it. -/
namespace Cv
open PySem L2
section
variable {X : Cx} {G : Gh} {CX : CXT} {k : Nat} {f : Addr} {fd : FuncData} {ps : List Str} {x : Str} {e : Expr} {p pos : Pos} {fe : M D} {mf : List D → Option Rf}
def vCallF (mf : List D → Option Rf) (fe : M D) : M D := bnd fe fun d0 => fun ρ => if isC d0 then (match mf [d0] with
  | some (.ret d _) => some (.ok d ρ)
  | some (.exc e) => some (.ex e)
  | none => none) else none
theorem Stt.calledF {H H' : Hp} {σ : St} {ρ : Ev} {p : Addr} (h : Stt G H σ ρ) (fr : FreshO G σ ρ p) (m : Mv G.cl.T [p] H H') : Stt G H' σ ρ := by
  obtain ⟨f1, f2, f3⟩ := fr
  have keep : ∀ q, Mut (H q) → q ≠ p → H' q = H q := fun q hm hq => by
    cases e : H q with
    | none => rw [e] at hm; exact hm.elim
    | some u =>
      exact m.old q u e (fun z => hq (by simpa using z)) (fun ps z => by rw [e, z] at hm; exact hm.elim)
  refine ⟨h.len, fun i t ht => ?_, h.dis, h.mv.trans m (fun q hq => ?_), h.fix, fun q hq => ?_⟩
  · obtain ⟨w, b1, b2⟩ := h.val i t ht
    refine ⟨w, b1, b2.keep m.fz fun q hq hoq => keep q ?_ fun z => ?_⟩
    · unfold SlOk at b2
      rw [hoq, hq] at b2
      exact b2.1.mut
    · subst z hq
      exact f2 i t ht hoq b1
  · have : q = p := by simpa using hq
    subst this
    exact .inr f1
  · obtain ⟨c1, c2, c3⟩ := h.tmp q hq
    refine ⟨?_, c2, c3⟩
    rw [keep q.1 (by rw [c1]; exact c2.1) (f3 q hq)]
    exact c1
theorem tcallF {cl : Cl} (hcl : G.cl = cl) (hZ : G.Z = zx X) : ∀ σ H Q, tvE G (vCallF mf fe) σ H Q → tCall (spV (zx X) cl 1 [0] false mf) [] G.W (tCons (tvO G fe) tNil) σ H Q := by
  obtain ⟨Z, cl', H0, S0, W, fx, fv, tp⟩ := G
  cases hZ
  cases hcl
  rintro σ H Q ⟨ρ, S, k⟩
  refine ⟨ρ, S, k.bnd.mono fun d0 ρ1 k1 v H1 fz1 S1 ro => ?_⟩
  show spV _ _ _ _ _ _ ([v] ++ []) H1 Q _
  rw [List.append_nil]
  dsimp only at k1
  split at k1
  · rename_i hc
    unfold RO at ro
    rw [hc] at ro
    obtain ⟨p, rfl, ow, fr⟩ := ro
    have hio : ioA [0] [V.ref p] = [p] := rfl
    refine ⟨rfl, S1.mv.tb.2, [d0], ⟨rfl, fun i w d h1 h2 => ?_, fun i j r hi hj _ _ => by simp at hi hj; omega⟩, ?_⟩
    · cases i with
      | zero =>
        simp at h1 h2
        subst h1 h2
        rw [if_pos (by simp)]
        exact ow
      | succ i => simp at h1
    · cases hm : mf [d0] with
      | none => rw [hm] at k1; exact k1.elim
      | some r =>
        rw [hm] at k1
        cases r with
        | exc e => exact fun cls od H' mv ea => k1 cls od H' (S1.mv.trans mv (fun a ha => by
            rw [hio] at ha
            obtain rfl : a = p := by simpa using ha
            exact .inr fr.1)) ea
        | ret d outs => exact fun v H' mv _ rk => k1 v H' (fz1.trans mv.fz) (S1.calledF fr mv) rk
  · exact k1.elim
theorem ve_callF {cl : Cl} (F : FnOk X.prog X.w X.K X.mg X.base CX k f fd ps (spV (zx X) cl 1 [0] false mf)) (hr : Room k X.A) (hg : Gl X x) (hm : X.mg x = some (.ref f)) (hk : PySem.W.keepIn X.K (.ref f) = true) (hb : Binds X.K fd ps []) (hx : Passes CX X G.W)
    (ha : VO X G e fe) (hcl : G.cl = cl := by rfl) (hZ : G.Z = zx X := by rfl) (hdb : (x == ("__debug__" : Str)) = false := by decide) (he : starEach [e] X.env = (false, eval e X.env) :: starEach [] X.env := by rfl) (hpl : (backTo pos (starEach [] X.env)).any (·.1) = false := by rfl) :
    VE X G (.Call (.Name x p) [e] [] pos) (vCallF mf fe) := pe_imp (pe_call F hr hg hm hk hb .nil hx (pa_cons ha pa_nil he) hdb he hpl) (tcallF hcl hZ)
theorem ve_callGF {cl : Cl} (F : FnG X.prog X.w X.K X.mg X.base CX k f fd ps (spV (zx X) cl 1 [0] false mf)) (hG : X.A.guards = some []) (hr : Room k X.A) (hg : Gl X x) (hm : X.mg x = some (.ref f)) (hk : PySem.W.keepIn X.K (.ref f) = true) (hb : Binds X.K fd ps []) (hx : Passes CX X G.W)
    (ha : VO X G e fe) (hcl : G.cl = cl := by rfl) (hZ : G.Z = zx X := by rfl) (hdb : (x == ("__debug__" : Str)) = false := by decide) (he : starEach [e] X.env = (false, eval e X.env) :: starEach [] X.env := by rfl) (hpl : (backTo pos (starEach [] X.env)).any (·.1) = false := by rfl) :
    VE X G (.Call (.Name x p) [e] [] pos) (vCallF mf fe) := pe_imp (pe_callG F hG hr hg hm hk hb hx (pa_cons ha pa_nil he) hdb he hpl) (tcallF hcl hZ)
theorem wp_callF {E : Ex → Prop} {ρ : Ev} {qd : D → Ev → Prop} : Wp E (vCallF mf fe) ρ qd = Wp E fe ρ fun d0 ρ1 => isC d0 = true ∧ Fw E mf [d0] fun d _ => qd d ρ1 := by
  simp only [vCallF, wp_bnd]
  congr 1
  funext d0 ρ1
  unfold Wp Fw
  cases hc : isC d0 with
  | false => simp
  | true =>
    cases hm : mf [d0] with
    | none => simp [hm]
    | some r => cases r <;> simp [hm]
end
end Cv
end
section
/-! Lambdas without parameters handed to a def that calls them within a try. -/
namespace Cv
open PySem L2
open PySem.Spec PyProof.Rows
/-- what is one's own is hidden -/
def hidO : Option Sl → Option Sl
  | some ⟨false, d⟩ => some ⟨false, d⟩
  | _ => none
def hid (ρ : Ev) : Ev := ρ.map hidO
theorem hid_get {ρ : Ev} {i : Nat} {s : Sl} (h : (hid ρ)[i]? = some (some s)) : s.o = false ∧ ρ[i]? = some (some s) := by
  unfold hid at h
  rw [List.getElem?_map] at h
  cases hr : ρ[i]? with
  | none => rw [hr] at h; cases h
  | some r =>
    rw [hr] at h
    cases r with
    | none => simp [hidO] at h
    | some t =>
      obtain ⟨o, d⟩ := t
      cases o with
      | true => simp [hidO] at h
      | false => simp [hidO] at h; subst h; exact ⟨rfl, rfl⟩
/-- the lambda's body runs as a def of its own -/
abbrev lgh (G : Gh) (H : Hp) (E : XK) : Gh := ⟨G.Z, G.cl, H, [], E, [], fun _ => none, []⟩
section
variable {X : Cx} {G : Gh}
theorem Stt.lam {H : Hp} {σ : L2.St} {ρ : Ev} (S : Stt G H σ ρ) (E : XK) : Stt (lgh G H E) H σ (hid ρ) := by
  refine ⟨by rw [hid, List.length_map]; exact S.len, fun i s hs => ?_, fun i j s t p h1 h2 h3 => ?_, Mv.refl _ _ S.mv.tb.2, (fun i hi => nomatch hi), (fun q hq => nomatch hq)⟩
  · obtain ⟨ho, hr⟩ := hid_get hs
    obtain ⟨v, h1, h2⟩ := S.val i s hr
    refine ⟨v, h1, ?_⟩
    unfold SlOk at h2 ⊢
    rw [ho] at h2 ⊢
    exact h2
  · rw [(hid_get h1).1] at h3
    cases h3
/-- tables grown alone: what is said stays -/
theorem Stt.extN {H H' : Hp} {σ : L2.St} {ρ : Ev} (S : Stt G H σ ρ) (e : LamX.ExtN H H') (t : LamX.Tabs G.cl.T H') : Stt G H' σ ρ := by
  have mt : ∀ u : HO, Mut (some u) → ∀ ps, u ≠ .tbl ps := fun u m ps z => by rw [z] at m; exact m
  have m : Mv G.cl.T [] H H' := ⟨fun a o h _ n => e a o h n, fun a o u h => e a _ h (fun ps z => nomatch z), fun a o h n => ⟨o, e a o h n, n⟩, S.mv.tb.2, t⟩
  exact S.called m (fun _ z => nomatch z)
/-- what a def makes of what it is given: kt of a value, ks of a refusal -/
def TTk (Z : Zx) (cl : Cl) (kt : D → Option D) (ks : Ex → Option D) : (XK → Hp → VK → Prop) → Hp → VK → Prop := fun tl H Q =>
  tl (fun cls od H' => ∃ e d, LamX.Tabs cl.T H' ∧ ExcAt Z cl H' e cls od ∧ ks e = some d ∧ ∀ v H'', Mv cl.T [] H' H'' → Sh Z H'' v d → Q v H'') H
    (fun v H' => ∃ d0 d, LamX.Tabs cl.T H' ∧ Sh Z H' v d0 ∧ kt d0 = some d ∧ ∀ u H'', Mv cl.T [] H' H'' → Sh Z H'' u d → Q u H'')
def vKind (kt : D → Option D) (ks : Ex → Option D) (fb : M D) : M D := fun ρ => match fb (hid ρ) with
  | some (.ok d _) => (match kt d with
    | some r => some (.ok r ρ)
    | none => none)
  | some (.ex e) => (match ks e with
    | some r => some (.ok r ρ)
    | none => none)
  | none => none
theorem ve_kind {T : List (Addr × Str)} {kt : D → Option D} {ks : Ex → Option D} {fb : M D} {cl : Cl} {x a : Str} {g c P : Addr} {k : Nat} {pg : Arguments} {bg : List Stmt} {sg : Scope} {dV kV doc pm cdv ct oc : Value} {an od : Option Addr} {osl : Array (Option Value)} {Ng : List Str}
    {params : Arguments} {body : Expr} {scope : Scope} {p lpos pos : Pos} (hcl : G.cl = cl) (hZ : G.Z = zx X) (hg : Gl X x) (hm : X.mg x = some (.ref g)) (hk : PySem.W.keepIn X.K (.ref g) = true)
    (lk : X.K.lookup g = some ⟨oc, od, .func (PySem.W.fnOf x x pg bg sg dV kV doc pm an cdv ct), osl⟩) (hcg : PySem.W.codeIn X.K cdv x = true) (hb : L2.Binds X.K (PySem.W.fnOf x x pg bg sg dV kV doc pm an cdv ct) [a] []) (Sg : FnScope Ng [a] sg) (hNg : Ng[0]? = some a) (hva : Vis sg a)
    (hG : LamX.GivesTo X Ng x sg g cdv bg a (X.env.qual ++ "<lambda>") (TTk (zx X) cl kt ks)) (hcT : cl.T = T)
    (TB : LamX.TabB X.base X.mg c P) (hcode : X.env.code = .ref c) (hmT : (P, X.env.qual ++ "<lambda>") ∈ T) (hu : ∀ p ∈ T, p.1 = P → p.2 = X.env.qual ++ "<lambda>") (hr : Room (k + 2) X.A) (L : LamX.LamS X.env.scope scope) (hdef : defaultsOf params X.env = ([], []))
    (hbind : ∀ (q : Str) (cl : List (Str × Addr)) (pm cv ctv : Value), bindArgs (PySem.W.kla_fn "<lambda>" q params body scope cl pm cv ctv) ⟨[], []⟩ = pure [])
    (hbody : ∀ (A : Around) (outer : List Env) (s : Shared) (H : Hp) (E : XK) (f c' : Addr), Room k (A.deeper (LamX.lamEnv X scope s.heap.objs.size f c')) → ∀ H', VE (LamX.lamCx X A outer s H E scope f c') (lgh G H' E) body fb)
    (hdb : (x == ("__debug__" : Str)) = false := by decide) (hd : (a == ("__debug__" : Str)) = false := by decide) (hcd : (a == ("__classdict__" : Str)) = false := by decide) :
    VE X G (.Call (.Name x p) [.Lambda params body scope lpos] [] pos) (vKind kt ks fb) := by
  subst hcT
  refine pe_imp (LamX.pe_lamcall (T := cl.T) (t := fun E σ H Q => tvE (lgh G H E) fb σ H Q) hg hm hk lk hcg hb Sg hNg hva hG TB hcode hmT hu hr L hdef hbind (fun A outer s H E f c' hr => ⟨fun pins s' σ H' Q I h => (hbody A outer s H E f c' hr H').run pins s' σ H' Q I h⟩) hdb hd hcd) ?_
  rintro σ H Q ⟨ρ, S, k⟩
  subst hcl
  refine ⟨S.mv.tb.2, fun H1 eN t1 => ?_⟩
  have S1 := S.extN eN t1
  refine ⟨hid ρ, S1.lam _, ?_⟩
  have fz1 : Fz H H1 := fun a o u h => eN a _ h (fun ps z => nomatch z)
  have fin : ∀ (d : D) (v : V) (H2 H3 : Hp), Mv G.cl.T [] H1 H2 → Mv G.cl.T [] H2 H3 → Sh (zx X) H3 v d → (∀ v H', Fz H H' → Stt G H' σ ρ → Sh G.Z H' v d → Q v H') → Q v H3 := fun d v H2 H3 m1 m2 sh q => by
    have m := m1.trans m2 (fun _ z => nomatch z)
    exact q v H3 (fz1.trans m.fz) (S1.called m (fun _ z => nomatch z)) (by rw [hZ]; exact sh)
  unfold vKind at k
  cases hf : fb (hid ρ) with
  | none => rw [hf] at k; exact k.elim
  | some r =>
    rw [hf] at k
    cases r with
    | ok d ρ' =>
      dsimp only at k
      cases hd : kt d with
      | none => rw [hd] at k; exact k.elim
      | some r =>
        rw [hd] at k
        exact fun v H2 fz S2 sh => ⟨d, r, S2.mv.tb.2, by rw [← hZ]; exact sh, hd, fun u H3 m su => fin r u H2 H3 S2.mv m su k⟩
    | ex e =>
      dsimp only at k
      cases hd : ks e with
      | none => rw [hd] at k; exact k.elim
      | some r =>
        rw [hd] at k
        exact fun cls od H2 mv ea => ⟨e, r, mv.tb.2, by rw [← hZ]; exact ea, hd, fun u H3 m su => fin r u H2 H3 mv m su k⟩
/-! ### the def that calls it: try: x() except C as n: suite; return told -/
theorem pe_weak {e : Expr} {t : TE} (h : PE X e t) : PE X e (fun σ H Q => ∃ Q' : VK, t σ H Q' ∧ ∀ v H', Q' v H' → Q v H') := ⟨fun pins s σ H Q I ⟨Q', h1, h2⟩ => thn (h.run pins s σ H _ I h1) fun v s1 ⟨x, H1, I1, r, q⟩ => ⟨x, H1, I1, r, h2 _ _ q⟩⟩
/-- the suite's own: slot i holds the refusal a -/
abbrev kgh (Z : Zx) (cl : Cl) (H : Hp) (i : Nat) (a : Addr) : Gh := ⟨Z, cl, H, [], fun _ _ _ => False, [i], fun _ => some (.ref a), []⟩
def runK (n : Nat) (m : M Fl) : Option D := match m (List.replicate n none) with
  | some (.ok (.rt d) _) => some d
  | _ => none
def ksOf (cs : List String) (n : Nat) (ms : String → M Fl) (e : Ex) : Option D := if e.fs.isEmpty && cs.contains e.c then runK n (ms e.c) else none
theorem stt_kgh {Z : Zx} {cl : Cl} {H : Hp} {i n : Nat} {a : Addr} {σ : L2.St} (tb : LamX.Tabs cl.T H) (hl : σ.length = n) (hi : i < n) : Stt (kgh Z cl H i a) H (σ.set i (some (.ref a))) (List.replicate n none) := by
  have no : ∀ (j : Nat) (s : Sl), (List.replicate n (none : Option Sl))[j]? ≠ some (some s) := fun j s h => by
    rw [List.getElem?_replicate] at h
    split at h <;> cases h
  refine ⟨by simp [hl], fun j s h => (no j s h).elim, fun j k s t p h1 => (no j s h1).elim, Mv.refl _ _ tb, fun j hj => ?_, (fun q hq => nomatch hq)⟩
  obtain rfl : j = i := by simpa using hj
  rw [List.getElem?_set_self (by omega)]
theorem gives_kind {cl : Cl} {cs : List String} {ms : String → M Fl} {N : List Str} {x a n ce q : Str} {sg : Scope} {g CE : Addr} {cdv : Value} {i m : Nat} {b₀ : Stmt} {suite : List Stmt} {told : Str} {j : Nat} {p1 p2 p3 p4 p5 p6 p7 p8 : Pos}
    (hN : N.length = m) (hNd : N.Nodup) (hi : N[i]? = some n) (him : i < m) (hln : sg.names.lookup n = some .local) (hce : ∀ s H, Names (cxOf C8.CX0 X.prog X.w X.K X.mg X.base N x sg g cdv X.A X.stack s H C8.E0).nox ce (.ref CE))
    (h0 : ∀ f : Addr, (L2.start N [V.ref f])[0]? = some (some (V.ref f)))
    (hex : ∀ c ∈ cs, PySem.W.exmOne X.K (.ref (cl c)) (.ref CE) = some true)
    (hsu : ∀ (s : Shared) (H : Hp) (c : String) (a : Addr) (oe : Obj) (pn : List (Addr × Obj)) (H' : Hp), c ∈ cs → Zc (.ref (cl c)) none oe → (∃ vs, oe.data = .fields vs) → VSs ((cxOf C8.CX0 X.prog X.w X.K X.mg X.base N x sg g cdv X.A X.stack s H C8.E0).nox.suite a ((a, oe) :: pn)) (kgh (zx X) cl H' i a) false (b₀ :: suite) (ms c)) :
    LamX.GivesTo X N x sg g cdv [.Try [.Expr (.Call (.Name a p1) [] [] p2) p3] [.ExceptHandler (some (.Name ce p4)) (some n) (b₀ :: suite) p5] [] [] p6, .Return (some (.Constant (.str told) j p7)) p8] a q (TTk (zx X) cl (fun _ => some (.str told)) (ksOf cs m ms)) := by
  intro f c' s H Q tl act hc h
  have hb : ∀ (W : WX) (pn : List (Addr × Obj)) (xe : Value → Shared → Prop), Takes ((cxOf C8.CX0 X.prog X.w X.K X.mg X.base N x sg g cdv X.A X.stack s H C8.E0).nox.tr pn xe) W →
      PE ((cxOf C8.CX0 X.prog X.w X.K X.mg X.base N x sg g cdv X.A X.stack s H C8.E0).nox.tr pn xe) (.Call (.Name a p1) [] [] p2)
        (fun σZ HZ Q => ∃ E : XK, (∀ cls d (σ' : L2.St) H', σ'.length = m → E cls d H' → W cls d σ' H') ∧ σZ[0]? = some (some (.ref f)) ∧ HZ c' = some (LamX.CodeO c' q) ∧ tl E HZ Q) := fun W pn xe tk =>
    ⟨fun pins s σ H Q I ⟨E, hE, h⟩ => (act _ pn xe E p1 p2 (take_len tk) (fun cls d σ' H' e l => hE cls d σ' H' (by rw [← hN]; exact l) e)).run pins s σ H Q I h⟩
  refine ⟨_, pss_cons (ps_try_as (i := i) (c := .ref CE) (Wout := fun _ _ _ _ => False) (ts := fun a cls d D σ H => ∃ c ∈ cs, cls = .ref (cl c) ∧ d = none ∧ tvS (kgh (zx X) cl H i a) false (ms c) D σ H) rfl rfl hNd hi hln (hce s H) LamX.takes0
    (fun W pn xe tk _ => pss_one (ps_expr (pe_weak (hb W pn xe tk)))) (fun a oe cls d pn hz hf => ⟨fun pins s' σ H' D I ⟨c, hc, ec, ed, t⟩ => (hsu s H c a oe pn H' hc (ec ▸ ed ▸ hz) hf).run pins s' σ H' D I t⟩)) (pss_one (ps_ret pe_str)), ?_⟩
  simp only [tSeq, tDrop, tRet]
  refine ⟨_, ⟨_, ?_, h0 f, hc, h⟩, ?_⟩
  · rintro cls d σ' H' l ⟨e, r, tb, ea, hk, q⟩
    unfold ksOf at hk
    split at hk
    · rename_i hcnd
      obtain ⟨h1, h2⟩ := Bool.and_eq_true_iff.1 hcnd
      have hm : e.c ∈ cs := by simpa using h2
      obtain ⟨e1, e2⟩ := ea
      have ef : e.fs = [] := by simpa using h1
      rw [ef] at e2
      refine ⟨true, by rw [e1]; exact hex _ hm, fun _ b nb => ⟨e.c, hm, e1, e2, List.replicate m none, stt_kgh tb l him, ?_⟩, fun z => nomatch z⟩
      unfold runK at hk
      split at hk
      · rename_i d' ρ' hms
        cases hk
        rw [hms]
        exact fun v σ2 H2 fz S2 ro => q v H2 S2.mv ro
      · cases hk
    · cases hk
  · rintro v H' ⟨d0, d, tb, sh, hk, q⟩
    cases hk
    exact q _ _ (Mv.refl _ _ tb) (.str _)
/-! ### isinstance of the refusal that a suite holds -/
theorem vo_isE {G : Gh} {a C D : Addr} {oe : Obj} {pn : List (Addr × Obj)} {i : Nat} {n c : Str} {b : Bool} {p0 p1 p2 pos : Pos} (hz : Zc (.ref D) none oe) (hf : ∃ vs, oe.data = .fields vs) (hE : ExcC X.K D) (hi : i ∈ G.fx) (hfv : G.fv i = some (.ref a))
    (hk : PySem.W.kitOne X.K (.ref D) (.ref C) = some b) (hgi : Gl (X.suite a ((a, oe) :: pn)) "isinstance") (hmi : (X.suite a ((a, oe) :: pn)).mg "isinstance" = none) (hN : (X.suite a ((a, oe) :: pn)).N[i]? = some n) (hv : Vis (X.suite a ((a, oe) :: pn)).env.scope n) (hgc : Gl (X.suite a ((a, oe) :: pn)) c) (hmc : X.mg c = some (.ref C))
    (hd : (n == ("__debug__" : Str)) = false := by decide) (hcd : (n == ("__classdict__" : Str)) = false := by decide) (hd2 : (c == ("__debug__" : Str)) = false := by decide)
    (he : starEach [Expr.Name n p1, Expr.Name c p2] (X.suite a ((a, oe) :: pn)).env = (false, eval (Expr.Name n p1) (X.suite a ((a, oe) :: pn)).env) :: starEach [Expr.Name c p2] (X.suite a ((a, oe) :: pn)).env := by rfl)
    (he2 : starEach [Expr.Name c p2] (X.suite a ((a, oe) :: pn)).env = (false, eval (Expr.Name c p2) (X.suite a ((a, oe) :: pn)).env) :: starEach [] (X.suite a ((a, oe) :: pn)).env := by rfl) :
    VO (X.suite a ((a, oe) :: pn)) G (.Call (.Name "isinstance" p0) [.Name n p1, .Name c p2] [] pos) (ret (.bool b)) :=
  pe_imp (pe_callB (u_isE hz hf) hgi hmi (by decide +kernel) (pa_cons (pe_var hN hv hd hcd) (pa_cons (pe_glob hgc hmc (show L2.RelV (.ref C) (.ref C) from rfl) hd2) pa_nil he2) he)) fun σ H Q ⟨ρ, S, k⟩ => by
    refine ⟨.ref a, by rw [S.fix i hi, hfv], ?_⟩
    exact ⟨rfl, D, rfl, rfl, hE, b, hk, k (.bl b) H (Fz.refl H) S (Sh.bl b)⟩
theorem vs_never {rm : Bool} {st : Stmt} : VS X G rm st (fun _ => none) := ps_imp ps_never fun D σ H ⟨ρ, S, k⟩ => k
theorem vo_isV {G : Gh} {a D : Addr} {oe : Obj} {pn : List (Addr × Obj)} {i : Nat} {n : Str} {b : Bool} {p0 p1 p2 pos : Pos} (hz : Zc (.ref D) none oe) (hf : ∃ vs, oe.data = .fields vs) (hE : ExcC X.K D) (hi : i ∈ G.fx) (hfv : G.fv i = some (.ref a))
    (hk : PySem.W.kitOne X.K (.ref D) (.type "ValueError") = some b) (hgi : Gl (X.suite a ((a, oe) :: pn)) "isinstance") (hmi : (X.suite a ((a, oe) :: pn)).mg "isinstance" = none) (hN : (X.suite a ((a, oe) :: pn)).N[i]? = some n) (hv : Vis (X.suite a ((a, oe) :: pn)).env.scope n)
    (hgc : Gl (X.suite a ((a, oe) :: pn)) "ValueError") (hmc : (X.suite a ((a, oe) :: pn)).mg "ValueError" = none) (hd : (n == ("__debug__" : Str)) = false := by decide) (hcd : (n == ("__classdict__" : Str)) = false := by decide)
    (he : starEach [Expr.Name n p1, Expr.Name "ValueError" p2] (X.suite a ((a, oe) :: pn)).env = (false, eval (Expr.Name n p1) (X.suite a ((a, oe) :: pn)).env) :: starEach [Expr.Name "ValueError" p2] (X.suite a ((a, oe) :: pn)).env := by rfl)
    (he2 : starEach [Expr.Name "ValueError" p2] (X.suite a ((a, oe) :: pn)).env = (false, eval (Expr.Name "ValueError" p2) (X.suite a ((a, oe) :: pn)).env) :: starEach [] (X.suite a ((a, oe) :: pn)).env := by rfl) :
    VO (X.suite a ((a, oe) :: pn)) G (.Call (.Name "isinstance" p0) [.Name n p1, .Name "ValueError" p2] [] pos) (ret (.bool b)) :=
  pe_imp (pe_callB (u_isE hz hf) hgi hmi (by decide +kernel) (pa_cons (pe_var hN hv hd hcd) (pa_cons (pe_bltn (v := .ty "ValueError") hgc hmc (by decide +kernel) rfl) pa_nil he2) he)) fun σ H Q ⟨ρ, S, k⟩ => by
    refine ⟨.ref a, by rw [S.fix i hi, hfv], ?_⟩
    exact ⟨rfl, D, rfl, rfl, hE, b, hk, k (.bl b) H (Fz.refl H) S (Sh.bl b)⟩
/-- as vSeq, kept by simp: a loop stands first -/
def vSeqL (f g : M Fl) : M Fl := vSeq f g
theorem wp_seqL {E : Ex → Prop} {ρ : Ev} {f g : M Fl} {qf : Fl → Ev → Prop} (J : Ev → Prop) (h1 : Wp E f ρ fun fl ρ1 => match fl with
    | .nx => J ρ1
    | x => qf x ρ1) (h2 : ∀ ρ1, J ρ1 → Wp E g ρ1 qf) : Wp E (vSeqL f g) ρ qf := by
  unfold vSeqL
  rw [wp_seq]
  refine h1.mono fun fl ρ1 h => ?_
  cases fl with
  | nx => exact h2 ρ1 h
  | _ => exact h
/-! ### index, count -/
def dListCount : D → List D → Option D
  | .list xs, [y] => if gd y && gdAll xs then some (.int ((xs.countP fun z => PyData.eqv z y : Nat) : Int)) else none
  | _, _ => none
theorem m_list_count (hu : X.A.units + 64 < cLine) : MtR X "list.count" (rM (zx X) dListCount) := by
  intro pins s σ H x xs v us Q I rx rs ⟨d, ds, r, rp, sh, e, q⟩
  unfold dListCount at e
  split at e
  · split at e
    · rename_i ys y hg
      cases e
      obtain ⟨z, rfl, sy⟩ := sh_one sh
      simp only [gd, gdAll, Bool.and_eq_true, decide_eq_true_eq] at hg
      obtain ⟨a, vs, rfl, hl, sv⟩ := rp.lst
      cases rx
      obtain ⟨u, rfl, ru⟩ := vals1 rs
      obtain ⟨hz, its, n, rv, hlen, e0⟩ := inv_lst I hl
      obtain ⟨as, hr⟩ := Sh.readsAll I _ _ _ sv rv
      obtain ⟨bs, hx⟩ := Sh.reads I _ _ _ sy ru
      exact PySem.SeqAt.count_list_data (vs := its.toArray) ⟨_, e0, rfl, n, rfl⟩ (by simpa using hr) hx hg.2.1 hg.1.1 (by omega) ⟨.int _, H, I.tok _, ⟨_, rfl⟩, q _ H (fun _ _ h => h) (nr_sh rfl (.int _))⟩
    · cases e
  · cases e
def dListIndex : D → List D → Option D
  | .list xs, [y] => if gd y && gdAll xs then (SeqAt.dataPlace xs y).map fun j => .int (j : Nat) else none
  | _, _ => none
theorem m_list_index (hu : X.A.units + 64 < cLine) : MtR X "list.index" (rM (zx X) dListIndex) := by
  intro pins s σ H x xs v us Q I rx rs ⟨d, ds, r, rp, sh, e, q⟩
  unfold dListIndex at e
  split at e
  · split at e
    · rename_i ys y hg
      cases hp : SeqAt.dataPlace ys y with
      | none => rw [hp] at e; cases e
      | some j =>
        rw [hp] at e
        cases e
        obtain ⟨z, rfl, sy⟩ := sh_one sh
        simp only [gd, gdAll, Bool.and_eq_true, decide_eq_true_eq] at hg
        obtain ⟨a, vs, rfl, hl, sv⟩ := rp.lst
        cases rx
        obtain ⟨u, rfl, ru⟩ := vals1 rs
        obtain ⟨hz, its, n, rv, hlen, e0⟩ := inv_lst I hl
        obtain ⟨as, hr⟩ := Sh.readsAll I _ _ _ sv rv
        obtain ⟨bs, hx⟩ := Sh.reads I _ _ _ sy ru
        have hr' : ReadsAll s.heap its.toArray.toList ys as := by simpa using hr
        obtain ⟨hj, hit, hno⟩ := PySem.SeqAt.hit_at hr' hg.2.1 hp
        have hsl := sizeLine_eq
        have hj2 : j < its.length := by simpa using hj
        exact call_meets PySem.F.slot_list_index ⟨_, e0, rfl⟩ PySem.F.entry_list_index (PySem.F.args_list_index_2 _ _) (SeqAt.list_indexAt a its.toArray n none #[] u (fun y' => PyData.eqv (SeqAt.readOf s.heap y') y) j hj (by omega) hit hno) ⟨e0, SeqAt.items_plain hr' hx hg.2.1 hg.1.1 (by omega), .int (j : Nat), H, I.tok _, ⟨_, rfl⟩, q _ H (fun _ _ h => h) (nr_sh rfl (.int _))⟩
    · cases e
  · cases e
/-- of a tuple of whole numbers -/
def intsL : List D → Option (List Int)
  | [] => some []
  | .int i :: r => (intsL r).map (i :: ·)
  | _ => none
def dTupleIndex : D → List D → Option D
  | .tuple xs, [.int k] => (match intsL xs with
    | some ns => if k ∈ ns then some (.int (ns.idxOf k : Nat)) else none
    | none => none)
  | _, _ => none
theorem ints_sh {Z : Zx} {H : Hp} : ∀ {ds : List D} {ns : List Int} {vs : List V}, intsL ds = some ns → ShAll Z H vs ds → vs = ns.map V.int
  | [], ns, vs, h, s => by cases h; cases s; rfl
  | d :: ds, ns, vs, h, s => by
    cases s with
    | cons s1 s2 =>
      unfold intsL at h
      split at h
      · rename_i e; cases e
      · rename_i i r e
        cases e
        cases hr : intsL ds with
        | none => rw [hr] at h; cases h
        | some ms =>
          rw [hr] at h
          cases h
          cases s1
          rw [ints_sh hr s2]
          rfl
      · cases h
theorem m_tuple_index (hu : X.A.units + 64 < cLine) : MtR X "tuple.index" (rM (zx X) dTupleIndex) := by
  intro pins s σ H x xs v us Q I rx rs ⟨d, ds, r, rp, sh, e, q⟩
  unfold dTupleIndex at e
  split at e
  · split at e
    · rename_i ys k _ ns hn
      split at e
      · rename_i hk
        cases e
        obtain ⟨z, rfl, sy⟩ := sh_one sh
        cases sy
        obtain ⟨a, vs, rfl, hl, sv⟩ := rp.tup
        cases rx
        obtain ⟨u, rfl, ru⟩ := vals1 rs
        obtain ⟨t, rfl⟩ := ru
        obtain rfl := ints_sh hn sv
        obtain ⟨its, rv, pl, hz⟩ := I.tuple hl.sq
        exact PySem.SeqAt.tuple_index_ints pl (ints_of_vals rv) hk ⟨.int (ns.idxOf k : Nat), H, I.tok _, ⟨_, rfl⟩, q _ H (fun _ _ h => h) (nr_sh rfl (.int _))⟩
      · cases e
    · cases e
  · cases e
end
end Cv
end
section
/-! Plain tools for mirrors: lambdas, comprehensions that pick. -/
namespace Cv
open PySem L2
section
variable {E : Ex → Prop} {ρ : Ev}
theorem wp_kind {kt : D → Option D} {ks : Ex → Option D} {fb : M D} {q : D → Ev → Prop} : Wp E (vKind kt ks fb) ρ q = Wp (fun e => Wl (ks e) fun r => q r ρ) fb (hid ρ) (fun d _ => Wl (kt d) fun r => q r ρ) := by
  unfold vKind Wp
  dsimp only
  cases hb : fb (hid ρ) with
  | none => simp [hb]
  | some r =>
    cases r with
    | ok d ρ' => cases hk : kt d <;> simp [hk, Wl]
    | ex e => cases hk : ks e <;> simp [hk, Wl]
theorem hid_nil : hid [] = [] := rfl
theorem hid_cons {o : Option Sl} {r : Ev} : hid (o :: r) = hidO o :: hid r := rfl
theorem hidO_sh {d : D} : hidO (some ⟨false, d⟩) = some ⟨false, d⟩ := rfl
theorem hidO_ow {d : D} : hidO (some ⟨true, d⟩) = none := rfl
theorem hidO_none : hidO none = none := rfl
theorem rngD_map (n : Nat) : rngD 0 n = ((List.range n).map fun k : Nat => (k : Int)).map PyData.int := by
  unfold rngD
  simp [List.map_map, Function.comp_def]
theorem lc_pick {α : Type} {vs : List Nat} {g : D → M Unit} {t : M Bool} {f : M D} {key : α → D} {qs : List D → Ev → Prop} (p : α → Bool) (val : α → D) (ok : Ev → Prop) (xs : List α) (hl : xs.length ≤ 100000) (h0 : ok ρ)
    (step : ∀ x ∈ xs, ∀ ρ, ok ρ → Wp E (g (key x)) (wipeE ρ vs) fun _ ρ1 => Wp E t ρ1 fun c ρ2 => (c = false → p x = false ∧ ok ρ2) ∧ (c = true → Wp E f ρ2 fun y ρ3 => p x = true ∧ y = val x ∧ ok ρ3))
    (post : ∀ ρ', ok ρ' → qs ((xs.filter p).map val) ρ') : Wp E (lcL vs g t f (xs.map key) []) ρ qs := by
  refine wp_lcL (fun ys acc ρ => ok ρ ∧ ∃ us ws : List α, ys = ws.map key ∧ xs = us ++ ws ∧ acc = (us.filter p).map val) ?_ ?_ _ _ _ ⟨h0, [], xs, rfl, rfl, rfl⟩
  · rintro x r acc ρ ⟨ho, us, ws, hx, hu, rfl⟩
    obtain ⟨v, ws', rfl, rfl, rfl⟩ := cons_map hx
    refine (step v (by rw [hu]; simp) ρ ho).mono fun _ ρ1 h1 => h1.mono fun c ρ2 h2 => ⟨fun hc => ?_, fun hc => (h2.2 hc).mono fun y ρ3 h3 => ?_⟩
    · obtain ⟨e, ho2⟩ := h2.1 hc
      exact ⟨ho2, us ++ [v], ws', rfl, by simp [hu], by simp [e]⟩
    · obtain ⟨e, rfl, ho3⟩ := h3
      have := congrArg List.length hu
      simp at this
      have hf := List.length_filter_le p us
      exact ⟨by rw [sizeLine_eq, List.length_map]; omega, ho3, us ++ [v], ws', rfl, by simp [hu], by simp [e]⟩
  · rintro acc ρ ⟨ho, us, ws, hx, hu, rfl⟩
    obtain rfl := nil_map hx
    rw [List.append_nil] at hu
    rw [← hu]
    exact post ρ ho
/-- no condition -/
theorem lc_each {α : Type} {vs : List Nat} {g : D → M Unit} {f : M D} {key : α → D} {qs : List D → Ev → Prop} (val : α → D) (ok : Ev → Prop) (xs : List α) (hl : xs.length ≤ 100000) (h0 : ok ρ)
    (step : ∀ x ∈ xs, ∀ ρ, ok ρ → Wp E (g (key x)) (wipeE ρ vs) fun _ ρ1 => Wp E f ρ1 fun y ρ3 => y = val x ∧ ok ρ3) (post : ∀ ρ', ok ρ' → qs (xs.map val) ρ') : Wp E (lcL vs g (ret true) f (xs.map key) []) ρ qs := by
  refine lc_pick (fun _ => true) val ok xs hl h0 (fun x hx ρ ho => (step x hx ρ ho).mono fun _ ρ1 h1 => by rw [wp_ret]; exact ⟨(fun z => absurd z (by decide)), fun _ => h1.mono fun y ρ3 h3 => ⟨rfl, h3⟩⟩) fun ρ' ho => ?_
  rw [List.filter_eq_self.2 (fun _ _ => rfl)]
  exact post ρ' ho
end
end Cv
end
section
/-! More of the language: isinstance with two types, xs[::-1], dict.get, calls. -/
namespace Cv
open PySem L2
open PySem.Spec PyProof.Rows
section
variable {X : Cx} {G : Gh}
/-! isinstance(x, (T1, T2)) -/
def tyN : D → String
  | .none => "NoneType"
  | .bool _ => "bool"
  | .int _ => "int"
  | .str _ => "str"
  | .list _ => "list"
  | .tuple _ => "tuple"
  | .dict _ => "dict"
theorem kit_reads {K : PySem.W.Frag} {h : Heap} {v : Value} {d : D} {as : List Addr} (r : Reads h v d as) : ∃ P : Heap → Prop, PySem.W.KitX K v (.type (tyN d)) P ∧ P h ∧ v ≠ .builtin "__main__.__loader__#opaque" := by
  cases r with
  | none => exact ⟨_, PySem.W.kitx_none, True.intro, fun z => nomatch z⟩
  | bool b => exact ⟨_, PySem.W.kitx_bool, True.intro, fun z => nomatch z⟩
  | int n t => exact ⟨_, PySem.W.kitx_int, True.intro, fun z => nomatch z⟩
  | str x t => exact ⟨_, PySem.W.kitx_str, True.intro, fun z => nomatch z⟩
  | list h1 h2 h3 h4 => exact ⟨_, PySem.W.kitx_list, ⟨_, h1, h2⟩, fun z => nomatch z⟩
  | tuple h1 h2 h3 h4 => exact ⟨_, PySem.W.kitx_tuple, ⟨_, h1, h2⟩, fun z => nomatch z⟩
  | dict h1 h2 h3 h4 h5 => exact ⟨_, PySem.W.kitx_dict, ⟨_, h1, h2⟩, fun z => nomatch z⟩
theorem Rp.same {Z : Zx} {H H' : Hp} {v : V} {d : D} (h : Rp Z H v d) (e : Same H H') : Rp Z H' v d := by
  cases h with
  | sh h => exact .sh (h.up (Same.fz e))
  | ow h =>
    obtain ⟨a, rfl⟩ := h.ref
    refine .ow (h.keep (Same.fz e) ?_)
    have m := h.mut
    cases q : H a with
    | none => rw [q] at m; exact m.elim
    | some u => rw [e a u q]
def rIsT (X : Cx) (ts : List String) (g : D → Bool) : List V → Hp → VK → Prop := fun xs H Q => ∃ x d tp, xs = [x, .ref tp] ∧ Rp (zx X) H x d ∧ H tp = some (.tup (ts.map V.ty)) ∧ Q (.bl (g d)) H
theorem vals_ty : ∀ {ts : List String} {us : List Value}, Vals (ts.map V.ty) us → us = ts.map Value.type
  | [], _, .nil => rfl
  | t :: ts, _, .cons r h => by rw [vals_ty h, show _ = Value.type t from r]; rfl
theorem c_isT {ts : List String} {g : D → Bool} (hk : ∀ d, PySem.W.kitAny X.K (.type (tyN d)) (ts.map Value.type) = some (g d)) : CallR X (.builtin "isinstance") (rIsT X ts g) := by
  intro pins s σ H xs us Q I r ⟨x, d, tp, e, hx, hT, q⟩
  subst e
  obtain ⟨u1, u2, rfl, r1, r2⟩ := vals2 r
  cases (show u2 = Value.ref tp from r2)
  obtain ⟨as, ra⟩ := hx.reads I r1
  obtain ⟨P, Z, p, hx⟩ := kit_reads (K := X.K) ra
  obtain ⟨_, its, rv, o, h1, h2, n, h3⟩ := (show ObjOk X.prog X.w H s.heap tp (.tup (ts.map V.ty)) from I.hok tp _ hT)
  have e3 := vals_ty rv
  subst e3
  obtain ⟨oc, od, dt, sl⟩ := o
  simp only at h2 h3
  subst h2 h3
  exact PySem.W.kia_tup Z I.kIn p h1 (hk d) hx fun tk => ⟨.bl (g d), H, I.tok tk, rfl, q⟩
theorem vo_isT {t1 t2 : String} {y1 y2 : Str} {g : D → Bool} {a : Expr} {fa : M D} {k1 : Nat} {p1 p2 p3 p4 pos : Pos} (hk : ∀ d, PySem.W.kitAny X.K (.type (tyN d)) ([t1, t2].map Value.type) = some (g d)) (hg : Gl X "isinstance") (hm : X.mg "isinstance" = none)
    (hg1 : Gl X y1) (hm1 : X.mg y1 = none) (hv1 : bootBuiltins y1 = some (.type t1)) (hg2 : Gl X y2) (hm2 : X.mg y2 = none) (hv2 : bootBuiltins y2 = some (.type t2)) (ha : VB X G a fa) (hZ : G.Z = zx X := by rfl)
    (hn1 : y1 ≠ "__name__" := by decide) (hd1 : (y1 == ("__debug__" : Str)) = false := by decide) (hn2 : y2 ≠ "__name__" := by decide) (hd2 : (y2 == ("__debug__" : Str)) = false := by decide)
    (hs : starEach [a, .Tuple [.Name y1 p2, .Name y2 p3] k1 p4] X.env = (false, eval a X.env) :: starEach [.Tuple [.Name y1 p2, .Name y2 p3] k1 p4] X.env := by rfl) (hs2 : starEach [.Tuple [.Name y1 p2, .Name y2 p3] k1 p4] X.env = (false, eval (.Tuple [.Name y1 p2, .Name y2 p3] k1 p4) X.env) :: starEach [] X.env := by rfl)
    (hs3 : starEach [.Name y1 p2, .Name y2 p3] X.env = (false, eval (.Name y1 p2) X.env) :: starEach [.Name y2 p3] X.env := by rfl) (hs4 : starEach [.Name y2 p3] X.env = (false, eval (.Name y2 p3) X.env) :: starEach [] X.env := by rfl)
    (hpl : (backTo pos (starEach [.Tuple [.Name y1 p2, .Name y2 p3] k1 p4] X.env)).any (·.1) = false := by rfl) : VO X G (.Call (.Name "isinstance" p1) [a, .Tuple [.Name y1 p2, .Name y2 p3] k1 p4] [] pos) (vIs g fa) :=
  pe_imp (pe_callB (c_isT hk) hg hm (by decide +kernel) (pa_cons ha (pa_cons (pe_tup (pa_cons (pe_bltn (v := .ty t1) hg1 hm1 hv1 rfl hn1 hd1) (pa_cons (pe_bltn (v := .ty t2) hg2 hm2 hv2 rfl hn2 hd2) pa_nil hs4) hs3)) pa_nil hs2) hs) (by decide) (by decide) hs hpl) (by
  obtain ⟨Z, cl, H0, S0, W, fx, fv, tp⟩ := G
  cases hZ
  rintro σ H Q ⟨ρ, S, k⟩
  refine ⟨ρ, S, k.bnd.mono fun x ρ1 k1 v H1 fz1 S1 r1 => ?_⟩
  refine ⟨by show 2 ≤ sizeLine; rw [sizeLine_eq]; omega, fun p hp => ?_⟩
  have sm := sm_upd (o := .tup [V.ty t1, V.ty t2]) hp
  exact ⟨v, x, p, rfl, r1.same sm, upd_same, k1 _ _ (fz1.trans (Same.fz sm)) (S1.same sm) (show Sh (zx X) _ (.bl (g x)) (.bool (g x)) from .bl _)⟩)
theorem isTL (X : Cx) : ∀ d, PySem.W.kitAny X.K (.type (tyN d)) (["tuple", "list"].map Value.type) = some (d.isTuple || d.isList) := fun d => by cases d <;> rfl
theorem isLT (X : Cx) : ∀ d, PySem.W.kitAny X.K (.type (tyN d)) (["list", "tuple"].map Value.type) = some (d.isList || d.isTuple) := fun d => by cases d <;> rfl
/-! xs[::-1] -/
def dRev : D → Option D
  | .list xs => some (.list xs.reverse)
  | _ => none
theorem ShAll.reverse {Z : Zx} {H : Hp} : ∀ {vs : List V} {ds : List D}, ShAll Z H vs ds → ShAll Z H vs.reverse ds.reverse
  | [], _, h => by cases h; exact .nil
  | v :: vs, _, h => by
    cases h with
    | cons h1 h2 => rw [List.reverse_cons, List.reverse_cons]; exact h2.reverse.append (.cons h1 .nil)
theorem vo_rev {e : Expr} {fa : M D} {k : Nat} {p1 p2 p3 pos : Pos} (ha : VB X G e fa) (hZ : G.Z = zx X := by rfl) : VO X G (.Subscript e (.Slice none none (some (.UnaryOp .USub (.Constant (.int 1) k p1) p2)) p3) pos) (vC1 dRev fa) := pe_imp (pe_revL ha) (by
  obtain ⟨Z, cl, H0, S0, W, fx, fv, tp⟩ := G
  cases hZ
  rintro σ H Q ⟨ρ, S, k⟩
  refine ⟨ρ, S, k.bnd.mono fun x ρ1 k1 v H1 fz1 S1 r1 => ?_⟩
  obtain ⟨d, e, q⟩ := k1.lft
  cases x with
  | list xs =>
    cases e
    obtain ⟨a, vs, rfl, hl, sv⟩ := r1.lst
    refine ⟨a, vs, rfl, hl.sq, fun p hp => ?_⟩
    have sm := sm_upd (o := .lst vs.reverse) hp
    exact q _ _ (fz1.trans (Same.fz sm)) (S1.same sm) (NR.ro (nr_ow rfl hp (.lst upd_same (sv.reverse.up (Same.fz sm)))) S1)
  | _ => cases e)
/-! d.get(k, x) -/
def dDictGet : D → List D → Option D
  | .dict kvs, [k, x] => (dGet kvs k).map fun o => o.getD x
  | _, _ => none
theorem m_dict_get (hu : X.A.units + 64 < cLine) : MtR X "dict.get" (rMS (zx X) dDictGet) := by
  intro pins s σ H x xs v us Q I rx rs ⟨d, ds, r, rp, sh, e, q⟩
  unfold dDictGet at e
  split at e
  · rename_i kvs k dx
    obtain ⟨o, ho, rfl⟩ := Option.map_eq_some_iff.1 e
    cases sh with
    | cons s1 sh =>
      cases sh with
      | cons s2 sh =>
        cases sh
        obtain ⟨a, rfl, _⟩ := rp.dic
        cases rx
        obtain ⟨u1, u2, rfl, r1, r2⟩ := vals2 rs
        rcases dGet_ask I rp (.sh s1) r1 ho with ⟨o', g, z⟩ | ⟨b, kk, ys, rfl, hs, hk, dd, z⟩
        · refine d_get2 (by omega) I g r1 r2 fun w' s3 I3 rw' => ⟨_, H, I3, rw', q _ ?_⟩
          cases o with
          | none => rw [show o' = none from z]; exact s2
          | some y => obtain ⟨v, rfl, sv⟩ := z; exact sv
        · refine call_meetsIn PySem.F.slot_dict_get dd.typeIs PySem.F.entry_dict_get (PySem.F.args_dict_get_3 _ _ _) (meetsH_dict_get_default (nestedKind X.prog X.w) a b hs u2) ⟨show X.A.in1.units + 8 < cLine by show X.A.units + 1 + 8 < cLine; omega, kk, ys, hk, dd, ?_⟩
          cases o with
          | none =>
            rw [show atKey ys kk = none from z]
            exact ⟨_, H, I.tok _, r2, q _ s2⟩
          | some y =>
            obtain ⟨p, v, e, rv, sv⟩ := z
            rw [e]
            exact ⟨_, H, I.tok _, rv, q _ sv⟩
  · cases e
end
section
variable {X : Cx} {G : Gh} {T name id : String} {o e : Expr} {es : List Expr} {apos cpos : Pos} {p : D → List D → Option D} {fo : M D} {fs : M (List D)} {x : Str} {ps : Pos}
theorem ve_mN (i : Nat) (pa : PlainAttrs T) (slot : Slot T name id) (hty : typeOf (.builtin id) = pure (.type "method_descriptor")) (hm : MtR X id (rMS (zx X) p)) (ha : VA X G (e :: es) fs) (hZ : G.Z = zx X := by rfl)
    (hN : X.N[i]? = some x := by rfl) (hv : Vis X.env.scope x := by first | exact Or.inl rfl | exact Or.inr (Or.inl rfl) | exact Or.inr (Or.inr rfl)) (hd : (x == ("__debug__" : Str)) = false := by decide) (hcd : (x == ("__classdict__" : Str)) = false := by decide)
    (hbase : attributeBase (.Name x ps) name X.env (eval (.Name x ps) X.env) = eval (.Name x ps) X.env := by rfl)
    (hfew : ((backTo cpos (starEach (e :: es) X.env)).all (fun x => !x.1) && (backToKw cpos (keywordEach [] X.env)).all (fun x => x.1.isSome) && decide ((e :: es).length + ([] : List Keyword).length + (if ([] : List Keyword).isEmpty then 0 else 1) < 30)) = true := by rfl)
    (hline : (apos.endLine == cpos.line) = true := by rfl) (hs : starEach (e :: es) X.env = (false, eval e X.env) :: starEach es X.env := by rfl) (hplain : (backTo cpos (starEach es X.env)).any (·.1) = false := by rfl) :
    VE X G (.Call (.Attribute (.Name x ps) name apos) (e :: es) [] cpos) (vMN T p i fs) := pe_imp (pe_m pa slot hty hm (pe_var hN hv hd hcd) ha hbase hfew hline hs hplain) (by
  obtain ⟨Z, cl, H0, S0, W, fx, fv, tp⟩ := G
  cases hZ
  rintro σ H Q ⟨ρ, S, k⟩
  obtain ⟨s0, hs0, k0⟩ := k.get
  obtain ⟨v, hv, _⟩ := S.val i s0 hs0
  split at k0
  · rename_i hT
    refine ⟨v, hv, ⟨s0.d, S.get hv hs0, hT⟩, ρ, S, k0.bnd.mono fun xs ρ2 k2 vs H2 fz2 S2 s2 => ?_⟩
    obtain ⟨s1, hs1, k3⟩ := k2.get
    obtain ⟨d, e, q⟩ := k3.lft
    exact ⟨s1.d, xs, d, S2.get hv hs1, s2, e, fun z sz => q z H2 fz2 S2 sz⟩
  · exact k0.elim)
end
/-! ### a fresh list or dict as the last argument of a def that writes it -/
section
variable {X : Cx} {G : Gh} {CX : CXT} {k : Nat} {f : Addr} {fd : FuncData} {ps : List Str} {x : Str} {e : Expr} {es : List Expr} {p pos : Pos} {fe : M D} {fs : M (List D)} {mf : List D → Option Rf}
def LastOk (G : Gh) (H : Hp) (σ : L2.St) (ρ : Ev) (vs : List V) (ds : List D) : Prop := ∃ vs0 v ds0 d, vs = vs0 ++ [v] ∧ ds = ds0 ++ [d] ∧ ShAll G.Z H vs0 ds0 ∧ RO G H σ ρ v d
def tvL (G : Gh) (f : M (List D)) : TA := fun σ H Q => ∃ ρ, Stt G H σ ρ ∧ Kont G (f ρ) fun ds ρ' => ∀ vs H', Fz H H' → Stt G H' σ ρ' → LastOk G H' σ ρ' vs ds → Q vs H'
theorem vf_last (ha : VO X G e fe) (hs : starEach [e] X.env = (false, eval e X.env) :: starEach [] X.env := by rfl) : PA X [e] (tvL G (vCons fe vNil)) := ⟨fun pos pins s σ H Q I ⟨ρ, S, k⟩ => (pa_cons ha pa_nil hs).run pos pins s σ H Q I
  ⟨ρ, S, k.bnd.mono fun x ρ1 k1 v H1 fz1 S1 s1 => k1 _ H1 fz1 S1 ⟨[], v, [], x, rfl, rfl, .nil, s1⟩⟩⟩
theorem vf_cons (ha : VE X G e fe) (hr : PA X es (tvL G fs)) (hs : starEach (e :: es) X.env = (false, eval e X.env) :: starEach es X.env := by rfl) : PA X (e :: es) (tvL G (vCons fe fs)) := ⟨fun pos pins s σ H Q I ⟨ρ, S, k⟩ => (pa_cons ha hr hs).run pos pins s σ H Q I
  ⟨ρ, S, k.bnd.mono fun x ρ1 k1 v H1 fz1 S1 s1 => ⟨ρ1, S1, k1.bnd.mono fun xs ρ2 k2 vs H2 fz2 S2 ⟨vs0, v', ds0, d', e1, e2, s2, ro⟩ => k2 _ H2 (fz1.trans fz2) S2 ⟨v :: vs0, v', x :: ds0, d', by rw [e1]; rfl, by rw [e2]; rfl, .cons (s1.up fz2) s2, ro⟩⟩⟩⟩
def vCallL (mf : List D → Option Rf) (q : Nat) (fs : M (List D)) : M D := bnd fs fun ds => fun ρ => match ds[q]? with
  | some d0 => if isC d0 then (match mf ds with
    | some (.ret d _) => some (.ok d ρ)
    | some (.exc e) => some (.ex e)
    | none => none) else none
  | none => none
theorem tcallL {cl : Cl} {q : Nat} (hcl : G.cl = cl) (hZ : G.Z = zx X) (hl : ∀ ds r, mf ds = some r → ds.length = q + 1) : ∀ σ H Q, tvE G (vCallL mf q fs) σ H Q → tCall (spV (zx X) cl (q + 1) [q] false mf) [] G.W (tvL G fs) σ H Q := by
  obtain ⟨Z, cl', H0, S0, W, fx, fv, tp⟩ := G
  cases hZ
  cases hcl
  rintro σ H Q ⟨ρ, S, k⟩
  refine ⟨ρ, S, k.bnd.mono fun ds ρ1 k1 vs H1 fz1 S1 lo => ?_⟩
  show spV _ _ _ _ _ _ (vs ++ []) H1 Q _
  rw [List.append_nil]
  obtain ⟨vs0, v, ds0, d0, rfl, rfl, s0, ro⟩ := lo
  dsimp only at k1
  split at k1
  · rename_i d0' hd0
    split at k1
    · rename_i hc
      have hlen : mf (ds0 ++ [d0]) ≠ none := fun z => by rw [z] at k1; exact k1.elim
      have hq : ds0.length = q := by
        cases hm : mf (ds0 ++ [d0]) with
        | none => exact (hlen hm).elim
        | some r => have := hl _ _ hm; simpa using this
      have hv0 : vs0.length = q := by rw [s0.length]; exact hq
      have ed : d0' = d0 := by
        rw [List.getElem?_append_right (by omega)] at hd0
        simp [hq] at hd0
        exact hd0.symm
      subst ed
      unfold RO at ro
      rw [hc] at ro
      obtain ⟨p, rfl, ow, fr⟩ := ro
      have hat : (vs0 ++ [V.ref p])[q]? = some (.ref p) := by rw [List.getElem?_append_right (by omega)]; simp [hv0]
      have hio : ioA [q] (vs0 ++ [V.ref p]) = [p] := by simp [ioA, hat, refOf]
      refine ⟨by simp [hv0], S1.mv.tb.2, ds0 ++ [d0'], ⟨by simp [hv0, hq], fun i w d h1 h2 => ?_, fun i j r hi hj _ _ => by simp at hi hj; omega⟩, ?_⟩
      · by_cases hi : i = q
        · subst hi
          rw [hat] at h1
          cases h1
          rw [if_pos (by simp)]
          rw [hd0] at h2
          cases h2
          exact ow
        · rw [if_neg (by simpa using hi)]
          have hlt : i < vs0.length := by
            have := (List.getElem?_eq_some_iff.mp h1).1
            simp at this
            omega
          rw [List.getElem?_append_left hlt] at h1
          rw [List.getElem?_append_left (by omega)] at h2
          obtain ⟨d', e', sh⟩ := s0.get' h1
          rw [e'] at h2
          cases h2
          exact sh
      · cases hm : mf (ds0 ++ [d0']) with
        | none => rw [hm] at k1; exact k1.elim
        | some r =>
          rw [hm] at k1
          cases r with
          | exc e => exact fun cls od H' mv ea => k1 cls od H' (S1.mv.trans mv (fun a ha => by
              rw [hio] at ha
              obtain rfl : a = p := by simpa using ha
              exact .inr fr.1)) ea
          | ret d outs => exact fun v H' mv _ rk => k1 v H' (fz1.trans mv.fz) (S1.calledF fr (hio ▸ mv)) rk
    · exact k1.elim
  · exact k1.elim
theorem ve_callL {cl : Cl} {q : Nat} (F : FnOk X.prog X.w X.K X.mg X.base CX k f fd ps (spV (zx X) cl (q + 1) [q] false mf)) (hr : Room k X.A) (hg : Gl X x) (hm : X.mg x = some (.ref f)) (hk : PySem.W.keepIn X.K (.ref f) = true) (hb : Binds X.K fd ps []) (hx : Passes CX X G.W) (hl : ∀ ds r, mf ds = some r → ds.length = q + 1)
    (ha : PA X (e :: es) (tvL G fs)) (hcl : G.cl = cl := by rfl) (hZ : G.Z = zx X := by rfl) (hdb : (x == ("__debug__" : Str)) = false := by decide) (he : starEach (e :: es) X.env = (false, eval e X.env) :: starEach es X.env := by rfl) (hpl : (backTo pos (starEach es X.env)).any (·.1) = false := by rfl) :
    VE X G (.Call (.Name x p) (e :: es) [] pos) (vCallL mf q fs) := pe_imp (pe_call F hr hg hm hk hb .nil hx ha hdb he hpl) (tcallL hcl hZ hl)
theorem ve_callGL {cl : Cl} {q : Nat} (F : FnG X.prog X.w X.K X.mg X.base CX k f fd ps (spV (zx X) cl (q + 1) [q] false mf)) (hG : X.A.guards = some []) (hr : Room k X.A) (hg : Gl X x) (hm : X.mg x = some (.ref f)) (hk : PySem.W.keepIn X.K (.ref f) = true) (hb : Binds X.K fd ps []) (hx : Passes CX X G.W) (hl : ∀ ds r, mf ds = some r → ds.length = q + 1)
    (ha : PA X (e :: es) (tvL G fs)) (hcl : G.cl = cl := by rfl) (hZ : G.Z = zx X := by rfl) (hdb : (x == ("__debug__" : Str)) = false := by decide) (he : starEach (e :: es) X.env = (false, eval e X.env) :: starEach es X.env := by rfl) (hpl : (backTo pos (starEach es X.env)).any (·.1) = false := by rfl) :
    VE X G (.Call (.Name x p) (e :: es) [] pos) (vCallL mf q fs) := pe_imp (pe_callG F hG hr hg hm hk hb hx ha hdb he hpl) (tcallL hcl hZ hl)
theorem wp_callL {E : Ex → Prop} {ρ : Ev} {q : Nat} {qd : D → Ev → Prop} : Wp E (vCallL mf q fs) ρ qd = Wp E fs ρ fun ds ρ1 => (∃ d0, ds[q]? = some d0 ∧ isC d0 = true) ∧ Fw E mf ds fun d _ => qd d ρ1 := by
  simp only [vCallL, wp_bnd]
  congr 1
  funext ds ρ1
  unfold Wp Fw
  cases hq : ds[q]? with
  | none => simp
  | some d0 =>
    cases hc : isC d0 with
    | false => simp [hc]
    | true =>
      cases hm : mf ds with
      | none => simp [hm, hc]
      | some r => cases r <;> simp [hm, hc]
end
section
variable {X : Cx} {G : Gh} {rm : Bool}
theorem vss_never {sts : List Stmt} : VSs X G rm sts (fun _ => none) := ⟨fun pins s σ H D I ⟨ρ, S, k⟩ => k.elim⟩
end
/-! ### a walk over a list, a tuple or a dict -/
section
variable {X : Cx} {G : Gh} {tg e : Expr} {fe : M D}
def iAny (Z : Zx) (td : TE) : TI := fun σ H R => td σ H fun x H1 => ∃ d, x = .ref d ∧ (((∃ xs, SqL Z.K H1 d xs) ∧ R (Itl Z.K d) H1) ∨ ((∃ xs, SqT Z.K H1 d xs) ∧ R (Itt Z.K d) H1) ∨ ∃ o, ((∃ kvs, H1 d = some (.frz o (.dK kvs)) ∧ R (Itk d o kvs) H1) ∨ ∃ kvs, H1 d = some (.frz o (oN Z d kvs)) ∧ R (Itn Z d o kvs) H1))
theorem pi_any {td : TE} (he : PE X e td) : PI X tg e (iAny (zx X) td) := by
  refine ⟨fun pins s σ H R I h => thn (he.run pins s σ H _ I h) fun u s1 ⟨x, H1, I1, rx, d, ex, q⟩ => ?_⟩
  subst ex
  obtain rfl : u = Value.ref d := rx
  rcases q with ⟨⟨xs, hq⟩, q⟩ | ⟨⟨xs, hq⟩, q⟩ | ⟨o, ⟨kvs, hd, q⟩ | ⟨kvs, hd, q⟩⟩
  · obtain ⟨its, rv, p, hz⟩ := I1.list hq
    refine wpAny_pyIter_list p.isList ?_
    refine ⟨s1.heap.objs.size, [s1.heap.objs.size], _, _, H1, rfl, I1.kept (t' := s1.toks) fun b o e => Heap.get?_push_of_some _ e, turn_list d _, ⟨_, Heap.get?_push_size _ rfl, rfl, rfl⟩, fun b hb => ?_, q⟩
    have e : b = s1.heap.objs.size := by simpa using hb
    subst e
    exact I1.fpOk (Nat.le_refl _) (I1.hok.fresh (Nat.le_refl _))
  · obtain ⟨its, rv, p, hz⟩ := I1.tuple hq
    refine wpAny_pyIter_tuple (show s1.heap.IsTuple d its.toArray from p) ?_
    refine ⟨s1.heap.objs.size, [s1.heap.objs.size], _, _, H1, rfl, I1.kept (t' := s1.toks) fun b o e => Heap.get?_push_of_some _ e, turn_tuple d _, ⟨_, Heap.get?_push_size _ rfl, rfl, rfl⟩, fun b hb => ?_, q⟩
    have e : b = s1.heap.objs.size := by simpa using hb
    subst e
    exact I1.fpOk (Nat.le_refl _) (I1.hok.fresh (Nat.le_refl _))
  · obtain ⟨hs, hgd, hx, es, ep, vs, hdt, hsz, kv, hm⟩ := I1.frzK hd
    exact iter_keys hs hgd hx hdt (pi_one (tk := s1.toks) I1 _ (turn_keys _ hdt) ⟨_, Heap.get?_push_size _ rfl, rfl, by rw [hsz] <;> rfl⟩ q)
  · obtain ⟨hs, hgd, hx, es, ep, hdt, hsz, ent⟩ := frzN I1 hd
    exact iter_keys hs hgd hx hdt (pi_one (tk := s1.toks) I1 _ (turn_keysN _ hdt) ⟨_, Heap.get?_push_size _ rfl, rfl, by rw [hsz] <;> rfl⟩ q)
def vItA (f : M D) : M (List D) := bnd f fun x => match x with
  | .list ds => ret ds
  | .tuple ds => ret ds
  | .dict ds => ret (ds.map (·.1))
  | _ => fun _ => none
theorem vi_any (he : VE X G e fe) (hZ : G.Z = zx X := by rfl) : VI X G Sh tg e (vItA fe) := pi_imp (pi_any he) (by
  obtain ⟨Z, cl, H0, S0, W, fx, fv, tp⟩ := G
  cases hZ
  rintro σ H R ⟨ρ, S, k⟩
  refine ⟨ρ, S, k.bnd.mono fun x ρ1 k1 v H1 fz1 S1 s1 => ?_⟩
  cases x with
  | list ds =>
    cases s1 with
    | lst ea sv =>
      refine ⟨_, rfl, .inl ⟨⟨_, fz_sq ea (Fz.refl H1)⟩, k1 _ H1 fz1 S1 ⟨_, _, sv.length ▸ walk_list, fun H2 f => fz_sq ea f, fun i H2 x H3 hi f hy => ?_⟩⟩⟩
      obtain ⟨rfl, hx⟩ := hy
      obtain ⟨d, hd, sd⟩ := (sv.up f).get' hx
      exact ⟨Same.refl _, d, hd, sd⟩
  | tuple ds =>
    cases s1 with
    | tup ea sv =>
      refine ⟨_, rfl, .inr (.inl ⟨⟨_, ea.sq⟩, k1 _ H1 fz1 S1 ⟨_, _, sv.length ▸ walk_tup, fun H2 f => (ea.keep f).sq, fun i H2 x H3 hi f hy => ?_⟩⟩)⟩
      obtain ⟨rfl, hx⟩ := hy
      obtain ⟨d, hd, sd⟩ := (sv.up f).get' hx
      exact ⟨Same.refl _, d, hd, sd⟩
  | dict ds =>
    cases s1 with
    | dK ea sv =>
      rename_i a o kvs
      have hl : (ds.map (·.1)).length = kvs.length := by rw [List.length_map, sv.length]
      refine ⟨_, rfl, .inr (.inr ⟨_, .inl ⟨_, ea, k1 _ H1 fz1 S1 ⟨_, _, hl.symm ▸ walk_keys, fun H2 f => f _ _ _ ea, fun i H2 x H3 hi f hy => ?_⟩⟩⟩)⟩
      obtain ⟨rfl, k, w, hk, rfl⟩ := hy
      obtain ⟨d, hd⟩ := sv.get hk
      exact ⟨Same.refl _, keyD k, by rw [List.getElem?_map, hd]; rfl, sh_keyD k⟩
    | dN ea sv hne =>
      rename_i a o kvs
      have hl : (ds.map (·.1)).length = kvs.length := by rw [List.length_map, sv.length]
      refine ⟨_, rfl, .inr (.inr ⟨_, .inr ⟨_, ea, k1 _ H1 fz1 S1 ⟨fun H2 => H2 a = some (.frz o (oN (zx X) a kvs)), fun i H x H' => H' = H ∧ ∃ k b v, kvs[i]? = some (k, b, v) ∧ x = .ref b, hl.symm ▸ ⟨fun i H hi h => ⟨h, hi⟩, fun H h => ⟨h, Nat.le_refl _⟩, fun i H x H' _ _ y => y⟩, fun H2 f => f _ _ _ ea, fun i H2 x H3 hi f hy => ?_⟩⟩⟩)⟩
      obtain ⟨rfl, k, b, w, hk, rfl⟩ := hy
      obtain ⟨ks, d, hd, sb⟩ := (sv.up f).get hk
      exact ⟨Same.refl _, .tuple ks, by rw [List.getElem?_map, hd]; rfl, sb⟩
  | _ => exact k1.elim)
/-- what is walked over -/
def Wit (x : D) (p : List D → Prop) : Prop := match x with
  | .list ds => p ds
  | .tuple ds => p ds
  | .dict ds => p (ds.map (·.1))
  | _ => False
theorem wit_list {ds : List D} {p : List D → Prop} : Wit (.list ds) p = p ds := propext Iff.rfl
theorem wit_tup {ds : List D} {p : List D → Prop} : Wit (.tuple ds) p = p ds := propext Iff.rfl
theorem wit_dict {ds : List (D × D)} {p : List D → Prop} : Wit (.dict ds) p = p (ds.map (·.1)) := propext Iff.rfl
theorem wp_itA {E : Ex → Prop} {ρ : Ev} {qs : List D → Ev → Prop} {f : M D} : Wp E (vItA f) ρ qs = Wp E f ρ fun x ρ1 => Wit x fun ds => qs ds ρ1 := by
  simp only [vItA, wp_bnd]
  congr 1
  funext x ρ1
  cases x <;> with_unfolding_all rfl
theorem wp_m {E : Ex → Prop} {ρ : Ev} {qd : D → Ev → Prop} {T : String} {p : D → List D → Option D} {fo : M D} {fs : M (List D)} : Wp E (vM T p fo fs) ρ qd = Wp E fo ρ fun x ρ1 => tyD x = some T ∧ Wp E fs ρ1 fun xs ρ2 => Wl (p x xs) fun d => qd d ρ2 := by
  simp only [vM, wp_bnd]
  congr 1
  funext x ρ1
  rw [wp_iteP]
  simp only [wp_bnd, wp_lft]
theorem wp_mN {E : Ex → Prop} {ρ : Ev} {qd : D → Ev → Prop} {T : String} {p : D → List D → Option D} {i : Nat} {fs : M (List D)} : Wp E (vMN T p i fs) ρ qd = Wo ρ[i]? fun s => tyD s.d = some T ∧ Wp E fs ρ fun xs ρ2 => Wo ρ2[i]? fun s2 => Wl (p s2.d xs) fun d => qd d ρ2 := by
  simp only [vMN, wp_bnd, wp_get]
  congr 1
  funext s
  rw [wp_iteP]
  simp only [wp_bnd, wp_lft, wp_get]
end
/-! ### list(range(n)) -/
section
variable {X : Cx} {G : Gh} {a : Expr} {fa : M D} {p pos p2 pos2 : Pos}
def vListRg (f : M D) : M D := bnd f fun x => lft (match x with
  | .int j => if -(2 ^ 62) ≤ j ∧ j ≤ 2 ^ 24 then some (.list (rngD 0 j.toNat)) else none
  | _ => none)
theorem rgV_sh {Z : Zx} {H : Hp} (j : Int) : ShAll Z H (rgV 0 j) (rngD 0 j.toNat) := by
  have e1 : rgV 0 j = ((List.range j.toNat).map fun i : Nat => (0 : Int) + i).map V.int := by simp [rgV]
  have e2 : rngD 0 j.toNat = ((List.range j.toNat).map fun i : Nat => (0 : Int) + i).map PyData.int := by simp [rngD]
  rw [e1, e2]
  exact ShAll.ints _
theorem vo_listRg (hc : X.calm = true) (hg : Gl X "list") (hm : X.mg "list" = none) (hg2 : Gl X "range") (hm2 : X.mg "range" = none) (ha : VE X G a fa) (hZ : G.Z = zx X := by rfl)
    (na : starEach [a] X.env = (false, eval a X.env) :: starEach [] X.env := by rfl) (nb : starEach [Expr.Call (.Name "range" p) [a] [] pos] X.env = (false, eval (Expr.Call (.Name "range" p) [a] [] pos) X.env) :: starEach [] X.env := by rfl) :
    VO X G (.Call (.Name "list" p2) [Expr.Call (.Name "range" p) [a] [] pos] [] pos2) (vListRg fa) := pe_imp (pe_listRg hc hg hm (prg_1 hg2 hm2 ha na) nb) (by
  obtain ⟨Z, cl, H0, S0, W, fx, fv, tp⟩ := G
  cases hZ
  rintro σ H Q ⟨ρ, S, k⟩
  refine ⟨ρ, S, k.bnd.mono fun x ρ1 k1 v H1 fz1 S1 s1 => ?_⟩
  obtain ⟨d, e, q⟩ := k1.lft
  cases x with
  | int j =>
    dsimp only at e
    split at e
    · rename_i hj
      cases e
      cases s1
      refine ⟨j, rfl, ?_⟩
      refine ⟨⟨by decide, by decide, hj.1, by omega, by omega⟩, fun p hp => ?_⟩
      have sm := sm_upd (o := .lst (rgV 0 j)) hp
      exact q _ _ (fz1.trans (Same.fz sm)) (S1.same sm) (NR.ro (nr_ow rfl hp (.lst upd_same (rgV_sh j))) S1)
    · cases e
  | _ => cases e)
theorem wp_listRg {E : Ex → Prop} {ρ : Ev} {qd : D → Ev → Prop} {f : M D} : Wp E (vListRg f) ρ qd = Wp E f ρ fun x ρ1 => match x with
    | .int j => (-(2 ^ 62) ≤ j ∧ j ≤ 2 ^ 24) ∧ qd (.list (rngD 0 j.toNat)) ρ1
    | _ => False := by
  simp only [vListRg, wp_bnd, wp_lft]
  congr 1
  funext x ρ1
  cases x with
  | int j => simp only [wl_if]
  | _ => with_unfolding_all rfl
end
/-! ### a, b, c = x, y, z -/
section
variable {X : Cx} {G : Gh} {rm : Bool}
theorem RO.set {H : Hp} {σ : L2.St} {ρ : Ev} {v w : V} {d d2 : D} {i : Nat} (ro : RO G H σ ρ v d) : RO G H (σ.set i (some w)) (ρ.set i (some ⟨false, d2⟩)) v d := by
  unfold RO at ro ⊢
  cases hd : isC d with
  | false => rw [hd] at ro; exact ro
  | true =>
    rw [hd] at ro
    obtain ⟨p, h1, h2, h3, h4, h5⟩ := ro
    refine ⟨p, h1, h2, h3, fun m s hm ho => ?_, h5⟩
    rcases set_get hm with ⟨rfl, z⟩ | ⟨a1, a2⟩
    · cases z; cases ho
    · rw [List.getElem?_set_ne (Ne.symm a1)]
      exact h4 m s a2 ho
def vPar3 (i j l : Nat) (fa fb fc : M D) : M Fl := bnd fa fun x => bnd fb fun y => bnd fc fun z => bnd (vSetSh i x) fun _ => bnd (vSetSh j y) fun _ => bnd (vSetOw l z) fun _ => ret .nx
theorem vs_par3 {i j l : Nat} {x y z : Str} {a b c : Expr} {fa fb fc : M D} {px py pz pt pos : Pos} {kt k2 : Nat} {pt2 : Pos} (hc : X.calm = true) (hN : X.N.Nodup) (hi : X.N[i]? = some x) (hj : X.N[j]? = some y) (hl : X.N[l]? = some z) (hij : i ≠ j) (hil : i ≠ l) (hjl : j ≠ l)
    (hx : X.env.scope.names.lookup x = some .local) (hy : X.env.scope.names.lookup y = some .local) (hz : X.env.scope.names.lookup z = some .local)
    (ha : VE X G a fa) (hb : VE X G b fb) (hcc : VO X G c fc) (hfi : i ∉ G.fx) (hfj : j ∉ G.fx) (hfl : l ∉ G.fx) (hw : swappedStores [.Tuple [.Name x px, .Name y py, .Name z pz] kt pt] (.Tuple [a, b, c] k2 pt2) X.env = pure (some [x, y, z])) (hs : swapsWithSole [.Tuple [.Name x px, .Name y py, .Name z pz] kt pt] (.Tuple [a, b, c] k2 pt2) pos.line X.env = pure false := by rfl)
    (hs1 : starEach [a, b, c] X.env = (false, eval a X.env) :: starEach [b, c] X.env := by rfl) (hs2 : starEach [b, c] X.env = (false, eval b X.env) :: starEach [c] X.env := by rfl) (hs3 : starEach [c] X.env = (false, eval c X.env) :: starEach [] X.env := by rfl) : VS X G rm (.Assign [.Tuple [.Name x px, .Name y py, .Name z pz] kt pt] (.Tuple [a, b, c] k2 pt2) pos) (vPar3 i j l fa fb fc) :=
  ps_imp (ps_par3 hc hN hi hj hl hij hil hjl hx hy hz (pa_cons ha (pa_cons hb (pa_cons hcc pa_nil hs3) hs2) hs1) hw hs) fun D σ H ⟨ρ, S, k⟩ => ⟨ρ, S, k.bnd.mono fun d ρ1 k1 v H1 fz S1 sh => ⟨ρ1, S1, k1.bnd.mono fun d2 ρ2 k2 w H2 fz2 S2 sh2 => ⟨ρ2, S2, k2.bnd.mono fun d3 ρ3 k3 u H3 fz3 S3 ro => ⟨v, w, u, rfl, by
    have S4 := (S3.setSh hfi (sh.up (fz2.trans fz3))).setSh hfj (sh2.up fz3)
    exact k3 _ H3 ((fz.trans fz2).trans fz3) (S4.setOw hfl ro.set.set)⟩⟩⟩⟩
theorem wp_par3 {E : Ex → Prop} {ρ : Ev} {qf : Fl → Ev → Prop} {i j l : Nat} {fa fb fc : M D} : Wp E (vPar3 i j l fa fb fc) ρ qf = Wp E fa ρ fun x ρ1 => Wp E fb ρ1 fun y ρ2 => Wp E fc ρ2 fun z ρ3 => qf .nx (((ρ3.set i (some ⟨false, x⟩)).set j (some ⟨false, y⟩)).set l (some ⟨isC z, z⟩)) := by simp only [vPar3, wp_bnd, wp_ret, wp_setSh, wp_setOw]
end
end Cv
end
section
/-! sum of a tuple; plain rules for lists of whole numbers -/
namespace Cv
open PySem L2
open PySem.Spec PyProof.Rows
section
variable {X : Cx} {G : Gh}
def dSumA : D → Option D
  | .list ds => (intsOf ds).map fun ns => .int ns.sum
  | .tuple ds => (intsOf ds).map fun ns => .int ns.sum
  | _ => none
theorem c_sumA (hc : X.calm = true) : CallR X (.builtin "sum") (rC1 (zx X) dSumA) := by
  intro pins s σ H xs us Q I r ⟨x, d, z, e, hx, ed, q⟩
  subst e
  unfold dSumA at ed
  split at ed
  · obtain ⟨ns, e1, rfl⟩ := Option.map_eq_some_iff.1 ed
    obtain ⟨a, vs, rfl, hr, sv⟩ := hx.lst
    cases intsOf_sh sv e1
    exact cr_sum hc pins s σ H _ us Q I r ⟨_, _, rfl, hr.sq, q _ _ (Same.refl H) (nr_sh rfl (.int _))⟩
  · obtain ⟨ns, e1, rfl⟩ := Option.map_eq_some_iff.1 ed
    obtain ⟨a, vs, rfl, hr, sv⟩ := hx.tup
    cases intsOf_sh sv e1
    obtain ⟨its, rv, hl, _⟩ := I.tuple hr.sq
    rw [Vals.ref1 r]
    have hi := rv.ints
    obtain ⟨xs, e⟩ := hi.allInts.items
    have hn : numsOf (intItems xs).toList = ns := by rw [← e]; exact hi.numsOf
    rw [nums_intItems] at hn
    have hl' : s.heap.IsTuple a its.toArray := hl
    rw [e] at hl'
    refine PySem.W.ktm_sumG (I.ok.hd hc) hl' fun h' tk t' hk => ?_
    refine ⟨.int ns.sum, H, I.kept hk, ⟨t', ?_⟩, q _ _ (Same.refl H) (nr_sh rfl (.int _))⟩
    rw [preSum_eq, List.take_of_length_le (by simp), hn]
  · cases ed
end
section
variable {p : D → Prop} {p2 : D → D → Prop}
theorem intsOf_map : ∀ xs : List Int, intsOf (xs.map .int) = some xs
  | [] => rfl
  | a :: r => by simp only [List.map_cons, intsOf, intsOf_map r, Option.map_some]
theorem wl_sumL {xs : List Int} : Wl (dSumA (.list (xs.map .int))) p = p (.int xs.sum) := by simp only [dSumA, intsOf_map, Option.map_some, wl_some]
theorem wl_sumT {xs : List Int} : Wl (dSumA (.tuple (xs.map .int))) p = p (.int xs.sum) := by simp only [dSumA, intsOf_map, Option.map_some, wl_some]
theorem gd_list {xs : List D} (h1 : PyData.plainAll xs = true) (h2 : PyData.depthAll xs ≤ 36) : gd (.list xs) = true := by
  simp only [gd, Bool.and_eq_true, decide_eq_true_eq, PyData.plain, PyData.depth]
  exact ⟨h1, decide_eq_true (by omega)⟩
theorem gd_tuple {xs : List D} (h1 : PyData.plainAll xs = true) (h2 : PyData.depthAll xs ≤ 36) : gd (.tuple xs) = true := by
  simp only [gd, Bool.and_eq_true, decide_eq_true_eq, PyData.plain, PyData.depth]
  exact ⟨h1, decide_eq_true (by omega)⟩
theorem gd_listI (xs : List Int) : gd (.list (xs.map .int)) = true := gd_list (plains_int xs) (by have := depth_ints xs; omega)
theorem wl_eqG {d e : D} (h1 : gd d = true) (h2 : gd e = true) : Wl (dEq d e) p = p (.bool (PyData.eqv d e)) := by
  have : dEqB d e = some (PyData.eqv d e) := by
    unfold dEqB
    split
    · simp only [PyData.eqv, Option.some.injEq]; rw [Bool.eq_iff_iff]; simp
    · simp only [PyData.eqv, Option.some.injEq]; rw [Bool.eq_iff_iff]; simp
    · simp only [PyData.eqv, Option.some.injEq]; rw [Bool.eq_iff_iff]; simp
    · simp [PyData.eqv]
    · simp [h1, h2]
  simp only [dEq, this, Option.map_some, wl_some]
theorem wl_neG {d e : D} (h1 : gd d = true) (h2 : gd e = true) : Wl (dNe d e) p = p (.bool (!PyData.eqv d e)) := by
  have : dEqB d e = some (PyData.eqv d e) := by
    unfold dEqB
    split
    · simp only [PyData.eqv, Option.some.injEq]; rw [Bool.eq_iff_iff]; simp
    · simp only [PyData.eqv, Option.some.injEq]; rw [Bool.eq_iff_iff]; simp
    · simp only [PyData.eqv, Option.some.injEq]; rw [Bool.eq_iff_iff]; simp
    · simp [PyData.eqv]
    · simp [h1, h2]
  simp only [dNe, this, Option.map_some, wl_some]
theorem eqv_listI (x y : List Int) : PyData.eqv (.list (x.map .int)) (.list (y.map .int)) = decide (x = y) := by
  rw [PyData.eqv]
  exact eqv_ints x y
theorem wl_eqL {xs ys : List Int} : Wl (dEq (.list (xs.map .int)) (.list (ys.map .int))) p = p (.bool (decide (xs = ys))) := by
  rw [wl_eqG (gd_listI xs) (gd_listI ys), eqv_listI]
theorem wl_neL {xs ys : List Int} : Wl (dNe (.list (xs.map .int)) (.list (ys.map .int))) p = p (.bool (!decide (xs = ys))) := by
  rw [wl_neG (gd_listI xs) (gd_listI ys), eqv_listI]
theorem wl_eqL0 {xs : List Int} : Wl (dEq (.list (xs.map .int)) (.list [])) p = p (.bool (decide (xs = []))) := wl_eqL (ys := [])
theorem wl_neL0 {xs : List Int} : Wl (dNe (.list (xs.map .int)) (.list [])) p = p (.bool (!decide (xs = []))) := wl_neL (ys := [])
theorem eqv_nil (xs : List D) : PyData.eqv (.list xs) (.list []) = xs.isEmpty := by
  cases xs with
  | nil => simp [PyData.eqv, PyData.eqvAll]
  | cons a r => simp [PyData.eqv, PyData.eqvAll]
theorem wl_neNil {xs : List D} (h : gd (.list xs) = true) : Wl (dNe (.list xs) (.list [])) p = p (.bool (!xs.isEmpty)) := by
  rw [wl_neG h (by decide), eqv_nil]
theorem wl_eqNil {xs : List D} (h : gd (.list xs) = true) : Wl (dEq (.list xs) (.list [])) p = p (.bool xs.isEmpty) := by
  rw [wl_eqG h (by decide), eqv_nil]
/-- pop of a place -/
theorem wr_popAt {xs : List D} {i : Nat} (h : i < xs.length) : Wr (dPopAt (.list xs) [.int i]) p2 = p2 xs[i] (.list (xs.eraseIdx i)) := by
  have e : ixN xs.length (i : Int) = some i := by simp [ixN, h]
  simp only [dPopAt, e, List.getElem?_eq_getElem h, Option.map_some]
  rfl
theorem atI_nat {α : Type} (xs : List α) (i : Nat) : L2.atI xs (i : Int) = xs[i]? := atI_n
theorem wl_listL {xs : List D} : Wl (dList (.list xs)) p = p (.list xs) := propext Iff.rfl
theorem wl_listT {xs : List D} : Wl (dList (.tuple xs)) p = p (.list xs) := propext Iff.rfl
theorem wl_tupT {xs : List D} : Wl (dTuple (.tuple xs)) p = p (.tuple xs) := propext Iff.rfl
theorem wl_pow18 : Wl (dPow (.int 10) (.int 18)) p = p (.int 1000000000000000000) := by
  simp only [dPow]
  rw [if_pos (by unfold CPow; decide)]
  rfl
theorem wl_pow19 : Wl (dPow (.int 10) (.int 19)) p = p (.int 10000000000000000000) := by
  simp only [dPow]
  rw [if_pos (by unfold CPow; decide)]
  rfl
theorem wl_pow21 : Wl (dPow (.int 10) (.int 21)) p = p (.int 1000000000000000000000) := by
  simp only [dPow]
  rw [if_pos (by unfold CPow; decide)]
  rfl
theorem map_eraseIdx {α β : Type} (f : α → β) : ∀ (xs : List α) (i : Nat), (xs.map f).eraseIdx i = (xs.eraseIdx i).map f
  | [], i => by simp
  | x :: r, 0 => by simp
  | x :: r, i + 1 => by simp [map_eraseIdx f r i]
theorem eraseIdx_perm {α : Type} : ∀ (xs : List α) (i : Nat) (h : i < xs.length), (xs.eraseIdx i ++ [xs[i]]).Perm xs
  | x :: r, 0, h => by simpa using List.perm_append_comm (l₁ := r) (l₂ := [x])
  | x :: r, i + 1, h => by simpa using eraseIdx_perm r i (by simpa using h)
theorem threeI {t : Nat} (h : (t : Int) < 3) {a b c : Int} {p : D → Prop} (hp : ∀ x, x = a ∨ x = b ∨ x = c → p (.int x)) : Wl (L2.atI [.int a, .int b, .int c] (t : Int)) p := by
  rw [atI_n]
  have : t = 0 ∨ t = 1 ∨ t = 2 := by omega
  rcases this with rfl | rfl | rfl
  · exact hp a (by simp)
  · exact hp b (by simp)
  · exact hp c (by simp)
theorem twoI {t : Nat} (h : (t : Int) < 2) {a b : Int} {p : D → Prop} (hp : ∀ x, x = a ∨ x = b → p (.int x)) : Wl (L2.atI [.int a, .int b] (t : Int)) p := by
  rw [atI_n]
  have : t = 0 ∨ t = 1 := by omega
  rcases this with rfl | rfl
  · exact hp a (by simp)
  · exact hp b (by simp)
theorem three {t : Nat} (h : (t : Int) < 3) {a b c : D} {p : D → Prop} (ha : p a) (hb : p b) (hc : p c) : Wl (L2.atI [a, b, c] (t : Int)) p := by
  rw [atI_n]
  have : t = 0 ∨ t = 1 ∨ t = 2 := by omega
  rcases this with rfl | rfl | rfl
  · exact ha
  · exact hb
  · exact hc
theorem two {t : Nat} (h : (t : Int) < 2) {a b : D} {p : D → Prop} (ha : p a) (hb : p b) : Wl (L2.atI [a, b] (t : Int)) p := by
  rw [atI_n]
  have : t = 0 ∨ t = 1 := by omega
  rcases this with rfl | rfl
  · exact ha
  · exact hb
theorem perm_sum {xs ys : List Int} (h : xs.Perm ys) : xs.sum = ys.sum := by
  induction h with
  | nil => rfl
  | cons x _ ih => simp [ih]
  | swap x y l => simp only [List.sum_cons]; omega
  | trans _ _ h1 h2 => rw [h1, h2]
end
end Cv
end
section
/-! A comprehension over one's own list, which stays one's own. -/
namespace Cv
open PySem L2
open PySem.Spec PyProof.Rows
section
variable {X : Cx} {G : Gh} {rm : Bool} {tg : Expr} {pos : Pos}
def vLcN (i : Nat) (vs : List Nat) (g : D → M Unit) (t : M Bool) (f : M D) : M D := fun ρ => match ρ[i]? with
  | some (some ⟨true, .list ds⟩) => (match vLc (ret ds) vs g t f (ρ.set i none) with
    | some (.ok d ρ') => (match ρ'[i]? with
      | some none => some (.ok d (ρ'.set i (some ⟨true, .list ds⟩)))
      | _ => none)
    | _ => none)
  | _ => none
/-- an own slot put by -/
abbrev ghT (G : Gh) (p : Addr) (vs : List V) : Gh := { G with tp := (p, .lst vs) :: G.tp }
theorem Stt.putBy {H : Hp} {σ : L2.St} {ρ : Ev} {i : Nat} {p : Addr} {vs : List V} {ds : List D} (S : Stt G H σ ρ) (hi : ρ[i]? = some (some ⟨true, .list ds⟩)) (hv : σ[i]? = some (some (.ref p))) (e : H p = some (.lst vs)) (hf : i ∉ G.fx) : Stt (ghT G p vs) H σ (ρ.set i none) := by
  have aux : ∀ (j : Nat) (s : Sl), (ρ.set i none)[j]? = some (some s) → ρ[j]? = some (some s) ∧ j ≠ i := fun j s h => by
    by_cases z : j = i
    · subst z
      rw [List.getElem?_set] at h
      split at h
      · split at h <;> cases h
      · exact absurd rfl (by assumption)
    · rw [List.getElem?_set_ne (Ne.symm z)] at h
      exact ⟨h, z⟩
  refine ⟨by simpa using S.len, fun j s h => S.val j s (aux j s h).1, fun j k s t q h1 h2 => S.dis j k s t q (aux j s h1).1 (aux k t h2).1, S.mv, S.fix, fun q hq => ?_⟩
  rcases List.mem_cons.1 hq with rfl | hq
  · refine ⟨e, ⟨trivial, ?_, nt_lst⟩, fun j s h ho z => ?_⟩
    · obtain ⟨v, h1, h2⟩ := S.val i _ hi
      rw [hv] at h1
      cases h1
      unfold SlOk at h2
      exact (h2.2 p rfl).elim id fun z => (hf z.1).elim
    · obtain ⟨h1, h2⟩ := aux j s h
      exact h2 (S.dis j i s _ p h1 hi ho rfl z hv)
  · obtain ⟨a, b, c⟩ := S.tmp q hq
    exact ⟨a, b, fun j s h => c j s (aux j s h).1⟩
theorem Stt.backBy {H : Hp} {σ : L2.St} {ρ : Ev} {i : Nat} {p : Addr} {vs : List V} {ds : List D} (S : Stt (ghT G p vs) H σ ρ) (hi : ρ[i]? = some none) (hv : σ[i]? = some (some (.ref p))) (sv : ShAll G.Z H vs ds) (hn : ∀ q ∈ G.tp, q.1 ≠ p) : Stt G H σ (ρ.set i (some ⟨true, .list ds⟩)) := by
  have hil : i < ρ.length := (List.getElem?_eq_some_iff.mp hi).1
  obtain ⟨e, ⟨_, nn, _⟩, ot⟩ := S.tmp (p, .lst vs) List.mem_cons_self
  have aux : ∀ (j : Nat) (s : Sl), (ρ.set i (some ⟨true, .list ds⟩))[j]? = some (some s) → (j = i ∧ s = ⟨true, .list ds⟩) ∨ (j ≠ i ∧ ρ[j]? = some (some s)) := fun j s h => by
    by_cases z : j = i
    · subst z
      rw [List.getElem?_set_self hil] at h
      cases h
      exact .inl ⟨rfl, rfl⟩
    · rw [List.getElem?_set_ne (Ne.symm z)] at h
      exact .inr ⟨z, h⟩
  refine ⟨by simpa using S.len, fun j s h => ?_, fun j k s t q h1 h2 h3 h4 h5 h6 => ?_, S.mv, S.fix, fun q hq => ?_⟩
  · rcases aux j s h with ⟨rfl, rfl⟩ | ⟨_, h⟩
    · exact ⟨_, hv, .lst e sv, fun r z => by cases z; exact .inl nn⟩
    · exact S.val j s h
  · rcases aux j s h1 with ⟨ej, es⟩ | ⟨n1, g1⟩
    · rcases aux k t h2 with ⟨ek, et⟩ | ⟨n2, g2⟩
      · rw [ej, ek]
      · rw [ej, hv] at h5
        cases h5
        exact (ot k t g2 h4 h6).elim
    · rcases aux k t h2 with ⟨ek, et⟩ | ⟨n2, g2⟩
      · rw [ek, hv] at h6
        cases h6
        exact (ot j s g1 h3 h5).elim
      · exact S.dis j k s t q g1 g2 h3 h4 h5 h6
  · obtain ⟨a, b, c⟩ := S.tmp q (List.mem_cons_of_mem _ hq)
    refine ⟨a, b, fun j s h ho => ?_⟩
    rcases aux j s h with ⟨rfl, rfl⟩ | ⟨_, h⟩
    · rw [hv]
      intro z
      cases z
      exact hn q hq rfl
    · exact c j s h ho
theorem lc_vN {i : Nat} {vs : List Nat} {g : D → M Unit} {t : M Bool} {f : M D} (hf : ∀ j ∈ vs, j ∉ G.fx) (hi : i ∉ G.fx) : ∀ σ H Q, tvO G (vLcN i vs g t f) σ H Q → tLc (iAny G.Z (tVar i)) (tLG G Sh vs g) (tLT G t) (tLE G f) vs σ H Q := by
  rintro σ H Q ⟨ρ, S, k⟩
  unfold vLcN at k
  split at k
  · rename_i ds hs
    obtain ⟨v, hv, ow, nw⟩ := S.val i _ hs
    cases ow with
    | @lst p xs ds e sv =>
    have hn : ∀ q ∈ G.tp, q.1 ≠ p := fun q hq z => (S.tmp q hq).2.2 i _ hs rfl (by rw [z]; exact hv)
    refine ⟨_, hv, p, rfl, .inl ⟨⟨xs, (show LstR G.Z H p xs from .inl (.inl e)).sq⟩, ?_⟩⟩
    have S1 := S.putBy hs hv e hi
    split at k
    · rename_i dF ρF' hL0
      split at k
      · rename_i hnone
        unfold vLc at hL0
        obtain ⟨ds', ρ1, hr, hL0⟩ := bnd_ok hL0
        cases hr
        split at hL0
        · rename_i no
          cases hL : lcL vs g t f ds [] (ρ.set i none) with
          | none => rw [hL] at hL0; cases hL0
          | some r =>
            cases r with
            | ex _ => rw [hL] at hL0; cases hL0
            | ok accF ρF =>
              rw [hL] at hL0
              cases hL0
              intro A hA
              have sm0 := sm_upd (o := .lst []) hA
              have hnA : ∀ q ∈ (ghT G p xs).tp, q.1 ≠ A := (S1.none_new hA).2.2
              have len : xs.length = ds.length := sv.length
              refine lc_it (n := ds.length) (len ▸ walk_list (xs := xs)) (fun i H' => ∃ ρ' acc av, Stt ((ghT G p xs).inn ((A, .lst av) :: (ghT G p xs).tp)) H' (wipe σ vs) (wipeE ρ' vs) ∧ Fz H H' ∧ ShAll G.Z H' av acc ∧ lcL vs g t f (ds.drop i) acc ρ' = some (.ok accF ρF)) ⟨_, [], [], (S1.inn hA).wipe vs hf, Same.fz sm0, .nil, by simpa using hL⟩ ?_ ?_ ?_
              · rintro j H' _ ⟨ρ', acc, av, S', _⟩
                obtain ⟨c1, _, _⟩ := S'.tmp (p, .lst xs) (by simp [Gh.inn])
                exact (show LstR G.Z H' p xs from .inl (.inl c1)).sq
              · rintro j x H2 H3 hj ⟨ρ2, acc, av, S2, f2, sa, e2⟩ hy
                obtain ⟨rfl, hx⟩ := hy
                obtain ⟨d, hd, rl⟩ := (sv.up f2).get' hx
                rw [List.drop_eq_getElem_cons hj] at e2
                have ed : ds[j] = d := by
                  rw [List.getElem?_eq_getElem hj] at hd
                  exact Option.some.inj hd
                rw [ed] at e2
                obtain ⟨u3, ρ3, g3, e3⟩ := bnd_ok (show bnd (g d) _ (wipeE ρ2 vs) = _ from e2)
                obtain ⟨b, ρ4, g4, e4⟩ := bnd_ok e3
                refine ⟨_, wipeE ρ2 vs, d, S2, rl, (Kont.ofEq g3).mono fun _ ρ3' ⟨_, eq3⟩ σ3 so S3 => ⟨by rw [wipe_only so, wipe_wipe], _, ρ3, eq3 ▸ S3, (Kont.ofEq g4).mono fun b' ρ4' ⟨eb, eq4⟩ H4 fz4 S4 => ?_⟩⟩
                subst eb eq4
                have ws : wipe σ3 vs = wipe σ vs := by rw [wipe_only so, wipe_wipe]
                have f4 := f2.trans fz4
                cases b' with
                | true =>
                  rw [if_pos rfl]
                  obtain ⟨y, ρ5, g5, e5⟩ := bnd_ok (show bnd f _ ρ4' = _ from e4)
                  refine ⟨_, ρ4', S4, (Kont.ofEq g5).mono fun y' ρ5' ⟨ey, eq5⟩ v H5 fz5 S5 sy => ?_⟩
                  subst ey eq5
                  split at e5
                  · rename_i hz
                    obtain ⟨c1, _, _⟩ := S5.tmp (A, .lst av) (by simp [Gh.inn])
                    have sa5 := sa.up (fz4.trans fz5)
                    have m : Mut (H5 A) := by rw [c1]; trivial
                    have fzm := fz_mut (o := .lst (av ++ [v])) m
                    refine ⟨av, c1, by rw [sa.length]; exact hz, ρ5', acc ++ [y'], av ++ [v], ?_, f4.trans (fz5.trans fzm), (sa5.append (.cons sy .nil)).up fzm, e5⟩
                    have := Stt.wipe (G := (ghT G p xs).inn ((A, .lst (av ++ [v])) :: (ghT G p xs).tp)) vs hf (S5.inn2 (G := ghT G p xs) (aw := av ++ [v]) hnA)
                    rwa [ws] at this
                  · cases e5
                | false =>
                  rw [if_neg (by decide)]
                  refine ⟨ρ4', acc, av, ?_, f4, sa.up fz4, e4⟩
                  have := Stt.wipe (G := (ghT G p xs).inn ((A, .lst av) :: (ghT G p xs).tp)) vs hf S4
                  rwa [ws] at this
              · rintro H2 ⟨ρ2, acc, av, S2, f2, sa, e2⟩
                rw [List.drop_length] at e2
                cases e2
                obtain ⟨c1, c2, c3⟩ := S2.tmp (A, .lst av) (by simp [Gh.inn])
                obtain ⟨So, Sf⟩ := Stt.out S1 no f2 S2
                have Sb := Stt.backBy So hnone hv (sv.up f2) hn
                refine k _ H2 f2 Sb (show ∃ p, _ from ⟨A, rfl, .lst c1 sa, c2.2.1, fun j s h ho => ?_, fun q hq => hnA q (List.mem_cons_of_mem _ hq)⟩)
                by_cases z : j = i
                · subst z
                  rw [hv]
                  intro z
                  cases z
                  exact hnA (_, .lst xs) List.mem_cons_self rfl
                · rw [List.getElem?_set_ne (Ne.symm z)] at h
                  exact Sf j s h ho
        · cases hL0
      · exact k.elim
    · exact k.elim
  · exact k.elim
theorem vo_lcN {elt : Expr} {ifs : List Expr} {scope : Scope} {own : List (Str × Nat)} {g : D → M Unit} {t : M Bool} {f : M D} {i : Nat} {x : Str} {px : Pos} (hc : X.calm = true) (hNd : X.N.Nodup) (ok : BlkOk X.N X.env.scope scope own) (hf : ∀ i ∈ own.map (·.2), i ∉ G.fx) (hfi : i ∉ G.fx)
    (hg : ∀ (s : Shared) (H : Hp) (C : Addr) (cl : List (Str × Addr)) (fp : List Addr) (tp : List (Addr × HO)), VG (X.blk s H scope (compEnvC scope cl C X.env) fp) (G.inn tp) Sh (own.map (·.2)) tg g)
    (ht : ∀ (s : Shared) (H : Hp) (C : Addr) (cl : List (Str × Addr)) (fp : List Addr) (tp : List (Addr × HO)), PTs (X.blk s H scope (compEnvC scope cl C X.env) fp) ifs (tvT (G.inn tp) t))
    (he : ∀ (s : Shared) (H : Hp) (C : Addr) (cl : List (Str × Addr)) (fp : List Addr) (tp : List (Addr × HO)), VE (X.blk s H scope (compEnvC scope cl C X.env) fp) (G.inn tp) elt f) (hZ : G.Z = zx X := by rfl)
    (hN : X.N[i]? = some x := by rfl) (hv : Vis X.env.scope x := by first | exact Or.inl rfl | exact Or.inr (Or.inl rfl) | exact Or.inr (Or.inr rfl)) (hd : (x == ("__debug__" : Str)) = false := by decide) (hcd : (x == ("__classdict__" : Str)) = false := by decide)
    (hs : ∀ y, foldedSetIterable (.Name x px) X.env y = pure y := by intro _; rfl) : VO X G (.ListComp elt [⟨tg, .Name x px, ifs, 0⟩] scope pos) (vLcN i (own.map (·.2)) g t f) :=
  pe_imp (pe_lc hc hNd (hZ ▸ pi_any (pe_var hN hv hd hcd)) ok (fun s H C cl fp => ⟨fun pins s' σ H' v u Q I r ⟨tp, h⟩ => (hg s H C cl fp tp).run pins s' σ H' v u Q I r h⟩) (fun s H C cl fp => ⟨fun pins s' σ H' Q I ⟨tp, h⟩ => (ht s H C cl fp tp).run pins s' σ H' Q I h⟩) (fun s H C cl fp => ⟨fun pins s' σ H' Q I ⟨tp, h⟩ => (he s H C cl fp tp).run pins s' σ H' Q I h⟩) hs) (lc_vN hf hfi)
theorem wp_lcN {E : Ex → Prop} {ρ : Ev} {qd : D → Ev → Prop} {i : Nat} {vs : List Nat} {g : D → M Unit} {t : M Bool} {f : M D} {ds : List D} (hi : ρ[i]? = some (some ⟨true, .list ds⟩)) : Wp E (vLcN i vs g t f) ρ qd = Wp (fun _ => False) (vLc (ret ds) vs g t f) (ρ.set i none) fun d ρ' => ρ'[i]? = some none ∧ qd d (ρ'.set i (some ⟨true, .list ds⟩)) := by
  unfold vLcN Wp
  dsimp only
  rw [hi]
  dsimp only
  cases h : vLc (ret ds) vs g t f (ρ.set i none) with
  | none => simp
  | some r =>
    cases r with
    | ex e => simp
    | ok d ρ' =>
      dsimp only
      cases h2 : ρ'[i]? with
      | none => simp [h2]
      | some o => cases o <;> simp [h2]
end
section
variable {E : Ex → Prop} {ρ : Ev} {vs : List Nat} {g : D → M Unit} {f : M D} {qs : List D → Ev → Prop}
theorem lc_eachD (val : D → D) (ok : Ev → Prop) (ds : List D) (hl : ds.length ≤ 100000) (h0 : ok ρ) (step : ∀ x ∈ ds, ∀ ρ, ok ρ → Wp E (g x) (wipeE ρ vs) fun _ ρ1 => Wp E f ρ1 fun y ρ3 => y = val x ∧ ok ρ3) (post : ∀ ρ', ok ρ' → qs (ds.map val) ρ') : Wp E (lcL vs g (ret true) f ds []) ρ qs := by
  have := lc_each (key := id) (E := E) (ρ := ρ) (vs := vs) (g := g) (f := f) (qs := qs) val ok ds hl h0 step post
  rwa [List.map_id] at this
theorem lc_pickD {t : M Bool} (p : D → Bool) (val : D → D) (ok : Ev → Prop) (ds : List D) (hl : ds.length ≤ 100000) (h0 : ok ρ)
    (step : ∀ x ∈ ds, ∀ ρ, ok ρ → Wp E (g x) (wipeE ρ vs) fun _ ρ1 => Wp E t ρ1 fun c ρ2 => (c = false → p x = false ∧ ok ρ2) ∧ (c = true → Wp E f ρ2 fun y ρ3 => p x = true ∧ y = val x ∧ ok ρ3))
    (post : ∀ ρ', ok ρ' → qs ((ds.filter p).map val) ρ') : Wp E (lcL vs g t f ds []) ρ qs := by
  have := lc_pick (key := id) (E := E) (ρ := ρ) (vs := vs) (g := g) (f := f) (qs := qs) p val ok ds hl h0 step post
  rwa [List.map_id] at this
theorem wl_ixN {xs : List D} {i : Nat} {p : D → Prop} (h : i < xs.length) : Wl (L2.atI xs (i : Int)) p = p xs[i] := by rw [atI_n, List.getElem?_eq_getElem h]; exact propext Iff.rfl
theorem toNat_of {i : Int} (h : 0 ≤ i) : ((i.toNat : Nat) : Int) = i := by omega
theorem ixN_of {n : Nat} {i : Int} (h : 0 ≤ i) (h2 : i < n) : ixN n i = some i.toNat := by
  unfold ixN
  simp [h, h2]
theorem atI_of {α : Type} {xs : List α} {i : Int} (h : 0 ≤ i) : L2.atI xs i = xs[i.toNat]? := by
  obtain ⟨k, rfl⟩ := Int.eq_ofNat_of_zero_le h
  rw [atI_n]
  rfl
/-- x[i] = v in a list of whole numbers -/
theorem wl_setLI {xs : List Int} {i v : Int} {p : D → Prop} (h : 0 ≤ i) (h2 : i < xs.length) : Wl (dSet (.list (xs.map .int)) (.int i) (.int v)) p = p (.list ((xs.set i.toNat v).map .int)) := by
  rw [wl_setL, ixN_of h (by simpa using h2)]
  simp [List.map_set]
theorem wl_ixLI {xs : List Int} {i : Int} {p : D → Prop} (h : 0 ≤ i) (h2 : i < xs.length) : Wl (dIx (.list (xs.map .int)) (.int i)) p = p (.int (xs.getD i.toNat 0)) := by
  rw [wl_ixL, atI_of h, List.getElem?_map, List.getElem?_eq_getElem (by omega), List.getD_eq_getElem?_getD, List.getElem?_eq_getElem (by omega)]
  exact propext Iff.rfl
theorem wl_ixTI {xs : List Int} {i : Int} {p : D → Prop} (h : 0 ≤ i) (h2 : i < xs.length) : Wl (dIx (.tuple (xs.map .int)) (.int i)) p = p (.int (xs.getD i.toNat 0)) := by
  rw [wl_ixT, atI_of h, List.getElem?_map, List.getElem?_eq_getElem (by omega), List.getD_eq_getElem?_getD, List.getElem?_eq_getElem (by omega)]
  exact propext Iff.rfl
end
end Cv
end
section
/-! plain rules: slices -/
namespace Cv
open PySem L2
section
variable {p : D → Prop}
theorem cut_lo {α : Type} (xs : List α) {i : Int} (h : 0 ≤ i) : cutD xs (some i) none = xs.drop i.toNat := by
  obtain ⟨k, rfl⟩ := Int.eq_ofNat_of_zero_le h
  unfold cutD
  rw [HT.sIx_nat, HT.sIx_none]
  simp only [Int.toNat_natCast]
  by_cases hk : k ≤ xs.length
  · rw [Nat.min_eq_left hk, List.take_of_length_le (by simp)]
  · rw [Nat.min_eq_right (by omega)]
    rw [List.drop_eq_nil_of_le (by omega : xs.length ≤ k)]
    simp
theorem cut_hi {α : Type} (xs : List α) {i : Int} (h : 0 ≤ i) : cutD xs none (some i) = xs.take i.toNat := by
  obtain ⟨k, rfl⟩ := Int.eq_ofNat_of_zero_le h
  unfold cutD
  rw [HT.sIx_nat, HT.sIx_none]
  simp only [List.drop_zero, Nat.sub_zero, Int.toNat_natCast]
  by_cases hk : k ≤ xs.length
  · rw [Nat.min_eq_left hk]
  · rw [Nat.min_eq_right (by omega), List.take_of_length_le (Nat.le_refl _), List.take_of_length_le (by omega)]
theorem wl_slTd {xs : List D} {i : Int} (h : 0 ≤ i) : Wl (dSl (.tuple xs) (some i) none) p = p (.tuple (xs.drop i.toNat)) := by simp only [dSl, cut_lo xs h, wl_some]
theorem wl_slLd {xs : List D} {i : Int} (h : 0 ≤ i) : Wl (dSl (.list xs) (some i) none) p = p (.list (xs.drop i.toNat)) := by simp only [dSl, cut_lo xs h, wl_some]
theorem wl_slTt {xs : List D} {i : Int} (h : 0 ≤ i) : Wl (dSl (.tuple xs) none (some i)) p = p (.tuple (xs.take i.toNat)) := by simp only [dSl, cut_hi xs h, wl_some]
theorem wl_slLt {xs : List D} {i : Int} (h : 0 ≤ i) : Wl (dSl (.list xs) none (some i)) p = p (.list (xs.take i.toNat)) := by simp only [dSl, cut_hi xs h, wl_some]
theorem wl_slT1 {xs : List D} : Wl (dSl (.tuple xs) none (some 1)) p = p (.tuple (xs.take 1)) := wl_slTt (by decide)
theorem wl_slL1 {xs : List D} : Wl (dSl (.list xs) none (some 1)) p = p (.list (xs.take 1)) := wl_slLt (by decide)
theorem wl_eqT0 {xs : List Int} : Wl (dEq (.tuple (xs.map .int)) (.tuple [])) p = p (.bool (decide (xs = []))) := by
  have h := eqv_tI xs []
  have g := gd_tI xs
  unfold tI at h g
  rw [wl_eqG g (by decide), ← h]
  rfl
theorem wl_niT {a : Int} {xs : List Int} : Wl (dNotIn (.int a) (.tuple (xs.map .int))) p = p (.bool (!decide (a ∈ xs))) := by
  simp only [dNotIn, dInB, gd_int, gdAll_ints, Bool.true_and, if_true, Option.map_some, wl_some, any_eqv]
end
/-! ### dict of a list of pairs, keys whole numbers or texts -/
section
variable {X : Cx}
def dDictA : D → Option D
  | .list ds => (match pairsOf ds with
    | some ps => if ps.all (fun p => (keyOf p.1).isSome) then some (.dict (putAll [] ps)) else dDict (.list ds)
    | none => none)
  | _ => none
theorem flat_pairs {Z : Zx} {H : Hp} : ∀ {ps : List (D × D)} {ds : List D} {vs : List V}, pairsOf ds = some ps → (ps.all fun p => (keyOf p.1).isSome) = true → ShAll Z H vs ds →
    ∃ (as : List Addr) (kvs : List (Key × V)), vs = as.map V.ref ∧ Paired (fun p kv => SqT Z.K H p [kV kv.1, kv.2]) as kvs ∧ ∀ (acc : List (D × D)) (aw : List (Key × V)), ShKv Z H aw acc → ShKv Z H (mergeK aw kvs) (putAll acc ps)
  | [], ds, vs, e, _, sh => by
    have : ds = [] := by
      cases ds with
      | nil => rfl
      | cons d r =>
        unfold pairsOf at e
        split at e
        · rename_i h; cases h
        · obtain ⟨_, _, z⟩ := Option.map_eq_some_iff.1 e
          cases z
        · cases e
    subst this
    cases sh
    exact ⟨[], [], rfl, .nil, fun acc aw h => h⟩
  | (k, v) :: ps, ds, vs, e, ok, sh => by
    cases ds with
    | nil => cases e
    | cons d r =>
      unfold pairsOf at e
      split at e
      · rename_i h; cases h
      · rename_i h
        cases h
        obtain ⟨ps', h1, z⟩ := Option.map_eq_some_iff.1 e
        cases z
        rw [List.all_cons, Bool.and_eq_true] at ok
        cases sh with
        | cons s1 sh =>
          obtain ⟨as, kvs, rfl, pr, mg⟩ := flat_pairs h1 ok.2 sh
          cases s1 with
          | @tup a ws dd ta sw =>
            cases sw with
            | cons sk sw =>
              cases sw with
              | cons sv sw =>
                cases sw
                obtain ⟨key, hk⟩ := Option.isSome_iff_exists.1 ok.1
                obtain ⟨rfl, hn⟩ := keyOf_kV (.sh sk) hk
                have hkd : ∀ k' : D, keyOf k' = some key → k' = keyD key := by
                  intro k' hk
                  cases k' with
                  | int i => cases hk; rfl
                  | str i => cases hk; rfl
                  | _ => cases hk
                have hkd := hkd _ hk
                refine ⟨a :: as, (key, _) :: kvs, rfl, .cons ta.sq pr, fun acc aw h => ?_⟩
                have := mg _ _ (putK_sh (k := key) sv h)
                unfold putAll
                rw [hn]
                subst hkd
                exact this
      · cases e
theorem c_dictA (hcalm : X.calm = true) (hu : X.A.units + 64 < cLine) : CallR X (.type "dict") (rC1 (zx X) dDictA) := by
  intro pins s σ H xs us Q I r ⟨x, d, z, e, hx, ed, q⟩
  cases d with
  | list ds =>
    simp only [dDictA] at ed
    split at ed
    · rename_i ps ep
      split at ed
      · rename_i ok
        cases ed
        subst e
        obtain ⟨a, vs, rfl, hr, sv⟩ := hx.lst
        obtain ⟨as, kvs, rfl, pr, mg⟩ := flat_pairs ep ok sv
        refine call_dictP hcalm pins s σ H _ us Q I r ⟨a, as, kvs, rfl, hr.sq, pr, fun p hp => ?_⟩
        have sm := sm_upd (o := .dK (mergeK [] kvs)) hp
        exact q _ _ sm (nr_ow rfl hp (.dK upd_same ((mg [] [] .nil).up (Same.fz sm))))
      · exact c_dict hcalm hu pins s σ H xs us Q I r ⟨x, .list ds, z, e, hx, ed, q⟩
    · cases ed
  | _ => cases ed
end
/-! plain: dicts of pairs -/
section
variable {κ : Type} [DecidableEq κ] {key : κ → D}
theorem putD_of (k : KeyD key) (kvs : List (κ × D)) (a : κ) (v : D) : putD (kvs.map fun p => (key p.1, p.2)) (key a) (k.n a) v = (pK kvs a v).map fun p => (key p.1, p.2) := by
  simp only [putD, gN_gK k, pK]
  split
  · simp only [List.map_map]
    refine List.map_congr_left fun p hp => ?_
    simp only [Function.comp_apply, k.nk, Option.some.injEq]
    by_cases h : p.1 = a
    · simp [h]
    · have : k.n p.1 ≠ k.n a := fun e => h (k.inj _ _ e)
      simp [h, this]
  · simp
def foldP (kvs : List (κ × D)) (ps : List (κ × D)) : List (κ × D) := ps.foldl (fun k p => pK k p.1 p.2) kvs
theorem putAll_of (k : KeyD key) : ∀ (ps kvs : List (κ × D)), putAll (kvs.map fun p => (key p.1, p.2)) (ps.map fun p => (key p.1, p.2)) = (foldP kvs ps).map fun p => (key p.1, p.2)
  | [], kvs => by simp [putAll, foldP]
  | p :: r, kvs => by
    simp only [List.map_cons, putAll, k.nk]
    rw [putD_of k kvs p.1 p.2, putAll_of k r]
    rfl
theorem pairs_of2 : ∀ ps : List (κ × D), pairsOf (ps.map fun p => .tuple [key p.1, p.2]) = some (ps.map fun p => (key p.1, p.2))
  | [] => rfl
  | w :: r => by simp [pairsOf, pairs_of2 r]
theorem foldP_nodup : ∀ (ps kvs : List (κ × D)), (kvs.map (·.1) ++ ps.map (·.1)).Nodup → foldP kvs ps = kvs ++ ps
  | [], kvs, _ => by simp [foldP]
  | p :: r, kvs, h => by
    have hn : gK kvs p.1 = none := by
      have h1 : p.1 ∉ kvs.map (·.1) := by
        rw [List.nodup_append] at h
        intro z
        exact h.2.2 _ z p.1 (by simp) rfl
      cases hg : gK kvs p.1 with
      | none => rfl
      | some v => exact absurd (gK_mem.1 (by rw [hg]; rfl)) h1
    have : pK kvs p.1 p.2 = kvs ++ [p] := by simp [pK, hn]
    rw [show foldP kvs (p :: r) = foldP (pK kvs p.1 p.2) r from rfl, this, foldP_nodup r (kvs ++ [p]) (by simpa using h)]
    simp
theorem wl_dictI {kvs : List (Int × D)} {p : D → Prop} (h : (kvs.map (·.1)).Nodup) : Wl (dDictA (.list (kvs.map fun kv => .tuple [.int kv.1, kv.2]))) p = p (dOf PyData.int kvs) := by
  have e : dDictA (.list (kvs.map fun kv => .tuple [.int kv.1, kv.2])) = some (dOf PyData.int kvs) := by
    have h1 := pairs_of2 (key := PyData.int) kvs
    have h2 : ((kvs.map fun p => (PyData.int p.1, p.2)).all fun p => (keyOf p.1).isSome) = true := by simp [keyOf]
    have h3 := putAll_of keyI kvs []
    simp only [List.map_nil] at h3
    rw [foldP_nodup kvs [] (by simpa using h)] at h3
    simp only [dDictA, h1, h2, if_true, h3]
    rfl
  rw [e, wl_some]
/-- a dict with a value for each of a row -/
theorem gK_row {g : List κ} {f : κ → D} {a : κ} (h : a ∈ g) : gK (g.map fun p => (p, f p)) a = some (f a) := by
  induction g with
  | nil => cases h
  | cons x r ih =>
    by_cases hx : x = a
    · subst hx; simp [gK]
    · simp only [List.map_cons, gK, hx, if_false]
      exact ih ((List.mem_cons.1 h).resolve_left (Ne.symm hx))
theorem pK_row {g : List κ} {f : κ → D} {a : κ} {v : D} (h : a ∈ g) : pK (g.map fun p => (p, f p)) a v = g.map fun p => (p, if p = a then v else f p) := by
  unfold pK
  rw [gK_row h]
  simp only [Option.isSome_some, if_true, List.map_map]
  refine List.map_congr_left fun p _ => ?_
  simp only [Function.comp_apply]
  by_cases hp : p = a <;> simp [hp]
end
/-- a row of statements, one at a time -/
theorem wp_step {E : Ex → Prop} {ρ : Ev} {f g : M Fl} {qf : Fl → Ev → Prop} (h : ∀ K : Fl → Ev → Prop, (∀ ρ1, Wp E g ρ1 qf → K .nx ρ1) → (∀ d ρ1, qf (.rt d) ρ1 → K (.rt d) ρ1) → Wp E f ρ K) : Wp E (vSeq f g) ρ qf := by
  rw [wp_seq]
  exact h _ (fun ρ1 h => h) (fun d ρ1 h => h)
/-! ### a, b = e1, e2, both one's own -/
section
variable {X : Cx} {G : Gh} {rm : Bool} {i j : Nat} {x y : Str} {a b : Expr} {fa fb : M D} {px py pt pt2 pos : Pos} {kt k2 : Nat}
def vParG (i j : Nat) (fa fb : M D) : M Fl := bnd fa fun x => if isC x then fun ρ => (match fb ρ with
  | some (.ok y ρ') => (bnd (vSetOw i x) fun _ => bnd (vSetOw j y) fun _ => ret .nx) ρ'
  | _ => none) else fun _ => none
theorem vs_parG (hc : X.calm = true) (hN : X.N.Nodup) (hi : X.N[i]? = some x) (hj : X.N[j]? = some y) (hij : i ≠ j) (hx : X.env.scope.names.lookup x = some .local) (hy : X.env.scope.names.lookup y = some .local)
    (ha : VO X G a fa) (hb : ∀ tp, VO X (G.inn tp) b fb) (hfi : i ∉ G.fx) (hfj : j ∉ G.fx) (hw : swappedStores [.Tuple [.Name x px, .Name y py] kt pt] (.Tuple [a, b] k2 pt2) X.env = pure (some [x, y])) (hs : swapsWithSole [.Tuple [.Name x px, .Name y py] kt pt] (.Tuple [a, b] k2 pt2) pos.line X.env = pure false := by rfl)
    (hs1 : starEach [a, b] X.env = (false, eval a X.env) :: starEach [b] X.env := by rfl) (hs2 : starEach [b] X.env = (false, eval b X.env) :: starEach [] X.env := by rfl) : VS X G rm (.Assign [.Tuple [.Name x px, .Name y py] kt pt] (.Tuple [a, b] k2 pt2) pos) (vParG i j fa fb) :=
  ps_imp (ps_par hc hN hi hj hij hx hy (pa_cons ha (pa_cons (te := fun σ H Q => ∃ tp, tvO (G.inn tp) fb σ H Q) ⟨fun pins s σ H Q I ⟨tp, h⟩ => (hb tp).run pins s σ H Q I h⟩ pa_nil hs2) hs1) hw hs) fun D σ H ⟨ρ, S, k⟩ => ⟨ρ, S, k.bnd.mono fun d ρ1 k1 v H1 fz S1 ro => by
    split at k1
    · rename_i hC
      unfold RO at ro
      rw [hC] at ro
      obtain ⟨p, rfl, ow, fr⟩ := ro
      obtain ⟨u, eu, mu, _⟩ := ow.frz
      have Si : Stt (G.inn ((p, u) :: G.tp)) H1 σ ρ1 := by
        refine ⟨S1.len, S1.val, S1.dis, S1.mv, S1.fix, fun q hq => ?_⟩
        rcases List.mem_cons.1 hq with rfl | hq
        · exact ⟨eu, ⟨mu, fr.1, by rw [← eu]; exact ow.noTab⟩, fr.2.1⟩
        · exact S1.tmp q hq
      dsimp only at k1
      cases hr : fb ρ1 with
      | none => rw [hr] at k1; exact k1.elim
      | some r =>
        cases r with
        | ex _ => rw [hr] at k1; exact k1.elim
        | ok d2 ρ2 =>
          rw [hr] at k1
          refine ⟨_, ρ1, Si, (Kont.ofEq hr).mono fun d2' ρ2' ⟨z1, z2⟩ w H2 fz2 S2 ro2 => ⟨.ref p, w, rfl, ?_⟩⟩
          subst z1 z2
          obtain ⟨c1, c2, c3⟩ := S2.tmp (p, u) (by simp [Gh.inn])
          have S3 : Stt G H2 σ ρ2' := ⟨S2.len, S2.val, S2.dis, S2.mv, S2.fix, fun q hq => S2.tmp q (List.mem_cons_of_mem _ hq)⟩
          have ow2 : Ow G.Z H2 (.ref p) d := ow.keep fz2 (by rw [c1, eu])
          have S4 := S3.setOw (i := i) hfi (v := .ref p) (d := d) (by unfold RO; rw [hC]; exact ⟨p, rfl, ow2, c2.2.1, c3, fr.2.2⟩)
          have ro3 : RO G H2 (σ.set i (some (.ref p))) (ρ2'.set i (some ⟨isC d, d⟩)) w d2' := by
            unfold RO at ro2 ⊢
            cases hd : isC d2' with
            | false => rw [hd] at ro2; exact ro2
            | true =>
              rw [hd] at ro2
              obtain ⟨r, h1, h2, h3, h4, h5⟩ := ro2
              refine ⟨r, h1, h2, h3, fun m s hm ho => ?_, fun q hq => h5 q (List.mem_cons_of_mem _ hq)⟩
              rcases set_get hm with ⟨e1, _⟩ | ⟨e1, e2⟩
              · rw [e1, List.getElem?_set]
                split
                · split
                  · intro z
                    cases z
                    exact h5 (_, u) List.mem_cons_self rfl
                  · intro z; cases z
                · exact absurd rfl (by assumption)
              · rw [List.getElem?_set_ne (Ne.symm e1)]
                exact h4 m s e2 ho
          exact k1 _ H2 (fz.trans fz2) (S4.setOw hfj ro3)
    · exact k1.elim⟩
theorem wp_parG {E : Ex → Prop} {ρ : Ev} {qf : Fl → Ev → Prop} : Wp E (vParG i j fa fb) ρ qf = Wp E fa ρ fun x ρ1 => isC x = true ∧ Wp (fun _ => False) fb ρ1 fun y ρ2 => qf .nx ((ρ2.set i (some ⟨isC x, x⟩)).set j (some ⟨isC y, y⟩)) := by
  simp only [vParG, wp_bnd]
  congr 1
  funext x ρ1
  cases hx : isC x with
  | false => simp [hx, wp_no]
  | true =>
    simp only [if_true, true_and]
    unfold Wp
    cases hb : fb ρ1 with
    | none => simp [hb]
    | some r => cases r <;> simp [hb, bnd, vSetOw, ret, hx]
theorem wp_parF {E : Ex → Prop} {ρ : Ev} {qf : Fl → Ev → Prop} : Wp E (vParF i j fa fb) ρ qf = Wp E fa ρ fun x ρ1 => isC x = true ∧ Wp (fun _ => False) fb ρ1 fun y ρ2 => qf .nx ((ρ2.set i (some ⟨isC x, x⟩)).set j (some ⟨false, y⟩)) := by
  simp only [vParF, wp_bnd]
  congr 1
  funext x ρ1
  cases hx : isC x with
  | false => simp [hx, wp_no]
  | true =>
    simp only [if_true, true_and]
    unfold Wp
    cases hb : fb ρ1 with
    | none => simp [hb]
    | some r => cases r <;> simp [hb, bnd, vSetOw, vSetSh, ret, hx]
end
theorem fnG_of {P : Program} {w : World} {K : PySem.W.Frag} {mg : Str → Option Value} {base : Heap} {CX : CXT} {k : Nat} {f : Addr} {fd : FuncData} {ps : List Str} {sp : Sp} (F : FnOk P w K mg base CX k f fd ps sp) : FnG P w K mg base CX k f fd ps sp :=
  ⟨F.len, fun A outer s H args us vs Q E hr _ he hb hv hs => F.run A outer s H args us vs Q E hr he hb hv hs⟩
end Cv
end
section
/-! repr of data with dicts -/
namespace Cv
open PySem L2
open PySem.Spec PyProof.Rows
section
variable {X : Cx} {pins : List (Addr × Obj)} {σ : L2.St} {H : Hp} {s : Shared}
def SysH (h : Heap) : Prop := ∃ (o : Obj) (es : Array DictEntry) (ep : Nat), h.get? sysModules = some o ∧ o.data = .dict es ep
theorem sysH_of (SB : SysB X.base) (I : Inv X pins σ H s) : SysH s.heap := by
  obtain ⟨o, es, ep, e, d⟩ := SB
  exact ⟨o, es, ep, I.bk _ _ e, d⟩
theorem SysH.seq {h : Heap} (S : SysH h) {a : Addr} {o : Obj} {vs : Array Value} {n : Nat} (e : h.get? a = some o) (d : o.data = .seq vs n) : sysModules ≠ a := fun z => by
  obtain ⟨o', es, ep, e', d'⟩ := S
  rw [z, e] at e'
  cases e'
  rw [d] at d'
  cases d'
theorem flat_as {h : Heap} : ∀ {ds : List D} {us : List Value} {as : List Addr}, ReadsAll h us ds as → (∀ d ∈ ds, ∃ k : Key, d = keyD k) → as = []
  | [], _, _, r, _ => by cases r; rfl
  | d :: ds, _, _, r, hk => by
    cases r with
    | cons r1 r2 =>
      obtain ⟨k, rfl⟩ := hk d (by simp)
      have h2 := flat_as r2 fun x hx => hk x (by simp [hx])
      subst h2
      cases k <;> cases r1 <;> rfl
theorem shKv_keys {Z : Zx} {H : Hp} : ∀ {ds : List (D × D)} {kvs : List (Key × V)}, ShKv Z H kvs ds → ∀ d ∈ ds.map (·.1), ∃ k : Key, d = keyD k
  | [], _, _, d, hd => by cases hd
  | _ :: _, _, h, d, hd => by
    cases h with
    | cons h1 h2 =>
      rcases List.mem_cons.1 hd with rfl | hd
      · exact ⟨_, rfl⟩
      · exact shKv_keys h2 d hd
mutual
theorem Sh.rds (S : SysH s.heap) (I : Inv X pins σ H s) : ∀ (d : D) (v : V) (u : Value), Sh (zx X) H v d → RelV v u → ∃ as, Reads s.heap u d as ∧ sysModules ∉ as
  | .none, _, _, h, r => by cases h; cases r; exact ⟨_, Reads.none, by simp⟩
  | .bool b, _, _, h, r => by cases h; cases r; exact ⟨_, Reads.bool b, by simp⟩
  | .int i, _, _, h, r => by cases h; obtain ⟨t, rfl⟩ := r; exact ⟨_, Reads.int i t, by simp⟩
  | .str x, _, _, h, r => by cases h; obtain ⟨t, rfl⟩ := r; exact ⟨_, Reads.str x t, by simp⟩
  | .list ds, _, _, h, r => by
    cases h with
    | lst hs ha =>
      cases r
      obtain ⟨its, rv, ⟨o, n, ho, hc, _, hd⟩, _⟩ := I.list hs.r.sq
      obtain ⟨as, hr, hn⟩ := Sh.rdsAll S I ds _ its ha rv
      refine ⟨_, Reads.list ho hc hd hr, fun z => ?_⟩
      rcases List.mem_cons.1 z with z | z
      · exact S.seq ho hd z
      · exact hn z
  | .tuple ds, _, _, h, r => by
    cases h with
    | tup hs ha =>
      cases r
      obtain ⟨its, rv, ⟨o, ho, hc, n, hd⟩, _⟩ := I.tuple hs.sq
      obtain ⟨as, hr, hn⟩ := Sh.rdsAll S I ds _ its ha rv
      exact ⟨_, Reads.tuple ho hc hd hr, hn⟩
  | .dict ds, _, _, h, r => by
    cases h with
    | dK hs ha =>
      cases r
      obtain ⟨_, _, hsm, vs, kv, o, es, ep, e, ex, hd, _, pr, _⟩ := I.hok _ _ hs
      obtain ⟨as, h1⟩ := reads_keys (h := s.heap) rfl pr kv ha
      obtain ⟨bs, h2, hn⟩ := Sh.rdsKv S I ds _ vs es.toList ha kv pr
      have h0 := flat_as h1 (shKv_keys ha)
      subst h0
      refine ⟨_, Reads.dict e ex.1 hd h1 h2, fun z => ?_⟩
      simp only [List.cons_append, List.nil_append, List.mem_cons] at z
      rcases z with z | z
      · rw [← z] at hsm; simp at hsm
      · exact hn z
    | dN hs ha hne =>
      cases r
      obtain ⟨hsm, _, xs, pr, o, es, ep, e, ex, hd, he, _⟩ := oN_ok I (.inr ⟨_, hs⟩)
      obtain ⟨as, bs, h1, h2, n1, n2⟩ := Sh.rdsN S I ds _ xs ha pr
      refine ⟨_, Reads.dict (as := as) (bs := bs) e ex.1 hd ?_ ?_, fun z => ?_⟩
      · rw [he, List.map_map]; exact h1
      · rw [he, List.map_map]; exact h2
      · simp only [List.cons_append, List.mem_cons, List.mem_append] at z
        rcases z with z | z | z
        · rw [← z] at hsm; simp at hsm
        · exact n1 z
        · exact n2 z
theorem Sh.rdsAll (S : SysH s.heap) (I : Inv X pins σ H s) : ∀ (ds : List D) (vs : List V) (us : List Value), ShAll (zx X) H vs ds → Vals vs us → ∃ as, ReadsAll s.heap us ds as ∧ sysModules ∉ as
  | [], _, _, h, r => by cases h; cases r; exact ⟨_, ReadsAll.nil, by simp⟩
  | d :: ds, _, _, h, r => by
    cases h with
    | cons h1 h2 =>
      cases r with
      | cons r1 r2 =>
        obtain ⟨as, q1, n1⟩ := Sh.rds S I d _ _ h1 r1
        obtain ⟨bs, q2, n2⟩ := Sh.rdsAll S I ds _ _ h2 r2
        exact ⟨_, ReadsAll.cons q1 q2, fun z => (List.mem_append.1 z).elim n1 n2⟩
theorem Sh.rdsN (S : SysH s.heap) (I : Inv X pins σ H s) : ∀ (ds : List (D × D)) (kvs : List (NestedKey × Addr × V)) (xs : List (NestedKey × Addr × Value)), ShN (zx X) H kvs ds → Paired RelN kvs xs →
    ∃ as bs, ReadsAll s.heap (xs.map fun x => Value.ref x.2.1) (ds.map (·.1)) as ∧ ReadsAll s.heap (xs.map (·.2.2)) (ds.map (·.2)) bs ∧ sysModules ∉ as ∧ sysModules ∉ bs
  | [], _, _, h, r => by cases h; cases r; exact ⟨_, _, ReadsAll.nil, ReadsAll.nil, by simp, by simp⟩
  | d :: ds, _, _, h, r => by
    cases h with
    | cons h1 h2 h3 h4 h5 =>
      cases r with
      | cons r1 r2 =>
        obtain ⟨_, e2, r3⟩ := r1
        simp only at e2 r3
        obtain ⟨as, q1, n1⟩ := Sh.rds S I _ _ (.ref _) h1 rfl
        obtain ⟨bs, q2, n2⟩ := Sh.rds S I _ _ _ h4 r3
        obtain ⟨cs, es, q3, q4, n3, n4⟩ := Sh.rdsN S I ds _ _ h5 r2
        rw [e2] at q1
        exact ⟨_, _, ReadsAll.cons q1 q3, ReadsAll.cons q2 q4, fun z => (List.mem_append.1 z).elim n1 n3, fun z => (List.mem_append.1 z).elim n2 n4⟩
theorem Sh.rdsKv (S : SysH s.heap) (I : Inv X pins σ H s) : ∀ (ds : List (D × D)) (kvs : List (Key × V)) (vs : List (Key × Value)) (es : List DictEntry), ShKv (zx X) H kvs ds → KV kvs vs → Pairs (mixKind X.prog X.w) es vs → ∃ as, ReadsAll s.heap (es.map (·.val)) (ds.map (·.2)) as ∧ sysModules ∉ as
  | [], _, _, _, h, r, p => by cases h; cases r; cases p; exact ⟨_, ReadsAll.nil, by simp⟩
  | d :: ds, _, _, _, h, r, p => by
    cases h with
    | cons h1 h2 =>
      cases r with
      | cons r1 r2 =>
        cases p with
        | cons p1 p2 p3 =>
          obtain ⟨as, q1, n1⟩ := Sh.rds S I _ _ _ h1 r1.2
          obtain ⟨bs, q2, n2⟩ := Sh.rdsKv S I ds _ _ _ h2 r2 p3
          rw [← p2] at q1
          exact ⟨_, ReadsAll.cons q1 q2, fun z => (List.mem_append.1 z).elim n1 n2⟩
end
def dReprA : D → Option D
  | .int i => if i.natAbs.log2 < 1920 then some (.str (toString i)) else none
  | .none => some (.str "None")
  | .bool b => some (.str (if b then "True" else "False"))
  | .str x => if (reprText x).length ≤ sizeLine then some (.str (reprText x)) else none
  | d => if d.showable && decide (d.depth ≤ 40) && decide (d.shown.length ≤ sizeLine) then some (.str d.shown) else none
theorem c_reprA (SB : SysB X.base) (hG : X.A.guards = some []) (hu : X.A.units + 64 < cLine) : CallR X (.builtin "repr") (fun xs H Q => ∃ x d r, xs = [x] ∧ Sh (zx X) H x d ∧ dReprA d = some r ∧ ∀ v H', Same H H' → NR (zx X) H H' v r → Q v H') := by
  intro pins s σ H xs us Q I r ⟨x, d, z, e, hx, ed, q⟩
  by_cases hb : isBox d = true
  · subst e
    obtain ⟨u, rfl, rx⟩ := vals1 r
    obtain ⟨a, rfl⟩ := rp_ref (.sh hx) hb
    obtain ⟨as, ra, na⟩ := Sh.rds (sysH_of SB I) I _ _ _ hx rx
    cases rx
    have ez : (if d.showable && decide (d.depth ≤ 40) && decide (d.shown.length ≤ sizeLine) then some (PyData.str d.shown) else none) = some z := by
      cases d <;> first | exact ed | cases hb
    split at ez
    · rename_i ok
      cases ez
      simp only [Bool.and_eq_true, decide_eq_true_eq] at ok
      obtain ⟨⟨o1, o3⟩, o4⟩ := ok
      exact repr_of_reads' ra o1 (fun _ => na) hG (by omega) (fun _ _ h => h) (fun h' t tk hk => ⟨.str _, H, I.kept hk, ⟨_, rfl⟩, q _ _ (Same.refl H) (nr_sh rfl (.str _))⟩) o4
    · cases ez
  · refine c_repr hG hu pins s σ H xs us Q I r ⟨x, d, z, e, .sh hx, ?_, q⟩
    cases d <;> first | exact ed | exact absurd rfl hb
variable {G : Gh}
theorem vo_reprA {a : Expr} {fa : M D} {p1 pos : Pos} (SB : SysB X.base) (hG : X.A.guards = some []) (hu : X.A.units + 64 < cLine) (hg : Gl X "repr") (hm : X.mg "repr" = none) (ha : VE X G a fa) (hZ : G.Z = zx X := by rfl)
    (hs : starEach [a] X.env = (false, eval a X.env) :: starEach [] X.env := by rfl) (hpl : (backTo pos (starEach [] X.env)).any (·.1) = false := by rfl) : VO X G (.Call (.Name "repr" p1) [a] [] pos) (vC1 dReprA fa) := pe_imp (pe_callB (c_reprA SB hG hu) hg hm (by decide +kernel) (pa_cons ha pa_nil hs) (by decide) (by decide) hs hpl) (by
  obtain ⟨Z, cl, H0, S0, W, fx, fv, tp⟩ := G
  cases hZ
  rintro σ H Q ⟨ρ, S, k⟩
  refine ⟨ρ, S, k.bnd.mono fun x ρ1 k1 v H1 fz1 S1 r1 => ?_⟩
  obtain ⟨d, e, q⟩ := k1.lft
  exact ⟨v, x, d, rfl, r1, e, fun v' H2 sm nr => q v' H2 (fz1.trans (Same.fz sm)) (S1.same sm) (nr.ro S1)⟩)
end
end Cv
end
section
/-! plain: data that can be shown -/
namespace Cv
open PySem L2
mutual
def lfOk : D → Bool
  | .none => true
  | .bool _ => true
  | .int i => decide (i.natAbs ≤ 10 ^ 21)
  | .str x => x.cps.toList.all (fun c => decide (c < 16 ^ 8))
  | .list xs => lfOks xs
  | .tuple xs => lfOks xs
  | .dict kvs => lfOkv kvs
def lfOks : List D → Bool
  | [] => true
  | x :: r => lfOk x && lfOks r
def lfOkv : List (D × D) → Bool
  | [] => true
  | (k, v) :: r => lfOk k && lfOk v && lfOkv r
end
theorem lfOks_all : ∀ xs : List D, lfOks xs = true ↔ ∀ x ∈ xs, lfOk x = true
  | [] => by simp [lfOks]
  | x :: r => by simp [lfOks, lfOks_all r]
theorem int_log {i : Int} (h : i.natAbs < 10 ^ 22) : i.natAbs.log2 < 1920 := by
  rcases Nat.eq_zero_or_pos i.natAbs with hz | hz
  · rw [hz]; decide
  · have : i.natAbs < 2 ^ 100 := Nat.lt_trans h (by decide)
    have := (Nat.log2_lt (by omega)).2 this
    omega
theorem int_len {i : Int} (h : i.natAbs < 10 ^ 22) : (PyData.shown (.int i)).length ≤ 30 := by
  have := int_text_length_le10 (a := i) (k := 22) (by decide) h
  have e : (PyData.shown (.int i)).length = (toString i).length := by
    show (PySem.Str.ofString (toString i)).length = _
    exact ofString_length _
  omega
mutual
theorem lf_short : ∀ d : D, lfOk d = true → d.leavesShort 30 = true ∧ d.showable = true
  | .none, _ => ⟨rfl, rfl⟩
  | .bool _, _ => ⟨rfl, rfl⟩
  | .int i, h => by
    have h0 : i.natAbs ≤ 10 ^ 21 := by simpa [lfOk] using h
    have h' : i.natAbs < 10 ^ 22 := Nat.lt_of_le_of_lt h0 (by decide)
    exact ⟨by simp only [PyData.leavesShort, decide_eq_true_eq]; exact int_len h', by simp only [PyData.showable, decide_eq_true_eq]; exact int_log h'⟩
  | .str x, h => ⟨by simpa only [PyData.leavesShort, lfOk] using h, rfl⟩
  | .list xs, h => by
    have := lf_shorts xs (by simpa only [lfOk] using h)
    exact ⟨by simpa only [PyData.leavesShort] using this.1, by simpa only [PyData.showable] using this.2⟩
  | .tuple xs, h => by
    have := lf_shorts xs (by simpa only [lfOk] using h)
    exact ⟨by simpa only [PyData.leavesShort] using this.1, by simpa only [PyData.showable] using this.2⟩
  | .dict kvs, h => by
    have := lf_shortv kvs (by simpa only [lfOk] using h)
    exact ⟨by simpa only [PyData.leavesShort] using this.1, by simpa only [PyData.showable] using this.2⟩
theorem lf_shorts : ∀ xs : List D, lfOks xs = true → PyData.leavesShortAll 30 xs = true ∧ PyData.showableAll xs = true
  | [], _ => ⟨rfl, rfl⟩
  | x :: r, h => by
    have h' : lfOk x = true ∧ lfOks r = true := by simpa only [lfOks, Bool.and_eq_true] using h
    have h1 := lf_short x h'.1
    have h2 := lf_shorts r h'.2
    exact ⟨by simp only [PyData.leavesShortAll, h1.1, h2.1, Bool.and_self], by simp only [PyData.showableAll, h1.2, h2.2, Bool.and_self]⟩
theorem lf_shortv : ∀ kvs : List (D × D), lfOkv kvs = true → PyData.leavesShortKv 30 kvs = true ∧ PyData.showableKv kvs = true
  | [], _ => ⟨rfl, rfl⟩
  | (k, v) :: r, h => by
    have h' : (lfOk k = true ∧ lfOk v = true) ∧ lfOkv r = true := by simpa only [lfOkv, Bool.and_eq_true] using h
    have h1 := lf_short k h'.1.1
    have h3 := lf_short v h'.1.2
    have h2 := lf_shortv r h'.2
    exact ⟨by simp only [PyData.leavesShortKv, h1.1, h3.1, h2.1, Bool.and_self], by simp only [PyData.showableKv, h1.2, h3.2, h2.2, Bool.and_self]⟩
end
/-- data of few leaves -/
structure Okd (w n : Nat) (d : D) : Prop where
  lf : lfOk d = true
  wt : d.weight ≤ w
  dp : d.depth ≤ n
theorem Okd.mono {w w' n n' : Nat} {d : D} (h : Okd w n d) (h1 : w ≤ w') (h2 : n ≤ n') : Okd w' n' d := ⟨h.lf, Nat.le_trans h.wt h1, Nat.le_trans h.dp h2⟩
theorem repr_some {w n : Nat} {d : D} (h : Okd w n d) (hw : w ≤ 500000) (hn : n ≤ 40) : ∃ x, dReprA d = some (.str x) := by
  obtain ⟨s1, s2⟩ := lf_short d h.lf
  have hl := PyData.shown_le 30 (by decide) d s1
  have big := sizeLine_eq
  have h1 := h.wt
  have h2 := h.dp
  have hs : d.shown.length ≤ sizeLine := by omega
  have box : (if d.showable && decide (d.depth ≤ 40) && decide (d.shown.length ≤ sizeLine) then some (PyData.str d.shown) else none) = some (.str d.shown) := by
    rw [if_pos]
    simp only [Bool.and_eq_true, decide_eq_true_eq]
    exact ⟨⟨s2, by omega⟩, hs⟩
  cases d with
  | none => exact ⟨_, rfl⟩
  | bool b => exact ⟨_, rfl⟩
  | int i =>
    have h0 : i.natAbs ≤ 10 ^ 21 := by have := h.lf; simpa [lfOk] using this
    have : i.natAbs < 10 ^ 22 := Nat.lt_of_le_of_lt h0 (by decide)
    exact ⟨_, by simp only [dReprA]; rw [if_pos (int_log this)]⟩
  | str x =>
    have hs' : (reprText x).length ≤ sizeLine := hs
    exact ⟨_, by simp only [dReprA]; rw [if_pos hs']⟩
  | list xs => exact ⟨_, box⟩
  | tuple xs => exact ⟨_, box⟩
  | dict xs => exact ⟨_, box⟩
theorem wts_le {w n : Nat} : ∀ {xs : List D}, (∀ x ∈ xs, Okd w n x) → lfOks xs = true ∧ PyData.weightAll xs ≤ xs.length * (w + 1) ∧ PyData.depthAll xs ≤ n
  | [], _ => by simp [lfOks, PyData.weightAll, PyData.depthAll]
  | x :: r, h => by
    have h1 := h x (by simp)
    have h2 := wts_le (xs := r) (fun y hy => h y (by simp [hy]))
    refine ⟨by simp only [lfOks, h1.lf, h2.1, Bool.and_self], ?_, ?_⟩
    · simp only [PyData.weightAll, List.length_cons, Nat.add_mul, Nat.one_mul]
      have := h1.wt
      have := h2.2.1
      omega
    · simp only [PyData.depthAll]
      have := h1.dp
      have := h2.2.2
      omega
theorem Okd.list {w n : Nat} {xs : List D} (L : Nat) (h : ∀ x ∈ xs, Okd w n x) (hl : xs.length ≤ L) : Okd (L * (w + 1) + 1) (n + 1) (.list xs) := by
  obtain ⟨h1, h2, h3⟩ := wts_le h
  have := Nat.mul_le_mul_right (w + 1) hl
  exact ⟨by simpa only [lfOk] using h1, by simp only [PyData.weight]; omega, by simp only [PyData.depth]; omega⟩
theorem Okd.tup {w n : Nat} {xs : List D} (L : Nat) (h : ∀ x ∈ xs, Okd w n x) (hl : xs.length ≤ L) : Okd (L * (w + 1) + 1) (n + 1) (.tuple xs) := by
  obtain ⟨h1, h2, h3⟩ := wts_le h
  have := Nat.mul_le_mul_right (w + 1) hl
  exact ⟨by simpa only [lfOk] using h1, by simp only [PyData.weight]; omega, by simp only [PyData.depth]; omega⟩
theorem Okd.int {i : Int} (h : i.natAbs ≤ 10 ^ 21) : Okd 80 1 (.int i) := by
  refine ⟨by simpa [lfOk] using h, ?_, by simp [PyData.depth]⟩
  simp only [PyData.weight]
  have : i.natAbs.log2 < 74 := by
    rcases Nat.eq_zero_or_pos i.natAbs with hz | hz
    · rw [hz]; decide
    · exact (Nat.log2_lt (by omega)).2 (Nat.lt_of_le_of_lt h (by decide))
  first | (split <;> omega) | (simp [Builtin.Int.intBits]; omega) | omega
theorem wl_neSS {x y : Str} {p : D → Prop} : Wl (dNe (.str x) (.str y)) p = p (.bool (!decide (x = y))) := by simp only [dNe, dEqB, Option.map_some, wl_some]
theorem wl_eqSS {x y : Str} {p : D → Prop} : Wl (dEq (.str x) (.str y)) p = p (.bool (decide (x = y))) := by simp only [dEq, dEqB, Option.map_some, wl_some]
theorem wp_slN {E : Ex → Prop} {ρ : Ev} {qd : D → Ev → Prop} {i : Nat} {lo hi : M (Option Int)} : Wp E (vSlN i lo hi) ρ qd = ((ρ[i]?.join).isSome = true ∧ Wp E lo ρ fun l ρ1 => Wp E hi ρ1 fun h ρ2 => Wo ρ2[i]? fun s => Wl (dSl s.d l h) fun d => qd d ρ2) := by
  have : Wp E (vSlN i lo hi) ρ qd = ((ρ[i]?.join).isSome = true ∧ Wp E (bnd lo fun l => bnd hi fun h => bnd (vGet i) fun x => lft (dSl x l h)) ρ qd) := by
    unfold vSlN Wp
    by_cases h : (ρ[i]?.join).isSome = true <;> simp [h]
  rw [this]
  simp only [wp_bnd, wp_lft, wp_get]
section
variable {p : D → Prop} {xs : List D} {n : Nat}
theorem wl_slLtN : Wl (dSl (.list xs) none (some (n : Int))) p = p (.list (xs.take n)) := by rw [wl_slLt (by omega), Int.toNat_natCast]
theorem wl_slLdN : Wl (dSl (.list xs) (some (n : Int)) none) p = p (.list (xs.drop n)) := by rw [wl_slLd (by omega), Int.toNat_natCast]
theorem wl_slLdN1 : Wl (dSl (.list xs) (some ((n : Int) + 1)) none) p = p (.list (xs.drop (n + 1))) := by
  rw [wl_slLd (by omega)]
  congr
theorem wl_slTtN : Wl (dSl (.tuple xs) none (some (n : Int))) p = p (.tuple (xs.take n)) := by rw [wl_slTt (by omega), Int.toNat_natCast]
theorem wl_slTdN : Wl (dSl (.tuple xs) (some (n : Int)) none) p = p (.tuple (xs.drop n)) := by rw [wl_slTd (by omega), Int.toNat_natCast]
theorem wl_slTdN1 : Wl (dSl (.tuple xs) (some ((n : Int) + 1)) none) p = p (.tuple (xs.drop (n + 1))) := by
  rw [wl_slTd (by omega)]
  congr
theorem wl_rev : Wl (dRev (.list xs)) p = p (.list xs.reverse) := propext Iff.rfl
end
end Cv
end
section
/-! The V layer: more ways of a, b = x, y and a, b, c = x, y, z. -/
namespace Cv
open PySem L2
section
variable {X : Cx} {G : Gh} {rm : Bool}
/-- an own result kept by while something else is reckoned -/
theorem Stt.keepBy {H : Hp} {σ : L2.St} {ρ : Ev} {p : Addr} {d : D} (S : Stt G H σ ρ) (ow : Ow G.Z H (.ref p) d) (fr : FreshO G σ ρ p) : ∃ u, H p = some u ∧ Stt (G.inn ((p, u) :: G.tp)) H σ ρ := by
  obtain ⟨u, eu, mu, _⟩ := ow.frz
  refine ⟨u, eu, S.len, S.val, S.dis, S.mv, S.fix, fun q hq => ?_⟩
  rcases List.mem_cons.1 hq with rfl | hq
  · exact ⟨eu, ⟨mu, fr.1, by rw [← eu]; exact ow.noTab⟩, fr.2.1⟩
  · exact S.tmp q hq
theorem Stt.freed {H H2 : Hp} {σ : L2.St} {ρ ρ2 : Ev} {p : Addr} {u : HO} {d : D} (S2 : Stt (G.inn ((p, u) :: G.tp)) H2 σ ρ2) (eu : H p = some u) (ow : Ow G.Z H (.ref p) d) (fr : FreshO G σ ρ p) (fz : Fz H H2) : Stt G H2 σ ρ2 ∧ Ow G.Z H2 (.ref p) d ∧ FreshO G σ ρ2 p := by
  obtain ⟨c1, c2, c3⟩ := S2.tmp (p, u) (by simp [Gh.inn])
  exact ⟨⟨S2.len, S2.val, S2.dis, S2.mv, S2.fix, fun q hq => S2.tmp q (List.mem_cons_of_mem _ hq)⟩, ow.keep fz (by rw [c1, eu]), c2.2.1, c3, fr.2.2⟩
theorem ro_own {H : Hp} {σ : L2.St} {ρ : Ev} {p : Addr} {d : D} (hc : isC d = true) (ow : Ow G.Z H (.ref p) d) (fr : FreshO G σ ρ p) : RO G H σ ρ (.ref p) d := by
  unfold RO; rw [hc]; exact ⟨p, rfl, ow, fr⟩
/-- the first locked, the second own, the third locked -/
def vPar3M (i j l : Nat) (fa fb fc : M D) : M Fl := bnd fa fun x => bnd fb fun y => if isC y then fun ρ => (match fc ρ with
  | some (.ok z ρ') => (bnd (vSetSh i x) fun _ => bnd (vSetOw j y) fun _ => bnd (vSetSh l z) fun _ => ret .nx) ρ'
  | _ => none) else fun _ => none
theorem vs_par3M {i j l : Nat} {x y z : Str} {a b c : Expr} {fa fb fc : M D} {px py pz pt pos : Pos} {kt k2 : Nat} {pt2 : Pos} (hc : X.calm = true) (hN : X.N.Nodup) (hi : X.N[i]? = some x) (hj : X.N[j]? = some y) (hl : X.N[l]? = some z) (hij : i ≠ j) (hil : i ≠ l) (hjl : j ≠ l)
    (hx : X.env.scope.names.lookup x = some .local) (hy : X.env.scope.names.lookup y = some .local) (hz : X.env.scope.names.lookup z = some .local)
    (ha : VE X G a fa) (hb : VO X G b fb) (hcc : ∀ tp, VE X (G.inn tp) c fc) (hfi : i ∉ G.fx) (hfj : j ∉ G.fx) (hfl : l ∉ G.fx) (hw : swappedStores [.Tuple [.Name x px, .Name y py, .Name z pz] kt pt] (.Tuple [a, b, c] k2 pt2) X.env = pure (some [x, y, z])) (hs : swapsWithSole [.Tuple [.Name x px, .Name y py, .Name z pz] kt pt] (.Tuple [a, b, c] k2 pt2) pos.line X.env = pure false := by rfl)
    (hs1 : starEach [a, b, c] X.env = (false, eval a X.env) :: starEach [b, c] X.env := by rfl) (hs2 : starEach [b, c] X.env = (false, eval b X.env) :: starEach [c] X.env := by rfl) (hs3 : starEach [c] X.env = (false, eval c X.env) :: starEach [] X.env := by rfl) : VS X G rm (.Assign [.Tuple [.Name x px, .Name y py, .Name z pz] kt pt] (.Tuple [a, b, c] k2 pt2) pos) (vPar3M i j l fa fb fc) :=
  ps_imp (ps_par3 hc hN hi hj hl hij hil hjl hx hy hz (pa_cons ha (pa_cons hb (pa_cons (te := tLE G fc) ⟨fun pins s σ H Q I ⟨tp, h⟩ => (hcc tp).run pins s σ H Q I h⟩ pa_nil hs3) hs2) hs1) hw hs) fun D σ H ⟨ρ, S, k⟩ => ⟨ρ, S, k.bnd.mono fun d ρ1 k1 v H1 fz S1 sh => ⟨ρ1, S1, k1.bnd.mono fun d2 ρ2 k2 w H2 fz2 S2 ro => by
    split at k2
    · rename_i hC
      unfold RO at ro
      rw [hC] at ro
      obtain ⟨p, rfl, ow, fr⟩ := ro
      obtain ⟨u, eu, Si⟩ := S2.keepBy ow fr
      dsimp only at k2
      cases hr : fc ρ2 with
      | none => rw [hr] at k2; exact k2.elim
      | some r =>
        cases r with
        | ex _ => rw [hr] at k2; exact k2.elim
        | ok d3 ρ3 =>
          rw [hr] at k2
          refine ⟨_, ρ2, Si, (Kont.ofEq hr).mono fun d3' ρ3' ⟨z1, z2⟩ t H3 fz3 S3 sh3 => ⟨v, .ref p, t, rfl, ?_⟩⟩
          subst z1 z2
          obtain ⟨S4, ow2, fr2⟩ := S3.freed eu ow fr fz3
          have S5 := S4.setSh hfi (sh.up (fz2.trans fz3))
          exact k2 _ H3 ((fz.trans fz2).trans fz3) ((S5.setOw hfj (ro_own hC ow2 fr2).set).setSh hfl sh3)
    · exact k2.elim⟩⟩
def vPar3E (i j l : Nat) (fa fb fc : M D) : M Fl := bnd fa fun x => bnd fb fun y => bnd fc fun z => bnd (vSetSh i x) fun _ => bnd (vSetSh j y) fun _ => bnd (vSetSh l z) fun _ => ret .nx
theorem vs_par3E {i j l : Nat} {x y z : Str} {a b c : Expr} {fa fb fc : M D} {px py pz pt pos : Pos} {kt k2 : Nat} {pt2 : Pos} (hc : X.calm = true) (hN : X.N.Nodup) (hi : X.N[i]? = some x) (hj : X.N[j]? = some y) (hl : X.N[l]? = some z) (hij : i ≠ j) (hil : i ≠ l) (hjl : j ≠ l)
    (hx : X.env.scope.names.lookup x = some .local) (hy : X.env.scope.names.lookup y = some .local) (hz : X.env.scope.names.lookup z = some .local)
    (ha : VE X G a fa) (hb : VE X G b fb) (hcc : VE X G c fc) (hfi : i ∉ G.fx) (hfj : j ∉ G.fx) (hfl : l ∉ G.fx) (hw : swappedStores [.Tuple [.Name x px, .Name y py, .Name z pz] kt pt] (.Tuple [a, b, c] k2 pt2) X.env = pure (some [x, y, z])) (hs : swapsWithSole [.Tuple [.Name x px, .Name y py, .Name z pz] kt pt] (.Tuple [a, b, c] k2 pt2) pos.line X.env = pure false := by rfl)
    (hs1 : starEach [a, b, c] X.env = (false, eval a X.env) :: starEach [b, c] X.env := by rfl) (hs2 : starEach [b, c] X.env = (false, eval b X.env) :: starEach [c] X.env := by rfl) (hs3 : starEach [c] X.env = (false, eval c X.env) :: starEach [] X.env := by rfl) : VS X G rm (.Assign [.Tuple [.Name x px, .Name y py, .Name z pz] kt pt] (.Tuple [a, b, c] k2 pt2) pos) (vPar3E i j l fa fb fc) :=
  ps_imp (ps_par3 hc hN hi hj hl hij hil hjl hx hy hz (pa_cons ha (pa_cons hb (pa_cons hcc pa_nil hs3) hs2) hs1) hw hs) fun D σ H ⟨ρ, S, k⟩ => ⟨ρ, S, k.bnd.mono fun d ρ1 k1 v H1 fz S1 sh => ⟨ρ1, S1, k1.bnd.mono fun d2 ρ2 k2 w H2 fz2 S2 sh2 => ⟨ρ2, S2, k2.bnd.mono fun d3 ρ3 k3 u H3 fz3 S3 sh3 => ⟨v, w, u, rfl, by
    have S4 := (S3.setSh hfi (sh.up (fz2.trans fz3))).setSh hfj (sh2.up fz3)
    exact k3 _ H3 ((fz.trans fz2).trans fz3) (S4.setSh hfl sh3)⟩⟩⟩⟩
/-- a, b = x, y by a tuple that is made and parted (a name that a block sees): the first own -/
theorem vs_asgF {i j : Nat} {x y : Str} {a b : Expr} {fa fb : M D} {px py pt pos : Pos} {kt k2 : Nat} {pt2 : Pos} (hc : X.calm = true) (hN : X.N.Nodup) (hi : X.N[i]? = some x) (hj : X.N[j]? = some y) (hx : Loc X.env.scope x) (hy : Loc X.env.scope y)
    (ha : VO X G a fa) (hb : ∀ tp, VE X (G.inn tp) b fb) (hfi : i ∉ G.fx) (hfj : j ∉ G.fx)
    (hfx : X.fn x = true ∨ X.env.scope.names.lookup x = some .local := by first | exact .inl rfl | exact .inr rfl) (hfy : X.fn y = true ∨ X.env.scope.names.lookup y = some .local := by first | exact .inl rfl | exact .inr rfl)
    (hs : swapsWithSole [.Tuple [.Name x px, .Name y py] kt pt] (.Tuple [a, b] k2 pt2) pos.line X.env = pure false := by rfl) (hw : swappedStores [.Tuple [.Name x px, .Name y py] kt pt] (.Tuple [a, b] k2 pt2) X.env = pure none := by rfl)
    (h1 : (assignEach [.Tuple [.Name x px, .Name y py] kt pt] X.env).map (·.2) = [assign (.Tuple [.Name x px, .Name y py] kt pt) X.env] := by rfl)
    (h2 : (assignEach [.Name x px, .Name y py] X.env).map (·.2) = assign (.Name x px) X.env :: (assignEach [.Name y py] X.env).map (·.2) := by rfl) (h3 : (assignEach [.Name y py] X.env).map (·.2) = assign (.Name y py) X.env :: (assignEach [] X.env).map (·.2) := by rfl)
    (hn : (assignEach [.Name x px, .Name y py] X.env).length = 2 := by rfl) (hst : (assignEach [.Name x px, .Name y py] X.env).findIdx? (·.1) = none := by rfl)
    (hs1 : starEach [a, b] X.env = (false, eval a X.env) :: starEach [b] X.env := by rfl) (hs2 : starEach [b] X.env = (false, eval b X.env) :: starEach [] X.env := by rfl) :
    VS X G rm (.Assign [.Tuple [.Name x px, .Name y py] kt pt] (.Tuple [a, b] k2 pt2) pos) (vParF i j fa fb) :=
  ps_imp (ps_asg (pe_tup (pa_cons ha (pa_cons (te := tLE G fb) ⟨fun pins s σ H Q I ⟨tp, h⟩ => (hb tp).run pins s σ H Q I h⟩ pa_nil hs2) hs1)) (pg_tup hc (pgs_cons (pg_name hN hi hx hfx) (pgs_cons (pg_name hN hj hy hfy) pgs_nil h3) h2) hn hst) hs hw h1) fun D σ H ⟨ρ, S, k⟩ => ⟨ρ, S, k.bnd.mono fun d ρ1 k1 v H1 fz S1 ro => by
    split at k1
    · rename_i hC
      unfold RO at ro
      rw [hC] at ro
      obtain ⟨p, rfl, ow, fr⟩ := ro
      obtain ⟨u, eu, Si⟩ := S1.keepBy ow fr
      dsimp only at k1
      cases hr : fb ρ1 with
      | none => rw [hr] at k1; exact k1.elim
      | some r =>
        cases r with
        | ex _ => rw [hr] at k1; exact k1.elim
        | ok d2 ρ2 =>
          rw [hr] at k1
          refine ⟨_, ρ1, Si, (Kont.ofEq hr).mono fun d2' ρ2' ⟨z1, z2⟩ w H2 fz2 S2 sh2 => ⟨by simp [sizeLine_eq], fun t ht => ?_⟩⟩
          subst z1 z2
          obtain ⟨S3, ow2, fr2⟩ := S2.freed eu ow fr fz2
          have sm := sm_upd (o := .tup [.ref p, w]) ht
          have et : upd H2 t (.tup [.ref p, w]) t = some (.tup [.ref p, w]) := upd_same
          have S4 := S3.same sm
          have hp : upd H2 t (.tup [.ref p, w]) p = H2 p := by
            rw [upd_ne]
            intro z
            subst z
            obtain ⟨c1, _⟩ := S2.tmp (p, u) (by simp [Gh.inn])
            rw [ht] at c1
            cases c1
          have ow3 : Ow G.Z (upd H2 t (.tup [.ref p, w])) (.ref p) d := ow2.keep (Same.fz sm) hp
          refine ⟨t, _, rfl, SqT.of et, rfl, _, _, rfl, _, _, rfl, rfl, ?_⟩
          exact k1 _ _ ((fz.trans fz2).trans (Same.fz sm)) ((S4.setOw hfi (ro_own hC ow3 fr2)).setSh hfj (sh2.up (Same.fz sm)))
    · exact k1.elim⟩
/-- the second own -/
theorem vs_asgL {i j : Nat} {x y : Str} {a b : Expr} {fa fb : M D} {px py pt pos : Pos} {kt k2 : Nat} {pt2 : Pos} (hc : X.calm = true) (hN : X.N.Nodup) (hi : X.N[i]? = some x) (hj : X.N[j]? = some y) (hx : Loc X.env.scope x) (hy : Loc X.env.scope y)
    (ha : VE X G a fa) (hb : VO X G b fb) (hfi : i ∉ G.fx) (hfj : j ∉ G.fx)
    (hfx : X.fn x = true ∨ X.env.scope.names.lookup x = some .local := by first | exact .inl rfl | exact .inr rfl) (hfy : X.fn y = true ∨ X.env.scope.names.lookup y = some .local := by first | exact .inl rfl | exact .inr rfl)
    (hs : swapsWithSole [.Tuple [.Name x px, .Name y py] kt pt] (.Tuple [a, b] k2 pt2) pos.line X.env = pure false := by rfl) (hw : swappedStores [.Tuple [.Name x px, .Name y py] kt pt] (.Tuple [a, b] k2 pt2) X.env = pure none := by rfl)
    (h1 : (assignEach [.Tuple [.Name x px, .Name y py] kt pt] X.env).map (·.2) = [assign (.Tuple [.Name x px, .Name y py] kt pt) X.env] := by rfl)
    (h2 : (assignEach [.Name x px, .Name y py] X.env).map (·.2) = assign (.Name x px) X.env :: (assignEach [.Name y py] X.env).map (·.2) := by rfl) (h3 : (assignEach [.Name y py] X.env).map (·.2) = assign (.Name y py) X.env :: (assignEach [] X.env).map (·.2) := by rfl)
    (hn : (assignEach [.Name x px, .Name y py] X.env).length = 2 := by rfl) (hst : (assignEach [.Name x px, .Name y py] X.env).findIdx? (·.1) = none := by rfl)
    (hs1 : starEach [a, b] X.env = (false, eval a X.env) :: starEach [b] X.env := by rfl) (hs2 : starEach [b] X.env = (false, eval b X.env) :: starEach [] X.env := by rfl) :
    VS X G rm (.Assign [.Tuple [.Name x px, .Name y py] kt pt] (.Tuple [a, b] k2 pt2) pos) (vPar i j fa fb) :=
  ps_imp (ps_asg (pe_tup (pa_cons ha (pa_cons hb pa_nil hs2) hs1)) (pg_tup hc (pgs_cons (pg_name hN hi hx hfx) (pgs_cons (pg_name hN hj hy hfy) pgs_nil h3) h2) hn hst) hs hw h1) fun D σ H ⟨ρ, S, k⟩ => ⟨ρ, S, k.bnd.mono fun d ρ1 k1 v H1 fz S1 sh => ⟨ρ1, S1, k1.bnd.mono fun d2 ρ2 k2 w H2 fz2 S2 ro => ⟨by simp [sizeLine_eq], fun t ht => by
          have sm := sm_upd (o := .tup [v, w]) ht
          have et : upd H2 t (.tup [v, w]) t = some (.tup [v, w]) := upd_same
          have S4 := S2.same sm
          have ro2 : RO G (upd H2 t (.tup [v, w])) σ ρ2 w d2 := by
            unfold RO at ro ⊢
            cases hd : isC d2 with
            | false => rw [hd] at ro; exact ro.up (Same.fz sm)
            | true =>
              rw [hd] at ro
              obtain ⟨p, rfl, ow, fr⟩ := ro
              refine ⟨p, rfl, ow.keep (Same.fz sm) ?_, fr⟩
              rw [upd_ne]
              intro z
              subst z
              have := ow.mut
              rw [ht] at this
              exact this
          refine ⟨t, _, rfl, SqT.of et, rfl, _, _, rfl, _, _, rfl, rfl, ?_⟩
          exact k2 _ _ ((fz.trans fz2).trans (Same.fz sm)) ((S4.setSh hfi (sh.up (fz2.trans (Same.fz sm)))).setOw hfj ro2.set)⟩⟩⟩
end
section
variable {E : Ex → Prop} {ρ : Ev} {qf : Fl → Ev → Prop} {i j l : Nat} {fa fb fc : M D}
theorem wp_par3E : Wp E (vPar3E i j l fa fb fc) ρ qf = Wp E fa ρ fun x ρ1 => Wp E fb ρ1 fun y ρ2 => Wp E fc ρ2 fun z ρ3 => qf .nx (((ρ3.set i (some ⟨false, x⟩)).set j (some ⟨false, y⟩)).set l (some ⟨false, z⟩)) := by simp only [vPar3E, wp_bnd, wp_ret, wp_setSh, wp_setOw]
theorem wp_par3M : Wp E (vPar3M i j l fa fb fc) ρ qf = Wp E fa ρ fun x ρ1 => Wp E fb ρ1 fun y ρ2 => isC y = true ∧ Wp (fun _ => False) fc ρ2 fun z ρ3 => qf .nx (((ρ3.set i (some ⟨false, x⟩)).set j (some ⟨isC y, y⟩)).set l (some ⟨false, z⟩)) := by
  simp only [vPar3M, wp_bnd]
  congr 1
  funext x ρ1
  congr 1
  funext y ρ2
  cases hx : isC y with
  | false => simp [hx, wp_no]
  | true =>
    simp only [if_true, true_and]
    unfold Wp
    cases hb : fc ρ2 with
    | none => simp [hb]
    | some r => cases r <;> simp [hb, bnd, vSetOw, vSetSh, ret, hx]
end
section
variable {E : Ex → Prop} {ρ : Ev} {qf : Fl → Ev → Prop} {qs : List D → Ev → Prop} {g : D → M Unit} {b : M Fl}
theorem wp_enum {f : M D} : Wp E (vEnum f) ρ qs = Wp E f ρ fun x ρ1 => match x with
    | .list ds => qs (enumD ds) ρ1
    | _ => False := by
  simp only [vEnum, wp_bnd]
  congr 1
  funext x ρ1
  cases x <;> with_unfolding_all rfl
theorem wit_dOf {κ : Type} {key : κ → D} {kvs : List (κ × D)} {p : List D → Prop} : Wit (dOf key kvs) p = p ((kvs.map (·.1)).map key) := by
  unfold dOf
  rw [wit_dict, List.map_map, List.map_map]
  rfl
/-- a walk over the images of a list -/
theorem wp_forK {α : Type} {key : α → D} (xs : List α) (I : List α → Ev → Prop) (h0 : I [] ρ) (step : ∀ us v vs ρ, xs = us ++ v :: vs → I us ρ → Wp E (g (key v)) ρ fun _ ρ1 => Wp E b ρ1 fun fl ρ2 => match fl with
    | .nx => I (us ++ [v]) ρ2
    | .ct => I (us ++ [v]) ρ2
    | .bk => qf .nx ρ2
    | .rt d => qf (.rt d) ρ2) (post : ∀ ρ, I xs ρ → qf .nx ρ) : Wp E (vForL g b (xs.map key)) ρ qf := by
  refine wp_for (fun ys ρ => ∃ us vs : List α, ys = vs.map key ∧ xs = us ++ vs ∧ I us ρ) ?_ ?_ _ _ ⟨[], xs, rfl, rfl, h0⟩
  · rintro x r ρ ⟨us, vs, hx, hu, hI⟩
    obtain ⟨v, vs', rfl, rfl, rfl⟩ := cons_map hx
    refine (step us v vs' ρ hu hI).mono fun _ ρ1 h1 => h1.mono fun fl ρ2 h2 => ?_
    cases fl with
    | nx => exact ⟨us ++ [v], vs', rfl, by simp [hu], h2⟩
    | ct => exact ⟨us ++ [v], vs', rfl, by simp [hu], h2⟩
    | bk => exact h2
    | rt d => exact h2
  · rintro ρ ⟨us, vs, hx, hu, hI⟩
    obtain rfl := nil_map hx
    rw [List.append_nil] at hu
    rw [← hu] at hI
    exact post ρ hI
theorem rng_at {lo : Int} {n i : Nat} {x : D} {r : List D} (h : x :: r = (rngD lo n).drop i) : i < n ∧ x = .int (lo + i) ∧ r = (rngD lo n).drop (i + 1) := by
  have hl : i < (rngD lo n).length := by
    have := congrArg List.length h
    simp at this
    omega
  rw [List.drop_eq_getElem_cons hl] at h
  injection h with h1 h2
  refine ⟨by simpa [rngD] using hl, ?_, h2⟩
  rw [h1]
  simp [rngD]
/-- a walk over numbers -/
theorem wp_forR {lo : Int} {n : Nat} (I : Nat → Ev → Prop) (h0 : I 0 ρ) (step : ∀ i ρ, i < n → I i ρ → Wp E (g (.int (lo + (i : Int)))) ρ fun _ ρ1 => Wp E b ρ1 fun fl ρ2 => match fl with
    | .nx => I (i + 1) ρ2
    | .ct => I (i + 1) ρ2
    | .bk => qf .nx ρ2
    | .rt d => qf (.rt d) ρ2) (post : ∀ ρ, I n ρ → qf .nx ρ) : Wp E (vForL g b (rngD lo n)) ρ qf := by
  refine wp_for (fun ys ρ => ∃ i : Nat, ys = (rngD lo n).drop i ∧ i ≤ n ∧ I i ρ) ?_ ?_ _ _ ⟨0, by simp, Nat.zero_le _, h0⟩
  · rintro x r ρ ⟨i, hx, hi, hI⟩
    obtain ⟨hi2, rfl, hr⟩ := rng_at hx
    refine (step i ρ hi2 hI).mono fun _ ρ1 h1 => h1.mono fun fl ρ2 h2 => ?_
    cases fl with
    | nx => exact ⟨i + 1, hr, hi2, h2⟩
    | ct => exact ⟨i + 1, hr, hi2, h2⟩
    | bk => exact h2
    | rt d => exact h2
  · rintro ρ ⟨i, hx, hi, hI⟩
    have : i = n := by
      have := congrArg List.length hx
      simp [rngD] at this
      omega
    subst this
    exact post ρ hI
theorem enum_at {α : Type} {key : α → D} {xs : List α} {i : Nat} {x : D} {r : List D} (h : x :: r = (enumD (xs.map key)).drop i) : ∃ v, xs[i]? = some v ∧ x = .tuple [.int i, key v] ∧ r = (enumD (xs.map key)).drop (i + 1) := by
  have hl : i < (enumD (xs.map key)).length := by
    have := congrArg List.length h
    simp at this
    omega
  rw [List.drop_eq_getElem_cons hl] at h
  injection h with h1 h2
  have hl2 : i < xs.length := by simpa [enumD] using hl
  refine ⟨xs[i], List.getElem?_eq_getElem hl2, ?_, h2⟩
  rw [h1]
  simp [enumD]
/-- a walk with places -/
theorem wp_forE {α : Type} {key : α → D} {xs : List α} (I : Nat → Ev → Prop) (h0 : I 0 ρ) (step : ∀ i v ρ, xs[i]? = some v → I i ρ → Wp E (g (.tuple [.int (i : Int), key v])) ρ fun _ ρ1 => Wp E b ρ1 fun fl ρ2 => match fl with
    | .nx => I (i + 1) ρ2
    | .ct => I (i + 1) ρ2
    | .bk => qf .nx ρ2
    | .rt d => qf (.rt d) ρ2) (post : ∀ ρ, I xs.length ρ → qf .nx ρ) : Wp E (vForL g b (enumD (xs.map key))) ρ qf := by
  refine wp_for (fun ys ρ => ∃ i : Nat, ys = (enumD (xs.map key)).drop i ∧ i ≤ xs.length ∧ I i ρ) ?_ ?_ _ _ ⟨0, by simp, Nat.zero_le _, h0⟩
  · rintro x r ρ ⟨i, hx, hi, hI⟩
    obtain ⟨v, hv, rfl, hr⟩ := enum_at hx
    have hi2 : i < xs.length := (List.getElem?_eq_some_iff.mp hv).1
    refine (step i v ρ hv hI).mono fun _ ρ1 h1 => h1.mono fun fl ρ2 h2 => ?_
    cases fl with
    | nx => exact ⟨i + 1, hr, hi2, h2⟩
    | ct => exact ⟨i + 1, hr, hi2, h2⟩
    | bk => exact h2
    | rt d => exact h2
  · rintro ρ ⟨i, hx, hi, hI⟩
    have : i = xs.length := by
      have := congrArg List.length hx
      simp [enumD] at this
      omega
    subst this
    exact post ρ hI
theorem wl_set3 {kvs : List (List Int × D)} {a b c : Int} {v : D} {p : D → Prop} : Wl (dSet (dOf tI kvs) (.tuple [.int a, .int b, .int c]) v) p = (kvs.length < sizeLine ∧ p (dOf tI (pK kvs [a, b, c] v))) := wl_setD keyT (a := [a, b, c])
theorem wl_ixt {kvs : List (List Int × D)} {a : List Int} {p : D → Prop} : Wl (dIx (dOf tI kvs) (tI a)) p = Wl (gK kvs a) p := wl_ixD keyT
end
/-! ### plain data, so many deep -/
structure Pd (n : Nat) (d : D) : Prop where
  pl : d.plain = true
  dp : d.depth ≤ n
theorem Pd.gd {n : Nat} {d : D} (h : Pd n d) (hn : n ≤ 40) : gd d = true := by
  have := h.dp
  simp only [Cv.gd, h.pl, Bool.true_and, decide_eq_true_eq]
  omega
theorem Pd.mono {n m : Nat} {d : D} (h : Pd n d) (hn : n ≤ m) : Pd m d := ⟨h.pl, Nat.le_trans h.dp hn⟩
theorem Pd.int (n : Nat) (i : Int) : Pd (n + 1) (.int i) := ⟨by simp [PyData.plain], by simp [PyData.depth]⟩
theorem Pd.none (n : Nat) : Pd (n + 1) .none := ⟨by simp [PyData.plain], by simp [PyData.depth]⟩
theorem Pd.str (n : Nat) (x : Str) : Pd (n + 1) (.str x) := ⟨by simp [PyData.plain], by simp [PyData.depth]⟩
theorem Pd.bool (n : Nat) (x : Bool) : Pd (n + 1) (.bool x) := ⟨by simp [PyData.plain], by simp [PyData.depth]⟩
theorem pds {n : Nat} : ∀ {xs : List D}, (∀ x ∈ xs, Pd n x) → PyData.plainAll xs = true ∧ PyData.depthAll xs ≤ n
  | [], _ => ⟨by simp [PyData.plainAll], by simp [PyData.depthAll]⟩
  | x :: r, h => by
    obtain ⟨h1, h2⟩ := pds fun y hy => h y (List.mem_cons_of_mem _ hy)
    have h3 := h x List.mem_cons_self
    have := h3.dp
    exact ⟨by rw [PyData.plainAll, h3.pl, h1]; rfl, by rw [PyData.depthAll]; omega⟩
theorem Pd.list {n : Nat} {xs : List D} (h : ∀ x ∈ xs, Pd n x) : Pd (n + 1) (.list xs) := by
  obtain ⟨h1, h2⟩ := pds h
  exact ⟨by rw [PyData.plain]; exact h1, by rw [PyData.depth]; omega⟩
theorem Pd.tup {n : Nat} {xs : List D} (h : ∀ x ∈ xs, Pd n x) : Pd (n + 1) (.tuple xs) := by
  obtain ⟨h1, h2⟩ := pds h
  exact ⟨by rw [PyData.plain]; exact h1, by rw [PyData.depth]; omega⟩
theorem Pd.map {n : Nat} {α : Type} {key : α → D} {xs : List α} (h : ∀ x ∈ xs, Pd n (key x)) : ∀ d ∈ xs.map key, Pd n d := fun d hd => by
  obtain ⟨x, hx, rfl⟩ := List.mem_map.1 hd
  exact h x hx
theorem Pd.tI (n : Nat) (x : List Int) : Pd (n + 2) (tI x) := Pd.tup (Pd.map fun i _ => Pd.int n i)
theorem ixN_back {n : Nat} (h : 0 < n) : ixN n (-1) = some (n - 1) := by
  unfold ixN
  rw [if_neg (by omega), if_pos (by omega)]
  congr 1
  omega
theorem wp_seqJ {E : Ex → Prop} {ρ : Ev} {f g : M Fl} {qf : Fl → Ev → Prop} (J : Ev → Prop) (h1 : Wp E f ρ fun fl ρ1 => match fl with
    | .nx => J ρ1
    | x => qf x ρ1) (h2 : ∀ ρ1, J ρ1 → Wp E g ρ1 qf) : Wp E (vSeq f g) ρ qf := wp_seqL J h1 h2
end Cv
end
section
/-! The V layer: sorted(d), d a dict of whole numbers; keys that are pairs of a number and a tuple. -/
namespace Cv
open PySem L2
def intsO : List D → Option (List Int)
  | [] => some []
  | .int i :: r => (intsO r).map fun l => i :: l
  | _ => none
theorem intsO_map : ∀ ns : List Int, intsO (ns.map .int) = some ns
  | [] => rfl
  | n :: r => by simp [intsO, intsO_map r]
theorem intsO_is : ∀ {ds : List D} {ns : List Int}, intsO ds = some ns → ds = ns.map .int
  | [], ns, h => by cases h; rfl
  | d :: r, ns, h => by
    cases d with
    | int i =>
      simp only [intsO, Option.map_eq_some_iff] at h
      obtain ⟨l, hl, rfl⟩ := h
      rw [intsO_is hl]; rfl
    | _ => cases h
def sortInt (ns : List Int) : List Int := ns.mergeSort fun a b => decide (a ≤ b)
theorem sortInt_perm (ns : List Int) : (sortInt ns).Perm ns := List.mergeSort_perm _ _
theorem sortInt_le (ns : List Int) : (sortInt ns).Pairwise (· ≤ ·) := by
  have := List.pairwise_mergeSort (le := fun a b : Int => decide (a ≤ b)) (fun a b c h1 h2 => by simp at *; omega) (fun a b => by simp; omega) ns
  exact this.imp fun h => by simpa using h
theorem sortInt_uniq {xs ys : List Int} (hp : xs.Perm ys) (h1 : xs.Pairwise (· ≤ ·)) (h2 : ys.Pairwise (· ≤ ·)) : xs = ys := List.Perm.eq_of_pairwise (le := (· ≤ ·)) (fun a b _ _ h3 h4 => Int.le_antisymm h3 h4) h1 h2 hp
theorem sortInt_id {xs : List Int} (h : xs.Pairwise (· ≤ ·)) : sortInt xs = xs := sortInt_uniq (sortInt_perm xs) (sortInt_le xs) h
def dSortedI : D → Option D
  | .dict kvs => match intsO (kvs.map (·.1)) with
    | some ks => if ks.length < 64 then some (.list ((sortInt ks).map .int)) else none
    | none => none
  | _ => none
section
variable {X : Cx} {G : Gh}
theorem keysI {Z : Zx} {H : Hp} : ∀ {kvs : List (Key × V)} {ds : List (D × D)} {ns : List Int}, ShKv Z H kvs ds → ds.map (·.1) = ns.map .int → kvs.map (·.1) = ns.map Sum.inl
  | [], _, ns, h, e => by
    cases h
    cases ns with
    | nil => rfl
    | cons _ _ => cases e
  | v :: vs, _, ns, h, e => by
    cases h with
    | cons h1 h2 =>
      cases ns with
      | nil => cases e
      | cons n r =>
        simp only [List.map_cons, List.cons.injEq] at e ⊢
        refine ⟨?_, keysI h2 e.2⟩
        have := e.1
        rename_i k _ _ _
        cases k with
        | inl i => simp [keyD] at this; rw [this]
        | inr s => simp [keyD] at this
theorem c_sortedI (hcalm : X.calm = true) : CallR X (.builtin "sorted") (rC1 (zx X) dSortedI) := by
  intro pins s σ H xs us Q I r ⟨x, d, z, e, hx, ed, q⟩
  cases d with
  | dict kvs =>
    simp only [dSortedI] at ed
    split at ed
    · rename_i ks hks
      split at ed
      · rename_i hl
        cases ed
        obtain ⟨a, rfl, h⟩ := hx.dic
        have ek := intsO_is hks
        rcases h with ⟨kv, hr, sv⟩ | ⟨hne, kv, hr, sv⟩
        · refine call_sortedDI hcalm pins s σ H xs us Q I r ⟨a, kv, ks, e, hr, keysI sv ek, hl, fun ys p hp hs hn => ?_⟩
          have : ys = sortInt ks := sortInt_uniq (hp.trans (sortInt_perm ks).symm) hs (sortInt_le ks)
          subst this
          refine q _ _ (sm_upd hn) (nr_lst hn ?_)
          exact ShAll.ints _
        · exfalso
          have := sv.isT
          cases kvs with
          | nil => exact hne rfl
          | cons p rr =>
            cases ks with
            | nil => cases ek
            | cons n nr =>
              simp only [List.map_cons, List.cons.injEq] at ek
              simp only [List.all_cons, Bool.and_eq_true] at this
              rw [ek.1] at this
              exact absurd this.1 (by simp [isT])
      · cases ed
    · cases ed
  | _ => cases ed
end
/-! ### keys (n, tuple) -/
def k2D (p : Int × List Int) : D := .tuple [.int p.1, tI p.2]
theorem nk_k2 (p : Int × List Int) : nk (k2D p) = some (.tup [.num p.1, .tup (p.2.map .num)]) := by
  simp [k2D, nk, nkAll, nk_tI]
def key2 : KeyD k2D where
  n := fun p => .tup [.num p.1, .tup (p.2.map .num)]
  nk := nk_k2
  inj := fun a b h => by
    injection h with h
    injection h with h1 h2
    injection h2 with h2 _
    injection h1 with h1
    injection h2 with h2
    have := num_inj _ _ h2
    exact Prod.ext h1 this
  ok := fun kvs a => by
    have h := nk_k2 a
    have hd := depth_num a.2
    unfold k2D at h ⊢
    unfold kOk
    simp only [h]
    have : (NestedKey.tup [.num a.1, .tup (a.2.map .num)]).depth ≤ 8 := by
      simp only [NestedKey.depth, NestedKey.depthAll]
      omega
    simp [this, isT]
theorem isC_k2 {p : Int × List Int} : isC (k2D p) = false := rfl
end Cv
end
section
/-! The V layer: min(x, y) of data. -/
namespace PySem.W
open PySem PyProof.Rows
section
variable {prog : Program} {w : World} {A : Around} {E : Value → Shared → Prop} {s : Shared}
theorem call_min_twoH {a b : Value} {Q : Value → Shared → Prop}
    (h : wpAny (model prog w) A.in1 (pyIter (.ref s.heap.objs.size)) (fun it s2 => ∃ I fp wr G n P St H bt, it = .ref I ∧ WalksS prog w A.in1 I fp wr G n P St ∧ St 0 s2 ∧ (∀ c ∈ fp, c < s2.heap.objs.size) ∧ 0 < n ∧ (∀ c o, H.get? c = some o → c ∉ wr) ∧ (∀ c o, H.get? c = some o → s2.heap.get? c = some o) ∧ CmpIn prog w A.in1 .Lt H P bt ∧ ∀ v s', P (argBest bt (n - 1)) v → Moved wr G s2 s' → Q v s') E { s with heap := s.heap.push { cls := .type "tuple", data := .seq #[a, b] } }) :
    wpAny (model prog w) A (call (.builtin "min") [a, b]) Q E s := by
  have nm : (toString "min" ++ toString ".loop" : String) = "min.loop" := by decide
  refine call_function_tree F.kind_min F.plain_min F.entry_min (F.args_min2 a b) (show wpAny _ A.in1 (Builtin.Builtins.bindParams "min" ["key", "default"] 0 ⟨[], []⟩ >>= _) _ _ s from
    wpAny_bind (wpAny_of_eq (show Builtin.Builtins.bindParams "min" ["key", "default"] 0 ⟨[], []⟩ = pure [none, none] from rfl) (show wpAny _ A.in1 (newTuple [a, b] >>= _) _ _ s from wpAny_bind (wpAny_newObj_type (wpAny_bind (wpAny_mono h (fun it s2 z => ?_) fun _ _ e => e))))))
  obtain ⟨I, fp, wr, G, n, P, St, H, bt, rfl, W, hst, hfp, hn, hw, kp, hc, hQ⟩ := z
  have fr : s2.heap.objs.size ∉ fp := fun m => Nat.lt_irrefl _ (hfp _ m)
  rw [nm]
  exact wpAny_bind (wpAny_newObj_type (wpAny_pure ⟨plainId_quiet F.plain_min_loop _, codeAny_min_loop_firstH W H hw bt hc s2.heap.objs.size fr (fresh_in kp) _ hn (fun c o e => Heap.get?_push_of_some _ (kp c o e)) (W.frame 0 s2 _ s2.toks hst (Nat.le_refl _) fun c _ o e => Heap.get?_push_of_some _ e) (Heap.get?_push_size _ rfl) fun v s' hP m => hQ v s' hP (Moved.drop_new (tk := s2.toks) m (Nat.le_refl _))⟩))
theorem min_two_data {a b : Value} {x y : PyData} {as : List Addr} {Q : Value → Shared → Prop} (hh : A.handled = none) (hr : ReadsAll s.heap [a, b] [x, y] as) (ha : AlikeAll [x, y]) (hu : A.units + 1 + PyData.depthAll [x, y] < cLine)
    (h : ∀ h' tk, (∀ c o, s.heap.get? c = some o → h'.get? c = some o) → Q (if dataLt y x then b else a) { s with heap := h', toks := tk }) :
    wpAny (model prog w) A (call (.builtin "min") [a, b]) Q E s := by
  have hk0 : ∀ c o, s.heap.get? c = some o → (s.heap.push { cls := .type "tuple", data := .seq #[a, b] }).get? c = some o := fun c o e => Heap.get?_push_of_some _ e
  have hT : (s.heap.push { cls := .type "tuple", data := .seq #[a, b] }).IsTuple s.heap.objs.size #[a, b] := ⟨_, Heap.get?_push_size _ rfl, rfl, 0, rfl⟩
  have hr' : ReadsAll (s.heap.push { cls := .type "tuple", data := .seq #[a, b] }) (#[a, b] : Array Value).toList [x, y] as := PyProof.Rows.ReadsAll.keeps hk0 hr
  refine call_min_twoH (iter_tupleW (A := A.in1) hh hT fun s₂ e W st hfp hw hk => ?_)
  refine ⟨_, _, _, _, _, _, _, s.heap.push { cls := .type "tuple", data := .seq #[a, b] }, _, rfl, W, st, hfp, (show 0 < 2 by decide), hw, hk, cmpIn_lt (A := A.in1) (s := { s with heap := s.heap.push { cls := .type "tuple", data := .seq #[a, b] } }) hr' ha (by show A.units + 1 + _ < _; exact hu), fun v s' hP m => ?_⟩
  obtain ⟨h', tk, rfl, hk'⟩ := moved_old e rfl m
  have := h h' tk fun c o e => hk' c o (hk0 c o e)
  have hv : v = if dataLt y x then b else a := by
    have hP' : (#[a, b] : Array Value)[argBest (fun i j => dataLt (([x, y] : List PyData).getD i .none) (([x, y] : List PyData).getD j .none)) 1]? = some v := hP
    simp only [argBest, List.getD_cons_succ, List.getD_cons_zero] at hP'
    cases hc : dataLt y x <;> simp [hc] at hP' <;> simp [hP']
  rw [hv]
  exact this
end
end PySem.W
namespace Cv
open PySem L2
section
variable {X : Cx} {G : Gh}
def dMin2D : List D → Option D
  | [x, y] => if minOk [x, y] && !isC x && !isC y then some (if PySem.W.dataLt y x then y else x) else none
  | _ => none
theorem c_min2D (hc : X.calm = true) (hu : X.A.units + 64 < cLine) : CallR X (.builtin "min") (rCN (zx X) dMin2D) := by
  intro pins s σ H xs us Q I r ⟨ds, z, hx, ed, q⟩
  unfold dMin2D at ed
  split at ed
  · rename_i x y
    split at ed
    · rename_i ok
      cases ed
      simp only [Bool.and_eq_true, Bool.not_eq_true'] at ok
      obtain ⟨⟨ok, hx1⟩, hy1⟩ := ok
      obtain ⟨hA, hp, hde⟩ := minOk_is ok
      cases hx with
      | cons s1 t1 =>
        cases t1 with
        | cons s2 t2 =>
          cases t2
          have hr := r
          cases r with
          | cons r1 r' =>
            cases r' with
            | cons r2 r3 =>
              cases r3
              obtain ⟨as, ra⟩ := Sh.readsAll I _ _ _ (.cons s1 (.cons s2 .nil)) hr
              refine PySem.W.min_two_data (I.ok.hd hc) ra hA (by omega) fun h' tk hk => ?_
              cases hb : PySem.W.dataLt y x with
              | true =>
                rw [hb, if_pos rfl] at q
                exact ⟨_, H, I.kept hk, r2, q _ _ (Same.refl H) (nr_sh hy1 s2)⟩
              | false =>
                rw [hb, if_neg (by decide)] at q
                exact ⟨_, H, I.kept hk, r1, q _ _ (Same.refl H) (nr_sh hx1 s1)⟩
    · cases ed
  · cases ed
end
theorem wl_min2T {x y : List Int} {p : D → Prop} : Wl (dMin2D [tI x, tI y]) p = p (tI (if HT.lexLt y x then y else x)) := by
  have ok : minOk [tI x, tI y] = true := by
    have h1 := pds (n := 4) (xs := [tI x, tI y]) (fun d hd => by
      simp only [List.mem_cons, List.not_mem_nil, or_false] at hd
      rcases hd with rfl | rfl <;> exact Pd.tI 2 _)
    simp only [minOk, Bool.and_eq_true, decide_eq_true_eq]
    refine ⟨⟨⟨?_, rfl⟩, h1.1⟩, by have := h1.2; omega⟩
    exact alikes_tI [x, y]
  simp only [dMin2D, ok, isC_tI, Bool.not_false, Bool.and_self, if_true, wl_some]
  rw [tI_lt]
  split <;> rfl
end Cv
end
section
/-! A refusal that a suite holds is handed on to a def; try: return [x()] except C as n: return f(n). -/
namespace Cv
open PySem L2
open PySem.Spec PyProof.Rows
theorem _root_.L2H.RoomH.units {k : Nat} {A : Around} (r : L2H.RoomH k A) : A.units + 64 < cLine := by have := r.un; omega
theorem _root_.L2H.RoomH.units0 {k : Nat} {A : Around} (r : L2H.RoomH k A) : A.units < cLine := by have := r.un; omega
/-- a def that is handed the refusal p that a suite holds -/
structure FnW (P : Program) (w : World) (K : PySem.W.Frag) (mg : Str → Option Value) (base : Heap) (k : Nat) (f : Addr) (fd : FuncData) (ps : List Str) (sp : Addr × Obj → Sp) : Prop where
  len : ∀ p vs H Q E, sp p vs H Q E → vs.length = ps.length
  run : ∀ (A : Around) (outer : List Env) (s : Shared) (H : Hp) (args : Args) (us : List Value) (vs : List V) (Q : VK) (E : XK) (p : Addr × Obj), L2H.RoomH k A → L2H.PinOk outer H s p → Env0 P w K mg base A outer s H → BindsTo s fd args (ps.zip us) → Vals vs us → sp p vs H Q E →
    codeAny (model P w) A (.call (.ref f) args) (CR (L2.CX P w) outer P w H s Q E) s
section
variable {P : Program} {w : World} {K : PySem.W.Frag} {mg : Str → Option Value} {base : Heap} {cl : Cl}
theorem okW {x qual : Str} {st : Stmt} {f : Addr} {fd : FuncData} {N ps : List Str} {k : Nat} {sp : Addr × Obj → Sp} (F : Fun K x qual st f fd) (S : FnScope N ps (defScope st)) (len : ∀ p vs H Q E, sp p vs H Q E → vs.length = ps.length)
    (hb : ∀ (cdv : Value) (A : Around) (outer : List Env) (s : Shared) (H : Hp) (vs : List V) (Q : VK) (E : XK) (p : Addr × Obj), L2H.RoomH k (A.deeper (envOfC qual (defScope st) s.heap.objs.size f cdv)) → sp p vs H Q E →
      ∃ t, PSs (L2H.cxH (L2.CX P w) P w K mg base N qual (defScope st) f cdv A outer s H E p) (defBody st) t ∧ t { nx := fun _ H' => Q .non H', rt := Q } (L2.start N vs) H) : FnW P w K mg base (k + 1) f fd ps sp := by
  obtain ⟨oc, od, kV, doc, pm, an, cdv, ct, osl, rfl, lk, hcd⟩ := F.ex
  refine ⟨len, fun A outer s H args us vs Q E p hr hpin env binds rv hsp => ?_⟩
  have same : ∀ b o, base.get? b = some o → s.heap.get? b = some o := fun b o e => (env.bs b o e).1
  have kin : K.In s.heap := env.mod.kin.keeps same
  refine codeAny_call_function hr.depth (kin _ _ lk) rfl S.co S.gen rfl (PySem.W.codeRec_of kin hcd) (binds _ _ _ _ ?_)
  refine wpAny_newFunctionEnv_cells S.kind (fun ⟨n, v⟩ hy => (S.par n (List.of_mem_zip hy).1).imp id fun q => ⟨q, PySem.W.cellsFrom_some _ _ _ (.inl q)⟩) fun fr hfr s1 born => ?_
  subst hfr
  refine ⟨(env.mod.nolimit.keeps same).keeps born.toInCall.keep, codeAny_func ?_⟩
  obtain ⟨t, pt, q⟩ := hb cdv A outer s H vs Q E p (hr.deeper _) hsp
  have I : Inv (L2H.cxH (L2.CX P w) P w K mg base N qual (defScope st) f cdv A outer s H E p) [] (L2.start N vs) H s1 := L2H.inv_startH S hpin env (len _ _ _ _ _ hsp) rv born
  refine wpAny_mono (pt.run [] s1 (L2.start N vs) H _ I q) (fun fl s2 end_ => ?_) fun e s2 z => z
  cases fl with
  | ret u => obtain ⟨v, σ', H', J, rv', q'⟩ := end_; exact ⟨v, H', J.os, J.bare, J.base, J.hok, rv', q'⟩
  | next => obtain ⟨σ', H', J, q'⟩ := end_; exact ⟨.non, H', J.os, J.bare, J.base, J.hok, rfl, q'⟩
  | brk => obtain ⟨_, _, _, z⟩ := end_; exact z.elim
  | cont => obtain ⟨_, _, _, z⟩ := end_; exact z.elim
def spW (Z : Zx) (cl : Cl) (ks : Ex → Option D) : Addr × Obj → Sp := fun p vs H Q _ => vs = [.ref p.1] ∧ LamX.Tabs cl.T H ∧ (∃ us, p.2.data = .fields us) ∧ ∃ e cls od d, Zc cls od p.2 ∧ ExcAt Z cl H e cls od ∧ ks e = some d ∧ ∀ v H', Mv cl.T [] H H' → Sh Z H' v d → Q v H'
theorem def_okW {x qual n : Str} {st : Stmt} {f : Addr} {fd : FuncData} {N : List Str} {k m : Nat} {cs : List String} {ms : String → M Fl} (F : Fun K x qual st f fd) (S : FnScope N [n] (defScope st)) (hN : N.length = m) (hm : 0 < m) (hst : ∀ v : V, L2.start N [v] = (List.replicate m none).set 0 (some v))
    (hb : ∀ (cdv : Value) (A : Around) (outer : List Env) (s : Shared) (H : Hp) (E : XK) (a : Addr) (oe : Obj) (c : String) (H' : Hp), c ∈ cs → Zc (.ref (cl c)) none oe → (∃ vs, oe.data = .fields vs) → L2H.RoomH k (A.deeper (envOfC qual (defScope st) s.heap.objs.size f cdv)) →
      VSs (L2H.cxH (L2.CX P w) P w K mg base N qual (defScope st) f cdv A outer s H E (a, oe)) (kgh ⟨P, w, K⟩ cl H' 0 a) false (defBody st) (ms c)) : FnW P w K mg base (k + 1) f fd [n] (spW ⟨P, w, K⟩ cl (ksOf cs m ms)) := by
  refine okW F S (fun p vs H Q E h => by rw [h.1]; rfl) fun cdv A outer s H vs Q E p hr hsp => ?_
  obtain ⟨rfl, tb, hf, e, cls, od, d, hz, ea, hk, q⟩ := hsp
  unfold ksOf at hk
  split at hk
  · rename_i hcnd
    obtain ⟨h1, h2⟩ := Bool.and_eq_true_iff.1 hcnd
    have hmem : e.c ∈ cs := by simpa using h2
    obtain ⟨e1, e2⟩ := ea
    have ef : e.fs = [] := by simpa using h1
    rw [ef] at e2
    subst e1
    simp only at e2
    subst e2
    obtain ⟨a, oe⟩ := p
    refine ⟨_, hb cdv A outer s H E a oe e.c H hmem hz hf hr, List.replicate m none, ?_, ?_⟩
    · rw [hst]
      exact stt_kgh tb (by simp) hm
    · unfold runK at hk
      split at hk
      · rename_i d' ρ' hms
        cases hk
        rw [hms]
        exact fun v σ2 H2 fz S2 ro => q v H2 S2.mv ro
      · cases hk
  · cases hk
end
section
variable {X : Cx} {G : Gh}
theorem pe_callW {k : Nat} {f : Addr} {fd : FuncData} {ps : List Str} {sp : Addr × Obj → Sp} {E : XK} {x : Str} {q pos : Pos} {e : Expr} {es : List Expr} {t : TA} {p : Addr × Obj} (F : FnW X.prog X.w X.K X.mg X.base k f fd ps sp) (hr : L2H.RoomH k X.A) (hp : p ∈ X.pn) (hg : Gl X x) (hm : X.mg x = some (.ref f)) (hk : PySem.W.keepIn X.K (.ref f) = true) (hb : L2.Binds X.K fd ps []) (hx : Passes (L2.CX X.prog X.w) X E)
    (ha : PA X (e :: es) t) (hdb : (x == ("__debug__" : Str)) = false := by decide) (he : starEach (e :: es) X.env = (false, eval e X.env) :: starEach es X.env := by rfl) (hpl : (backTo pos (starEach es X.env)).any (·.1) = false := by rfl) : PE X (.Call (.Name x q) (e :: es) [] pos) (tCall (sp p) [] E t) := by
  refine ⟨fun pins s σ H Q I h => wpAny_Call_Name_kw (ld_glob I hg hm (PySem.W.callWith_K (h₀ := X.base) I.ok.mod.kin hk (thn (ha.run pos pins s σ H _ I h) fun us s1 ⟨vs, H1, I1, r, q⟩ => ⟨I1.kIn, ?_⟩) he hpl) hdb)⟩
  have q : sp p (vs ++ []) H1 Q E := q
  rw [List.append_nil] at q
  have hl : us.length = ps.length := by rw [← r.length]; exact F.len _ _ _ _ _ q
  have b1 := hb s1 us I1.kIn (by rw [List.append_nil]; exact hl)
  rw [List.append_nil] at b1
  have P1 := I1.pin p (List.mem_append_left _ hp)
  have hpin : L2H.PinOk X.stack H1 s1 p := ⟨P1.1, P1.2.1, fun hm => (List.mem_cons.mp (I1.stkSub p.1 hm)).elim P1.2.2.1 P1.2.2.2.1, P1.2.2.2.2⟩
  refine wpAny_call (codeAny_mono (F.run X.A X.stack s1 H1 ⟨us, []⟩ us vs Q E p hr hpin I1.env0 b1 r q) fun out s2 z => ?_)
  cases out with
  | error e => exact hx pins σ H1 s1 e s2 I1 z
  | ok fl =>
    cases fl with
    | ret u => exact I1.after z
    | next => exact z.elim
    | brk => exact z.elim
    | cont => exact z.elim
/-- f(n), n the refusal that the suite holds -/
theorem ve_which {cl : Cl} {ks : Ex → Option D} {k : Nat} {f : Addr} {fd : FuncData} {pm x n : Str} {a : Addr} {oe : Obj} {i : Nat} {c : String} {q p1 pos : Pos} (F : FnW X.prog X.w X.K X.mg X.base k f fd [pm] (spW (zx X) cl ks)) (hr : L2H.RoomH k X.A) (hp : (a, oe) ∈ X.pn) (hz : Zc (.ref (cl c)) none oe) (hf : ∃ vs, oe.data = .fields vs)
    (hi : i ∈ G.fx) (hfv : G.fv i = some (.ref a)) (hg : Gl X x) (hm : X.mg x = some (.ref f)) (hk : PySem.W.keepIn X.K (.ref f) = true) (hb : L2.Binds X.K fd [pm] []) (hN : X.N[i]? = some n) (hv : Vis X.env.scope n) (hcl : G.cl = cl := by rfl) (hZ : G.Z = zx X := by rfl)
    (hd : (n == ("__debug__" : Str)) = false := by decide) (hcd : (n == ("__classdict__" : Str)) = false := by decide) (hdb : (x == ("__debug__" : Str)) = false := by decide) (he : starEach [Expr.Name n p1] X.env = (false, eval (Expr.Name n p1) X.env) :: starEach [] X.env := by rfl) :
    VE X G (.Call (.Name x q) [.Name n p1] [] pos) (lft (ks ⟨c, []⟩)) := pe_imp (pe_callW (E := fun _ _ _ => False) (p := (a, oe)) F hr hp hg hm hk hb (fun _ _ _ _ _ _ _ ⟨_, _, _, _, _, _, _, _, _, _, _, _, z⟩ => z.elim) (pa_cons (pe_var hN hv hd hcd) pa_nil he) hdb he) (by
  obtain ⟨Z, cl', H0, S0, W, fx, fv, tp⟩ := G
  cases hZ
  cases hcl
  rintro σ H Q ⟨ρ, S, k⟩
  refine ⟨.ref a, by rw [S.fix i hi]; exact congrArg some hfv, ?_⟩
  obtain ⟨d, e, q⟩ := k.lft
  exact ⟨rfl, S.mv.tb.2, hf, ⟨c, []⟩, _, _, d, hz, ⟨rfl, rfl⟩, e, fun v H' mv sh => q v H' mv.fz (S.called mv (fun _ z => nomatch z)) sh⟩)
/-! isinstance of the refusal that stands among the pins -/
theorem u_isP {a : Addr} {D : Addr} {oe : Obj} (hp : (a, oe) ∈ X.pn) (hz : Zc (.ref D) none oe) (hf : ∃ vs, oe.data = .fields vs) (C : ExcC X.K D) : CallR X (.builtin "isinstance") (rIsE X.K D a) := by
  intro pins s σ H xs us Q I r h
  obtain ⟨c, cv, b, rfl, hcv, e, q⟩ := h
  cases r with
  | cons rx rr =>
    cases rr with
    | cons rt rr =>
      cases rr
      cases rx
      have ec := hcv _ rt
      subst ec
      obtain ⟨hget, _⟩ := I.pin (a, oe) (List.mem_append.mpr (.inl hp))
      obtain ⟨vs, hv⟩ := hf
      have J : PySem.W.InstAt s.heap a oe D none := by
        obtain ⟨oc, od, oda, osl⟩ := oe
        obtain ⟨h1, h2⟩ := hz
        dsimp only at h1 h2 hv
        subst h1 h2 hv
        exact ⟨hget, rfl, rfl, trivial⟩
      exact PySem.W.kia_one (PySem.W.handS_kitx_exc C.hg C.hk C.hs C.hd C.ha C.hn C.ht C.hm) I.kIn J e (fun z => nomatch z) fun tk => ⟨.bl b, H, I.kept (t' := tk) fun _ _ z => z, rfl, q⟩
theorem vo_isEP {a C D : Addr} {oe : Obj} {i : Nat} {n c : Str} {b : Bool} {p0 p1 p2 pos : Pos} (hp : (a, oe) ∈ X.pn) (hz : Zc (.ref D) none oe) (hf : ∃ vs, oe.data = .fields vs) (hE : ExcC X.K D) (hi : i ∈ G.fx) (hfv : G.fv i = some (.ref a))
    (hk : PySem.W.kitOne X.K (.ref D) (.ref C) = some b) (hgi : Gl X "isinstance") (hmi : X.mg "isinstance" = none) (hN : X.N[i]? = some n) (hv : Vis X.env.scope n) (hgc : Gl X c) (hmc : X.mg c = some (.ref C))
    (hd : (n == ("__debug__" : Str)) = false := by decide) (hcd : (n == ("__classdict__" : Str)) = false := by decide) (hd2 : (c == ("__debug__" : Str)) = false := by decide)
    (he : starEach [Expr.Name n p1, Expr.Name c p2] X.env = (false, eval (Expr.Name n p1) X.env) :: starEach [Expr.Name c p2] X.env := by rfl)
    (he2 : starEach [Expr.Name c p2] X.env = (false, eval (Expr.Name c p2) X.env) :: starEach [] X.env := by rfl) :
    VO X G (.Call (.Name "isinstance" p0) [.Name n p1, .Name c p2] [] pos) (ret (.bool b)) :=
  pe_imp (pe_callB (u_isP hp hz hf hE) hgi hmi (by decide +kernel) (pa_cons (pe_var hN hv hd hcd) (pa_cons (pe_glob hgc hmc (show L2.RelV (.ref C) (.ref C) from rfl) hd2) pa_nil he2) he)) fun σ H Q ⟨ρ, S, k⟩ => by
    refine ⟨.ref a, by rw [S.fix i hi, hfv], ?_⟩
    exact ⟨.ref C, .ref C, b, rfl, fun u hu => hu, hk, k (.bl b) H (Fz.refl H) S (Sh.bl b)⟩
theorem vo_isVP {a D : Addr} {oe : Obj} {i : Nat} {n : Str} {b : Bool} {p0 p1 p2 pos : Pos} (hp : (a, oe) ∈ X.pn) (hz : Zc (.ref D) none oe) (hf : ∃ vs, oe.data = .fields vs) (hE : ExcC X.K D) (hi : i ∈ G.fx) (hfv : G.fv i = some (.ref a))
    (hk : PySem.W.kitOne X.K (.ref D) (.type "ValueError") = some b) (hgi : Gl X "isinstance") (hmi : X.mg "isinstance" = none) (hN : X.N[i]? = some n) (hv : Vis X.env.scope n)
    (hgc : Gl X "ValueError") (hmc : X.mg "ValueError" = none) (hd : (n == ("__debug__" : Str)) = false := by decide) (hcd : (n == ("__classdict__" : Str)) = false := by decide)
    (he : starEach [Expr.Name n p1, Expr.Name "ValueError" p2] X.env = (false, eval (Expr.Name n p1) X.env) :: starEach [Expr.Name "ValueError" p2] X.env := by rfl)
    (he2 : starEach [Expr.Name "ValueError" p2] X.env = (false, eval (Expr.Name "ValueError" p2) X.env) :: starEach [] X.env := by rfl) :
    VO X G (.Call (.Name "isinstance" p0) [.Name n p1, .Name "ValueError" p2] [] pos) (ret (.bool b)) :=
  pe_imp (pe_callB (u_isP hp hz hf hE) hgi hmi (by decide +kernel) (pa_cons (pe_var hN hv hd hcd) (pa_cons (pe_bltn (v := .ty "ValueError") hgc hmc (by decide +kernel) rfl) pa_nil he2) he)) fun σ H Q ⟨ρ, S, k⟩ => by
    refine ⟨.ref a, by rw [S.fix i hi, hfv], ?_⟩
    exact ⟨.ty "ValueError", .type "ValueError", b, rfl, fun u hu => hu, hk, k (.bl b) H (Fz.refl H) S (Sh.bl b)⟩
/-! try: return [x()] except C as n: suite -/
theorem gives_said {cl : Cl} {cs : List String} {ms : String → M Fl} {N : List Str} {x a n ce q : Str} {sg : Scope} {g CE : Addr} {cdv : Value} {i m : Nat} {b₀ : Stmt} {suite : List Stmt} {p1 p2 p3 p4 p5 p6 p7 : Pos}
    (hN : N.length = m) (hNd : N.Nodup) (hi : N[i]? = some n) (him : i < m) (hln : sg.names.lookup n = some .local) (hce : ∀ s H, Names (cxOf C8.CX0 X.prog X.w X.K X.mg X.base N x sg g cdv X.A X.stack s H C8.E0).nox ce (.ref CE))
    (h0 : ∀ f : Addr, (L2.start N [V.ref f])[0]? = some (some (V.ref f)))
    (hex : ∀ c ∈ cs, PySem.W.exmOne X.K (.ref (cl c)) (.ref CE) = some true)
    (hsu : ∀ (s : Shared) (H : Hp) (c : String) (a : Addr) (oe : Obj) (pn : List (Addr × Obj)) (H' : Hp), c ∈ cs → Zc (.ref (cl c)) none oe → (∃ vs, oe.data = .fields vs) → VSs ((cxOf C8.CX0 X.prog X.w X.K X.mg X.base N x sg g cdv X.A X.stack s H C8.E0).nox.suite a ((a, oe) :: pn)) (kgh (zx X) cl H' i a) false (b₀ :: suite) (ms c)) :
    LamX.GivesTo X N x sg g cdv [.Try [.Return (some (.List [.Call (.Name a p1) [] [] p2] p7)) p3] [.ExceptHandler (some (.Name ce p4)) (some n) (b₀ :: suite) p5] [] [] p6] a q (TTk (zx X) cl (fun d => some (.list [d])) (ksOf cs m ms)) := by
  intro f c' s H Q tl act hc h
  have hb : ∀ (W : WX) (pn : List (Addr × Obj)) (xe : Value → Shared → Prop), Takes ((cxOf C8.CX0 X.prog X.w X.K X.mg X.base N x sg g cdv X.A X.stack s H C8.E0).nox.tr pn xe) W →
      PE ((cxOf C8.CX0 X.prog X.w X.K X.mg X.base N x sg g cdv X.A X.stack s H C8.E0).nox.tr pn xe) (.Call (.Name a p1) [] [] p2)
        (fun σZ HZ Q => ∃ E : XK, (∀ cls d (σ' : L2.St) H', σ'.length = m → E cls d H' → W cls d σ' H') ∧ σZ[0]? = some (some (.ref f)) ∧ HZ c' = some (LamX.CodeO c' q) ∧ tl E HZ Q) := fun W pn xe tk =>
    ⟨fun pins s σ H Q I ⟨E, hE, h⟩ => (act _ pn xe E p1 p2 (take_len tk) (fun cls d σ' H' e l => hE cls d σ' H' (by rw [← hN]; exact l) e)).run pins s σ H Q I h⟩
  refine ⟨_, pss_one (ps_try_as (i := i) (c := .ref CE) (Wout := fun _ _ _ _ => False) (ts := fun a cls d D σ H => ∃ c ∈ cs, cls = .ref (cl c) ∧ d = none ∧ tvS (kgh (zx X) cl H i a) false (ms c) D σ H) rfl rfl hNd hi hln (hce s H) LamX.takes0
    (fun W pn xe tk _ => pss_one (ps_ret (pe_lockV (pe_lst (pa_cons (pe_weak (hb W pn xe tk)) pa_nil (by rfl)))))) (fun a oe cls d pn hz hf => ⟨fun pins s' σ H' D I ⟨c, hc, ec, ed, t⟩ => (hsu s H c a oe pn H' hc (ec ▸ ed ▸ hz) hf).run pins s' σ H' D I t⟩)), ?_⟩
  simp only [tRet, tLst, tCons, tNil]
  refine ⟨_, ⟨_, ?_, h0 f, hc, h⟩, ?_⟩
  · rintro cls d σ' H' l ⟨e, r, tb, ea, hk, q⟩
    unfold ksOf at hk
    split at hk
    · rename_i hcnd
      obtain ⟨h1, h2⟩ := Bool.and_eq_true_iff.1 hcnd
      have hm : e.c ∈ cs := by simpa using h2
      obtain ⟨e1, e2⟩ := ea
      have ef : e.fs = [] := by simpa using h1
      rw [ef] at e2
      refine ⟨true, by rw [e1]; exact hex _ hm, fun _ b nb => ⟨e.c, hm, e1, e2, List.replicate m none, stt_kgh tb l him, ?_⟩, fun z => nomatch z⟩
      unfold runK at hk
      split at hk
      · rename_i d' ρ' hms
        cases hk
        rw [hms]
        exact fun v σ2 H2 fz S2 ro => q v H2 S2.mv ro
      · cases hk
    · cases hk
  · rintro v H' ⟨d0, d, tb, sh, hk, q⟩
    cases hk
    refine ⟨by show 1 ≤ sizeLine; rw [sizeLine_eq]; omega, fun p hp => .inr ⟨p, .lst [v], rfl, upd_same, trivial, fun o => ?_⟩⟩
    rw [upd_upd]
    have sm := sm_upd (o := .frz o (.lst [v])) hp
    exact q _ _ (Mv.same sm tb) (.lst (.inl ⟨o, upd_same⟩) (.cons (sh.up (Same.fz sm)) .nil))
end
end Cv
end
section
namespace Cv
open PySem L2
def top (i : Nat) : Stmt := PySem.Challenge.pw_coverdues_k44_no_balances.main.body.getD i (.Pass ⟨0, 0, 0, 0⟩)
abbrev s_is_number : Stmt := top 22
abbrev s_need_balances : Stmt := top 23
abbrev s_is_payment : Stmt := top 24
abbrev s_settles : Stmt := top 25
abbrev s_some_of : Stmt := top 26
abbrev s_parted : Stmt := top 27
abbrev s_groups : Stmt := top 28
abbrev s_fewest_payments : Stmt := top 29
abbrev s_payments_in : Stmt := top 30
abbrev s_payments : Stmt := top 31
abbrev s__law_cell : Stmt := top 33
abbrev s__law_mix : Stmt := top 34
abbrev s__law_box : Stmt := top 35
abbrev s__law_take : Stmt := top 36
abbrev s__law_balances : Stmt := top 37
abbrev s__law_is : Stmt := top 38
abbrev s__law_odd : Stmt := top 39
abbrev s__law_bent : Stmt := top 40
abbrev s__law_which : Stmt := top 41
abbrev s__law_said : Stmt := top 42
abbrev s__law_are : Stmt := top 43
abbrev s__law_right : Stmt := top 44
abbrev s_law : Stmt := top 45
abbrev N_is_number : List Str := ["thing"]
abbrev P_is_number : List Str := ["thing"]
theorem sc_is_number : FnScope N_is_number P_is_number (defScope s_is_number) := ⟨rfl, rfl, rfl, by decide +kernel, rfl, by decide +kernel, by decide +kernel⟩
abbrev N_need_balances : List Str := ["thing", "one"]
abbrev P_need_balances : List Str := ["thing"]
theorem sc_need_balances : FnScope N_need_balances P_need_balances (defScope s_need_balances) := ⟨rfl, rfl, rfl, by decide +kernel, rfl, by decide +kernel, by decide +kernel⟩
abbrev N_is_payment : List Str := ["many", "thing", "payer", "taker", "pence", "one"]
abbrev P_is_payment : List Str := ["many", "thing"]
theorem sc_is_payment : FnScope N_is_payment P_is_payment (defScope s_is_payment) := ⟨rfl, rfl, rfl, by decide +kernel, rfl, by decide +kernel, by decide +kernel⟩
abbrev N_settles : List Str := ["balances", "thing", "left", "payer", "taker", "pence", "one"]
abbrev P_settles : List Str := ["balances", "thing"]
theorem sc_settles : FnScope N_settles P_settles (defScope s_settles) := ⟨rfl, rfl, rfl, by decide +kernel, rfl, by decide +kernel, by decide +kernel⟩
abbrev N_some_of : List Str := ["places", "found", "place", "some"]
abbrev P_some_of : List Str := ["places"]
theorem sc_some_of : FnScope N_some_of P_some_of (defScope s_some_of) := ⟨rfl, rfl, rfl, by decide +kernel, rfl, by decide +kernel, by decide +kernel⟩
abbrev N_parted : List Str := ["balances", "places", "best", "some", "group", "found", "place"]
abbrev P_parted : List Str := ["balances", "places"]
theorem sc_parted : FnScope N_parted P_parted (defScope s_parted) := ⟨rfl, rfl, rfl, by decide +kernel, rfl, by decide +kernel, by decide +kernel⟩
abbrev N_groups : List Str := ["balances", "place"]
abbrev P_groups : List Str := ["balances"]
theorem sc_groups : FnScope N_groups P_groups (defScope s_groups) := ⟨rfl, rfl, rfl, by decide +kernel, rfl, by decide +kernel, by decide +kernel⟩
abbrev N_fewest_payments : List Str := ["balances", "group"]
abbrev P_fewest_payments : List Str := ["balances"]
theorem sc_fewest_payments : FnScope N_fewest_payments P_fewest_payments (defScope s_fewest_payments) := ⟨rfl, rfl, rfl, by decide +kernel, rfl, by decide +kernel, by decide +kernel⟩
abbrev N_payments_in : List Str := ["balances", "group", "left", "payers", "takers", "found", "payer", "taker", "pence", "place"]
abbrev P_payments_in : List Str := ["balances", "group"]
theorem sc_payments_in : FnScope N_payments_in P_payments_in (defScope s_payments_in) := ⟨rfl, rfl, rfl, by decide +kernel, rfl, by decide +kernel, by decide +kernel⟩
abbrev N_payments : List Str := ["balances", "found", "group"]
abbrev P_payments : List Str := ["balances"]
theorem sc_payments : FnScope N_payments P_payments (defScope s_payments) := ⟨rfl, rfl, rfl, by decide +kernel, rfl, by decide +kernel, by decide +kernel⟩
abbrev N__law_cell : List Str := ["_law_script", "_law_k"]
abbrev P__law_cell : List Str := ["_law_script", "_law_k"]
theorem sc__law_cell : FnScope N__law_cell P__law_cell (defScope s__law_cell) := ⟨rfl, rfl, rfl, by decide +kernel, rfl, by decide +kernel, by decide +kernel⟩
abbrev N__law_mix : List Str := ["_law_cell_here", "_law_k", "_law_some", "_law_stir"]
abbrev P__law_mix : List Str := ["_law_cell_here", "_law_k"]
theorem sc__law_mix : FnScope N__law_mix P__law_mix (defScope s__law_mix) := ⟨rfl, rfl, rfl, by decide +kernel, rfl, by decide +kernel, by decide +kernel⟩
abbrev N__law_box : List Str := ["_law_script", "_law_k", "_law_lap", "_law_cell_here", "_law_number", "_law_j"]
abbrev P__law_box : List Str := ["_law_script", "_law_k", "_law_lap"]
theorem sc__law_box : FnScope N__law_box P__law_box (defScope s__law_box) := ⟨rfl, rfl, rfl, by decide +kernel, rfl, by decide +kernel, by decide +kernel⟩
abbrev N__law_take : List Str := ["_law_box_here", "_law_count", "_law_left", "_law_digit"]
abbrev P__law_take : List Str := ["_law_box_here", "_law_count"]
theorem sc__law_take : FnScope N__law_take P__law_take (defScope s__law_take) := ⟨rfl, rfl, rfl, by decide +kernel, rfl, by decide +kernel, by decide +kernel⟩
abbrev N__law_balances : List Str := ["_law_box_here", "_law_most", "_law_found", "_law_group", "_law_turn", "_law_order"]
abbrev P__law_balances : List Str := ["_law_box_here", "_law_most"]
theorem sc__law_balances : FnScope N__law_balances P__law_balances (defScope s__law_balances) := ⟨rfl, rfl, rfl, by decide +kernel, rfl, by decide +kernel, by decide +kernel⟩
abbrev N__law_is : List Str := ["_law_thing", "_law_low", "_law_high"]
abbrev P__law_is : List Str := ["_law_thing", "_law_low", "_law_high"]
theorem sc__law_is : FnScope N__law_is P__law_is (defScope s__law_is) := ⟨rfl, rfl, rfl, by decide +kernel, rfl, by decide +kernel, by decide +kernel⟩
abbrev N__law_odd : List Str := ["_law_box_here", "_law_some"]
abbrev P__law_odd : List Str := ["_law_box_here"]
theorem sc__law_odd : FnScope N__law_odd P__law_odd (defScope s__law_odd) := ⟨rfl, rfl, rfl, by decide +kernel, rfl, by decide +kernel, by decide +kernel⟩
abbrev N__law_bent : List Str := ["_law_box_here", "_law_thing", "_law_deep", "_law_spot", "_law_way", "_law_row"]
abbrev P__law_bent : List Str := ["_law_box_here", "_law_thing", "_law_deep"]
theorem sc__law_bent : FnScope N__law_bent P__law_bent (defScope s__law_bent) := ⟨rfl, rfl, rfl, by decide +kernel, rfl, by decide +kernel, by decide +kernel⟩
abbrev N__law_which : List Str := ["_law_e", "_law_marks", "_law_names"]
abbrev P__law_which : List Str := ["_law_e"]
theorem sc__law_which : FnScope N__law_which P__law_which (defScope s__law_which) := ⟨rfl, rfl, rfl, by decide +kernel, rfl, by decide +kernel, by decide +kernel⟩
abbrev N__law_said : List Str := ["_law_call", "_law_e"]
abbrev P__law_said : List Str := ["_law_call"]
theorem sc__law_said : FnScope N__law_said P__law_said (defScope s__law_said) := ⟨rfl, rfl, rfl, by decide +kernel, rfl, by decide +kernel, by decide +kernel⟩
abbrev N__law_are : List Str := ["_law_thing", "_law_one"]
abbrev P__law_are : List Str := ["_law_thing"]
theorem sc__law_are : FnScope N__law_are P__law_are (defScope s__law_are) := ⟨rfl, rfl, rfl, by decide +kernel, rfl, by decide +kernel, by decide +kernel⟩
abbrev N__law_right : List Str := ["_law_box_here", "_law_balances_here", "_law_some", "_law_turn", "_law_thing", "_law_kept", "_law_calls", "_law_one"]
abbrev P__law_right : List Str := ["_law_box_here"]
theorem sc__law_right : FnScope N__law_right P__law_right (defScope s__law_right) := ⟨rfl, rfl, rfl, by decide +kernel, rfl, by decide +kernel, by decide +kernel⟩
abbrev N_law : List Str := ["_law_script", "_law_k", "_law_lap"]
abbrev P_law : List Str := ["_law_script"]
theorem sc_law : FnScope N_law P_law (defScope s_law) := ⟨rfl, rfl, rfl, by decide +kernel, rfl, by decide +kernel, by decide +kernel⟩
structure Ad where
  is_number : Addr
  fd_is_number : FuncData
  need_balances : Addr
  fd_need_balances : FuncData
  is_payment : Addr
  fd_is_payment : FuncData
  settles : Addr
  fd_settles : FuncData
  some_of : Addr
  fd_some_of : FuncData
  parted : Addr
  fd_parted : FuncData
  groups : Addr
  fd_groups : FuncData
  fewest_payments : Addr
  fd_fewest_payments : FuncData
  payments_in : Addr
  fd_payments_in : FuncData
  payments : Addr
  fd_payments : FuncData
  _law_cell : Addr
  fd__law_cell : FuncData
  _law_mix : Addr
  fd__law_mix : FuncData
  _law_box : Addr
  fd__law_box : FuncData
  _law_take : Addr
  fd__law_take : FuncData
  _law_balances : Addr
  fd__law_balances : FuncData
  _law_is : Addr
  fd__law_is : FuncData
  _law_odd : Addr
  fd__law_odd : FuncData
  _law_bent : Addr
  fd__law_bent : FuncData
  _law_which : Addr
  fd__law_which : FuncData
  _law_said : Addr
  fd__law_said : FuncData
  _law_are : Addr
  fd__law_are : FuncData
  _law_right : Addr
  fd__law_right : FuncData
  law : Addr
  fd_law : FuncData
  CoverError : Addr
  NoNet : Addr
  NoYard : Addr
  NoMark : Addr
  NoPage : Addr
  NoCover : Addr
  NoDay : Addr
  NoTariff : Addr
  NoBalance : Addr
  NoStray : Addr
  NoTrip : Addr
  NoPrice : Addr
  NoLine : Addr
  Gone : Addr
  Nothing : Addr
  Clash : Addr
  NoText : Addr
  TooMany : Addr
structure Txt (K : PySem.W.Frag) (mg : Str → Option Value) (A : Ad) : Prop where
  g_is_number : mg "is_number" = some (.ref A.is_number)
  F_is_number : Fun K "is_number" "is_number" s_is_number A.is_number A.fd_is_number
  B_is_number : Binds K A.fd_is_number P_is_number []
  g_need_balances : mg "need_balances" = some (.ref A.need_balances)
  F_need_balances : Fun K "need_balances" "need_balances" s_need_balances A.need_balances A.fd_need_balances
  B_need_balances : Binds K A.fd_need_balances P_need_balances []
  g_is_payment : mg "is_payment" = some (.ref A.is_payment)
  F_is_payment : Fun K "is_payment" "is_payment" s_is_payment A.is_payment A.fd_is_payment
  B_is_payment : Binds K A.fd_is_payment P_is_payment []
  g_settles : mg "settles" = some (.ref A.settles)
  F_settles : Fun K "settles" "settles" s_settles A.settles A.fd_settles
  B_settles : Binds K A.fd_settles P_settles []
  g_some_of : mg "some_of" = some (.ref A.some_of)
  F_some_of : Fun K "some_of" "some_of" s_some_of A.some_of A.fd_some_of
  B_some_of : Binds K A.fd_some_of P_some_of []
  g_parted : mg "parted" = some (.ref A.parted)
  F_parted : Fun K "parted" "parted" s_parted A.parted A.fd_parted
  B_parted : Binds K A.fd_parted P_parted []
  g_groups : mg "groups" = some (.ref A.groups)
  F_groups : Fun K "groups" "groups" s_groups A.groups A.fd_groups
  B_groups : Binds K A.fd_groups P_groups []
  g_fewest_payments : mg "fewest_payments" = some (.ref A.fewest_payments)
  F_fewest_payments : Fun K "fewest_payments" "fewest_payments" s_fewest_payments A.fewest_payments A.fd_fewest_payments
  B_fewest_payments : Binds K A.fd_fewest_payments P_fewest_payments []
  g_payments_in : mg "payments_in" = some (.ref A.payments_in)
  F_payments_in : Fun K "payments_in" "payments_in" s_payments_in A.payments_in A.fd_payments_in
  B_payments_in : Binds K A.fd_payments_in P_payments_in []
  g_payments : mg "payments" = some (.ref A.payments)
  F_payments : Fun K "payments" "payments" s_payments A.payments A.fd_payments
  B_payments : Binds K A.fd_payments P_payments []
  g__law_cell : mg "_law_cell" = some (.ref A._law_cell)
  F__law_cell : Fun K "_law_cell" "_law_cell" s__law_cell A._law_cell A.fd__law_cell
  B__law_cell : Binds K A.fd__law_cell P__law_cell []
  g__law_mix : mg "_law_mix" = some (.ref A._law_mix)
  F__law_mix : Fun K "_law_mix" "_law_mix" s__law_mix A._law_mix A.fd__law_mix
  B__law_mix : Binds K A.fd__law_mix P__law_mix []
  g__law_box : mg "_law_box" = some (.ref A._law_box)
  F__law_box : Fun K "_law_box" "_law_box" s__law_box A._law_box A.fd__law_box
  B__law_box : Binds K A.fd__law_box P__law_box []
  g__law_take : mg "_law_take" = some (.ref A._law_take)
  F__law_take : Fun K "_law_take" "_law_take" s__law_take A._law_take A.fd__law_take
  B__law_take : Binds K A.fd__law_take P__law_take []
  g__law_balances : mg "_law_balances" = some (.ref A._law_balances)
  F__law_balances : Fun K "_law_balances" "_law_balances" s__law_balances A._law_balances A.fd__law_balances
  B__law_balances : Binds K A.fd__law_balances P__law_balances []
  g__law_is : mg "_law_is" = some (.ref A._law_is)
  F__law_is : Fun K "_law_is" "_law_is" s__law_is A._law_is A.fd__law_is
  B__law_is : Binds K A.fd__law_is P__law_is []
  g__law_odd : mg "_law_odd" = some (.ref A._law_odd)
  F__law_odd : Fun K "_law_odd" "_law_odd" s__law_odd A._law_odd A.fd__law_odd
  B__law_odd : Binds K A.fd__law_odd P__law_odd []
  g__law_bent : mg "_law_bent" = some (.ref A._law_bent)
  F__law_bent : Fun K "_law_bent" "_law_bent" s__law_bent A._law_bent A.fd__law_bent
  B__law_bent : Binds K A.fd__law_bent P__law_bent []
  g__law_which : mg "_law_which" = some (.ref A._law_which)
  F__law_which : Fun K "_law_which" "_law_which" s__law_which A._law_which A.fd__law_which
  B__law_which : Binds K A.fd__law_which P__law_which []
  g__law_said : mg "_law_said" = some (.ref A._law_said)
  F__law_said : Fun K "_law_said" "_law_said" s__law_said A._law_said A.fd__law_said
  B__law_said : Binds K A.fd__law_said P__law_said []
  g__law_are : mg "_law_are" = some (.ref A._law_are)
  F__law_are : Fun K "_law_are" "_law_are" s__law_are A._law_are A.fd__law_are
  B__law_are : Binds K A.fd__law_are P__law_are []
  g__law_right : mg "_law_right" = some (.ref A._law_right)
  F__law_right : Fun K "_law_right" "_law_right" s__law_right A._law_right A.fd__law_right
  B__law_right : Binds K A.fd__law_right P__law_right []
  g_law : mg "law" = some (.ref A.law)
  F_law : Fun K "law" "law" s_law A.law A.fd_law
  B_law : Binds K A.fd_law P_law []
  b_ValueError : mg "ValueError" = none
  b_abs : mg "abs" = none
  b_all : mg "all" = none
  b_bool : mg "bool" = none
  b_dict : mg "dict" = none
  b_divmod : mg "divmod" = none
  b_int : mg "int" = none
  b_isinstance : mg "isinstance" = none
  b_len : mg "len" = none
  b_list : mg "list" = none
  b_max : mg "max" = none
  b_min : mg "min" = none
  b_range : mg "range" = none
  b_repr : mg "repr" = none
  b_sum : mg "sum" = none
  b_tuple : mg "tuple" = none
  c_MOST_BALANCES : ∃ t, mg "MOST_BALANCES" = some (.int 8 t)
  c_MOST_PAYMENTS : ∃ t, mg "MOST_PAYMENTS" = some (.int 16 t)
  g_CoverError : mg "CoverError" = some (.ref A.CoverError)
  g_NoNet : mg "NoNet" = some (.ref A.NoNet)
  g_NoYard : mg "NoYard" = some (.ref A.NoYard)
  g_NoMark : mg "NoMark" = some (.ref A.NoMark)
  g_NoPage : mg "NoPage" = some (.ref A.NoPage)
  g_NoCover : mg "NoCover" = some (.ref A.NoCover)
  g_NoDay : mg "NoDay" = some (.ref A.NoDay)
  g_NoTariff : mg "NoTariff" = some (.ref A.NoTariff)
  g_NoBalance : mg "NoBalance" = some (.ref A.NoBalance)
  x_NoBalance : ExcK K A.NoBalance
  r_NoBalance : PySem.W.excIn K A.NoBalance [.type "ValueError", .type "Exception", .type "BaseException", .type "object"] "ValueError.__new__" = true
  g_NoStray : mg "NoStray" = some (.ref A.NoStray)
  g_NoTrip : mg "NoTrip" = some (.ref A.NoTrip)
  g_NoPrice : mg "NoPrice" = some (.ref A.NoPrice)
  g_NoLine : mg "NoLine" = some (.ref A.NoLine)
  g_Gone : mg "Gone" = some (.ref A.Gone)
  g_Nothing : mg "Nothing" = some (.ref A.Nothing)
  g_Clash : mg "Clash" = some (.ref A.Clash)
  g_NoText : mg "NoText" = some (.ref A.NoText)
  g_TooMany : mg "TooMany" = some (.ref A.TooMany)
  k_NoBalance_NoNet : PySem.W.kitOne K (.ref A.NoBalance) (.ref A.NoNet) = some false
  k_NoBalance_NoYard : PySem.W.kitOne K (.ref A.NoBalance) (.ref A.NoYard) = some false
  k_NoBalance_NoMark : PySem.W.kitOne K (.ref A.NoBalance) (.ref A.NoMark) = some false
  k_NoBalance_NoPage : PySem.W.kitOne K (.ref A.NoBalance) (.ref A.NoPage) = some false
  k_NoBalance_NoCover : PySem.W.kitOne K (.ref A.NoBalance) (.ref A.NoCover) = some false
  k_NoBalance_NoDay : PySem.W.kitOne K (.ref A.NoBalance) (.ref A.NoDay) = some false
  k_NoBalance_NoTariff : PySem.W.kitOne K (.ref A.NoBalance) (.ref A.NoTariff) = some false
  k_NoBalance_NoBalance : PySem.W.kitOne K (.ref A.NoBalance) (.ref A.NoBalance) = some true
  k_NoBalance_NoStray : PySem.W.kitOne K (.ref A.NoBalance) (.ref A.NoStray) = some false
  k_NoBalance_NoTrip : PySem.W.kitOne K (.ref A.NoBalance) (.ref A.NoTrip) = some false
  k_NoBalance_NoPrice : PySem.W.kitOne K (.ref A.NoBalance) (.ref A.NoPrice) = some false
  k_NoBalance_NoLine : PySem.W.kitOne K (.ref A.NoBalance) (.ref A.NoLine) = some false
  k_NoBalance_Gone : PySem.W.kitOne K (.ref A.NoBalance) (.ref A.Gone) = some false
  k_NoBalance_Nothing : PySem.W.kitOne K (.ref A.NoBalance) (.ref A.Nothing) = some false
  k_NoBalance_Clash : PySem.W.kitOne K (.ref A.NoBalance) (.ref A.Clash) = some false
  k_NoBalance_NoText : PySem.W.kitOne K (.ref A.NoBalance) (.ref A.NoText) = some false
  k_NoBalance_TooMany : PySem.W.kitOne K (.ref A.NoBalance) (.ref A.TooMany) = some false
  v_NoBalance : PySem.W.kitOne K (.ref A.NoBalance) (.type "ValueError") = some true
  m_NoBalance : PySem.W.exmOne K (.ref A.NoBalance) (.ref A.CoverError) = some true
def clF (A : Ad) : String → Addr
  | "CoverError" => A.CoverError
  | "NoNet" => A.NoNet
  | "NoYard" => A.NoYard
  | "NoMark" => A.NoMark
  | "NoPage" => A.NoPage
  | "NoCover" => A.NoCover
  | "NoDay" => A.NoDay
  | "NoTariff" => A.NoTariff
  | "NoBalance" => A.NoBalance
  | "NoStray" => A.NoStray
  | "NoTrip" => A.NoTrip
  | "NoPrice" => A.NoPrice
  | "NoLine" => A.NoLine
  | "Gone" => A.Gone
  | "Nothing" => A.Nothing
  | "Clash" => A.Clash
  | "NoText" => A.NoText
  | "TooMany" => A.TooMany
  | _ => 0
abbrev clA (A : Ad) (Tb : List (Addr × Str)) : Cl := ⟨clF A, Tb⟩
end Cv
end
section
namespace Cv
open PySem L2
variable {P : Program} {w : World} {K : PySem.W.Frag} {mg : Str → Option Value} {base : Heap} {A : Ad} {Tb : List (Addr × Str)}
def b_is_number : M Fl := (vRet (vAnd (vIs PyData.isInt (vVar 0)) (vNot (vIs PyData.isBool (vVar 0)))))
def m_is_number : List D → Option Rf := runF 1 [] 1 b_is_number
theorem ok_is_number (T : Txt K mg A)  : FnOk P w K mg base (L2.CX P w) 1 A.is_number A.fd_is_number P_is_number (spV ⟨P, w, K⟩ (clA A Tb) 1 [] false m_is_number) :=
  def_okX (k := 0) T.F_is_number sc_is_number rfl (by decide) rfl fun cdv A' outer s H vs E hr =>
    (vss_one (vs_ret (ve_and (ve_frz (vo_is (x := "") c_is_int (by rfl) T.b_isinstance (by rfl) T.b_int (by decide +kernel) (vb_of (ve_var 0)))) (ve_one (ve_frz (vo_not (ve_frz (vo_is (x := "") c_is_bool (by rfl) T.b_isinstance (by rfl) T.b_bool (by decide +kernel) (vb_of (ve_var 0))))))))))
def b_need_balances : M Fl := (vSeq (vIf (vOrT (vNotT (vT (vIs (fun d => d.isTuple || d.isList) (vVar 0)))) (vNotT (vT (vChain dLe dLe (ret (.int 1)) (vC1 dLen (vVar 0)) (ret (.int 8))))))
      (vRaise "NoBalance")
      (ret .nx))
    (vIf (vOrT (vNotT (vT (vC1 dAll (vLc (vItA (vVar 0)) [1] (vSetSh 1) vYes (vCall m_is_number (vCons (vVar 1) vNil)))))) (vT (vOp dNe (vC1 dSumA (vVar 0)) (ret (.int 0)))))
      (vRaise "NoBalance")
      (ret .nx)))
def m_need_balances : List D → Option Rf := runF 1 [] 2 b_need_balances
theorem ok_need_balances (T : Txt K mg A)  : FnOk P w K mg base (L2.CX P w) 2 A.need_balances A.fd_need_balances P_need_balances (spV ⟨P, w, K⟩ (clA A Tb) 1 [] false m_need_balances) :=
  def_okX (k := 1) T.F_need_balances sc_need_balances rfl (by decide) rfl fun cdv A' outer s H vs E hr =>
    (vss_cons (vs_if (vt_w (vw_or (vt_not (vt_val (ve_frz (vo_isT (t1 := "tuple") (t2 := "list") (isTL _) (by rfl) T.b_isinstance (by rfl) T.b_tuple (by decide +kernel) (by rfl) T.b_list (by decide +kernel) (vb_of (ve_var 0)))))) (vw_or1 (vt_not (vt_chain (o_le hr.units) (o_le hr.units) (ve_frz vo_int) (ve_frz (vo_b1 c_len (by rfl) T.b_len (by decide +kernel) (vb_of (ve_var 0)))) (vb_of (ve_frz (vo_glI (by rfl) T.c_MOST_BALANCES))))))))
      (vss_one (vs_raise (ps_raise rfl (takes_of rfl rfl rfl rfl) (pmk_own PySem.F.excBase_ValueError T.r_NoBalance T.g_NoBalance T.x_NoBalance.kp (raises_own T.x_NoBalance.bs T.x_NoBalance.ty) (by rfl))) rfl))
      vss_nil)
    (vss_one (vs_if (vt_w (vw_or (vt_not (vt_val (ve_frz (vo_b1 (c_all rfl) (by rfl) T.b_all (by decide +kernel) (vb_of (ve_frz (vo_lc (rel := Sh) (own := [("one", 1)]) (t := vYes) rfl sc_need_balances.nd (vi_any (ve_var 0)) (blkOk_by (own := [("one", 1)]) (N := N_need_balances) (sc := defScope s_need_balances) (by decide +kernel)) (nfxs (fx := []) rfl rfl) (fun _ _ _ _ _ _ => (vg_name (vs := [1]) (i := 1) sc_need_balances.nd rfl (Or.inl rfl) (nfx (fx := []) rfl rfl) (by decide))) (fun _ _ _ _ _ _ => vts_nil) (fun _ _ _ _ _ _ => (ve_call (ok_is_number T) (hr.mono (by decide)) (by rfl) T.g_is_number T.F_is_number.kp T.B_is_number passF runF_len (va_cons (ve_var 1) va_nil)))))))))) (vw_or1 (vt_cmp (o_ne hr.units) (ve_frz (vo_b1 (c_sumA rfl) (by rfl) T.b_sum (by decide +kernel) (vb_of (ve_var 0)))) (vb_of (ve_frz vo_int)) (nomark _)))))
      (vss_one (vs_raise (ps_raise rfl (takes_of rfl rfl rfl rfl) (pmk_own PySem.F.excBase_ValueError T.r_NoBalance T.g_NoBalance T.x_NoBalance.kp (raises_own T.x_NoBalance.bs T.x_NoBalance.ty) (by rfl))) rfl))
      vss_nil)))
def b_is_payment : M Fl := (vSeq (vIf (vOrT (vNotT (vT (vIs PyData.isTuple (vVar 1)))) (vOrT (vT (vOp dNe (vC1 dLen (vVar 1)) (ret (.int 3)))) (vNotT (vT (vC1 dAll (vLc (vItA (vVar 1)) [5] (vSetSh 5) vYes (vCall m_is_number (vCons (vVar 5) vNil))))))))
      (vRet (ret (.bool false)))
      (ret .nx))
    (vSeq (vAsg (vVar 1) (vGTup 3 (vGCons (vSetSh 2) (vGCons (vSetSh 3) (vGCons (vSetSh 4) vGNil)))))
    (vRet (vAnd (vChain dLe dLt (ret (.int 0)) (vVar 2) (vVar 0)) (vAnd (vChain dLe dLt (ret (.int 0)) (vVar 3) (vVar 0)) (vAnd (vOp dNe (vVar 2) (vVar 3)) (vOp dGt (vVar 4) (ret (.int 0)))))))))
def m_is_payment : List D → Option Rf := runF 2 [] 6 b_is_payment
theorem ok_is_payment (T : Txt K mg A)  : FnOk P w K mg base (L2.CX P w) 2 A.is_payment A.fd_is_payment P_is_payment (spV ⟨P, w, K⟩ (clA A Tb) 2 [] false m_is_payment) :=
  def_okX (k := 1) T.F_is_payment sc_is_payment rfl (by decide) rfl fun cdv A' outer s H vs E hr =>
    (vss_cons (vs_if (vt_w (vw_or (vt_not (vt_val (ve_frz (vo_is (x := "") c_is_tuple (by rfl) T.b_isinstance (by rfl) T.b_tuple (by decide +kernel) (vb_of (ve_var 1)))))) (vw_or (vt_cmp (o_ne hr.units) (ve_frz (vo_b1 c_len (by rfl) T.b_len (by decide +kernel) (vb_of (ve_var 1)))) (vb_of (ve_frz vo_int)) (nomark _)) (vw_or1 (vt_not (vt_val (ve_frz (vo_b1 (c_all rfl) (by rfl) T.b_all (by decide +kernel) (vb_of (ve_frz (vo_lc (rel := Sh) (own := [("one", 5)]) (t := vYes) rfl sc_is_payment.nd (vi_any (ve_var 1)) (blkOk_by (own := [("one", 5)]) (N := N_is_payment) (sc := defScope s_is_payment) (by decide +kernel)) (nfxs (fx := []) rfl rfl) (fun _ _ _ _ _ _ => (vg_name (vs := [5]) (i := 5) sc_is_payment.nd rfl (Or.inl rfl) (nfx (fx := []) rfl rfl) (by decide))) (fun _ _ _ _ _ _ => vts_nil) (fun _ _ _ _ _ _ => (ve_call (ok_is_number T) (hr.mono (by decide)) (by rfl) T.g_is_number T.F_is_number.kp T.B_is_number passF runF_len (va_cons (ve_var 5) va_nil))))))))))))))
      (vss_one (vs_ret (ve_frz vo_bl)))
      vss_nil)
    (vss_cons (vs_asg (ve_var 1) (vg_weak (vg_tup (n := 3) rfl (vgs_cons (vg_name (vs := [2, 3, 4]) (i := 2) sc_is_payment.nd rfl (Or.inl rfl) (nfx (fx := []) rfl rfl) (by decide)) (vgs_cons (vg_name (vs := [2, 3, 4]) (i := 3) sc_is_payment.nd rfl (Or.inl rfl) (nfx (fx := []) rfl rfl) (by decide)) (vgs_cons (vg_name (vs := [2, 3, 4]) (i := 4) sc_is_payment.nd rfl (Or.inl rfl) (nfx (fx := []) rfl rfl) (by decide)) vgs_nil))))))
    (vss_one (vs_ret (ve_and (ve_frz (vo_chain (o_le hr.units) (o_lt hr.units) (ve_frz vo_int) (ve_var 2) (vb_of (ve_var 0)))) (ve_and (ve_frz (vo_chain (o_le hr.units) (o_lt hr.units) (ve_frz vo_int) (ve_var 3) (vb_of (ve_var 0)))) (ve_and (ve_frz (vo_cmp (o_ne hr.units) (ve_var 2) (vb_of (ve_var 3)) (nomark _))) (ve_one (ve_frz (vo_cmp (o_gt hr.units) (ve_var 4) (vb_of (ve_frz vo_int)) (nomark _)))))))))))
def b_settles : M Fl := (vSeq (vDrop (vCall m_need_balances (vCons (vVar 0) vNil)))
    (vSeq (vIf (vOrT (vNotT (vT (vIs PyData.isList (vVar 1)))) (vT (vOp dGt (vC1 dLen (vVar 1)) (ret (.int 16)))))
      (vRet (ret (.bool false)))
      (ret .nx))
    (vSeq (vIf (vNotT (vT (vC1 dAll (vLc (vItA (vVar 1)) [6] (vSetSh 6) vYes (vCall m_is_payment (vCons (vC1 dLen (vVar 0)) (vCons (vVar 6) vNil)))))))
      (vRet (ret (.bool false)))
      (ret .nx))
    (vSeq (vSetO 2 (vC1 dList (vVar 0)))
    (vSeqL (vFor (vItA (vVar 1)) (vGTup 3 (vGCons (vSetSh 3) (vGCons (vSetSh 4) (vGCons (vSetSh 5) vGNil))))
      (vSeq (vPut 2 (vVar 3) (vOp dAdd (vOpN dIx 2 (vVar 3)) (vVar 5)))
      (vPut 2 (vVar 4) (vOp dSub (vOpN dIx 2 (vVar 4)) (vVar 5)))))
    (vRet (vC1 dAll (vLcN 2 [6] (vSetSh 6) vYes (vOp dEq (vVar 6) (ret (.int 0)))))))))))
def m_settles : List D → Option Rf := runF 2 [] 7 b_settles
theorem ok_settles (T : Txt K mg A)  : FnOk P w K mg base (L2.CX P w) 3 A.settles A.fd_settles P_settles (spV ⟨P, w, K⟩ (clA A Tb) 2 [] false m_settles) :=
  def_okX (k := 2) T.F_settles sc_settles rfl (by decide) rfl fun cdv A' outer s H vs E hr =>
    (vss_cons (vs_exprE (ve_call (ok_need_balances T) (hr.mono (by decide)) (by rfl) T.g_need_balances T.F_need_balances.kp T.B_need_balances (passes_call (takes_of rfl rfl rfl rfl) (fun _ _ _ _ h => h)) runF_len (va_cons (ve_var 0) va_nil)))
    (vss_cons (vs_if (vt_w (vw_or (vt_not (vt_val (ve_frz (vo_is (x := "") c_is_list (by rfl) T.b_isinstance (by rfl) T.b_list (by decide +kernel) (vb_of (ve_var 1)))))) (vw_or1 (vt_cmp (o_gt hr.units) (ve_frz (vo_b1 c_len (by rfl) T.b_len (by decide +kernel) (vb_of (ve_var 1)))) (vb_of (ve_frz (vo_glI (by rfl) T.c_MOST_PAYMENTS))) (nomark _)))))
      (vss_one (vs_ret (ve_frz vo_bl)))
      vss_nil)
    (vss_cons (vs_if (vt_not (vt_val (ve_frz (vo_b1 (c_all rfl) (by rfl) T.b_all (by decide +kernel) (vb_of (ve_frz (vo_lc (rel := Sh) (own := [("one", 6)]) (t := vYes) rfl sc_settles.nd (vi_any (ve_var 1)) (blkOk_by (own := [("one", 6)]) (N := N_settles) (sc := defScope s_settles) (by decide +kernel)) (nfxs (fx := []) rfl rfl) (fun _ _ _ _ _ _ => (vg_name (vs := [6]) (i := 6) sc_settles.nd rfl (Or.inl rfl) (nfx (fx := []) rfl rfl) (by decide))) (fun _ _ _ _ _ _ => vts_nil) (fun _ _ _ _ _ _ => (ve_call (ok_is_payment T) (hr.mono (by decide)) (by rfl) T.g_is_payment T.F_is_payment.kp T.B_is_payment passF runF_len (va_cons (ve_frz (vo_b1 c_len (by rfl) T.b_len (by decide +kernel) (vb_of (ve_var 0)))) (va_cons (ve_var 6) va_nil)))))))))))
      (vss_one (vs_ret (ve_frz vo_bl)))
      vss_nil)
    (vss_cons (vs_setO (i := 2) sc_settles.nd rfl (Or.inl rfl) (vo_t1 c_list (by rfl) T.b_list (by decide +kernel) (vb_of (ve_var 0))) (nfx (fx := []) rfl rfl))
    (vss_cons (vs_for (rel := Sh) (passes_of rfl) rfl (vi_any (ve_var 1)) (vg_weak (vg_tup (n := 3) rfl (vgs_cons (vg_name (vs := [3, 4, 5]) (i := 3) sc_settles.nd rfl (Or.inl rfl) (nfx (fx := []) rfl rfl) (by decide)) (vgs_cons (vg_name (vs := [3, 4, 5]) (i := 4) sc_settles.nd rfl (Or.inl rfl) (nfx (fx := []) rfl rfl) (by decide)) (vgs_cons (vg_name (vs := [3, 4, 5]) (i := 5) sc_settles.nd rfl (Or.inl rfl) (nfx (fx := []) rfl rfl) (by decide)) vgs_nil)))))
      (vss_cons (vs_put 2 hr.units (ve_frz (vo_op o_add (ve_ixN 2 hr.units (vb_of (ve_var 3)) (fun _ _ => rfl)) (vb_of (ve_var 5)))) (vb_of (ve_var 3)))
      (vss_one (vs_put 2 hr.units (ve_frz (vo_op o_sub (ve_ixN 2 hr.units (vb_of (ve_var 4)) (fun _ _ => rfl)) (vb_of (ve_var 5)))) (vb_of (ve_var 4))))))
    (vss_one (vs_ret (ve_frz (vo_b1 (c_all rfl) (by rfl) T.b_all (by decide +kernel) (vb_of (ve_frz (vo_lcN (i := 2) (own := [("one", 6)]) (t := vYes) rfl sc_settles.nd (blkOk_by (own := [("one", 6)]) (N := N_settles) (sc := defScope s_settles) (by decide +kernel)) (nfxs (fx := []) rfl rfl) (nfx (fx := []) rfl rfl) (fun _ _ _ _ _ _ => (vg_name (vs := [6]) (i := 6) sc_settles.nd rfl (Or.inl rfl) (nfx (fx := []) rfl rfl) (by decide))) (fun _ _ _ _ _ _ => vts_nil) (fun _ _ _ _ _ _ => (ve_frz (vo_cmp (o_eq hr.units) (ve_var 6) (vb_of (ve_frz vo_int)) (nomark _))))))))))))))))
def b_some_of : M Fl := (vSeq (vSetO 1 (vLst (vCons (vTup vNil) vNil)))
    (vSeqL (vFor (vItA (vVar 0)) (vSetSh 2)
      (vDrop (vMW "list" dExtend 1 (vCons (vLcN 1 [3] (vSetSh 3) vYes (vOp dAdd (vVar 3) (vTup (vCons (vVar 2) vNil)))) vNil))))
    (vRet (vVar 1))))
def m_some_of : List D → Option Rf := runF 1 [] 4 b_some_of
theorem ok_some_of (T : Txt K mg A)  : FnOk P w K mg base (L2.CX P w) 1 A.some_of A.fd_some_of P_some_of (spV ⟨P, w, K⟩ (clA A Tb) 1 [] false m_some_of) :=
  def_okX (k := 0) T.F_some_of sc_some_of rfl (by decide) rfl fun cdv A' outer s H vs E hr =>
    (vss_cons (vs_setO (i := 1) sc_some_of.nd rfl (Or.inl rfl) (vo_lst (va_cons (ve_frz (vo_tup va_nil)) va_nil)) (nfx (fx := []) rfl rfl))
    (vss_cons (vs_for (rel := Sh) (passes_of rfl) rfl (vi_any (ve_var 0)) (vg_name (vs := [2]) (i := 2) sc_some_of.nd rfl (Or.inr rfl) (nfx (fx := []) rfl rfl) (by decide))
      (vss_one (vs_exprE (ve_mw 1 PySem.F.plainAttrs_list PySem.F.slot_list_extend PySem.F.type_list_extend m_extend (va_cons (ve_frz (vo_lcN (i := 1) (own := [("some", 3)]) (t := vYes) rfl sc_some_of.nd (blkOk_by (own := [("some", 3)]) (N := N_some_of) (sc := defScope s_some_of) (by decide +kernel)) (nfxs (fx := []) rfl rfl) (nfx (fx := []) rfl rfl) (fun _ _ _ _ _ _ => (vg_name (vs := [3]) (i := 3) sc_some_of.nd rfl (Or.inl rfl) (nfx (fx := []) rfl rfl) (by decide))) (fun _ _ _ _ _ _ => vts_nil) (fun _ _ _ _ _ _ => (ve_frz (vo_op o_add (ve_var 3) (vb_of (ve_frz (vo_tup (va_cons (ve_var 2) va_nil))))))))) va_nil)))))
    (vss_one (vs_ret (ve_var 1)))))
def b_parted (self : List D → Option Rf) : M Fl := (vSeq (vIf (vT (vOp dEq (vVar 1) (vTup vNil)))
      (vRet (vLst vNil))
      (ret .nx))
    (vSeq (vSetO 2 (vLst vNil))
    (vSeqL (vFor (vItA (vCall m_some_of (vCons (vSl (vVar 1) (vPart (ret (.int 1))) vNoPart) vNil))) (vSetSh 3)
      (vSeq (vSetO 4 (vOp dAdd (vSl (vVar 1) vNoPart (vPart (ret (.int 1)))) (vVar 3)))
      (vIf (vT (vOp dEq (vC1 dSumA (vLc (vItA (vVar 4)) [6] (vSetSh 6) vYes (vOp dIx (vVar 0) (vVar 6)))) (ret (.int 0))))
        (vSeq (vSetO 5 (vOp dAdd (vLst (vCons (vVar 4) vNil)) (vCall self (vCons (vVar 0) (vCons (vC1 dTuple (vLc (vItA (vVar 1)) [6] (vSetSh 6) (vT (vOp dNotIn (vVar 6) (vVar 4))) (vVar 6))) vNil)))))
        (vIf (vT (vOp dGt (vC1 dLen (vVar 5)) (vC1 dLen (vVar 2))))
          (vSet 2 (vVar 5))
          (ret .nx)))
        (ret .nx))))
    (vRet (vVar 2)))))
def mm_parted : Nat → List D → Option Rf
  | 0 => runF 2 [] 7 (fun _ => none)
  | i + 1 => runF 2 [] 7 (b_parted (mm_parted i))
theorem mm_parted_len : ∀ i ds r, mm_parted i ds = some r → ds.length = 2
  | 0 => runF_len
  | _ + 1 => runF_len
def m_parted : List D → Option Rf := mm_parted 9
theorem okr_parted (T : Txt K mg A) : ∀ i : Nat, FnOk P w K mg base (L2.CX P w) (2 + i) A.parted A.fd_parted P_parted (spV ⟨P, w, K⟩ (clA A Tb) 2 [] false (mm_parted i))
  | 0 => def_okX (k := 1) T.F_parted sc_parted rfl (by decide) rfl fun cdv A' outer s H vs E hr => vss_never
  | i + 1 =>
    have ih := okr_parted T i
    def_okX (k := 2 + i) T.F_parted sc_parted rfl (by decide) rfl fun cdv A' outer s H vs E hr =>
    (vss_cons (vs_if (vt_cmp (o_eq hr.units) (ve_var 1) (vb_of (ve_frz (vo_tup va_nil))) (nomark _))
      (vss_one (vs_ret (ve_frz (vo_lst va_nil))))
      vss_nil)
    (vss_cons (vs_setO (i := 2) sc_parted.nd rfl (Or.inl rfl) (vo_lst va_nil) (nfx (fx := []) rfl rfl))
    (vss_cons (vs_for (rel := Sh) (passes_of rfl) rfl (vi_any (ve_call (ok_some_of T) (hr.mono (by omega)) (by rfl) T.g_some_of T.F_some_of.kp T.B_some_of (passes_call (takes_of rfl rfl rfl rfl) (fun _ _ _ _ h => h)) runF_len (va_cons (ve_frz (vo_sl (ve_var 1) (vp_some (ve_frz vo_int)) vp_none)) va_nil))) (vg_name (vs := [3]) (i := 3) sc_parted.nd rfl (Or.inl rfl) (nfx (fx := []) rfl rfl) (by decide))
      (vss_cons (vs_setO (i := 4) sc_parted.nd rfl (Or.inr rfl) (vo_op o_add (ve_frz (vo_sl (ve_var 1) vp_none (vp_some (ve_frz vo_int)))) (vb_of (ve_var 3))) (nfx (fx := []) rfl rfl))
      (vss_one (vs_if (vt_cmp (o_eq hr.units) (ve_frz (vo_b1 (c_sumA rfl) (by rfl) T.b_sum (by decide +kernel) (vb_of (ve_frz (vo_lc (rel := Sh) (own := [("place", 6)]) (t := vYes) rfl sc_parted.nd (vi_any (ve_var 4)) (blkOk_by (own := [("place", 6)]) (N := N_parted) (sc := defScope s_parted) (by decide +kernel)) (nfxs (fx := []) rfl rfl) (fun _ _ _ _ _ _ => (vg_name (vs := [6]) (i := 6) sc_parted.nd rfl (Or.inl rfl) (nfx (fx := []) rfl rfl) (by decide))) (fun _ _ _ _ _ _ => vts_nil) (fun _ _ _ _ _ _ => (ve_ix hr.units (ve_var 0) (vb_of (ve_var 6)) (fun _ _ => rfl)))))))) (vb_of (ve_frz vo_int)) (nomark _))
        (vss_cons (vs_setO (i := 5) sc_parted.nd rfl (Or.inl rfl) (vo_op o_add (ve_frz (vo_lst (va_cons (ve_var 4) va_nil))) (vb_of (ve_call ih (hr.mono (by omega)) (by rfl) T.g_parted T.F_parted.kp T.B_parted (passes_call (takes_of rfl rfl rfl rfl) (fun _ _ _ _ h => h)) (mm_parted_len _) (va_cons (ve_var 0) (va_cons (ve_frz (vo_t1 c_tuple (by rfl) T.b_tuple (by decide +kernel) (vb_of (ve_frz (vo_lc (rel := Sh) (own := [("place", 6)]) (t := (vT (vOp dNotIn (vVar 6) (vVar 4)))) rfl sc_parted.nd (vi_any (ve_var 1)) (blkOk_by (own := [("place", 6)]) (N := N_parted) (sc := defScope s_parted) (by decide +kernel)) (nfxs (fx := []) rfl rfl) (fun _ _ _ _ _ _ => (vg_name (vs := [6]) (i := 6) sc_parted.nd rfl (Or.inl rfl) (nfx (fx := []) rfl rfl) (by decide))) (fun _ _ _ _ _ _ => (vts_one (vt_cmp (o_notin hr.units) (ve_var 6) (vb_of (ve_var 4)) (by rfl)))) (fun _ _ _ _ _ _ => (ve_var 6))))))) va_nil))))) (nfx (fx := []) rfl rfl))
        (vss_one (vs_if (vt_cmp (o_gt hr.units) (ve_frz (vo_b1 c_len (by rfl) T.b_len (by decide +kernel) (vb_of (ve_var 5)))) (vb_of (ve_frz (vo_b1 c_len (by rfl) T.b_len (by decide +kernel) (vb_of (ve_var 2))))) (nomark _))
          (vss_one (vs_set (i := 2) sc_parted.nd rfl (Or.inl rfl) (ve_var 5) (nfx (fx := []) rfl rfl)))
          vss_nil)))
        vss_nil))))
    (vss_one (vs_ret (ve_var 2))))))
theorem ok_parted (T : Txt K mg A) : FnOk P w K mg base (L2.CX P w) (11) A.parted A.fd_parted P_parted (spV ⟨P, w, K⟩ (clA A Tb) 2 [] false m_parted) := okr_parted T 9
def b_groups : M Fl := (vSeq (vDrop (vCall m_need_balances (vCons (vVar 0) vNil)))
    (vRet (vCall m_parted (vCons (vVar 0) (vCons (vC1 dTuple (vLc (vRng1 (vC1 dLen (vVar 0))) [1] (vSetSh 1) (vT (vOp dNe (vOp dIx (vVar 0) (vVar 1)) (ret (.int 0)))) (vVar 1))) vNil)))))
def m_groups : List D → Option Rf := runF 1 [] 2 b_groups
theorem ok_groups (T : Txt K mg A)  : FnOk P w K mg base (L2.CX P w) 12 A.groups A.fd_groups P_groups (spV ⟨P, w, K⟩ (clA A Tb) 1 [] false m_groups) :=
  def_okX (k := 11) T.F_groups sc_groups rfl (by decide) rfl fun cdv A' outer s H vs E hr =>
    (vss_cons (vs_exprE (ve_call (ok_need_balances T) (hr.mono (by decide)) (by rfl) T.g_need_balances T.F_need_balances.kp T.B_need_balances (passes_call (takes_of rfl rfl rfl rfl) (fun _ _ _ _ h => h)) runF_len (va_cons (ve_var 0) va_nil)))
    (vss_one (vs_ret (ve_call (ok_parted T) (hr.mono (by decide)) (by rfl) T.g_parted T.F_parted.kp T.B_parted (passes_call (takes_of rfl rfl rfl rfl) (fun _ _ _ _ h => h)) (mm_parted_len _) (va_cons (ve_var 0) (va_cons (ve_frz (vo_t1 c_tuple (by rfl) T.b_tuple (by decide +kernel) (vb_of (ve_frz (vo_lc (rel := Sh) (own := [("place", 1)]) (t := (vT (vOp dNe (vOp dIx (vVar 0) (vVar 1)) (ret (.int 0))))) rfl sc_groups.nd (vi_rng1 (by rfl) T.b_range (ve_frz (vo_b1 c_len (by rfl) T.b_len (by decide +kernel) (vb_of (ve_var 0))))) (blkOk_by (own := [("place", 1)]) (N := N_groups) (sc := defScope s_groups) (by decide +kernel)) (nfxs (fx := []) rfl rfl) (fun _ _ _ _ _ _ => (vg_name (vs := [1]) (i := 1) sc_groups.nd rfl (Or.inl rfl) (nfx (fx := []) rfl rfl) (by decide))) (fun _ _ _ _ _ _ => (vts_one (vt_cmp (o_ne hr.units) (ve_ix hr.units (ve_var 0) (vb_of (ve_var 1)) (fun _ _ => rfl)) (vb_of (ve_frz vo_int)) (nomark _)))) (fun _ _ _ _ _ _ => (ve_var 1))))))) va_nil))))))
def b_fewest_payments : M Fl := (vRet (vC1 dSumA (vLc (vItA (vCall m_groups (vCons (vVar 0) vNil))) [1] (vSetSh 1) vYes (vOp dSub (vC1 dLen (vVar 1)) (ret (.int 1))))))
def m_fewest_payments : List D → Option Rf := runF 1 [] 2 b_fewest_payments
theorem ok_fewest_payments (T : Txt K mg A)  : FnOk P w K mg base (L2.CX P w) 13 A.fewest_payments A.fd_fewest_payments P_fewest_payments (spV ⟨P, w, K⟩ (clA A Tb) 1 [] false m_fewest_payments) :=
  def_okX (k := 12) T.F_fewest_payments sc_fewest_payments rfl (by decide) rfl fun cdv A' outer s H vs E hr =>
    (vss_one (vs_ret (ve_frz (vo_b1 (c_sumA rfl) (by rfl) T.b_sum (by decide +kernel) (vb_of (ve_frz (vo_lc (rel := Sh) (own := [("group", 1)]) (t := vYes) rfl sc_fewest_payments.nd (vi_any (ve_call (ok_groups T) (hr.mono (by decide)) (by rfl) T.g_groups T.F_groups.kp T.B_groups (passes_call (takes_of rfl rfl rfl rfl) (fun _ _ _ _ h => h)) runF_len (va_cons (ve_var 0) va_nil))) (blkOk_by (own := [("group", 1)]) (N := N_fewest_payments) (sc := defScope s_fewest_payments) (by decide +kernel)) (nfxs (fx := []) rfl rfl) (fun _ _ _ _ _ _ => (vg_name (vs := [1]) (i := 1) sc_fewest_payments.nd rfl (Or.inl rfl) (nfx (fx := []) rfl rfl) (by decide))) (fun _ _ _ _ _ _ => vts_nil) (fun _ _ _ _ _ _ => (ve_frz (vo_op o_sub (ve_frz (vo_b1 c_len (by rfl) T.b_len (by decide +kernel) (vb_of (ve_var 1)))) (vb_of (ve_frz vo_int))))))))))))
def b_payments_in : M Fl := (vSeq (vSetO 2 (vC1 dDictA (vLc (vItA (vVar 1)) [9] (vSetSh 9) vYes (vTup (vCons (vVar 9) (vCons (vOp dIx (vVar 0) (vVar 9)) vNil))))))
    (vSeq (vSetO 3 (vLc (vItA (vVar 1)) [9] (vSetSh 9) (vT (vOp dLt (vOpN dIx 2 (vVar 9)) (ret (.int 0)))) (vVar 9)))
    (vSeq (vSetO 4 (vLc (vItA (vVar 1)) [9] (vSetSh 9) (vT (vOp dGt (vOpN dIx 2 (vVar 9)) (ret (.int 0)))) (vVar 9)))
    (vSeq (vSetO 5 (vLst vNil))
    (vSeqL (vWhile (vT (vOp dNe (vVar 3) (vLst vNil)))
      (vSeq (vParE 6 7 (vOp dIx (vVar 3) (ret (.int 0))) (vOp dIx (vVar 4) (ret (.int 0))))
      (vSeq (vSetO 8 (vCN dMin2 (vCons (vOp dSub (ret (.int 0)) (vOpN dIx 2 (vVar 6))) (vCons (vOpN dIx 2 (vVar 7)) vNil))))
      (vSeq (vDrop (vMW "list" dAppend 5 (vCons (vTup (vCons (vVar 6) (vCons (vVar 7) (vCons (vVar 8) vNil)))) vNil)))
      (vSeq (vPut 2 (vVar 6) (vOp dAdd (vOpN dIx 2 (vVar 6)) (vVar 8)))
      (vSeq (vPut 2 (vVar 7) (vOp dSub (vOpN dIx 2 (vVar 7)) (vVar 8)))
      (vSeq (vIf (vT (vOp dEq (vOpN dIx 2 (vVar 6)) (ret (.int 0))))
        (vSetO 3 (vSl (vVar 3) (vPart (ret (.int 1))) vNoPart))
        (ret .nx))
      (vIf (vT (vOp dEq (vOpN dIx 2 (vVar 7)) (ret (.int 0))))
        (vSetO 4 (vSl (vVar 4) (vPart (ret (.int 1))) vNoPart))
        (ret .nx)))))))))
    (vRet (vVar 5)))))))
def m_payments_in : List D → Option Rf := runF 2 [] 10 b_payments_in
theorem ok_payments_in (T : Txt K mg A)  : FnOk P w K mg base (L2.CX P w) 1 A.payments_in A.fd_payments_in P_payments_in (spV ⟨P, w, K⟩ (clA A Tb) 2 [] false m_payments_in) :=
  def_okX (k := 0) T.F_payments_in sc_payments_in rfl (by decide) rfl fun cdv A' outer s H vs E hr =>
    (vss_cons (vs_setO (i := 2) sc_payments_in.nd rfl (Or.inr rfl) (vo_t1 (c_dictA rfl hr.units) (by rfl) T.b_dict (by decide +kernel) (vb_of (ve_frz (vo_lc (rel := Sh) (own := [("place", 9)]) (t := vYes) rfl sc_payments_in.nd (vi_any (ve_var 1)) (blkOk_by (own := [("place", 9)]) (N := N_payments_in) (sc := defScope s_payments_in) (by decide +kernel)) (nfxs (fx := []) rfl rfl) (fun _ _ _ _ _ _ => (vg_name (vs := [9]) (i := 9) sc_payments_in.nd rfl (Or.inl rfl) (nfx (fx := []) rfl rfl) (by decide))) (fun _ _ _ _ _ _ => vts_nil) (fun _ _ _ _ _ _ => (ve_frz (vo_tup (va_cons (ve_var 9) (va_cons (ve_ix hr.units (ve_var 0) (vb_of (ve_var 9)) (fun _ _ => rfl)) va_nil))))))))) (nfx (fx := []) rfl rfl))
    (vss_cons (vs_setLc (i := 3) (rel := Sh) (own := [("place", 9)]) (t := (vT (vOp dLt (vOpN dIx 2 (vVar 9)) (ret (.int 0))))) rfl sc_payments_in.nd rfl rfl (sw_true rfl rfl rfl (by decide +kernel)) (vi_any (ve_var 1)) (blkOk_by (own := [("place", 9)]) (N := N_payments_in) (sc := defScope s_payments_in) (by decide +kernel)) (nfxs (fx := []) rfl rfl) (nfx (fx := []) rfl rfl) (fun _ _ _ _ _ _ => (vg_name (vs := [9]) (i := 9) sc_payments_in.nd rfl (Or.inl rfl) (nfx (fx := []) rfl rfl) (by decide))) (fun _ _ _ _ _ _ => (vts_one (vt_cmp (o_lt hr.units) (ve_ixN 2 hr.units (vb_of (ve_var 9)) (fun _ _ => rfl)) (vb_of (ve_frz vo_int)) (nomark _)))) (fun _ _ _ _ _ _ => (ve_var 9)))
    (vss_cons (vs_setLc (i := 4) (rel := Sh) (own := [("place", 9)]) (t := (vT (vOp dGt (vOpN dIx 2 (vVar 9)) (ret (.int 0))))) rfl sc_payments_in.nd rfl rfl (sw_true rfl rfl rfl (by decide +kernel)) (vi_any (ve_var 1)) (blkOk_by (own := [("place", 9)]) (N := N_payments_in) (sc := defScope s_payments_in) (by decide +kernel)) (nfxs (fx := []) rfl rfl) (nfx (fx := []) rfl rfl) (fun _ _ _ _ _ _ => (vg_name (vs := [9]) (i := 9) sc_payments_in.nd rfl (Or.inl rfl) (nfx (fx := []) rfl rfl) (by decide))) (fun _ _ _ _ _ _ => (vts_one (vt_cmp (o_gt hr.units) (ve_ixN 2 hr.units (vb_of (ve_var 9)) (fun _ _ => rfl)) (vb_of (ve_frz vo_int)) (nomark _)))) (fun _ _ _ _ _ _ => (ve_var 9)))
    (vss_cons (vs_setO (i := 5) sc_payments_in.nd rfl (Or.inl rfl) (vo_lst va_nil) (nfx (fx := []) rfl rfl))
    (vss_cons (vs_while (passes_of rfl) (vt_cmp (o_ne hr.units) (ve_var 3) (vb_of (ve_frz (vo_lst va_nil))) (nomark _))
      (vss_cons (vs_parE (i := 6) (j := 7) rfl sc_payments_in.nd rfl rfl (by decide) rfl rfl (ve_ix hr.units (ve_var 3) (vb_of (ve_frz vo_int)) (fun _ _ => rfl)) (ve_ix hr.units (ve_var 4) (vb_of (ve_frz vo_int)) (fun _ _ => rfl)) (nfx (fx := []) rfl rfl) (nfx (fx := []) rfl rfl) (by rfl))
      (vss_cons (vs_setO (i := 8) sc_payments_in.nd rfl (Or.inl rfl) (vo_bN (c_min2 rfl) (by rfl) T.b_min (by decide +kernel) (va_cons (ve_frz (vo_op o_sub (ve_frz vo_int) (vb_of (ve_ixN 2 hr.units (vb_of (ve_var 6)) (fun _ _ => rfl))))) (va_cons (ve_ixN 2 hr.units (vb_of (ve_var 7)) (fun _ _ => rfl)) va_nil))) (nfx (fx := []) rfl rfl))
      (vss_cons (vs_exprE (ve_mw 5 PySem.F.plainAttrs_list PySem.F.slot_list_append PySem.F.type_list_append m_append (va_cons (ve_frz (vo_tup (va_cons (ve_var 6) (va_cons (ve_var 7) (va_cons (ve_var 8) va_nil))))) va_nil)))
      (vss_cons (vs_put 2 hr.units (ve_frz (vo_op o_add (ve_ixN 2 hr.units (vb_of (ve_var 6)) (fun _ _ => rfl)) (vb_of (ve_var 8)))) (vb_of (ve_var 6)))
      (vss_cons (vs_put 2 hr.units (ve_frz (vo_op o_sub (ve_ixN 2 hr.units (vb_of (ve_var 7)) (fun _ _ => rfl)) (vb_of (ve_var 8)))) (vb_of (ve_var 7)))
      (vss_cons (vs_if (vt_cmp (o_eq hr.units) (ve_ixN 2 hr.units (vb_of (ve_var 6)) (fun _ _ => rfl)) (vb_of (ve_frz vo_int)) (nomark _))
        (vss_one (vs_setO (i := 3) sc_payments_in.nd rfl (Or.inl rfl) (vo_sl (ve_var 3) (vp_some (ve_frz vo_int)) vp_none) (nfx (fx := []) rfl rfl)))
        vss_nil)
      (vss_one (vs_if (vt_cmp (o_eq hr.units) (ve_ixN 2 hr.units (vb_of (ve_var 7)) (fun _ _ => rfl)) (vb_of (ve_frz vo_int)) (nomark _))
        (vss_one (vs_setO (i := 4) sc_payments_in.nd rfl (Or.inl rfl) (vo_sl (ve_var 4) (vp_some (ve_frz vo_int)) vp_none) (nfx (fx := []) rfl rfl)))
        vss_nil)))))))))
    (vss_one (vs_ret (ve_var 5))))))))
def b_payments : M Fl := (vSeq (vSetO 1 (vLst vNil))
    (vSeqL (vFor (vItA (vCall m_groups (vCons (vVar 0) vNil))) (vSetSh 2)
      (vDrop (vMW "list" dExtend 1 (vCons (vCall m_payments_in (vCons (vVar 0) (vCons (vVar 2) vNil))) vNil))))
    (vRet (vVar 1))))
def m_payments : List D → Option Rf := runF 1 [] 3 b_payments
theorem ok_payments (T : Txt K mg A)  : FnOk P w K mg base (L2.CX P w) 13 A.payments A.fd_payments P_payments (spV ⟨P, w, K⟩ (clA A Tb) 1 [] false m_payments) :=
  def_okX (k := 12) T.F_payments sc_payments rfl (by decide) rfl fun cdv A' outer s H vs E hr =>
    (vss_cons (vs_setO (i := 1) sc_payments.nd rfl (Or.inl rfl) (vo_lst va_nil) (nfx (fx := []) rfl rfl))
    (vss_cons (vs_for (rel := Sh) (passes_of rfl) rfl (vi_any (ve_call (ok_groups T) (hr.mono (by decide)) (by rfl) T.g_groups T.F_groups.kp T.B_groups (passes_call (takes_of rfl rfl rfl rfl) (fun _ _ _ _ h => h)) runF_len (va_cons (ve_var 0) va_nil))) (vg_name (vs := [2]) (i := 2) sc_payments.nd rfl (Or.inl rfl) (nfx (fx := []) rfl rfl) (by decide))
      (vss_one (vs_exprE (ve_mw 1 PySem.F.plainAttrs_list PySem.F.slot_list_extend PySem.F.type_list_extend m_extend (va_cons (ve_call (ok_payments_in T) (hr.mono (by decide)) (by rfl) T.g_payments_in T.F_payments_in.kp T.B_payments_in (passes_call (takes_of rfl rfl rfl rfl) (fun _ _ _ _ h => h)) runF_len (va_cons (ve_var 0) (va_cons (ve_var 2) va_nil))) va_nil)))))
    (vss_one (vs_ret (ve_var 1)))))
def b__law_cell : M Fl := (vSeq (vIf (vT (vOp dLt (vVar 1) (vC1 dLen (vVar 0))))
      (vRet (vOp dIx (vVar 0) (vVar 1)))
      (ret .nx))
    (vRet (ret (.int 0))))
def m__law_cell : List D → Option Rf := runF 2 [] 2 b__law_cell
theorem ok__law_cell (T : Txt K mg A)  : FnOk P w K mg base (L2.CX P w) 1 A._law_cell A.fd__law_cell P__law_cell (spV ⟨P, w, K⟩ (clA A Tb) 2 [] false m__law_cell) :=
  def_okX (k := 0) T.F__law_cell sc__law_cell rfl (by decide) rfl fun cdv A' outer s H vs E hr =>
    (vss_cons (vs_if (vt_cmp (o_lt hr.units) (ve_var 1) (vb_of (ve_frz (vo_b1 c_len (by rfl) T.b_len (by decide +kernel) (vb_of (ve_var 0))))) (nomark _))
      (vss_one (vs_ret (ve_ix hr.units (ve_var 0) (vb_of (ve_var 1)) (fun _ _ => rfl))))
      vss_nil)
    (vss_one (vs_ret (ve_frz vo_int))))
def b__law_mix : M Fl := (vSeq (vSetO 2 (vLst (vCons (ret (.int 48271)) (vCons (ret (.int 69621)) (vCons (ret (.int 16807)) (vCons (ret (.int 39373)) (vCons (ret (.int 30269)) (vCons (ret (.int 40014)) (vCons (ret (.int 40692)) (vCons (ret (.int 50021)) (vCons (ret (.int 61687)) (vCons (ret (.int 71993)) (vCons (ret (.int 83869)) (vCons (ret (.int 95561)) (vCons (ret (.int 30307)) vNil)))))))))))))))
    (vSeq (vSetO 3 (vOp dMul (vOp dAdd (vOp dMod (vVar 0) (ret (.int 2147483647))) (ret (.int 12345))) (vOp dIx (vVar 2) (vOp dMod (vVar 1) (ret (.int 13))))))
    (vSeq (vSetO 3 (vOp dAdd (vOp dAdd (vVar 3) (vOp dMul (ret (.int 977)) (vVar 1))) (vOp dMul (ret (.int 7919)) (vOp dFdiv (vVar 1) (ret (.int 13))))))
    (vSeq (vSetO 3 (vOp dMod (vVar 3) (ret (.int 1000000007))))
    (vRet (vOp dFdiv (vOp dMod (vOp dAdd (vOp dMul (vVar 3) (vVar 3)) (vOp dMul (ret (.int 48271)) (vVar 1))) (ret (.int 1000000007))) (ret (.int 7))))))))
def m__law_mix : List D → Option Rf := runF 2 [] 4 b__law_mix
theorem ok__law_mix (T : Txt K mg A)  : FnOk P w K mg base (L2.CX P w) 1 A._law_mix A.fd__law_mix P__law_mix (spV ⟨P, w, K⟩ (clA A Tb) 2 [] false m__law_mix) :=
  def_okX (k := 0) T.F__law_mix sc__law_mix rfl (by decide) rfl fun cdv A' outer s H vs E hr =>
    (vss_cons (vs_setO (i := 2) sc__law_mix.nd rfl (Or.inl rfl) (vo_lst (va_cons (ve_frz vo_int) (va_cons (ve_frz vo_int) (va_cons (ve_frz vo_int) (va_cons (ve_frz vo_int) (va_cons (ve_frz vo_int) (va_cons (ve_frz vo_int) (va_cons (ve_frz vo_int) (va_cons (ve_frz vo_int) (va_cons (ve_frz vo_int) (va_cons (ve_frz vo_int) (va_cons (ve_frz vo_int) (va_cons (ve_frz vo_int) (va_cons (ve_frz vo_int) va_nil)))))))))))))) (nfx (fx := []) rfl rfl))
    (vss_cons (vs_setO (i := 3) sc__law_mix.nd rfl (Or.inl rfl) (vo_op o_mul (ve_frz (vo_op o_add (ve_frz (vo_op o_mod (ve_var 0) (vb_of (ve_frz vo_int)))) (vb_of (ve_frz vo_int)))) (vb_of (ve_ix hr.units (ve_var 2) (vb_of (ve_frz (vo_op o_mod (ve_var 1) (vb_of (ve_frz vo_int))))) (fun _ _ => rfl)))) (nfx (fx := []) rfl rfl))
    (vss_cons (vs_setO (i := 3) sc__law_mix.nd rfl (Or.inl rfl) (vo_op o_add (ve_frz (vo_op o_add (ve_var 3) (vb_of (ve_frz (vo_op o_mul (ve_frz vo_int) (vb_of (ve_var 1))))))) (vb_of (ve_frz (vo_op o_mul (ve_frz vo_int) (vb_of (ve_frz (vo_op o_fdiv (ve_var 1) (vb_of (ve_frz vo_int))))))))) (nfx (fx := []) rfl rfl))
    (vss_cons (vs_setO (i := 3) sc__law_mix.nd rfl (Or.inl rfl) (vo_op o_mod (ve_var 3) (vb_of (ve_frz vo_int))) (nfx (fx := []) rfl rfl))
    (vss_one (vs_ret (ve_frz (vo_op o_fdiv (ve_frz (vo_op o_mod (ve_frz (vo_op o_add (ve_frz (vo_op o_mul (ve_var 3) (vb_of (ve_var 3)))) (vb_of (ve_frz (vo_op o_mul (ve_frz vo_int) (vb_of (ve_var 1))))))) (vb_of (ve_frz vo_int)))) (vb_of (ve_frz vo_int))))))))))
def b__law_box : M Fl := (vSeq (vSet 3 (vCall m__law_cell (vCons (vVar 0) (vCons (vVar 1) vNil))))
    (vSeq (vIf (vAndT (vT (vOp dEq (vOp dMod (vVar 3) (ret (.int 2))) (ret (.int 0)))) (vT (vOp dEq (vVar 2) (ret (.int 0)))))
      (vRet (vLst (vCons (vOp dFdiv (vC1 dAbs (vVar 3)) (ret (.int 2))) vNil)))
      (ret .nx))
    (vSeq (vSetO 4 (ret (.int 0)))
    (vSeq (vFor (vRng1 (ret (.int 90))) (vSetSh 5)
      (vSetO 4 (vOp dAdd (vOp dMul (vVar 4) (ret (.int 142857143))) (vCall m__law_mix (vCons (vVar 3) (vCons (vOp dAdd (vOp dMul (ret (.int 90)) (vVar 2)) (vVar 5)) vNil))))))
    (vRet (vLst (vCons (vVar 4) vNil)))))))
def m__law_box : List D → Option Rf := runF 3 [] 6 b__law_box
theorem ok__law_box (T : Txt K mg A)  : FnOk P w K mg base (L2.CX P w) 2 A._law_box A.fd__law_box P__law_box (spV ⟨P, w, K⟩ (clA A Tb) 3 [] true m__law_box) :=
  def_okX (k := 1) T.F__law_box sc__law_box rfl (by decide) rfl fun cdv A' outer s H vs E hr =>
    (vss_cons (vs_set (i := 3) sc__law_box.nd rfl (Or.inl rfl) (ve_call (ok__law_cell T) (hr.mono (by decide)) (by rfl) T.g__law_cell T.F__law_cell.kp T.B__law_cell (passes_call (takes_of rfl rfl rfl rfl) (fun _ _ _ _ h => h)) runF_len (va_cons (ve_var 0) (va_cons (ve_var 1) va_nil))) (nfx (fx := []) rfl rfl))
    (vss_cons (vs_if (vt_w (vw_and (vt_cmp (o_eq hr.units) (ve_frz (vo_op o_mod (ve_var 3) (vb_of (ve_frz vo_int)))) (vb_of (ve_frz vo_int)) (nomark _)) (vw_and1 (vt_cmp (o_eq hr.units) (ve_var 2) (vb_of (ve_frz vo_int)) (nomark _)))))
      (vss_one (vs_retO (vo_lst (va_cons (ve_frz (vo_op o_fdiv (ve_frz (vo_b1 c_abs (by rfl) T.b_abs (by decide +kernel) (vb_of (ve_var 3)))) (vb_of (ve_frz vo_int)))) va_nil))))
      vss_nil)
    (vss_cons (vs_setO (i := 4) sc__law_box.nd rfl (Or.inl rfl) vo_int (nfx (fx := []) rfl rfl))
    (vss_cons (vs_for (rel := Sh) (passes_of rfl) rfl (vi_rng1 (by rfl) T.b_range (ve_frz vo_int)) (vg_name (vs := [5]) (i := 5) sc__law_box.nd rfl (Or.inl rfl) (nfx (fx := []) rfl rfl) (by decide))
      (vss_one (vs_setO (i := 4) sc__law_box.nd rfl (Or.inl rfl) (vo_op o_add (ve_frz (vo_op o_mul (ve_var 4) (vb_of (ve_frz vo_int)))) (vb_of (ve_call (ok__law_mix T) (hr.mono (by decide)) (by rfl) T.g__law_mix T.F__law_mix.kp T.B__law_mix (passes_call (takes_of rfl rfl rfl rfl) (fun _ _ _ _ h => h)) runF_len (va_cons (ve_var 3) (va_cons (ve_frz (vo_op o_add (ve_frz (vo_op o_mul (ve_frz vo_int) (vb_of (ve_var 2)))) (vb_of (ve_var 5)))) va_nil))))) (nfx (fx := []) rfl rfl))))
    (vss_one (vs_retO (vo_lst (va_cons (ve_var 4) va_nil))))))))
def b__law_take : M Fl := (vSeq (vAsg (vCN dDivmod (vCons (vOpN dIx 0 (ret (.int 0))) (vCons (vVar 1) vNil))) (vGTup 2 (vGCons (vSetSh 2) (vGCons (vSetSh 3) vGNil))))
    (vSeq (vPut 0 (ret (.int 0)) (vVar 2))
    (vRet (vVar 3))))
def m__law_take : List D → Option Rf := runF 2 [0] 4 b__law_take
theorem ok__law_take (T : Txt K mg A)  : FnOk P w K mg base (L2.CX P w) 1 A._law_take A.fd__law_take P__law_take (spV ⟨P, w, K⟩ (clA A Tb) 2 [0] false m__law_take) :=
  def_okX (k := 0) T.F__law_take sc__law_take rfl (by decide) rfl fun cdv A' outer s H vs E hr =>
    (vss_cons (vs_asg (ve_frz (vo_bN c_divmod (by rfl) T.b_divmod (by decide +kernel) (va_cons (ve_ixN 0 hr.units (vb_of (ve_frz vo_int)) (fun _ _ => rfl)) (va_cons (ve_var 1) va_nil)))) (vg_weak (vg_tup (n := 2) rfl (vgs_cons (vg_name (vs := [2, 3]) (i := 2) sc__law_take.nd rfl (Or.inl rfl) (nfx (fx := [0]) rfl rfl) (by decide)) (vgs_cons (vg_name (vs := [2, 3]) (i := 3) sc__law_take.nd rfl (Or.inl rfl) (nfx (fx := [0]) rfl rfl) (by decide)) vgs_nil)))))
    (vss_cons (vs_put 0 hr.units (ve_var 2) (vb_of (ve_frz vo_int)))
    (vss_one (vs_ret (ve_var 3)))))
def b__law_balances : M Fl := (vSeq (vSetO 2 (vLst vNil))
    (vSeqL (vWhile (vAndT (vT (vOp dLt (vC1 dLen (vGet 2)) (vVar 1))) (vT (vOp dGt (vCallQ m__law_take 0 0 (vHere 0 (vCons (ret (.int 6)) vNil))) (ret (.int 0)))))
      (vSeq (vSetO 3 (vLst vNil))
      (vSeqL (vFor (vRng1 (vCN dMin2 (vCons (vCallQ m__law_take 0 0 (vHere 0 (vCons (ret (.int 4)) vNil))) (vCons (vOp dSub (vOp dSub (vVar 1) (vC1 dLen (vGet 2))) (ret (.int 1))) vNil)))) (vSetSh 4)
        (vDrop (vMW "list" dAppend 3 (vCons (vOp dMul (vCallQ m__law_take 0 0 (vHere 0 (vCons (vOp dIx (vLst (vCons (ret (.int 4)) (vCons (ret (.int 19)) (vCons (vOp dPow (ret (.int 10)) (ret (.int 18))) vNil)))) (vCallQ m__law_take 0 0 (vHere 0 (vCons (ret (.int 3)) vNil)))) vNil))) (vOp dSub (ret (.int 1)) (vOp dMul (ret (.int 2)) (vCallQ m__law_take 0 0 (vHere 0 (vCons (ret (.int 2)) vNil)))))) vNil))))
      (vSetO 2 (vOp dAdd (vOpN dAdd 2 (vGet 3)) (vLst (vCons (vOp dSub (ret (.int 0)) (vC1 dSumA (vGet 3))) vNil)))))))
    (vSeq (vSetO 2 (vOpN dAdd 2 (vOp dMul (vLst (vCons (ret (.int 0)) vNil)) (vC1 dInt (vOpN dEq 2 (vLst vNil))))))
    (vSeq (vSetO 5 (vLst vNil))
    (vSeqL (vWhile (vT (vOpN dNe 2 (vLst vNil)))
      (vDrop (vMW "list" dAppend 5 (vCons (vMW "list" dPopAt 2 (vCons (vCallQ m__law_take 0 0 (vHere 0 (vCons (vC1 dLen (vGet 2)) vNil))) vNil)) vNil))))
    (vRet (vOp dIx (vLst (vCons (vVar 5) (vCons (vC1 dTuple (vGet 5)) vNil))) (vCallQ m__law_take 0 0 (vHere 0 (vCons (ret (.int 2)) vNil))))))))))
def m__law_balances : List D → Option Rf := runF 2 [0] 6 b__law_balances
theorem ok__law_balances (T : Txt K mg A)  : FnOk P w K mg base (L2.CX P w) 2 A._law_balances A.fd__law_balances P__law_balances (spV ⟨P, w, K⟩ (clA A Tb) 2 [0] false m__law_balances) :=
  def_okX (k := 1) T.F__law_balances sc__law_balances rfl (by decide) rfl fun cdv A' outer s H vs E hr =>
    (vss_cons (vs_setO (i := 2) sc__law_balances.nd rfl (Or.inl rfl) (vo_lst va_nil) (nfx (fx := [0]) rfl rfl))
    (vss_cons (vs_while (passes_of rfl) (vt_w (vw_and (vt_cmp (o_lt hr.units) (ve_frz (vo_b1 c_len (by rfl) T.b_len (by decide +kernel) (vb_var 2))) (vb_of (ve_var 1)) (nomark _)) (vw_and1 (vt_cmp (o_gt hr.units) (ve_callQ (ok__law_take T) (hr.mono (by decide)) (by rfl) T.g__law_take T.F__law_take.kp T.B__law_take (passes_call (takes_of rfl rfl rfl rfl) (fun _ _ _ _ h => h)) runF_len (vq_here 0 (va_cons (ve_frz vo_int) va_nil))) (vb_of (ve_frz vo_int)) (nomark _)))))
      (vss_cons (vs_setO (i := 3) sc__law_balances.nd rfl (Or.inl rfl) (vo_lst va_nil) (nfx (fx := [0]) rfl rfl))
      (vss_cons (vs_for (rel := Sh) (passes_of rfl) rfl (vi_rng1 (by rfl) T.b_range (ve_frz (vo_bN (c_min2 rfl) (by rfl) T.b_min (by decide +kernel) (va_cons (ve_callQ (ok__law_take T) (hr.mono (by decide)) (by rfl) T.g__law_take T.F__law_take.kp T.B__law_take (passes_call (takes_of rfl rfl rfl rfl) (fun _ _ _ _ h => h)) runF_len (vq_here 0 (va_cons (ve_frz vo_int) va_nil))) (va_cons (ve_frz (vo_op o_sub (ve_frz (vo_op o_sub (ve_var 1) (vb_of (ve_frz (vo_b1 c_len (by rfl) T.b_len (by decide +kernel) (vb_var 2)))))) (vb_of (ve_frz vo_int)))) va_nil))))) (vg_name (vs := [4]) (i := 4) sc__law_balances.nd rfl (Or.inl rfl) (nfx (fx := [0]) rfl rfl) (by decide))
        (vss_one (vs_exprE (ve_mw 3 PySem.F.plainAttrs_list PySem.F.slot_list_append PySem.F.type_list_append m_append (va_cons (ve_frz (vo_op o_mul (ve_callQ (ok__law_take T) (hr.mono (by decide)) (by rfl) T.g__law_take T.F__law_take.kp T.B__law_take (passes_call (takes_of rfl rfl rfl rfl) (fun _ _ _ _ h => h)) runF_len (vq_here 0 (va_cons (ve_ix hr.units (ve_frz (vo_lst (va_cons (ve_frz vo_int) (va_cons (ve_frz vo_int) (va_cons (ve_frz (vo_op o_pow (ve_frz vo_int) (vb_of (ve_frz vo_int)))) va_nil))))) (vb_of (ve_callQ (ok__law_take T) (hr.mono (by decide)) (by rfl) T.g__law_take T.F__law_take.kp T.B__law_take (passes_call (takes_of rfl rfl rfl rfl) (fun _ _ _ _ h => h)) runF_len (vq_here 0 (va_cons (ve_frz vo_int) va_nil)))) (fun _ _ => rfl)) va_nil))) (vb_of (ve_frz (vo_op o_sub (ve_frz vo_int) (vb_of (ve_frz (vo_op o_mul (ve_frz vo_int) (vb_of (ve_callQ (ok__law_take T) (hr.mono (by decide)) (by rfl) T.g__law_take T.F__law_take.kp T.B__law_take (passes_call (takes_of rfl rfl rfl rfl) (fun _ _ _ _ h => h)) runF_len (vq_here 0 (va_cons (ve_frz vo_int) va_nil)))))))))))) va_nil)))))
      (vss_one (vs_setO (i := 2) sc__law_balances.nd rfl (Or.inl rfl) (vo_op o_add (ve_frz (vo_opN 2 o_add (vb_var 3))) (vb_of (ve_frz (vo_lst (va_cons (ve_frz (vo_op o_sub (ve_frz vo_int) (vb_of (ve_frz (vo_b1 (c_sumA rfl) (by rfl) T.b_sum (by decide +kernel) (vb_var 3)))))) va_nil))))) (nfx (fx := [0]) rfl rfl))))))
    (vss_cons (vs_setO (i := 2) sc__law_balances.nd rfl (Or.inl rfl) (vo_opN 2 o_add (vb_of (ve_frz (vo_op o_mul (ve_frz (vo_lst (va_cons (ve_frz vo_int) va_nil))) (vb_of (ve_frz (vo_t1 c_int (by rfl) T.b_int (by decide +kernel) (vb_of (ve_frz (vo_cmpN 2 (o_eq hr.units) (vb_of (ve_frz (vo_lst va_nil))) (nomark _))))))))))) (nfx (fx := [0]) rfl rfl))
    (vss_cons (vs_setO (i := 5) sc__law_balances.nd rfl (Or.inl rfl) (vo_lst va_nil) (nfx (fx := [0]) rfl rfl))
    (vss_cons (vs_while (passes_of rfl) (vt_cmpN 2 (o_ne hr.units) (vb_of (ve_frz (vo_lst va_nil))) (nomark _))
      (vss_one (vs_exprE (ve_mw 5 PySem.F.plainAttrs_list PySem.F.slot_list_append PySem.F.type_list_append m_append (va_cons (ve_mw 2 PySem.F.plainAttrs_list PySem.F.slot_list_pop PySem.F.type_list_pop m_popAt (va_cons (ve_callQ (ok__law_take T) (hr.mono (by decide)) (by rfl) T.g__law_take T.F__law_take.kp T.B__law_take (passes_call (takes_of rfl rfl rfl rfl) (fun _ _ _ _ h => h)) runF_len (vq_here 0 (va_cons (ve_frz (vo_b1 c_len (by rfl) T.b_len (by decide +kernel) (vb_var 2))) va_nil))) va_nil)) va_nil)))))
    (vss_one (vs_ret (ve_ix hr.units (ve_frz (vo_lst (va_cons (ve_var 5) (va_cons (ve_frz (vo_t1 c_tuple (by rfl) T.b_tuple (by decide +kernel) (vb_var 5))) va_nil)))) (vb_of (ve_callQ (ok__law_take T) (hr.mono (by decide)) (by rfl) T.g__law_take T.F__law_take.kp T.B__law_take (passes_call (takes_of rfl rfl rfl rfl) (fun _ _ _ _ h => h)) runF_len (vq_here 0 (va_cons (ve_frz vo_int) va_nil)))) (fun _ _ => rfl)))))))))
def b__law_is : M Fl := (vRet (vAnd (vIs PyData.isInt (vVar 0)) (vAnd (vNot (vIs PyData.isBool (vVar 0))) (vChain dLe dLe (vVar 1) (vVar 0) (vVar 2)))))
def m__law_is : List D → Option Rf := runF 3 [] 3 b__law_is
theorem ok__law_is (T : Txt K mg A)  : FnOk P w K mg base (L2.CX P w) 1 A._law_is A.fd__law_is P__law_is (spV ⟨P, w, K⟩ (clA A Tb) 3 [] false m__law_is) :=
  def_okX (k := 0) T.F__law_is sc__law_is rfl (by decide) rfl fun cdv A' outer s H vs E hr =>
    (vss_one (vs_ret (ve_and (ve_frz (vo_is (x := "") c_is_int (by rfl) T.b_isinstance (by rfl) T.b_int (by decide +kernel) (vb_of (ve_var 0)))) (ve_and (ve_frz (vo_not (ve_frz (vo_is (x := "") c_is_bool (by rfl) T.b_isinstance (by rfl) T.b_bool (by decide +kernel) (vb_of (ve_var 0)))))) (ve_one (ve_frz (vo_chain (o_le hr.units) (o_le hr.units) (ve_var 1) (ve_var 0) (vb_of (ve_var 2)))))))))
def b__law_odd : M Fl := (vSeq (vSetO 1 (vLst (vCons (ret .none) (vCons (ret (.bool true)) (vCons (ret (.bool false)) (vCons (ret (.int 0)) (vCons (ret (.int 1)) (vCons (vNeg (ret (.int 1))) (vCons (ret (.int 7)) (vCons (ret (.int 401)) (vCons (vOp dPow (ret (.int 10)) (ret (.int 19))) (vCons (ret (.str "")) (vCons (ret (.str "a")) (vCons (ret (.str "out")) (vCons (ret (.str "yard 0")) (vCons (ret (.str "1")) (vCons (vTup vNil) (vCons (vLst vNil) (vCons vDict0 (vCons (vTup (vCons (ret (.int 0)) vNil)) (vCons (vLst (vCons (ret (.int 0)) vNil)) (vCons (vDisp1 (ret (.int 0)) (ret (.int 0))) vNil))))))))))))))))))))))
    (vSeq (vSetO 1 (vOp dAdd (vVar 1) (vLst (vCons (vTup (vCons (ret (.int 0)) (vCons (ret (.int 0)) vNil))) (vCons (vTup (vCons (ret (.int 0)) (vCons (ret (.int 0)) (vCons (ret (.int 0)) vNil)))) (vCons (vTup (vCons (ret (.int 0)) (vCons (ret (.int 0)) (vCons (ret (.int 0)) (vCons (ret (.int 0)) vNil))))) (vCons (vTup (vCons (vTup vNil) (vCons (vTup vNil) vNil))) (vCons (vLst (vCons (vTup vNil) vNil)) (vCons (vTup (vCons (vTup (vCons (ret (.int 0)) vNil)) (vCons (vTup vNil) vNil))) (vCons (vTup (vCons (ret .none) (vCons (ret .none) vNil))) (vCons (ret (.str "\n")) (vCons (vTup (vCons (ret (.bool true)) (vCons (ret (.int 0)) (vCons (ret (.int 0)) vNil)))) vNil))))))))))))
    (vRet (vOp dIx (vVar 1) (vCallQ m__law_take 0 0 (vHere 0 (vCons (ret (.int 29)) vNil)))))))
def m__law_odd : List D → Option Rf := runF 1 [0] 2 b__law_odd
theorem ok__law_odd (T : Txt K mg A)  : FnOk P w K mg base (L2.CX P w) 2 A._law_odd A.fd__law_odd P__law_odd (spV ⟨P, w, K⟩ (clA A Tb) 1 [0] false m__law_odd) :=
  def_okX (k := 1) T.F__law_odd sc__law_odd rfl (by decide) rfl fun cdv A' outer s H vs E hr =>
    (vss_cons (vs_setO (i := 1) sc__law_odd.nd rfl (Or.inl rfl) (vo_lst (va_cons (ve_frz vo_non) (va_cons (ve_frz vo_bl) (va_cons (ve_frz vo_bl) (va_cons (ve_frz vo_int) (va_cons (ve_frz vo_int) (va_cons (ve_frz (vo_neg (ve_frz vo_int))) (va_cons (ve_frz vo_int) (va_cons (ve_frz vo_int) (va_cons (ve_frz (vo_op o_pow (ve_frz vo_int) (vb_of (ve_frz vo_int)))) (va_cons (ve_frz vo_str) (va_cons (ve_frz vo_str) (va_cons (ve_frz vo_str) (va_cons (ve_frz vo_str) (va_cons (ve_frz vo_str) (va_cons (ve_frz (vo_tup va_nil)) (va_cons (ve_frz (vo_lst va_nil)) (va_cons (ve_frz vo_dict0) (va_cons (ve_frz (vo_tup (va_cons (ve_frz vo_int) va_nil))) (va_cons (ve_frz (vo_lst (va_cons (ve_frz vo_int) va_nil))) (va_cons (ve_frz (vo_disp1 (fun _ => (ve_frz vo_int)) (fun _ => (ve_frz vo_int)))) va_nil))))))))))))))))))))) (nfx (fx := [0]) rfl rfl))
    (vss_cons (vs_setO (i := 1) sc__law_odd.nd rfl (Or.inl rfl) (vo_op o_add (ve_var 1) (vb_of (ve_frz (vo_lst (va_cons (ve_frz (vo_tup (va_cons (ve_frz vo_int) (va_cons (ve_frz vo_int) va_nil)))) (va_cons (ve_frz (vo_tup (va_cons (ve_frz vo_int) (va_cons (ve_frz vo_int) (va_cons (ve_frz vo_int) va_nil))))) (va_cons (ve_frz (vo_tup (va_cons (ve_frz vo_int) (va_cons (ve_frz vo_int) (va_cons (ve_frz vo_int) (va_cons (ve_frz vo_int) va_nil)))))) (va_cons (ve_frz (vo_tup (va_cons (ve_frz (vo_tup va_nil)) (va_cons (ve_frz (vo_tup va_nil)) va_nil)))) (va_cons (ve_frz (vo_lst (va_cons (ve_frz (vo_tup va_nil)) va_nil))) (va_cons (ve_frz (vo_tup (va_cons (ve_frz (vo_tup (va_cons (ve_frz vo_int) va_nil))) (va_cons (ve_frz (vo_tup va_nil)) va_nil)))) (va_cons (ve_frz (vo_tup (va_cons (ve_frz vo_non) (va_cons (ve_frz vo_non) va_nil)))) (va_cons (ve_frz vo_str) (va_cons (ve_frz (vo_tup (va_cons (ve_frz vo_bl) (va_cons (ve_frz vo_int) (va_cons (ve_frz vo_int) va_nil))))) va_nil))))))))))))) (nfx (fx := [0]) rfl rfl))
    (vss_one (vs_ret (ve_ix hr.units (ve_var 1) (vb_of (ve_callQ (ok__law_take T) (hr.mono (by decide)) (by rfl) T.g__law_take T.F__law_take.kp T.B__law_take (passes_call (takes_of rfl rfl rfl rfl) (fun _ _ _ _ h => h)) runF_len (vq_here 0 (va_cons (ve_frz vo_int) va_nil)))) (fun _ _ => rfl))))))
def b__law_bent (self : List D → Option Rf) : M Fl := (vSeq (vIf (vAndT (vT (vIs PyData.isInt (vVar 1))) (vT (vOp dGt (vCallQ m__law_take 0 0 (vHere 0 (vCons (ret (.int 3)) vNil))) (ret (.int 0)))))
      (vRet (vOp dIx (vLst (vCons (vOp dAdd (vVar 1) (ret (.int 1))) (vCons (vOp dSub (vVar 1) (ret (.int 1))) (vCons (vOp dSub (ret (.int 0)) (vVar 1)) (vCons (vOp dAdd (vVar 1) (ret (.int 100001))) (vCons (vOp dAdd (vVar 1) (ret (.int 60))) (vCons (vOp dPow (ret (.int 10)) (ret (.int 19))) vNil))))))) (vCallQ m__law_take 0 0 (vHere 0 (vCons (ret (.int 6)) vNil)))))
      (ret .nx))
    (vSeq (vIf (vOrT (vNotT (vT (vIs (fun d => d.isTuple || d.isList) (vVar 1)))) (vOrT (vT (vOp dEq (vC1 dLen (vVar 1)) (ret (.int 0)))) (vT (vOp dEq (vVar 2) (ret (.int 0))))))
      (vRet (vCallQ m__law_odd 0 0 (vHere 0 vNil)))
      (ret .nx))
    (vSeq (vPar3 3 4 5 (vCallQ m__law_take 0 0 (vHere 0 (vCons (vC1 dLen (vVar 1)) vNil))) (vCallQ m__law_take 0 0 (vHere 0 (vCons (ret (.int 9)) vNil))) (vC1 dList (vVar 1)))
    (vSeq (vIf (vT (vOp dEq (vVar 4) (ret (.int 0))))
      (vSetO 5 (vOp dAdd (vSlN 5 vNoPart (vPart (vVar 3))) (vSlN 5 (vPart (vOp dAdd (vVar 3) (ret (.int 1)))) vNoPart)))
      (vIf (vT (vOp dEq (vVar 4) (ret (.int 1))))
        (vSetO 5 (vOp dAdd (vOp dAdd (vSlN 5 vNoPart (vPart (vVar 3))) (vLst (vCons (vOpN dIx 5 (vVar 3)) vNil))) (vSlN 5 (vPart (vVar 3)) vNoPart)))
        (vIf (vT (vOp dEq (vVar 4) (ret (.int 2))))
          (vSetO 5 (vOp dAdd (vOp dAdd (vSlN 5 vNoPart (vPart (vVar 3))) (vLst (vCons (vCallQ m__law_odd 0 0 (vHere 0 vNil)) vNil))) (vSlN 5 (vPart (vVar 3)) vNoPart)))
          (vIf (vT (vOp dEq (vVar 4) (ret (.int 3))))
            (vSetO 5 (vC1 dRev (vGet 5)))
            (vPut 5 (vVar 3) (vCallQ self 0 0 (vHere 0 (vCons (vOpN dIx 5 (vVar 3)) (vCons (vOp dSub (vVar 2) (ret (.int 1))) vNil)))))))))
    (vSeq (vIf (vT (vOp dEq (vCallQ m__law_take 0 0 (vHere 0 (vCons (ret (.int 12)) vNil))) (ret (.int 11))))
      (vRet (vOp dIx (vLst (vCons (vC1 dTuple (vGet 5)) (vCons (vVar 5) vNil))) (vC1 dInt (vIs PyData.isTuple (vVar 1)))))
      (ret .nx))
    (vRet (vOp dIx (vLst (vCons (vVar 5) (vCons (vC1 dTuple (vGet 5)) vNil))) (vC1 dInt (vIs PyData.isTuple (vVar 1))))))))))
def mm__law_bent : Nat → List D → Option Rf
  | 0 => runF 3 [0] 6 (fun _ => none)
  | i + 1 => runF 3 [0] 6 (b__law_bent (mm__law_bent i))
theorem mm__law_bent_len : ∀ i ds r, mm__law_bent i ds = some r → ds.length = 3
  | 0 => runF_len
  | _ + 1 => runF_len
def m__law_bent : List D → Option Rf := mm__law_bent 6
theorem okr__law_bent (T : Txt K mg A) : ∀ i : Nat, FnOk P w K mg base (L2.CX P w) (3 + i) A._law_bent A.fd__law_bent P__law_bent (spV ⟨P, w, K⟩ (clA A Tb) 3 [0] false (mm__law_bent i))
  | 0 => def_okX (k := 2) T.F__law_bent sc__law_bent rfl (by decide) rfl fun cdv A' outer s H vs E hr => vss_never
  | i + 1 =>
    have ih := okr__law_bent T i
    def_okX (k := 3 + i) T.F__law_bent sc__law_bent rfl (by decide) rfl fun cdv A' outer s H vs E hr =>
    (vss_cons (vs_if (vt_w (vw_and (vt_val (ve_frz (vo_is (x := "") c_is_int (by rfl) T.b_isinstance (by rfl) T.b_int (by decide +kernel) (vb_of (ve_var 1))))) (vw_and1 (vt_cmp (o_gt hr.units) (ve_callQ (ok__law_take T) (hr.mono (by omega)) (by rfl) T.g__law_take T.F__law_take.kp T.B__law_take (passes_call (takes_of rfl rfl rfl rfl) (fun _ _ _ _ h => h)) runF_len (vq_here 0 (va_cons (ve_frz vo_int) va_nil))) (vb_of (ve_frz vo_int)) (nomark _)))))
      (vss_one (vs_ret (ve_ix hr.units (ve_frz (vo_lst (va_cons (ve_frz (vo_op o_add (ve_var 1) (vb_of (ve_frz vo_int)))) (va_cons (ve_frz (vo_op o_sub (ve_var 1) (vb_of (ve_frz vo_int)))) (va_cons (ve_frz (vo_op o_sub (ve_frz vo_int) (vb_of (ve_var 1)))) (va_cons (ve_frz (vo_op o_add (ve_var 1) (vb_of (ve_frz vo_int)))) (va_cons (ve_frz (vo_op o_add (ve_var 1) (vb_of (ve_frz vo_int)))) (va_cons (ve_frz (vo_op o_pow (ve_frz vo_int) (vb_of (ve_frz vo_int)))) va_nil)))))))) (vb_of (ve_callQ (ok__law_take T) (hr.mono (by omega)) (by rfl) T.g__law_take T.F__law_take.kp T.B__law_take (passes_call (takes_of rfl rfl rfl rfl) (fun _ _ _ _ h => h)) runF_len (vq_here 0 (va_cons (ve_frz vo_int) va_nil)))) (fun _ _ => rfl))))
      vss_nil)
    (vss_cons (vs_if (vt_w (vw_or (vt_not (vt_val (ve_frz (vo_isT (t1 := "tuple") (t2 := "list") (isTL _) (by rfl) T.b_isinstance (by rfl) T.b_tuple (by decide +kernel) (by rfl) T.b_list (by decide +kernel) (vb_of (ve_var 1)))))) (vw_or (vt_cmp (o_eq hr.units) (ve_frz (vo_b1 c_len (by rfl) T.b_len (by decide +kernel) (vb_of (ve_var 1)))) (vb_of (ve_frz vo_int)) (nomark _)) (vw_or1 (vt_cmp (o_eq hr.units) (ve_var 2) (vb_of (ve_frz vo_int)) (nomark _))))))
      (vss_one (vs_ret (ve_callQ (ok__law_odd T) (hr.mono (by omega)) (by rfl) T.g__law_odd T.F__law_odd.kp T.B__law_odd (passes_call (takes_of rfl rfl rfl rfl) (fun _ _ _ _ h => h)) runF_len (vq_here 0 va_nil))))
      vss_nil)
    (vss_cons (vs_par3 (i := 3) (j := 4) (l := 5) rfl sc__law_bent.nd rfl rfl rfl (by decide) (by decide) (by decide) rfl rfl rfl (ve_callQ (ok__law_take T) (hr.mono (by omega)) (by rfl) T.g__law_take T.F__law_take.kp T.B__law_take (passes_call (takes_of rfl rfl rfl rfl) (fun _ _ _ _ h => h)) runF_len (vq_here 0 (va_cons (ve_frz (vo_b1 c_len (by rfl) T.b_len (by decide +kernel) (vb_of (ve_var 1)))) va_nil))) (ve_callQ (ok__law_take T) (hr.mono (by omega)) (by rfl) T.g__law_take T.F__law_take.kp T.B__law_take (passes_call (takes_of rfl rfl rfl rfl) (fun _ _ _ _ h => h)) runF_len (vq_here 0 (va_cons (ve_frz vo_int) va_nil))) (vo_t1 c_list (by rfl) T.b_list (by decide +kernel) (vb_of (ve_var 1))) (nfx (fx := [0]) rfl rfl) (nfx (fx := [0]) rfl rfl) (nfx (fx := [0]) rfl rfl) (by rfl))
    (vss_cons (vs_if (vt_cmp (o_eq hr.units) (ve_var 4) (vb_of (ve_frz vo_int)) (nomark _))
      (vss_one (vs_setO (i := 5) sc__law_bent.nd rfl (Or.inl rfl) (vo_op o_add (ve_frz (vo_slN 5 vp_none (vp_some (ve_var 3)))) (vb_of (ve_frz (vo_slN 5 (vp_some (ve_frz (vo_op o_add (ve_var 3) (vb_of (ve_frz vo_int))))) vp_none)))) (nfx (fx := [0]) rfl rfl)))
      (vss_one (vs_if (vt_cmp (o_eq hr.units) (ve_var 4) (vb_of (ve_frz vo_int)) (nomark _))
        (vss_one (vs_setO (i := 5) sc__law_bent.nd rfl (Or.inl rfl) (vo_op o_add (ve_frz (vo_op o_add (ve_frz (vo_slN 5 vp_none (vp_some (ve_var 3)))) (vb_of (ve_frz (vo_lst (va_cons (ve_ixN 5 hr.units (vb_of (ve_var 3)) (fun _ _ => rfl)) va_nil)))))) (vb_of (ve_frz (vo_slN 5 (vp_some (ve_var 3)) vp_none)))) (nfx (fx := [0]) rfl rfl)))
        (vss_one (vs_if (vt_cmp (o_eq hr.units) (ve_var 4) (vb_of (ve_frz vo_int)) (nomark _))
          (vss_one (vs_setO (i := 5) sc__law_bent.nd rfl (Or.inl rfl) (vo_op o_add (ve_frz (vo_op o_add (ve_frz (vo_slN 5 vp_none (vp_some (ve_var 3)))) (vb_of (ve_frz (vo_lst (va_cons (ve_callQ (ok__law_odd T) (hr.mono (by omega)) (by rfl) T.g__law_odd T.F__law_odd.kp T.B__law_odd (passes_call (takes_of rfl rfl rfl rfl) (fun _ _ _ _ h => h)) runF_len (vq_here 0 va_nil)) va_nil)))))) (vb_of (ve_frz (vo_slN 5 (vp_some (ve_var 3)) vp_none)))) (nfx (fx := [0]) rfl rfl)))
          (vss_one (vs_if (vt_cmp (o_eq hr.units) (ve_var 4) (vb_of (ve_frz vo_int)) (nomark _))
            (vss_one (vs_setO (i := 5) sc__law_bent.nd rfl (Or.inl rfl) (vo_rev (vb_var 5)) (nfx (fx := [0]) rfl rfl)))
            (vss_one (vs_put 5 hr.units (ve_callQ ih (hr.mono (by omega)) (by rfl) T.g__law_bent T.F__law_bent.kp T.B__law_bent (passes_call (takes_of rfl rfl rfl rfl) (fun _ _ _ _ h => h)) (mm__law_bent_len _) (vq_here 0 (va_cons (ve_ixN 5 hr.units (vb_of (ve_var 3)) (fun _ _ => rfl)) (va_cons (ve_frz (vo_op o_sub (ve_var 2) (vb_of (ve_frz vo_int)))) va_nil)))) (vb_of (ve_var 3)))))))))))
    (vss_cons (vs_if (vt_cmp (o_eq hr.units) (ve_callQ (ok__law_take T) (hr.mono (by omega)) (by rfl) T.g__law_take T.F__law_take.kp T.B__law_take (passes_call (takes_of rfl rfl rfl rfl) (fun _ _ _ _ h => h)) runF_len (vq_here 0 (va_cons (ve_frz vo_int) va_nil))) (vb_of (ve_frz vo_int)) (nomark _))
      (vss_one (vs_ret (ve_ix hr.units (ve_frz (vo_lst (va_cons (ve_frz (vo_t1 c_tuple (by rfl) T.b_tuple (by decide +kernel) (vb_var 5))) (va_cons (ve_var 5) va_nil)))) (vb_of (ve_frz (vo_t1 c_int (by rfl) T.b_int (by decide +kernel) (vb_of (ve_frz (vo_is (x := "") c_is_tuple (by rfl) T.b_isinstance (by rfl) T.b_tuple (by decide +kernel) (vb_of (ve_var 1)))))))) (fun _ _ => rfl))))
      vss_nil)
    (vss_one (vs_ret (ve_ix hr.units (ve_frz (vo_lst (va_cons (ve_var 5) (va_cons (ve_frz (vo_t1 c_tuple (by rfl) T.b_tuple (by decide +kernel) (vb_var 5))) va_nil)))) (vb_of (ve_frz (vo_t1 c_int (by rfl) T.b_int (by decide +kernel) (vb_of (ve_frz (vo_is (x := "") c_is_tuple (by rfl) T.b_isinstance (by rfl) T.b_tuple (by decide +kernel) (vb_of (ve_var 1)))))))) (fun _ _ => rfl)))))))))
theorem ok__law_bent (T : Txt K mg A) : FnOk P w K mg base (L2.CX P w) (9) A._law_bent A.fd__law_bent P__law_bent (spV ⟨P, w, K⟩ (clA A Tb) 3 [0] false m__law_bent) := okr__law_bent T 6
def cs_raised : List String := ["NoBalance"]
theorem exc_c (T : Txt K mg A) {c : String} (hc : c ∈ cs_raised) : ExcC K (clA A Tb c) := by
  simp only [cs_raised, List.mem_cons, List.not_mem_nil, or_false] at hc
  rcases hc with rfl
  · exact T.x_NoBalance.ec
theorem exm_c (T : Txt K mg A) : ∀ c ∈ cs_raised, PySem.W.exmOne K (.ref (clA A Tb c)) (.ref A.CoverError) = some true := by
  intro c hc
  simp only [cs_raised, List.mem_cons, List.not_mem_nil, or_false] at hc
  rcases hc with rfl
  · exact T.m_NoBalance
theorem kit_NoNet (T : Txt K mg A) {c : String} (hc : c ∈ cs_raised) : PySem.W.kitOne K (.ref (clA A Tb c)) (.ref A.NoNet) = some (c == "NoNet") := by
  simp only [cs_raised, List.mem_cons, List.not_mem_nil, or_false] at hc
  rcases hc with rfl
  · exact T.k_NoBalance_NoNet
theorem kit_NoYard (T : Txt K mg A) {c : String} (hc : c ∈ cs_raised) : PySem.W.kitOne K (.ref (clA A Tb c)) (.ref A.NoYard) = some (c == "NoYard") := by
  simp only [cs_raised, List.mem_cons, List.not_mem_nil, or_false] at hc
  rcases hc with rfl
  · exact T.k_NoBalance_NoYard
theorem kit_NoMark (T : Txt K mg A) {c : String} (hc : c ∈ cs_raised) : PySem.W.kitOne K (.ref (clA A Tb c)) (.ref A.NoMark) = some (c == "NoMark") := by
  simp only [cs_raised, List.mem_cons, List.not_mem_nil, or_false] at hc
  rcases hc with rfl
  · exact T.k_NoBalance_NoMark
theorem kit_NoPage (T : Txt K mg A) {c : String} (hc : c ∈ cs_raised) : PySem.W.kitOne K (.ref (clA A Tb c)) (.ref A.NoPage) = some (c == "NoPage") := by
  simp only [cs_raised, List.mem_cons, List.not_mem_nil, or_false] at hc
  rcases hc with rfl
  · exact T.k_NoBalance_NoPage
theorem kit_NoCover (T : Txt K mg A) {c : String} (hc : c ∈ cs_raised) : PySem.W.kitOne K (.ref (clA A Tb c)) (.ref A.NoCover) = some (c == "NoCover") := by
  simp only [cs_raised, List.mem_cons, List.not_mem_nil, or_false] at hc
  rcases hc with rfl
  · exact T.k_NoBalance_NoCover
theorem kit_NoDay (T : Txt K mg A) {c : String} (hc : c ∈ cs_raised) : PySem.W.kitOne K (.ref (clA A Tb c)) (.ref A.NoDay) = some (c == "NoDay") := by
  simp only [cs_raised, List.mem_cons, List.not_mem_nil, or_false] at hc
  rcases hc with rfl
  · exact T.k_NoBalance_NoDay
theorem kit_NoTariff (T : Txt K mg A) {c : String} (hc : c ∈ cs_raised) : PySem.W.kitOne K (.ref (clA A Tb c)) (.ref A.NoTariff) = some (c == "NoTariff") := by
  simp only [cs_raised, List.mem_cons, List.not_mem_nil, or_false] at hc
  rcases hc with rfl
  · exact T.k_NoBalance_NoTariff
theorem kit_NoBalance (T : Txt K mg A) {c : String} (hc : c ∈ cs_raised) : PySem.W.kitOne K (.ref (clA A Tb c)) (.ref A.NoBalance) = some (c == "NoBalance") := by
  simp only [cs_raised, List.mem_cons, List.not_mem_nil, or_false] at hc
  rcases hc with rfl
  · exact T.k_NoBalance_NoBalance
theorem kit_NoStray (T : Txt K mg A) {c : String} (hc : c ∈ cs_raised) : PySem.W.kitOne K (.ref (clA A Tb c)) (.ref A.NoStray) = some (c == "NoStray") := by
  simp only [cs_raised, List.mem_cons, List.not_mem_nil, or_false] at hc
  rcases hc with rfl
  · exact T.k_NoBalance_NoStray
theorem kit_NoTrip (T : Txt K mg A) {c : String} (hc : c ∈ cs_raised) : PySem.W.kitOne K (.ref (clA A Tb c)) (.ref A.NoTrip) = some (c == "NoTrip") := by
  simp only [cs_raised, List.mem_cons, List.not_mem_nil, or_false] at hc
  rcases hc with rfl
  · exact T.k_NoBalance_NoTrip
theorem kit_NoPrice (T : Txt K mg A) {c : String} (hc : c ∈ cs_raised) : PySem.W.kitOne K (.ref (clA A Tb c)) (.ref A.NoPrice) = some (c == "NoPrice") := by
  simp only [cs_raised, List.mem_cons, List.not_mem_nil, or_false] at hc
  rcases hc with rfl
  · exact T.k_NoBalance_NoPrice
theorem kit_NoLine (T : Txt K mg A) {c : String} (hc : c ∈ cs_raised) : PySem.W.kitOne K (.ref (clA A Tb c)) (.ref A.NoLine) = some (c == "NoLine") := by
  simp only [cs_raised, List.mem_cons, List.not_mem_nil, or_false] at hc
  rcases hc with rfl
  · exact T.k_NoBalance_NoLine
theorem kit_Gone (T : Txt K mg A) {c : String} (hc : c ∈ cs_raised) : PySem.W.kitOne K (.ref (clA A Tb c)) (.ref A.Gone) = some (c == "Gone") := by
  simp only [cs_raised, List.mem_cons, List.not_mem_nil, or_false] at hc
  rcases hc with rfl
  · exact T.k_NoBalance_Gone
theorem kit_Nothing (T : Txt K mg A) {c : String} (hc : c ∈ cs_raised) : PySem.W.kitOne K (.ref (clA A Tb c)) (.ref A.Nothing) = some (c == "Nothing") := by
  simp only [cs_raised, List.mem_cons, List.not_mem_nil, or_false] at hc
  rcases hc with rfl
  · exact T.k_NoBalance_Nothing
theorem kit_Clash (T : Txt K mg A) {c : String} (hc : c ∈ cs_raised) : PySem.W.kitOne K (.ref (clA A Tb c)) (.ref A.Clash) = some (c == "Clash") := by
  simp only [cs_raised, List.mem_cons, List.not_mem_nil, or_false] at hc
  rcases hc with rfl
  · exact T.k_NoBalance_Clash
theorem kit_NoText (T : Txt K mg A) {c : String} (hc : c ∈ cs_raised) : PySem.W.kitOne K (.ref (clA A Tb c)) (.ref A.NoText) = some (c == "NoText") := by
  simp only [cs_raised, List.mem_cons, List.not_mem_nil, or_false] at hc
  rcases hc with rfl
  · exact T.k_NoBalance_NoText
theorem kit_TooMany (T : Txt K mg A) {c : String} (hc : c ∈ cs_raised) : PySem.W.kitOne K (.ref (clA A Tb c)) (.ref A.TooMany) = some (c == "TooMany") := by
  simp only [cs_raised, List.mem_cons, List.not_mem_nil, or_false] at hc
  rcases hc with rfl
  · exact T.k_NoBalance_TooMany
theorem kit_ValueError (T : Txt K mg A) {c : String} (hc : c ∈ cs_raised) : PySem.W.kitOne K (.ref (clA A Tb c)) (.type "ValueError") = some true := by
  simp only [cs_raised, List.mem_cons, List.not_mem_nil, or_false] at hc
  rcases hc with rfl
  · exact T.v_NoBalance
def bs__law_which (c : String) : M Fl := (vSeq (vSetO 1 (vLst (vCons (ret (.bool (c == "NoNet"))) (vCons (ret (.bool (c == "NoYard"))) (vCons (ret (.bool (c == "NoMark"))) (vCons (ret (.bool (c == "NoPage"))) vNil))))))
    (vSeq (vSetO 1 (vOp dAdd (vVar 1) (vLst (vCons (ret (.bool (c == "NoCover"))) (vCons (ret (.bool (c == "NoDay"))) (vCons (ret (.bool (c == "NoTariff"))) (vCons (ret (.bool (c == "NoBalance"))) vNil)))))))
    (vSeq (vSetO 1 (vOp dAdd (vVar 1) (vLst (vCons (ret (.bool (c == "NoStray"))) (vCons (ret (.bool (c == "NoTrip"))) (vCons (ret (.bool (c == "NoPrice"))) (vCons (ret (.bool (c == "NoLine"))) vNil)))))))
    (vSeq (vSetO 1 (vOp dAdd (vVar 1) (vLst (vCons (ret (.bool (c == "Gone"))) (vCons (ret (.bool (c == "Nothing"))) (vCons (ret (.bool (c == "Clash"))) (vCons (ret (.bool (c == "NoText"))) vNil)))))))
    (vSeq (vSetO 1 (vOp dAdd (vVar 1) (vLst (vCons (ret (.bool (c == "TooMany"))) vNil))))
    (vSeq (vIf (vOrT (vNotT (vT (ret (.bool true)))) (vT (vOp dNe (vM "list" dListCount (vVar 1) (vCons (ret (.bool true)) vNil)) (ret (.int 1)))))
      (vRet (vTup (vCons (ret (.str "other")) vNil)))
      (ret .nx))
    (vSeq (vIf (vT (vOp dIx (vVar 1) (ret (.int 14))))
      (fun _ => none)
      (ret .nx))
    (vSeq (vIf (vT (vOp dIx (vVar 1) (ret (.int 15))))
      (fun _ => none)
      (ret .nx))
    (vSeq (vIf (vT (vOp dIx (vVar 1) (ret (.int 16))))
      (fun _ => none)
      (ret .nx))
    (vSeq (vSetO 2 (vLst (vCons (ret (.str "net")) (vCons (ret (.str "yard")) (vCons (ret (.str "mark")) (vCons (ret (.str "page")) (vCons (ret (.str "cover")) (vCons (ret (.str "day")) (vCons (ret (.str "tariff")) (vCons (ret (.str "balance")) (vCons (ret (.str "stray")) (vCons (ret (.str "trip")) (vCons (ret (.str "price")) (vCons (ret (.str "line")) vNil))))))))))))))
    (vRet (vTup (vCons (vOp dIx (vOp dAdd (vVar 2) (vLst (vCons (ret (.str "gone")) (vCons (ret (.str "nothing")) vNil)))) (vM "list" dListIndex (vVar 1) (vCons (ret (.bool true)) vNil))) vNil)))))))))))))
def ks__law_which : Ex → Option D := ksOf cs_raised 3 bs__law_which
theorem ok__law_which (T : Txt K mg A) : FnW P w K mg base 1 A._law_which A.fd__law_which P__law_which (spW ⟨P, w, K⟩ (clA A Tb) ks__law_which) :=
  def_okW (k := 0) T.F__law_which sc__law_which rfl (by decide) (fun _ => rfl) fun cdv A' outer s H E a oe c H' hc hz hf hr =>
    (vss_cons (vs_setO (i := 1) sc__law_which.nd rfl (Or.inl rfl) (vo_lst (va_cons (ve_frz (vo_isEP (i := 0) (List.mem_singleton.2 rfl) hz hf (exc_c T hc) (List.mem_singleton.2 rfl) rfl (kit_NoNet T hc) (by rfl) T.b_isinstance rfl (Or.inl rfl) (by rfl) T.g_NoNet)) (va_cons (ve_frz (vo_isEP (i := 0) (List.mem_singleton.2 rfl) hz hf (exc_c T hc) (List.mem_singleton.2 rfl) rfl (kit_NoYard T hc) (by rfl) T.b_isinstance rfl (Or.inl rfl) (by rfl) T.g_NoYard)) (va_cons (ve_frz (vo_isEP (i := 0) (List.mem_singleton.2 rfl) hz hf (exc_c T hc) (List.mem_singleton.2 rfl) rfl (kit_NoMark T hc) (by rfl) T.b_isinstance rfl (Or.inl rfl) (by rfl) T.g_NoMark)) (va_cons (ve_frz (vo_isEP (i := 0) (List.mem_singleton.2 rfl) hz hf (exc_c T hc) (List.mem_singleton.2 rfl) rfl (kit_NoPage T hc) (by rfl) T.b_isinstance rfl (Or.inl rfl) (by rfl) T.g_NoPage)) va_nil))))) (nfx (fx := [0]) rfl rfl))
    (vss_cons (vs_setO (i := 1) sc__law_which.nd rfl (Or.inl rfl) (vo_op o_add (ve_var 1) (vb_of (ve_frz (vo_lst (va_cons (ve_frz (vo_isEP (i := 0) (List.mem_singleton.2 rfl) hz hf (exc_c T hc) (List.mem_singleton.2 rfl) rfl (kit_NoCover T hc) (by rfl) T.b_isinstance rfl (Or.inl rfl) (by rfl) T.g_NoCover)) (va_cons (ve_frz (vo_isEP (i := 0) (List.mem_singleton.2 rfl) hz hf (exc_c T hc) (List.mem_singleton.2 rfl) rfl (kit_NoDay T hc) (by rfl) T.b_isinstance rfl (Or.inl rfl) (by rfl) T.g_NoDay)) (va_cons (ve_frz (vo_isEP (i := 0) (List.mem_singleton.2 rfl) hz hf (exc_c T hc) (List.mem_singleton.2 rfl) rfl (kit_NoTariff T hc) (by rfl) T.b_isinstance rfl (Or.inl rfl) (by rfl) T.g_NoTariff)) (va_cons (ve_frz (vo_isEP (i := 0) (List.mem_singleton.2 rfl) hz hf (exc_c T hc) (List.mem_singleton.2 rfl) rfl (kit_NoBalance T hc) (by rfl) T.b_isinstance rfl (Or.inl rfl) (by rfl) T.g_NoBalance)) va_nil)))))))) (nfx (fx := [0]) rfl rfl))
    (vss_cons (vs_setO (i := 1) sc__law_which.nd rfl (Or.inl rfl) (vo_op o_add (ve_var 1) (vb_of (ve_frz (vo_lst (va_cons (ve_frz (vo_isEP (i := 0) (List.mem_singleton.2 rfl) hz hf (exc_c T hc) (List.mem_singleton.2 rfl) rfl (kit_NoStray T hc) (by rfl) T.b_isinstance rfl (Or.inl rfl) (by rfl) T.g_NoStray)) (va_cons (ve_frz (vo_isEP (i := 0) (List.mem_singleton.2 rfl) hz hf (exc_c T hc) (List.mem_singleton.2 rfl) rfl (kit_NoTrip T hc) (by rfl) T.b_isinstance rfl (Or.inl rfl) (by rfl) T.g_NoTrip)) (va_cons (ve_frz (vo_isEP (i := 0) (List.mem_singleton.2 rfl) hz hf (exc_c T hc) (List.mem_singleton.2 rfl) rfl (kit_NoPrice T hc) (by rfl) T.b_isinstance rfl (Or.inl rfl) (by rfl) T.g_NoPrice)) (va_cons (ve_frz (vo_isEP (i := 0) (List.mem_singleton.2 rfl) hz hf (exc_c T hc) (List.mem_singleton.2 rfl) rfl (kit_NoLine T hc) (by rfl) T.b_isinstance rfl (Or.inl rfl) (by rfl) T.g_NoLine)) va_nil)))))))) (nfx (fx := [0]) rfl rfl))
    (vss_cons (vs_setO (i := 1) sc__law_which.nd rfl (Or.inl rfl) (vo_op o_add (ve_var 1) (vb_of (ve_frz (vo_lst (va_cons (ve_frz (vo_isEP (i := 0) (List.mem_singleton.2 rfl) hz hf (exc_c T hc) (List.mem_singleton.2 rfl) rfl (kit_Gone T hc) (by rfl) T.b_isinstance rfl (Or.inl rfl) (by rfl) T.g_Gone)) (va_cons (ve_frz (vo_isEP (i := 0) (List.mem_singleton.2 rfl) hz hf (exc_c T hc) (List.mem_singleton.2 rfl) rfl (kit_Nothing T hc) (by rfl) T.b_isinstance rfl (Or.inl rfl) (by rfl) T.g_Nothing)) (va_cons (ve_frz (vo_isEP (i := 0) (List.mem_singleton.2 rfl) hz hf (exc_c T hc) (List.mem_singleton.2 rfl) rfl (kit_Clash T hc) (by rfl) T.b_isinstance rfl (Or.inl rfl) (by rfl) T.g_Clash)) (va_cons (ve_frz (vo_isEP (i := 0) (List.mem_singleton.2 rfl) hz hf (exc_c T hc) (List.mem_singleton.2 rfl) rfl (kit_NoText T hc) (by rfl) T.b_isinstance rfl (Or.inl rfl) (by rfl) T.g_NoText)) va_nil)))))))) (nfx (fx := [0]) rfl rfl))
    (vss_cons (vs_setO (i := 1) sc__law_which.nd rfl (Or.inl rfl) (vo_op o_add (ve_var 1) (vb_of (ve_frz (vo_lst (va_cons (ve_frz (vo_isEP (i := 0) (List.mem_singleton.2 rfl) hz hf (exc_c T hc) (List.mem_singleton.2 rfl) rfl (kit_TooMany T hc) (by rfl) T.b_isinstance rfl (Or.inl rfl) (by rfl) T.g_TooMany)) va_nil))))) (nfx (fx := [0]) rfl rfl))
    (vss_cons (vs_if (vt_w (vw_or (vt_not (vt_val (ve_frz (vo_isVP (i := 0) (List.mem_singleton.2 rfl) hz hf (exc_c T hc) (List.mem_singleton.2 rfl) rfl (kit_ValueError T hc) (by rfl) T.b_isinstance rfl (Or.inl rfl) (by rfl) T.b_ValueError)))) (vw_or1 (vt_cmp (o_ne hr.units) (ve_frz (vo_m PySem.F.plainAttrs_list PySem.F.slot_list_count PySem.F.type_list_count (m_list_count hr.units) (ve_var 1) (va_cons (ve_frz vo_bl) va_nil))) (vb_of (ve_frz vo_int)) (nomark _)))))
      (vss_one (vs_ret (ve_frz (vo_tup (va_cons (ve_frz vo_str) va_nil)))))
      vss_nil)
    (vss_cons (vs_if (vt_val (ve_ix hr.units (ve_var 1) (vb_of (ve_frz vo_int)) (fun _ _ => rfl)))
      (vss_one vs_never)
      vss_nil)
    (vss_cons (vs_if (vt_val (ve_ix hr.units (ve_var 1) (vb_of (ve_frz vo_int)) (fun _ _ => rfl)))
      (vss_one vs_never)
      vss_nil)
    (vss_cons (vs_if (vt_val (ve_ix hr.units (ve_var 1) (vb_of (ve_frz vo_int)) (fun _ _ => rfl)))
      (vss_one vs_never)
      vss_nil)
    (vss_cons (vs_setO (i := 2) sc__law_which.nd rfl (Or.inl rfl) (vo_lst (va_cons (ve_frz vo_str) (va_cons (ve_frz vo_str) (va_cons (ve_frz vo_str) (va_cons (ve_frz vo_str) (va_cons (ve_frz vo_str) (va_cons (ve_frz vo_str) (va_cons (ve_frz vo_str) (va_cons (ve_frz vo_str) (va_cons (ve_frz vo_str) (va_cons (ve_frz vo_str) (va_cons (ve_frz vo_str) (va_cons (ve_frz vo_str) va_nil))))))))))))) (nfx (fx := [0]) rfl rfl))
    (vss_one (vs_ret (ve_frz (vo_tup (va_cons (ve_ix hr.units (ve_frz (vo_op o_add (ve_var 2) (vb_of (ve_frz (vo_lst (va_cons (ve_frz vo_str) (va_cons (ve_frz vo_str) va_nil))))))) (vb_of (ve_frz (vo_m PySem.F.plainAttrs_list PySem.F.slot_list_index PySem.F.type_list_index (m_list_index hr.units) (ve_var 1) (va_cons (ve_frz vo_bl) va_nil)))) (fun _ _ => rfl)) va_nil)))))))))))))))
def bs__law_said (c : String) : M Fl := (vRet (lft (ks__law_which ⟨c, []⟩)))
def kt__law_said : D → Option D := fun d => some (.list [d])
def ks__law_said : Ex → Option D := ksOf cs_raised 2 bs__law_said
theorem gives__law_said {X : Cx} (T : Txt X.K X.mg A) (hrX : Room 2 X.A) {q : Str} {cdv : Value} : LamX.GivesTo X N__law_said "_law_said" (defScope s__law_said) A._law_said cdv (defBody s__law_said) "_law_call" q (TTk (zx X) (clA A Tb) kt__law_said ks__law_said) :=
  gives_said (i := 1) (CE := A.CoverError) rfl sc__law_said.nd rfl (by decide) rfl (fun s H => ⟨by rfl, rfl, .inl T.g_CoverError⟩) (fun _ => rfl) (exm_c T) fun s H c a oe pn H' hc hz hf =>
    have hr : Room 1 (X.A.deeper (PyProof.Rows.envOfC "_law_said" (defScope s__law_said) s.heap.objs.size A._law_said cdv)) := hrX.deeper _
    (vss_one (vs_ret (ve_which (i := 1) (k := 1) (c := c) (ok__law_which T) ⟨hr.dp, hr.un⟩ List.mem_cons_self hz hf (List.mem_singleton.2 rfl) rfl (by rfl) T.g__law_which T.F__law_which.kp T.B__law_which rfl (Or.inl rfl))))
def b__law_are : M Fl := (vSeq (vIf (vOrT (vNotT (vT (vIs (fun d => d.isTuple || d.isList) (vVar 0)))) (vNotT (vT (vChain dLe dLe (ret (.int 1)) (vC1 dLen (vVar 0)) (ret (.int 8))))))
      (vRet (ret (.bool false)))
      (ret .nx))
    (vRet (vAnd (vC1 dAll (vLc (vItA (vVar 0)) [1] (vSetSh 1) vYes (vCall m__law_is (vCons (vVar 1) (vCons (vOp dSub (ret (.int 0)) (vOp dPow (ret (.int 10)) (ret (.int 21)))) (vCons (vOp dPow (ret (.int 10)) (ret (.int 21))) vNil)))))) (vOp dEq (vC1 dSumA (vVar 0)) (ret (.int 0))))))
def m__law_are : List D → Option Rf := runF 1 [] 2 b__law_are
theorem ok__law_are (T : Txt K mg A)  : FnOk P w K mg base (L2.CX P w) 2 A._law_are A.fd__law_are P__law_are (spV ⟨P, w, K⟩ (clA A Tb) 1 [] false m__law_are) :=
  def_okX (k := 1) T.F__law_are sc__law_are rfl (by decide) rfl fun cdv A' outer s H vs E hr =>
    (vss_cons (vs_if (vt_w (vw_or (vt_not (vt_val (ve_frz (vo_isT (t1 := "tuple") (t2 := "list") (isTL _) (by rfl) T.b_isinstance (by rfl) T.b_tuple (by decide +kernel) (by rfl) T.b_list (by decide +kernel) (vb_of (ve_var 0)))))) (vw_or1 (vt_not (vt_chain (o_le hr.units) (o_le hr.units) (ve_frz vo_int) (ve_frz (vo_b1 c_len (by rfl) T.b_len (by decide +kernel) (vb_of (ve_var 0)))) (vb_of (ve_frz vo_int)))))))
      (vss_one (vs_ret (ve_frz vo_bl)))
      vss_nil)
    (vss_one (vs_ret (ve_and (ve_frz (vo_b1 (c_all rfl) (by rfl) T.b_all (by decide +kernel) (vb_of (ve_frz (vo_lc (rel := Sh) (own := [("_law_one", 1)]) (t := vYes) rfl sc__law_are.nd (vi_any (ve_var 0)) (blkOk_by (own := [("_law_one", 1)]) (N := N__law_are) (sc := defScope s__law_are) (by decide +kernel)) (nfxs (fx := []) rfl rfl) (fun _ _ _ _ _ _ => (vg_name (vs := [1]) (i := 1) sc__law_are.nd rfl (Or.inl rfl) (nfx (fx := []) rfl rfl) (by decide))) (fun _ _ _ _ _ _ => vts_nil) (fun _ _ _ _ _ _ => (ve_call (ok__law_is T) (hr.mono (by decide)) (by rfl) T.g__law_is T.F__law_is.kp T.B__law_is passF runF_len (va_cons (ve_var 1) (va_cons (ve_frz (vo_op o_sub (ve_frz vo_int) (vb_of (ve_frz (vo_op o_pow (ve_frz vo_int) (vb_of (ve_frz vo_int))))))) (va_cons (ve_frz (vo_op o_pow (ve_frz vo_int) (vb_of (ve_frz vo_int)))) va_nil)))))))))) (ve_one (ve_frz (vo_cmp (o_eq hr.units) (ve_frz (vo_b1 (c_sumA rfl) (by rfl) T.b_sum (by decide +kernel) (vb_of (ve_var 0)))) (vb_of (ve_frz vo_int)) (nomark _))))))))
def b__law_right : M Fl := (vSeq (vSet 1 (vCallQ m__law_balances 0 0 (vHere 0 (vCons (ret (.int 8)) vNil))))
    (vSeq (vSetO 2 (vLst (vCons (vVar 1) (vCons (vOp dAdd (vC1 dList (vVar 1)) (vLst (vCons (ret (.int 1)) vNil))) (vCons (vOp dMul (vLst (vCons (ret (.int 0)) vNil)) (ret (.int 9))) (vCons (vTup vNil) (vCons (vLst vNil) (vCons (vLst (vCons (ret (.int 0)) (vCons (ret (.bool true)) (vCons (vNeg (ret (.int 1))) vNil)))) (vCons (vLst (vCons (ret (.int 1)) (vCons (vNeg (ret (.int 1))) (vCons (ret .none) vNil)))) (vCons (vLst (vCons (vOp dPow (ret (.int 10)) (ret (.int 19))) (vCons (vOp dSub (ret (.int 0)) (vOp dPow (ret (.int 10)) (ret (.int 19)))) vNil))) vNil))))))))))
    (vSeqL (vFor (vRng1 (ret (.int 8))) (vSetSh 3)
      (vDrop (vMW "list" dAppend 2 (vCons (vCallQ m__law_bent 0 0 (vHere 0 (vCons (vVar 1) (vCons (ret (.int 1)) vNil)))) vNil))))
    (vSeqL (vFor (vItA (vOpN dAdd 2 (vLst (vCons (vCallQ m__law_odd 0 0 (vHere 0 vNil)) vNil)))) (vSetSh 4)
      (vSeq (vSetO 5 (vC1 dReprA (vVar 4)))
      (vSeq (vSetO 6 (vLst (vCons (vKind kt__law_said ks__law_said (vCall m_fewest_payments (vCons (vVar 4) vNil))) vNil)))
      (vSeq (vDrop (vMW "list" dAppend 6 (vCons (vKind kt__law_said ks__law_said (vCall m_groups (vCons (vVar 4) vNil))) vNil)))
      (vSeq (vDrop (vMW "list" dAppend 6 (vCons (vKind kt__law_said ks__law_said (vCall m_payments (vCons (vVar 4) vNil))) vNil)))
      (vSeq (vDrop (vMW "list" dAppend 6 (vCons (vKind kt__law_said ks__law_said (vCall m_settles (vCons (vVar 4) (vCons (ret .none) vNil)))) vNil)))
      (vSeq (vIf (vAndT (vNotT (vT (vCall m__law_are (vCons (vVar 4) vNil)))) (vT (vOpN dNe 6 (vOp dMul (vLst (vCons (vTup (vCons (ret (.str "balance")) vNil)) vNil)) (ret (.int 4))))))
        (vRet (ret (.bool false)))
        (ret .nx))
      (vSeq (vIf (vAndT (vT (vCall m__law_are (vCons (vVar 4) vNil))) (vT (vOp dNe (vLcN 6 [7] (vSetSh 7) (vNotT (vT (vIs PyData.isList (vVar 7)))) (vVar 7)) (vLst vNil))))
        (vRet (ret (.bool false)))
        (ret .nx))
      (vIf (vT (vOp dNe (vC1 dReprA (vVar 4)) (vVar 5)))
        (vRet (ret (.bool false)))
        (ret .nx))))))))))
    (vRet (ret (.bool true)))))))
def m__law_right : List D → Option Rf := runF 1 [0] 8 b__law_right
theorem ok__law_right (T : Txt K mg A) (SB : SysB base) {c__law_right Pt__law_right : Addr} (hcv__law_right : A.fd__law_right.code = .ref c__law_right) (TB__law_right : LamX.TabB base mg c__law_right Pt__law_right) (hmT__law_right : (Pt__law_right, ((PyProof.Rows.envOfC "_law_right" (defScope s__law_right) 0 0 .none).qual ++ "<lambda>")) ∈ Tb) (hu__law_right : ∀ p ∈ Tb, p.1 = Pt__law_right → p.2 = ((PyProof.Rows.envOfC "_law_right" (defScope s__law_right) 0 0 .none).qual ++ "<lambda>")) : FnG P w K mg base (L2.CX P w) 16 A._law_right A.fd__law_right P__law_right (spV ⟨P, w, K⟩ (clA A Tb) 1 [0] false m__law_right) := by
  obtain ⟨_, _, _, _, _, _, cd__law_said, _, _, e__law_said, lk__law_said, hc__law_said⟩ := T.F__law_said.ex
  have bK__law_said := T.B__law_said
  rw [e__law_said] at lk__law_said bK__law_said
  exact def_okGC (k := 15) T.F__law_right sc__law_right rfl (by decide) rfl fun cdv hcd A' outer s H vs E hr hG =>
    (vss_cons (vs_set (i := 1) sc__law_right.nd rfl (Or.inl rfl) (ve_callQ (ok__law_balances T) (hr.mono (by decide)) (by rfl) T.g__law_balances T.F__law_balances.kp T.B__law_balances (passes_call (takes_of rfl rfl rfl rfl) (fun _ _ _ _ h => h)) runF_len (vq_here 0 (va_cons (ve_frz vo_int) va_nil))) (nfx (fx := [0]) rfl rfl))
    (vss_cons (vs_setO (i := 2) sc__law_right.nd rfl (Or.inl rfl) (vo_lst (va_cons (ve_var 1) (va_cons (ve_frz (vo_op o_add (ve_frz (vo_t1 c_list (by rfl) T.b_list (by decide +kernel) (vb_of (ve_var 1)))) (vb_of (ve_frz (vo_lst (va_cons (ve_frz vo_int) va_nil)))))) (va_cons (ve_frz (vo_op o_mul (ve_frz (vo_lst (va_cons (ve_frz vo_int) va_nil))) (vb_of (ve_frz vo_int)))) (va_cons (ve_frz (vo_tup va_nil)) (va_cons (ve_frz (vo_lst va_nil)) (va_cons (ve_frz (vo_lst (va_cons (ve_frz vo_int) (va_cons (ve_frz vo_bl) (va_cons (ve_frz (vo_neg (ve_frz vo_int))) va_nil))))) (va_cons (ve_frz (vo_lst (va_cons (ve_frz vo_int) (va_cons (ve_frz (vo_neg (ve_frz vo_int))) (va_cons (ve_frz vo_non) va_nil))))) (va_cons (ve_frz (vo_lst (va_cons (ve_frz (vo_op o_pow (ve_frz vo_int) (vb_of (ve_frz vo_int)))) (va_cons (ve_frz (vo_op o_sub (ve_frz vo_int) (vb_of (ve_frz (vo_op o_pow (ve_frz vo_int) (vb_of (ve_frz vo_int))))))) va_nil)))) va_nil))))))))) (nfx (fx := [0]) rfl rfl))
    (vss_cons (vs_for (rel := Sh) (passes_of rfl) rfl (vi_rng1 (by rfl) T.b_range (ve_frz vo_int)) (vg_name (vs := [3]) (i := 3) sc__law_right.nd rfl (Or.inl rfl) (nfx (fx := [0]) rfl rfl) (by decide))
      (vss_one (vs_exprE (ve_mw 2 PySem.F.plainAttrs_list PySem.F.slot_list_append PySem.F.type_list_append m_append (va_cons (ve_callQ (ok__law_bent T) (hr.mono (by decide)) (by rfl) T.g__law_bent T.F__law_bent.kp T.B__law_bent (passes_call (takes_of rfl rfl rfl rfl) (fun _ _ _ _ h => h)) (mm__law_bent_len _) (vq_here 0 (va_cons (ve_var 1) (va_cons (ve_frz vo_int) va_nil)))) va_nil)))))
    (vss_cons (vs_for (rel := Sh) (passes_of rfl) rfl (vi_any (ve_frz (vo_opN 2 o_add (vb_of (ve_frz (vo_lst (va_cons (ve_callQ (ok__law_odd T) (hr.mono (by decide)) (by rfl) T.g__law_odd T.F__law_odd.kp T.B__law_odd (passes_call (takes_of rfl rfl rfl rfl) (fun _ _ _ _ h => h)) runF_len (vq_here 0 va_nil)) va_nil))))))) (vg_name (vs := [4]) (i := 4) sc__law_right.nd rfl (Or.inr rfl) (nfx (fx := [0]) rfl rfl) (by decide))
      (vss_cons (vs_setO (i := 5) sc__law_right.nd rfl (Or.inl rfl) (vo_reprA SB hG hr.units (by rfl) T.b_repr (ve_var 4)) (nfx (fx := [0]) rfl rfl))
      (vss_cons (vs_setO (i := 6) sc__law_right.nd rfl (Or.inl rfl) (vo_lst (va_cons (ve_kind (T := Tb) (kt := kt__law_said) (ks := ks__law_said) (k := 13) rfl rfl (by rfl) T.g__law_said T.F__law_said.kp lk__law_said hc__law_said bK__law_said sc__law_said rfl (Or.inl rfl) (gives__law_said T (hr.mono (by decide))) rfl TB__law_right (hcd.symm.trans hcv__law_right) hmT__law_right hu__law_right (hr.mono (by decide)) (LamX.lamS_by (by show LamX.lamSB (defScope s__law_right) _ = true; decide +kernel)) rfl (fun _ _ _ _ _ => rfl) (fun _ _ _ _ _ _ _ hr _ => (ve_call (ok_fewest_payments T) (hr.mono (by decide)) (by rfl) T.g_fewest_payments T.F_fewest_payments.kp T.B_fewest_payments (passes_call (takes_of rfl rfl rfl rfl) (fun _ _ _ _ h => h)) runF_len (va_cons (ve_var 4) va_nil)))) va_nil)) (nfx (fx := [0]) rfl rfl))
      (vss_cons (vs_exprE (ve_mw 6 PySem.F.plainAttrs_list PySem.F.slot_list_append PySem.F.type_list_append m_append (va_cons (ve_kind (T := Tb) (kt := kt__law_said) (ks := ks__law_said) (k := 12) rfl rfl (by rfl) T.g__law_said T.F__law_said.kp lk__law_said hc__law_said bK__law_said sc__law_said rfl (Or.inl rfl) (gives__law_said T (hr.mono (by decide))) rfl TB__law_right (hcd.symm.trans hcv__law_right) hmT__law_right hu__law_right (hr.mono (by decide)) (LamX.lamS_by (by show LamX.lamSB (defScope s__law_right) _ = true; decide +kernel)) rfl (fun _ _ _ _ _ => rfl) (fun _ _ _ _ _ _ _ hr _ => (ve_call (ok_groups T) (hr.mono (by decide)) (by rfl) T.g_groups T.F_groups.kp T.B_groups (passes_call (takes_of rfl rfl rfl rfl) (fun _ _ _ _ h => h)) runF_len (va_cons (ve_var 4) va_nil)))) va_nil)))
      (vss_cons (vs_exprE (ve_mw 6 PySem.F.plainAttrs_list PySem.F.slot_list_append PySem.F.type_list_append m_append (va_cons (ve_kind (T := Tb) (kt := kt__law_said) (ks := ks__law_said) (k := 13) rfl rfl (by rfl) T.g__law_said T.F__law_said.kp lk__law_said hc__law_said bK__law_said sc__law_said rfl (Or.inl rfl) (gives__law_said T (hr.mono (by decide))) rfl TB__law_right (hcd.symm.trans hcv__law_right) hmT__law_right hu__law_right (hr.mono (by decide)) (LamX.lamS_by (by show LamX.lamSB (defScope s__law_right) _ = true; decide +kernel)) rfl (fun _ _ _ _ _ => rfl) (fun _ _ _ _ _ _ _ hr _ => (ve_call (ok_payments T) (hr.mono (by decide)) (by rfl) T.g_payments T.F_payments.kp T.B_payments (passes_call (takes_of rfl rfl rfl rfl) (fun _ _ _ _ h => h)) runF_len (va_cons (ve_var 4) va_nil)))) va_nil)))
      (vss_cons (vs_exprE (ve_mw 6 PySem.F.plainAttrs_list PySem.F.slot_list_append PySem.F.type_list_append m_append (va_cons (ve_kind (T := Tb) (kt := kt__law_said) (ks := ks__law_said) (k := 3) rfl rfl (by rfl) T.g__law_said T.F__law_said.kp lk__law_said hc__law_said bK__law_said sc__law_said rfl (Or.inl rfl) (gives__law_said T (hr.mono (by decide))) rfl TB__law_right (hcd.symm.trans hcv__law_right) hmT__law_right hu__law_right (hr.mono (by decide)) (LamX.lamS_by (by show LamX.lamSB (defScope s__law_right) _ = true; decide +kernel)) rfl (fun _ _ _ _ _ => rfl) (fun _ _ _ _ _ _ _ hr _ => (ve_call (ok_settles T) (hr.mono (by decide)) (by rfl) T.g_settles T.F_settles.kp T.B_settles (passes_call (takes_of rfl rfl rfl rfl) (fun _ _ _ _ h => h)) runF_len (va_cons (ve_var 4) (va_cons (ve_frz vo_non) va_nil))))) va_nil)))
      (vss_cons (vs_if (vt_w (vw_and (vt_not (vt_val (ve_call (ok__law_are T) (hr.mono (by decide)) (by rfl) T.g__law_are T.F__law_are.kp T.B__law_are (passes_call (takes_of rfl rfl rfl rfl) (fun _ _ _ _ h => h)) runF_len (va_cons (ve_var 4) va_nil)))) (vw_and1 (vt_cmpN 6 (o_ne hr.units) (vb_of (ve_frz (vo_op o_mul (ve_frz (vo_lst (va_cons (ve_frz (vo_tup (va_cons (ve_frz vo_str) va_nil))) va_nil))) (vb_of (ve_frz vo_int))))) (nomark _)))))
        (vss_one (vs_ret (ve_frz vo_bl)))
        vss_nil)
      (vss_cons (vs_if (vt_w (vw_and (vt_val (ve_call (ok__law_are T) (hr.mono (by decide)) (by rfl) T.g__law_are T.F__law_are.kp T.B__law_are (passes_call (takes_of rfl rfl rfl rfl) (fun _ _ _ _ h => h)) runF_len (va_cons (ve_var 4) va_nil))) (vw_and1 (vt_cmp (o_ne hr.units) (ve_frz (vo_lcN (i := 6) (own := [("_law_one", 7)]) (t := (vNotT (vT (vIs PyData.isList (vVar 7))))) rfl sc__law_right.nd (blkOk_by (own := [("_law_one", 7)]) (N := N__law_right) (sc := defScope s__law_right) (by decide +kernel)) (nfxs (fx := [0]) rfl rfl) (nfx (fx := [0]) rfl rfl) (fun _ _ _ _ _ _ => (vg_name (vs := [7]) (i := 7) sc__law_right.nd rfl (Or.inl rfl) (nfx (fx := [0]) rfl rfl) (by decide))) (fun _ _ _ _ _ _ => (vts_one (vt_not (vt_val (ve_frz (vo_is (x := "") c_is_list (by rfl) T.b_isinstance (by rfl) T.b_list (by decide +kernel) (vb_of (ve_var 7)))))))) (fun _ _ _ _ _ _ => (ve_var 7)))) (vb_of (ve_frz (vo_lst va_nil))) (nomark _)))))
        (vss_one (vs_ret (ve_frz vo_bl)))
        vss_nil)
      (vss_one (vs_if (vt_cmp (o_ne hr.units) (ve_frz (vo_reprA SB hG hr.units (by rfl) T.b_repr (ve_var 4))) (vb_of (ve_var 5)) (nomark _))
        (vss_one (vs_ret (ve_frz vo_bl)))
        vss_nil))))))))))
    (vss_one (vs_ret (ve_frz vo_bl)))))))
def b_law : M Fl := (vSeqL (vFor (vRng1 (vCN dMax2 (vCons (ret (.int 1)) (vCons (vCN dMin2 (vCons (vC1 dLen (vVar 0)) (vCons (ret (.int 4)) vNil))) vNil)))) (vSetSh 1)
      (vFor (vRng1 (ret (.int 2))) (vSetSh 2)
        (vIf (vNotT (vT (vCallF m__law_right (vCall m__law_box (vCons (vVar 0) (vCons (vVar 1) (vCons (vVar 2) vNil)))))))
          (vRet (ret (.bool false)))
          (ret .nx))))
    (vRet (ret (.bool true))))
def m_law : List D → Option Rf := runF 1 [] 3 b_law
theorem ok_law (T : Txt K mg A) (SB : SysB base) {c__law_right Pt__law_right : Addr} (hcv__law_right : A.fd__law_right.code = .ref c__law_right) (TB__law_right : LamX.TabB base mg c__law_right Pt__law_right) (hmT__law_right : (Pt__law_right, ((PyProof.Rows.envOfC "_law_right" (defScope s__law_right) 0 0 .none).qual ++ "<lambda>")) ∈ Tb) (hu__law_right : ∀ p ∈ Tb, p.1 = Pt__law_right → p.2 = ((PyProof.Rows.envOfC "_law_right" (defScope s__law_right) 0 0 .none).qual ++ "<lambda>")) : FnG P w K mg base (L2.CX P w) 17 A.law A.fd_law P_law (spV ⟨P, w, K⟩ (clA A Tb) 1 [] false m_law) :=
  def_okG (k := 16) T.F_law sc_law rfl (by decide) rfl fun cdv A' outer s H vs E hr hG =>
    (vss_cons (vs_for (rel := Sh) (passes_of rfl) rfl (vi_rng1 (by rfl) T.b_range (ve_frz (vo_bN (c_max2 rfl) (by rfl) T.b_max (by decide +kernel) (va_cons (ve_frz vo_int) (va_cons (ve_frz (vo_bN (c_min2 rfl) (by rfl) T.b_min (by decide +kernel) (va_cons (ve_frz (vo_b1 c_len (by rfl) T.b_len (by decide +kernel) (vb_of (ve_var 0)))) (va_cons (ve_frz vo_int) va_nil)))) va_nil))))) (vg_name (vs := [1]) (i := 1) sc_law.nd rfl (Or.inl rfl) (nfx (fx := []) rfl rfl) (by decide))
      (vss_one (vs_for (rel := Sh) (passes_of rfl) rfl (vi_rng1 (by rfl) T.b_range (ve_frz vo_int)) (vg_name (vs := [2]) (i := 2) sc_law.nd rfl (Or.inl rfl) (nfx (fx := []) rfl rfl) (by decide))
        (vss_one (vs_if (vt_not (vt_val (ve_callGF (ok__law_right T SB hcv__law_right TB__law_right hmT__law_right hu__law_right) hG (hr.mono (by decide)) (by rfl) T.g__law_right T.F__law_right.kp T.B__law_right (passes_call (takes_of rfl rfl rfl rfl) (fun _ _ _ _ h => h)) (vo_call (ok__law_box T) (hr.mono (by decide)) (by rfl) T.g__law_box T.F__law_box.kp T.B__law_box (passes_call (takes_of rfl rfl rfl rfl) (fun _ _ _ _ h => h)) runF_len (va_cons (ve_var 0) (va_cons (ve_var 1) (va_cons (ve_var 2) va_nil)))))))
          (vss_one (vs_ret (ve_frz vo_bl)))
          vss_nil)))))
    (vss_one (vs_ret (ve_frz vo_bl))))
end Cv
end
section
namespace Cv
open PySem L2
local macro_rules
  | `(tactic| simp_arith) => `(tactic| try simp only [fw_run, wp_ret, wp_bnd, wp_no, wp_lft, wl_some, wl_none, wl_if, wo_some, wp_var, wp_get, wp_getO, wp_putO, wp_setSh, wp_setOw, wp_op, wp_opN, wp_T, wp_chain, wp_and, wp_or, wp_not, wp_notT, wp_andT, wp_orT, wp_if, wp_nil, wp_cons, wp_tup, wp_lst, wp_c1, wp_cN, wp_seq, wp_drop, wp_rt, wp_rtN, wp_set, wp_setO, wp_asg, wp_gtup, wp_gcons, wp_gnil, wp_par, wp_par3, wp_par3M, wp_par3E, wp_parG, wp_parF, wp_parE, wp_put, wp_for0, wp_itL, wp_itT, wp_itK, wp_callL, wp_mN, wp_m, wp_itA, wit_list, wit_tup, wit_dict, wp_listRg, wp_rng1, wp_rng2, wp_enum, wp_zip, wp_zipT, wp_call, wp_callF, wp_kind, hid_nil, hid_cons, hidO_sh, hidO_ow, hidO_none, wp_here, wp_callQ, wp_raise, wp_lc0, vRetNone, vYes, vDict0, wl_add, wl_addT, wl_addL, wl_sub, wl_mul, wl_mulL, wl_mod, wl_fdiv, wl_divmod, wl_lt, wl_gt, wl_le, wl_ge, wl_eq, wl_ne, wl_lenL, wl_lenT, wl_lenD, wl_ixL, wl_ixT, wl_setL, wl_abs, wl_max2, wl_min2, wl_intB, wl_tupL, wl_tupT, wl_listL, wl_listT, wl_sumL, wl_sumT, wl_eqL, wl_neL, wl_eqL0, wl_neL0, wl_pow18, wl_pow19, wl_pow21, ent, entL, outsOf, noOwn, wipeE, backE, isC_list, isC_dict, isC_tup, isC_int, isC_bool, isC_str, isC_none, isC_tI, isC_dOf, wl_setI, wl_ixI, wl_inI, wl_niI, wp_is, wp_mw, wp_neg, wp_sl, wp_slN, wl_slLtN, wl_slLdN, wl_slLdN1, wl_slTtN, wl_slTdN, wl_slTdN1, wl_rev, wp_part, wp_noPart, wr_append, wr_extend, ty_list, wl_neg, wl_sl1T, wl_slT1, wl_slL1, wl_eqT0, wl_sl1L, wl_all, wl_any, isInt_int, isBool_int, isTuple_tup, isTuple_tI, wl_lenI, wl_ixtI, wl_inL, wl_niL, wl_inT, wl_inT2, wl_ltT, wl_lt2, Option.map_some, Bool.not_not, wl_set4, wl_set2, wl_set3, wl_ixt, wl_ix2, wl_ni2, List.all_cons, List.all_nil, List.length_cons, List.length_nil, Nat.reduceAdd, Nat.reduceSub, Nat.reduceLeDiff, List.contains_cons, List.contains_nil, List.replicate, List.cons_append, List.nil_append, List.append_nil, if_true, if_false, ↓reduceIte, true_and, and_true, true_implies, false_implies, implies_true, reduceCtorEq, List.getElem?_cons_zero, List.getElem?_cons_succ, List.getElem?_nil, List.set_cons_zero, List.set_cons_succ, Option.join_some, Option.join_none, Option.isSome_some, atI_0, atI_1, atI_2, atI_3, atI_4, ixN_0, ixN_1, List.take_zero, List.drop_zero, List.take_succ_cons, List.drop_succ_cons, Bool.or_false, Bool.or_true, Bool.true_or, Bool.false_or, Bool.and_true, Bool.and_false, Bool.true_and, Bool.false_and, Bool.not_true, Bool.not_false, Bool.false_eq_true, Bool.not_eq_true', Bool.not_eq_false', Bool.not_eq_eq_eq_not, decide_eq_true_eq, decide_eq_false_iff_not, decide_true, decide_false, Nat.reduceBEq, beq_self_eq_true, Int.reduceLT, Int.reduceLE, Int.reduceNeg, Int.reducePow, Int.reduceToNat, Int.not_lt])
local macro_rules
  | `(tactic| simp_arith [$xs,*] $[$l]?) => `(tactic| simp only [fw_run, wp_ret, wp_bnd, wp_no, wp_lft, wl_some, wl_none, wl_if, wo_some, wp_var, wp_get, wp_getO, wp_putO, wp_setSh, wp_setOw, wp_op, wp_opN, wp_T, wp_chain, wp_and, wp_or, wp_not, wp_notT, wp_andT, wp_orT, wp_if, wp_nil, wp_cons, wp_tup, wp_lst, wp_c1, wp_cN, wp_seq, wp_drop, wp_rt, wp_rtN, wp_set, wp_setO, wp_asg, wp_gtup, wp_gcons, wp_gnil, wp_par, wp_par3, wp_par3M, wp_par3E, wp_parG, wp_parF, wp_parE, wp_put, wp_for0, wp_itL, wp_itT, wp_itK, wp_callL, wp_mN, wp_m, wp_itA, wit_list, wit_tup, wit_dict, wp_listRg, wp_rng1, wp_rng2, wp_enum, wp_zip, wp_zipT, wp_call, wp_callF, wp_kind, hid_nil, hid_cons, hidO_sh, hidO_ow, hidO_none, wp_here, wp_callQ, wp_raise, wp_lc0, vRetNone, vYes, vDict0, wl_add, wl_addT, wl_addL, wl_sub, wl_mul, wl_mulL, wl_mod, wl_fdiv, wl_divmod, wl_lt, wl_gt, wl_le, wl_ge, wl_eq, wl_ne, wl_lenL, wl_lenT, wl_lenD, wl_ixL, wl_ixT, wl_setL, wl_abs, wl_max2, wl_min2, wl_intB, wl_tupL, wl_tupT, wl_listL, wl_listT, wl_sumL, wl_sumT, wl_eqL, wl_neL, wl_eqL0, wl_neL0, wl_pow18, wl_pow19, wl_pow21, ent, entL, outsOf, noOwn, wipeE, backE, isC_list, isC_dict, isC_tup, isC_int, isC_bool, isC_str, isC_none, isC_tI, isC_dOf, wl_setI, wl_ixI, wl_inI, wl_niI, wp_is, wp_mw, wp_neg, wp_sl, wp_slN, wl_slLtN, wl_slLdN, wl_slLdN1, wl_slTtN, wl_slTdN, wl_slTdN1, wl_rev, wp_part, wp_noPart, wr_append, wr_extend, ty_list, wl_neg, wl_sl1T, wl_slT1, wl_slL1, wl_eqT0, wl_sl1L, wl_all, wl_any, isInt_int, isBool_int, isTuple_tup, isTuple_tI, wl_lenI, wl_ixtI, wl_inL, wl_niL, wl_inT, wl_inT2, wl_ltT, wl_lt2, Option.map_some, Bool.not_not, wl_set4, wl_set2, wl_set3, wl_ixt, wl_ix2, wl_ni2, List.all_cons, List.all_nil, List.length_cons, List.length_nil, Nat.reduceAdd, Nat.reduceSub, Nat.reduceLeDiff, List.contains_cons, List.contains_nil, List.replicate, List.cons_append, List.nil_append, List.append_nil, if_true, if_false, ↓reduceIte, true_and, and_true, true_implies, false_implies, implies_true, reduceCtorEq, List.getElem?_cons_zero, List.getElem?_cons_succ, List.getElem?_nil, List.set_cons_zero, List.set_cons_succ, Option.join_some, Option.join_none, Option.isSome_some, atI_0, atI_1, atI_2, atI_3, atI_4, ixN_0, ixN_1, List.take_zero, List.drop_zero, List.take_succ_cons, List.drop_succ_cons, Bool.or_false, Bool.or_true, Bool.true_or, Bool.false_or, Bool.and_true, Bool.and_false, Bool.true_and, Bool.false_and, Bool.not_true, Bool.not_false, Bool.false_eq_true, Bool.not_eq_true', Bool.not_eq_false', Bool.not_eq_eq_eq_not, decide_eq_true_eq, decide_eq_false_iff_not, decide_true, decide_false, Nat.reduceBEq, beq_self_eq_true, Int.reduceLT, Int.reduceLE, Int.reduceNeg, Int.reducePow, Int.reduceToNat, Int.not_lt, $xs,*] $[$l]?)
/-! families behind the nets: the box of digits, a number -/
theorem mul_r {i j : Int} (h1 : -(2 ^ 64) < j) (h2 : j < 2 ^ 64) : CMul i j := .inr ⟨h1, h2⟩
theorem mul_l {i j : Int} (h1 : -(2 ^ 64) < i) (h2 : i < 2 ^ 64) : CMul i j := .inl ⟨h1, h2⟩
theorem mem_rngD {lo : Int} {n : Nat} {d : D} (h : d ∈ rngD lo n) : ∃ k : Nat, k < n ∧ d = .int (lo + k) := by
  obtain ⟨k, hk, rfl⟩ := List.mem_map.1 h
  exact ⟨k, List.mem_range.1 hk, rfl⟩
abbrev b1 (n : Int) : D := .list [.int n]
theorem cell_ok {E : Ex → Prop} {ns : List Int} {k : Nat} {q : D → List D → Prop} (h : ∀ c, q (.int c) []) : Fw E m__law_cell [.list (ns.map .int), .int k] q := by
  unfold m__law_cell b__law_cell
  simp_arith []
  refine ⟨fun hl => ?_, fun _ => h 0⟩
  have hl2 : k < (ns.map PyData.int).length := by omega
  rw [atI_n, List.getElem?_map, List.getElem?_eq_getElem (by simpa using hl2)]
  simp_arith []
  exact h _
theorem mix_ok {E : Ex → Prop} {c : Int} {k : Nat} {q : D → List D → Prop} (hk : k < 1000) (h : ∀ m, q (.int m) []) : Fw E m__law_mix [.int c, .int k] q := by
  unfold m__law_mix b__law_mix
  simp_arith []
  have h13 : ∃ j : Nat, j < 13 ∧ (k : Int) % 13 = j := ⟨k % 13, by omega, by omega⟩
  obtain ⟨j, hj, e⟩ := h13
  rw [e, atI_n]
  have hg : ∀ (xs : List D), (∀ d ∈ xs, ∃ i : Int, 0 ≤ i ∧ i < 2 ^ 64 ∧ d = .int i) → xs.length = 13 → ∀ p : D → Prop, (∀ i : Int, 0 ≤ i → i < 2 ^ 64 → p (.int i)) → Wl xs[j]? p := by
    intro xs hx hl p hp
    rw [List.getElem?_eq_getElem (by omega)]
    obtain ⟨i, h1, h2, h3⟩ := hx _ (List.getElem_mem (by omega : j < xs.length))
    rw [h3]
    exact hp i h1 h2
  refine hg _ ?_ rfl _ ?_
  · intro d hd
    simp only [List.mem_cons, List.not_mem_nil, or_false] at hd
    rcases hd with rfl | rfl | rfl | rfl | rfl | rfl | rfl | rfl | rfl | rfl | rfl | rfl | rfl <;> exact ⟨_, by decide, by decide, rfl⟩
  · intro i hi1 hi2
    simp_arith []
    refine ⟨mul_r (by omega) hi2, mul_l (by decide) (by decide), by decide, mul_l (by decide) (by decide), mul_l ?_ ?_, mul_l (by decide) (by decide), by decide, h _⟩
    all_goals
      generalize (c % 2147483647 + 12345) * i + 977 * (k : Int) + 7919 * ((k : Int) / 13) = u
      omega
theorem box_ok {E : Ex → Prop} {ns : List Int} {k lap : Nat} {q : D → List D → Prop} (hl : lap < 2) (h : ∀ n, q (b1 n) []) : Fw E m__law_box [.list (ns.map .int), .int k, .int lap] q := by
  unfold m__law_box b__law_box
  simp_arith []
  refine cell_ok fun c => ?_
  have loop : ∀ (q' : Fl → Ev → Prop) (a b : D) (oa : Option Sl), (∀ m oj, q' .nx [some ⟨false, a⟩, some ⟨false, b⟩, some ⟨false, .int lap⟩, some ⟨false, .int c⟩, some ⟨false, .int m⟩, oj]) → Wp E (vForL (vSetSh 5) ((vSetO 4 (vOp dAdd (vOp dMul (vVar 4) (ret (.int 142857143))) (vCall m__law_mix (vCons (vVar 3) (vCons (vOp dAdd (vOp dMul (ret (.int 90)) (vVar 2)) (vVar 5)) vNil)))))) (rngD 0 90)) [some ⟨false, a⟩, some ⟨false, b⟩, some ⟨false, .int lap⟩, some ⟨false, .int c⟩, some ⟨false, .int 0⟩, oa] q' := by
    intro q' a b oa hq
    refine wp_for (fun xs ρ => (∀ x ∈ xs, ∃ k : Nat, k < 90 ∧ x = .int (0 + k)) ∧ ∃ m oj, ρ = [some ⟨false, a⟩, some ⟨false, b⟩, some ⟨false, .int lap⟩, some ⟨false, .int c⟩, some ⟨false, .int m⟩, oj]) ?_ ?_ _ _ ⟨fun x hx => mem_rngD hx, _, _, rfl⟩
    · rintro x r ρ ⟨hx, m, oj, rfl⟩
      obtain ⟨k, hk, rfl⟩ := hx x (by simp)
      simp_arith []
      refine ⟨mul_r (by decide) (by decide), mul_l (by decide) (by decide), ?_⟩
      have e : (90 : Int) * (lap : Int) + (0 + (k : Int)) = ((90 * lap + k : Nat) : Int) := by omega
      rw [e]
      refine mix_ok (by omega) fun m => ?_
      exact ⟨fun x hm => hx x (by simp [hm]), _, _, rfl⟩
    · rintro ρ ⟨_, m, oj, rfl⟩
      exact hq _ _
  simp_arith []
  refine ⟨fun _ => ⟨fun _ => ⟨by decide, h _⟩, fun _ => loop _ _ _ _ fun m oj => ?_⟩, fun _ => loop _ _ _ _ fun m oj => ?_⟩
  all_goals
    simp_arith []
    exact h _
theorem take_ok {E : Ex → Prop} {n c : Int} {q : D → List D → Prop} (h0 : 0 < c) (h1 : c < 2 ^ 128) (h : ∀ (x : Nat) n', (x : Int) < c → q (.int x) [b1 n']) : Fw E m__law_take [b1 n, .int c] q := by
  have hl : c.natAbs.log2 < 9000 := by
    have : c.natAbs < 2 ^ 128 := by omega
    rcases Nat.eq_zero_or_pos c.natAbs with h | h
    · rw [h]; decide
    · have := (Nat.log2_lt (by omega)).2 this
      omega
  unfold m__law_take b__law_take
  simp_arith []
  have h2 := Int.emod_nonneg n (show c ≠ 0 by omega)
  have h3 := Int.emod_lt_of_pos n h0
  obtain ⟨x, hx⟩ := Int.eq_ofNat_of_zero_le h2
  rw [hx]
  exact ⟨⟨h0, hl⟩, h x _ (by omega)⟩

end Cv
end
section
namespace Cv
open PySem L2
local macro_rules
  | `(tactic| simp_arith) => `(tactic| try simp only [fw_run, wp_ret, wp_bnd, wp_no, wp_lft, wl_some, wl_none, wl_if, wo_some, wp_var, wp_get, wp_getO, wp_putO, wp_setSh, wp_setOw, wp_op, wp_opN, wp_T, wp_chain, wp_and, wp_or, wp_not, wp_notT, wp_andT, wp_orT, wp_if, wp_nil, wp_cons, wp_tup, wp_lst, wp_c1, wp_cN, wp_seq, wp_drop, wp_rt, wp_rtN, wp_set, wp_setO, wp_asg, wp_gtup, wp_gcons, wp_gnil, wp_par, wp_par3, wp_par3M, wp_par3E, wp_parG, wp_parF, wp_parE, wp_put, wp_for0, wp_itL, wp_itT, wp_itK, wp_callL, wp_mN, wp_m, wp_itA, wit_list, wit_tup, wit_dict, wp_listRg, wp_rng1, wp_rng2, wp_enum, wp_zip, wp_zipT, wp_call, wp_callF, wp_kind, hid_nil, hid_cons, hidO_sh, hidO_ow, hidO_none, wp_here, wp_callQ, wp_raise, wp_lc0, vRetNone, vYes, vDict0, wl_add, wl_addT, wl_addL, wl_sub, wl_mul, wl_mulL, wl_mod, wl_fdiv, wl_divmod, wl_lt, wl_gt, wl_le, wl_ge, wl_eq, wl_ne, wl_lenL, wl_lenT, wl_lenD, wl_ixL, wl_ixT, wl_setL, wl_abs, wl_max2, wl_min2, wl_intB, wl_tupL, wl_tupT, wl_listL, wl_listT, wl_sumL, wl_sumT, wl_eqL, wl_neL, wl_eqL0, wl_neL0, wl_pow18, wl_pow19, wl_pow21, ent, entL, outsOf, noOwn, wipeE, backE, isC_list, isC_dict, isC_tup, isC_int, isC_bool, isC_str, isC_none, isC_tI, isC_dOf, wl_setI, wl_ixI, wl_inI, wl_niI, wp_is, wp_mw, wp_neg, wp_sl, wp_slN, wl_slLtN, wl_slLdN, wl_slLdN1, wl_slTtN, wl_slTdN, wl_slTdN1, wl_rev, wp_part, wp_noPart, wr_append, wr_extend, ty_list, wl_neg, wl_sl1T, wl_slT1, wl_slL1, wl_eqT0, wl_sl1L, wl_all, wl_any, isInt_int, isBool_int, isTuple_tup, isTuple_tI, wl_lenI, wl_ixtI, wl_inL, wl_niL, wl_inT, wl_inT2, wl_ltT, wl_lt2, Option.map_some, Bool.not_not, wl_set4, wl_set2, wl_set3, wl_ixt, wl_ix2, wl_ni2, List.all_cons, List.all_nil, List.length_cons, List.length_nil, Nat.reduceAdd, Nat.reduceSub, Nat.reduceLeDiff, List.contains_cons, List.contains_nil, List.replicate, List.cons_append, List.nil_append, List.append_nil, if_true, if_false, ↓reduceIte, true_and, and_true, true_implies, false_implies, implies_true, reduceCtorEq, List.getElem?_cons_zero, List.getElem?_cons_succ, List.getElem?_nil, List.set_cons_zero, List.set_cons_succ, Option.join_some, Option.join_none, Option.isSome_some, atI_0, atI_1, atI_2, atI_3, atI_4, ixN_0, ixN_1, List.take_zero, List.drop_zero, List.take_succ_cons, List.drop_succ_cons, Bool.or_false, Bool.or_true, Bool.true_or, Bool.false_or, Bool.and_true, Bool.and_false, Bool.true_and, Bool.false_and, Bool.not_true, Bool.not_false, Bool.false_eq_true, Bool.not_eq_true', Bool.not_eq_false', Bool.not_eq_eq_eq_not, decide_eq_true_eq, decide_eq_false_iff_not, decide_true, decide_false, Nat.reduceBEq, beq_self_eq_true, Int.reduceLT, Int.reduceLE, Int.reduceNeg, Int.reducePow, Int.reduceToNat, Int.not_lt])
local macro_rules
  | `(tactic| simp_arith [$xs,*] $[$l]?) => `(tactic| simp only [fw_run, wp_ret, wp_bnd, wp_no, wp_lft, wl_some, wl_none, wl_if, wo_some, wp_var, wp_get, wp_getO, wp_putO, wp_setSh, wp_setOw, wp_op, wp_opN, wp_T, wp_chain, wp_and, wp_or, wp_not, wp_notT, wp_andT, wp_orT, wp_if, wp_nil, wp_cons, wp_tup, wp_lst, wp_c1, wp_cN, wp_seq, wp_drop, wp_rt, wp_rtN, wp_set, wp_setO, wp_asg, wp_gtup, wp_gcons, wp_gnil, wp_par, wp_par3, wp_par3M, wp_par3E, wp_parG, wp_parF, wp_parE, wp_put, wp_for0, wp_itL, wp_itT, wp_itK, wp_callL, wp_mN, wp_m, wp_itA, wit_list, wit_tup, wit_dict, wp_listRg, wp_rng1, wp_rng2, wp_enum, wp_zip, wp_zipT, wp_call, wp_callF, wp_kind, hid_nil, hid_cons, hidO_sh, hidO_ow, hidO_none, wp_here, wp_callQ, wp_raise, wp_lc0, vRetNone, vYes, vDict0, wl_add, wl_addT, wl_addL, wl_sub, wl_mul, wl_mulL, wl_mod, wl_fdiv, wl_divmod, wl_lt, wl_gt, wl_le, wl_ge, wl_eq, wl_ne, wl_lenL, wl_lenT, wl_lenD, wl_ixL, wl_ixT, wl_setL, wl_abs, wl_max2, wl_min2, wl_intB, wl_tupL, wl_tupT, wl_listL, wl_listT, wl_sumL, wl_sumT, wl_eqL, wl_neL, wl_eqL0, wl_neL0, wl_pow18, wl_pow19, wl_pow21, ent, entL, outsOf, noOwn, wipeE, backE, isC_list, isC_dict, isC_tup, isC_int, isC_bool, isC_str, isC_none, isC_tI, isC_dOf, wl_setI, wl_ixI, wl_inI, wl_niI, wp_is, wp_mw, wp_neg, wp_sl, wp_slN, wl_slLtN, wl_slLdN, wl_slLdN1, wl_slTtN, wl_slTdN, wl_slTdN1, wl_rev, wp_part, wp_noPart, wr_append, wr_extend, ty_list, wl_neg, wl_sl1T, wl_slT1, wl_slL1, wl_eqT0, wl_sl1L, wl_all, wl_any, isInt_int, isBool_int, isTuple_tup, isTuple_tI, wl_lenI, wl_ixtI, wl_inL, wl_niL, wl_inT, wl_inT2, wl_ltT, wl_lt2, Option.map_some, Bool.not_not, wl_set4, wl_set2, wl_set3, wl_ixt, wl_ix2, wl_ni2, List.all_cons, List.all_nil, List.length_cons, List.length_nil, Nat.reduceAdd, Nat.reduceSub, Nat.reduceLeDiff, List.contains_cons, List.contains_nil, List.replicate, List.cons_append, List.nil_append, List.append_nil, if_true, if_false, ↓reduceIte, true_and, and_true, true_implies, false_implies, implies_true, reduceCtorEq, List.getElem?_cons_zero, List.getElem?_cons_succ, List.getElem?_nil, List.set_cons_zero, List.set_cons_succ, Option.join_some, Option.join_none, Option.isSome_some, atI_0, atI_1, atI_2, atI_3, atI_4, ixN_0, ixN_1, List.take_zero, List.drop_zero, List.take_succ_cons, List.drop_succ_cons, Bool.or_false, Bool.or_true, Bool.true_or, Bool.false_or, Bool.and_true, Bool.and_false, Bool.true_and, Bool.false_and, Bool.not_true, Bool.not_false, Bool.false_eq_true, Bool.not_eq_true', Bool.not_eq_false', Bool.not_eq_eq_eq_not, decide_eq_true_eq, decide_eq_false_iff_not, decide_true, decide_false, Nat.reduceBEq, beq_self_eq_true, Int.reduceLT, Int.reduceLE, Int.reduceNeg, Int.reducePow, Int.reduceToNat, Int.not_lt, $xs,*] $[$l]?)
/-! balances drawn -/
def sq (t : Bool) (xs : List Int) : D := if t then .tuple (xs.map .int) else .list (xs.map .int)
def inB (c : Int) (xs : List Int) : Prop := ∀ x ∈ xs, -c ≤ x ∧ x ≤ c
theorem inB.sum {c : Int} : ∀ {xs : List Int}, inB c xs → -(c * xs.length) ≤ xs.sum ∧ xs.sum ≤ c * xs.length
  | [], _ => by simp
  | x :: r, h => by
    have h1 := h x (by simp)
    have h2 := inB.sum (fun y hy => h y (by simp [hy]) : inB c r)
    have e : c * ((x :: r).length : Int) = c * r.length + c := by rw [List.length_cons, Int.natCast_add, Int.mul_add]; simp
    rw [e, List.sum_cons]
    omega
abbrev c18 : Int := 1000000000000000000
theorem balances_ok {E : Ex → Prop} {n m : Int} {q : D → List D → Prop} (hm : 1 ≤ m) (hm8 : m ≤ 8) (h : ∀ t bs n', bs ≠ [] → bs.length ≤ m → bs.sum = 0 → inB (8 * c18) bs → q (sq t bs) [b1 n']) : Fw E m__law_balances [b1 n, .int m] q := by
  unfold m__law_balances b__law_balances
  simp_arith []
  refine wp_seqL (fun ρ => ∃ (n : Int) (fs : List Int) (o3 o4 : Option Sl), ρ = [some ⟨true, b1 n⟩, some ⟨false, .int m⟩, some ⟨true, .list (fs.map .int)⟩, o3, o4, none] ∧ fs.length ≤ m ∧ fs.sum = 0 ∧ inB (8 * c18) fs) ?_ ?_
  · refine wp_while (fun k ρ => ∃ (n : Int) (fs : List Int) (o3 o4 : Option Sl), ρ = [some ⟨true, b1 n⟩, some ⟨false, .int m⟩, some ⟨true, .list (fs.map .int)⟩, o3, o4, none] ∧ fs.length ≤ m ∧ fs.sum = 0 ∧ inB (8 * c18) fs ∧ k + fs.length = m.toNat) ?_ m.toNat ⟨n, [], none, none, rfl, by simp; omega, rfl, (fun x hx => nomatch hx), by simp⟩ (by omega)
    rintro k ρ ⟨n, fs, o3, o4, rfl, hl, hs, hb, hk⟩
    simp_arith [List.length_map]
    refine ⟨fun hlt => ?_, fun hge => ⟨n, fs, o3, o4, rfl, hl, hs, hb⟩⟩
    refine take_ok (by decide) (by decide) fun x n1 hx => ?_
    simp_arith []
    refine ⟨fun _ => ⟨n1, fs, o3, o4, rfl, hl, hs, hb⟩, fun _ => ?_⟩
    refine wp_seqL (fun ρ => ∃ (n : Int) (gs : List Int) (o4 : Option Sl), ρ = [some ⟨true, b1 n⟩, some ⟨false, .int m⟩, some ⟨true, .list (fs.map .int)⟩, some ⟨true, .list (gs.map .int)⟩, o4, none] ∧ (gs.length : Int) ≤ m - fs.length - 1 ∧ gs.length ≤ 8 ∧ inB c18 gs) ?_ ?_
    · simp_arith []
      refine take_ok (by decide) (by decide) fun y n2 hy => ?_
      simp_arith [List.length_map]
      generalize hz : (if m - (fs.length : Int) - 1 < (y : Int) then m - (fs.length : Int) - 1 else (y : Int)) = z
      have hz1 : 0 ≤ z ∧ z ≤ m - fs.length - 1 := by rw [← hz]; split <;> omega
      refine ⟨by omega, ?_⟩
      refine wp_for (fun xs ρ => ∃ (n : Int) (gs : List Int) (o4 : Option Sl), ρ = [some ⟨true, b1 n⟩, some ⟨false, .int m⟩, some ⟨true, .list (fs.map .int)⟩, some ⟨true, .list (gs.map .int)⟩, o4, none] ∧ xs.length + gs.length = z.toNat ∧ inB c18 gs) ?_ ?_ _ _ ⟨n2, [], o4, rfl, by simp [rngD], (fun x hx => nomatch hx)⟩
      · rintro d r ρ ⟨n3, gs, o4', rfl, hlen, hg⟩
        simp_arith []
        refine take_ok (by decide) (by decide) fun t n4 ht => ?_
        simp_arith []
        refine threeI ht fun c hc => ?_
        have hc2 : 0 < c ∧ c ≤ 1000000000000000000 := by omega
        refine take_ok hc2.1 (by omega) fun x n6 hx => ?_
        simp_arith []
        refine take_ok (by decide) (by decide) fun y n7 hy => ?_
        simp_arith [List.length_map]
        have big := sizeLine_eq
        have h18 : c18 = 1000000000000000000 := rfl
        have ey : (y : Int) = 0 ∨ (y : Int) = 1 := by omega
        refine ⟨mul_l (by decide) (by decide), mul_l (by omega) (by omega), by simp at hlen; omega, n7, gs ++ [(x : Int) * (1 - 2 * (y : Int))], some ⟨false, d⟩, by simp, by simp at hlen ⊢; omega, ?_⟩
        intro z hz
        rcases List.mem_append.1 hz with hz | hz
        · exact hg z hz
        · rw [List.mem_singleton.1 hz]
          rcases ey with ey | ey <;> rw [ey] <;> constructor <;> omega
      · rintro ρ ⟨n3, gs, o4', rfl, hlen, hg⟩
        exact ⟨n3, gs, o4', rfl, by simp at hlen; omega, by simp at hlen; omega, hg⟩
    · rintro ρ ⟨n3, gs, o4', rfl, hlen, hg8, hg⟩
      have big := sizeLine_eq
      simp_arith [List.length_map, List.length_append]
      refine ⟨by omega, by omega, k - gs.length - 1, by omega, n3, fs ++ gs ++ [0 - gs.sum], some ⟨true, .list (gs.map .int)⟩, o4', by simp, ?_, ?_, ?_, ?_⟩
      · simp; omega
      · simp [hs]; omega
      · intro x hx
        have := hg.sum
        simp only [List.mem_append, List.mem_singleton] at hx
        rcases hx with (hx | hx) | hx
        · exact hb x hx
        · have h18 : c18 = 1000000000000000000 := rfl
          have := hg x hx
          rw [h18] at this ⊢
          omega
        · have h18 : c18 = 1000000000000000000 := rfl
          rw [h18] at this ⊢
          omega
      · simp; omega
  · rintro ρ ⟨n, fs, o3, o4, rfl, hl, hs, hb⟩
    have big := sizeLine_eq
    simp_arith []
    obtain ⟨gs, hgs, hg0, hgl, hgs0, hgb⟩ : ∃ gs : List Int, fs.map PyData.int ++ (List.replicate (if fs = [] then (1 : Int) else 0).toNat [PyData.int 0]).flatten = gs.map .int ∧ gs ≠ [] ∧ gs.length ≤ m ∧ gs.sum = 0 ∧ inB (8 * c18) gs := by
      by_cases hf : fs = []
      · subst hf
        exact ⟨[0], rfl, by simp, by simpa using hm, rfl, fun x hx => by simp at hx; subst hx; have h18 : c18 = 1000000000000000000 := rfl; rw [h18]; omega⟩
      · exact ⟨fs, by simp [hf], hf, hl, hs, hb⟩
    rw [hgs]
    refine ⟨by split <;> decide, ?_, ?_⟩
    · have := congrArg List.length hgs
      simp only [List.length_append, List.length_map] at this
      simp only [List.length_map]
      omega
    refine wp_seqL (fun ρ => ∃ (n : Int) (bs : List Int), ρ = [some ⟨true, b1 n⟩, some ⟨false, .int m⟩, some ⟨true, .list []⟩, o3, o4, some ⟨true, .list (bs.map .int)⟩] ∧ bs.Perm gs) ?_ ?_
    · refine wp_while (fun k ρ => ∃ (n : Int) (fs bs : List Int), ρ = [some ⟨true, b1 n⟩, some ⟨false, .int m⟩, some ⟨true, .list (fs.map .int)⟩, o3, o4, some ⟨true, .list (bs.map .int)⟩] ∧ (fs ++ bs).Perm gs ∧ fs.length = k) ?_ gs.length ⟨n, gs, [], rfl, by simp, rfl⟩ (by omega)
      rintro k ρ ⟨n, fs, bs, rfl, hp, hk⟩
      simp_arith []
      refine ⟨fun hf => ⟨n, bs, by rw [hf]; rfl, by simpa [hf] using hp⟩, fun hf => ?_⟩
      have hpos : 0 < fs.length := List.length_pos_iff.2 hf
      refine take_ok (by simpa using hpos) ?_ fun x n1 hx => ?_
      · have := hp.length_eq
        simp at this ⊢
        omega
      simp_arith []
      have hx' : x < fs.length := by simpa using hx
      rw [wr_popAt (by simpa using hx')]
      simp_arith [List.getElem_map]
      have hlen := hp.length_eq
      simp only [List.length_append] at hlen
      refine ⟨by simp; omega, k - 1, by omega, n1, fs.eraseIdx x, bs ++ [fs[x]], by simp [map_eraseIdx], ?_, ?_⟩
      · refine .trans ?_ hp
        have := eraseIdx_perm fs x hx'
        have h2 : (fs.eraseIdx x ++ (bs ++ [fs[x]])).Perm ((fs.eraseIdx x ++ [fs[x]]) ++ bs) := by
          rw [List.append_assoc]
          exact List.Perm.append_left _ List.perm_append_comm
        exact h2.trans (this.append_right bs)
      · rw [List.length_eraseIdx_of_lt hx']; omega
    · rintro ρ ⟨n, bs, rfl, hp⟩
      simp_arith []
      refine take_ok (by decide) (by decide) fun t n1 ht => ?_
      simp_arith []
      have fin : ∀ t, q (sq t bs) [b1 n1] := fun t => h t bs n1 (fun z => by subst z; exact hg0 (List.nil_perm.1 hp)) (by rw [hp.length_eq]; exact hgl) (by rw [perm_sum hp]; exact hgs0) (fun x hx => hgb x (hp.mem_iff.1 hx))
      exact two ht (fin false) (fin true)

end Cv
end
section
namespace Cv
open PySem L2
local macro_rules
  | `(tactic| simp_arith) => `(tactic| try simp only [fw_run, wp_ret, wp_bnd, wp_no, wp_lft, wl_some, wl_none, wl_if, wo_some, wp_var, wp_get, wp_getO, wp_putO, wp_setSh, wp_setOw, wp_op, wp_opN, wp_T, wp_chain, wp_and, wp_or, wp_not, wp_notT, wp_andT, wp_orT, wp_if, wp_nil, wp_cons, wp_tup, wp_lst, wp_c1, wp_cN, wp_seq, wp_drop, wp_rt, wp_rtN, wp_set, wp_setO, wp_asg, wp_gtup, wp_gcons, wp_gnil, wp_par, wp_par3, wp_par3M, wp_par3E, wp_parG, wp_parF, wp_parE, wp_put, wp_for0, wp_itL, wp_itT, wp_itK, wp_callL, wp_mN, wp_m, wp_itA, wit_list, wit_tup, wit_dict, wp_listRg, wp_rng1, wp_rng2, wp_enum, wp_zip, wp_zipT, wp_call, wp_callF, wp_kind, hid_nil, hid_cons, hidO_sh, hidO_ow, hidO_none, wp_here, wp_callQ, wp_raise, wp_lc0, vRetNone, vYes, vDict0, wl_add, wl_addT, wl_addL, wl_sub, wl_mul, wl_mulL, wl_mod, wl_fdiv, wl_divmod, wl_lt, wl_gt, wl_le, wl_ge, wl_eq, wl_ne, wl_lenL, wl_lenT, wl_lenD, wl_ixL, wl_ixT, wl_setL, wl_abs, wl_max2, wl_min2, wl_intB, wl_tupL, wl_tupT, wl_listL, wl_listT, wl_sumL, wl_sumT, wl_eqL, wl_neL, wl_eqL0, wl_neL0, wl_pow18, wl_pow19, wl_pow21, ent, entL, outsOf, noOwn, wipeE, backE, isC_list, isC_dict, isC_tup, isC_int, isC_bool, isC_str, isC_none, isC_tI, isC_dOf, wl_setI, wl_ixI, wl_inI, wl_niI, wp_is, wp_mw, wp_neg, wp_sl, wp_slN, wl_slLtN, wl_slLdN, wl_slLdN1, wl_slTtN, wl_slTdN, wl_slTdN1, wl_rev, wp_part, wp_noPart, wr_append, wr_extend, ty_list, wl_neg, wl_sl1T, wl_slT1, wl_slL1, wl_eqT0, wl_sl1L, wl_all, wl_any, isInt_int, isBool_int, isTuple_tup, isTuple_tI, wl_lenI, wl_ixtI, wl_inL, wl_niL, wl_inT, wl_inT2, wl_ltT, wl_lt2, Option.map_some, Bool.not_not, wl_set4, wl_set2, wl_set3, wl_ixt, wl_ix2, wl_ni2, List.all_cons, List.all_nil, List.length_cons, List.length_nil, Nat.reduceAdd, Nat.reduceSub, Nat.reduceLeDiff, List.contains_cons, List.contains_nil, List.replicate, List.cons_append, List.nil_append, List.append_nil, if_true, if_false, ↓reduceIte, true_and, and_true, true_implies, false_implies, implies_true, reduceCtorEq, List.getElem?_cons_zero, List.getElem?_cons_succ, List.getElem?_nil, List.set_cons_zero, List.set_cons_succ, Option.join_some, Option.join_none, Option.isSome_some, atI_0, atI_1, atI_2, atI_3, atI_4, ixN_0, ixN_1, List.take_zero, List.drop_zero, List.take_succ_cons, List.drop_succ_cons, Bool.or_false, Bool.or_true, Bool.true_or, Bool.false_or, Bool.and_true, Bool.and_false, Bool.true_and, Bool.false_and, Bool.not_true, Bool.not_false, Bool.false_eq_true, Bool.not_eq_true', Bool.not_eq_false', Bool.not_eq_eq_eq_not, decide_eq_true_eq, decide_eq_false_iff_not, decide_true, decide_false, Nat.reduceBEq, beq_self_eq_true, Int.reduceLT, Int.reduceLE, Int.reduceNeg, Int.reducePow, Int.reduceToNat, Int.not_lt])
local macro_rules
  | `(tactic| simp_arith [$xs,*] $[$l]?) => `(tactic| simp only [fw_run, wp_ret, wp_bnd, wp_no, wp_lft, wl_some, wl_none, wl_if, wo_some, wp_var, wp_get, wp_getO, wp_putO, wp_setSh, wp_setOw, wp_op, wp_opN, wp_T, wp_chain, wp_and, wp_or, wp_not, wp_notT, wp_andT, wp_orT, wp_if, wp_nil, wp_cons, wp_tup, wp_lst, wp_c1, wp_cN, wp_seq, wp_drop, wp_rt, wp_rtN, wp_set, wp_setO, wp_asg, wp_gtup, wp_gcons, wp_gnil, wp_par, wp_par3, wp_par3M, wp_par3E, wp_parG, wp_parF, wp_parE, wp_put, wp_for0, wp_itL, wp_itT, wp_itK, wp_callL, wp_mN, wp_m, wp_itA, wit_list, wit_tup, wit_dict, wp_listRg, wp_rng1, wp_rng2, wp_enum, wp_zip, wp_zipT, wp_call, wp_callF, wp_kind, hid_nil, hid_cons, hidO_sh, hidO_ow, hidO_none, wp_here, wp_callQ, wp_raise, wp_lc0, vRetNone, vYes, vDict0, wl_add, wl_addT, wl_addL, wl_sub, wl_mul, wl_mulL, wl_mod, wl_fdiv, wl_divmod, wl_lt, wl_gt, wl_le, wl_ge, wl_eq, wl_ne, wl_lenL, wl_lenT, wl_lenD, wl_ixL, wl_ixT, wl_setL, wl_abs, wl_max2, wl_min2, wl_intB, wl_tupL, wl_tupT, wl_listL, wl_listT, wl_sumL, wl_sumT, wl_eqL, wl_neL, wl_eqL0, wl_neL0, wl_pow18, wl_pow19, wl_pow21, ent, entL, outsOf, noOwn, wipeE, backE, isC_list, isC_dict, isC_tup, isC_int, isC_bool, isC_str, isC_none, isC_tI, isC_dOf, wl_setI, wl_ixI, wl_inI, wl_niI, wp_is, wp_mw, wp_neg, wp_sl, wp_slN, wl_slLtN, wl_slLdN, wl_slLdN1, wl_slTtN, wl_slTdN, wl_slTdN1, wl_rev, wp_part, wp_noPart, wr_append, wr_extend, ty_list, wl_neg, wl_sl1T, wl_slT1, wl_slL1, wl_eqT0, wl_sl1L, wl_all, wl_any, isInt_int, isBool_int, isTuple_tup, isTuple_tI, wl_lenI, wl_ixtI, wl_inL, wl_niL, wl_inT, wl_inT2, wl_ltT, wl_lt2, Option.map_some, Bool.not_not, wl_set4, wl_set2, wl_set3, wl_ixt, wl_ix2, wl_ni2, List.all_cons, List.all_nil, List.length_cons, List.length_nil, Nat.reduceAdd, Nat.reduceSub, Nat.reduceLeDiff, List.contains_cons, List.contains_nil, List.replicate, List.cons_append, List.nil_append, List.append_nil, if_true, if_false, ↓reduceIte, true_and, and_true, true_implies, false_implies, implies_true, reduceCtorEq, List.getElem?_cons_zero, List.getElem?_cons_succ, List.getElem?_nil, List.set_cons_zero, List.set_cons_succ, Option.join_some, Option.join_none, Option.isSome_some, atI_0, atI_1, atI_2, atI_3, atI_4, ixN_0, ixN_1, List.take_zero, List.drop_zero, List.take_succ_cons, List.drop_succ_cons, Bool.or_false, Bool.or_true, Bool.true_or, Bool.false_or, Bool.and_true, Bool.and_false, Bool.true_and, Bool.false_and, Bool.not_true, Bool.not_false, Bool.false_eq_true, Bool.not_eq_true', Bool.not_eq_false', Bool.not_eq_eq_eq_not, decide_eq_true_eq, decide_eq_false_iff_not, decide_true, decide_false, Nat.reduceBEq, beq_self_eq_true, Int.reduceLT, Int.reduceLE, Int.reduceNeg, Int.reducePow, Int.reduceToNat, Int.not_lt, $xs,*] $[$l]?)
/-! partings into groups of sum nought, plain -/
def bal (bs : List Int) (p : Int) : Int := bs.getD p.toNat 0
def gsum (bs : List Int) (g : List Int) : Int := (g.map (bal bs)).sum
theorem gsum_cons (bs : List Int) (p : Int) (g : List Int) : gsum bs (p :: g) = bal bs p + gsum bs g := by simp [gsum]
theorem gsum_append (bs : List Int) (g h : List Int) : gsum bs (g ++ h) = gsum bs g + gsum bs h := by simp [gsum]
theorem gsum_perm {bs : List Int} {g h : List Int} (p : g.Perm h) : gsum bs g = gsum bs h := perm_sum (p.map _)
structure Part (bs : List Int) (P : List Int) (gs : List (List Int)) : Prop where
  perm : gs.flatten.Perm P
  zero : ∀ g ∈ gs, g ≠ [] ∧ gsum bs g = 0
def Bst (bs P : List Int) (gs : List (List Int)) : Prop := Part bs P gs ∧ ∀ gs', Part bs P gs' → gs'.length ≤ gs.length
abbrev up (P : List Int) : Prop := P.Pairwise (· < ·)
theorem up.nodup {P : List Int} (h : up P) : P.Nodup := h.imp fun h => by omega
def outs (P g : List Int) : List Int := P.filter fun p => !decide (p ∈ g)
theorem part_nil (bs : List Int) (gs : List (List Int)) (h : Part bs [] gs) : gs = [] := by
  cases gs with
  | nil => rfl
  | cons g r =>
    have h1 := h.perm.length_eq
    have h2 := (h.zero g (by simp)).1
    cases g with
    | nil => exact absurd rfl h2
    | cons a b => simp at h1
theorem best_nil (bs : List Int) : Bst bs [] [] := ⟨⟨by simp, fun g hg => nomatch hg⟩, fun gs h => by rw [part_nil bs gs h]; simp⟩
/-- what is left, less a group with it -/
theorem part_step {bs : List Int} {p0 : Int} {R : List Int} {gs : List (List Int)} (hP : up (p0 :: R)) (h : Part bs (p0 :: R) gs) : ∃ s gs'', s.Sublist R ∧ gsum bs (p0 :: s) = 0 ∧ Part bs (outs (p0 :: R) (p0 :: s)) gs'' ∧ gs.length = gs''.length + 1 := by
  have hn := up.nodup hP
  obtain ⟨g, hg, hp⟩ := List.mem_flatten.1 (h.perm.mem_iff.2 (List.mem_cons_self : p0 ∈ p0 :: R))
  have e1 := List.perm_cons_erase hg
  have e2 : (g ++ (gs.erase g).flatten).Perm (p0 :: R) := by
    have := e1.flatten.symm.trans h.perm
    simpa using this
  have nd := e2.nodup_iff.2 hn
  obtain ⟨n1, n2, n3⟩ := List.nodup_append.1 nd
  have hs : (p0 :: R.filter fun p => decide (p ∈ g)).Perm g := by
    have : (p0 :: R.filter fun p => decide (p ∈ g)) = (p0 :: R).filter fun p => decide (p ∈ g) := by simp [hp]
    rw [this]
    refine (List.perm_ext_iff_of_nodup (hn.sublist List.filter_sublist) n1).2 fun a => ?_
    constructor
    · intro ha
      simpa using (List.mem_filter.1 ha).2
    · intro ha
      exact List.mem_filter.2 ⟨e2.mem_iff.1 (by simp [ha]), by simpa using ha⟩
  refine ⟨R.filter fun p => decide (p ∈ g), gs.erase g, List.filter_sublist, by rw [gsum_perm hs]; exact (h.zero g hg).2, ⟨?_, fun x hx => h.zero x (List.mem_of_mem_erase hx)⟩, ?_⟩
  · refine (List.perm_ext_iff_of_nodup n2 (hn.sublist List.filter_sublist)).2 fun a => ?_
    constructor
    · intro ha
      refine List.mem_filter.2 ⟨e2.mem_iff.1 (by simp [ha]), ?_⟩
      have : a ∉ g := fun z => n3 a z a ha rfl
      have : a ∉ (p0 :: R.filter fun p => decide (p ∈ g)) := fun z => this (hs.mem_iff.1 z)
      rw [Bool.not_eq_true', decide_eq_false_iff_not]
      exact this
    · intro ha
      obtain ⟨h1, h2⟩ := List.mem_filter.1 ha
      rw [Bool.not_eq_true', decide_eq_false_iff_not] at h2
      have h3 : a ∉ g := fun z => h2 (hs.mem_iff.2 z)
      have := e2.mem_iff.2 h1
      exact (List.mem_append.1 this).resolve_left h3
  · have := e1.length_eq
    simpa using this
theorem outs_perm {P g : List Int} (hP : up P) (hs : g.Sublist P) : (g ++ outs P g).Perm P := by
  have hn := up.nodup hP
  have e : (P.filter fun p => decide (p ∈ g)).Perm g := by
    refine (List.perm_ext_iff_of_nodup (hn.sublist List.filter_sublist) (hn.sublist hs)).2 fun a => ?_
    constructor
    · intro ha; simpa using (List.mem_filter.1 ha).2
    · intro ha; exact List.mem_filter.2 ⟨hs.subset ha, by simpa using ha⟩
  have := List.filter_append_perm (fun p => decide (p ∈ g)) P
  exact (e.symm.append_right _).trans this
theorem part_cons {bs : List Int} {P g : List Int} {gs : List (List Int)} (hP : up P) (hs : g.Sublist P) (hg : g ≠ []) (hz : gsum bs g = 0) (h : Part bs (outs P g) gs) : Part bs P (g :: gs) := by
  refine ⟨?_, fun x hx => ?_⟩
  · rw [List.flatten_cons]
    exact (h.perm.append_left g).trans (outs_perm hP hs)
  · rcases List.mem_cons.1 hx with rfl | hx
    · exact ⟨hg, hz⟩
    · exact h.zero x hx
/-- all parts of a row, in the order in which they are told -/
def parts : List Int → List (List Int) → List (List Int)
  | [], acc => acc
  | p :: r, acc => parts r (acc ++ acc.map (· ++ [p]))
theorem mem_parts (s : List Int) : ∀ (ps : List Int) (acc : List (List Int)), s ∈ parts ps acc ↔ ∃ a ∈ acc, ∃ s', s'.Sublist ps ∧ s = a ++ s'
  | [], acc => by simp [parts]
  | p :: r, acc => by
    rw [parts, mem_parts s r]
    constructor
    · rintro ⟨a, ha, s', hs, rfl⟩
      rcases List.mem_append.1 ha with ha | ha
      · exact ⟨a, ha, s', hs.cons _, rfl⟩
      · obtain ⟨b, hb, rfl⟩ := List.mem_map.1 ha
        exact ⟨b, hb, p :: s', hs.cons_cons _, by simp⟩
    · rintro ⟨a, ha, s', hs, rfl⟩
      cases hs with
      | cons _ hs => exact ⟨a, by simp [ha], s', hs, rfl⟩
      | cons_cons _ hs => exact ⟨a ++ [p], List.mem_append_right _ (List.mem_map.2 ⟨a, ha, rfl⟩), _, hs, by simp⟩
theorem parts_length : ∀ (ps : List Int) (acc : List (List Int)), (parts ps acc).length = acc.length * 2 ^ ps.length
  | [], acc => by simp [parts]
  | p :: r, acc => by rw [parts, parts_length r]; simp [Nat.pow_succ]; rw [Nat.mul_comm (2 ^ r.length) 2, ← Nat.mul_assoc]; congr 1; omega
theorem part_len {bs P : List Int} {gs : List (List Int)} (h : Part bs P gs) : gs.length ≤ P.length := by
  have h2 : ∀ (gs : List (List Int)), (∀ g ∈ gs, g ≠ []) → gs.length ≤ gs.flatten.length := by
    intro gs
    induction gs with
    | nil => intro _; simp
    | cons g r ih2 =>
      intro hne
      have := ih2 fun x hx => hne x (by simp [hx])
      have := List.length_pos_iff.2 (hne g (by simp))
      simp only [List.length_cons, List.flatten_cons, List.length_append]
      omega
  have := h2 gs fun g hg => (h.zero g hg).1
  have := h.perm.length_eq
  omega

end Cv
end
section
namespace Cv
open PySem L2
local macro_rules
  | `(tactic| simp_arith) => `(tactic| try simp only [fw_run, wp_ret, wp_bnd, wp_no, wp_lft, wl_some, wl_none, wl_if, wo_some, wp_var, wp_get, wp_getO, wp_putO, wp_setSh, wp_setOw, wp_op, wp_opN, wp_T, wp_chain, wp_and, wp_or, wp_not, wp_notT, wp_andT, wp_orT, wp_if, wp_nil, wp_cons, wp_tup, wp_lst, wp_c1, wp_cN, wp_seq, wp_drop, wp_rt, wp_rtN, wp_set, wp_setO, wp_asg, wp_gtup, wp_gcons, wp_gnil, wp_par, wp_par3, wp_par3M, wp_par3E, wp_parG, wp_parF, wp_parE, wp_put, wp_for0, wp_itL, wp_itT, wp_itK, wp_callL, wp_mN, wp_m, wp_itA, wit_list, wit_tup, wit_dict, wp_listRg, wp_rng1, wp_rng2, wp_enum, wp_zip, wp_zipT, wp_call, wp_callF, wp_kind, hid_nil, hid_cons, hidO_sh, hidO_ow, hidO_none, wp_here, wp_callQ, wp_raise, wp_lc0, vRetNone, vYes, vDict0, wl_add, wl_addT, wl_addL, wl_sub, wl_mul, wl_mulL, wl_mod, wl_fdiv, wl_divmod, wl_lt, wl_gt, wl_le, wl_ge, wl_eq, wl_ne, wl_lenL, wl_lenT, wl_lenD, wl_ixL, wl_ixT, wl_setL, wl_abs, wl_max2, wl_min2, wl_intB, wl_tupL, wl_tupT, wl_listL, wl_listT, wl_sumL, wl_sumT, wl_eqL, wl_neL, wl_eqL0, wl_neL0, wl_pow18, wl_pow19, wl_pow21, ent, entL, outsOf, noOwn, wipeE, backE, isC_list, isC_dict, isC_tup, isC_int, isC_bool, isC_str, isC_none, isC_tI, isC_dOf, wl_setI, wl_ixI, wl_inI, wl_niI, wp_is, wp_mw, wp_neg, wp_sl, wp_slN, wl_slLtN, wl_slLdN, wl_slLdN1, wl_slTtN, wl_slTdN, wl_slTdN1, wl_rev, wp_part, wp_noPart, wr_append, wr_extend, ty_list, wl_neg, wl_sl1T, wl_slT1, wl_slL1, wl_eqT0, wl_sl1L, wl_all, wl_any, isInt_int, isBool_int, isTuple_tup, isTuple_tI, wl_lenI, wl_ixtI, wl_inL, wl_niL, wl_inT, wl_inT2, wl_ltT, wl_lt2, Option.map_some, Bool.not_not, wl_set4, wl_set2, wl_set3, wl_ixt, wl_ix2, wl_ni2, List.all_cons, List.all_nil, List.length_cons, List.length_nil, Nat.reduceAdd, Nat.reduceSub, Nat.reduceLeDiff, List.contains_cons, List.contains_nil, List.replicate, List.cons_append, List.nil_append, List.append_nil, if_true, if_false, ↓reduceIte, true_and, and_true, true_implies, false_implies, implies_true, reduceCtorEq, List.getElem?_cons_zero, List.getElem?_cons_succ, List.getElem?_nil, List.set_cons_zero, List.set_cons_succ, Option.join_some, Option.join_none, Option.isSome_some, atI_0, atI_1, atI_2, atI_3, atI_4, ixN_0, ixN_1, List.take_zero, List.drop_zero, List.take_succ_cons, List.drop_succ_cons, Bool.or_false, Bool.or_true, Bool.true_or, Bool.false_or, Bool.and_true, Bool.and_false, Bool.true_and, Bool.false_and, Bool.not_true, Bool.not_false, Bool.false_eq_true, Bool.not_eq_true', Bool.not_eq_false', Bool.not_eq_eq_eq_not, decide_eq_true_eq, decide_eq_false_iff_not, decide_true, decide_false, Nat.reduceBEq, beq_self_eq_true, Int.reduceLT, Int.reduceLE, Int.reduceNeg, Int.reducePow, Int.reduceToNat, Int.not_lt])
local macro_rules
  | `(tactic| simp_arith [$xs,*] $[$l]?) => `(tactic| simp only [fw_run, wp_ret, wp_bnd, wp_no, wp_lft, wl_some, wl_none, wl_if, wo_some, wp_var, wp_get, wp_getO, wp_putO, wp_setSh, wp_setOw, wp_op, wp_opN, wp_T, wp_chain, wp_and, wp_or, wp_not, wp_notT, wp_andT, wp_orT, wp_if, wp_nil, wp_cons, wp_tup, wp_lst, wp_c1, wp_cN, wp_seq, wp_drop, wp_rt, wp_rtN, wp_set, wp_setO, wp_asg, wp_gtup, wp_gcons, wp_gnil, wp_par, wp_par3, wp_par3M, wp_par3E, wp_parG, wp_parF, wp_parE, wp_put, wp_for0, wp_itL, wp_itT, wp_itK, wp_callL, wp_mN, wp_m, wp_itA, wit_list, wit_tup, wit_dict, wp_listRg, wp_rng1, wp_rng2, wp_enum, wp_zip, wp_zipT, wp_call, wp_callF, wp_kind, hid_nil, hid_cons, hidO_sh, hidO_ow, hidO_none, wp_here, wp_callQ, wp_raise, wp_lc0, vRetNone, vYes, vDict0, wl_add, wl_addT, wl_addL, wl_sub, wl_mul, wl_mulL, wl_mod, wl_fdiv, wl_divmod, wl_lt, wl_gt, wl_le, wl_ge, wl_eq, wl_ne, wl_lenL, wl_lenT, wl_lenD, wl_ixL, wl_ixT, wl_setL, wl_abs, wl_max2, wl_min2, wl_intB, wl_tupL, wl_tupT, wl_listL, wl_listT, wl_sumL, wl_sumT, wl_eqL, wl_neL, wl_eqL0, wl_neL0, wl_pow18, wl_pow19, wl_pow21, ent, entL, outsOf, noOwn, wipeE, backE, isC_list, isC_dict, isC_tup, isC_int, isC_bool, isC_str, isC_none, isC_tI, isC_dOf, wl_setI, wl_ixI, wl_inI, wl_niI, wp_is, wp_mw, wp_neg, wp_sl, wp_slN, wl_slLtN, wl_slLdN, wl_slLdN1, wl_slTtN, wl_slTdN, wl_slTdN1, wl_rev, wp_part, wp_noPart, wr_append, wr_extend, ty_list, wl_neg, wl_sl1T, wl_slT1, wl_slL1, wl_eqT0, wl_sl1L, wl_all, wl_any, isInt_int, isBool_int, isTuple_tup, isTuple_tI, wl_lenI, wl_ixtI, wl_inL, wl_niL, wl_inT, wl_inT2, wl_ltT, wl_lt2, Option.map_some, Bool.not_not, wl_set4, wl_set2, wl_set3, wl_ixt, wl_ix2, wl_ni2, List.all_cons, List.all_nil, List.length_cons, List.length_nil, Nat.reduceAdd, Nat.reduceSub, Nat.reduceLeDiff, List.contains_cons, List.contains_nil, List.replicate, List.cons_append, List.nil_append, List.append_nil, if_true, if_false, ↓reduceIte, true_and, and_true, true_implies, false_implies, implies_true, reduceCtorEq, List.getElem?_cons_zero, List.getElem?_cons_succ, List.getElem?_nil, List.set_cons_zero, List.set_cons_succ, Option.join_some, Option.join_none, Option.isSome_some, atI_0, atI_1, atI_2, atI_3, atI_4, ixN_0, ixN_1, List.take_zero, List.drop_zero, List.take_succ_cons, List.drop_succ_cons, Bool.or_false, Bool.or_true, Bool.true_or, Bool.false_or, Bool.and_true, Bool.and_false, Bool.true_and, Bool.false_and, Bool.not_true, Bool.not_false, Bool.false_eq_true, Bool.not_eq_true', Bool.not_eq_false', Bool.not_eq_eq_eq_not, decide_eq_true_eq, decide_eq_false_iff_not, decide_true, decide_false, Nat.reduceBEq, beq_self_eq_true, Int.reduceLT, Int.reduceLE, Int.reduceNeg, Int.reducePow, Int.reduceToNat, Int.not_lt, $xs,*] $[$l]?)
/-! settling: what are balances, payments; settled -/
def isNum : D → Bool
  | .int _ => true
  | _ => false
theorem isNum_is (d : D) : isNum d = (d.isInt && !d.isBool) := by cases d <;> rfl
theorem is_number_ok {E : Ex → Prop} {d : D} {q : D → List D → Prop} (h : q (.bool (isNum d)) []) : Fw E m_is_number [d] q := by
  unfold m_is_number b_is_number
  rw [isNum_is] at h
  simp_arith []
  cases hd : d.isInt <;> rw [hd] at h <;> simpa using h
def intsB : List D → Bool
  | [] => true
  | d :: r => isNum d && intsB r
theorem intsB_all : ∀ ds : List D, intsB ds = (ds.map isNum).all id
  | [] => rfl
  | d :: r => by simp [intsB, intsB_all r]
theorem intsB_of : ∀ ds : List D, intsB ds = true → ∃ ns : List Int, ds = ns.map .int
  | [], _ => ⟨[], rfl⟩
  | d :: r, h => by
    simp only [intsB, Bool.and_eq_true] at h
    obtain ⟨ns, rfl⟩ := intsB_of r h.2
    cases d with
    | int i => exact ⟨i :: ns, rfl⟩
    | _ => cases h.1
theorem intsB_map : ∀ ns : List Int, intsB (ns.map .int) = true
  | [] => rfl
  | n :: r => by simp [intsB, isNum, intsB_map r]
def seqOf : D → Option (List D)
  | .list ds => some ds
  | .tuple ds => some ds
  | _ => none
def sumOf : List D → Int
  | [] => 0
  | .int i :: r => i + sumOf r
  | _ :: r => sumOf r
theorem sumOf_map : ∀ ns : List Int, sumOf (ns.map .int) = ns.sum
  | [] => rfl
  | n :: r => by simp [sumOf, sumOf_map r]
def isBal (d : D) : Bool := match seqOf d with
  | some ds => decide (1 ≤ ds.length) && decide (ds.length ≤ 8) && intsB ds && decide (sumOf ds = 0)
  | none => false
theorem isBal_sq {t : Bool} {bs : List Int} (h1 : bs ≠ []) (h2 : bs.length ≤ 8) (h3 : bs.sum = 0) : isBal (sq t bs) = true := by
  have : 1 ≤ bs.length := List.length_pos_iff.2 h1
  cases t <;> simp [isBal, sq, seqOf, intsB_map, sumOf_map, h3, h2, this]
theorem need_balances_ok {E : Ex → Prop} {d : D} {q : D → List D → Prop} (h : isBal d = true → q .none []) (hE : isBal d = false → E ⟨"NoBalance", []⟩) : Fw E m_need_balances [d] q := by
  have lc : ∀ (ds : List D) (qs : List D → Ev → Prop), ds.length ≤ 8 → (∀ o, qs ((ds.map isNum).map .bool) [some ⟨false, d⟩, o]) → Wp (fun _ => False) (lcL [1] (vSetSh 1) (ret true) (vCall m_is_number (vCons (vVar 1) vNil)) ds []) [some ⟨false, d⟩, none] qs := by
    intro ds q' hl hq
    refine lc_eachD (fun x => .bool (isNum x)) (fun ρ => ∃ o, ρ = [some ⟨false, d⟩, o]) ds (by omega) ⟨_, rfl⟩ ?_ ?_
    · rintro x hx ρ ⟨o, rfl⟩
      simp_arith []
      exact is_number_ok ⟨rfl, _, rfl⟩
    · rintro ρ' ⟨o, rfl⟩
      have := hq o
      rw [List.map_map] at this
      exact this
  have fin : ∀ (ds : List D), seqOf d = some ds → (1 ≤ (ds.length : Int) → (8 < (ds.length : Int) → E ⟨"NoBalance", []⟩) ∧ ((ds.length : Int) ≤ 8 → (intsB ds = false → E ⟨"NoBalance", []⟩) ∧ (∀ ns : List Int, ds = ns.map .int → (ns.sum = 0 → q .none []) ∧ (¬ ns.sum = 0 → E ⟨"NoBalance", []⟩)))) ∧ ((ds.length : Int) < 1 → E ⟨"NoBalance", []⟩) := by
    intro ds hs
    have hb : isBal d = (decide (1 ≤ ds.length) && decide (ds.length ≤ 8) && intsB ds && decide (sumOf ds = 0)) := by simp [isBal, hs]
    refine ⟨fun h1 => ⟨fun h2 => hE ?_, fun h2 => ⟨fun h3 => hE ?_, fun ns e => ⟨fun h3 => h ?_, fun h3 => hE ?_⟩⟩⟩, fun h1 => hE ?_⟩
    · rw [hb]; simp; intro _ z; omega
    · rw [hb, h3]; simp
    · rw [hb, e, intsB_map, sumOf_map, h3]; simp at e ⊢; subst e; simp at h1 h2; omega
    · rw [hb, e, intsB_map, sumOf_map]; simp [h3]
    · rw [hb]; have : ¬ 1 ≤ ds.length := by omega
      simp [this]
  have go : ∀ (ds : List D), seqOf d = some ds → (∀ p, Wl (dSumA d) p = (∃ ns : List Int, ds = ns.map .int ∧ p (.int ns.sum))) → (1 ≤ (ds.length : Int) → (8 < (ds.length : Int) → E ⟨"NoBalance", []⟩) ∧ ((ds.length : Int) ≤ 8 → Wp (fun _ => False) (lcL [1] (vSetSh 1) (ret true) (vCall m_is_number (vCons (vVar 1) vNil)) ds []) [some ⟨false, d⟩, none] fun acc ρ2 => Wl (dAll (.list acc)) fun d => match d with
      | .bool b => (b = false → E ⟨"NoBalance", []⟩) ∧ (b = true → Wo (List.set ρ2 1 none)[0]? fun s => Wl (dSumA s.d) fun d => Wl (dNe d (.int 0)) fun d => match d with
        | .bool b => (b = true → E ⟨"NoBalance", []⟩) ∧ (b = false → q .none [])
        | _ => False)
      | _ => False)) ∧ ((ds.length : Int) < 1 → E ⟨"NoBalance", []⟩) := by
    intro ds hs hsum
    obtain ⟨f1, f2⟩ := fin ds hs
    refine ⟨fun h1 => ⟨(f1 h1).1, fun h2 => lc ds _ (by omega) fun o => ?_⟩, f2⟩
    obtain ⟨g1, g2⟩ := (f1 h1).2 h2
    rw [wl_all, ← intsB_all]
    refine ⟨g1, fun hb => ?_⟩
    obtain ⟨ns, e⟩ := intsB_of ds hb
    simp_arith [hsum]
    exact ⟨ns, e, (g2 ns e).2, (g2 ns e).1⟩
  have hints : ∀ (ds : List D) (p : D → Prop), Wl ((intsOf ds).map fun ns => PyData.int ns.sum) p = (∃ ns : List Int, ds = ns.map .int ∧ p (.int ns.sum)) := by
    intro ds p
    cases hi : intsOf ds with
    | none =>
      refine propext ⟨fun z => z.elim, ?_⟩
      rintro ⟨ns, rfl, _⟩
      rw [intsOf_map] at hi
      cases hi
    | some ns =>
      have e : ds = ns.map .int := by
        have : ∀ (ds : List D) (ns : List Int), intsOf ds = some ns → ds = ns.map .int := by
          intro ds
          induction ds with
          | nil => intro ns h; cases h; rfl
          | cons d r ih =>
            intro ns h
            cases d with
            | int i =>
              obtain ⟨ms, h1, rfl⟩ := Option.map_eq_some_iff.1 h
              rw [ih ms h1]; rfl
            | _ => cases h
        exact this ds ns hi
      refine propext ⟨fun z => ⟨ns, e, z⟩, ?_⟩
      rintro ⟨ms, e2, hp⟩
      have : intsOf ds = some ms := by rw [e2, intsOf_map]
      rw [hi] at this
      cases this
      exact hp
  unfold m_need_balances b_need_balances
  cases d with
  | list ds =>
    simp_arith [PyData.isTuple, PyData.isList]
    exact go ds rfl (fun p => hints ds p)
  | tuple ds =>
    simp_arith [PyData.isTuple, PyData.isList]
    exact go ds rfl (fun p => hints ds p)
  | _ =>
    simp_arith [PyData.isTuple, PyData.isList]
    exact hE rfl

end Cv
end
section
namespace Cv
open PySem L2
local macro_rules
  | `(tactic| simp_arith) => `(tactic| try simp only [fw_run, wp_ret, wp_bnd, wp_no, wp_lft, wl_some, wl_none, wl_if, wo_some, wp_var, wp_get, wp_getO, wp_putO, wp_setSh, wp_setOw, wp_op, wp_opN, wp_T, wp_chain, wp_and, wp_or, wp_not, wp_notT, wp_andT, wp_orT, wp_if, wp_nil, wp_cons, wp_tup, wp_lst, wp_c1, wp_cN, wp_seq, wp_drop, wp_rt, wp_rtN, wp_set, wp_setO, wp_asg, wp_gtup, wp_gcons, wp_gnil, wp_par, wp_par3, wp_par3M, wp_par3E, wp_parG, wp_parF, wp_parE, wp_put, wp_for0, wp_itL, wp_itT, wp_itK, wp_callL, wp_mN, wp_m, wp_itA, wit_list, wit_tup, wit_dict, wp_listRg, wp_rng1, wp_rng2, wp_enum, wp_zip, wp_zipT, wp_call, wp_callF, wp_kind, hid_nil, hid_cons, hidO_sh, hidO_ow, hidO_none, wp_here, wp_callQ, wp_raise, wp_lc0, vRetNone, vYes, vDict0, wl_add, wl_addT, wl_addL, wl_sub, wl_mul, wl_mulL, wl_mod, wl_fdiv, wl_divmod, wl_lt, wl_gt, wl_le, wl_ge, wl_eq, wl_ne, wl_lenL, wl_lenT, wl_lenD, wl_ixL, wl_ixT, wl_setL, wl_abs, wl_max2, wl_min2, wl_intB, wl_tupL, wl_tupT, wl_listL, wl_listT, wl_sumL, wl_sumT, wl_eqL, wl_neL, wl_eqL0, wl_neL0, wl_pow18, wl_pow19, wl_pow21, ent, entL, outsOf, noOwn, wipeE, backE, isC_list, isC_dict, isC_tup, isC_int, isC_bool, isC_str, isC_none, isC_tI, isC_dOf, wl_setI, wl_ixI, wl_inI, wl_niI, wp_is, wp_mw, wp_neg, wp_sl, wp_slN, wl_slLtN, wl_slLdN, wl_slLdN1, wl_slTtN, wl_slTdN, wl_slTdN1, wl_rev, wp_part, wp_noPart, wr_append, wr_extend, ty_list, wl_neg, wl_sl1T, wl_slT1, wl_slL1, wl_eqT0, wl_sl1L, wl_all, wl_any, isInt_int, isBool_int, isTuple_tup, isTuple_tI, wl_lenI, wl_ixtI, wl_inL, wl_niL, wl_inT, wl_inT2, wl_ltT, wl_lt2, Option.map_some, Bool.not_not, wl_set4, wl_set2, wl_set3, wl_ixt, wl_ix2, wl_ni2, List.all_cons, List.all_nil, List.length_cons, List.length_nil, Nat.reduceAdd, Nat.reduceSub, Nat.reduceLeDiff, List.contains_cons, List.contains_nil, List.replicate, List.cons_append, List.nil_append, List.append_nil, if_true, if_false, ↓reduceIte, true_and, and_true, true_implies, false_implies, implies_true, reduceCtorEq, List.getElem?_cons_zero, List.getElem?_cons_succ, List.getElem?_nil, List.set_cons_zero, List.set_cons_succ, Option.join_some, Option.join_none, Option.isSome_some, atI_0, atI_1, atI_2, atI_3, atI_4, ixN_0, ixN_1, List.take_zero, List.drop_zero, List.take_succ_cons, List.drop_succ_cons, Bool.or_false, Bool.or_true, Bool.true_or, Bool.false_or, Bool.and_true, Bool.and_false, Bool.true_and, Bool.false_and, Bool.not_true, Bool.not_false, Bool.false_eq_true, Bool.not_eq_true', Bool.not_eq_false', Bool.not_eq_eq_eq_not, decide_eq_true_eq, decide_eq_false_iff_not, decide_true, decide_false, Nat.reduceBEq, beq_self_eq_true, Int.reduceLT, Int.reduceLE, Int.reduceNeg, Int.reducePow, Int.reduceToNat, Int.not_lt])
local macro_rules
  | `(tactic| simp_arith [$xs,*] $[$l]?) => `(tactic| simp only [fw_run, wp_ret, wp_bnd, wp_no, wp_lft, wl_some, wl_none, wl_if, wo_some, wp_var, wp_get, wp_getO, wp_putO, wp_setSh, wp_setOw, wp_op, wp_opN, wp_T, wp_chain, wp_and, wp_or, wp_not, wp_notT, wp_andT, wp_orT, wp_if, wp_nil, wp_cons, wp_tup, wp_lst, wp_c1, wp_cN, wp_seq, wp_drop, wp_rt, wp_rtN, wp_set, wp_setO, wp_asg, wp_gtup, wp_gcons, wp_gnil, wp_par, wp_par3, wp_par3M, wp_par3E, wp_parG, wp_parF, wp_parE, wp_put, wp_for0, wp_itL, wp_itT, wp_itK, wp_callL, wp_mN, wp_m, wp_itA, wit_list, wit_tup, wit_dict, wp_listRg, wp_rng1, wp_rng2, wp_enum, wp_zip, wp_zipT, wp_call, wp_callF, wp_kind, hid_nil, hid_cons, hidO_sh, hidO_ow, hidO_none, wp_here, wp_callQ, wp_raise, wp_lc0, vRetNone, vYes, vDict0, wl_add, wl_addT, wl_addL, wl_sub, wl_mul, wl_mulL, wl_mod, wl_fdiv, wl_divmod, wl_lt, wl_gt, wl_le, wl_ge, wl_eq, wl_ne, wl_lenL, wl_lenT, wl_lenD, wl_ixL, wl_ixT, wl_setL, wl_abs, wl_max2, wl_min2, wl_intB, wl_tupL, wl_tupT, wl_listL, wl_listT, wl_sumL, wl_sumT, wl_eqL, wl_neL, wl_eqL0, wl_neL0, wl_pow18, wl_pow19, wl_pow21, ent, entL, outsOf, noOwn, wipeE, backE, isC_list, isC_dict, isC_tup, isC_int, isC_bool, isC_str, isC_none, isC_tI, isC_dOf, wl_setI, wl_ixI, wl_inI, wl_niI, wp_is, wp_mw, wp_neg, wp_sl, wp_slN, wl_slLtN, wl_slLdN, wl_slLdN1, wl_slTtN, wl_slTdN, wl_slTdN1, wl_rev, wp_part, wp_noPart, wr_append, wr_extend, ty_list, wl_neg, wl_sl1T, wl_slT1, wl_slL1, wl_eqT0, wl_sl1L, wl_all, wl_any, isInt_int, isBool_int, isTuple_tup, isTuple_tI, wl_lenI, wl_ixtI, wl_inL, wl_niL, wl_inT, wl_inT2, wl_ltT, wl_lt2, Option.map_some, Bool.not_not, wl_set4, wl_set2, wl_set3, wl_ixt, wl_ix2, wl_ni2, List.all_cons, List.all_nil, List.length_cons, List.length_nil, Nat.reduceAdd, Nat.reduceSub, Nat.reduceLeDiff, List.contains_cons, List.contains_nil, List.replicate, List.cons_append, List.nil_append, List.append_nil, if_true, if_false, ↓reduceIte, true_and, and_true, true_implies, false_implies, implies_true, reduceCtorEq, List.getElem?_cons_zero, List.getElem?_cons_succ, List.getElem?_nil, List.set_cons_zero, List.set_cons_succ, Option.join_some, Option.join_none, Option.isSome_some, atI_0, atI_1, atI_2, atI_3, atI_4, ixN_0, ixN_1, List.take_zero, List.drop_zero, List.take_succ_cons, List.drop_succ_cons, Bool.or_false, Bool.or_true, Bool.true_or, Bool.false_or, Bool.and_true, Bool.and_false, Bool.true_and, Bool.false_and, Bool.not_true, Bool.not_false, Bool.false_eq_true, Bool.not_eq_true', Bool.not_eq_false', Bool.not_eq_eq_eq_not, decide_eq_true_eq, decide_eq_false_iff_not, decide_true, decide_false, Nat.reduceBEq, beq_self_eq_true, Int.reduceLT, Int.reduceLE, Int.reduceNeg, Int.reducePow, Int.reduceToNat, Int.not_lt, $xs,*] $[$l]?)
/-! settling: payments, settled -/
def isPay (n : Int) : D → Bool
  | .tuple [.int a, .int b, .int c] => decide (0 ≤ a) && decide (a < n) && (decide (0 ≤ b) && decide (b < n)) && (decide (a ≠ b) && decide (0 < c))
  | _ => false
theorem is_payment_ok {E : Ex → Prop} {n : Int} {d : D} {q : D → List D → Prop} (h : q (.bool (isPay n d)) []) : Fw E m_is_payment [.int n, d] q := by
  unfold m_is_payment b_is_payment
  cases d with
  | tuple ds =>
    simp_arith [PyData.isTuple]
    refine ⟨fun hl => ?_, fun hl => ?_⟩
    · have e : isPay n (.tuple ds) = false := by
        unfold isPay
        split
        · rename_i he
          cases he
          exact absurd rfl hl
        · rfl
      rw [e] at h
      exact h
    · match ds, hl with
      | [x, y, z], _ =>
        refine lc_eachD (fun x => .bool (isNum x)) (fun ρ => ∃ o, ρ = [some ⟨false, .int n⟩, some ⟨false, .tuple [x, y, z]⟩, none, none, none, o]) [x, y, z] (by simp) ⟨_, rfl⟩ ?_ ?_
        · rintro x hx ρ ⟨o, rfl⟩
          simp_arith []
          exact is_number_ok ⟨rfl, _, rfl⟩
        · rintro ρ' ⟨o, rfl⟩
          have e : List.map (fun x => PyData.bool (isNum x)) [x, y, z] = [isNum x, isNum y, isNum z].map .bool := rfl
          rw [e, wl_all]
          simp only [List.all_cons, List.all_nil, Bool.and_true, id]
          refine ⟨fun hb => ?_, fun hb => ?_⟩
          · have e : isPay n (.tuple [x, y, z]) = false := by
              unfold isPay
              split
              · rename_i he
                cases he
                simp [isNum] at hb
              · rfl
            rw [e] at h
            exact h
          · simp only [Bool.and_eq_true] at hb
            obtain ⟨h1, h2, h3⟩ := hb
            cases x with
            | int a =>
              cases y with
              | int b =>
                cases z with
                | int c =>
                  simp_arith []
                  simp only [isPay] at h
                  refine ⟨fun h1 => ⟨fun h2 => ⟨fun h3 => ⟨fun h4 => ⟨fun h5 => ?_, fun h5 => ?_⟩, fun h4 => ?_⟩, fun h3 => ?_⟩, fun h2 => ?_⟩, fun h1 => ?_⟩
                  · simpa [h1, h2, h3, h4, h5] using h
                  · simpa [h5] using h
                  · simpa [Int.not_lt.2 h4] using h
                  · simpa [Int.not_le.2 h3] using h
                  · simpa [Int.not_lt.2 h2] using h
                  · simpa [Int.not_le.2 h1] using h
                | _ => cases h3
              | _ => cases h2
            | _ => cases h1
  | _ =>
    simp_arith [PyData.isTuple]
    exact h
def pay (l : List Int) (a b c : Int) : List Int := (l.set a.toNat (bal l a + c)).set b.toNat (bal (l.set a.toNat (bal l a + c)) b - c)
def payD (l : List Int) : D → List Int
  | .tuple [.int a, .int b, .int c] => pay l a b c
  | _ => l
theorem pay_length (l : List Int) (a b c : Int) : (pay l a b c).length = l.length := by simp [pay]
def setB (bs : List Int) : D → Bool
  | .list ds => decide (ds.length ≤ 16) && ds.all (isPay bs.length) && (ds.foldl payD bs).all fun x => decide (x = 0)
  | _ => false
theorem isPay_is {n : Int} {d : D} (h : isPay n d = true) : ∃ a b c : Int, d = .tuple [.int a, .int b, .int c] ∧ 0 ≤ a ∧ a < n ∧ 0 ≤ b ∧ b < n ∧ a ≠ b ∧ 0 < c := by
  unfold isPay at h
  split at h
  · rename_i a b c
    simp at h
    exact ⟨a, b, c, rfl, by omega, by omega, by omega, by omega, by omega, by omega⟩
  · cases h
theorem len_sq {t : Bool} {bs : List Int} {p : D → Prop} : Wl (dLen (sq t bs)) p = p (.int bs.length) := by
  cases t
  · exact (wl_lenL (p := p)).trans (by rw [List.length_map])
  · exact (wl_lenT (p := p)).trans (by rw [List.length_map])
theorem list_sq {t : Bool} {bs : List Int} {p : D → Prop} : Wl (dList (sq t bs)) p = p (.list (bs.map .int)) := by
  cases t <;> exact propext Iff.rfl
theorem isBal_len {t : Bool} {bs : List Int} (h : isBal (sq t bs) = true) : 1 ≤ bs.length ∧ bs.length ≤ 8 ∧ bs.sum = 0 := by
  cases t <;> simp [isBal, sq, seqOf, intsB_map, sumOf_map] at h <;> omega
theorem settles_ok {E : Ex → Prop} {t : Bool} {bs : List Int} {d : D} {q : D → List D → Prop} (hb : isBal (sq t bs) = true) (h : q (.bool (setB bs d)) []) : Fw E m_settles [sq t bs, d] q := by
  unfold m_settles b_settles
  simp_arith []
  refine need_balances_ok (fun _ => ?_) (fun z => by rw [hb] at z; cases z)
  cases d with
  | list ds =>
    simp_arith [PyData.isList]
    refine ⟨fun hl => ?_, fun hl => ?_⟩
    · have : ¬ ds.length ≤ 16 := by omega
      simpa [setB, this] using h
    · have hl2 : ds.length ≤ 16 := by omega
      refine lc_eachD (fun x => .bool (isPay bs.length x)) (fun ρ => ∃ o, ρ = [some ⟨false, sq t bs⟩, some ⟨false, .list ds⟩, none, none, none, none, o]) ds (by omega) ⟨_, rfl⟩ ?_ ?_
      · rintro x hx ρ ⟨o, rfl⟩
        simp_arith [len_sq]
        exact is_payment_ok ⟨rfl, _, rfl⟩
      · rintro ρ' ⟨o, rfl⟩
        have e : List.map (fun x => PyData.bool (isPay bs.length x)) ds = (ds.map (isPay bs.length)).map .bool := by rw [List.map_map]; rfl
        have e2 : (ds.map (isPay bs.length)).all id = ds.all (isPay bs.length) := by rw [List.all_map]; rfl
        rw [e, wl_all, e2]
        refine ⟨fun hb => by simpa [setB, hb] using h, fun hpay => ?_⟩
        simp_arith [list_sq]
        refine wp_seqL (fun ρ => ∃ (o3 o4 o5 : Option Sl), ρ = [some ⟨false, sq t bs⟩, some ⟨false, .list ds⟩, some ⟨true, .list ((ds.foldl payD bs).map .int)⟩, o3, o4, o5, none]) ?_ ?_
        · simp_arith []
          refine wp_for (fun xs ρ => ∃ (o3 o4 o5 : Option Sl) (us : List D), ρ = [some ⟨false, sq t bs⟩, some ⟨false, .list ds⟩, some ⟨true, .list ((us.foldl payD bs).map .int)⟩, o3, o4, o5, none] ∧ ds = us ++ xs ∧ (us.foldl payD bs).length = bs.length) ?_ ?_ _ _ ⟨_, _, _, [], rfl, rfl, rfl⟩
          · rintro x r ρ ⟨o3, o4, o5, us, rfl, hu, hlen⟩
            obtain ⟨a, b, c, rfl, h1, h2, h3, h4, h5, h6⟩ := isPay_is (List.all_eq_true.1 hpay x (by rw [hu]; simp))
            have hlen2 : ((us.foldl payD bs).length : Int) = bs.length := by omega
            generalize hL : us.foldl payD bs = L at hlen hlen2 ⊢
            simp_arith [wl_ixLI h1 (by omega : a < (L.length : Int)), List.length_map, List.length_set, ixN_of h1 (by omega : a < (L.length : Int)), ixN_of h3 (by omega : b < (L.length : Int)), atI_of h3]
            have es : ∀ v : Int, (L.map PyData.int).set a.toNat (.int v) = (L.set a.toNat v).map .int := fun v => by rw [List.map_set]
            rw [es, List.getElem?_map, List.getElem?_eq_getElem (by simp; omega)]
            simp_arith []
            refine ⟨some ⟨false, .int a⟩, some ⟨false, .int b⟩, some ⟨false, .int c⟩, us ++ [.tuple [.int a, .int b, .int c]], ?_, by simp [hu], by simp [payD, pay_length, hL, hlen]⟩
            have eg : ∀ (M : List Int) (h : b.toNat < M.length), M[b.toNat] = bal M b := fun M h => by rw [bal, List.getD_eq_getElem?_getD, List.getElem?_eq_getElem h]; rfl
            have ef : (us ++ [PyData.tuple [.int a, .int b, .int c]]).foldl payD bs = pay L a b c := by rw [List.foldl_append, hL]; rfl
            rw [ef, eg, pay]
            simp only [List.map_set]
            rfl
          · rintro ρ ⟨o3, o4, o5, us, rfl, hu, hlen⟩
            rw [List.append_nil] at hu
            subst hu
            exact ⟨_, _, _, rfl⟩
        · rintro ρ ⟨o3, o4, o5, rfl⟩
          simp_arith []
          rw [wp_lcN rfl]
          simp_arith []
          refine lc_each (key := PyData.int) (fun x => .bool (decide (x = 0))) (fun ρ => ∃ o, ρ = [some ⟨false, sq t bs⟩, some ⟨false, .list ds⟩, none, o3, o4, o5, o]) (ds.foldl payD bs) ?_ ⟨_, rfl⟩ ?_ ?_
          · have : ∀ (xs : List D) (l : List Int), (xs.foldl payD l).length = l.length := by
              intro xs
              induction xs with
              | nil => intro l; rfl
              | cons x r ih =>
                intro l
                rw [List.foldl_cons, ih]
                unfold payD
                split
                · exact pay_length _ _ _ _
                · rfl
            rw [this]
            have := isBal_len hb
            omega
          · rintro x hx ρ ⟨o, rfl⟩
            simp_arith []
            exact ⟨_, rfl⟩
          · rintro ρ' ⟨o, rfl⟩
            have e : List.map (fun x : Int => PyData.bool (decide (x = 0))) (ds.foldl payD bs) = ((ds.foldl payD bs).map fun x => decide (x = 0)).map .bool := by rw [List.map_map]; rfl
            simp_arith []
            rw [e, wl_all, List.all_map]
            have e2 : setB bs (.list ds) = ((ds.foldl payD bs).all (id ∘ fun x => decide (x = 0))) := by simp [setB, hl2, hpay]
            rw [← e2]
            exact h
  | _ =>
    simp_arith [PyData.isList]
    exact h

end Cv
end
section
namespace Cv
open PySem L2
local macro_rules
  | `(tactic| simp_arith) => `(tactic| try simp only [fw_run, wp_ret, wp_bnd, wp_no, wp_lft, wl_some, wl_none, wl_if, wo_some, wp_var, wp_get, wp_getO, wp_putO, wp_setSh, wp_setOw, wp_op, wp_opN, wp_T, wp_chain, wp_and, wp_or, wp_not, wp_notT, wp_andT, wp_orT, wp_if, wp_nil, wp_cons, wp_tup, wp_lst, wp_c1, wp_cN, wp_seq, wp_drop, wp_rt, wp_rtN, wp_set, wp_setO, wp_asg, wp_gtup, wp_gcons, wp_gnil, wp_par, wp_par3, wp_par3M, wp_par3E, wp_parG, wp_parF, wp_parE, wp_put, wp_for0, wp_itL, wp_itT, wp_itK, wp_callL, wp_mN, wp_m, wp_itA, wit_list, wit_tup, wit_dict, wp_listRg, wp_rng1, wp_rng2, wp_enum, wp_zip, wp_zipT, wp_call, wp_callF, wp_kind, hid_nil, hid_cons, hidO_sh, hidO_ow, hidO_none, wp_here, wp_callQ, wp_raise, wp_lc0, vRetNone, vYes, vDict0, wl_add, wl_addT, wl_addL, wl_sub, wl_mul, wl_mulL, wl_mod, wl_fdiv, wl_divmod, wl_lt, wl_gt, wl_le, wl_ge, wl_eq, wl_ne, wl_lenL, wl_lenT, wl_lenD, wl_ixL, wl_ixT, wl_setL, wl_abs, wl_max2, wl_min2, wl_intB, wl_tupL, wl_tupT, wl_listL, wl_listT, wl_sumL, wl_sumT, wl_eqL, wl_neL, wl_eqL0, wl_neL0, wl_pow18, wl_pow19, wl_pow21, ent, entL, outsOf, noOwn, wipeE, backE, isC_list, isC_dict, isC_tup, isC_int, isC_bool, isC_str, isC_none, isC_tI, isC_dOf, wl_setI, wl_ixI, wl_inI, wl_niI, wp_is, wp_mw, wp_neg, wp_sl, wp_slN, wl_slLtN, wl_slLdN, wl_slLdN1, wl_slTtN, wl_slTdN, wl_slTdN1, wl_rev, wp_part, wp_noPart, wr_append, wr_extend, ty_list, wl_neg, wl_sl1T, wl_slT1, wl_slL1, wl_eqT0, wl_sl1L, wl_all, wl_any, isInt_int, isBool_int, isTuple_tup, isTuple_tI, wl_lenI, wl_ixtI, wl_inL, wl_niL, wl_inT, wl_inT2, wl_ltT, wl_lt2, Option.map_some, Bool.not_not, wl_set4, wl_set2, wl_set3, wl_ixt, wl_ix2, wl_ni2, List.all_cons, List.all_nil, List.length_cons, List.length_nil, Nat.reduceAdd, Nat.reduceSub, Nat.reduceLeDiff, List.contains_cons, List.contains_nil, List.replicate, List.cons_append, List.nil_append, List.append_nil, if_true, if_false, ↓reduceIte, true_and, and_true, true_implies, false_implies, implies_true, reduceCtorEq, List.getElem?_cons_zero, List.getElem?_cons_succ, List.getElem?_nil, List.set_cons_zero, List.set_cons_succ, Option.join_some, Option.join_none, Option.isSome_some, atI_0, atI_1, atI_2, atI_3, atI_4, ixN_0, ixN_1, List.take_zero, List.drop_zero, List.take_succ_cons, List.drop_succ_cons, Bool.or_false, Bool.or_true, Bool.true_or, Bool.false_or, Bool.and_true, Bool.and_false, Bool.true_and, Bool.false_and, Bool.not_true, Bool.not_false, Bool.false_eq_true, Bool.not_eq_true', Bool.not_eq_false', Bool.not_eq_eq_eq_not, decide_eq_true_eq, decide_eq_false_iff_not, decide_true, decide_false, Nat.reduceBEq, beq_self_eq_true, Int.reduceLT, Int.reduceLE, Int.reduceNeg, Int.reducePow, Int.reduceToNat, Int.not_lt])
local macro_rules
  | `(tactic| simp_arith [$xs,*] $[$l]?) => `(tactic| simp only [fw_run, wp_ret, wp_bnd, wp_no, wp_lft, wl_some, wl_none, wl_if, wo_some, wp_var, wp_get, wp_getO, wp_putO, wp_setSh, wp_setOw, wp_op, wp_opN, wp_T, wp_chain, wp_and, wp_or, wp_not, wp_notT, wp_andT, wp_orT, wp_if, wp_nil, wp_cons, wp_tup, wp_lst, wp_c1, wp_cN, wp_seq, wp_drop, wp_rt, wp_rtN, wp_set, wp_setO, wp_asg, wp_gtup, wp_gcons, wp_gnil, wp_par, wp_par3, wp_par3M, wp_par3E, wp_parG, wp_parF, wp_parE, wp_put, wp_for0, wp_itL, wp_itT, wp_itK, wp_callL, wp_mN, wp_m, wp_itA, wit_list, wit_tup, wit_dict, wp_listRg, wp_rng1, wp_rng2, wp_enum, wp_zip, wp_zipT, wp_call, wp_callF, wp_kind, hid_nil, hid_cons, hidO_sh, hidO_ow, hidO_none, wp_here, wp_callQ, wp_raise, wp_lc0, vRetNone, vYes, vDict0, wl_add, wl_addT, wl_addL, wl_sub, wl_mul, wl_mulL, wl_mod, wl_fdiv, wl_divmod, wl_lt, wl_gt, wl_le, wl_ge, wl_eq, wl_ne, wl_lenL, wl_lenT, wl_lenD, wl_ixL, wl_ixT, wl_setL, wl_abs, wl_max2, wl_min2, wl_intB, wl_tupL, wl_tupT, wl_listL, wl_listT, wl_sumL, wl_sumT, wl_eqL, wl_neL, wl_eqL0, wl_neL0, wl_pow18, wl_pow19, wl_pow21, ent, entL, outsOf, noOwn, wipeE, backE, isC_list, isC_dict, isC_tup, isC_int, isC_bool, isC_str, isC_none, isC_tI, isC_dOf, wl_setI, wl_ixI, wl_inI, wl_niI, wp_is, wp_mw, wp_neg, wp_sl, wp_slN, wl_slLtN, wl_slLdN, wl_slLdN1, wl_slTtN, wl_slTdN, wl_slTdN1, wl_rev, wp_part, wp_noPart, wr_append, wr_extend, ty_list, wl_neg, wl_sl1T, wl_slT1, wl_slL1, wl_eqT0, wl_sl1L, wl_all, wl_any, isInt_int, isBool_int, isTuple_tup, isTuple_tI, wl_lenI, wl_ixtI, wl_inL, wl_niL, wl_inT, wl_inT2, wl_ltT, wl_lt2, Option.map_some, Bool.not_not, wl_set4, wl_set2, wl_set3, wl_ixt, wl_ix2, wl_ni2, List.all_cons, List.all_nil, List.length_cons, List.length_nil, Nat.reduceAdd, Nat.reduceSub, Nat.reduceLeDiff, List.contains_cons, List.contains_nil, List.replicate, List.cons_append, List.nil_append, List.append_nil, if_true, if_false, ↓reduceIte, true_and, and_true, true_implies, false_implies, implies_true, reduceCtorEq, List.getElem?_cons_zero, List.getElem?_cons_succ, List.getElem?_nil, List.set_cons_zero, List.set_cons_succ, Option.join_some, Option.join_none, Option.isSome_some, atI_0, atI_1, atI_2, atI_3, atI_4, ixN_0, ixN_1, List.take_zero, List.drop_zero, List.take_succ_cons, List.drop_succ_cons, Bool.or_false, Bool.or_true, Bool.true_or, Bool.false_or, Bool.and_true, Bool.and_false, Bool.true_and, Bool.false_and, Bool.not_true, Bool.not_false, Bool.false_eq_true, Bool.not_eq_true', Bool.not_eq_false', Bool.not_eq_eq_eq_not, decide_eq_true_eq, decide_eq_false_iff_not, decide_true, decide_false, Nat.reduceBEq, beq_self_eq_true, Int.reduceLT, Int.reduceLE, Int.reduceNeg, Int.reducePow, Int.reduceToNat, Int.not_lt, $xs,*] $[$l]?)
/-! settling: groups -/
abbrev tP (a : List Int) : D := .tuple (a.map .int)
theorem ix_sq {t : Bool} {bs : List Int} {i : Int} {p : D → Prop} (h : 0 ≤ i) (h2 : i < bs.length) : Wl (dIx (sq t bs) (.int i)) p = p (.int (bal bs i)) := by
  cases t
  · exact wl_ixLI h h2
  · exact wl_ixTI h h2
theorem some_of_ok {E : Ex → Prop} {P : List Int} {q : D → List D → Prop} (h8 : P.length ≤ 8) (h : q (.list ((parts P [[]]).map tP)) []) : Fw E m_some_of [tP P] q := by
  unfold m_some_of b_some_of
  simp_arith []
  refine wp_seqL (fun ρ => ∃ (o2 : Option Sl), ρ = [some ⟨false, tP P⟩, some ⟨true, .list ((parts P [[]]).map tP)⟩, o2, none]) ?_ ?_
  · simp_arith []
    refine wp_for (fun xs ρ => ∃ (o2 : Option Sl) (us vs : List Int) (acc : List (List Int)), ρ = [some ⟨false, tP P⟩, some ⟨true, .list (acc.map tP)⟩, o2, none] ∧ xs = vs.map .int ∧ P = us ++ vs ∧ parts P [[]] = parts vs acc) ?_ ?_ _ _ ⟨none, [], P, [[]], rfl, rfl, rfl, rfl⟩
    · rintro x r ρ ⟨o2, us, vs, acc, rfl, hx, hu, hp⟩
      obtain ⟨p0, vs', rfl, rfl, rfl⟩ := cons_map hx
      have big := sizeLine_eq
      have hsz : acc.length ≤ 256 := by
        have h1 := congrArg List.length hp
        rw [parts_length, parts_length] at h1
        have h2 : 2 ^ P.length ≤ 2 ^ 8 := Nat.pow_le_pow_right (by decide) h8
        have h3 : acc.length * 1 ≤ acc.length * 2 ^ (p0 :: vs').length := Nat.mul_le_mul_left _ Nat.one_le_two_pow
        simp only [List.length_singleton, Nat.one_mul] at h1
        omega
      simp_arith []
      rw [wp_lcN rfl]
      simp_arith []
      refine lc_each (key := tP) (fun a => tP (a ++ [p0])) (fun ρ => ∃ o3, ρ = [some ⟨false, tP P⟩, none, some ⟨false, .int p0⟩, o3]) acc (by omega) ⟨_, rfl⟩ ?_ ?_
      · rintro a ha ρ ⟨o3, rfl⟩
        simp_arith []
        have ha2 : a.length ≤ 8 := by
          have h1 : a ∈ parts P [[]] := by rw [hp]; exact (mem_parts a _ _).2 ⟨a, ha, [], List.nil_sublist _, by simp⟩
          obtain ⟨b, hb, s', hs, e⟩ := (mem_parts a _ _).1 h1
          obtain rfl : b = [] := by simpa using hb
          rw [e, List.nil_append]
          exact Nat.le_trans hs.length_le h8
        exact ⟨by rw [List.length_map]; omega, by simp [tP], _, rfl⟩
      · rintro ρ' ⟨o3, rfl⟩
        simp_arith []
        refine ⟨by simp only [List.length_map]; omega, some ⟨false, .int p0⟩, us ++ [p0], vs', acc ++ acc.map (· ++ [p0]), ?_, rfl, by simp [hu], hp⟩
        rw [List.map_append, List.map_map]
        rfl
    · rintro ρ ⟨o2, us, vs, acc, rfl, hx, hu, hp⟩
      obtain rfl := nil_map hx
      exact ⟨o2, by rw [hp]; rfl⟩
  · rintro ρ ⟨o2, rfl⟩
    simp_arith []
    exact h
def Ris (gs : List (List Int)) : Prop := gs.Pairwise fun g h => ∀ a ∈ g.head?, ∀ b ∈ h.head?, a < b
theorem parted_ok {t : Bool} {bs : List Int} (hb8 : bs.length ≤ 8) : ∀ (n : Nat) (P : List Int), P.length < n → P.length ≤ 8 → up P → (∀ p ∈ P, 0 ≤ p ∧ p < bs.length) → gsum bs P = 0 → ∀ (E : Ex → Prop) (q : D → List D → Prop), (∀ gs, Bst bs P gs → (∀ g ∈ gs, g.Sublist P) → Ris gs → q (.list (gs.map tP)) []) → Fw E (mm_parted n) [sq t bs, tP P] q := by
  intro n
  induction n with
  | zero => intro P h; omega
  | succ n ih =>
    intro P hn h8 hP hin hz E q h
    have big := sizeLine_eq
    unfold mm_parted b_parted
    simp_arith []
    refine ⟨fun hp => ?_, fun hp => ?_⟩
    · subst hp
      exact h [] (best_nil bs) (fun g hg => nomatch hg) .nil
    · obtain ⟨p0, R, rfl⟩ : ∃ p0 R, P = p0 :: R := by
        cases P with
        | nil => exact absurd rfl hp
        | cons a r => exact ⟨a, r, rfl⟩
      simp only [List.length_cons] at hn h8
      have hR : up R := (List.pairwise_cons.1 hP).2
      have hp0 := (List.pairwise_cons.1 hP).1
      refine wp_seqL (fun ρ => ∃ (best : List (List Int)) (ob : Bool) (o3 o4 o5 : Option Sl), ρ = [some ⟨false, sq t bs⟩, some ⟨false, tP (p0 :: R)⟩, some ⟨ob, .list (best.map tP)⟩, o3, o4, o5, none] ∧ Bst bs (p0 :: R) best ∧ (∀ g ∈ best, g.Sublist (p0 :: R)) ∧ Ris best) ?_ ?_
      · simp_arith [List.map_cons, List.tail_cons]
        refine some_of_ok (by omega) ?_
        simp_arith []
        refine wp_for (fun xs ρ => ∃ (best : List (List Int)) (ob : Bool) (o3 o4 o5 : Option Sl) (us vs : List (List Int)), ρ = [some ⟨false, sq t bs⟩, some ⟨false, tP (p0 :: R)⟩, some ⟨ob, .list (best.map tP)⟩, o3, o4, o5, none] ∧ xs = vs.map tP ∧ parts R [[]] = us ++ vs ∧ (best = [] ∨ Part bs (p0 :: R) best) ∧ (∀ g ∈ best, g.Sublist (p0 :: R)) ∧ Ris best ∧ best.length ≤ 8 ∧ ∀ s ∈ us, gsum bs (p0 :: s) = 0 → ∀ gs, Part bs (outs (p0 :: R) (p0 :: s)) gs → gs.length + 1 ≤ best.length) ?_ ?_ _ _ ⟨[], true, _, _, _, [], parts R [[]], rfl, rfl, rfl, .inl rfl, (fun g hg => nomatch hg), .nil, by simp, (fun s hs => nomatch hs)⟩
        · rintro x r ρ ⟨best, ob, o3, o4, o5, us, vs, rfl, hx, hu, hb, hsub, hris, hb8', hmax⟩
          obtain ⟨s, vs', rfl, rfl, rfl⟩ := cons_map hx
          have hs : s.Sublist R := by
            have h1 : s ∈ parts R [[]] := by rw [hu]; simp
            obtain ⟨b, hb, s', hs, e⟩ := (mem_parts s _ _).1 h1
            obtain rfl : b = [] := by simpa using hb
            rw [e]; exact hs
          have hsl := hs.length_le
          have hg : (p0 :: s).Sublist (p0 :: R) := hs.cons_cons p0
          simp_arith [List.map_cons, List.length_map]
          refine ⟨by omega, ?_⟩
          refine lc_each (key := PyData.int) (fun p => .int (bal bs p)) (fun ρ => ∃ o6, ρ = [some ⟨false, sq t bs⟩, some ⟨false, tP (p0 :: R)⟩, some ⟨ob, .list (best.map tP)⟩, some ⟨false, tP s⟩, some ⟨false, tP (p0 :: s)⟩, o5, o6]) (p0 :: s) (by simp; omega) ⟨_, rfl⟩ ?_ ?_
          · rintro p hp ρ ⟨o6, rfl⟩
            obtain ⟨h1, h2⟩ := hin p (hg.subset hp)
            simp_arith [ix_sq h1 h2]
            exact ⟨_, rfl⟩
          · rintro ρ' ⟨o6, rfl⟩
            have e : List.map (fun p => PyData.int (bal bs p)) (p0 :: s) = ((p0 :: s).map (bal bs)).map .int := by rw [List.map_map]; rfl
            have e2 : ((p0 :: s).map (bal bs)).sum = gsum bs (p0 :: s) := rfl
            rw [e, wl_sumL, e2]
            simp_arith []
            have next : (gsum bs (p0 :: s) = 0 → ∀ gs, Part bs (outs (p0 :: R) (p0 :: s)) gs → gs.length + 1 ≤ best.length) → ∀ z ∈ us ++ [s], gsum bs (p0 :: z) = 0 → ∀ gs, Part bs (outs (p0 :: R) (p0 :: z)) gs → gs.length + 1 ≤ best.length := by
              intro hh z hz'
              rcases List.mem_append.1 hz' with h1 | h1
              · exact hmax z h1
              · rw [List.mem_singleton.1 h1]; exact hh
            refine ⟨fun hg0 => ?_, fun hg0 => ⟨best, ob, _, _, _, us ++ [s], vs', rfl, rfl, by simp [hu], hb, hsub, hris, hb8', next fun z => absurd z hg0⟩⟩
            refine lc_pick (key := PyData.int) (fun p => !decide (p ∈ p0 :: s)) PyData.int (fun ρ => ∃ o6, ρ = [some ⟨false, sq t bs⟩, some ⟨false, tP (p0 :: R)⟩, some ⟨ob, .list (best.map tP)⟩, some ⟨false, tP s⟩, some ⟨false, tP (p0 :: s)⟩, o5, o6]) (p0 :: R) (by simp; omega) ⟨_, rfl⟩ ?_ ?_
            · rintro p hp ρ ⟨o6, rfl⟩
              simp_arith []
              rw [wl_niT]
              refine ⟨fun hb => ⟨of_decide_eq_true (by rw [Bool.not_eq_false'] at hb; exact hb), _, rfl⟩, fun hb => ⟨of_decide_eq_false (by rw [Bool.not_eq_true'] at hb; exact hb), _, rfl⟩⟩
            · rintro ρ' ⟨o6, rfl⟩
              simp_arith []
              have hol : (outs (p0 :: R) (p0 :: s)).length ≤ R.length := by
                have := (outs_perm hP hg).length_eq
                simp at this
                omega
              have hos : (outs (p0 :: R) (p0 :: s)).Sublist (p0 :: R) := List.filter_sublist
              refine ih (outs (p0 :: R) (p0 :: s)) (by omega) (by omega) (hP.sublist hos) (fun p hp => hin p (hos.subset hp)) ?_ E _ fun gs hgs hsub2 hris2 => ?_
              · have := gsum_perm (bs := bs) (outs_perm hP hg)
                rw [gsum_append] at this
                omega
              have hpart : Part bs (p0 :: R) ((p0 :: s) :: gs) := part_cons hP hg (by simp) hg0 hgs.1
              have hgl := part_len hgs.1
              have hris' : Ris ((p0 :: s) :: gs) := by
                refine List.pairwise_cons.2 ⟨fun h hh a ha b hb => ?_, hris2⟩
                obtain rfl : p0 = a := by simpa using ha
                have hb2 : b ∈ h := List.mem_of_mem_head? hb
                have hb3 := (hsub2 h hh).subset hb2
                obtain ⟨h1, h2⟩ := List.mem_filter.1 hb3
                rcases List.mem_cons.1 h1 with rfl | h1
                · simp at h2
                · exact hp0 b h1
              have hsub' : ∀ g ∈ (p0 :: s) :: gs, g.Sublist (p0 :: R) := by
                intro g hg'
                rcases List.mem_cons.1 hg' with rfl | hg'
                · exact hg
                · exact (hsub2 g hg').trans hos
              have hlen8 : ((p0 :: s) :: gs).length ≤ 8 := by simp only [List.length_cons]; omega
              rw [wl_addL]
              refine ⟨by simp; omega, ?_⟩
              have el : PyData.list ([tP (p0 :: s)] ++ gs.map tP) = .list (((p0 :: s) :: gs).map tP) := rfl
              rw [el]
              cases ob <;> simp_arith [List.length_map] <;> refine ⟨fun hlt => ⟨_, _, _, _, _, us ++ [s], vs', rfl, rfl, by simp [hu], .inr hpart, hsub', hris', hlen8, ?_⟩, fun hge => ⟨_, _, _, _, _, us ++ [s], vs', rfl, rfl, by simp [hu], hb, hsub, hris, hb8', next fun _ gs' hgs' => ?_⟩⟩
              · simp only [List.length_cons] at hlt ⊢
                intro z hz' h0 gs' hgs'
                rcases List.mem_append.1 hz' with h1 | h1
                · have := hmax z h1 h0 gs' hgs'; omega
                · rw [List.mem_singleton.1 h1] at hgs'
                  have := hgs.2 gs' hgs'; omega
              · have := hgs.2 gs' hgs'; omega
              · simp only [List.length_cons] at hlt ⊢
                intro z hz' h0 gs' hgs'
                rcases List.mem_append.1 hz' with h1 | h1
                · have := hmax z h1 h0 gs' hgs'; omega
                · rw [List.mem_singleton.1 h1] at hgs'
                  have := hgs.2 gs' hgs'; omega
              · have := hgs.2 gs' hgs'; omega
        · rintro ρ ⟨best, ob, o3, o4, o5, us, vs, rfl, hx, hu, hb, hsub, hris, hb8', hmax⟩
          obtain rfl := nil_map hx
          rw [List.append_nil] at hu
          refine ⟨best, ob, o3, o4, o5, rfl, ⟨?_, ?_⟩, hsub, hris⟩
          · refine hb.resolve_left fun z => ?_
            have h1 : R ∈ us := by rw [← hu]; exact (mem_parts R _ _).2 ⟨[], by simp, R, List.Sublist.refl _, rfl⟩
            have h2 : outs (p0 :: R) (p0 :: R) = [] := by simp only [outs, List.filter_eq_nil_iff]; intro a ha; simp [ha]
            have := hmax R h1 hz [] (by rw [h2]; exact (best_nil bs).1)
            rw [z] at this
            simp at this
          · intro gs hgs
            obtain ⟨s, gs'', hs, h1, h2, h3⟩ := part_step hP hgs
            have := hmax s (by rw [← hu]; exact (mem_parts s _ _).2 ⟨[], by simp, s, hs, rfl⟩) h1 gs'' h2
            omega
      · rintro ρ ⟨best, ob, o3, o4, o5, rfl, hb, hsub, hris⟩
        cases ob <;> simp_arith [] <;> exact h best hb hsub hris
/-- the places that aren't nought -/
def nz (bs : List Int) : List Int := ((List.range bs.length).map fun k : Nat => (k : Int)).filter fun p => !decide (bal bs p = 0)
theorem nz_up (bs : List Int) : up (nz bs) := by
  refine List.Pairwise.filter _ ?_
  rw [List.pairwise_map]
  exact List.pairwise_lt_range.imp fun h => by omega
theorem nz_in {bs : List Int} {p : Int} (h : p ∈ nz bs) : 0 ≤ p ∧ p < bs.length ∧ bal bs p ≠ 0 := by
  obtain ⟨h1, h2⟩ := List.mem_filter.1 h
  obtain ⟨k, hk, rfl⟩ := List.mem_map.1 h1
  exact ⟨by omega, by have := List.mem_range.1 hk; omega, by simpa using h2⟩
theorem in_nz {bs : List Int} {p : Int} (h : 0 ≤ p) (h1 : p < bs.length) (h2 : bal bs p ≠ 0) : p ∈ nz bs := by
  refine List.mem_filter.2 ⟨List.mem_map.2 ⟨p.toNat, List.mem_range.2 (by omega), by omega⟩, by simpa using h2⟩
theorem nz_length (bs : List Int) : (nz bs).length ≤ bs.length := by
  have := List.length_filter_le (fun p => !decide (bal bs p = 0)) ((List.range bs.length).map fun k : Nat => (k : Int))
  simpa [nz] using this
theorem sum_bal (bs : List Int) : gsum bs ((List.range bs.length).map fun k : Nat => (k : Int)) = bs.sum := by
  unfold gsum
  congr 1
  rw [List.map_map]
  apply List.ext_getElem
  · simp
  · intro i h1 h2
    simp [bal, List.getD_eq_getElem?_getD, List.getElem?_eq_getElem h2]
theorem gsum_nz (bs : List Int) : gsum bs (nz bs) = bs.sum := by
  rw [← sum_bal bs]
  have : ∀ xs : List Int, gsum bs (xs.filter fun p => !decide (bal bs p = 0)) = gsum bs xs := by
    intro xs
    induction xs with
    | nil => rfl
    | cons x r ih =>
      by_cases hx : bal bs x = 0
      · simp [hx, gsum_cons, ih]
      · simp [hx, gsum_cons, ih]
  exact this _
theorem groups_ok {E : Ex → Prop} {t : Bool} {bs : List Int} {q : D → List D → Prop} (hb : isBal (sq t bs) = true) (h : ∀ gs, Bst bs (nz bs) gs → (∀ g ∈ gs, g.Sublist (nz bs)) → Ris gs → q (.list (gs.map tP)) []) : Fw E m_groups [sq t bs] q := by
  obtain ⟨l1, l2, l3⟩ := isBal_len hb
  unfold m_groups b_groups
  simp_arith []
  refine need_balances_ok (fun _ => ?_) (fun z => by rw [hb] at z; cases z)
  simp_arith [len_sq]
  refine ⟨by omega, ?_⟩
  rw [Int.toNat_natCast, rngD_map]
  refine lc_pick (key := PyData.int) (fun p => !decide (bal bs p = 0)) PyData.int (fun ρ => ∃ o, ρ = [some ⟨false, sq t bs⟩, o]) _ (by simp; omega) ⟨_, rfl⟩ ?_ ?_
  · rintro p hp ρ ⟨o, rfl⟩
    obtain ⟨k, hk, rfl⟩ := List.mem_map.1 hp
    have := List.mem_range.1 hk
    simp_arith [ix_sq (by omega : (0 : Int) ≤ k) (by omega : (k : Int) < bs.length)]
    exact ⟨fun hb => ⟨hb, _, rfl⟩, fun hb => ⟨hb, _, rfl⟩⟩
  · rintro ρ' ⟨o, rfl⟩
    have := nz_length bs
    exact parted_ok l2 9 (nz bs) (by omega) (by omega) (nz_up bs) (fun p hp => ⟨(nz_in hp).1, (nz_in hp).2.1⟩) (by rw [gsum_nz, l3]) E _ h
def few (gs : List (List Int)) : Int := (gs.map fun g => (g.length : Int) - 1).sum

end Cv
end
section
namespace Cv
open PySem L2
local macro_rules
  | `(tactic| simp_arith) => `(tactic| try simp only [fw_run, wp_ret, wp_bnd, wp_no, wp_lft, wl_some, wl_none, wl_if, wo_some, wp_var, wp_get, wp_getO, wp_putO, wp_setSh, wp_setOw, wp_op, wp_opN, wp_T, wp_chain, wp_and, wp_or, wp_not, wp_notT, wp_andT, wp_orT, wp_if, wp_nil, wp_cons, wp_tup, wp_lst, wp_c1, wp_cN, wp_seq, wp_drop, wp_rt, wp_rtN, wp_set, wp_setO, wp_asg, wp_gtup, wp_gcons, wp_gnil, wp_par, wp_par3, wp_par3M, wp_par3E, wp_parG, wp_parF, wp_parE, wp_put, wp_for0, wp_itL, wp_itT, wp_itK, wp_callL, wp_mN, wp_m, wp_itA, wit_list, wit_tup, wit_dict, wp_listRg, wp_rng1, wp_rng2, wp_enum, wp_zip, wp_zipT, wp_call, wp_callF, wp_kind, hid_nil, hid_cons, hidO_sh, hidO_ow, hidO_none, wp_here, wp_callQ, wp_raise, wp_lc0, vRetNone, vYes, vDict0, wl_add, wl_addT, wl_addL, wl_sub, wl_mul, wl_mulL, wl_mod, wl_fdiv, wl_divmod, wl_lt, wl_gt, wl_le, wl_ge, wl_eq, wl_ne, wl_lenL, wl_lenT, wl_lenD, wl_ixL, wl_ixT, wl_setL, wl_abs, wl_max2, wl_min2, wl_intB, wl_tupL, wl_tupT, wl_listL, wl_listT, wl_sumL, wl_sumT, wl_eqL, wl_neL, wl_eqL0, wl_neL0, wl_pow18, wl_pow19, wl_pow21, ent, entL, outsOf, noOwn, wipeE, backE, isC_list, isC_dict, isC_tup, isC_int, isC_bool, isC_str, isC_none, isC_tI, isC_dOf, wl_setI, wl_ixI, wl_inI, wl_niI, wp_is, wp_mw, wp_neg, wp_sl, wp_slN, wl_slLtN, wl_slLdN, wl_slLdN1, wl_slTtN, wl_slTdN, wl_slTdN1, wl_rev, wp_part, wp_noPart, wr_append, wr_extend, ty_list, wl_neg, wl_sl1T, wl_slT1, wl_slL1, wl_eqT0, wl_sl1L, wl_all, wl_any, isInt_int, isBool_int, isTuple_tup, isTuple_tI, wl_lenI, wl_ixtI, wl_inL, wl_niL, wl_inT, wl_inT2, wl_ltT, wl_lt2, Option.map_some, Bool.not_not, wl_set4, wl_set2, wl_set3, wl_ixt, wl_ix2, wl_ni2, List.all_cons, List.all_nil, List.length_cons, List.length_nil, Nat.reduceAdd, Nat.reduceSub, Nat.reduceLeDiff, List.contains_cons, List.contains_nil, List.replicate, List.cons_append, List.nil_append, List.append_nil, if_true, if_false, ↓reduceIte, true_and, and_true, true_implies, false_implies, implies_true, reduceCtorEq, List.getElem?_cons_zero, List.getElem?_cons_succ, List.getElem?_nil, List.set_cons_zero, List.set_cons_succ, Option.join_some, Option.join_none, Option.isSome_some, atI_0, atI_1, atI_2, atI_3, atI_4, ixN_0, ixN_1, List.take_zero, List.drop_zero, List.take_succ_cons, List.drop_succ_cons, Bool.or_false, Bool.or_true, Bool.true_or, Bool.false_or, Bool.and_true, Bool.and_false, Bool.true_and, Bool.false_and, Bool.not_true, Bool.not_false, Bool.false_eq_true, Bool.not_eq_true', Bool.not_eq_false', Bool.not_eq_eq_eq_not, decide_eq_true_eq, decide_eq_false_iff_not, decide_true, decide_false, Nat.reduceBEq, beq_self_eq_true, Int.reduceLT, Int.reduceLE, Int.reduceNeg, Int.reducePow, Int.reduceToNat, Int.not_lt])
local macro_rules
  | `(tactic| simp_arith [$xs,*] $[$l]?) => `(tactic| simp only [fw_run, wp_ret, wp_bnd, wp_no, wp_lft, wl_some, wl_none, wl_if, wo_some, wp_var, wp_get, wp_getO, wp_putO, wp_setSh, wp_setOw, wp_op, wp_opN, wp_T, wp_chain, wp_and, wp_or, wp_not, wp_notT, wp_andT, wp_orT, wp_if, wp_nil, wp_cons, wp_tup, wp_lst, wp_c1, wp_cN, wp_seq, wp_drop, wp_rt, wp_rtN, wp_set, wp_setO, wp_asg, wp_gtup, wp_gcons, wp_gnil, wp_par, wp_par3, wp_par3M, wp_par3E, wp_parG, wp_parF, wp_parE, wp_put, wp_for0, wp_itL, wp_itT, wp_itK, wp_callL, wp_mN, wp_m, wp_itA, wit_list, wit_tup, wit_dict, wp_listRg, wp_rng1, wp_rng2, wp_enum, wp_zip, wp_zipT, wp_call, wp_callF, wp_kind, hid_nil, hid_cons, hidO_sh, hidO_ow, hidO_none, wp_here, wp_callQ, wp_raise, wp_lc0, vRetNone, vYes, vDict0, wl_add, wl_addT, wl_addL, wl_sub, wl_mul, wl_mulL, wl_mod, wl_fdiv, wl_divmod, wl_lt, wl_gt, wl_le, wl_ge, wl_eq, wl_ne, wl_lenL, wl_lenT, wl_lenD, wl_ixL, wl_ixT, wl_setL, wl_abs, wl_max2, wl_min2, wl_intB, wl_tupL, wl_tupT, wl_listL, wl_listT, wl_sumL, wl_sumT, wl_eqL, wl_neL, wl_eqL0, wl_neL0, wl_pow18, wl_pow19, wl_pow21, ent, entL, outsOf, noOwn, wipeE, backE, isC_list, isC_dict, isC_tup, isC_int, isC_bool, isC_str, isC_none, isC_tI, isC_dOf, wl_setI, wl_ixI, wl_inI, wl_niI, wp_is, wp_mw, wp_neg, wp_sl, wp_slN, wl_slLtN, wl_slLdN, wl_slLdN1, wl_slTtN, wl_slTdN, wl_slTdN1, wl_rev, wp_part, wp_noPart, wr_append, wr_extend, ty_list, wl_neg, wl_sl1T, wl_slT1, wl_slL1, wl_eqT0, wl_sl1L, wl_all, wl_any, isInt_int, isBool_int, isTuple_tup, isTuple_tI, wl_lenI, wl_ixtI, wl_inL, wl_niL, wl_inT, wl_inT2, wl_ltT, wl_lt2, Option.map_some, Bool.not_not, wl_set4, wl_set2, wl_set3, wl_ixt, wl_ix2, wl_ni2, List.all_cons, List.all_nil, List.length_cons, List.length_nil, Nat.reduceAdd, Nat.reduceSub, Nat.reduceLeDiff, List.contains_cons, List.contains_nil, List.replicate, List.cons_append, List.nil_append, List.append_nil, if_true, if_false, ↓reduceIte, true_and, and_true, true_implies, false_implies, implies_true, reduceCtorEq, List.getElem?_cons_zero, List.getElem?_cons_succ, List.getElem?_nil, List.set_cons_zero, List.set_cons_succ, Option.join_some, Option.join_none, Option.isSome_some, atI_0, atI_1, atI_2, atI_3, atI_4, ixN_0, ixN_1, List.take_zero, List.drop_zero, List.take_succ_cons, List.drop_succ_cons, Bool.or_false, Bool.or_true, Bool.true_or, Bool.false_or, Bool.and_true, Bool.and_false, Bool.true_and, Bool.false_and, Bool.not_true, Bool.not_false, Bool.false_eq_true, Bool.not_eq_true', Bool.not_eq_false', Bool.not_eq_eq_eq_not, decide_eq_true_eq, decide_eq_false_iff_not, decide_true, decide_false, Nat.reduceBEq, beq_self_eq_true, Int.reduceLT, Int.reduceLE, Int.reduceNeg, Int.reducePow, Int.reduceToNat, Int.not_lt, $xs,*] $[$l]?)
/-! settling: payments -/
abbrev Pay := Int × Int × Int
def payT (x : Pay) : D := .tuple [.int x.1, .int x.2.1, .int x.2.2]
def eff (ps : List Pay) (p : Int) : Int := (ps.map fun x => (if x.1 = p then x.2.2 else 0) - (if x.2.1 = p then x.2.2 else 0)).sum
theorem eff_append (a b : List Pay) (p : Int) : eff (a ++ b) p = eff a p + eff b p := by simp [eff]
theorem eff_one (a b c p : Int) : eff [(a, b, c)] p = (if a = p then c else 0) - (if b = p then c else 0) := by simp [eff]
/-- no part of it is of sum nought -/
def Irr (bs g : List Int) : Prop := ∀ s : List Int, s ≠ [] → s.Nodup → (∀ p ∈ s, p ∈ g) → s.length < g.length → gsum bs s ≠ 0
theorem sum_neg {f : Int → Int} : ∀ {g : List Int}, (∀ p ∈ g, f p ≤ 0) → (∃ p ∈ g, f p < 0) → (g.map f).sum < 0
  | [], _, h => by obtain ⟨p, hp, _⟩ := h; cases hp
  | x :: r, h1, h2 => by
    have hr : (r.map f).sum ≤ 0 := by
      clear h2
      induction r with
      | nil => simp
      | cons y r ih =>
        have := ih fun p hp => h1 p (by simp at hp ⊢; rcases hp with h | h; exact .inl h; exact .inr (.inr h))
        have := h1 y (by simp)
        simp only [List.map_cons, List.sum_cons]
        omega
    have hx := h1 x (by simp)
    simp only [List.map_cons, List.sum_cons]
    obtain ⟨p, hp, hlt⟩ := h2
    rcases List.mem_cons.1 hp with rfl | hp
    · omega
    · have := sum_neg (fun p hp => h1 p (by simp [hp])) ⟨p, hp, hlt⟩
      omega
theorem sum_zero {f : Int → Int} : ∀ {g : List Int}, (∀ p ∈ g, 0 ≤ f p) → (g.map f).sum = 0 → ∀ p ∈ g, f p = 0
  | [], _, _, p, hp => by cases hp
  | x :: r, h1, h2, p, hp => by
    have hr : 0 ≤ (r.map f).sum := by
      have h1' : ∀ p ∈ r, 0 ≤ f p := fun p hp => h1 p (by simp [hp])
      clear h1 h2 hp
      induction r with
      | nil => simp
      | cons y r ih =>
        have := ih fun p hp => h1' p (by simp [hp])
        have := h1' y (by simp)
        simp only [List.map_cons, List.sum_cons]
        omega
    have hx := h1 x (by simp)
    simp only [List.map_cons, List.sum_cons] at h2
    rcases List.mem_cons.1 hp with rfl | hp
    · omega
    · exact sum_zero (fun p hp => h1 p (by simp [hp])) (by omega) p hp
theorem sum_upd {f : Int → Int} {a : Int} {c : Int} : ∀ {g : List Int}, g.Nodup → (g.map fun p => f p + if a = p then c else 0).sum = (g.map f).sum + if a ∈ g then c else 0
  | [], _ => by simp
  | x :: r, h => by
    have h1 := List.nodup_cons.1 h
    have := sum_upd (f := f) (a := a) (c := c) h1.2
    simp only [List.map_cons, List.sum_cons, this, List.mem_cons]
    by_cases hx : a = x
    · subst hx
      simp [h1.1]
      omega
    · simp [hx]
      omega
structure PayI (bs g : List Int) (L : Int → Int) (ps ts : List Int) (pays : List Pay) : Prop where
  left : ∀ p, L p = bal bs p + eff pays p
  sum : (g.map L).sum = 0
  neg : ∀ p ∈ ps, p ∈ g ∧ L p < 0
  pos : ∀ p ∈ ts, p ∈ g ∧ 0 < L p
  rest : ∀ p ∈ g, p ∉ ps → p ∉ ts → L p = 0
  nps : ps.Nodup
  nts : ts.Nodup
  tp : ∀ p ∈ ps.tail, L p = bal bs p
  tt : ∀ p ∈ ts.tail, L p = bal bs p
  each : ∀ x ∈ pays, x.1 ∈ g ∧ x.2.1 ∈ g ∧ bal bs x.1 < 0 ∧ 0 < bal bs x.2.1 ∧ 0 < x.2.2 ∧ ¬ (x.1 ∈ ps ∧ x.2.1 ∈ ts)
  sgn : (∀ p ∈ ps, bal bs p < 0) ∧ ∀ p ∈ ts, 0 < bal bs p
  once : pays.Pairwise fun x y => ¬ (x.1 = y.1 ∧ x.2.1 = y.2.1)
  most : pays.length + ps.length + ts.length ≤ g.length
  cnt : Irr bs g → (ps ≠ [] → pays.length + ps.length + ts.length = g.length) ∧ (ps = [] → g ≠ [] → pays.length + 1 = g.length)
  low : ∀ p ∈ ps, bal bs p ≤ L p
  cap : ∀ x ∈ pays, x.2.2 ≤ 0 - bal bs x.1
theorem sub_perm {g s : List Int} (hg : g.Nodup) (hs : s.Nodup) (h : ∀ p ∈ s, p ∈ g) : (s ++ g.filter fun p => !decide (p ∈ s)).Perm g := by
  have e : (g.filter fun p => decide (p ∈ s)).Perm s := by
    refine (List.perm_ext_iff_of_nodup (hg.sublist List.filter_sublist) hs).2 fun a => ?_
    constructor
    · intro ha; simpa using (List.mem_filter.1 ha).2
    · intro ha; exact List.mem_filter.2 ⟨h a ha, by simpa using ha⟩
  have := List.filter_append_perm (fun p => decide (p ∈ s)) g
  exact (e.symm.append_right _).trans this
theorem sum_sub {g s : List Int} {f : Int → Int} (hg : g.Nodup) (hs : s.Nodup) (h : ∀ p ∈ s, p ∈ g) (h0 : ∀ p ∈ g, p ∉ s → f p = 0) : (s.map f).sum = (g.map f).sum := by
  have := perm_sum ((sub_perm hg hs h).map f)
  rw [List.map_append, List.sum_append] at this
  have z : ((g.filter fun p => !decide (p ∈ s)).map f).sum = 0 := by
    have : ∀ xs : List Int, (∀ p ∈ xs, f p = 0) → (xs.map f).sum = 0 := by
      intro xs
      induction xs with
      | nil => intro _; rfl
      | cons x r ih =>
        intro hx
        simp only [List.map_cons, List.sum_cons, hx x (by simp), ih fun p hp => hx p (by simp [hp])]
        rfl
    refine this _ fun p hp => ?_
    obtain ⟨h1, h2⟩ := List.mem_filter.1 hp
    exact h0 p h1 (by simpa using h2)
  omega
/-- one payment -/
theorem PayI.step {bs g : List Int} {L : Int → Int} {a b : Int} {ps ts : List Int} {pays : List Pay} (hg : g.Nodup) (I : PayI bs g L (a :: ps) (b :: ts) pays) {c : Int} (hc : c = if L b < 0 - L a then L b else 0 - L a) :
    PayI bs g (fun p => L p + (if a = p then c else 0) - (if b = p then c else 0)) (if L a + c = 0 then ps else a :: ps) (if L b - c = 0 then ts else b :: ts) (pays ++ [(a, b, c)]) ∧ a ≠ b ∧ 0 < c ∧ (L a + c = 0 ∨ L b - c = 0) := by
  obtain ⟨ag, la⟩ := I.neg a (by simp)
  obtain ⟨bg, lb⟩ := I.pos b (by simp)
  have hab : a ≠ b := fun z => by rw [z] at la; omega
  have hcs : 0 < c ∧ L a + c ≤ 0 ∧ 0 ≤ L b - c ∧ (L a + c = 0 ∨ L b - c = 0) := by
    rw [hc]; split <;> omega
  obtain ⟨c0, ca, cb, cz⟩ := hcs
  obtain ⟨L', hL⟩ : ∃ L' : Int → Int, L' = fun p => L p + (if a = p then c else 0) - (if b = p then c else 0) := ⟨_, rfl⟩
  rw [← hL]
  have hLa : L' a = L a + c := by rw [hL]; simp [Ne.symm hab]
  have hLb : L' b = L b - c := by rw [hL]; simp [hab]
  have hLo : ∀ p, p ≠ a → p ≠ b → L' p = L p := fun p h1 h2 => by rw [hL]; simp [Ne.symm h1, Ne.symm h2]
  have na := List.nodup_cons.1 I.nps
  have nb := List.nodup_cons.1 I.nts
  have psL : ∀ p ∈ ps, p ∈ g ∧ L' p = L p ∧ L p < 0 := fun p hp => by
    obtain ⟨h1, h2⟩ := I.neg p (by simp [hp])
    exact ⟨h1, hLo p (fun z => na.1 (z ▸ hp)) (fun z => by rw [z] at h2; omega), h2⟩
  have tsL : ∀ p ∈ ts, p ∈ g ∧ L' p = L p ∧ 0 < L p := fun p hp => by
    obtain ⟨h1, h2⟩ := I.pos p (by simp [hp])
    exact ⟨h1, hLo p (fun z => by rw [z] at h2; omega) (fun z => nb.1 (z ▸ hp)), h2⟩
  have hsum : (g.map L').sum = 0 := by
    have h1 := sum_upd (f := L) (a := a) (c := c) hg
    have h2 := sum_upd (f := fun p => L p + if a = p then c else 0) (a := b) (c := -c) hg
    have e : (fun p => (L p + if a = p then c else 0) + if b = p then -c else 0) = L' := by
      rw [hL]; funext p; by_cases h : b = p <;> simp [h] <;> omega
    rw [e, h1, I.sum] at h2
    rw [h2]
    simp [ag, bg]
    omega
  obtain ⟨ps', hps⟩ : ∃ ps', ps' = if L a + c = 0 then ps else a :: ps := ⟨_, rfl⟩
  obtain ⟨ts', hts⟩ : ∃ ts', ts' = if L b - c = 0 then ts else b :: ts := ⟨_, rfl⟩
  rw [← hps, ← hts]
  have ps1 : ∀ p ∈ ps', p ∈ a :: ps := fun p hp => by rw [hps] at hp; split at hp <;> simp_all
  have ts1 : ∀ p ∈ ts', p ∈ b :: ts := fun p hp => by rw [hts] at hp; split at hp <;> simp_all
  have ps2 : ∀ p ∈ ps, p ∈ ps' := fun p hp => by rw [hps]; split <;> simp_all
  have ts2 : ∀ p ∈ ts, p ∈ ts' := fun p hp => by rw [hts]; split <;> simp_all
  have psa : a ∈ ps' → L a + c < 0 := fun h => by
    rw [hps] at h
    split at h
    · exact absurd h na.1
    · omega
  have tsb : b ∈ ts' → 0 < L b - c := fun h => by
    rw [hts] at h
    split at h
    · exact absurd h nb.1
    · omega
  have psa' : a ∉ ps' → L a + c = 0 := fun h => by
    rw [hps] at h
    split at h
    · assumption
    · simp at h
  have tsb' : b ∉ ts' → L b - c = 0 := fun h => by
    rw [hts] at h
    split at h
    · assumption
    · simp at h
  have hneg : ∀ p ∈ ps', p ∈ g ∧ L' p < 0 := fun p hp => by
    rcases List.mem_cons.1 (ps1 p hp) with rfl | h
    · exact ⟨ag, by rw [hLa]; exact psa hp⟩
    · obtain ⟨h1, h2, h3⟩ := psL p h; exact ⟨h1, by omega⟩
  have hpos : ∀ p ∈ ts', p ∈ g ∧ 0 < L' p := fun p hp => by
    rcases List.mem_cons.1 (ts1 p hp) with rfl | h
    · exact ⟨bg, by rw [hLb]; exact tsb hp⟩
    · obtain ⟨h1, h2, h3⟩ := tsL p h; exact ⟨h1, by omega⟩
  have hrest : ∀ p ∈ g, p ∉ ps' → p ∉ ts' → L' p = 0 := fun p hp h1 h2 => by
    by_cases ha : p = a
    · rw [ha] at h1 ⊢; rw [hLa]; exact psa' h1
    by_cases hb : p = b
    · rw [hb] at h2 ⊢; rw [hLb]; exact tsb' h2
    rw [hLo p ha hb]
    exact I.rest p hp (fun z => h1 (ps2 p ((List.mem_cons.1 z).resolve_left ha))) (fun z => h2 (ts2 p ((List.mem_cons.1 z).resolve_left hb)))
  have noneg : ps' = [] → ts' = [] := fun h => by
    have hall : ∀ p ∈ g, 0 ≤ L' p := fun p hp => by
      by_cases h2 : p ∈ ts'
      · have := (hpos p h2).2; omega
      · rw [hrest p hp (by rw [h]; simp) h2]; exact Int.le_refl 0
    cases ht : ts' with
    | nil => rfl
    | cons x r =>
      have h1 := hpos x (by rw [ht]; simp)
      have := sum_zero hall hsum x h1.1
      omega
  refine ⟨⟨fun p => ?_, hsum, hneg, hpos, hrest, ?_, ?_, fun p hp => ?_, fun p hp => ?_, fun x hx => ?_, ⟨fun p hp => I.sgn.1 p (ps1 p hp), fun p hp => I.sgn.2 p (ts1 p hp)⟩, ?_, ?_, fun irr => ?_, fun p hp => ?_, fun x hx => ?_⟩, hab, c0, cz⟩
  · have := I.left p
    rw [hL, eff_append, eff_one]
    dsimp only
    omega
  · rw [hps]; split
    · exact na.2
    · exact I.nps
  · rw [hts]; split
    · exact nb.2
    · exact I.nts
  · have : p ∈ ps := by
      rw [hps] at hp
      split at hp
      · exact List.mem_of_mem_tail hp
      · exact hp
    rw [(psL p this).2.1]
    exact I.tp p this
  · have : p ∈ ts := by
      rw [hts] at hp
      split at hp
      · exact List.mem_of_mem_tail hp
      · exact hp
    rw [(tsL p this).2.1]
    exact I.tt p this
  · rcases List.mem_append.1 hx with h | h
    · obtain ⟨h1, h2, h3, h4, h5, h6⟩ := I.each x h
      exact ⟨h1, h2, h3, h4, h5, fun z => h6 ⟨ps1 _ z.1, ts1 _ z.2⟩⟩
    · obtain rfl := List.mem_singleton.1 h
      refine ⟨ag, bg, I.sgn.1 a (by simp), I.sgn.2 b (by simp), c0, fun z => ?_⟩
      have := psa z.1
      have := tsb z.2
      omega
  · refine List.pairwise_append.2 ⟨I.once, List.pairwise_singleton _ _, fun x hx y hy => ?_⟩
    obtain rfl := List.mem_singleton.1 hy
    rintro ⟨h1, h2⟩
    exact (I.each x hx).2.2.2.2.2 ⟨by rw [h1]; simp, by rw [h2]; simp⟩
  · have := I.most
    rw [hps, hts]
    simp only [List.length_append, List.length_cons, List.length_nil] at this ⊢
    split <;> split <;> (try simp only [List.length_cons]) <;> omega
  · have h0 := (I.cnt irr).1 (by simp)
    simp only [List.length_cons, List.length_append, List.length_nil] at h0 ⊢
    by_cases za : L a + c = 0
    · have ep : ps' = ps := by rw [hps, if_pos za]
      by_cases zb : L b - c = 0
      · have et : ts' = ts := by rw [hts, if_pos zb]
        rw [ep, et] at noneg ⊢
        refine ⟨fun hne => ?_, fun he _ => ?_⟩
        · exfalso
          have hd : (ps ++ ts).Nodup := by
            refine List.nodup_append.2 ⟨na.2, nb.2, fun x hx y hy z => ?_⟩
            have := (psL x hx).2.2
            have := (tsL y hy).2.2
            rw [z] at *
            omega
          have hin : ∀ p ∈ ps ++ ts, p ∈ g := fun p hp => by
            rcases List.mem_append.1 hp with h | h
            · exact (psL p h).1
            · exact (tsL p h).1
          refine irr (ps ++ ts) (by simp [hne]) hd hin (by simp; omega) ?_
          have h1 := sum_sub (f := L') hg hd hin (fun p hp hn => hrest p hp (fun z => hn (by rw [ep] at z; simp [z])) (fun z => hn (by rw [et] at z; simp [z])))
          rw [hsum] at h1
          rw [← h1]
          unfold gsum
          congr 1
          refine List.map_congr_left fun p hp => ?_
          rcases List.mem_append.1 hp with h | h
          · rw [(psL p h).2.1]; exact (I.tp p h).symm
          · rw [(tsL p h).2.1]; exact (I.tt p h).symm
        · have := noneg he
          have e1 := congrArg List.length he
          have e2 := congrArg List.length this
          simp only [List.length_nil] at e1 e2
          omega
      · have et : ts' = b :: ts := by rw [hts, if_neg zb]
        rw [ep, et] at noneg ⊢
        refine ⟨fun _ => by simp only [List.length_cons]; omega, fun he => by simpa using noneg he⟩
    · have ep : ps' = a :: ps := by rw [hps, if_neg za]
      have et : ts' = ts := by rw [hts, if_pos (cz.resolve_left za)]
      rw [ep, et]
      refine ⟨fun _ => by simp only [List.length_cons]; omega, fun he => by simp at he⟩
  · have hl := I.low p (ps1 p hp)
    rcases List.mem_cons.1 (ps1 p hp) with rfl | h
    · rw [hLa]; omega
    · rw [(psL p h).2.1]; exact hl
  · rcases List.mem_append.1 hx with h | h
    · exact I.cap x h
    · obtain rfl := List.mem_singleton.1 h
      have := I.low a (by simp)
      show c ≤ 0 - bal bs a
      omega

end Cv
end
section
namespace Cv
open PySem L2
local macro_rules
  | `(tactic| simp_arith) => `(tactic| try simp only [fw_run, wp_ret, wp_bnd, wp_no, wp_lft, wl_some, wl_none, wl_if, wo_some, wp_var, wp_get, wp_getO, wp_putO, wp_setSh, wp_setOw, wp_op, wp_opN, wp_T, wp_chain, wp_and, wp_or, wp_not, wp_notT, wp_andT, wp_orT, wp_if, wp_nil, wp_cons, wp_tup, wp_lst, wp_c1, wp_cN, wp_seq, wp_drop, wp_rt, wp_rtN, wp_set, wp_setO, wp_asg, wp_gtup, wp_gcons, wp_gnil, wp_par, wp_par3, wp_par3M, wp_par3E, wp_parG, wp_parF, wp_parE, wp_put, wp_for0, wp_itL, wp_itT, wp_itK, wp_callL, wp_mN, wp_m, wp_itA, wit_list, wit_tup, wit_dict, wp_listRg, wp_rng1, wp_rng2, wp_enum, wp_zip, wp_zipT, wp_call, wp_callF, wp_kind, hid_nil, hid_cons, hidO_sh, hidO_ow, hidO_none, wp_here, wp_callQ, wp_raise, wp_lc0, vRetNone, vYes, vDict0, wl_add, wl_addT, wl_addL, wl_sub, wl_mul, wl_mulL, wl_mod, wl_fdiv, wl_divmod, wl_lt, wl_gt, wl_le, wl_ge, wl_eq, wl_ne, wl_lenL, wl_lenT, wl_lenD, wl_ixL, wl_ixT, wl_setL, wl_abs, wl_max2, wl_min2, wl_intB, wl_tupL, wl_tupT, wl_listL, wl_listT, wl_sumL, wl_sumT, wl_eqL, wl_neL, wl_eqL0, wl_neL0, wl_pow18, wl_pow19, wl_pow21, ent, entL, outsOf, noOwn, wipeE, backE, isC_list, isC_dict, isC_tup, isC_int, isC_bool, isC_str, isC_none, isC_tI, isC_dOf, wl_setI, wl_ixI, wl_inI, wl_niI, wp_is, wp_mw, wp_neg, wp_sl, wp_slN, wl_slLtN, wl_slLdN, wl_slLdN1, wl_slTtN, wl_slTdN, wl_slTdN1, wl_rev, wp_part, wp_noPart, wr_append, wr_extend, ty_list, wl_neg, wl_sl1T, wl_slT1, wl_slL1, wl_eqT0, wl_sl1L, wl_all, wl_any, isInt_int, isBool_int, isTuple_tup, isTuple_tI, wl_lenI, wl_ixtI, wl_inL, wl_niL, wl_inT, wl_inT2, wl_ltT, wl_lt2, Option.map_some, Bool.not_not, wl_set4, wl_set2, wl_set3, wl_ixt, wl_ix2, wl_ni2, List.all_cons, List.all_nil, List.length_cons, List.length_nil, Nat.reduceAdd, Nat.reduceSub, Nat.reduceLeDiff, List.contains_cons, List.contains_nil, List.replicate, List.cons_append, List.nil_append, List.append_nil, if_true, if_false, ↓reduceIte, true_and, and_true, true_implies, false_implies, implies_true, reduceCtorEq, List.getElem?_cons_zero, List.getElem?_cons_succ, List.getElem?_nil, List.set_cons_zero, List.set_cons_succ, Option.join_some, Option.join_none, Option.isSome_some, atI_0, atI_1, atI_2, atI_3, atI_4, ixN_0, ixN_1, List.take_zero, List.drop_zero, List.take_succ_cons, List.drop_succ_cons, Bool.or_false, Bool.or_true, Bool.true_or, Bool.false_or, Bool.and_true, Bool.and_false, Bool.true_and, Bool.false_and, Bool.not_true, Bool.not_false, Bool.false_eq_true, Bool.not_eq_true', Bool.not_eq_false', Bool.not_eq_eq_eq_not, decide_eq_true_eq, decide_eq_false_iff_not, decide_true, decide_false, Nat.reduceBEq, beq_self_eq_true, Int.reduceLT, Int.reduceLE, Int.reduceNeg, Int.reducePow, Int.reduceToNat, Int.not_lt])
local macro_rules
  | `(tactic| simp_arith [$xs,*] $[$l]?) => `(tactic| simp only [fw_run, wp_ret, wp_bnd, wp_no, wp_lft, wl_some, wl_none, wl_if, wo_some, wp_var, wp_get, wp_getO, wp_putO, wp_setSh, wp_setOw, wp_op, wp_opN, wp_T, wp_chain, wp_and, wp_or, wp_not, wp_notT, wp_andT, wp_orT, wp_if, wp_nil, wp_cons, wp_tup, wp_lst, wp_c1, wp_cN, wp_seq, wp_drop, wp_rt, wp_rtN, wp_set, wp_setO, wp_asg, wp_gtup, wp_gcons, wp_gnil, wp_par, wp_par3, wp_par3M, wp_par3E, wp_parG, wp_parF, wp_parE, wp_put, wp_for0, wp_itL, wp_itT, wp_itK, wp_callL, wp_mN, wp_m, wp_itA, wit_list, wit_tup, wit_dict, wp_listRg, wp_rng1, wp_rng2, wp_enum, wp_zip, wp_zipT, wp_call, wp_callF, wp_kind, hid_nil, hid_cons, hidO_sh, hidO_ow, hidO_none, wp_here, wp_callQ, wp_raise, wp_lc0, vRetNone, vYes, vDict0, wl_add, wl_addT, wl_addL, wl_sub, wl_mul, wl_mulL, wl_mod, wl_fdiv, wl_divmod, wl_lt, wl_gt, wl_le, wl_ge, wl_eq, wl_ne, wl_lenL, wl_lenT, wl_lenD, wl_ixL, wl_ixT, wl_setL, wl_abs, wl_max2, wl_min2, wl_intB, wl_tupL, wl_tupT, wl_listL, wl_listT, wl_sumL, wl_sumT, wl_eqL, wl_neL, wl_eqL0, wl_neL0, wl_pow18, wl_pow19, wl_pow21, ent, entL, outsOf, noOwn, wipeE, backE, isC_list, isC_dict, isC_tup, isC_int, isC_bool, isC_str, isC_none, isC_tI, isC_dOf, wl_setI, wl_ixI, wl_inI, wl_niI, wp_is, wp_mw, wp_neg, wp_sl, wp_slN, wl_slLtN, wl_slLdN, wl_slLdN1, wl_slTtN, wl_slTdN, wl_slTdN1, wl_rev, wp_part, wp_noPart, wr_append, wr_extend, ty_list, wl_neg, wl_sl1T, wl_slT1, wl_slL1, wl_eqT0, wl_sl1L, wl_all, wl_any, isInt_int, isBool_int, isTuple_tup, isTuple_tI, wl_lenI, wl_ixtI, wl_inL, wl_niL, wl_inT, wl_inT2, wl_ltT, wl_lt2, Option.map_some, Bool.not_not, wl_set4, wl_set2, wl_set3, wl_ixt, wl_ix2, wl_ni2, List.all_cons, List.all_nil, List.length_cons, List.length_nil, Nat.reduceAdd, Nat.reduceSub, Nat.reduceLeDiff, List.contains_cons, List.contains_nil, List.replicate, List.cons_append, List.nil_append, List.append_nil, if_true, if_false, ↓reduceIte, true_and, and_true, true_implies, false_implies, implies_true, reduceCtorEq, List.getElem?_cons_zero, List.getElem?_cons_succ, List.getElem?_nil, List.set_cons_zero, List.set_cons_succ, Option.join_some, Option.join_none, Option.isSome_some, atI_0, atI_1, atI_2, atI_3, atI_4, ixN_0, ixN_1, List.take_zero, List.drop_zero, List.take_succ_cons, List.drop_succ_cons, Bool.or_false, Bool.or_true, Bool.true_or, Bool.false_or, Bool.and_true, Bool.and_false, Bool.true_and, Bool.false_and, Bool.not_true, Bool.not_false, Bool.false_eq_true, Bool.not_eq_true', Bool.not_eq_false', Bool.not_eq_eq_eq_not, decide_eq_true_eq, decide_eq_false_iff_not, decide_true, decide_false, Nat.reduceBEq, beq_self_eq_true, Int.reduceLT, Int.reduceLE, Int.reduceNeg, Int.reducePow, Int.reduceToNat, Int.not_lt, $xs,*] $[$l]?)
/-! settling: payments told -/
structure PayR (bs g : List Int) (pays : List Pay) : Prop where
  each : ∀ x ∈ pays, x.1 ∈ g ∧ x.2.1 ∈ g ∧ bal bs x.1 < 0 ∧ 0 < bal bs x.2.1 ∧ 0 < x.2.2
  once : pays.Pairwise fun x y => ¬ (x.1 = y.1 ∧ x.2.1 = y.2.1)
  done : ∀ p ∈ g, bal bs p + eff pays p = 0
  most : pays.length ≤ g.length
  cnt : Irr bs g → g ≠ [] → pays.length + 1 = g.length
  cap : ∀ x ∈ pays, x.2.2 ≤ 0 - bal bs x.1
theorem PayI.fin {bs g ts : List Int} {L : Int → Int} {pays : List Pay} (I : PayI bs g L [] ts pays) : PayR bs g pays := by
  have hall : ∀ p ∈ g, 0 ≤ L p := fun p hp => by
    by_cases h2 : p ∈ ts
    · have := (I.pos p h2).2; omega
    · rw [I.rest p hp (by simp) h2]; exact Int.le_refl 0
  refine ⟨fun x hx => ?_, I.once, fun p hp => ?_, by have := I.most; simp at this; omega, fun irr => (I.cnt irr).2 rfl, I.cap⟩
  · obtain ⟨h1, h2, h3, h4, h5, _⟩ := I.each x hx
    exact ⟨h1, h2, h3, h4, h5⟩
  · rw [← I.left p]
    exact sum_zero hall I.sum p hp
theorem PayI.ne {bs g ts : List Int} {L : Int → Int} {a : Int} {ps : List Int} {pays : List Pay} (I : PayI bs g L (a :: ps) ts pays) : ts ≠ [] := by
  rintro rfl
  have h := I.neg a (by simp)
  have := sum_neg (f := L) (g := g) (fun p hp => ?_) ⟨a, h.1, h.2⟩
  · rw [I.sum] at this; omega
  · by_cases h2 : p ∈ a :: ps
    · have := (I.neg p h2).2; omega
    · rw [I.rest p hp h2 (by simp)]; exact Int.le_refl 0
theorem PayI.start {bs g : List Int} (hg : g.Nodup) (hz : gsum bs g = 0) (hn : ∀ p ∈ g, bal bs p ≠ 0) : PayI bs g (bal bs) (g.filter fun p => decide (bal bs p < 0)) (g.filter fun p => decide (0 < bal bs p)) [] := by
  refine ⟨fun p => by simp [eff], hz, fun p hp => ?_, fun p hp => ?_, fun p hp h1 h2 => ?_, hg.sublist List.filter_sublist, hg.sublist List.filter_sublist, fun _ _ => rfl, fun _ _ => rfl, fun x hx => (nomatch hx), ⟨fun p hp => ?_, fun p hp => ?_⟩, (by exact .nil), ?_, fun _ => ⟨fun _ => ?_, fun he hne => ?_⟩, fun p _ => Int.le_refl _, fun x hx => (nomatch hx)⟩
  · obtain ⟨h1, h2⟩ := List.mem_filter.1 hp
    exact ⟨h1, by simpa using h2⟩
  · obtain ⟨h1, h2⟩ := List.mem_filter.1 hp
    exact ⟨h1, by simpa using h2⟩
  · have h3 : ¬ bal bs p < 0 := fun z => h1 (List.mem_filter.2 ⟨hp, by simpa using z⟩)
    have h4 : ¬ 0 < bal bs p := fun z => h2 (List.mem_filter.2 ⟨hp, by simpa using z⟩)
    omega
  · simpa using (List.mem_filter.1 hp).2
  · simpa using (List.mem_filter.1 hp).2
  all_goals
    have hl : (g.filter fun p => decide (bal bs p < 0)).length + (g.filter fun p => decide (0 < bal bs p)).length = g.length := by
      have h1 := (List.filter_append_perm (fun p => decide (bal bs p < 0)) g).length_eq
      have h2 : (g.filter fun p => !decide (bal bs p < 0)) = g.filter fun p => decide (0 < bal bs p) := by
        refine List.filter_congr fun p hp => ?_
        have := hn p hp
        by_cases h : bal bs p < 0
        · simp [h]; omega
        · have : 0 < bal bs p := by omega
          simp [h, this]
      rw [h2, List.length_append] at h1
      exact h1
  · simp; omega
  · simp; omega
  · exfalso
    have : 0 < (g.map (bal bs)).sum ∨ g = [] := by
      by_cases hg0 : g = []
      · exact .inr hg0
      · left
        have hp : ∀ p ∈ g, 0 < bal bs p := fun p hp => by
          have := hn p hp
          have h3 : ¬ bal bs p < 0 := fun z => by
            have : p ∈ g.filter fun p => decide (bal bs p < 0) := List.mem_filter.2 ⟨hp, by simpa using z⟩
            rw [he] at this
            cases this
          omega
        have h1 := sum_neg (f := fun p => - bal bs p) (g := g) (fun p h => by have := hp p h; omega) (by
          cases g with
          | nil => exact absurd rfl hg0
          | cons x r => exact ⟨x, by simp, by have := hp x (by simp); omega⟩)
        have h2 : ∀ xs : List Int, (xs.map fun p => - bal bs p).sum = - (xs.map (bal bs)).sum := by
          intro xs
          induction xs with
          | nil => rfl
          | cons x r ih => simp only [List.map_cons, List.sum_cons, ih]; omega
        rw [h2] at h1
        omega
    rcases this with h | h
    · unfold gsum at hz; omega
    · exact hne h
theorem payments_in_ok {E : Ex → Prop} {t : Bool} {bs g : List Int} {q : D → List D → Prop} (hg : g.Nodup) (hin : ∀ p ∈ g, 0 ≤ p ∧ p < bs.length ∧ bal bs p ≠ 0) (h8 : g.length ≤ 8) (hz : gsum bs g = 0) (h : ∀ pays, PayR bs g pays → q (.list (pays.map payT)) []) : Fw E m_payments_in [sq t bs, tP g] q := by
  have big := sizeLine_eq
  unfold m_payments_in b_payments_in
  simp_arith []
  refine lc_each (key := PyData.int) (fun p => .tuple [.int p, .int (bal bs p)]) (fun ρ => ∃ o, ρ = [some ⟨false, sq t bs⟩, some ⟨false, tP g⟩, none, none, none, none, none, none, none, o]) g (by omega) ⟨_, rfl⟩ ?_ ?_
  · rintro p hp ρ ⟨o, rfl⟩
    obtain ⟨h1, h2, _⟩ := hin p hp
    simp_arith [ix_sq h1 h2]
    exact ⟨_, rfl⟩
  rintro ρ' ⟨o, rfl⟩
  have row : ∀ (f : Int → Int) (p : D → Prop), Wl (dDictA (.list (g.map fun p => .tuple [.int p, .int (f p)]))) p = p (dOf PyData.int (g.map fun p => (p, .int (f p)))) := by
    intro f p
    have := wl_dictI (kvs := g.map fun p => (p, .int (f p))) (p := p) (by rw [List.map_map]; simpa [Function.comp_def] using hg)
    rw [List.map_map] at this
    exact this
  rw [row]
  simp_arith []
  have ixr : ∀ (f : Int → Int) (a : Int) (ha : a ∈ g) (p : D → Prop), Wl (gK (g.map fun p => (p, PyData.int (f p))) a) p = p (.int (f a)) := by
    intro f a ha p
    rw [gK_row ha]
    exact propext Iff.rfl
  refine lc_pick (key := PyData.int) (fun p => decide (bal bs p < 0)) PyData.int (fun ρ => ∃ o, ρ = [some ⟨false, sq t bs⟩, some ⟨false, tP g⟩, some ⟨true, dOf PyData.int (g.map fun p => (p, .int (bal bs p)))⟩, none, none, none, none, none, none, o]) g (by omega) ⟨_, rfl⟩ ?_ ?_
  · rintro p hp ρ ⟨o, rfl⟩
    simp_arith [ixr _ p hp]
    exact ⟨fun hb => ⟨by simpa using hb, _, rfl⟩, fun hb => ⟨by simpa using hb, _, rfl⟩⟩
  rintro ρ' ⟨o, rfl⟩
  simp_arith []
  refine lc_pick (key := PyData.int) (fun p => decide (0 < bal bs p)) PyData.int (fun ρ => ∃ o, ρ = [some ⟨false, sq t bs⟩, some ⟨false, tP g⟩, some ⟨true, dOf PyData.int (g.map fun p => (p, .int (bal bs p)))⟩, some ⟨true, .list ((g.filter fun p => decide (bal bs p < 0)).map .int)⟩, none, none, none, none, none, o]) g (by omega) ⟨_, rfl⟩ ?_ ?_
  · rintro p hp ρ ⟨o, rfl⟩
    simp_arith [ixr _ p hp]
    exact ⟨fun hb => ⟨by simpa using hb, _, rfl⟩, fun hb => ⟨by simpa using hb, _, rfl⟩⟩
  rintro ρ' ⟨o, rfl⟩
  simp_arith []
  refine wp_seqL (fun ρ => ∃ (pays : List Pay) (o2 o3 o4 o6 o7 o8 : Option Sl), ρ = [some ⟨false, sq t bs⟩, some ⟨false, tP g⟩, o2, o3, o4, some ⟨true, .list (pays.map payT)⟩, o6, o7, o8, none] ∧ PayR bs g pays) ?_ ?_
  · refine wp_while (fun k ρ => ∃ (L : Int → Int) (ps ts : List Int) (pays : List Pay) (b3 b4 : Bool) (o6 o7 o8 : Option Sl), ρ = [some ⟨false, sq t bs⟩, some ⟨false, tP g⟩, some ⟨true, dOf PyData.int (g.map fun p => (p, .int (L p)))⟩, some ⟨b3, .list (ps.map .int)⟩, some ⟨b4, .list (ts.map .int)⟩, some ⟨true, .list (pays.map payT)⟩, o6, o7, o8, none] ∧ PayI bs g L ps ts pays ∧ k = ps.length + ts.length) ?_ _ ⟨_, _, _, [], true, true, none, none, none, rfl, PayI.start hg hz (fun p hp => (hin p hp).2.2), rfl⟩ ?_
    · rintro k ρ ⟨L, ps, ts, pays, b3, b4, o6, o7, o8, rfl, I, rfl⟩
      have hpl : pays.length < sizeLine := by have := I.most; omega
      have tst : Wp E (vT (vOp dNe (vVar 3) (vLst vNil))) [some ⟨false, sq t bs⟩, some ⟨false, tP g⟩, some ⟨true, dOf PyData.int (g.map fun p => (p, .int (L p)))⟩, some ⟨b3, .list (ps.map .int)⟩, some ⟨b4, .list (ts.map .int)⟩, some ⟨true, .list (pays.map payT)⟩, o6, o7, o8, none] fun c ρ1 => c = (!decide (ps = [])) ∧ ρ1 = [some ⟨false, sq t bs⟩, some ⟨false, tP g⟩, some ⟨true, dOf PyData.int (g.map fun p => (p, .int (L p)))⟩, some ⟨false, .list (ps.map .int)⟩, some ⟨b4, .list (ts.map .int)⟩, some ⟨true, .list (pays.map payT)⟩, o6, o7, o8, none] := by
        cases b3 <;> simp_arith [] <;> exact ⟨rfl, rfl⟩
      refine tst.mono ?_
      rintro cc ρ1 ⟨rfl, rfl⟩
      cases ps with
      | nil => exact ⟨fun _ => ⟨pays, _, _, _, _, _, _, rfl, I.fin⟩, fun z => by simp at z⟩
      | cons a ps =>
        cases ts with
        | nil => exact absurd rfl I.ne
        | cons b ts =>
          obtain ⟨c, hc⟩ : ∃ c, c = if L b < 0 - L a then L b else 0 - L a := ⟨_, rfl⟩
          obtain ⟨I2, hab, c0, cz⟩ := I.step hg hc
          have ag := (I.neg a (by simp)).1
          have bg := (I.pos b (by simp)).1
          have put1 : pK (g.map fun p => (p, PyData.int (L p))) a (.int (L a + c)) = g.map fun p => (p, .int (L p + if a = p then c else 0)) := by
            rw [pK_row (f := fun p => PyData.int (L p)) ag]
            refine List.map_congr_left fun p _ => ?_
            by_cases hp : p = a
            · subst hp; simp
            · simp [hp, Ne.symm hp]
          have put2 : pK (g.map fun p => (p, PyData.int (L p + if a = p then c else 0))) b (.int (L b - c)) = g.map fun p => (p, .int (L p + (if a = p then c else 0) - if b = p then c else 0)) := by
            rw [pK_row (f := fun p => PyData.int (L p + if a = p then c else 0)) bg]
            refine List.map_congr_left fun p _ => ?_
            by_cases hp : p = b
            · subst hp; simp [hab]
            · simp [hp, Ne.symm hp]
          have fin : ∀ ρ1, ρ1 = [some ⟨false, sq t bs⟩, some ⟨false, tP g⟩, some ⟨true, dOf PyData.int (g.map fun p => (p, .int (L p)))⟩, some ⟨false, .list ((a :: ps).map .int)⟩, some ⟨b4, .list ((b :: ts).map .int)⟩, some ⟨true, .list (pays.map payT)⟩, o6, o7, o8, none] → Wp E ((vSeq (vParE 6 7 (vOp dIx (vVar 3) (ret (.int 0))) (vOp dIx (vVar 4) (ret (.int 0))))
    (vSeq (vSetO 8 (vCN dMin2 (vCons (vOp dSub (ret (.int 0)) (vOpN dIx 2 (vVar 6))) (vCons (vOpN dIx 2 (vVar 7)) vNil))))
    (vSeq (vDrop (vMW "list" dAppend 5 (vCons (vTup (vCons (vVar 6) (vCons (vVar 7) (vCons (vVar 8) vNil)))) vNil)))
    (vSeq (vPut 2 (vVar 6) (vOp dAdd (vOpN dIx 2 (vVar 6)) (vVar 8)))
    (vSeq (vPut 2 (vVar 7) (vOp dSub (vOpN dIx 2 (vVar 7)) (vVar 8)))
    (vSeq (vIf (vT (vOp dEq (vOpN dIx 2 (vVar 6)) (ret (.int 0))))
      (vSetO 3 (vSl (vVar 3) (vPart (ret (.int 1))) vNoPart))
      (ret .nx))
    (vIf (vT (vOp dEq (vOpN dIx 2 (vVar 7)) (ret (.int 0))))
      (vSetO 4 (vSl (vVar 4) (vPart (ret (.int 1))) vNoPart))
      (ret .nx))))))))) ρ1 fun fl ρ2 => match fl with
              | .nx => ∃ m, m < (a :: ps).length + (b :: ts).length ∧ ∃ (L : Int → Int) (ps ts : List Int) (pays : List Pay) (b3 b4 : Bool) (o6 o7 o8 : Option Sl), ρ2 = [some ⟨false, sq t bs⟩, some ⟨false, tP g⟩, some ⟨true, dOf PyData.int (g.map fun p => (p, .int (L p)))⟩, some ⟨b3, .list (ps.map .int)⟩, some ⟨b4, .list (ts.map .int)⟩, some ⟨true, .list (pays.map payT)⟩, o6, o7, o8, none] ∧ PayI bs g L ps ts pays ∧ m = ps.length + ts.length
              | _ => False := by
            rintro ρ1 rfl
            refine wp_step fun K hK _ => ?_
            have : ∀ b4 : Bool, (if b4 = true then True else True) := fun b => by cases b <;> trivial
            have par : Wp E (vParE 6 7 (vOp dIx (vVar 3) (ret (.int 0))) (vOp dIx (vVar 4) (ret (.int 0)))) [some ⟨false, sq t bs⟩, some ⟨false, tP g⟩, some ⟨true, dOf PyData.int (g.map fun p => (p, .int (L p)))⟩, some ⟨false, .list ((a :: ps).map .int)⟩, some ⟨b4, .list ((b :: ts).map .int)⟩, some ⟨true, .list (pays.map payT)⟩, o6, o7, o8, none] K = K .nx [some ⟨false, sq t bs⟩, some ⟨false, tP g⟩, some ⟨true, dOf PyData.int (g.map fun p => (p, .int (L p)))⟩, some ⟨false, .list ((a :: ps).map .int)⟩, some ⟨false, .list ((b :: ts).map .int)⟩, some ⟨true, .list (pays.map payT)⟩, some ⟨false, .int a⟩, some ⟨false, .int b⟩, o8, none] := by
              cases b4 <;> simp_arith [List.map_cons]
            rw [par]
            refine hK _ (wp_step fun K hK _ => ?_)
            simp_arith [ixr _ a ag, ixr _ b bg, ← hc]
            refine hK _ (wp_step fun K hK _ => ?_)
            simp_arith [List.length_map]
            refine ⟨hpl, hK _ (wp_step fun K hK _ => ?_)⟩
            simp_arith [ixr _ a ag, put1, List.length_map]
            refine ⟨by omega, hK _ (wp_step fun K hK _ => ?_)⟩
            have e1 : L b + (if a = b then c else 0) = L b := by simp [hab]
            simp_arith [ixr (fun p => L p + if a = p then c else 0) b bg, e1, put2, List.length_map]
            refine ⟨by omega, hK _ (wp_step fun K hK _ => ?_)⟩
            simp_arith [ixr (fun p => L p + (if a = p then c else 0) - if b = p then c else 0) a ag, List.map_cons, List.tail_cons]
            have ea : L a + c - (if b = a then c else 0) = L a + c := by simp [Ne.symm hab]
            have eb : L b + (if a = b then c else 0) - c = L b - c := by simp [hab]
            rw [ea]
            have last : ∀ (b3 : Bool) (ps' : List Int), ps' = (if L a + c = 0 then ps else a :: ps) → Wp E (vIf (vT (vOp dEq (vOpN dIx 2 (vVar 7)) (ret (.int 0)))) (vSetO 4 (vSl (vVar 4) (vPart (ret (.int 1))) vNoPart)) (ret .nx)) [some ⟨false, sq t bs⟩, some ⟨false, tP g⟩, some ⟨true, dOf PyData.int (g.map fun p => (p, .int (L p + (if a = p then c else 0) - if b = p then c else 0)))⟩, some ⟨b3, .list (ps'.map .int)⟩, some ⟨false, .list ((b :: ts).map .int)⟩, some ⟨true, .list ((pays ++ [(a, b, c)]).map payT)⟩, some ⟨false, .int a⟩, some ⟨false, .int b⟩, some ⟨false, .int c⟩, none] fun fl ρ2 => match fl with
                | .nx => ∃ m, m < (a :: ps).length + (b :: ts).length ∧ ∃ (L : Int → Int) (ps ts : List Int) (pays : List Pay) (b3 b4 : Bool) (o6 o7 o8 : Option Sl), ρ2 = [some ⟨false, sq t bs⟩, some ⟨false, tP g⟩, some ⟨true, dOf PyData.int (g.map fun p => (p, .int (L p)))⟩, some ⟨b3, .list (ps.map .int)⟩, some ⟨b4, .list (ts.map .int)⟩, some ⟨true, .list (pays.map payT)⟩, o6, o7, o8, none] ∧ PayI bs g L ps ts pays ∧ m = ps.length + ts.length
                | _ => False := by
              intro b3 ps' hps
              simp_arith [ixr (fun p => L p + (if a = p then c else 0) - if b = p then c else 0) b bg, List.map_cons, List.tail_cons]
              rw [eb]
              rw [← hps] at I2
              have hpl' : ps'.length ≤ (a :: ps).length ∧ (L a + c = 0 → ps'.length < (a :: ps).length) := by
                rw [hps]; split
                · simp
                · rename_i hz; simp [hz]
              refine ⟨fun hz => ?_, fun hz => ?_⟩
              · rw [if_pos hz] at I2
                exact ⟨_, by simp only [List.length_cons] at hpl' ⊢; omega, _, ps', ts, _, b3, true, _, _, _, rfl, I2, rfl⟩
              · rw [if_neg hz] at I2
                have := hpl'.2 (cz.resolve_right hz)
                exact ⟨_, by simp only [List.length_cons] at this ⊢; omega, _, ps', b :: ts, _, b3, false, _, _, _, rfl, I2, rfl⟩
            refine ⟨fun hz => hK _ ?_, fun hz => hK _ ?_⟩
            · have := last true ps (by rw [if_pos hz])
              rw [List.map_append] at this
              exact this
            · have := last false (a :: ps) (by rw [if_neg hz])
              rw [List.map_append] at this
              exact this
          refine ⟨fun z => by simp at z, fun _ => (fin _ rfl).mono fun fl ρ2 h2 => ?_⟩
          cases fl with
          | nx => exact h2
          | _ => exact h2.elim
    · have h1 := List.length_filter_le (fun p => decide (bal bs p < 0)) g
      have h2 := List.length_filter_le (fun p => decide (0 < bal bs p)) g
      omega
  · rintro ρ ⟨pays, o2, o3, o4, o6, o7, o8, rfl, R⟩
    simp_arith []
    exact h pays R
/-- the payments of all groups -/
structure AllR (bs : List Int) (gs : List (List Int)) (pays : List Pay) : Prop where
  each : ∀ x ∈ pays, ∃ g ∈ gs, x.1 ∈ g ∧ x.2.1 ∈ g ∧ bal bs x.1 < 0 ∧ 0 < bal bs x.2.1 ∧ 0 < x.2.2
  once : pays.Pairwise fun x y => ¬ (x.1 = y.1 ∧ x.2.1 = y.2.1)
  done : ∀ p, (∃ g ∈ gs, p ∈ g) → bal bs p + eff pays p = 0
  most : pays.length ≤ gs.flatten.length
  cnt : (∀ g ∈ gs, Irr bs g ∧ g ≠ []) → (pays.length : Int) = few gs
  cap : ∀ x ∈ pays, x.2.2 ≤ 0 - bal bs x.1
theorem eff_out {pays : List Pay} {p : Int} (h : ∀ x ∈ pays, x.1 ≠ p ∧ x.2.1 ≠ p) : eff pays p = 0 := by
  induction pays with
  | nil => rfl
  | cons x r ih =>
    have h1 := h x (by simp)
    have h2 := ih fun y hy => h y (by simp [hy])
    unfold eff at h2 ⊢
    simp only [List.map_cons, List.sum_cons, h2, h1.1, h1.2, if_false]
    rfl
theorem payments_ok {E : Ex → Prop} {t : Bool} {bs : List Int} {q : D → List D → Prop} (hb : isBal (sq t bs) = true) (h : ∀ gs pays, Bst bs (nz bs) gs → AllR bs gs pays → q (.list (pays.map payT)) []) : Fw E m_payments [sq t bs] q := by
  have big := sizeLine_eq
  obtain ⟨l1, l2, l3⟩ := isBal_len hb
  have hnl := nz_length bs
  unfold m_payments b_payments
  simp_arith []
  refine wp_seqL (fun ρ => ∃ (gs : List (List Int)) (pays : List Pay) (o2 : Option Sl), ρ = [some ⟨false, sq t bs⟩, some ⟨true, .list (pays.map payT)⟩, o2] ∧ Bst bs (nz bs) gs ∧ AllR bs gs pays) ?_ ?_
  · simp_arith []
    refine groups_ok hb fun gs hgs hsub hris => ?_
    simp_arith []
    have hfl := hgs.1.perm.length_eq
    have hnd : gs.flatten.Nodup := hgs.1.perm.nodup_iff.2 (up.nodup (nz_up bs))
    refine wp_for (fun xs ρ => ∃ (us vs : List (List Int)) (pays : List Pay) (o2 : Option Sl), ρ = [some ⟨false, sq t bs⟩, some ⟨true, .list (pays.map payT)⟩, o2] ∧ xs = vs.map tP ∧ gs = us ++ vs ∧ AllR bs us pays) ?_ ?_ _ _ ⟨[], gs, [], none, rfl, rfl, rfl, ⟨(fun x hx => nomatch hx), .nil, (fun p hp => by obtain ⟨g, hg, _⟩ := hp; cases hg), by simp, fun _ => rfl, (fun x hx => nomatch hx)⟩⟩
    · rintro x r ρ ⟨us, vs, pays, o2, rfl, hx, hu, R⟩
      obtain ⟨g, vs', rfl, rfl, rfl⟩ := cons_map hx
      have hgm : g ∈ gs := by rw [hu]; simp
      have hgs' := hsub g hgm
      have hgl := hgs'.length_le
      simp_arith []
      refine payments_in_ok ((up.nodup (nz_up bs)).sublist hgs') (fun p hp => nz_in (hgs'.subset hp)) (by omega) (hgs.1.zero g hgm).2 fun ps P => ?_
      have hm := R.most
      have hum : us.flatten.length ≤ 8 := by
        have : us.flatten.length ≤ gs.flatten.length := by rw [hu]; simp
        omega
      have hpm := P.most
      simp_arith [List.length_map]
      refine ⟨by omega, us ++ [g], vs', pays ++ ps, some ⟨false, tP g⟩, by rw [List.map_append], rfl, by simp [hu], ?_⟩
      have hdis : ∀ p, (∃ u ∈ us, p ∈ u) → p ∉ g := by
        rintro p ⟨u, hu1, hu2⟩ hp
        rw [hu, List.flatten_append, List.flatten_cons, List.nodup_append] at hnd
        exact hnd.2.2 p (List.mem_flatten.2 ⟨u, hu1, hu2⟩) p (by simp [hp]) rfl
      refine ⟨fun x hx => ?_, ?_, fun p hp => ?_, ?_, fun hall => ?_, fun x hx => (List.mem_append.1 hx).elim (R.cap x) (P.cap x)⟩
      · rcases List.mem_append.1 hx with h | h
        · obtain ⟨u, hu1, h⟩ := R.each x h
          exact ⟨u, by simp [hu1], h⟩
        · exact ⟨g, by simp, P.each x h⟩
      · refine List.pairwise_append.2 ⟨R.once, P.once, fun x hx y hy z => ?_⟩
        obtain ⟨u, hu1, hu2, _⟩ := R.each x hx
        exact hdis x.1 ⟨u, hu1, hu2⟩ (by rw [z.1]; exact (P.each y hy).1)
      · rw [eff_append]
        obtain ⟨u, hu1, hu2⟩ := hp
        rcases List.mem_append.1 hu1 with hu1 | hu1
        · have h1 := R.done p ⟨u, hu1, hu2⟩
          have h2 : eff ps p = 0 := eff_out fun x hx => ⟨fun z => hdis p ⟨u, hu1, hu2⟩ (z ▸ (P.each x hx).1), fun z => hdis p ⟨u, hu1, hu2⟩ (z ▸ (P.each x hx).2.1)⟩
          omega
        · obtain rfl := List.mem_singleton.1 hu1
          have h1 := P.done p hu2
          have h2 : eff pays p = 0 := eff_out fun x hx => by
            obtain ⟨v, hv, h3, h4, _⟩ := R.each x hx
            exact ⟨fun z => hdis x.1 ⟨v, hv, h3⟩ (z ▸ hu2), fun z => hdis x.2.1 ⟨v, hv, h4⟩ (z ▸ hu2)⟩
          omega
      · rw [List.length_append, List.flatten_append, List.length_append, List.flatten_cons, List.flatten_nil, List.append_nil]; omega
      · have h1 := R.cnt fun u hu => hall u (by simp [hu])
        have h2 := P.cnt (hall g (by simp)).1 (hall g (by simp)).2
        simp only [few, List.map_append, List.sum_append, List.map_cons, List.map_nil, List.sum_cons, List.sum_nil, List.length_append] at h1 ⊢
        omega
    · rintro ρ ⟨us, vs, pays, o2, rfl, hx, hu, R⟩
      obtain rfl := nil_map hx
      rw [List.append_nil] at hu
      subst hu
      exact ⟨gs, pays, o2, rfl, hgs, R⟩
  · rintro ρ ⟨gs, pays, o2, rfl, hgs, R⟩
    simp_arith []
    exact h gs pays hgs R

end Cv
end
section
namespace Cv
open PySem L2
local macro_rules
  | `(tactic| simp_arith) => `(tactic| try simp only [fw_run, wp_ret, wp_bnd, wp_no, wp_lft, wl_some, wl_none, wl_if, wo_some, wp_var, wp_get, wp_getO, wp_putO, wp_setSh, wp_setOw, wp_op, wp_opN, wp_T, wp_chain, wp_and, wp_or, wp_not, wp_notT, wp_andT, wp_orT, wp_if, wp_nil, wp_cons, wp_tup, wp_lst, wp_c1, wp_cN, wp_seq, wp_drop, wp_rt, wp_rtN, wp_set, wp_setO, wp_asg, wp_gtup, wp_gcons, wp_gnil, wp_par, wp_par3, wp_par3M, wp_par3E, wp_parG, wp_parF, wp_parE, wp_put, wp_for0, wp_itL, wp_itT, wp_itK, wp_callL, wp_mN, wp_m, wp_itA, wit_list, wit_tup, wit_dict, wp_listRg, wp_rng1, wp_rng2, wp_enum, wp_zip, wp_zipT, wp_call, wp_callF, wp_kind, hid_nil, hid_cons, hidO_sh, hidO_ow, hidO_none, wp_here, wp_callQ, wp_raise, wp_lc0, vRetNone, vYes, vDict0, wl_add, wl_addT, wl_addL, wl_sub, wl_mul, wl_mulL, wl_mod, wl_fdiv, wl_divmod, wl_lt, wl_gt, wl_le, wl_ge, wl_eq, wl_ne, wl_lenL, wl_lenT, wl_lenD, wl_ixL, wl_ixT, wl_setL, wl_abs, wl_max2, wl_min2, wl_intB, wl_tupL, wl_tupT, wl_listL, wl_listT, wl_sumL, wl_sumT, wl_eqL, wl_neL, wl_eqL0, wl_neL0, wl_pow18, wl_pow19, wl_pow21, ent, entL, outsOf, noOwn, wipeE, backE, isC_list, isC_dict, isC_tup, isC_int, isC_bool, isC_str, isC_none, isC_tI, isC_dOf, wl_setI, wl_ixI, wl_inI, wl_niI, wp_is, wp_mw, wp_neg, wp_sl, wp_slN, wl_slLtN, wl_slLdN, wl_slLdN1, wl_slTtN, wl_slTdN, wl_slTdN1, wl_rev, wp_part, wp_noPart, wr_append, wr_extend, ty_list, wl_neg, wl_sl1T, wl_slT1, wl_slL1, wl_eqT0, wl_sl1L, wl_all, wl_any, isInt_int, isBool_int, isTuple_tup, isTuple_tI, wl_lenI, wl_ixtI, wl_inL, wl_niL, wl_inT, wl_inT2, wl_ltT, wl_lt2, Option.map_some, Bool.not_not, wl_set4, wl_set2, wl_set3, wl_ixt, wl_ix2, wl_ni2, List.all_cons, List.all_nil, List.length_cons, List.length_nil, Nat.reduceAdd, Nat.reduceSub, Nat.reduceLeDiff, List.contains_cons, List.contains_nil, List.replicate, List.cons_append, List.nil_append, List.append_nil, if_true, if_false, ↓reduceIte, true_and, and_true, true_implies, false_implies, implies_true, reduceCtorEq, List.getElem?_cons_zero, List.getElem?_cons_succ, List.getElem?_nil, List.set_cons_zero, List.set_cons_succ, Option.join_some, Option.join_none, Option.isSome_some, atI_0, atI_1, atI_2, atI_3, atI_4, ixN_0, ixN_1, List.take_zero, List.drop_zero, List.take_succ_cons, List.drop_succ_cons, Bool.or_false, Bool.or_true, Bool.true_or, Bool.false_or, Bool.and_true, Bool.and_false, Bool.true_and, Bool.false_and, Bool.not_true, Bool.not_false, Bool.false_eq_true, Bool.not_eq_true', Bool.not_eq_false', Bool.not_eq_eq_eq_not, decide_eq_true_eq, decide_eq_false_iff_not, decide_true, decide_false, Nat.reduceBEq, beq_self_eq_true, Int.reduceLT, Int.reduceLE, Int.reduceNeg, Int.reducePow, Int.reduceToNat, Int.not_lt])
local macro_rules
  | `(tactic| simp_arith [$xs,*] $[$l]?) => `(tactic| simp only [fw_run, wp_ret, wp_bnd, wp_no, wp_lft, wl_some, wl_none, wl_if, wo_some, wp_var, wp_get, wp_getO, wp_putO, wp_setSh, wp_setOw, wp_op, wp_opN, wp_T, wp_chain, wp_and, wp_or, wp_not, wp_notT, wp_andT, wp_orT, wp_if, wp_nil, wp_cons, wp_tup, wp_lst, wp_c1, wp_cN, wp_seq, wp_drop, wp_rt, wp_rtN, wp_set, wp_setO, wp_asg, wp_gtup, wp_gcons, wp_gnil, wp_par, wp_par3, wp_par3M, wp_par3E, wp_parG, wp_parF, wp_parE, wp_put, wp_for0, wp_itL, wp_itT, wp_itK, wp_callL, wp_mN, wp_m, wp_itA, wit_list, wit_tup, wit_dict, wp_listRg, wp_rng1, wp_rng2, wp_enum, wp_zip, wp_zipT, wp_call, wp_callF, wp_kind, hid_nil, hid_cons, hidO_sh, hidO_ow, hidO_none, wp_here, wp_callQ, wp_raise, wp_lc0, vRetNone, vYes, vDict0, wl_add, wl_addT, wl_addL, wl_sub, wl_mul, wl_mulL, wl_mod, wl_fdiv, wl_divmod, wl_lt, wl_gt, wl_le, wl_ge, wl_eq, wl_ne, wl_lenL, wl_lenT, wl_lenD, wl_ixL, wl_ixT, wl_setL, wl_abs, wl_max2, wl_min2, wl_intB, wl_tupL, wl_tupT, wl_listL, wl_listT, wl_sumL, wl_sumT, wl_eqL, wl_neL, wl_eqL0, wl_neL0, wl_pow18, wl_pow19, wl_pow21, ent, entL, outsOf, noOwn, wipeE, backE, isC_list, isC_dict, isC_tup, isC_int, isC_bool, isC_str, isC_none, isC_tI, isC_dOf, wl_setI, wl_ixI, wl_inI, wl_niI, wp_is, wp_mw, wp_neg, wp_sl, wp_slN, wl_slLtN, wl_slLdN, wl_slLdN1, wl_slTtN, wl_slTdN, wl_slTdN1, wl_rev, wp_part, wp_noPart, wr_append, wr_extend, ty_list, wl_neg, wl_sl1T, wl_slT1, wl_slL1, wl_eqT0, wl_sl1L, wl_all, wl_any, isInt_int, isBool_int, isTuple_tup, isTuple_tI, wl_lenI, wl_ixtI, wl_inL, wl_niL, wl_inT, wl_inT2, wl_ltT, wl_lt2, Option.map_some, Bool.not_not, wl_set4, wl_set2, wl_set3, wl_ixt, wl_ix2, wl_ni2, List.all_cons, List.all_nil, List.length_cons, List.length_nil, Nat.reduceAdd, Nat.reduceSub, Nat.reduceLeDiff, List.contains_cons, List.contains_nil, List.replicate, List.cons_append, List.nil_append, List.append_nil, if_true, if_false, ↓reduceIte, true_and, and_true, true_implies, false_implies, implies_true, reduceCtorEq, List.getElem?_cons_zero, List.getElem?_cons_succ, List.getElem?_nil, List.set_cons_zero, List.set_cons_succ, Option.join_some, Option.join_none, Option.isSome_some, atI_0, atI_1, atI_2, atI_3, atI_4, ixN_0, ixN_1, List.take_zero, List.drop_zero, List.take_succ_cons, List.drop_succ_cons, Bool.or_false, Bool.or_true, Bool.true_or, Bool.false_or, Bool.and_true, Bool.and_false, Bool.true_and, Bool.false_and, Bool.not_true, Bool.not_false, Bool.false_eq_true, Bool.not_eq_true', Bool.not_eq_false', Bool.not_eq_eq_eq_not, decide_eq_true_eq, decide_eq_false_iff_not, decide_true, decide_false, Nat.reduceBEq, beq_self_eq_true, Int.reduceLT, Int.reduceLE, Int.reduceNeg, Int.reducePow, Int.reduceToNat, Int.not_lt, $xs,*] $[$l]?)
/-! partings by values alone -/
structure VPart (vs : List Int) (ws : List (List Int)) : Prop where
  perm : ws.flatten.Perm vs
  zero : ∀ w ∈ ws, w ≠ [] ∧ w.sum = 0
def VBst (vs : List Int) (n : Nat) : Prop := (∃ ws, VPart vs ws ∧ ws.length = n) ∧ ∀ ws, VPart vs ws → ws.length ≤ n
theorem VBst.uniq {vs : List Int} {n m : Nat} (h1 : VBst vs n) (h2 : VBst vs m) : n = m := by
  obtain ⟨⟨a, ha, rfl⟩, hx⟩ := h1
  obtain ⟨⟨b, hb, rfl⟩, hy⟩ := h2
  have := hx b hb
  have := hy a ha
  omega
theorem perm_lift {α : Type} {f : α → Int} : ∀ {l : List Int} {P : List α}, l.Perm (P.map f) → ∃ P' : List α, P'.Perm P ∧ P'.map f = l := by
  intro l
  induction l with
  | nil => intro P h; have := h.length_eq; cases P with
    | nil => exact ⟨[], .refl _, rfl⟩
    | cons _ _ => simp at this
  | cons x r ih =>
    intro P h
    obtain ⟨p, hp, rfl⟩ := List.mem_map.1 (h.mem_iff.1 (List.mem_cons_self : x ∈ x :: r))
    obtain ⟨s, t, rfl⟩ := List.append_of_mem hp
    have h2 : (f p :: r).Perm (f p :: (s ++ t).map f) := by
      refine h.trans ?_
      rw [List.map_append, List.map_cons, List.map_append]
      exact List.perm_middle
    obtain ⟨P', h3, h4⟩ := ih (List.Perm.cons_inv h2)
    exact ⟨p :: P', (h3.cons p).trans List.perm_middle.symm, by simp [h4]⟩
theorem split_lift {f : Int → Int} : ∀ {ws : List (List Int)} {P : List Int}, P.map f = ws.flatten → ∃ gs : List (List Int), gs.flatten = P ∧ gs.map (·.map f) = ws
  | [], P, h => by
    have : P = [] := by simpa using h
    exact ⟨[], by simp [this], rfl⟩
  | w :: r, P, h => by
    rw [List.flatten_cons] at h
    obtain ⟨A, B, rfl, h1, h2⟩ := List.map_eq_append_iff.1 h
    obtain ⟨gs, h3, h4⟩ := split_lift h2
    exact ⟨A :: gs, by simp [h3], by simp [h1, h4]⟩
theorem part_values {bs P : List Int} {gs : List (List Int)} (h : Part bs P gs) : VPart (P.map (bal bs)) (gs.map (·.map (bal bs))) := by
  refine ⟨?_, fun w hw => ?_⟩
  · rw [← List.map_flatten]
    exact h.perm.map _
  · obtain ⟨g, hg, rfl⟩ := List.mem_map.1 hw
    obtain ⟨h1, h2⟩ := h.zero g hg
    exact ⟨by simpa using h1, h2⟩
theorem values_part {bs P : List Int} {ws : List (List Int)} (h : VPart (P.map (bal bs)) ws) : ∃ gs, Part bs P gs ∧ gs.length = ws.length := by
  obtain ⟨P', h1, h2⟩ := perm_lift h.perm
  obtain ⟨gs, h3, h4⟩ := split_lift h2
  refine ⟨gs, ⟨by rw [h3]; exact h1, fun g hg => ?_⟩, by rw [← h4]; simp⟩
  obtain ⟨h5, h6⟩ := h.zero (g.map (bal bs)) (by rw [← h4]; exact List.mem_map.2 ⟨g, hg, rfl⟩)
  exact ⟨fun z => h5 (by rw [z]; rfl), h6⟩
theorem bst_values {bs P : List Int} {gs : List (List Int)} (h : Bst bs P gs) : VBst (P.map (bal bs)) gs.length := by
  refine ⟨⟨_, part_values h.1, by simp⟩, fun ws hw => ?_⟩
  obtain ⟨gs', h1, h2⟩ := values_part hw
  have := h.2 gs' h1
  omega
theorem few_eq {bs P : List Int} {gs : List (List Int)} (h : Part bs P gs) : few gs = P.length - gs.length := by
  have h1 := h.perm.length_eq
  have h2 : ∀ gs : List (List Int), few gs = gs.flatten.length - gs.length := by
    intro gs
    induction gs with
    | nil => rfl
    | cons g r ih =>
      have : few (g :: r) = (g.length : Int) - 1 + few r := rfl
      rw [this, ih, List.flatten_cons, List.length_append, List.length_cons]
      omega
  rw [h2, h1]
def nvl (bs : List Int) : List Int := bs.filter fun x => !decide (x = 0)
theorem nz_nvl (bs : List Int) : (nz bs).map (bal bs) = nvl bs := by
  have h : ∀ xs : List Int, (xs.filter fun p => !decide (bal bs p = 0)).map (bal bs) = (xs.map (bal bs)).filter fun x => !decide (x = 0) := by
    intro xs
    induction xs with
    | nil => rfl
    | cons x r ih => by_cases hx : bal bs x = 0 <;> simp [hx, ih]
  have e : ((List.range bs.length).map fun k : Nat => (k : Int)).map (bal bs) = bs := by
    rw [List.map_map]
    apply List.ext_getElem
    · simp
    · intro i h1 h2
      simp [bal, List.getD_eq_getElem?_getD, List.getElem?_eq_getElem h2]
  unfold nz nvl
  rw [h, e]
/-- the fewest payments by the values -/
def IsFew (bs : List Int) (x : Int) : Prop := ∃ n : Nat, VBst (nvl bs) n ∧ x = (nvl bs).length - n
theorem VPart.trans_perm {vs vs' : List Int} {ws : List (List Int)} (h : VPart vs ws) (p : vs.Perm vs') : VPart vs' ws := ⟨h.perm.trans p, h.zero⟩
theorem VBst.trans_perm {vs vs' : List Int} {n : Nat} (h : VBst vs n) (p : vs.Perm vs') : VBst vs' n := by
  obtain ⟨⟨ws, h1, h2⟩, h3⟩ := h
  exact ⟨⟨ws, h1.trans_perm p, h2⟩, fun ws hw => h3 ws (hw.trans_perm p.symm)⟩
theorem sum_mul (k : Int) : ∀ w : List Int, (w.map fun x => k * x).sum = k * w.sum
  | [] => by simp
  | x :: r => by simp only [List.map_cons, List.sum_cons, sum_mul k r, Int.mul_add]
theorem VPart.mul {vs : List Int} {ws : List (List Int)} (k : Int) (h : VPart vs ws) : VPart (vs.map fun x => k * x) (ws.map (·.map fun x => k * x)) := by
  refine ⟨?_, fun w hw => ?_⟩
  · rw [← List.map_flatten]; exact h.perm.map _
  · obtain ⟨g, hg, rfl⟩ := List.mem_map.1 hw
    obtain ⟨h1, h2⟩ := h.zero g hg
    exact ⟨by simpa using h1, by rw [sum_mul, h2]; simp⟩
theorem VPart.div {vs : List Int} {ws : List (List Int)} {k : Int} (hk : k ≠ 0) (h : VPart (vs.map fun x => k * x) ws) : ∃ ws', VPart vs ws' ∧ ws'.length = ws.length := by
  obtain ⟨P', h1, h2⟩ := perm_lift h.perm
  obtain ⟨gs, h3, h4⟩ := split_lift h2
  refine ⟨gs, ⟨by rw [h3]; exact h1, fun g hg => ?_⟩, by rw [← h4]; simp⟩
  obtain ⟨h5, h6⟩ := h.zero (g.map fun x => k * x) (by rw [← h4]; exact List.mem_map.2 ⟨g, hg, rfl⟩)
  rw [sum_mul] at h6
  exact ⟨fun z => h5 (by rw [z]; rfl), (Int.mul_eq_zero.1 h6).resolve_left hk⟩
theorem VBst.mul {vs : List Int} {n : Nat} {k : Int} (hk : k ≠ 0) (h : VBst vs n) : VBst (vs.map fun x => k * x) n := by
  obtain ⟨⟨ws, h1, h2⟩, h3⟩ := h
  refine ⟨⟨_, h1.mul k, by simpa using h2⟩, fun ws hw => ?_⟩
  obtain ⟨ws', h4, h5⟩ := hw.div hk
  have := h3 ws' h4
  omega
theorem IsFew.perm {bs bs' : List Int} {x : Int} (h : IsFew bs x) (p : bs.Perm bs') : IsFew bs' x := by
  obtain ⟨n, h1, h2⟩ := h
  have := p.filter fun x => !decide (x = 0)
  exact ⟨n, h1.trans_perm this, by rw [h2, nvl, nvl, this.length_eq]⟩
theorem nvl_mul {k : Int} (hk : k ≠ 0) : ∀ bs : List Int, nvl (bs.map fun x => k * x) = (nvl bs).map fun x => k * x
  | [] => rfl
  | x :: r => by
    have := nvl_mul hk r
    unfold nvl at this ⊢
    by_cases hx : x = 0
    · simp [hx, this]
    · have : k * x ≠ 0 := Int.mul_ne_zero hk hx
      simp [hx, this, *]
theorem IsFew.mul {bs : List Int} {x k : Int} (hk : k ≠ 0) (h : IsFew bs x) : IsFew (bs.map fun x => k * x) x := by
  obtain ⟨n, h1, h2⟩ := h
  refine ⟨n, ?_, ?_⟩
  · rw [nvl_mul hk]; exact h1.mul hk
  · rw [nvl_mul hk, List.length_map]; exact h2
theorem IsFew.nought {bs : List Int} {x : Int} (h : IsFew bs x) : IsFew (0 :: bs) x := by
  have : nvl (0 :: bs) = nvl bs := by simp [nvl]
  obtain ⟨n, h1, h2⟩ := h
  exact ⟨n, by rw [this]; exact h1, by rw [this]; exact h2⟩
theorem IsFew.uniq {bs : List Int} {x y : Int} (h : IsFew bs x) (g : IsFew bs y) : x = y := by
  obtain ⟨n, h1, rfl⟩ := h
  obtain ⟨m, h2, rfl⟩ := g
  rw [h1.uniq h2]
theorem IsFew.append {as bs : List Int} {x y z : Int} (h : IsFew as x) (g : IsFew bs y) (f : IsFew (as ++ bs) z) : z ≤ x + y := by
  obtain ⟨n, ⟨⟨ws, h1, h2⟩, _⟩, rfl⟩ := h
  obtain ⟨m, ⟨⟨us, g1, g2⟩, _⟩, rfl⟩ := g
  obtain ⟨k, ⟨_, f1⟩, rfl⟩ := f
  have e : nvl (as ++ bs) = nvl as ++ nvl bs := by simp [nvl]
  have := f1 (ws ++ us) ⟨by rw [e, List.flatten_append]; exact h1.perm.append g1.perm, fun w hw => (List.mem_append.1 hw).elim (h1.zero w) (g1.zero w)⟩
  rw [List.length_append] at this
  rw [e, List.length_append]
  omega

end Cv
end
section
namespace Cv
open PySem L2
local macro_rules
  | `(tactic| simp_arith) => `(tactic| try simp only [fw_run, wp_ret, wp_bnd, wp_no, wp_lft, wl_some, wl_none, wl_if, wo_some, wp_var, wp_get, wp_getO, wp_putO, wp_setSh, wp_setOw, wp_op, wp_opN, wp_T, wp_chain, wp_and, wp_or, wp_not, wp_notT, wp_andT, wp_orT, wp_if, wp_nil, wp_cons, wp_tup, wp_lst, wp_c1, wp_cN, wp_seq, wp_drop, wp_rt, wp_rtN, wp_set, wp_setO, wp_asg, wp_gtup, wp_gcons, wp_gnil, wp_par, wp_par3, wp_par3M, wp_par3E, wp_parG, wp_parF, wp_parE, wp_put, wp_for0, wp_itL, wp_itT, wp_itK, wp_callL, wp_mN, wp_m, wp_itA, wit_list, wit_tup, wit_dict, wp_listRg, wp_rng1, wp_rng2, wp_enum, wp_zip, wp_zipT, wp_call, wp_callF, wp_kind, hid_nil, hid_cons, hidO_sh, hidO_ow, hidO_none, wp_here, wp_callQ, wp_raise, wp_lc0, vRetNone, vYes, vDict0, wl_add, wl_addT, wl_addL, wl_sub, wl_mul, wl_mulL, wl_mod, wl_fdiv, wl_divmod, wl_lt, wl_gt, wl_le, wl_ge, wl_eq, wl_ne, wl_lenL, wl_lenT, wl_lenD, wl_ixL, wl_ixT, wl_setL, wl_abs, wl_max2, wl_min2, wl_intB, wl_tupL, wl_tupT, wl_listL, wl_listT, wl_sumL, wl_sumT, wl_eqL, wl_neL, wl_eqL0, wl_neL0, wl_pow18, wl_pow19, wl_pow21, ent, entL, outsOf, noOwn, wipeE, backE, isC_list, isC_dict, isC_tup, isC_int, isC_bool, isC_str, isC_none, isC_tI, isC_dOf, wl_setI, wl_ixI, wl_inI, wl_niI, wp_is, wp_mw, wp_neg, wp_sl, wp_slN, wl_slLtN, wl_slLdN, wl_slLdN1, wl_slTtN, wl_slTdN, wl_slTdN1, wl_rev, wp_part, wp_noPart, wr_append, wr_extend, ty_list, wl_neg, wl_sl1T, wl_slT1, wl_slL1, wl_eqT0, wl_sl1L, wl_all, wl_any, isInt_int, isBool_int, isTuple_tup, isTuple_tI, wl_lenI, wl_ixtI, wl_inL, wl_niL, wl_inT, wl_inT2, wl_ltT, wl_lt2, Option.map_some, Bool.not_not, wl_set4, wl_set2, wl_set3, wl_ixt, wl_ix2, wl_ni2, List.all_cons, List.all_nil, List.length_cons, List.length_nil, Nat.reduceAdd, Nat.reduceSub, Nat.reduceLeDiff, List.contains_cons, List.contains_nil, List.replicate, List.cons_append, List.nil_append, List.append_nil, if_true, if_false, ↓reduceIte, true_and, and_true, true_implies, false_implies, implies_true, reduceCtorEq, List.getElem?_cons_zero, List.getElem?_cons_succ, List.getElem?_nil, List.set_cons_zero, List.set_cons_succ, Option.join_some, Option.join_none, Option.isSome_some, atI_0, atI_1, atI_2, atI_3, atI_4, ixN_0, ixN_1, List.take_zero, List.drop_zero, List.take_succ_cons, List.drop_succ_cons, Bool.or_false, Bool.or_true, Bool.true_or, Bool.false_or, Bool.and_true, Bool.and_false, Bool.true_and, Bool.false_and, Bool.not_true, Bool.not_false, Bool.false_eq_true, Bool.not_eq_true', Bool.not_eq_false', Bool.not_eq_eq_eq_not, decide_eq_true_eq, decide_eq_false_iff_not, decide_true, decide_false, Nat.reduceBEq, beq_self_eq_true, Int.reduceLT, Int.reduceLE, Int.reduceNeg, Int.reducePow, Int.reduceToNat, Int.not_lt])
local macro_rules
  | `(tactic| simp_arith [$xs,*] $[$l]?) => `(tactic| simp only [fw_run, wp_ret, wp_bnd, wp_no, wp_lft, wl_some, wl_none, wl_if, wo_some, wp_var, wp_get, wp_getO, wp_putO, wp_setSh, wp_setOw, wp_op, wp_opN, wp_T, wp_chain, wp_and, wp_or, wp_not, wp_notT, wp_andT, wp_orT, wp_if, wp_nil, wp_cons, wp_tup, wp_lst, wp_c1, wp_cN, wp_seq, wp_drop, wp_rt, wp_rtN, wp_set, wp_setO, wp_asg, wp_gtup, wp_gcons, wp_gnil, wp_par, wp_par3, wp_par3M, wp_par3E, wp_parG, wp_parF, wp_parE, wp_put, wp_for0, wp_itL, wp_itT, wp_itK, wp_callL, wp_mN, wp_m, wp_itA, wit_list, wit_tup, wit_dict, wp_listRg, wp_rng1, wp_rng2, wp_enum, wp_zip, wp_zipT, wp_call, wp_callF, wp_kind, hid_nil, hid_cons, hidO_sh, hidO_ow, hidO_none, wp_here, wp_callQ, wp_raise, wp_lc0, vRetNone, vYes, vDict0, wl_add, wl_addT, wl_addL, wl_sub, wl_mul, wl_mulL, wl_mod, wl_fdiv, wl_divmod, wl_lt, wl_gt, wl_le, wl_ge, wl_eq, wl_ne, wl_lenL, wl_lenT, wl_lenD, wl_ixL, wl_ixT, wl_setL, wl_abs, wl_max2, wl_min2, wl_intB, wl_tupL, wl_tupT, wl_listL, wl_listT, wl_sumL, wl_sumT, wl_eqL, wl_neL, wl_eqL0, wl_neL0, wl_pow18, wl_pow19, wl_pow21, ent, entL, outsOf, noOwn, wipeE, backE, isC_list, isC_dict, isC_tup, isC_int, isC_bool, isC_str, isC_none, isC_tI, isC_dOf, wl_setI, wl_ixI, wl_inI, wl_niI, wp_is, wp_mw, wp_neg, wp_sl, wp_slN, wl_slLtN, wl_slLdN, wl_slLdN1, wl_slTtN, wl_slTdN, wl_slTdN1, wl_rev, wp_part, wp_noPart, wr_append, wr_extend, ty_list, wl_neg, wl_sl1T, wl_slT1, wl_slL1, wl_eqT0, wl_sl1L, wl_all, wl_any, isInt_int, isBool_int, isTuple_tup, isTuple_tI, wl_lenI, wl_ixtI, wl_inL, wl_niL, wl_inT, wl_inT2, wl_ltT, wl_lt2, Option.map_some, Bool.not_not, wl_set4, wl_set2, wl_set3, wl_ixt, wl_ix2, wl_ni2, List.all_cons, List.all_nil, List.length_cons, List.length_nil, Nat.reduceAdd, Nat.reduceSub, Nat.reduceLeDiff, List.contains_cons, List.contains_nil, List.replicate, List.cons_append, List.nil_append, List.append_nil, if_true, if_false, ↓reduceIte, true_and, and_true, true_implies, false_implies, implies_true, reduceCtorEq, List.getElem?_cons_zero, List.getElem?_cons_succ, List.getElem?_nil, List.set_cons_zero, List.set_cons_succ, Option.join_some, Option.join_none, Option.isSome_some, atI_0, atI_1, atI_2, atI_3, atI_4, ixN_0, ixN_1, List.take_zero, List.drop_zero, List.take_succ_cons, List.drop_succ_cons, Bool.or_false, Bool.or_true, Bool.true_or, Bool.false_or, Bool.and_true, Bool.and_false, Bool.true_and, Bool.false_and, Bool.not_true, Bool.not_false, Bool.false_eq_true, Bool.not_eq_true', Bool.not_eq_false', Bool.not_eq_eq_eq_not, decide_eq_true_eq, decide_eq_false_iff_not, decide_true, decide_false, Nat.reduceBEq, beq_self_eq_true, Int.reduceLT, Int.reduceLE, Int.reduceNeg, Int.reducePow, Int.reduceToNat, Int.not_lt, $xs,*] $[$l]?)
/-! the fewest payments told -/
theorem fewest_ok {E : Ex → Prop} {t : Bool} {bs : List Int} {q : D → List D → Prop} (hb : isBal (sq t bs) = true) (h : ∀ gs, Bst bs (nz bs) gs → q (.int (few gs)) []) : Fw E m_fewest_payments [sq t bs] q := by
  unfold m_fewest_payments b_fewest_payments
  simp_arith []
  refine groups_ok hb fun gs hgs hsub _ => ?_
  simp_arith []
  have hl : gs.length ≤ 100000 := by
    have h1 := part_len hgs.1
    have h2 := nz_length bs
    have h3 := isBal_len hb
    omega
  refine lc_each (key := tP) (fun g => .int ((g.length : Int) - 1)) (fun ρ => ∃ o, ρ = [some ⟨false, sq t bs⟩, o]) gs hl ⟨_, rfl⟩ ?_ ?_
  · rintro g hg ρ ⟨o, rfl⟩
    simp_arith [List.length_map]
    exact ⟨_, rfl⟩
  · rintro ρ' ⟨o, rfl⟩
    have e : List.map (fun g : List Int => PyData.int ((g.length : Int) - 1)) gs = (gs.map fun g => (g.length : Int) - 1).map .int := by rw [List.map_map]; rfl
    rw [e, wl_sumL]
    exact h gs hgs
theorem fewV_ok {E : Ex → Prop} {t : Bool} {bs : List Int} {q : D → List D → Prop} (hb : isBal (sq t bs) = true) (h : ∀ x, IsFew bs x → q (.int x) []) : Fw E m_fewest_payments [sq t bs] q := by
  refine fewest_ok hb fun gs hgs => h _ ⟨gs.length, ?_, ?_⟩
  · rw [← nz_nvl]; exact bst_values hgs
  · rw [few_eq hgs.1, ← nz_nvl, List.length_map]

end Cv
end
section
namespace Cv
open PySem L2
local macro_rules
  | `(tactic| simp_arith) => `(tactic| try simp only [fw_run, wp_ret, wp_bnd, wp_no, wp_lft, wl_some, wl_none, wl_if, wo_some, wp_var, wp_get, wp_getO, wp_putO, wp_setSh, wp_setOw, wp_op, wp_opN, wp_T, wp_chain, wp_and, wp_or, wp_not, wp_notT, wp_andT, wp_orT, wp_if, wp_nil, wp_cons, wp_tup, wp_lst, wp_c1, wp_cN, wp_seq, wp_drop, wp_rt, wp_rtN, wp_set, wp_setO, wp_asg, wp_gtup, wp_gcons, wp_gnil, wp_par, wp_par3, wp_par3M, wp_par3E, wp_parG, wp_parF, wp_parE, wp_put, wp_for0, wp_itL, wp_itT, wp_itK, wp_callL, wp_mN, wp_m, wp_itA, wit_list, wit_tup, wit_dict, wp_listRg, wp_rng1, wp_rng2, wp_enum, wp_zip, wp_zipT, wp_call, wp_callF, wp_kind, hid_nil, hid_cons, hidO_sh, hidO_ow, hidO_none, wp_here, wp_callQ, wp_raise, wp_lc0, vRetNone, vYes, vDict0, wl_add, wl_addT, wl_addL, wl_sub, wl_mul, wl_mulL, wl_mod, wl_fdiv, wl_divmod, wl_lt, wl_gt, wl_le, wl_ge, wl_eq, wl_ne, wl_lenL, wl_lenT, wl_lenD, wl_ixL, wl_ixT, wl_setL, wl_abs, wl_max2, wl_min2, wl_intB, wl_tupL, wl_tupT, wl_listL, wl_listT, wl_sumL, wl_sumT, wl_eqL, wl_neL, wl_eqL0, wl_neL0, wl_pow18, wl_pow19, wl_pow21, ent, entL, outsOf, noOwn, wipeE, backE, isC_list, isC_dict, isC_tup, isC_int, isC_bool, isC_str, isC_none, isC_tI, isC_dOf, wl_setI, wl_ixI, wl_inI, wl_niI, wp_is, wp_mw, wp_neg, wp_sl, wp_slN, wl_slLtN, wl_slLdN, wl_slLdN1, wl_slTtN, wl_slTdN, wl_slTdN1, wl_rev, wp_part, wp_noPart, wr_append, wr_extend, ty_list, wl_neg, wl_sl1T, wl_slT1, wl_slL1, wl_eqT0, wl_sl1L, wl_all, wl_any, isInt_int, isBool_int, isTuple_tup, isTuple_tI, wl_lenI, wl_ixtI, wl_inL, wl_niL, wl_inT, wl_inT2, wl_ltT, wl_lt2, Option.map_some, Bool.not_not, wl_set4, wl_set2, wl_set3, wl_ixt, wl_ix2, wl_ni2, List.all_cons, List.all_nil, List.length_cons, List.length_nil, Nat.reduceAdd, Nat.reduceSub, Nat.reduceLeDiff, List.contains_cons, List.contains_nil, List.replicate, List.cons_append, List.nil_append, List.append_nil, if_true, if_false, ↓reduceIte, true_and, and_true, true_implies, false_implies, implies_true, reduceCtorEq, List.getElem?_cons_zero, List.getElem?_cons_succ, List.getElem?_nil, List.set_cons_zero, List.set_cons_succ, Option.join_some, Option.join_none, Option.isSome_some, atI_0, atI_1, atI_2, atI_3, atI_4, ixN_0, ixN_1, List.take_zero, List.drop_zero, List.take_succ_cons, List.drop_succ_cons, Bool.or_false, Bool.or_true, Bool.true_or, Bool.false_or, Bool.and_true, Bool.and_false, Bool.true_and, Bool.false_and, Bool.not_true, Bool.not_false, Bool.false_eq_true, Bool.not_eq_true', Bool.not_eq_false', Bool.not_eq_eq_eq_not, decide_eq_true_eq, decide_eq_false_iff_not, decide_true, decide_false, Nat.reduceBEq, beq_self_eq_true, Int.reduceLT, Int.reduceLE, Int.reduceNeg, Int.reducePow, Int.reduceToNat, Int.not_lt])
local macro_rules
  | `(tactic| simp_arith [$xs,*] $[$l]?) => `(tactic| simp only [fw_run, wp_ret, wp_bnd, wp_no, wp_lft, wl_some, wl_none, wl_if, wo_some, wp_var, wp_get, wp_getO, wp_putO, wp_setSh, wp_setOw, wp_op, wp_opN, wp_T, wp_chain, wp_and, wp_or, wp_not, wp_notT, wp_andT, wp_orT, wp_if, wp_nil, wp_cons, wp_tup, wp_lst, wp_c1, wp_cN, wp_seq, wp_drop, wp_rt, wp_rtN, wp_set, wp_setO, wp_asg, wp_gtup, wp_gcons, wp_gnil, wp_par, wp_par3, wp_par3M, wp_par3E, wp_parG, wp_parF, wp_parE, wp_put, wp_for0, wp_itL, wp_itT, wp_itK, wp_callL, wp_mN, wp_m, wp_itA, wit_list, wit_tup, wit_dict, wp_listRg, wp_rng1, wp_rng2, wp_enum, wp_zip, wp_zipT, wp_call, wp_callF, wp_kind, hid_nil, hid_cons, hidO_sh, hidO_ow, hidO_none, wp_here, wp_callQ, wp_raise, wp_lc0, vRetNone, vYes, vDict0, wl_add, wl_addT, wl_addL, wl_sub, wl_mul, wl_mulL, wl_mod, wl_fdiv, wl_divmod, wl_lt, wl_gt, wl_le, wl_ge, wl_eq, wl_ne, wl_lenL, wl_lenT, wl_lenD, wl_ixL, wl_ixT, wl_setL, wl_abs, wl_max2, wl_min2, wl_intB, wl_tupL, wl_tupT, wl_listL, wl_listT, wl_sumL, wl_sumT, wl_eqL, wl_neL, wl_eqL0, wl_neL0, wl_pow18, wl_pow19, wl_pow21, ent, entL, outsOf, noOwn, wipeE, backE, isC_list, isC_dict, isC_tup, isC_int, isC_bool, isC_str, isC_none, isC_tI, isC_dOf, wl_setI, wl_ixI, wl_inI, wl_niI, wp_is, wp_mw, wp_neg, wp_sl, wp_slN, wl_slLtN, wl_slLdN, wl_slLdN1, wl_slTtN, wl_slTdN, wl_slTdN1, wl_rev, wp_part, wp_noPart, wr_append, wr_extend, ty_list, wl_neg, wl_sl1T, wl_slT1, wl_slL1, wl_eqT0, wl_sl1L, wl_all, wl_any, isInt_int, isBool_int, isTuple_tup, isTuple_tI, wl_lenI, wl_ixtI, wl_inL, wl_niL, wl_inT, wl_inT2, wl_ltT, wl_lt2, Option.map_some, Bool.not_not, wl_set4, wl_set2, wl_set3, wl_ixt, wl_ix2, wl_ni2, List.all_cons, List.all_nil, List.length_cons, List.length_nil, Nat.reduceAdd, Nat.reduceSub, Nat.reduceLeDiff, List.contains_cons, List.contains_nil, List.replicate, List.cons_append, List.nil_append, List.append_nil, if_true, if_false, ↓reduceIte, true_and, and_true, true_implies, false_implies, implies_true, reduceCtorEq, List.getElem?_cons_zero, List.getElem?_cons_succ, List.getElem?_nil, List.set_cons_zero, List.set_cons_succ, Option.join_some, Option.join_none, Option.isSome_some, atI_0, atI_1, atI_2, atI_3, atI_4, ixN_0, ixN_1, List.take_zero, List.drop_zero, List.take_succ_cons, List.drop_succ_cons, Bool.or_false, Bool.or_true, Bool.true_or, Bool.false_or, Bool.and_true, Bool.and_false, Bool.true_and, Bool.false_and, Bool.not_true, Bool.not_false, Bool.false_eq_true, Bool.not_eq_true', Bool.not_eq_false', Bool.not_eq_eq_eq_not, decide_eq_true_eq, decide_eq_false_iff_not, decide_true, decide_false, Nat.reduceBEq, beq_self_eq_true, Int.reduceLT, Int.reduceLE, Int.reduceNeg, Int.reducePow, Int.reduceToNat, Int.not_lt, $xs,*] $[$l]?)
/-! odd things, bent things -/
theorem two_eq {a b : Nat} : (a : Int) = b ↔ a = b := by omega
def odds : List D := [.none, .bool true, .bool false, .int 0, .int 1, .int (-1), .int 7, .int 401, .int 10000000000000000000, .str "", .str "a", .str "out", .str "yard 0", .str "1", .tuple [], .list [], .dict [], .tuple [.int 0], .list [.int 0], .dict [(.int 0, .int 0)], .tuple [.int 0, .int 0], .tuple [.int 0, .int 0, .int 0], .tuple [.int 0, .int 0, .int 0, .int 0], .tuple [.tuple [], .tuple []], .list [.tuple []], .tuple [.tuple [.int 0], .tuple []], .tuple [.none, .none], .str "\n", .tuple [.bool true, .int 0, .int 0]]
theorem odds_ok : ∀ d ∈ odds, Okd 200 4 d := by
  have h : odds.all (fun d => lfOk d && decide (d.weight ≤ 200) && decide (d.depth ≤ 4)) = true := by decide +kernel
  intro d hd
  have := List.all_eq_true.1 h d hd
  simp only [Bool.and_eq_true, decide_eq_true_eq] at this
  exact ⟨this.1.1, this.1.2, this.2⟩
theorem odd_ok {E : Ex → Prop} {n : Int} {q : D → List D → Prop} (h : ∀ d ∈ odds, ∀ n', q d [b1 n']) : Fw E m__law_odd [b1 n] q := by
  have big := sizeLine_eq
  unfold m__law_odd b__law_odd
  refine fw_run.symm ▸ ⟨rfl, ?_⟩
  refine wp_step fun K hK _ => ?_
  simp_arith []
  have disp : ∀ (ρ : Ev) (q : D → Ev → Prop), Wp E (vDisp1 (ret (.int 0)) (ret (.int 0))) ρ q = q (.dict [(.int 0, .int 0)]) ρ := by
    intro ρ q
    with_unfolding_all rfl
  rw [disp]
  refine hK _ (wp_step fun K hK _ => ?_)
  simp_arith []
  refine ⟨by omega, hK _ ?_⟩
  simp_arith []
  refine take_ok (by decide) (by decide) fun x n1 hx => ?_
  simp_arith []
  have hx' : x < odds.length := by show x < 29; omega
  have e : L2.atI odds (x : Int) = some odds[x] := by rw [atI_n, List.getElem?_eq_getElem hx']
  exact wl_of e (h _ (List.getElem_mem hx') n1)
def Wb : Nat → Nat
  | 0 => 200
  | k + 1 => 25 * (Wb k + 1) + 1
def sqD (t : Bool) (xs : List D) : D := if t then .tuple xs else .list xs
/-- what may be bent: a number; a row of such -/
inductive Bt : Nat → D → Prop
  | none {k : Nat} : Bt k .none
  | int {k : Nat} {i : Int} : i.natAbs ≤ 10 ^ 20 → Bt k (.int i)
  | seq {k : Nat} {t : Bool} {xs : List D} : xs.length ≤ 20 → (∀ x ∈ xs, Bt k x) → Bt (k + 1) (sqD t xs)
theorem Wb_ge (k : Nat) : 200 ≤ Wb k := by
  induction k with
  | zero => exact Nat.le_refl _
  | succ k ih => simp only [Wb]; omega
theorem Okd.seq {w n : Nat} {t : Bool} {xs : List D} (L : Nat) (h : ∀ x ∈ xs, Okd w n x) (hl : xs.length ≤ L) : Okd (L * (w + 1) + 1) (n + 1) (sqD t xs) := by
  cases t
  · exact Okd.list L h hl
  · exact Okd.tup L h hl
theorem okd_none : Okd 80 1 .none := ⟨rfl, by simp [PyData.weight], by simp [PyData.depth]⟩
theorem Bt.ok : ∀ {k : Nat} {d : D}, Bt k d → Okd (Wb k) (k + 4) d := by
  intro k d h
  induction h with
  | none => exact okd_none.mono (Nat.le_trans (by decide) (Wb_ge _)) (by omega)
  | int h => exact (Okd.int (Nat.le_trans h (by decide))).mono (Nat.le_trans (by decide) (Wb_ge _)) (by omega)
  | seq hl h ih => exact (Okd.seq 20 ih hl).mono (by simp only [Wb]; omega) (by omega)
theorem bent_ok : ∀ (f k : Nat) (d : D), k < f → Bt k d → ∀ (E : Ex → Prop) (n : Int) (q : D → List D → Prop), (∀ d' n', Okd (Wb k) (k + 4) d' → q d' [b1 n']) → Fw E (mm__law_bent f) [b1 n, d, .int k] q := by
  intro f
  induction f with
  | zero => intro k d h; omega
  | succ f ih =>
    intro k d hk hB E n q h
    have big := sizeLine_eq
    have hW := Wb_ge k
    unfold mm__law_bent b__law_bent
    refine fw_run.symm ▸ ⟨rfl, ?_⟩
    cases hB with
    | none =>
      refine wp_step fun K hK hR => ?_
      simp_arith [PyData.isInt]
      refine hK _ (wp_step fun K hK hR => ?_)
      simp_arith [PyData.isTuple, PyData.isList]
      refine odd_ok fun d hd n' => ?_
      exact ⟨rfl, hR _ _ (h d n' ((odds_ok d hd).mono (by omega) (by omega)))⟩
    | @int _ i hi =>
      refine wp_step fun K hK hR => ?_
      simp_arith [PyData.isInt]
      refine take_ok (by decide) (by decide) fun x n1 hx => ?_
      simp_arith []
      refine ⟨fun _ => ?_, fun _ => hK _ ?_⟩
      · refine take_ok (by decide) (by decide) fun y n2 hy => ?_
        simp_arith []
        have fin : ∀ j : Int, j.natAbs ≤ 10 ^ 21 → K (.rt (.int j)) [some ⟨true, b1 n2⟩, some ⟨false, .int i⟩, some ⟨false, .int k⟩, none, none, none] := fun j hj => hR _ _ (h _ n2 ((Okd.int hj).mono (by omega) (by omega)))
        rw [atI_n]
        have : y = 0 ∨ y = 1 ∨ y = 2 ∨ y = 3 ∨ y = 4 ∨ y = 5 := by omega
        have p20 : (10 : Nat) ^ 20 = 100000000000000000000 := by decide
        have p21 : (10 : Nat) ^ 21 = 1000000000000000000000 := by decide
        rw [p20] at hi
        rw [p21] at fin
        rcases this with rfl | rfl | rfl | rfl | rfl | rfl
        all_goals exact fin _ (by omega)
      · refine wp_step fun K hK hR => ?_
        simp_arith [PyData.isTuple, PyData.isList]
        refine odd_ok fun d hd n' => ?_
        exact ⟨rfl, hR _ _ (h d n' ((odds_ok d hd).mono (by omega) (by omega)))⟩
    | @seq k t xs hl hxs =>
      have hok : ∀ x ∈ xs, Okd (Wb k) (k + 4) x := fun x hx => (hxs x hx).ok
      have i1 : PyData.isInt (sqD t xs) = false := by cases t <;> rfl
      have i2 : (PyData.isTuple (sqD t xs) || PyData.isList (sqD t xs)) = true := by cases t <;> rfl
      have i3 : PyData.isTuple (sqD t xs) = t := by cases t <;> rfl
      have ln : ∀ p : D → Prop, Wl (dLen (sqD t xs)) p = p (.int xs.length) := fun p => by cases t <;> exact propext Iff.rfl
      have ls : ∀ p : D → Prop, Wl (dList (sqD t xs)) p = p (.list xs) := fun p => by cases t <;> exact propext Iff.rfl
      have ld : ((k + 1 : Nat) : Int) ≠ 0 := by omega
      refine wp_step fun K hK hR => ?_
      simp_arith [i1]
      refine hK _ (wp_step fun K hK hR => ?_)
      simp_arith [i2, ln]
      refine ⟨fun hz => ?_, fun hz => ⟨fun z => absurd z ld, fun _ => hK _ (wp_step fun K hK hR => ?_)⟩⟩
      · refine odd_ok fun d hd n' => ⟨rfl, hR _ _ (h d n' ((odds_ok d hd).mono hW (by omega)))⟩
      have hpos : 0 < xs.length := by omega
      simp_arith [ln, ls]
      refine take_ok (by omega) (by omega) fun sp n1 hsp => ?_
      simp_arith []
      refine take_ok (by decide) (by decide) fun wy n2 hwy => ?_
      simp_arith [ls]
      have hsp' : sp < xs.length := by omega
      refine hK _ (wp_step fun K hK hR => ?_)
      have fin : ∀ (ys : List D) (n3 : Int), ys.length ≤ 21 → (∀ y ∈ ys, Okd (Wb k) (k + 4) y) → K .nx [some ⟨true, b1 n3⟩, some ⟨false, sqD t xs⟩, some ⟨false, .int ((k + 1 : Nat) : Int)⟩, some ⟨false, .int sp⟩, some ⟨false, .int wy⟩, some ⟨true, .list ys⟩] := by
        intro ys n3 hl2 hy
        have r1 : ∀ n' t', q (sqD t' ys) [b1 n'] := fun n' t' => h _ n' ((Okd.seq 21 hy hl2).mono (by simp only [Wb]; omega) (by omega))
        refine hK _ (wp_step fun K hK hR => ?_)
        simp_arith []
        refine take_ok (by decide) (by decide) fun z n4 hz => ?_
        simp_arith [i3]
        refine ⟨fun _ => ?_, fun _ => hK _ ?_⟩
        · cases t
          · exact hR _ _ (r1 n4 true)
          · exact hR _ _ (r1 n4 false)
        · simp_arith [i3]
          cases t
          · exact r1 n4 false
          · exact r1 n4 true
      have ht : ∀ i, ∀ x ∈ xs.take i, Okd (Wb k) (k + 4) x := fun i x hx => hok x (List.mem_of_mem_take hx)
      have hd : ∀ i, ∀ x ∈ xs.drop i, Okd (Wb k) (k + 4) x := fun i x hx => hok x (List.mem_of_mem_drop hx)
      have hWk := Wb_ge k
      simp_arith [List.length_take, List.length_drop, List.length_append]
      refine ⟨fun _ => ⟨by omega, fin _ n2 (by simp; omega) ?_⟩, fun _ => ⟨fun _ => ?_, fun _ => ⟨fun _ => ?_, fun _ => ⟨fun _ => fin _ n2 (by simp; omega) ?_, fun _ => ?_⟩⟩⟩⟩
      · intro y hy
        rcases List.mem_append.1 hy with hy | hy
        · exact ht _ y hy
        · exact hd _ y hy
      · rw [wl_ixN hsp']
        try simp_arith [List.length_take, List.length_drop, List.length_append]
        refine ⟨by omega, by omega, fin _ n2 (by simp; omega) ?_⟩
        intro y hy
        simp only [List.mem_append, List.mem_singleton] at hy
        rcases hy with (hy | rfl) | hy
        · exact ht _ y hy
        · exact hok _ (List.getElem_mem hsp')
        · exact hd _ y hy
      · refine odd_ok fun d hdo n' => ⟨rfl, ?_⟩
        try simp_arith [List.length_take, List.length_drop, List.length_append]
        refine ⟨by omega, by omega, fin _ n' (by simp; omega) ?_⟩
        intro y hy
        simp only [List.mem_append, List.mem_singleton] at hy
        rcases hy with (hy | rfl) | hy
        · exact ht _ y hy
        · exact (odds_ok _ hdo).mono hWk (by omega)
        · exact hd _ y hy
      · intro y hy
        exact hok y (List.mem_reverse.1 hy)
      · rw [wl_ixN hsp']
        have ek : ((k + 1 : Nat) : Int) - 1 = (k : Int) := by omega
        simp_arith [ek]
        refine ih k xs[sp] (by omega) (hxs _ (List.getElem_mem hsp')) E n2 _ fun d' n' hd' => ?_
        have ix : ixN xs.length (sp : Int) = some sp := by unfold ixN; simp [hsp']
        simp_arith [ix]
        refine fin _ n' (by simp; omega) ?_
        intro y hy
        rcases List.mem_or_eq_of_mem_set hy with hy | rfl
        · exact hok y hy
        · exact hd'

end Cv
end
section
namespace Cv
open PySem L2
local macro_rules
  | `(tactic| simp_arith) => `(tactic| try simp only [fw_run, wp_ret, wp_bnd, wp_no, wp_lft, wl_some, wl_none, wl_if, wo_some, wp_var, wp_get, wp_getO, wp_putO, wp_setSh, wp_setOw, wp_op, wp_opN, wp_T, wp_chain, wp_and, wp_or, wp_not, wp_notT, wp_andT, wp_orT, wp_if, wp_nil, wp_cons, wp_tup, wp_lst, wp_c1, wp_cN, wp_seq, wp_drop, wp_rt, wp_rtN, wp_set, wp_setO, wp_asg, wp_gtup, wp_gcons, wp_gnil, wp_par, wp_par3, wp_par3M, wp_par3E, wp_parG, wp_parF, wp_parE, wp_put, wp_for0, wp_itL, wp_itT, wp_itK, wp_callL, wp_mN, wp_m, wp_itA, wit_list, wit_tup, wit_dict, wp_listRg, wp_rng1, wp_rng2, wp_enum, wp_zip, wp_zipT, wp_call, wp_callF, wp_kind, hid_nil, hid_cons, hidO_sh, hidO_ow, hidO_none, wp_here, wp_callQ, wp_raise, wp_lc0, vRetNone, vYes, vDict0, wl_add, wl_addT, wl_addL, wl_sub, wl_mul, wl_mulL, wl_mod, wl_fdiv, wl_divmod, wl_lt, wl_gt, wl_le, wl_ge, wl_eq, wl_ne, wl_lenL, wl_lenT, wl_lenD, wl_ixL, wl_ixT, wl_setL, wl_abs, wl_max2, wl_min2, wl_intB, wl_tupL, wl_tupT, wl_listL, wl_listT, wl_sumL, wl_sumT, wl_eqL, wl_neL, wl_eqL0, wl_neL0, wl_pow18, wl_pow19, wl_pow21, ent, entL, outsOf, noOwn, wipeE, backE, isC_list, isC_dict, isC_tup, isC_int, isC_bool, isC_str, isC_none, isC_tI, isC_dOf, wl_setI, wl_ixI, wl_inI, wl_niI, wp_is, wp_mw, wp_neg, wp_sl, wp_slN, wl_slLtN, wl_slLdN, wl_slLdN1, wl_slTtN, wl_slTdN, wl_slTdN1, wl_rev, wp_part, wp_noPart, wr_append, wr_extend, ty_list, wl_neg, wl_sl1T, wl_slT1, wl_slL1, wl_eqT0, wl_sl1L, wl_all, wl_any, isInt_int, isBool_int, isTuple_tup, isTuple_tI, wl_lenI, wl_ixtI, wl_inL, wl_niL, wl_inT, wl_inT2, wl_ltT, wl_lt2, Option.map_some, Bool.not_not, wl_set4, wl_set2, wl_set3, wl_ixt, wl_ix2, wl_ni2, List.all_cons, List.all_nil, List.length_cons, List.length_nil, Nat.reduceAdd, Nat.reduceSub, Nat.reduceLeDiff, List.contains_cons, List.contains_nil, List.replicate, List.cons_append, List.nil_append, List.append_nil, if_true, if_false, ↓reduceIte, true_and, and_true, true_implies, false_implies, implies_true, reduceCtorEq, List.getElem?_cons_zero, List.getElem?_cons_succ, List.getElem?_nil, List.set_cons_zero, List.set_cons_succ, Option.join_some, Option.join_none, Option.isSome_some, atI_0, atI_1, atI_2, atI_3, atI_4, ixN_0, ixN_1, List.take_zero, List.drop_zero, List.take_succ_cons, List.drop_succ_cons, Bool.or_false, Bool.or_true, Bool.true_or, Bool.false_or, Bool.and_true, Bool.and_false, Bool.true_and, Bool.false_and, Bool.not_true, Bool.not_false, Bool.false_eq_true, Bool.not_eq_true', Bool.not_eq_false', Bool.not_eq_eq_eq_not, decide_eq_true_eq, decide_eq_false_iff_not, decide_true, decide_false, Nat.reduceBEq, beq_self_eq_true, Int.reduceLT, Int.reduceLE, Int.reduceNeg, Int.reducePow, Int.reduceToNat, Int.not_lt])
local macro_rules
  | `(tactic| simp_arith [$xs,*] $[$l]?) => `(tactic| simp only [fw_run, wp_ret, wp_bnd, wp_no, wp_lft, wl_some, wl_none, wl_if, wo_some, wp_var, wp_get, wp_getO, wp_putO, wp_setSh, wp_setOw, wp_op, wp_opN, wp_T, wp_chain, wp_and, wp_or, wp_not, wp_notT, wp_andT, wp_orT, wp_if, wp_nil, wp_cons, wp_tup, wp_lst, wp_c1, wp_cN, wp_seq, wp_drop, wp_rt, wp_rtN, wp_set, wp_setO, wp_asg, wp_gtup, wp_gcons, wp_gnil, wp_par, wp_par3, wp_par3M, wp_par3E, wp_parG, wp_parF, wp_parE, wp_put, wp_for0, wp_itL, wp_itT, wp_itK, wp_callL, wp_mN, wp_m, wp_itA, wit_list, wit_tup, wit_dict, wp_listRg, wp_rng1, wp_rng2, wp_enum, wp_zip, wp_zipT, wp_call, wp_callF, wp_kind, hid_nil, hid_cons, hidO_sh, hidO_ow, hidO_none, wp_here, wp_callQ, wp_raise, wp_lc0, vRetNone, vYes, vDict0, wl_add, wl_addT, wl_addL, wl_sub, wl_mul, wl_mulL, wl_mod, wl_fdiv, wl_divmod, wl_lt, wl_gt, wl_le, wl_ge, wl_eq, wl_ne, wl_lenL, wl_lenT, wl_lenD, wl_ixL, wl_ixT, wl_setL, wl_abs, wl_max2, wl_min2, wl_intB, wl_tupL, wl_tupT, wl_listL, wl_listT, wl_sumL, wl_sumT, wl_eqL, wl_neL, wl_eqL0, wl_neL0, wl_pow18, wl_pow19, wl_pow21, ent, entL, outsOf, noOwn, wipeE, backE, isC_list, isC_dict, isC_tup, isC_int, isC_bool, isC_str, isC_none, isC_tI, isC_dOf, wl_setI, wl_ixI, wl_inI, wl_niI, wp_is, wp_mw, wp_neg, wp_sl, wp_slN, wl_slLtN, wl_slLdN, wl_slLdN1, wl_slTtN, wl_slTdN, wl_slTdN1, wl_rev, wp_part, wp_noPart, wr_append, wr_extend, ty_list, wl_neg, wl_sl1T, wl_slT1, wl_slL1, wl_eqT0, wl_sl1L, wl_all, wl_any, isInt_int, isBool_int, isTuple_tup, isTuple_tI, wl_lenI, wl_ixtI, wl_inL, wl_niL, wl_inT, wl_inT2, wl_ltT, wl_lt2, Option.map_some, Bool.not_not, wl_set4, wl_set2, wl_set3, wl_ixt, wl_ix2, wl_ni2, List.all_cons, List.all_nil, List.length_cons, List.length_nil, Nat.reduceAdd, Nat.reduceSub, Nat.reduceLeDiff, List.contains_cons, List.contains_nil, List.replicate, List.cons_append, List.nil_append, List.append_nil, if_true, if_false, ↓reduceIte, true_and, and_true, true_implies, false_implies, implies_true, reduceCtorEq, List.getElem?_cons_zero, List.getElem?_cons_succ, List.getElem?_nil, List.set_cons_zero, List.set_cons_succ, Option.join_some, Option.join_none, Option.isSome_some, atI_0, atI_1, atI_2, atI_3, atI_4, ixN_0, ixN_1, List.take_zero, List.drop_zero, List.take_succ_cons, List.drop_succ_cons, Bool.or_false, Bool.or_true, Bool.true_or, Bool.false_or, Bool.and_true, Bool.and_false, Bool.true_and, Bool.false_and, Bool.not_true, Bool.not_false, Bool.false_eq_true, Bool.not_eq_true', Bool.not_eq_false', Bool.not_eq_eq_eq_not, decide_eq_true_eq, decide_eq_false_iff_not, decide_true, decide_false, Nat.reduceBEq, beq_self_eq_true, Int.reduceLT, Int.reduceLE, Int.reduceNeg, Int.reducePow, Int.reduceToNat, Int.not_lt, $xs,*] $[$l]?)
/-! k44: NoBalance -/
def isIn (lo hi : Int) : D → Bool
  | .int i => decide (lo ≤ i) && decide (i ≤ hi)
  | _ => false
theorem is_ok {E : Ex → Prop} {d : D} {lo hi : Int} {q : D → List D → Prop} (h : q (.bool (isIn lo hi d)) []) : Fw E m__law_is [d, .int lo, .int hi] q := by
  unfold m__law_is b__law_is
  cases d with
  | int i =>
    simp_arith []
    simp only [isIn] at h
    refine ⟨fun h1 => ?_, fun h1 => ?_⟩
    · have e : (!decide (hi < i)) = decide (i ≤ hi) := by
        by_cases h2 : i ≤ hi
        · simp [h2, Int.not_lt.2 h2]
        · simp [h2, Int.not_le.1 h2]
      rw [e]
      simpa [h1] using h
    · simpa [Int.not_le.2 h1] using h
  | _ =>
    simp_arith [PyData.isInt, PyData.isBool]
    exact h
theorem p21 : (10 : Nat) ^ 21 = 1000000000000000000000 := by decide
theorem ks_bal : ks__law_said ⟨"NoBalance", []⟩ = some (.tuple [.str "balance"]) := by rfl
theorem isBal_is {d : D} (h : isBal d = true) : ∃ t bs, d = sq t bs := by
  unfold isBal at h
  cases hs : seqOf d with
  | none => rw [hs] at h; cases h
  | some ds =>
    rw [hs] at h
    simp only [Bool.and_eq_true] at h
    obtain ⟨ns, e⟩ := intsB_of ds h.1.2
    cases d with
    | list xs => cases hs; exact ⟨false, ns, by rw [e]; rfl⟩
    | tuple xs => cases hs; exact ⟨true, ns, by rw [e]; rfl⟩
    | _ => cases hs
theorem bad_groups {E : Ex → Prop} {d : D} {q : D → List D → Prop} (hb : isBal d = false) (hE : E ⟨"NoBalance", []⟩) : Fw E m_groups [d] q := by
  unfold m_groups b_groups
  simp_arith []
  exact need_balances_ok (fun z => by rw [hb] at z; cases z) (fun _ => hE)
theorem bad_fewest {E : Ex → Prop} {d : D} {q : D → List D → Prop} (hb : isBal d = false) (hE : E ⟨"NoBalance", []⟩) : Fw E m_fewest_payments [d] q := by
  unfold m_fewest_payments b_fewest_payments
  simp_arith []
  exact bad_groups hb hE
theorem bad_payments {E : Ex → Prop} {d : D} {q : D → List D → Prop} (hb : isBal d = false) (hE : E ⟨"NoBalance", []⟩) : Fw E m_payments [d] q := by
  unfold m_payments b_payments
  simp_arith []
  refine wp_seqL (fun _ => False) ?_ (fun _ z => z.elim)
  simp_arith []
  exact bad_groups hb hE
theorem bad_settles {E : Ex → Prop} {d e : D} {q : D → List D → Prop} (hb : isBal d = false) (hE : E ⟨"NoBalance", []⟩) : Fw E m_settles [d, e] q := by
  unfold m_settles b_settles
  simp_arith []
  exact need_balances_ok (fun z => by rw [hb] at z; cases z) (fun _ => hE)
theorem said_told {q : D → Prop} (x : D) (h : q (.list [x])) : Wl (kt__law_said x) q := h
theorem said_bad {q : D → Prop} (h : q (.tuple [.str "balance"])) : Wl (ks__law_said ⟨"NoBalance", []⟩) q := by rw [ks_bal]; exact h
/-- what is said where d is handed in -/
def Sd (d r : D) : Prop := if isBal d = true then ∃ y, r = .list [y] else r = .tuple [.str "balance"]
theorem Sd.one {d r : D} (hb : isBal d = true) (h : Sd d r) : ∃ y, r = .list [y] := by unfold Sd at h; rwa [if_pos hb] at h
theorem Sd.two {d r : D} (hb : isBal d = false) (h : Sd d r) : r = .tuple [.str "balance"] := by unfold Sd at h; rwa [if_neg (by rw [hb]; decide)] at h
section
variable {d : D} {q : D → Prop} (h : ∀ r, Sd d r → q r)
include h
theorem sd1 (hb : isBal d = true) (y : D) : q (.list [y]) := h _ (by unfold Sd; rw [if_pos hb]; exact ⟨y, rfl⟩)
theorem sd0 (hb : isBal d = false) : q (.tuple [.str "balance"]) := h _ (by unfold Sd; rw [if_neg (by rw [hb]; decide)])
theorem fewest_said : Fw (fun e => Wl (ks__law_said e) q) m_fewest_payments [d] fun x _ => Wl (kt__law_said x) q := by
  cases hb : isBal d with
  | false => exact bad_fewest hb (said_bad (sd0 h hb))
  | true =>
    obtain ⟨t, bs, rfl⟩ := isBal_is hb
    exact fewest_ok hb fun gs _ => said_told _ (sd1 h hb _)
theorem groups_said : Fw (fun e => Wl (ks__law_said e) q) m_groups [d] fun x _ => Wl (kt__law_said x) q := by
  cases hb : isBal d with
  | false => exact bad_groups hb (said_bad (sd0 h hb))
  | true =>
    obtain ⟨t, bs, rfl⟩ := isBal_is hb
    exact groups_ok hb fun gs _ _ _ => said_told _ (sd1 h hb _)
theorem payments_said : Fw (fun e => Wl (ks__law_said e) q) m_payments [d] fun x _ => Wl (kt__law_said x) q := by
  cases hb : isBal d with
  | false => exact bad_payments hb (said_bad (sd0 h hb))
  | true =>
    obtain ⟨t, bs, rfl⟩ := isBal_is hb
    exact payments_ok hb fun gs _ _ _ => said_told _ (sd1 h hb _)
theorem settles_said {e : D} : Fw (fun e => Wl (ks__law_said e) q) m_settles [d, e] fun x _ => Wl (kt__law_said x) q := by
  cases hb : isBal d with
  | false => exact bad_settles hb (said_bad (sd0 h hb))
  | true =>
    obtain ⟨t, bs, rfl⟩ := isBal_is hb
    exact settles_ok hb (said_told _ (sd1 h hb _))
end
theorem sumA_ints (ds : List D) (p : D → Prop) : Wl ((intsOf ds).map fun ns => PyData.int ns.sum) p = (∃ ns : List Int, ds = ns.map .int ∧ p (.int ns.sum)) := by
  cases hi : intsOf ds with
  | none =>
    refine propext ⟨fun z => z.elim, ?_⟩
    rintro ⟨ns, rfl, _⟩
    rw [intsOf_map] at hi
    cases hi
  | some ns =>
    have e : ds = ns.map .int := by
      have : ∀ (ds : List D) (ns : List Int), intsOf ds = some ns → ds = ns.map .int := by
        intro ds
        induction ds with
        | nil => intro ns h; cases h; rfl
        | cons d r ih =>
          intro ns h
          cases d with
          | int i =>
            obtain ⟨ms, h1, rfl⟩ := Option.map_eq_some_iff.1 h
            rw [ih ms h1]; rfl
          | _ => cases h
      exact this ds ns hi
    refine propext ⟨fun z => ⟨ns, e, z⟩, ?_⟩
    rintro ⟨ms, e2, hp⟩
    have : intsOf ds = some ms := by rw [e2, intsOf_map]
    rw [hi] at this
    cases this
    exact hp
theorem are_ok {E : Ex → Prop} {d : D} {q : D → List D → Prop} (hlf : lfOk d = true) (h : q (.bool (isBal d)) []) : Fw E m__law_are [d] q := by
  unfold m__law_are b__law_are
  have isn : ∀ x : D, lfOk x = true → isIn (-1000000000000000000000) 1000000000000000000000 x = isNum x := by
    intro x hx
    cases x with
    | int i =>
      simp only [lfOk, decide_eq_true_eq] at hx
      rw [p21] at hx
      simp only [isIn, isNum, Bool.and_eq_true, decide_eq_true_eq]
      omega
    | _ => rfl
  have go : ∀ (ds : List D) (q2 : D → Prop), seqOf d = some ds → (∀ x ∈ ds, lfOk x = true) → (∀ p : D → Prop, Wl (dSumA d) p = (∃ ns : List Int, ds = ns.map .int ∧ p (.int ns.sum))) → q2 (.bool (isBal d)) → (1 ≤ (ds.length : Int) → (8 < (ds.length : Int) → q2 (.bool false)) ∧ ((ds.length : Int) ≤ 8 → Wp (fun _ => False) (lcL [1] (vSetSh 1) (ret true)
              (vCall m__law_is
                (vCons (vVar 1)
                  (vCons (vOp dSub (ret (PyData.int 0)) (vOp dPow (ret (PyData.int 10)) (ret (PyData.int 21))))
                    (vCons (vOp dPow (ret (PyData.int 10)) (ret (PyData.int 21))) vNil)))) ds []) [some ⟨false, d⟩, none] fun acc ρ2 => Wl (dAll (.list acc)) fun x => match x with
      | .bool b => (b = true → Wo (List.set ρ2 1 none)[0]? fun s => Wl (dSumA s.d) fun x => Wl (dEq x (.int 0)) fun x => q2 x) ∧ (b = false → q2 (.bool false))
      | _ => False)) ∧ ((ds.length : Int) < 1 → q2 (.bool false)) := by
    intro ds q2 hs hl hsum hq
    have hb : isBal d = (decide (1 ≤ ds.length) && decide (ds.length ≤ 8) && intsB ds && decide (sumOf ds = 0)) := by simp [isBal, hs]
    refine ⟨fun h1 => ⟨fun h2 => ?_, fun h2 => ?_⟩, fun h1 => ?_⟩
    · have : ¬ ds.length ≤ 8 := by omega
      simpa [hb, this] using hq
    · refine lc_eachD (fun x => .bool (isNum x)) (fun ρ => ∃ o, ρ = [some ⟨false, d⟩, o]) ds (by omega) ⟨_, rfl⟩ ?_ ?_
      · rintro x hx ρ ⟨o, rfl⟩
        simp_arith []
        refine is_ok ?_
        rw [show (0 : Int) - 1000000000000000000000 = -1000000000000000000000 from rfl, isn x (hl x hx)]
        exact ⟨rfl, _, rfl⟩
      · rintro ρ' ⟨o, rfl⟩
        have e : List.map (fun x => PyData.bool (isNum x)) ds = (ds.map isNum).map .bool := by rw [List.map_map]; rfl
        rw [e, wl_all, ← intsB_all]
        have h1' : 1 ≤ ds.length := by omega
        have h2' : ds.length ≤ 8 := by omega
        refine ⟨fun hi => ?_, fun hi => ?_⟩
        · simp_arith [hsum]
          obtain ⟨ns, e⟩ := intsB_of ds hi
          refine ⟨ns, e, ?_⟩
          have : isBal d = decide (ns.sum = 0) := by rw [hb, hi, e, sumOf_map]; subst e; simp at h1' h2'; simp [h1', h2']
          rw [← this]; exact hq
        · have : isBal d = false := by rw [hb, hi]; simp
          rw [← this]; exact hq
    · have : ¬ 1 ≤ ds.length := by omega
      simpa [hb, this] using hq
  cases d with
  | list ds =>
    simp_arith [PyData.isTuple, PyData.isList]
    exact go ds (fun x => q x []) rfl ((lfOks_all ds).1 (by simpa only [lfOk] using hlf)) (fun p => sumA_ints ds p) h
  | tuple ds =>
    simp_arith [PyData.isTuple, PyData.isList]
    exact go ds (fun x => q x []) rfl ((lfOks_all ds).1 (by simpa only [lfOk] using hlf)) (fun p => sumA_ints ds p) h
  | _ =>
    simp_arith [PyData.isTuple, PyData.isList]
    exact h
/-- a thing that is asked for -/
def Thg (d : D) : Prop := Okd (Wb 1) 5 d
theorem right_ok {E : Ex → Prop} {n : Int} {q : D → List D → Prop} (h : ∀ n', q (.bool true) [b1 n']) : Fw E m__law_right [b1 n] q := by
  have big := sizeLine_eq
  unfold m__law_right b__law_right
  refine fw_run.symm ▸ ⟨rfl, ?_⟩
  refine wp_step fun K hK _ => ?_
  simp_arith []
  refine balances_ok (by decide) (by decide) fun t bs n1 b0 b8 bz bin => ?_
  simp_arith []
  have hb8 : bs.length ≤ 8 := by omega
  have hb1 : 1 ≤ bs.length := List.length_pos_iff.2 b0
  refine hK _ (wp_step fun K hK _ => ?_)
  simp_arith [list_sq, List.length_map]
  have hint : ∀ x ∈ bs.map PyData.int, Bt 0 x := by
    intro x hx
    obtain ⟨v, hv, rfl⟩ := List.mem_map.1 hx
    have := bin v hv
    have h18 : c18 = 1000000000000000000 := rfl
    rw [h18] at this
    refine .int ?_
    have p20 : (10 : Nat) ^ 20 = 100000000000000000000 := by decide
    rw [p20]; omega
  have hbt : Bt 1 (sq t bs) := by
    cases t
    · exact Bt.seq (t := false) (by rw [List.length_map]; omega) hint
    · exact Bt.seq (t := true) (by rw [List.length_map]; omega) hint
  have conc : ∀ d : D, (lfOk d && decide (d.weight ≤ Wb 1) && decide (d.depth ≤ 5)) = true → Thg d := by
    intro d hd
    simp only [Bool.and_eq_true, decide_eq_true_eq] at hd
    exact ⟨hd.1.1, hd.1.2, hd.2⟩
  obtain ⟨th, hth, htl, hok⟩ : ∃ th : List D, th = [sq t bs, PyData.list (List.map PyData.int bs ++ [PyData.int 1]),
                    PyData.list
                      [[PyData.int 0], [PyData.int 0], [PyData.int 0], [PyData.int 0], [PyData.int 0], [PyData.int 0],
                          [PyData.int 0], [PyData.int 0], [PyData.int 0]].flatten,
                    PyData.tuple [], PyData.list [], PyData.list [PyData.int 0, PyData.bool true, PyData.int (-1)],
                    PyData.list [PyData.int 1, PyData.int (-1), PyData.none],
                    PyData.list [PyData.int 10000000000000000000, PyData.int (0 - 10000000000000000000)]] ∧ th.length = 8 ∧ ∀ d ∈ th, Thg d := by
    refine ⟨_, rfl, rfl, fun d hd => ?_⟩
    simp only [List.mem_cons, List.not_mem_nil, or_false] at hd
    rcases hd with rfl | rfl | rfl | rfl | rfl | rfl | rfl | rfl
    · exact hbt.ok
    · refine (Bt.seq (k := 0) (t := false) (by simp; omega) fun x hx => ?_ : Bt 1 (.list (List.map PyData.int bs ++ [PyData.int 1]))).ok
      rcases List.mem_append.1 hx with hx | hx
      · exact hint x hx
      · rw [List.mem_singleton.1 hx]
        exact .int (by decide)
    all_goals exact conc _ (by decide +kernel)
  rw [← hth]
  refine ⟨by omega, by omega, hK _ ?_⟩
  refine wp_seqL (fun ρ => ∃ (n : Int) (th : List D) (o3 : Option Sl), ρ = [some ⟨true, b1 n⟩, some ⟨false, sq t bs⟩, some ⟨true, .list th⟩, o3, none, none, none, none] ∧ th.length ≤ 16 ∧ ∀ d ∈ th, Thg d) ?_ ?_
  · simp_arith []
    refine wp_for (fun xs ρ => ∃ (n : Int) (th : List D) (o3 : Option Sl), ρ = [some ⟨true, b1 n⟩, some ⟨false, sq t bs⟩, some ⟨true, .list th⟩, o3, none, none, none, none] ∧ xs.length + th.length ≤ 16 ∧ ∀ d ∈ th, Thg d) ?_ ?_ _ _ ⟨n1, th, none, rfl, by simp [rngD]; omega, hok⟩
    · rintro x r ρ ⟨n5, th, o3, rfl, hl, hok⟩
      simp_arith []
      refine bent_ok 6 1 _ (by decide) hbt E n5 _ fun d' n' hd' => ?_
      simp only [List.length_cons] at hl
      simp_arith []
      refine ⟨by omega, n', th ++ [d'], some ⟨false, x⟩, rfl, by simp; omega, fun d hd => ?_⟩
      rcases List.mem_append.1 hd with hd | hd
      · exact hok d hd
      · rw [List.mem_singleton.1 hd]; exact hd'
    · rintro ρ ⟨n5, th, o3, rfl, hl, hok⟩
      exact ⟨n5, th, o3, rfl, by simpa using hl, hok⟩
  rintro ρ ⟨n5, th, o3, rfl, hl, hok⟩
  refine wp_seqL (fun ρ => ∃ (n : Int) (o1 o2 o3 o4 o5 o6 : Option Sl), ρ = [some ⟨true, b1 n⟩, o1, o2, o3, o4, o5, o6, none]) ?_ ?_
  · simp_arith []
    refine odd_ok fun od hod n6 => ⟨rfl, ?_⟩
    have hall : ∀ d ∈ th ++ [od], Thg d := fun d hd => by
      rcases List.mem_append.1 hd with hd | hd
      · exact hok d hd
      · rw [List.mem_singleton.1 hd]; exact (odds_ok od hod).mono (Wb_ge 1) (by decide)
    simp_arith
    refine ⟨by omega, ?_⟩
    refine wp_for (fun xs ρ => (∀ d ∈ xs, Thg d) ∧ ∃ (o1 o2 o3 o4 o5 o6 : Option Sl), ρ = [some ⟨true, b1 n6⟩, o1, o2, o3, o4, o5, o6, none]) ?_ ?_ _ _ ⟨hall, _, _, _, _, _, _, rfl⟩
    · rintro x r ρ ⟨hx, o1, o2, o3, o4, o5, o6, rfl⟩
      have hd := hx x (by simp)
      obtain ⟨rx, hrx⟩ := repr_some hd (by decide) (by decide)
      have hx' : ∀ d ∈ r, Thg d := fun d hd => hx d (by simp [hd])
      rw [wp_setSh]
      refine wp_step fun K hK _ => ?_
      simp_arith [hrx]
      refine hK _ (wp_step fun K hK _ => ?_)
      simp_arith []
      refine fewest_said fun ra sa => hK _ (wp_step fun K hK _ => ?_)
      simp_arith []
      refine groups_said fun rb sb => ?_
      try simp_arith []
      refine ⟨by show (_ : Nat) < _; rw [big]; (try simp only [List.length_cons, List.length_nil]); omega, hK _ (wp_step fun K hK _ => ?_)⟩
      simp_arith []
      refine payments_said fun rc sc => ?_
      try simp_arith []
      refine ⟨by show (_ : Nat) < _; rw [big]; (try simp only [List.length_cons, List.length_nil]); omega, hK _ (wp_step fun K hK _ => ?_)⟩
      simp_arith []
      refine settles_said fun rd sd => ?_
      try simp_arith []
      refine ⟨by show (_ : Nat) < _; rw [big]; (try simp only [List.length_cons, List.length_nil]); omega, hK _ (wp_step fun K hK hR => ?_)⟩
      simp_arith []
      refine are_ok hd.lf ?_
      cases hb : isBal x with
      | true =>
        obtain ⟨ya, rfl⟩ := sa.one hb
        obtain ⟨yb, rfl⟩ := sb.one hb
        obtain ⟨yc, rfl⟩ := sc.one hb
        obtain ⟨yd, rfl⟩ := sd.one hb
        simp_arith []
        refine hK _ (wp_step fun K hK hR => ?_)
        simp_arith []
        refine are_ok hd.lf ?_
        simp_arith [hb]
        rw [wp_lcN rfl]
        simp_arith []
        refine lc_pickD (fun _ => false) id (fun ρ => ∃ o, ρ = [some ⟨true, b1 n6⟩, o1, o2, o3, some ⟨false, x⟩, some ⟨false, .str rx⟩, none, o]) _ ?_ ⟨_, rfl⟩ ?_ ?_
        · show (4 : Nat) ≤ 100000; omega
        · rintro y hy ρ ⟨o, rfl⟩
          simp only [List.mem_cons, List.not_mem_nil, or_false] at hy
          rcases hy with rfl | rfl | rfl | rfl
          all_goals
            simp_arith [PyData.isList]
            exact ⟨_, rfl⟩
        · rintro ρ' ⟨o, rfl⟩
          refine ⟨rfl, ?_⟩
          refine wl_of (d := .bool false) rfl ?_
          simp_arith []
          refine hK _ ?_
          simp_arith [hrx, wl_neSS]
          exact ⟨hx', _, _, _, _, _, _, rfl⟩
      | false =>
        obtain rfl := sa.two hb
        obtain rfl := sb.two hb
        obtain rfl := sc.two hb
        obtain rfl := sd.two hb
        simp_arith []
        refine ⟨by omega, wl_of (d := .bool false) (by rfl) ?_⟩
        simp_arith []
        refine hK _ (wp_step fun K hK hR => ?_)
        simp_arith []
        refine are_ok hd.lf ?_
        simp_arith [hb]
        refine hK _ ?_
        simp_arith [hrx, wl_neSS]
        exact ⟨hx', _, _, _, _, _, _, rfl⟩
    · rintro ρ ⟨_, o1, o2, o3, o4, o5, o6, rfl⟩
      exact ⟨n6, _, _, _, _, _, _, rfl⟩
  · rintro ρ ⟨n6, o1, o2, o3, o4, o5, o6, rfl⟩
    simp_arith []
    exact h n6
theorem law_told (ns : List Int) : m_law [.list (ns.map .int)] = some (.ret (.bool true) []) := by
  refine Fw.told ?_
  unfold m_law b_law
  simp_arith []
  refine wp_seqL (fun _ => True) ?_ fun ρ _ => by simp_arith []
  simp_arith []
  generalize hc : (if (if (4 : Int) < ((ns.map PyData.int).length : Int) then 4 else ((ns.map PyData.int).length : Int)) > 1 then if (4 : Int) < ((ns.map PyData.int).length : Int) then 4 else ((ns.map PyData.int).length : Int) else 1) = c
  have hc3 : 0 ≤ c ∧ c ≤ 4 := by
    rw [← hc]
    split
    · split <;> omega
    · omega
  refine ⟨by omega, ?_⟩
  refine wp_for (fun xs ρ => ∃ (o1 o2 : Option Sl), ρ = [some ⟨false, .list (ns.map .int)⟩, o1, o2] ∧ ∀ x ∈ xs, ∃ k : Nat, x = .int k) ?_ ?_ _ _ ⟨_, _, rfl, fun x hx => by obtain ⟨k, _, rfl⟩ := mem_rngD hx; exact ⟨k, by simp⟩⟩
  · rintro x r ρ ⟨o1, o2, rfl, hx⟩
    obtain ⟨k, rfl⟩ := hx x (by simp)
    simp_arith []
    refine wp_for (fun xs ρ => ∃ (o2 : Option Sl), ρ = [some ⟨false, .list (ns.map .int)⟩, some ⟨false, .int k⟩, o2] ∧ ∀ x ∈ xs, ∃ k : Nat, k < 2 ∧ x = .int k) ?_ ?_ _ _ ⟨_, rfl, fun x hx => by obtain ⟨k, h, rfl⟩ := mem_rngD hx; exact ⟨k, h, by simp⟩⟩
    · rintro x r2 ρ ⟨o2, rfl, hx2⟩
      obtain ⟨j, hj, rfl⟩ := hx2 x (by simp)
      simp_arith []
      refine box_ok hj fun n => ?_
      simp_arith []
      refine right_ok fun n' => ?_
      simp_arith []
      exact ⟨_, rfl, fun x hm => hx2 x (by simp [hm])⟩
    · rintro ρ ⟨o2, rfl, _⟩
      exact ⟨_, _, rfl, fun x hm => hx x (by simp [hm])⟩
  · rintro ρ _
    trivial

end Cv
end
section
namespace Cv
open PySem L2
variable {P : Program} {w : World} {K : PySem.W.Frag} {mg : Str → Option Value} {base : Heap} {A : Ad}
/-! ### what the top has left -/
theorem all_mk {h : Heap} {fa : Addr} {f_is_number : Addr} {od_is_number an_is_number : Option Addr} {sl_is_number : Array (Option Value)} {oc_is_number kV_is_number dc_is_number pm_is_number ct_is_number : Value} {cd_is_number : Value}
    {f_need_balances : Addr} {od_need_balances an_need_balances : Option Addr} {sl_need_balances : Array (Option Value)} {oc_need_balances kV_need_balances dc_need_balances pm_need_balances ct_need_balances : Value} {cd_need_balances : Value}
    {f_is_payment : Addr} {od_is_payment an_is_payment : Option Addr} {sl_is_payment : Array (Option Value)} {oc_is_payment kV_is_payment dc_is_payment pm_is_payment ct_is_payment : Value} {cd_is_payment : Value}
    {f_settles : Addr} {od_settles an_settles : Option Addr} {sl_settles : Array (Option Value)} {oc_settles kV_settles dc_settles pm_settles ct_settles : Value} {cd_settles : Value}
    {f_some_of : Addr} {od_some_of an_some_of : Option Addr} {sl_some_of : Array (Option Value)} {oc_some_of kV_some_of dc_some_of pm_some_of ct_some_of : Value} {cd_some_of : Value}
    {f_parted : Addr} {od_parted an_parted : Option Addr} {sl_parted : Array (Option Value)} {oc_parted kV_parted dc_parted pm_parted ct_parted : Value} {cd_parted : Value}
    {f_groups : Addr} {od_groups an_groups : Option Addr} {sl_groups : Array (Option Value)} {oc_groups kV_groups dc_groups pm_groups ct_groups : Value} {cd_groups : Value}
    {f_fewest_payments : Addr} {od_fewest_payments an_fewest_payments : Option Addr} {sl_fewest_payments : Array (Option Value)} {oc_fewest_payments kV_fewest_payments dc_fewest_payments pm_fewest_payments ct_fewest_payments : Value} {cd_fewest_payments : Value}
    {f_payments_in : Addr} {od_payments_in an_payments_in : Option Addr} {sl_payments_in : Array (Option Value)} {oc_payments_in kV_payments_in dc_payments_in pm_payments_in ct_payments_in : Value} {cd_payments_in : Value}
    {f_payments : Addr} {od_payments an_payments : Option Addr} {sl_payments : Array (Option Value)} {oc_payments kV_payments dc_payments pm_payments ct_payments : Value} {cd_payments : Value}
    {f__law_cell : Addr} {od__law_cell an__law_cell : Option Addr} {sl__law_cell : Array (Option Value)} {oc__law_cell kV__law_cell dc__law_cell pm__law_cell ct__law_cell : Value} {cd__law_cell : Value}
    {f__law_mix : Addr} {od__law_mix an__law_mix : Option Addr} {sl__law_mix : Array (Option Value)} {oc__law_mix kV__law_mix dc__law_mix pm__law_mix ct__law_mix : Value} {cd__law_mix : Value}
    {f__law_box : Addr} {od__law_box an__law_box : Option Addr} {sl__law_box : Array (Option Value)} {oc__law_box kV__law_box dc__law_box pm__law_box ct__law_box : Value} {cd__law_box : Value}
    {f__law_take : Addr} {od__law_take an__law_take : Option Addr} {sl__law_take : Array (Option Value)} {oc__law_take kV__law_take dc__law_take pm__law_take ct__law_take : Value} {cd__law_take : Value}
    {f__law_balances : Addr} {od__law_balances an__law_balances : Option Addr} {sl__law_balances : Array (Option Value)} {oc__law_balances kV__law_balances dc__law_balances pm__law_balances ct__law_balances : Value} {cd__law_balances : Value}
    {f__law_is : Addr} {od__law_is an__law_is : Option Addr} {sl__law_is : Array (Option Value)} {oc__law_is kV__law_is dc__law_is pm__law_is ct__law_is : Value} {cd__law_is : Value}
    {f__law_odd : Addr} {od__law_odd an__law_odd : Option Addr} {sl__law_odd : Array (Option Value)} {oc__law_odd kV__law_odd dc__law_odd pm__law_odd ct__law_odd : Value} {cd__law_odd : Value}
    {f__law_bent : Addr} {od__law_bent an__law_bent : Option Addr} {sl__law_bent : Array (Option Value)} {oc__law_bent kV__law_bent dc__law_bent pm__law_bent ct__law_bent : Value} {cd__law_bent : Value}
    {f__law_which : Addr} {od__law_which an__law_which : Option Addr} {sl__law_which : Array (Option Value)} {oc__law_which kV__law_which dc__law_which pm__law_which ct__law_which : Value} {cd__law_which : Value}
    {f__law_said : Addr} {od__law_said an__law_said : Option Addr} {sl__law_said : Array (Option Value)} {oc__law_said kV__law_said dc__law_said pm__law_said ct__law_said : Value} {cd__law_said : Value}
    {f__law_are : Addr} {od__law_are an__law_are : Option Addr} {sl__law_are : Array (Option Value)} {oc__law_are kV__law_are dc__law_are pm__law_are ct__law_are : Value} {cd__law_are : Value}
    {f__law_right : Addr} {od__law_right an__law_right : Option Addr} {sl__law_right : Array (Option Value)} {oc__law_right kV__law_right dc__law_right pm__law_right ct__law_right : Value} {cc__law_right : Addr}
    {f_law : Addr} {od_law an_law : Option Addr} {sl_law : Array (Option Value)} {oc_law kV_law dc_law pm_law ct_law : Value} {cd_law : Value}
    {t_MOST_BALANCES : Tok}
    {t_MOST_PAYMENTS : Tok}
    {f_CoverError : Addr}
    {f_NoNet : Addr}
    {f_NoYard : Addr}
    {f_NoMark : Addr}
    {f_NoPage : Addr}
    {f_NoCover : Addr}
    {f_NoDay : Addr}
    {f_NoTariff : Addr}
    {f_NoBalance : Addr}
    {f_NoStray : Addr}
    {f_NoTrip : Addr}
    {f_NoPrice : Addr}
    {f_NoLine : Addr}
    {f_Gone : Addr}
    {f_Nothing : Addr}
    {f_Clash : Addr}
    {f_NoText : Addr}
    {f_TooMany : Addr}
    (X : K.In h) (G : h.Ns mainGlobals mg) (hfa : mg "law" = some (.ref fa))
    (a_is_number : PySem.W.nsIn K mainGlobals "is_number" = some (some (.ref f_is_number)))
    (l_is_number : K.lookup f_is_number = some ⟨oc_is_number, od_is_number, .func (PySem.W.fnOf "is_number" "is_number" (defArgs s_is_number) (defBody s_is_number) (defScope s_is_number) .none kV_is_number dc_is_number pm_is_number an_is_number cd_is_number ct_is_number), sl_is_number⟩)
    (c_is_number : PySem.W.codeIn K cd_is_number "is_number" = true)
    (k_is_number : PySem.W.keepIn K (.ref f_is_number) = true)
    (a_need_balances : PySem.W.nsIn K mainGlobals "need_balances" = some (some (.ref f_need_balances)))
    (l_need_balances : K.lookup f_need_balances = some ⟨oc_need_balances, od_need_balances, .func (PySem.W.fnOf "need_balances" "need_balances" (defArgs s_need_balances) (defBody s_need_balances) (defScope s_need_balances) .none kV_need_balances dc_need_balances pm_need_balances an_need_balances cd_need_balances ct_need_balances), sl_need_balances⟩)
    (c_need_balances : PySem.W.codeIn K cd_need_balances "need_balances" = true)
    (k_need_balances : PySem.W.keepIn K (.ref f_need_balances) = true)
    (a_is_payment : PySem.W.nsIn K mainGlobals "is_payment" = some (some (.ref f_is_payment)))
    (l_is_payment : K.lookup f_is_payment = some ⟨oc_is_payment, od_is_payment, .func (PySem.W.fnOf "is_payment" "is_payment" (defArgs s_is_payment) (defBody s_is_payment) (defScope s_is_payment) .none kV_is_payment dc_is_payment pm_is_payment an_is_payment cd_is_payment ct_is_payment), sl_is_payment⟩)
    (c_is_payment : PySem.W.codeIn K cd_is_payment "is_payment" = true)
    (k_is_payment : PySem.W.keepIn K (.ref f_is_payment) = true)
    (a_settles : PySem.W.nsIn K mainGlobals "settles" = some (some (.ref f_settles)))
    (l_settles : K.lookup f_settles = some ⟨oc_settles, od_settles, .func (PySem.W.fnOf "settles" "settles" (defArgs s_settles) (defBody s_settles) (defScope s_settles) .none kV_settles dc_settles pm_settles an_settles cd_settles ct_settles), sl_settles⟩)
    (c_settles : PySem.W.codeIn K cd_settles "settles" = true)
    (k_settles : PySem.W.keepIn K (.ref f_settles) = true)
    (a_some_of : PySem.W.nsIn K mainGlobals "some_of" = some (some (.ref f_some_of)))
    (l_some_of : K.lookup f_some_of = some ⟨oc_some_of, od_some_of, .func (PySem.W.fnOf "some_of" "some_of" (defArgs s_some_of) (defBody s_some_of) (defScope s_some_of) .none kV_some_of dc_some_of pm_some_of an_some_of cd_some_of ct_some_of), sl_some_of⟩)
    (c_some_of : PySem.W.codeIn K cd_some_of "some_of" = true)
    (k_some_of : PySem.W.keepIn K (.ref f_some_of) = true)
    (a_parted : PySem.W.nsIn K mainGlobals "parted" = some (some (.ref f_parted)))
    (l_parted : K.lookup f_parted = some ⟨oc_parted, od_parted, .func (PySem.W.fnOf "parted" "parted" (defArgs s_parted) (defBody s_parted) (defScope s_parted) .none kV_parted dc_parted pm_parted an_parted cd_parted ct_parted), sl_parted⟩)
    (c_parted : PySem.W.codeIn K cd_parted "parted" = true)
    (k_parted : PySem.W.keepIn K (.ref f_parted) = true)
    (a_groups : PySem.W.nsIn K mainGlobals "groups" = some (some (.ref f_groups)))
    (l_groups : K.lookup f_groups = some ⟨oc_groups, od_groups, .func (PySem.W.fnOf "groups" "groups" (defArgs s_groups) (defBody s_groups) (defScope s_groups) .none kV_groups dc_groups pm_groups an_groups cd_groups ct_groups), sl_groups⟩)
    (c_groups : PySem.W.codeIn K cd_groups "groups" = true)
    (k_groups : PySem.W.keepIn K (.ref f_groups) = true)
    (a_fewest_payments : PySem.W.nsIn K mainGlobals "fewest_payments" = some (some (.ref f_fewest_payments)))
    (l_fewest_payments : K.lookup f_fewest_payments = some ⟨oc_fewest_payments, od_fewest_payments, .func (PySem.W.fnOf "fewest_payments" "fewest_payments" (defArgs s_fewest_payments) (defBody s_fewest_payments) (defScope s_fewest_payments) .none kV_fewest_payments dc_fewest_payments pm_fewest_payments an_fewest_payments cd_fewest_payments ct_fewest_payments), sl_fewest_payments⟩)
    (c_fewest_payments : PySem.W.codeIn K cd_fewest_payments "fewest_payments" = true)
    (k_fewest_payments : PySem.W.keepIn K (.ref f_fewest_payments) = true)
    (a_payments_in : PySem.W.nsIn K mainGlobals "payments_in" = some (some (.ref f_payments_in)))
    (l_payments_in : K.lookup f_payments_in = some ⟨oc_payments_in, od_payments_in, .func (PySem.W.fnOf "payments_in" "payments_in" (defArgs s_payments_in) (defBody s_payments_in) (defScope s_payments_in) .none kV_payments_in dc_payments_in pm_payments_in an_payments_in cd_payments_in ct_payments_in), sl_payments_in⟩)
    (c_payments_in : PySem.W.codeIn K cd_payments_in "payments_in" = true)
    (k_payments_in : PySem.W.keepIn K (.ref f_payments_in) = true)
    (a_payments : PySem.W.nsIn K mainGlobals "payments" = some (some (.ref f_payments)))
    (l_payments : K.lookup f_payments = some ⟨oc_payments, od_payments, .func (PySem.W.fnOf "payments" "payments" (defArgs s_payments) (defBody s_payments) (defScope s_payments) .none kV_payments dc_payments pm_payments an_payments cd_payments ct_payments), sl_payments⟩)
    (c_payments : PySem.W.codeIn K cd_payments "payments" = true)
    (k_payments : PySem.W.keepIn K (.ref f_payments) = true)
    (a__law_cell : PySem.W.nsIn K mainGlobals "_law_cell" = some (some (.ref f__law_cell)))
    (l__law_cell : K.lookup f__law_cell = some ⟨oc__law_cell, od__law_cell, .func (PySem.W.fnOf "_law_cell" "_law_cell" (defArgs s__law_cell) (defBody s__law_cell) (defScope s__law_cell) .none kV__law_cell dc__law_cell pm__law_cell an__law_cell cd__law_cell ct__law_cell), sl__law_cell⟩)
    (c__law_cell : PySem.W.codeIn K cd__law_cell "_law_cell" = true)
    (k__law_cell : PySem.W.keepIn K (.ref f__law_cell) = true)
    (a__law_mix : PySem.W.nsIn K mainGlobals "_law_mix" = some (some (.ref f__law_mix)))
    (l__law_mix : K.lookup f__law_mix = some ⟨oc__law_mix, od__law_mix, .func (PySem.W.fnOf "_law_mix" "_law_mix" (defArgs s__law_mix) (defBody s__law_mix) (defScope s__law_mix) .none kV__law_mix dc__law_mix pm__law_mix an__law_mix cd__law_mix ct__law_mix), sl__law_mix⟩)
    (c__law_mix : PySem.W.codeIn K cd__law_mix "_law_mix" = true)
    (k__law_mix : PySem.W.keepIn K (.ref f__law_mix) = true)
    (a__law_box : PySem.W.nsIn K mainGlobals "_law_box" = some (some (.ref f__law_box)))
    (l__law_box : K.lookup f__law_box = some ⟨oc__law_box, od__law_box, .func (PySem.W.fnOf "_law_box" "_law_box" (defArgs s__law_box) (defBody s__law_box) (defScope s__law_box) .none kV__law_box dc__law_box pm__law_box an__law_box cd__law_box ct__law_box), sl__law_box⟩)
    (c__law_box : PySem.W.codeIn K cd__law_box "_law_box" = true)
    (k__law_box : PySem.W.keepIn K (.ref f__law_box) = true)
    (a__law_take : PySem.W.nsIn K mainGlobals "_law_take" = some (some (.ref f__law_take)))
    (l__law_take : K.lookup f__law_take = some ⟨oc__law_take, od__law_take, .func (PySem.W.fnOf "_law_take" "_law_take" (defArgs s__law_take) (defBody s__law_take) (defScope s__law_take) .none kV__law_take dc__law_take pm__law_take an__law_take cd__law_take ct__law_take), sl__law_take⟩)
    (c__law_take : PySem.W.codeIn K cd__law_take "_law_take" = true)
    (k__law_take : PySem.W.keepIn K (.ref f__law_take) = true)
    (a__law_balances : PySem.W.nsIn K mainGlobals "_law_balances" = some (some (.ref f__law_balances)))
    (l__law_balances : K.lookup f__law_balances = some ⟨oc__law_balances, od__law_balances, .func (PySem.W.fnOf "_law_balances" "_law_balances" (defArgs s__law_balances) (defBody s__law_balances) (defScope s__law_balances) .none kV__law_balances dc__law_balances pm__law_balances an__law_balances cd__law_balances ct__law_balances), sl__law_balances⟩)
    (c__law_balances : PySem.W.codeIn K cd__law_balances "_law_balances" = true)
    (k__law_balances : PySem.W.keepIn K (.ref f__law_balances) = true)
    (a__law_is : PySem.W.nsIn K mainGlobals "_law_is" = some (some (.ref f__law_is)))
    (l__law_is : K.lookup f__law_is = some ⟨oc__law_is, od__law_is, .func (PySem.W.fnOf "_law_is" "_law_is" (defArgs s__law_is) (defBody s__law_is) (defScope s__law_is) .none kV__law_is dc__law_is pm__law_is an__law_is cd__law_is ct__law_is), sl__law_is⟩)
    (c__law_is : PySem.W.codeIn K cd__law_is "_law_is" = true)
    (k__law_is : PySem.W.keepIn K (.ref f__law_is) = true)
    (a__law_odd : PySem.W.nsIn K mainGlobals "_law_odd" = some (some (.ref f__law_odd)))
    (l__law_odd : K.lookup f__law_odd = some ⟨oc__law_odd, od__law_odd, .func (PySem.W.fnOf "_law_odd" "_law_odd" (defArgs s__law_odd) (defBody s__law_odd) (defScope s__law_odd) .none kV__law_odd dc__law_odd pm__law_odd an__law_odd cd__law_odd ct__law_odd), sl__law_odd⟩)
    (c__law_odd : PySem.W.codeIn K cd__law_odd "_law_odd" = true)
    (k__law_odd : PySem.W.keepIn K (.ref f__law_odd) = true)
    (a__law_bent : PySem.W.nsIn K mainGlobals "_law_bent" = some (some (.ref f__law_bent)))
    (l__law_bent : K.lookup f__law_bent = some ⟨oc__law_bent, od__law_bent, .func (PySem.W.fnOf "_law_bent" "_law_bent" (defArgs s__law_bent) (defBody s__law_bent) (defScope s__law_bent) .none kV__law_bent dc__law_bent pm__law_bent an__law_bent cd__law_bent ct__law_bent), sl__law_bent⟩)
    (c__law_bent : PySem.W.codeIn K cd__law_bent "_law_bent" = true)
    (k__law_bent : PySem.W.keepIn K (.ref f__law_bent) = true)
    (a__law_which : PySem.W.nsIn K mainGlobals "_law_which" = some (some (.ref f__law_which)))
    (l__law_which : K.lookup f__law_which = some ⟨oc__law_which, od__law_which, .func (PySem.W.fnOf "_law_which" "_law_which" (defArgs s__law_which) (defBody s__law_which) (defScope s__law_which) .none kV__law_which dc__law_which pm__law_which an__law_which cd__law_which ct__law_which), sl__law_which⟩)
    (c__law_which : PySem.W.codeIn K cd__law_which "_law_which" = true)
    (k__law_which : PySem.W.keepIn K (.ref f__law_which) = true)
    (a__law_said : PySem.W.nsIn K mainGlobals "_law_said" = some (some (.ref f__law_said)))
    (l__law_said : K.lookup f__law_said = some ⟨oc__law_said, od__law_said, .func (PySem.W.fnOf "_law_said" "_law_said" (defArgs s__law_said) (defBody s__law_said) (defScope s__law_said) .none kV__law_said dc__law_said pm__law_said an__law_said cd__law_said ct__law_said), sl__law_said⟩)
    (c__law_said : PySem.W.codeIn K cd__law_said "_law_said" = true)
    (k__law_said : PySem.W.keepIn K (.ref f__law_said) = true)
    (a__law_are : PySem.W.nsIn K mainGlobals "_law_are" = some (some (.ref f__law_are)))
    (l__law_are : K.lookup f__law_are = some ⟨oc__law_are, od__law_are, .func (PySem.W.fnOf "_law_are" "_law_are" (defArgs s__law_are) (defBody s__law_are) (defScope s__law_are) .none kV__law_are dc__law_are pm__law_are an__law_are cd__law_are ct__law_are), sl__law_are⟩)
    (c__law_are : PySem.W.codeIn K cd__law_are "_law_are" = true)
    (k__law_are : PySem.W.keepIn K (.ref f__law_are) = true)
    (a__law_right : PySem.W.nsIn K mainGlobals "_law_right" = some (some (.ref f__law_right)))
    (l__law_right : K.lookup f__law_right = some ⟨oc__law_right, od__law_right, .func (PySem.W.fnOf "_law_right" "_law_right" (defArgs s__law_right) (defBody s__law_right) (defScope s__law_right) .none kV__law_right dc__law_right pm__law_right an__law_right (.ref cc__law_right) ct__law_right), sl__law_right⟩)
    (c__law_right : PySem.W.codeIn K (.ref cc__law_right) "_law_right" = true)
    (k__law_right : PySem.W.keepIn K (.ref f__law_right) = true)
    (a_law : PySem.W.nsIn K mainGlobals "law" = some (some (.ref f_law)))
    (l_law : K.lookup f_law = some ⟨oc_law, od_law, .func (PySem.W.fnOf "law" "law" (defArgs s_law) (defBody s_law) (defScope s_law) .none kV_law dc_law pm_law an_law cd_law ct_law), sl_law⟩)
    (c_law : PySem.W.codeIn K cd_law "law" = true)
    (k_law : PySem.W.keepIn K (.ref f_law) = true)
    (z_ValueError : PySem.W.nsIn K mainGlobals "ValueError" = some none)
    (z_abs : PySem.W.nsIn K mainGlobals "abs" = some none)
    (z_all : PySem.W.nsIn K mainGlobals "all" = some none)
    (z_bool : PySem.W.nsIn K mainGlobals "bool" = some none)
    (z_dict : PySem.W.nsIn K mainGlobals "dict" = some none)
    (z_divmod : PySem.W.nsIn K mainGlobals "divmod" = some none)
    (z_int : PySem.W.nsIn K mainGlobals "int" = some none)
    (z_isinstance : PySem.W.nsIn K mainGlobals "isinstance" = some none)
    (z_len : PySem.W.nsIn K mainGlobals "len" = some none)
    (z_list : PySem.W.nsIn K mainGlobals "list" = some none)
    (z_max : PySem.W.nsIn K mainGlobals "max" = some none)
    (z_min : PySem.W.nsIn K mainGlobals "min" = some none)
    (z_range : PySem.W.nsIn K mainGlobals "range" = some none)
    (z_repr : PySem.W.nsIn K mainGlobals "repr" = some none)
    (z_sum : PySem.W.nsIn K mainGlobals "sum" = some none)
    (z_tuple : PySem.W.nsIn K mainGlobals "tuple" = some none)
    (n_MOST_BALANCES : PySem.W.nsIn K mainGlobals "MOST_BALANCES" = some (some (.int 8 t_MOST_BALANCES)))
    (n_MOST_PAYMENTS : PySem.W.nsIn K mainGlobals "MOST_PAYMENTS" = some (some (.int 16 t_MOST_PAYMENTS)))
    (a_CoverError : PySem.W.nsIn K mainGlobals "CoverError" = some (some (.ref f_CoverError)))
    (a_NoNet : PySem.W.nsIn K mainGlobals "NoNet" = some (some (.ref f_NoNet)))
    (a_NoYard : PySem.W.nsIn K mainGlobals "NoYard" = some (some (.ref f_NoYard)))
    (a_NoMark : PySem.W.nsIn K mainGlobals "NoMark" = some (some (.ref f_NoMark)))
    (a_NoPage : PySem.W.nsIn K mainGlobals "NoPage" = some (some (.ref f_NoPage)))
    (a_NoCover : PySem.W.nsIn K mainGlobals "NoCover" = some (some (.ref f_NoCover)))
    (a_NoDay : PySem.W.nsIn K mainGlobals "NoDay" = some (some (.ref f_NoDay)))
    (a_NoTariff : PySem.W.nsIn K mainGlobals "NoTariff" = some (some (.ref f_NoTariff)))
    (a_NoBalance : PySem.W.nsIn K mainGlobals "NoBalance" = some (some (.ref f_NoBalance)))
    (a_NoStray : PySem.W.nsIn K mainGlobals "NoStray" = some (some (.ref f_NoStray)))
    (a_NoTrip : PySem.W.nsIn K mainGlobals "NoTrip" = some (some (.ref f_NoTrip)))
    (a_NoPrice : PySem.W.nsIn K mainGlobals "NoPrice" = some (some (.ref f_NoPrice)))
    (a_NoLine : PySem.W.nsIn K mainGlobals "NoLine" = some (some (.ref f_NoLine)))
    (a_Gone : PySem.W.nsIn K mainGlobals "Gone" = some (some (.ref f_Gone)))
    (a_Nothing : PySem.W.nsIn K mainGlobals "Nothing" = some (some (.ref f_Nothing)))
    (a_Clash : PySem.W.nsIn K mainGlobals "Clash" = some (some (.ref f_Clash)))
    (a_NoText : PySem.W.nsIn K mainGlobals "NoText" = some (some (.ref f_NoText)))
    (a_TooMany : PySem.W.nsIn K mainGlobals "TooMany" = some (some (.ref f_TooMany)))
    (xkp_NoBalance : PySem.W.keepIn K (.ref f_NoBalance) = true)
    (xbs_NoBalance : PySem.W.subIn K (.ref f_NoBalance) (.type "BaseException") = some true)
    (xty_NoBalance : PySem.W.typeIn K (.ref f_NoBalance) = some (.type "type"))
    (xis_NoBalance : PySem.W.isClsIn K f_NoBalance = true)
    (xhg_NoBalance : PySem.W.findIn K (.ref f_NoBalance) "__getattribute__" = some (some (.builtin "BaseException.__getattribute__")))
    (xhk_NoBalance : PySem.W.findIn K (.ref f_NoBalance) "__getattr__" = some none)
    (xhd_NoBalance : PySem.W.hasDictIn K f_NoBalance = true)
    (xha_NoBalance : PySem.W.findIn K (.ref f_NoBalance) "__class__" = some (some (.builtin "object.__class__")))
    (xhn_NoBalance : PySem.W.specialIn K (.builtin "object.__class__") "__get__" = some (some (.builtin "getset_descriptor.__get__")))
    (xht_NoBalance : PySem.W.takesIn K (.builtin "object.__class__") = some true)
    (xhm_NoBalance : PySem.W.mroIn K f_NoBalance (.type "object") = some true)
    (r_NoBalance : PySem.W.excIn K f_NoBalance [.type "ValueError", .type "Exception", .type "BaseException", .type "object"] "ValueError.__new__" = true)
    (k_NoBalance_NoNet : PySem.W.kitOne K (.ref f_NoBalance) (.ref f_NoNet) = some false)
    (k_NoBalance_NoYard : PySem.W.kitOne K (.ref f_NoBalance) (.ref f_NoYard) = some false)
    (k_NoBalance_NoMark : PySem.W.kitOne K (.ref f_NoBalance) (.ref f_NoMark) = some false)
    (k_NoBalance_NoPage : PySem.W.kitOne K (.ref f_NoBalance) (.ref f_NoPage) = some false)
    (k_NoBalance_NoCover : PySem.W.kitOne K (.ref f_NoBalance) (.ref f_NoCover) = some false)
    (k_NoBalance_NoDay : PySem.W.kitOne K (.ref f_NoBalance) (.ref f_NoDay) = some false)
    (k_NoBalance_NoTariff : PySem.W.kitOne K (.ref f_NoBalance) (.ref f_NoTariff) = some false)
    (k_NoBalance_NoBalance : PySem.W.kitOne K (.ref f_NoBalance) (.ref f_NoBalance) = some true)
    (k_NoBalance_NoStray : PySem.W.kitOne K (.ref f_NoBalance) (.ref f_NoStray) = some false)
    (k_NoBalance_NoTrip : PySem.W.kitOne K (.ref f_NoBalance) (.ref f_NoTrip) = some false)
    (k_NoBalance_NoPrice : PySem.W.kitOne K (.ref f_NoBalance) (.ref f_NoPrice) = some false)
    (k_NoBalance_NoLine : PySem.W.kitOne K (.ref f_NoBalance) (.ref f_NoLine) = some false)
    (k_NoBalance_Gone : PySem.W.kitOne K (.ref f_NoBalance) (.ref f_Gone) = some false)
    (k_NoBalance_Nothing : PySem.W.kitOne K (.ref f_NoBalance) (.ref f_Nothing) = some false)
    (k_NoBalance_Clash : PySem.W.kitOne K (.ref f_NoBalance) (.ref f_Clash) = some false)
    (k_NoBalance_NoText : PySem.W.kitOne K (.ref f_NoBalance) (.ref f_NoText) = some false)
    (k_NoBalance_TooMany : PySem.W.kitOne K (.ref f_NoBalance) (.ref f_TooMany) = some false)
    (v_NoBalance : PySem.W.kitOne K (.ref f_NoBalance) (.type "ValueError") = some true)
    (m_NoBalance : PySem.W.exmOne K (.ref f_NoBalance) (.ref f_CoverError) = some true) :
    ∃ A : Ad, Txt K mg A ∧ fa = A.law ∧ (A.fd__law_right.code = .ref cc__law_right) ∧ ∀ (s : Shared) (u : Value), BindsTo s A.fd_law ⟨[u], []⟩ [("_law_script", u)] := by
  have e := hfa.symm.trans (PySem.W.mg_of X G a_law)
  injection e with e
  injection e with e
  refine ⟨⟨f_is_number, PySem.W.fnOf "is_number" "is_number" (defArgs s_is_number) (defBody s_is_number) (defScope s_is_number) .none kV_is_number dc_is_number pm_is_number an_is_number cd_is_number ct_is_number,
    f_need_balances, PySem.W.fnOf "need_balances" "need_balances" (defArgs s_need_balances) (defBody s_need_balances) (defScope s_need_balances) .none kV_need_balances dc_need_balances pm_need_balances an_need_balances cd_need_balances ct_need_balances,
    f_is_payment, PySem.W.fnOf "is_payment" "is_payment" (defArgs s_is_payment) (defBody s_is_payment) (defScope s_is_payment) .none kV_is_payment dc_is_payment pm_is_payment an_is_payment cd_is_payment ct_is_payment,
    f_settles, PySem.W.fnOf "settles" "settles" (defArgs s_settles) (defBody s_settles) (defScope s_settles) .none kV_settles dc_settles pm_settles an_settles cd_settles ct_settles,
    f_some_of, PySem.W.fnOf "some_of" "some_of" (defArgs s_some_of) (defBody s_some_of) (defScope s_some_of) .none kV_some_of dc_some_of pm_some_of an_some_of cd_some_of ct_some_of,
    f_parted, PySem.W.fnOf "parted" "parted" (defArgs s_parted) (defBody s_parted) (defScope s_parted) .none kV_parted dc_parted pm_parted an_parted cd_parted ct_parted,
    f_groups, PySem.W.fnOf "groups" "groups" (defArgs s_groups) (defBody s_groups) (defScope s_groups) .none kV_groups dc_groups pm_groups an_groups cd_groups ct_groups,
    f_fewest_payments, PySem.W.fnOf "fewest_payments" "fewest_payments" (defArgs s_fewest_payments) (defBody s_fewest_payments) (defScope s_fewest_payments) .none kV_fewest_payments dc_fewest_payments pm_fewest_payments an_fewest_payments cd_fewest_payments ct_fewest_payments,
    f_payments_in, PySem.W.fnOf "payments_in" "payments_in" (defArgs s_payments_in) (defBody s_payments_in) (defScope s_payments_in) .none kV_payments_in dc_payments_in pm_payments_in an_payments_in cd_payments_in ct_payments_in,
    f_payments, PySem.W.fnOf "payments" "payments" (defArgs s_payments) (defBody s_payments) (defScope s_payments) .none kV_payments dc_payments pm_payments an_payments cd_payments ct_payments,
    f__law_cell, PySem.W.fnOf "_law_cell" "_law_cell" (defArgs s__law_cell) (defBody s__law_cell) (defScope s__law_cell) .none kV__law_cell dc__law_cell pm__law_cell an__law_cell cd__law_cell ct__law_cell,
    f__law_mix, PySem.W.fnOf "_law_mix" "_law_mix" (defArgs s__law_mix) (defBody s__law_mix) (defScope s__law_mix) .none kV__law_mix dc__law_mix pm__law_mix an__law_mix cd__law_mix ct__law_mix,
    f__law_box, PySem.W.fnOf "_law_box" "_law_box" (defArgs s__law_box) (defBody s__law_box) (defScope s__law_box) .none kV__law_box dc__law_box pm__law_box an__law_box cd__law_box ct__law_box,
    f__law_take, PySem.W.fnOf "_law_take" "_law_take" (defArgs s__law_take) (defBody s__law_take) (defScope s__law_take) .none kV__law_take dc__law_take pm__law_take an__law_take cd__law_take ct__law_take,
    f__law_balances, PySem.W.fnOf "_law_balances" "_law_balances" (defArgs s__law_balances) (defBody s__law_balances) (defScope s__law_balances) .none kV__law_balances dc__law_balances pm__law_balances an__law_balances cd__law_balances ct__law_balances,
    f__law_is, PySem.W.fnOf "_law_is" "_law_is" (defArgs s__law_is) (defBody s__law_is) (defScope s__law_is) .none kV__law_is dc__law_is pm__law_is an__law_is cd__law_is ct__law_is,
    f__law_odd, PySem.W.fnOf "_law_odd" "_law_odd" (defArgs s__law_odd) (defBody s__law_odd) (defScope s__law_odd) .none kV__law_odd dc__law_odd pm__law_odd an__law_odd cd__law_odd ct__law_odd,
    f__law_bent, PySem.W.fnOf "_law_bent" "_law_bent" (defArgs s__law_bent) (defBody s__law_bent) (defScope s__law_bent) .none kV__law_bent dc__law_bent pm__law_bent an__law_bent cd__law_bent ct__law_bent,
    f__law_which, PySem.W.fnOf "_law_which" "_law_which" (defArgs s__law_which) (defBody s__law_which) (defScope s__law_which) .none kV__law_which dc__law_which pm__law_which an__law_which cd__law_which ct__law_which,
    f__law_said, PySem.W.fnOf "_law_said" "_law_said" (defArgs s__law_said) (defBody s__law_said) (defScope s__law_said) .none kV__law_said dc__law_said pm__law_said an__law_said cd__law_said ct__law_said,
    f__law_are, PySem.W.fnOf "_law_are" "_law_are" (defArgs s__law_are) (defBody s__law_are) (defScope s__law_are) .none kV__law_are dc__law_are pm__law_are an__law_are cd__law_are ct__law_are,
    f__law_right, PySem.W.fnOf "_law_right" "_law_right" (defArgs s__law_right) (defBody s__law_right) (defScope s__law_right) .none kV__law_right dc__law_right pm__law_right an__law_right (.ref cc__law_right) ct__law_right,
    f_law, PySem.W.fnOf "law" "law" (defArgs s_law) (defBody s_law) (defScope s_law) .none kV_law dc_law pm_law an_law cd_law ct_law,
    f_CoverError,
    f_NoNet,
    f_NoYard,
    f_NoMark,
    f_NoPage,
    f_NoCover,
    f_NoDay,
    f_NoTariff,
    f_NoBalance,
    f_NoStray,
    f_NoTrip,
    f_NoPrice,
    f_NoLine,
    f_Gone,
    f_Nothing,
    f_Clash,
    f_NoText,
    f_TooMany⟩, ?_, e, rfl, fun s u => .of_eq rfl⟩
  exact ⟨PySem.W.mg_of X G a_is_number,
    fun_mk l_is_number c_is_number k_is_number,
    (fun_mk (st := s_is_number) l_is_number c_is_number k_is_number).binds (ps := P_is_number) fun _ _ _ _ _ _ us hl => match us, hl with | [_], _ => rfl,
    PySem.W.mg_of X G a_need_balances,
    fun_mk l_need_balances c_need_balances k_need_balances,
    (fun_mk (st := s_need_balances) l_need_balances c_need_balances k_need_balances).binds (ps := P_need_balances) fun _ _ _ _ _ _ us hl => match us, hl with | [_], _ => rfl,
    PySem.W.mg_of X G a_is_payment,
    fun_mk l_is_payment c_is_payment k_is_payment,
    (fun_mk (st := s_is_payment) l_is_payment c_is_payment k_is_payment).binds (ps := P_is_payment) fun _ _ _ _ _ _ us hl => match us, hl with | [_, _], _ => rfl,
    PySem.W.mg_of X G a_settles,
    fun_mk l_settles c_settles k_settles,
    (fun_mk (st := s_settles) l_settles c_settles k_settles).binds (ps := P_settles) fun _ _ _ _ _ _ us hl => match us, hl with | [_, _], _ => rfl,
    PySem.W.mg_of X G a_some_of,
    fun_mk l_some_of c_some_of k_some_of,
    (fun_mk (st := s_some_of) l_some_of c_some_of k_some_of).binds (ps := P_some_of) fun _ _ _ _ _ _ us hl => match us, hl with | [_], _ => rfl,
    PySem.W.mg_of X G a_parted,
    fun_mk l_parted c_parted k_parted,
    (fun_mk (st := s_parted) l_parted c_parted k_parted).binds (ps := P_parted) fun _ _ _ _ _ _ us hl => match us, hl with | [_, _], _ => rfl,
    PySem.W.mg_of X G a_groups,
    fun_mk l_groups c_groups k_groups,
    (fun_mk (st := s_groups) l_groups c_groups k_groups).binds (ps := P_groups) fun _ _ _ _ _ _ us hl => match us, hl with | [_], _ => rfl,
    PySem.W.mg_of X G a_fewest_payments,
    fun_mk l_fewest_payments c_fewest_payments k_fewest_payments,
    (fun_mk (st := s_fewest_payments) l_fewest_payments c_fewest_payments k_fewest_payments).binds (ps := P_fewest_payments) fun _ _ _ _ _ _ us hl => match us, hl with | [_], _ => rfl,
    PySem.W.mg_of X G a_payments_in,
    fun_mk l_payments_in c_payments_in k_payments_in,
    (fun_mk (st := s_payments_in) l_payments_in c_payments_in k_payments_in).binds (ps := P_payments_in) fun _ _ _ _ _ _ us hl => match us, hl with | [_, _], _ => rfl,
    PySem.W.mg_of X G a_payments,
    fun_mk l_payments c_payments k_payments,
    (fun_mk (st := s_payments) l_payments c_payments k_payments).binds (ps := P_payments) fun _ _ _ _ _ _ us hl => match us, hl with | [_], _ => rfl,
    PySem.W.mg_of X G a__law_cell,
    fun_mk l__law_cell c__law_cell k__law_cell,
    (fun_mk (st := s__law_cell) l__law_cell c__law_cell k__law_cell).binds (ps := P__law_cell) fun _ _ _ _ _ _ us hl => match us, hl with | [_, _], _ => rfl,
    PySem.W.mg_of X G a__law_mix,
    fun_mk l__law_mix c__law_mix k__law_mix,
    (fun_mk (st := s__law_mix) l__law_mix c__law_mix k__law_mix).binds (ps := P__law_mix) fun _ _ _ _ _ _ us hl => match us, hl with | [_, _], _ => rfl,
    PySem.W.mg_of X G a__law_box,
    fun_mk l__law_box c__law_box k__law_box,
    (fun_mk (st := s__law_box) l__law_box c__law_box k__law_box).binds (ps := P__law_box) fun _ _ _ _ _ _ us hl => match us, hl with | [_, _, _], _ => rfl,
    PySem.W.mg_of X G a__law_take,
    fun_mk l__law_take c__law_take k__law_take,
    (fun_mk (st := s__law_take) l__law_take c__law_take k__law_take).binds (ps := P__law_take) fun _ _ _ _ _ _ us hl => match us, hl with | [_, _], _ => rfl,
    PySem.W.mg_of X G a__law_balances,
    fun_mk l__law_balances c__law_balances k__law_balances,
    (fun_mk (st := s__law_balances) l__law_balances c__law_balances k__law_balances).binds (ps := P__law_balances) fun _ _ _ _ _ _ us hl => match us, hl with | [_, _], _ => rfl,
    PySem.W.mg_of X G a__law_is,
    fun_mk l__law_is c__law_is k__law_is,
    (fun_mk (st := s__law_is) l__law_is c__law_is k__law_is).binds (ps := P__law_is) fun _ _ _ _ _ _ us hl => match us, hl with | [_, _, _], _ => rfl,
    PySem.W.mg_of X G a__law_odd,
    fun_mk l__law_odd c__law_odd k__law_odd,
    (fun_mk (st := s__law_odd) l__law_odd c__law_odd k__law_odd).binds (ps := P__law_odd) fun _ _ _ _ _ _ us hl => match us, hl with | [_], _ => rfl,
    PySem.W.mg_of X G a__law_bent,
    fun_mk l__law_bent c__law_bent k__law_bent,
    (fun_mk (st := s__law_bent) l__law_bent c__law_bent k__law_bent).binds (ps := P__law_bent) fun _ _ _ _ _ _ us hl => match us, hl with | [_, _, _], _ => rfl,
    PySem.W.mg_of X G a__law_which,
    fun_mk l__law_which c__law_which k__law_which,
    (fun_mk (st := s__law_which) l__law_which c__law_which k__law_which).binds (ps := P__law_which) fun _ _ _ _ _ _ us hl => match us, hl with | [_], _ => rfl,
    PySem.W.mg_of X G a__law_said,
    fun_mk l__law_said c__law_said k__law_said,
    (fun_mk (st := s__law_said) l__law_said c__law_said k__law_said).binds (ps := P__law_said) fun _ _ _ _ _ _ us hl => match us, hl with | [_], _ => rfl,
    PySem.W.mg_of X G a__law_are,
    fun_mk l__law_are c__law_are k__law_are,
    (fun_mk (st := s__law_are) l__law_are c__law_are k__law_are).binds (ps := P__law_are) fun _ _ _ _ _ _ us hl => match us, hl with | [_], _ => rfl,
    PySem.W.mg_of X G a__law_right,
    fun_mk l__law_right c__law_right k__law_right,
    (fun_mk (st := s__law_right) l__law_right c__law_right k__law_right).binds (ps := P__law_right) fun _ _ _ _ _ _ us hl => match us, hl with | [_], _ => rfl,
    PySem.W.mg_of X G a_law,
    fun_mk l_law c_law k_law,
    (fun_mk (st := s_law) l_law c_law k_law).binds (ps := P_law) fun _ _ _ _ _ _ us hl => match us, hl with | [_], _ => rfl,
    PySem.W.mg_none_of X G z_ValueError,
    PySem.W.mg_none_of X G z_abs,
    PySem.W.mg_none_of X G z_all,
    PySem.W.mg_none_of X G z_bool,
    PySem.W.mg_none_of X G z_dict,
    PySem.W.mg_none_of X G z_divmod,
    PySem.W.mg_none_of X G z_int,
    PySem.W.mg_none_of X G z_isinstance,
    PySem.W.mg_none_of X G z_len,
    PySem.W.mg_none_of X G z_list,
    PySem.W.mg_none_of X G z_max,
    PySem.W.mg_none_of X G z_min,
    PySem.W.mg_none_of X G z_range,
    PySem.W.mg_none_of X G z_repr,
    PySem.W.mg_none_of X G z_sum,
    PySem.W.mg_none_of X G z_tuple,
    ⟨_, PySem.W.mg_of X G n_MOST_BALANCES⟩,
    ⟨_, PySem.W.mg_of X G n_MOST_PAYMENTS⟩,
    PySem.W.mg_of X G a_CoverError,
    PySem.W.mg_of X G a_NoNet,
    PySem.W.mg_of X G a_NoYard,
    PySem.W.mg_of X G a_NoMark,
    PySem.W.mg_of X G a_NoPage,
    PySem.W.mg_of X G a_NoCover,
    PySem.W.mg_of X G a_NoDay,
    PySem.W.mg_of X G a_NoTariff,
    PySem.W.mg_of X G a_NoBalance,
    ⟨xkp_NoBalance, xbs_NoBalance, xty_NoBalance, xis_NoBalance, ⟨xhg_NoBalance, xhk_NoBalance, xbs_NoBalance, xhd_NoBalance, xha_NoBalance, xhn_NoBalance, xht_NoBalance, xhm_NoBalance⟩⟩,
    r_NoBalance,
    PySem.W.mg_of X G a_NoStray,
    PySem.W.mg_of X G a_NoTrip,
    PySem.W.mg_of X G a_NoPrice,
    PySem.W.mg_of X G a_NoLine,
    PySem.W.mg_of X G a_Gone,
    PySem.W.mg_of X G a_Nothing,
    PySem.W.mg_of X G a_Clash,
    PySem.W.mg_of X G a_NoText,
    PySem.W.mg_of X G a_TooMany,
    k_NoBalance_NoNet,
    k_NoBalance_NoYard,
    k_NoBalance_NoMark,
    k_NoBalance_NoPage,
    k_NoBalance_NoCover,
    k_NoBalance_NoDay,
    k_NoBalance_NoTariff,
    k_NoBalance_NoBalance,
    k_NoBalance_NoStray,
    k_NoBalance_NoTrip,
    k_NoBalance_NoPrice,
    k_NoBalance_NoLine,
    k_NoBalance_Gone,
    k_NoBalance_Nothing,
    k_NoBalance_Clash,
    k_NoBalance_NoText,
    k_NoBalance_TooMany,
    v_NoBalance,
    m_NoBalance⟩

theorem all_lawG {l : PySem.W.OpenLaw} {h : Heap} {fa cc__law_right Pt__law_right : Addr} (X : K.In h) (hA : ∃ A : Ad, Txt K mg A ∧ fa = A.law ∧ (A.fd__law_right.code = .ref cc__law_right) ∧ ∀ (s : Shared) (u : Value), BindsTo s A.fd_law ⟨[u], []⟩ [("_law_script", u)])
    (hP__law_right : h.get? Pt__law_right = some tabO) (nP__law_right : K.lookup Pt__law_right = none) (hC__law_right : PySem.W.codeHdIn K cc__law_right Pt__law_right = true) : LawG l w K 17 "_law_script" m_law mg fa h := by
  obtain ⟨A, T, rfl, hcv__law_right, hb⟩ := hA
  refine ⟨A.fd_law, clA A [(Pt__law_right, ((PyProof.Rows.envOfC "_law_right" (defScope s__law_right) 0 0 .none).qual ++ "<lambda>"))], [(cc__law_right, Pt__law_right)], hb, ?_, ?_, ?_, ?_, ?_⟩
  · intro p hp
    simp only [List.mem_cons, List.not_mem_nil, or_false] at hp
    rcases hp with rfl
    · exact hP__law_right
  · intro p hp
    simp only [List.mem_cons, List.not_mem_nil, or_false] at hp
    rcases hp with rfl
    · exact nP__law_right
  · intro p hp
    simp only [List.mem_cons, List.not_mem_nil, or_false] at hp
    rcases hp with rfl
    · exact PySem.W.codeHd_of_K X hC__law_right
  · intro p hp
    simp only [List.mem_cons, List.not_mem_nil, or_false] at hp
    rcases hp with rfl
    · exact ⟨(cc__law_right, Pt__law_right), by simp, rfl⟩
  · intro base _ _ hT SB
    exact ok_law T SB hcv__law_right (hT _ (List.mem_singleton.2 rfl)) (List.mem_singleton.2 rfl) (fun p hp _ => by rw [List.mem_singleton.1 hp])
end Cv
end
section
open PySem PySem.W PyProof.Rows
set_option maxRecDepth 100000 in
set_option maxHeartbeats 0 in
theorem PySem.Challenge.cw_coverdues_k44_no_balances_holds : PySem.Challenge.rw_coverdues_k44_no_balances.Holds := by
  w_on; o_law; k_head; (case hw => w_witness2)
  k_fill
  refine Cv.walk_ofG (l := PySem.Challenge.rw_coverdues_k44_no_balances) (k := 17) (x := "_law_script") (mf := Cv.m_law) rfl (by decide) rfl ⟨rfl, by decide, by decide⟩ (by decide +kernel) (fun w h Y => (by first | exact kIn_of Y | exact km_in_of Y)) ?F (fun ns _ _ => Cv.law_told ns)
  case F =>
    intro w mg fa h Y KX G hmg
    have hTs := km_tabs_of Y
    refine' Cv.all_lawG KX (Cv.all_mk KX G hmg ?a_is_number ?l_is_number ?c_is_number ?k_is_number ?a_need_balances ?l_need_balances ?c_need_balances ?k_need_balances ?a_is_payment ?l_is_payment ?c_is_payment ?k_is_payment ?a_settles ?l_settles ?c_settles ?k_settles ?a_some_of ?l_some_of ?c_some_of ?k_some_of ?a_parted ?l_parted ?c_parted ?k_parted ?a_groups ?l_groups ?c_groups ?k_groups ?a_fewest_payments ?l_fewest_payments ?c_fewest_payments ?k_fewest_payments ?a_payments_in ?l_payments_in ?c_payments_in ?k_payments_in ?a_payments ?l_payments ?c_payments ?k_payments ?a__law_cell ?l__law_cell ?c__law_cell ?k__law_cell ?a__law_mix ?l__law_mix ?c__law_mix ?k__law_mix ?a__law_box ?l__law_box ?c__law_box ?k__law_box ?a__law_take ?l__law_take ?c__law_take ?k__law_take ?a__law_balances ?l__law_balances ?c__law_balances ?k__law_balances ?a__law_is ?l__law_is ?c__law_is ?k__law_is ?a__law_odd ?l__law_odd ?c__law_odd ?k__law_odd ?a__law_bent ?l__law_bent ?c__law_bent ?k__law_bent ?a__law_which ?l__law_which ?c__law_which ?k__law_which ?a__law_said ?l__law_said ?c__law_said ?k__law_said ?a__law_are ?l__law_are ?c__law_are ?k__law_are ?a__law_right ?l__law_right ?c__law_right ?k__law_right ?a_law ?l_law ?c_law ?k_law ?z_ValueError ?z_abs ?z_all ?z_bool ?z_dict ?z_divmod ?z_int ?z_isinstance ?z_len ?z_list ?z_max ?z_min ?z_range ?z_repr ?z_sum ?z_tuple ?n_MOST_BALANCES ?n_MOST_PAYMENTS ?a_CoverError ?a_NoNet ?a_NoYard ?a_NoMark ?a_NoPage ?a_NoCover ?a_NoDay ?a_NoTariff ?a_NoBalance ?a_NoStray ?a_NoTrip ?a_NoPrice ?a_NoLine ?a_Gone ?a_Nothing ?a_Clash ?a_NoText ?a_TooMany ?xkp_NoBalance ?xbs_NoBalance ?xty_NoBalance ?xis_NoBalance ?xhg_NoBalance ?xhk_NoBalance ?xhd_NoBalance ?xha_NoBalance ?xhn_NoBalance ?xht_NoBalance ?xhm_NoBalance ?r_NoBalance ?k_NoBalance_NoNet ?k_NoBalance_NoYard ?k_NoBalance_NoMark ?k_NoBalance_NoPage ?k_NoBalance_NoCover ?k_NoBalance_NoDay ?k_NoBalance_NoTariff ?k_NoBalance_NoBalance ?k_NoBalance_NoStray ?k_NoBalance_NoTrip ?k_NoBalance_NoPrice ?k_NoBalance_NoLine ?k_NoBalance_Gone ?k_NoBalance_Nothing ?k_NoBalance_Clash ?k_NoBalance_NoText ?k_NoBalance_TooMany ?v_NoBalance ?m_NoBalance) (hTs _ List.mem_cons_self) ?nP__law_right ?hC__law_right
    (case a_is_number => k_is); (case l_is_number => k_is); (case c_is_number => k_is); (case k_is_number => k_is)
    (case a_need_balances => k_is); (case l_need_balances => k_is); (case c_need_balances => k_is); (case k_need_balances => k_is)
    (case a_is_payment => k_is); (case l_is_payment => k_is); (case c_is_payment => k_is); (case k_is_payment => k_is)
    (case a_settles => k_is); (case l_settles => k_is); (case c_settles => k_is); (case k_settles => k_is)
    (case a_some_of => k_is); (case l_some_of => k_is); (case c_some_of => k_is); (case k_some_of => k_is)
    (case a_parted => k_is); (case l_parted => k_is); (case c_parted => k_is); (case k_parted => k_is)
    (case a_groups => k_is); (case l_groups => k_is); (case c_groups => k_is); (case k_groups => k_is)
    (case a_fewest_payments => k_is); (case l_fewest_payments => k_is); (case c_fewest_payments => k_is); (case k_fewest_payments => k_is)
    (case a_payments_in => k_is); (case l_payments_in => k_is); (case c_payments_in => k_is); (case k_payments_in => k_is)
    (case a_payments => k_is); (case l_payments => k_is); (case c_payments => k_is); (case k_payments => k_is)
    (case a__law_cell => k_is); (case l__law_cell => k_is); (case c__law_cell => k_is); (case k__law_cell => k_is)
    (case a__law_mix => k_is); (case l__law_mix => k_is); (case c__law_mix => k_is); (case k__law_mix => k_is)
    (case a__law_box => k_is); (case l__law_box => k_is); (case c__law_box => k_is); (case k__law_box => k_is)
    (case a__law_take => k_is); (case l__law_take => k_is); (case c__law_take => k_is); (case k__law_take => k_is)
    (case a__law_balances => k_is); (case l__law_balances => k_is); (case c__law_balances => k_is); (case k__law_balances => k_is)
    (case a__law_is => k_is); (case l__law_is => k_is); (case c__law_is => k_is); (case k__law_is => k_is)
    (case a__law_odd => k_is); (case l__law_odd => k_is); (case c__law_odd => k_is); (case k__law_odd => k_is)
    (case a__law_bent => k_is); (case l__law_bent => k_is); (case c__law_bent => k_is); (case k__law_bent => k_is)
    (case a__law_which => k_is); (case l__law_which => k_is); (case c__law_which => k_is); (case k__law_which => k_is)
    (case a__law_said => k_is); (case l__law_said => k_is); (case c__law_said => k_is); (case k__law_said => k_is)
    (case a__law_are => k_is); (case l__law_are => k_is); (case c__law_are => k_is); (case k__law_are => k_is)
    (case a__law_right => k_is); (case l__law_right => k_is); (case c__law_right => k_is); (case k__law_right => k_is)
    (case a_law => k_is); (case l_law => k_is); (case c_law => k_is); (case k_law => k_is)
    (case z_ValueError => k_is); (case z_abs => k_is); (case z_all => k_is); (case z_bool => k_is)
    (case z_dict => k_is); (case z_divmod => k_is); (case z_int => k_is); (case z_isinstance => k_is)
    (case z_len => k_is); (case z_list => k_is); (case z_max => k_is); (case z_min => k_is)
    (case z_range => k_is); (case z_repr => k_is); (case z_sum => k_is); (case z_tuple => k_is)
    (case n_MOST_BALANCES => k_is); (case n_MOST_PAYMENTS => k_is); (case a_CoverError => k_is); (case a_NoNet => k_is)
    (case a_NoYard => k_is); (case a_NoMark => k_is); (case a_NoPage => k_is); (case a_NoCover => k_is)
    (case a_NoDay => k_is); (case a_NoTariff => k_is); (case a_NoBalance => k_is); (case a_NoStray => k_is)
    (case a_NoTrip => k_is); (case a_NoPrice => k_is); (case a_NoLine => k_is); (case a_Gone => k_is)
    (case a_Nothing => k_is); (case a_Clash => k_is); (case a_NoText => k_is); (case a_TooMany => k_is)
    (case xkp_NoBalance => k_is); (case xbs_NoBalance => k_is); (case xty_NoBalance => k_is); (case xis_NoBalance => k_is)
    (case xhg_NoBalance => k_is); (case xhk_NoBalance => k_is); (case xhd_NoBalance => k_is); (case xha_NoBalance => k_is)
    (case xhn_NoBalance => k_is); (case xht_NoBalance => k_is); (case xhm_NoBalance => k_is); (case r_NoBalance => k_exc)
    (case k_NoBalance_NoNet => kernel_rfl); (case k_NoBalance_NoYard => kernel_rfl); (case k_NoBalance_NoMark => kernel_rfl); (case k_NoBalance_NoPage => kernel_rfl)
    (case k_NoBalance_NoCover => kernel_rfl); (case k_NoBalance_NoDay => kernel_rfl); (case k_NoBalance_NoTariff => kernel_rfl); (case k_NoBalance_NoBalance => kernel_rfl)
    (case k_NoBalance_NoStray => kernel_rfl); (case k_NoBalance_NoTrip => kernel_rfl); (case k_NoBalance_NoPrice => kernel_rfl); (case k_NoBalance_NoLine => kernel_rfl)
    (case k_NoBalance_Gone => kernel_rfl); (case k_NoBalance_Nothing => kernel_rfl); (case k_NoBalance_Clash => kernel_rfl); (case k_NoBalance_NoText => kernel_rfl)
    (case k_NoBalance_TooMany => kernel_rfl); (case v_NoBalance => kernel_rfl); (case m_NoBalance => kernel_rfl); (case nP__law_right => kernel_rfl); (case hC__law_right => kernel_rfl)
end
