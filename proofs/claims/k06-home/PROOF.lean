import PyProof.Rows.All
import Wide.All
import OpenK.AllK
import Wide.FinOn
import HandS.ForMost
import HandS.ForExc
import HandS.IsInst
import HandS.ExcIs
import HandS.Lambda
import HandS.EndTab
import HandS.Zip
import HandS.Walk
import HandS.TupAny
import HandS.TupLe
import HandS.TupSets
import HandS.Conv
import HandS.WideBits
import HandS.RaiseMore
import HandS.Deep
import HandS.Style
import HandS.TupLen
import HandS.Small
import KE.KIndexOf
import KE.SortData
import KE.DataMinMax
import KE.DataFind
import KE.KeyNested
import KE.KDictKeyed
import KE.DataEq
import KE.DataCmp
import KE.DataIsa
import KE.KDictPairs
import PyProof.ReprRoads
import HandS.HeadWalk
import PySem.Challenge.RW_coverdues_k06_ways_home
set_option Elab.async false
set_option linter.all false
set_option maxRecDepth 100000
set_option maxHeartbeats 4000000
section
namespace Cv
open PySem L2
theorem pe_cI {X : Cx} {x : Str} {i : Int} {pos : Pos} (hg : Gl X x) (h : ∃ t, X.mg x = some (.int i t)) (hd : (x == ("__debug__" : Str)) = false := by decide) : PE X (.Name x pos) (tC (.int i)) := by
  obtain ⟨t, h⟩ := h
  exact pe_glob hg h ⟨t, rfl⟩ hd

/-- what the written part says of an own exception class -/
structure ExcK (K : PySem.W.Frag) (C : Addr) : Prop where
  kp : PySem.W.keepIn K (.ref C) = true
  bs : PySem.W.subIn K (.ref C) (.type "BaseException") = some true
  ty : PySem.W.typeIn K (.ref C) = some (.type "type")
  is : PySem.W.isClsIn K C = true
  ec : ExcC K C
end Cv
end
section
/-! The U layer: readings as functions (a match on values and on what stands at an address). -/
namespace Cv
open PySem L2
section
variable {X : Cx}
theorem pe_imp {e : Expr} {t t' : TE} (h : PE X e t) (k : ∀ σ H Q, t' σ H Q → t σ H Q) : PE X e t' := ⟨fun pins s σ H Q I q => h.run pins s σ H Q I (k σ H Q q)⟩
theorem pt_imp {e : Expr} {t t' : TT} (h : PT X e t) (k : ∀ σ H Q, t' σ H Q → t σ H Q) : PT X e t' := ⟨fun pins s σ H Q I q => h.run pins s σ H Q I (k σ H Q q)⟩
theorem pg_imp {e : Expr} {t t' : TG} (h : PG X e t) (k : ∀ v σ H Q, t' v σ H Q → t v σ H Q) : PG X e t' := ⟨fun pins s σ H v u Q I r q => h.run pins s σ H v u Q I r (k v σ H Q q)⟩
theorem ps_imp {e : Stmt} {t t' : TS} (h : PS X e t) (k : ∀ D σ H, t' D σ H → t D σ H) : PS X e t' := ⟨fun pins s σ H D I q => h.run pins s σ H D I (k D σ H q)⟩
theorem pi_imp {tg e : Expr} {t t' : TI} (h : PI X tg e t) (k : ∀ σ H R, t' σ H R → t σ H R) : PI X tg e t' := ⟨fun pins s σ H R I q => h.run pins s σ H R I (k σ H R q)⟩
theorem opR_imp {f : Value → Value → Sem Value} {r r' : R2} (h : OpR X f r) (k : ∀ x y H Q, r' x y H Q → r x y H Q) : OpR X f r' := fun pins s σ H x y v u Q I rx ry q => h pins s σ H x y v u Q I rx ry (k _ _ _ _ q)
theorem callR_imp {f : Value} {r r' : List V → Hp → VK → Prop} (h : CallR X f r) (k : ∀ x H Q, r' x H Q → r x H Q) : CallR X f r' := fun pins s σ H xs us Q I rx q => h pins s σ H xs us Q I rx (k _ _ _ q)
/-! ### heaps -/
/-- a new tuple may be told with all else as it was -/
theorem al_tup {H : Hp} {xs : List V} {Q : VK} (h : ∀ p H', Same H H' → H' p = some (.tup xs) → Q (.ref p) H') : ∀ p, H p = none → Q (.ref p) (upd H p (.tup xs)) :=
  fun p hp => h p _ (fun b o e => by rw [upd_ne (ne_of_none e hp)]; exact e) upd_same
theorem al_lst {H : Hp} {xs : List V} {Q : VK} (h : ∀ p H', Same H H' → H p = none → H' p = some (.lst xs) → Q (.ref p) H') : ∀ p, H p = none → Q (.ref p) (upd H p (.lst xs)) :=
  fun p hp => h p _ (fun b o e => by rw [upd_ne (ne_of_none e hp)]; exact e) hp upd_same
/-- a new tuple, a new list: readings -/
abbrev NewT (xs : List V) (H : Hp) (Q : VK) : Prop := ∀ p H', Same H H' → H' p = some (.tup xs) → Q (.ref p) H'
abbrev NewL (xs : List V) (H : Hp) (Q : VK) : Prop := ∀ p H', Same H H' → H p = none → H' p = some (.lst xs) → Q (.ref p) H'
/-! ### names -/
def uVar (i : Nat) : TE := fun σ H Q => match σ[i]? with
  | some (some v) => Q v H
  | _ => False
theorem uv (i : Nat) {x : Str} {pos : Pos} (hN : X.N[i]? = some x := by rfl) (hv : Vis X.env.scope x := by first | exact Or.inl rfl | exact Or.inr (Or.inl rfl) | exact Or.inr (Or.inr rfl)) (hd : (x == ("__debug__" : Str)) = false := by decide)
    (hcd : (x == ("__classdict__" : Str)) = false := by decide) : PE X (.Name x pos) (uVar i) := pe_imp (pe_var hN hv hd hcd) fun σ H Q h => by
  unfold uVar at h
  split at h
  · exact ⟨_, by assumption, h⟩
  · exact h.elim
/-! ### operators -/
def uAdd : R2 := fun x y H Q => match x, y with
  | .int i, .int j => Q (.int (i + j)) H
  | .str a, .str b => a.length + b.length ≤ sizeLine ∧ Q (.str (a ++ b)) H
  | .ref p, .ref q => (match H p, H q with
    | some (.lst xs), some (.lst ys) => xs.length + ys.length ≤ sizeLine ∧ NewL (xs ++ ys) H Q
    | some (.tup xs), some (.tup ys) => xs.length + ys.length ≤ sizeLine ∧ NewT (xs ++ ys) H Q
    | _, _ => False)
  | _, _ => False
theorem u_add : OpR X (binaryOp .Add) uAdd := by
  intro pins s σ H x y v u Q I rx ry h
  unfold uAdd at h
  split at h
  · exact op_add pins s σ H _ _ v u Q I rx ry ⟨_, _, rfl, rfl, h⟩
  · exact op_add_str pins s σ H _ _ v u Q I rx ry ⟨_, _, rfl, rfl, h⟩
  · rename_i p q
    split at h
    · rename_i xs ys e1 e2
      exact op_cat pins s σ H _ _ v u Q I rx ry ⟨_, _, _, _, rfl, rfl, e1, e2, h.1, al_lst h.2⟩
    · rename_i xs ys e1 e2
      refine op_catA pins s σ H _ _ v u Q I rx ry ⟨_, _, _, _, rfl, rfl, SqT.of e1, SqT.of e2, h.1, fun z => ?_, fun _ z => ?_, fun _ _ => al_tup h.2⟩
      · subst z
        exact h.2 q H (Same.refl H) e2
      · subst z
        rw [List.append_nil] at h
        exact h.2 p H (Same.refl H) e1
    · exact h.elim
  · exact h.elim
def uSub : R2 := fun x y H Q => match x, y with
  | .int i, .int j => Q (.int (i - j)) H
  | _, _ => False
theorem u_sub : OpR X (binaryOp .Sub) uSub := opR_imp op_sub fun x y H Q h => by
  unfold uSub at h
  split at h
  · exact ⟨_, _, rfl, rfl, h⟩
  · exact h.elim
def uMul : R2 := fun x y H Q => match x, y with
  | .int i, .int j => CMul i j ∧ Q (.int (i * j)) H
  | .ref p, .int k => (match H p with
    | some (.lst xs) => (-(2 ^ 63) ≤ k ∧ k < 2 ^ 63 ∧ xs.length * k.toNat ≤ sizeLine) ∧ NewL (List.replicate k.toNat xs).flatten H Q
    | _ => False)
  | _, _ => False
theorem u_mul : OpR X (binaryOp .Mult) uMul := by
  intro pins s σ H x y v u Q I rx ry h
  unfold uMul at h
  split at h
  · exact op_mul pins s σ H _ _ v u Q I rx ry ⟨_, _, rfl, rfl, h⟩
  · split at h
    · rename_i xs e1
      exact op_rep pins s σ H _ _ v u Q I rx ry ⟨_, _, _, rfl, rfl, e1, h.1.1, h.1.2.1, h.1.2.2, al_lst h.2⟩
    · exact h.elim
  · exact h.elim
def uMod : R2 := fun x y H Q => match x, y with
  | .int i, .int j => 0 < j ∧ Q (.int (i % j)) H
  | _, _ => False
theorem u_mod : OpR X (binaryOp .Mod) uMod := opR_imp op_mod fun x y H Q h => by
  unfold uMod at h
  split at h
  · exact ⟨_, _, rfl, rfl, h⟩
  · exact h.elim
def uFdiv : R2 := fun x y H Q => match x, y with
  | .int i, .int j => (0 < j ∧ j < 1073741824) ∧ Q (.int (i / j)) H
  | _, _ => False
theorem u_fdiv : OpR X (binaryOp .FloorDiv) uFdiv := opR_imp op_fdiv fun x y H Q h => by
  unfold uFdiv at h
  split at h
  · exact ⟨_, _, rfl, rfl, h⟩
  · exact h.elim
def uPow : R2 := fun x y H Q => match x, y with
  | .int i, .int j => CPow i j ∧ Q (.int (i ^ j.toNat)) H
  | _, _ => False
theorem u_pow : OpR X (binaryOp .Pow) uPow := opR_imp op_pow fun x y H Q h => by
  unfold uPow at h
  split at h
  · exact ⟨_, _, rfl, rfl, h⟩
  · exact h.elim
def uNeg : V → Hp → VK → Prop := fun x H Q => match x with
  | .int i => Q (.int (-i)) H
  | _ => False
theorem u_neg : UnR X (unaryOp .USub) uNeg := fun pins s σ H x v Q I rx h => by
  unfold uNeg at h
  split at h
  · exact un_neg pins s σ H _ v Q I rx ⟨_, rfl, h⟩
  · exact h.elim
/-! ### comparisons -/
def uCmp (g : Int → Int → Bool) : R2 := fun x y H Q => match x, y with
  | .int i, .int j => Q (.bl (g i j)) H
  | _, _ => False
theorem uCmp_of {f : Value → Value → Sem Value} {g : Int → Int → Bool} (h : OpR X f (rI0 fun i j => .bl (g i j))) : OpR X f (uCmp g) := opR_imp h fun x y H Q h => by
  unfold uCmp at h
  split at h
  · exact ⟨_, _, rfl, rfl, h⟩
  · exact h.elim
def uLe : R2 := uCmp fun i j => decide (i ≤ j)
def uGt : R2 := uCmp fun i j => decide (j < i)
def uGe : R2 := uCmp fun i j => decide (j ≤ i)
theorem u_le : OpR X (compareOp .LtE) uLe := uCmp_of op_le
theorem u_gt : OpR X (compareOp .Gt) uGt := uCmp_of op_gt
theorem u_ge : OpR X (compareOp .GtE) uGe := uCmp_of op_ge
/-- < of numbers, of tuples of numbers -/
def uLt : R2 := fun x y H Q => match x, y with
  | .int i, .int j => Q (.bl (decide (i < j))) H
  | .ref p, .ref q => (match H p, H q with
    | some (.tup xs), some (.tup ys) => ∃ ns ms : List Int, xs = ns.map V.int ∧ ys = ms.map V.int ∧ Q (.bl (HT.lexLt ns ms)) H
    | _, _ => False)
  | _, _ => False
theorem u_lt (hu : X.A.units < cLine) : OpR X (compareOp .Lt) uLt := by
  intro pins s σ H x y v u Q I rx ry h
  unfold uLt at h
  split at h
  · exact op_lt pins s σ H _ _ v u Q I rx ry ⟨_, _, rfl, rfl, h⟩
  · split at h
    · rename_i xs ys e1 e2
      obtain ⟨ns, ms, rfl, rfl, h⟩ := h
      exact op_ltT hu pins s σ H _ _ v u Q I rx ry ⟨_, _, _, _, rfl, rfl, SqT.of e1, SqT.of e2, h⟩
    · exact h.elim
  · exact h.elim
/-- == of scalars; else by data -/
def uEqG (K : PySem.W.Frag) (g : Bool → Bool) : R2 := fun x y H Q => match x, y with
  | .int i, .int j => Q (.bl (g (decide (i = j)))) H
  | .str i, .str j => Q (.bl (g (decide (i = j)))) H
  | .bl i, .bl j => Q (.bl (g (decide (i = j)))) H
  | .non, .non => Q (.bl (g true)) H
  | .int _, .non => Q (.bl (g false)) H
  | .non, .int _ => Q (.bl (g false)) H
  | .str _, .non => Q (.bl (g false)) H
  | .non, .str _ => Q (.bl (g false)) H
  | x, y => ∃ d e, Dp K H x d ∧ Dp K H y e ∧ SeqAt.shaped d = true ∧ SeqAt.shaped e = true ∧ Q (.bl (g (PyData.eqv d e))) H
def uEq (K : PySem.W.Frag) : R2 := uEqG K fun b => b
def uNe (K : PySem.W.Frag) : R2 := uEqG K fun b => !b
theorem dec_int (i j : Int) : decide (V.int i = V.int j) = decide (i = j) := by simp
theorem dec_str (i j : Str) : decide (V.str i = V.str j) = decide (i = j) := by simp
theorem dec_bl (i j : Bool) : decide (V.bl i = V.bl j) = decide (i = j) := by simp
theorem u_eq (hu : X.A.units + 64 < cLine) : OpR X (compareOp .Eq) (uEq X.K) := by
  intro pins s σ H x y v u Q I rx ry h
  unfold uEq uEqG at h
  split at h
  · exact op_eq pins s σ H _ _ v u Q I rx ry ⟨rfl, by rw [dec_int]; exact h⟩
  · exact op_eq pins s σ H _ _ v u Q I rx ry ⟨rfl, by rw [dec_str]; exact h⟩
  · exact op_eq pins s σ H _ _ v u Q I rx ry ⟨rfl, by rw [dec_bl]; exact h⟩
  · exact op_eq pins s σ H _ _ v u Q I rx ry ⟨rfl, by simpa using h⟩
  · exact op_eq pins s σ H _ _ v u Q I rx ry ⟨rfl, by simpa using h⟩
  · exact op_eq pins s σ H _ _ v u Q I rx ry ⟨rfl, by simpa using h⟩
  · exact op_eq pins s σ H _ _ v u Q I rx ry ⟨rfl, by simpa using h⟩
  · exact op_eq pins s σ H _ _ v u Q I rx ry ⟨rfl, by simpa using h⟩
  · exact op_eqD hu pins s σ H _ _ v u Q I rx ry h
theorem u_ne (hu : X.A.units + 64 < cLine) : OpR X (compareOp .NotEq) (uNe X.K) := by
  intro pins s σ H x y v u Q I rx ry h
  unfold uNe uEqG at h
  split at h
  · exact op_ne pins s σ H _ _ v u Q I rx ry ⟨rfl, by rw [dec_int]; exact h⟩
  · exact op_ne pins s σ H _ _ v u Q I rx ry ⟨rfl, by rw [dec_str]; exact h⟩
  · exact op_ne pins s σ H _ _ v u Q I rx ry ⟨rfl, by rw [dec_bl]; exact h⟩
  · exact op_ne pins s σ H _ _ v u Q I rx ry ⟨rfl, by simpa using h⟩
  · exact op_ne pins s σ H _ _ v u Q I rx ry ⟨rfl, by simpa using h⟩
  · exact op_ne pins s σ H _ _ v u Q I rx ry ⟨rfl, by simpa using h⟩
  · exact op_ne pins s σ H _ _ v u Q I rx ry ⟨rfl, by simpa using h⟩
  · exact op_ne pins s σ H _ _ v u Q I rx ry ⟨rfl, by simpa using h⟩
  · exact op_neD hu pins s σ H _ _ v u Q I rx ry h
/-- is None, is True -/
def isNon : V → Bool
  | .non => true
  | _ => false
theorem isNon_dec (x : V) : decide (x = .non) = isNon x := by cases x <;> rfl
def uIsG (g : Bool → Bool) : R2 := fun x y H Q => match x, y with
  | .bl a, .bl b => Q (.bl (g (decide (a = b)))) H
  | x, .non => Q (.bl (g (isNon x))) H
  | _, _ => False
def uIs : R2 := uIsG fun b => b
def uIsNot : R2 := uIsG fun b => !b
theorem u_is : OpR X (compareOp .Is) uIs := by
  intro pins s σ H x y v u Q I rx ry h
  unfold uIs uIsG at h
  split at h
  · exact op_is_bl pins s σ H _ _ v u Q I rx ry ⟨_, _, rfl, rfl, h⟩
  · exact op_isN pins s σ H _ _ v u Q I rx ry ⟨rfl, by rw [isNon_dec]; exact h⟩
  · exact h.elim
theorem u_isnot : OpR X (compareOp .IsNot) uIsNot := by
  intro pins s σ H x y v u Q I rx ry h
  unfold uIsNot uIsG at h
  split at h
  · exact op_isnot_bl pins s σ H _ _ v u Q I rx ry ⟨_, _, rfl, rfl, h⟩
  · exact op_notN pins s σ H _ _ v u Q I rx ry ⟨rfl, by rw [isNon_dec]; exact h⟩
  · exact h.elim
/-- in: a list, a tuple of flat things; a dict's keys -/
def keyV : V → Option Key
  | .int i => some (.inl i)
  | .str x => some (.inr x)
  | _ => none
theorem keyV_is {x : V} {k : Key} (h : keyV x = some k) : x = kV k := by
  cases x <;> simp [keyV] at h <;> subst h <;> rfl
def keysV : List V → Option (List Key)
  | [] => some []
  | x :: r => match keyV x, keysV r with
    | some k, some ks => some (k :: ks)
    | _, _ => none
theorem keysV_is : ∀ {xs : List V} {ks : List Key}, keysV xs = some ks → xs = ks.map kV
  | [], ks, h => by simp [keysV] at h; subst h; rfl
  | x :: r, ks, h => by
    unfold keysV at h
    split at h
    · rename_i k ks' e1 e2
      cases h
      rw [keyV_is e1, keysV_is e2]; rfl
    · cases h
def uInG (g : Bool → Bool) : R2 := fun x y H Q => match y with
  | .ref p => (match H p with
    | some (.lst xs) => (flatV x = true ∧ xs.all flatV = true) ∧ Q (.bl (g (inV x xs))) H
    | some (.tup xs) => (flatV x = true ∧ xs.all flatV = true) ∧ Q (.bl (g (inV x xs))) H
    | some (.frz _ (.tup xs)) => (flatV x = true ∧ xs.all flatV = true) ∧ Q (.bl (g (inV x xs))) H
    | some (.dK kvs) => (match keyV x with
      | some k => Q (.bl (g (valV kvs k).isSome)) H
      | none => False)
    | some (.dT kvs) => (match x with
      | .ref t => (match H t with
        | some (.tup xs) => (match keysV xs with
          | some k => Q (.bl (g (valV kvs k).isSome)) H
          | none => False)
        | _ => False)
      | _ => False)
    | _ => False)
  | _ => False
def uIn : R2 := uInG fun b => b
def uNotIn : R2 := uInG fun b => !b
theorem u_in (hu : X.A.units + 1 < cLine) : OpR X (compareOp .In) uIn := by
  intro pins s σ H x y v u Q I rx ry h
  unfold uIn uInG at h
  split at h
  · rename_i p
    split at h
    · rename_i xs e
      exact op_in_seq pins s σ H _ _ v u Q I rx ry ⟨_, _, rfl, .inl (SqL.of e), h.1.1, h.1.2, h.2⟩
    · rename_i xs e
      exact op_in_seq pins s σ H _ _ v u Q I rx ry ⟨_, _, rfl, .inr (SqT.of e), h.1.1, h.1.2, h.2⟩
    · rename_i xs e
      exact op_in_seq pins s σ H _ _ v u Q I rx ry ⟨_, _, rfl, .inr (.inl (.inr ⟨_, e⟩)), h.1.1, h.1.2, h.2⟩
    · rename_i kvs e
      split at h
      · rename_i k ek
        have ex := keyV_is ek
        subst ex
        obtain rfl : u = Value.ref p := ry
        exact d_in hu I (DGet.k e) rx fun s3 I3 => ⟨.bl _, H, I3, rfl, h⟩
      · exact h.elim
    · rename_i kvs e
      split at h
      · rename_i t
        split at h
        · rename_i xs et
          split at h
          · rename_i k ek
            have ex := keysV_is ek
            subst ex
            obtain rfl : u = Value.ref p := ry
            exact d_in hu I (DGet.t e et) rx fun s3 I3 => ⟨.bl _, H, I3, rfl, h⟩
          · exact h.elim
        · exact h.elim
      · exact h.elim
    · exact h.elim
  · exact h.elim
theorem u_notin (hu : X.A.units + 1 < cLine) : OpR X (compareOp .NotIn) uNotIn := by
  intro pins s σ H x y v u Q I rx ry h
  unfold uNotIn uInG at h
  split at h
  · rename_i p
    split at h
    · rename_i xs e
      exact op_notIn_seq pins s σ H _ _ v u Q I rx ry ⟨_, _, rfl, .inl (SqL.of e), h.1.1, h.1.2, h.2⟩
    · rename_i xs e
      exact op_notIn_seq pins s σ H _ _ v u Q I rx ry ⟨_, _, rfl, .inr (SqT.of e), h.1.1, h.1.2, h.2⟩
    · rename_i xs e
      exact op_notIn_seq pins s σ H _ _ v u Q I rx ry ⟨_, _, rfl, .inr (.inl (.inr ⟨_, e⟩)), h.1.1, h.1.2, h.2⟩
    · rename_i kvs e
      split at h
      · rename_i k ek
        have ex := keyV_is ek
        subst ex
        obtain rfl : u = Value.ref p := ry
        exact d_notIn hu I (DGet.k e) rx fun s3 I3 => ⟨.bl _, H, I3, rfl, h⟩
      · exact h.elim
    · rename_i kvs e
      split at h
      · rename_i t
        split at h
        · rename_i xs et
          split at h
          · rename_i k ek
            have ex := keysV_is ek
            subst ex
            obtain rfl : u = Value.ref p := ry
            exact d_notIn hu I (DGet.t e et) rx fun s3 I3 => ⟨.bl _, H, I3, rfl, h⟩
          · exact h.elim
        · exact h.elim
      · exact h.elim
    · exact h.elim
  · exact h.elim
end
end Cv
end
section
namespace Cv
open PySem L2
section
variable {X : Cx}
open PySem.Spec PyProof.Rows in
theorem ix_dict (hu : X.A.units + 1 < cLine) : IxR X (fun x y H Q => ∃ a v, x = .ref a ∧ DGet H a y (some v) ∧ Q v H) := by
  intro value slice pins s σ H x y v u Q I rx ry h hs
  obtain ⟨a, w', rfl, g, q⟩ := h
  obtain rfl : v = Value.ref a := rx
  have hT := dict_typeIs I g
  unfold subscriptTail
  refine wpAny_bind ?_
  rw [getitemInPython_of_ne hT.not_modules]
  refine wpAny_bind (wpAny_specialOf hT PySem.F.slot_dict_getitem.lookup ?_)
  have h₂ : wpAny (model X.prog X.w) X.A (getItem (.ref a) u) (EP X pins σ Q) X.xe s := d_getItem hu I g ry fun w'' s3 I3 rw' => ⟨w', H, I3, rw', q⟩
  have fin : wpAny (model X.prog X.w) X.A (subscripted slice false (.ref a) u) (fun r s₃ => wpAny (model X.prog X.w) X.A (letTemporaryGo value (.ref a) r >>= fun _ => pure r) (EP X pins σ Q) X.xe s₃) X.xe s := by
    rw [hs]
    exact wpAny_operating (wpAny_mono h₂ (fun r s₃ h₃ => wpAny_bind (wpAny_letTemporaryGo (wpAny_pure h₃))) fun _ _ x => x)
  first
    | exact wpAny_pure (wpAny_bind fin)
    | exact wpAny_bind (wpAny_pure (wpAny_bind fin))
    | exact wpAny_bind fin
/-- x[y] -/
def uIx : R2 := fun x y H Q => match x with
  | .ref p => (match H p with
    | some (.lst xs) => (match y with
      | .int i => ∃ v, atI xs i = some v ∧ Q v H
      | _ => False)
    | some (.tup xs) => (match y with
      | .int i => ∃ v, atI xs i = some v ∧ Q v H
      | _ => False)
    | some (.frz _ (.tup xs)) => (match y with
      | .int i => ∃ v, atI xs i = some v ∧ Q v H
      | _ => False)
    | some (.dK kvs) => (match keyV y with
      | some k => ∃ v, valV kvs k = some v ∧ Q v H
      | none => False)
    | some (.dT kvs) => (match y with
      | .ref t => (match H t with
        | some (.tup xs) => (match keysV xs with
          | some k => ∃ v, valV kvs k = some v ∧ Q v H
          | none => False)
        | _ => False)
      | _ => False)
    | _ => False)
  | .str z => (match y with
    | .int i => z.length ≤ sizeLine ∧ ∃ c, atI z.cps.toList i = some c ∧ Q (.str ⟨#[c]⟩) H
    | _ => False)
  | _ => False
theorem u_ix (hu : X.A.units + 1 < cLine) : IxR X uIx := by
  intro value slice pins s σ H x y v u Q I rx ry h hs
  unfold uIx at h
  split at h
  · rename_i p
    split at h
    · rename_i xs e
      split at h
      · obtain ⟨w', e1, q⟩ := h
        exact ix_list value slice pins s σ H _ _ v u Q I rx ry ⟨_, _, _, _, rfl, rfl, SqL.of e, e1, q⟩ hs
      · exact h.elim
    · rename_i xs e
      split at h
      · obtain ⟨w', e1, q⟩ := h
        exact ix_tup value slice pins s σ H _ _ v u Q I rx ry ⟨_, _, _, _, rfl, rfl, SqT.of e, e1, q⟩ hs
      · exact h.elim
    · rename_i xs e
      split at h
      · obtain ⟨w', e1, q⟩ := h
        exact ix_tup value slice pins s σ H _ _ v u Q I rx ry ⟨_, _, _, _, rfl, rfl, .inl (.inr ⟨_, e⟩), e1, q⟩ hs
      · exact h.elim
    · rename_i kvs e
      split at h
      · rename_i k ek
        have ex := keyV_is ek
        subst ex
        obtain ⟨w', e1, q⟩ := h
        exact ix_dict hu value slice pins s σ H _ _ v u Q I rx ry ⟨_, _, rfl, e1 ▸ DGet.k e, q⟩ hs
      · exact h.elim
    · rename_i kvs e
      split at h
      · rename_i t
        split at h
        · rename_i xs et
          split at h
          · rename_i k ek
            have ex := keysV_is ek
            subst ex
            obtain ⟨w', e1, q⟩ := h
            exact ix_dict hu value slice pins s σ H _ _ v u Q I rx ry ⟨_, _, rfl, e1 ▸ DGet.t e et, q⟩ hs
          · exact h.elim
        · exact h.elim
      · exact h.elim
    · exact h.elim
  · split at h
    · obtain ⟨hz, w', e1, q⟩ := h
      exact ix_str value slice pins s σ H _ _ v u Q I rx ry ⟨_, _, _, rfl, rfl, hz, e1, q⟩ hs
    · exact h.elim
  · exact h.elim
/-- x[lo:hi] -/
def uSl : V → Option Int → Option Int → Hp → VK → Prop := fun x lo hi H Q => match x with
  | .ref p => (match H p with
    | some (.lst xs) => NewL (cutV xs lo hi) H Q
    | some (.tup xs) => NewT (cutV xs lo hi) H Q
    | _ => False)
  | .str z => z.length ≤ sizeLine ∧ Q (.str (cutS z lo hi)) H
  | _ => False
theorem cut_all {xs : List V} {lo hi : Option Int} (h : HT.sIx xs.length 0 lo = 0 ∧ HT.sIx xs.length xs.length hi = xs.length) : cutV xs lo hi = xs := by
  unfold cutV
  rw [h.1, h.2]
  simp
theorem u_sl : SlR X uSl := by
  intro pins s σ H x v lo' hi' lo hi sl Q I rx hs pl ph h
  unfold uSl at h
  split at h
  · split at h
    · rename_i xs e
      exact sl_list pins s σ H _ v lo' hi' lo hi sl Q I rx hs pl ph ⟨_, _, rfl, SqL.of e, al_lst h⟩
    · rename_i xs e
      refine sl_tupA pins s σ H _ v lo' hi' lo hi sl Q I rx hs pl ph ⟨_, _, rfl, SqT.of e, fun z => ?_, fun _ => al_tup h⟩
      rw [cut_all z] at h
      exact h _ H (Same.refl H) e
    · exact h.elim
  · exact sl_str pins s σ H _ v lo' hi' lo hi sl Q I rx hs pl ph ⟨_, rfl, h⟩
  · exact h.elim
/-- len -/
def lenV (H : Hp) : V → Option Nat
  | .ref p => (match H p with
    | some (.lst xs) => some xs.length
    | some (.tup xs) => some xs.length
    | some (.frz _ (.tup xs)) => some xs.length
    | some (.dK kvs) => some kvs.length
    | some (.dT kvs) => some kvs.length
    | _ => none)
  | _ => none
def uLen : List V → Hp → VK → Prop := fun xs H Q => match xs with
  | [.str z] => z.length ≤ sizeLine ∧ Q (.int z.length) H
  | [x] => ∃ n, lenV H x = some n ∧ Q (.int (n : Nat)) H
  | _ => False
theorem u_len : CallR X (.builtin "len") uLen := by
  intro pins s σ H xs us Q I rx h
  unfold uLen at h
  split at h
  · exact call_len_str pins s σ H _ us Q I rx ⟨_, rfl, h⟩
  · obtain ⟨n, e, q⟩ := h
    unfold lenV at e
    split at e
    · split at e
      · cases e
        exact call_len_seq pins s σ H _ us Q I rx ⟨_, _, rfl, .inl (SqL.of (by assumption)), q⟩
      · cases e
        exact call_len_seq pins s σ H _ us Q I rx ⟨_, _, rfl, .inr (SqT.of (by assumption)), q⟩
      · cases e
        exact call_len_seq pins s σ H _ us Q I rx ⟨_, _, rfl, .inr (.inl (.inr ⟨_, by assumption⟩)), q⟩
      · cases e
        exact call_lenD pins s σ H _ us Q I rx ⟨_, _, rfl, by assumption, q⟩
      · cases e
        exact call_len_dT pins s σ H _ us Q I rx ⟨_, _, rfl, by assumption, q⟩
      · cases e
    · cases e
  · exact h.elim
/-- isinstance(x, T), T a built-in type -/
def isaV (H : Hp) : V → String → Option Bool
  | .int _, T => some (T == "int")
  | .bl _, T => some (T == "bool" || T == "int")
  | .str _, T => some (T == "str")
  | .non, _ => some false
  | .ref p, T => (match H p with
    | some (.lst _) => some (T == "list")
    | some (.tup _) => some (T == "tuple")
    | some (.frz _ (.tup _)) => some (T == "tuple")
    | some (.dK _) => some (T == "dict")
    | some (.dT _) => some (T == "dict")
    | _ => none)
  | _, _ => none
def okTy : List String := ["int", "bool", "str", "list", "tuple"]
theorem isa_ok {K : PySem.W.Frag} {H : Hp} {x : V} {T : String} {b : Bool} (hT : T ∈ okTy) (h : isaV H x T = some b) : ∃ t, TyX K H x t ∧ PySem.W.kitOne K t (.type T) = some b := by
  have key : ∀ (S : String) (c : Bool), (∀ T ∈ okTy, kitB S T = some (T == S || (S == "bool" && T == "int"))) → c = (T == S || (S == "bool" && T == "int")) → PySem.W.kitOne K (.type S) (.type T) = some c := fun S c hk hc => by
    rw [hc]
    exact kit_ty (hk T hT)
  unfold isaV at h
  split at h
  · cases h
    exact ⟨_, .base (.int _), key "int" _ (by decide +kernel) (by simp)⟩
  · cases h
    exact ⟨_, .base (.bl _), key "bool" _ (by decide +kernel) (by simp)⟩
  · cases h
    exact ⟨_, .base (.str _), key "str" _ (by decide +kernel) (by simp)⟩
  · cases h
    exact ⟨_, .base .non, kit_ty ((by decide +kernel : ∀ T ∈ okTy, kitB "NoneType" T = some false) T hT)⟩
  · split at h
    · cases h
      exact ⟨_, .base (.lst (by assumption)), key "list" _ (by decide +kernel) (by simp)⟩
    · cases h
      exact ⟨_, .base (.tup (by assumption)), key "tuple" _ (by decide +kernel) (by simp)⟩
    · cases h
      exact ⟨_, .fTuple (by assumption), key "tuple" _ (by decide +kernel) (by simp)⟩
    · cases h
      exact ⟨_, .base (.dK (by assumption)), key "dict" _ (by decide +kernel) (by simp)⟩
    · cases h
      exact ⟨_, .base (.dT (by assumption)), key "dict" _ (by decide +kernel) (by simp)⟩
    · cases h
  · cases h
def uIsi : List V → Hp → VK → Prop := fun xs H Q => match xs with
  | [x, .ty T] => T ∈ okTy ∧ ∃ b, isaV H x T = some b ∧ Q (.bl b) H
  | _ => False
theorem u_isi : CallR X (.builtin "isinstance") uIsi := callR_imp call_isi fun xs H Q h => by
  unfold uIsi at h
  split at h
  · obtain ⟨hT, b, e, q⟩ := h
    obtain ⟨t, h1, h2⟩ := isa_ok (K := X.K) hT e
    exact ⟨_, _, _, _, _, rfl, .ty _, h1, h2, q⟩
  · exact h.elim
/-! ### targets -/
def uNil : TGs := fun vs σ H Q => match vs with
  | [] => Q σ H
  | _ => False
def uCons (t : TG) (u : TGs) : TGs := fun vs σ H Q => match vs with
  | v :: r => t v σ H fun σ' H' => u r σ' H' Q
  | [] => False
theorem ugs_nil : PGs X [] uNil := ⟨fun pins s σ H vs us Q I r h => pgs_nil.run pins s σ H vs us Q I r (by
  unfold uNil at h
  split at h
  · exact ⟨rfl, h⟩
  · exact h.elim)⟩
theorem ugs_cons {e : Expr} {es : List Expr} {t : TG} {u : TGs} (h1 : PG X e t) (h2 : PGs X es u)
    (hs : (assignEach (e :: es) X.env).map (·.2) = assign e X.env :: (assignEach es X.env).map (·.2) := by rfl) : PGs X (e :: es) (uCons t u) := ⟨fun pins s σ H vs us Q I r h => (pgs_cons h1 h2 hs).run pins s σ H vs us Q I r (by
  unfold uCons at h
  split at h
  · exact ⟨_, _, rfl, h⟩
  · exact h.elim)⟩
def uTup (n : Nat) (t : TGs) : TG := fun v σ H Q => match v with
  | .ref a => (match H a with
    | some (.tup xs) => xs.length = n ∧ t xs σ H Q
    | _ => False)
  | _ => False
theorem ug_tup {es : List Expr} {k : Nat} {t : TGs} {n : Nat} {pos : Pos} (hc : X.calm = true) (h : PGs X es t)
    (hn : (assignEach es X.env).length = n := by rfl) (hst : (assignEach es X.env).findIdx? (·.1) = none := by rfl) : PG X (.Tuple es k pos) (uTup n t) := pg_imp (pg_tup hc h hn hst) fun v σ H Q h => by
  unfold uTup at h
  split at h
  · split at h
    · exact ⟨_, _, rfl, SqT.of (by assumption), h⟩
    · exact h.elim
  · exact h.elim
/-- o[i] = v: a list, a dict -/
def uSet : V → V → V → Hp → (Hp → Prop) → Prop := fun o i v H Q => match o with
  | .ref p => (match H p with
    | some (.lst xs) => (match i with
      | .int k => ∃ j, ixN xs.length k = some j ∧ Q (upd H p (.lst (xs.set j v)))
      | _ => False)
    | some (.dK kvs) => (match keyV i with
      | some k => kvs.length < sizeLine ∧ Q (upd H p (.dK (putK kvs k v)))
      | none => False)
    | some (.dT kvs) => (match i with
      | .ref t => (match H t with
        | some (.tup xs) => (match keysV xs with
          | some k => kvs.length < sizeLine ∧ Q (upd H p (.dT (putK kvs k v)))
          | none => False)
        | _ => False)
      | _ => False)
    | _ => False)
  | _ => False
theorem u_set (hu : X.A.units + 1 < cLine) : PSet X uSet := fun pins s σ H o i v ov iv u Q I r1 r2 r3 h => by
  unfold uSet at h
  split at h
  · rename_i p
    split at h
    · rename_i xs e
      split at h
      · obtain ⟨j, e1, q⟩ := h
        exact set_list pins s σ H _ _ v ov iv u Q I r1 r2 r3 ⟨_, _, _, _, rfl, rfl, e, e1, q⟩
      · exact h.elim
    · rename_i kvs e
      split at h
      · rename_i k ek
        have ex := keyV_is ek
        subst ex
        exact set_dict hu pins s σ H _ _ v ov iv u Q I r1 r2 r3 ⟨_, _, rfl, DPut.k e h.1, h.2⟩
      · exact h.elim
    · rename_i kvs e
      split at h
      · split at h
        · rename_i xs et
          split at h
          · rename_i k ek
            have ex := keysV_is ek
            subst ex
            exact set_dict hu pins s σ H _ _ v ov iv u Q I r1 r2 r3 ⟨_, _, rfl, DPut.t e et h.1, h.2⟩
          · exact h.elim
        · exact h.elim
      · exact h.elim
    · exact h.elim
  · exact h.elim
end
/-- a reading that asks less of what follows -/
def MonoE (t : TE) : Prop := ∀ σ H Q Q', (∀ v H', Q v H' → Q' v H') → t σ H Q → t σ H Q'
end Cv
end
section
namespace Cv
open PySem L2
open PySem.Spec PyProof.Rows
section
variable {X : Cx}
/-! ### displays -/
def uTupD (t : TA) : TE := fun σ H Q => t σ H fun xs H1 => xs.length ≤ 1000 ∧ NewT xs H1 Q
def uLstD (t : TA) : TE := fun σ H Q => t σ H fun xs H1 => xs.length ≤ 1000 ∧ NewL xs H1 Q
theorem sz1000 {n : Nat} (h : n ≤ 1000) : n ≤ sizeLine := Nat.le_trans h (by rw [sizeLine_eq]; decide)
theorem ue_tup {x1} {es : List Expr} {t : TA} {pos : Pos} (h : PA X es t) : PE X (.Tuple es x1 pos) (uTupD t) := by
  refine ⟨fun pins s σ H Q I hq => ?_⟩
  refine wpAny_Tuple_spliced (thn (h.run pos pins s σ H _ I hq) fun us s1 ⟨xs, H1, I1, r, z, q⟩ => ⟨by rw [← r.length]; exact sz1000 z, ?_⟩)
  have hf : H1 s1.heap.objs.size = none := I1.hok.fresh (Nat.le_refl _)
  refine ⟨.ref s1.heap.objs.size, upd H1 s1.heap.objs.size (.tup xs), I1.laid (t' := s1.toks) (fun b u e => Heap.get?_push_of_some _ e) (Nat.le_refl _) ?_, rfl, al_tup q _ hf⟩
  exact ⟨sz1000 z, us, r, ⟨_, Heap.get?_push_size _ rfl, rfl, _, rfl⟩⟩
theorem ue_lst {es : List Expr} {t : TA} {pos : Pos} (h : PA X es t) : PE X (.List es pos) (uLstD t) := by
  refine ⟨fun pins s σ H Q I hq => ?_⟩
  refine wpAny_List_spliced (thn (h.run pos pins s σ H _ I hq) fun us s1 ⟨xs, H1, I1, r, z, q⟩ => ⟨by rw [← r.length]; exact sz1000 z, ?_⟩)
  have hf : H1 s1.heap.objs.size = none := I1.hok.fresh (Nat.le_refl _)
  refine ⟨.ref s1.heap.objs.size, upd H1 s1.heap.objs.size (.lst xs), I1.laid (t' := s1.toks) (fun b u e => Heap.get?_push_of_some _ e) (Nat.le_refl _) ?_, rfl, al_lst q _ hf⟩
  exact ⟨sz1000 z, us, 0, r, Heap.get?_push_size _ rfl⟩
abbrev NewDK (H : Hp) (Q : VK) : Prop := ∀ p H', Same H H' → H p = none → H' p = some (.dK []) → Q (.ref p) H'
abbrev NewDT (H : Hp) (Q : VK) : Prop := ∀ p H', Same H H' → H p = none → H' p = some (.dT []) → Q (.ref p) H'
def uDK : TE := fun _ H Q => NewDK H Q
def uDT : TE := fun _ H Q => NewDT H Q
theorem al_any {H : Hp} {o : HO} {Q : VK} (h : ∀ p H', Same H H' → H p = none → H' p = some o → Q (.ref p) H') : ∀ p, H p = none → Q (.ref p) (upd H p o) :=
  fun p hp => h p _ (fun b o e => by rw [upd_ne (ne_of_none e hp)]; exact e) hp upd_same
theorem ue_dK {pos : Pos} : PE X (.Dict [] [] pos) uDK := pe_imp pe_dnewK fun _ _ _ h => al_any h
theorem ue_dT {pos : Pos} : PE X (.Dict [] [] pos) uDT := pe_imp pe_dnewT fun _ _ _ h => al_any h
/-! ### built-ins -/
def uDivmod : List V → Hp → VK → Prop := fun xs H Q => match xs with
  | [.int i, .int j] => (0 < j ∧ j < 2 ^ 64) ∧ NewT [.int (i / j), .int (i % j)] H Q
  | _ => False
theorem log2_lt {j : Int} (h0 : 0 < j) (h : j < 2 ^ 64) : j.natAbs.log2 < 9000 := by
  have h1 : j.natAbs < 2 ^ 64 := by omega
  have h2 : j.natAbs.log2 < 64 := (Nat.log2_lt (by omega)).2 h1
  omega
theorem u_divmod : CallR X (.builtin "divmod") uDivmod := callR_imp call_divmodW fun xs H Q h => by
  unfold uDivmod at h
  split at h
  · exact ⟨_, _, rfl, ⟨h.1.1, PyProof.noPylong_of_log2 (log2_lt h.1.1 h.1.2)⟩, al_tup h.2⟩
  · exact h.elim
def uAll : List V → Hp → VK → Prop := fun xs H Q => match xs with
  | [.ref a] => (match H a with
    | some (.lst ys) => ∃ bs : List Bool, ys = bs.map V.bl ∧ Q (.bl (bs.all id)) H
    | _ => False)
  | _ => False
theorem u_all (hc : X.calm = true) : CallR X (.builtin "all") uAll := callR_imp (cr_all hc) fun xs H Q h => by
  unfold uAll at h
  split at h
  · split at h
    · obtain ⟨bs, rfl, q⟩ := h
      exact ⟨_, _, rfl, SqL.of (by assumption), q⟩
    · exact h.elim
  · exact h.elim
def uSum : List V → Hp → VK → Prop := fun xs H Q => match xs with
  | [.ref a] => (match H a with
    | some (.lst ys) => ∃ ns : List Int, ys = ns.map V.int ∧ Q (.int ns.sum) H
    | _ => False)
  | _ => False
theorem u_sum (hc : X.calm = true) : CallR X (.builtin "sum") uSum := callR_imp (cr_sum hc) fun xs H Q h => by
  unfold uSum at h
  split at h
  · split at h
    · obtain ⟨bs, rfl, q⟩ := h
      exact ⟨_, _, rfl, SqL.of (by assumption), q⟩
    · exact h.elim
  · exact h.elim
/-- list(x) -/
def uList : List V → Hp → VK → Prop := fun xs H Q => match xs with
  | [.ref a] => (match H a with
    | some (.lst ys) => NewL ys H Q
    | some (.tup ys) => NewL ys H Q
    | some (.frz _ (.tup ys)) => NewL ys H Q
    | _ => False)
  | _ => False
theorem u_list : CallR X (.type "list") uList := callR_imp call_list_of fun xs H Q h => by
  unfold uList at h
  split at h
  · split at h
    · exact ⟨_, _, rfl, .inl (SqL.of (by assumption)), al_lst h⟩
    · exact ⟨_, _, rfl, .inr (SqT.of (by assumption)), al_lst h⟩
    · exact ⟨_, _, rfl, .inr (.inl (.inr ⟨_, by assumption⟩)), al_lst h⟩
    · exact h.elim
  · exact h.elim
/-- tuple(x) -/
def uTuple : List V → Hp → VK → Prop := fun xs H Q => match xs with
  | [.ref a] => (match H a with
    | some (.lst ys) => NewT ys H Q
    | some (.tup ys) => Q (.ref a) H
    | some (.frz _ (.tup ys)) => Q (.ref a) H
    | _ => False)
  | _ => False
theorem u_tuple : CallR X (.type "tuple") uTuple := callR_imp call_tuple_of fun xs H Q h => by
  unfold uTuple at h
  split at h
  · split at h
    · exact ⟨_, _, rfl, .inl ⟨SqL.of (by assumption), al_tup h⟩⟩
    · exact ⟨_, _, rfl, .inr ⟨SqT.of (by assumption), h⟩⟩
    · exact ⟨_, _, rfl, .inr ⟨.inl (.inr ⟨_, by assumption⟩), h⟩⟩
    · exact h.elim
  · exact h.elim
/-- tuple(list), the new tuple known to have no attributes -/
def FT (H : Hp) (a : Addr) (xs : List V) : Prop := ∃ o : Obj, o.dict = none ∧ H a = some (.frz o (.tup xs))
def uTupleF : List V → Hp → VK → Prop := fun xs H Q => match xs with
  | [.ref a] => (match H a with
    | some (.lst ys) => ∀ p H', Same H H' → FT H' p ys → Q (.ref p) H'
    | _ => False)
  | _ => False
theorem u_tupleF : CallR X (.type "tuple") uTupleF := by
  intro pins s σ H xs us Q I r h
  unfold uTupleF at h
  split at h
  · rename_i p
    split at h
    · rename_i ys e
      obtain ⟨u, rfl, rx⟩ := vals1 r
      cases rx
      obtain ⟨its, r', pl, hz⟩ := I.list (SqL.of e)
      have hlen := r'.length
      refine call_tuple_list pl.isList (fun h' kp => ?_) (by simp only [List.size_toArray] <;> omega)
      have I1 : Inv X pins σ H { s with heap := h' } := I.kept (t' := s.toks) kp
      have I2 : Inv X pins σ (upd H h'.objs.size (.frz { cls := .type "tuple", data := .seq its.toArray } (.tup ys))) { s with heap := h'.push { cls := .type "tuple", data := .seq its.toArray } } :=
        I1.laid (t' := s.toks) (fun b o e => Heap.get?_push_of_some _ e) (Nat.le_refl _) (show ObjOk X.prog X.w _ _ _ (.frz _ (.tup ys)) from ⟨Heap.get?_push_size _ rfl, hz, its, r', IsTup.new _ _⟩)
      have hn := I1.hok.fresh (Nat.le_refl _)
      refine ⟨.ref h'.objs.size, _, I2, rfl, h _ _ (fun b o e => ?_) ⟨_, rfl, upd_same⟩⟩
      rw [upd_ne (ne_of_none e hn)]
      exact e
    · exact h.elim
  · exact h.elim
/-! ### methods -/
def tyU (T : String) (x : V) (H : Hp) : Prop := match x with
  | .str _ => T = "str"
  | .ref p => (match H p with
    | some (.lst _) => T = "list"
    | some (.frz o (.tup _)) => T = "tuple" ∧ o.dict = none
    | some (.dK _) => T = "dict"
    | some (.dT _) => T = "dict"
    | _ => False)
  | _ => False
theorem tyU_is {pins : List (Addr × Obj)} {σ : L2.St} {H : Hp} {s : Shared} {T : String} {x : V} {v : Value} (I : Inv X pins σ H s) (r : RelV x v) (ty : tyU T x H) :
    s.TypeIs v T ∧ ∀ a, v = .ref a → ∃ ob, s.heap.get? a = some ob ∧ ob.dict = none := by
  unfold tyU at ty
  split at ty
  · subst ty
    exact tyV_is I r rfl
  · rename_i p
    split at ty
    · subst ty
      exact tyV_is I r (.inl ⟨rfl, _, SqL.of (by assumption)⟩)
    · rename_i o xs e
      obtain ⟨rfl, hd⟩ := ty
      cases r
      obtain ⟨h1, h2⟩ := I.hok p _ e
      obtain ⟨_, its, rv, ob, h3, h4, _⟩ := h2
      rw [h1] at h3
      cases h3
      exact ⟨⟨o, h1, h4⟩, fun a q => by cases q; exact ⟨o, h1, hd⟩⟩
    · subst ty
      exact tyV_is I r (.inr (.inr (.inl ⟨rfl, .inl ⟨_, by assumption⟩⟩)))
    · subst ty
      exact tyV_is I r (.inr (.inr (.inl ⟨rfl, .inr ⟨_, by assumption⟩⟩)))
    · exact ty.elim
  · exact ty.elim
def uBM0 (T : String) (r : V → List V → Hp → VK → Prop) (to : TE) : TE := fun σ H Q => to σ H fun x H1 => tyU T x H1 ∧ r x [] H1 Q
def uBM (T : String) (r : V → List V → Hp → VK → Prop) (to : TE) (t : TA) : TE := fun σ H Q => to σ H fun x H1 => tyU T x H1 ∧ t σ H1 fun xs H2 => r x xs H2 Q
variable {o e : Expr} {es : List Expr} {to : TE} {t : TA} {name : Str} {apos cpos : Pos} {T id : String} {r : V → List V → Hp → VK → Prop}
theorem ue_bm0 (pa : PlainAttrs T) (slot : Slot T name id) (hty : typeOf (.builtin id) = pure (.type "method_descriptor")) (hm : MtR X id r) (ho : PE X o to)
    (hbase : attributeBase o name X.env (eval o X.env) = eval o X.env := by rfl) (hline : (apos.endLine == cpos.line) = true := by rfl) : PE X (.Call (.Attribute o name apos) [] [] cpos) (uBM0 T r to) := by
  refine ⟨fun pins s σ H Q I h => ?_⟩
  refine wpAny_Call_method0_late hbase hline (thn (ho.run pins s σ H _ I h) fun v s1 ⟨x, H1, I1, r1, ty, q1⟩ => ?_)
  obtain ⟨h1, h2⟩ := tyU_is I1 r1 ty
  exact ⟨T, id, pa, slot, hty, h1, h2, Calls.callWith_builtin rfl (PySem.evalArgs_none (hm pins s1 σ H1 x [] v [] Q I1 r1 .nil q1))⟩
theorem ue_bm (pa : PlainAttrs T) (slot : Slot T name id) (hty : typeOf (.builtin id) = pure (.type "method_descriptor")) (hm : MtR X id r) (ho : PE X o to) (ha : PA X (e :: es) t)
    (hbase : attributeBase o name X.env (eval o X.env) = eval o X.env := by rfl)
    (hfew : ((backTo cpos (starEach (e :: es) X.env)).all (fun x => !x.1) && (backToKw cpos (keywordEach [] X.env)).all (fun x => x.1.isSome)
      && decide ((e :: es).length + ([] : List Keyword).length + (if ([] : List Keyword).isEmpty then 0 else 1) < 30)) = true := by rfl)
    (hline : (apos.endLine == cpos.line) = true := by rfl) (hs : starEach (e :: es) X.env = (false, eval e X.env) :: starEach es X.env := by rfl) (hplain : (backTo cpos (starEach es X.env)).any (·.1) = false := by rfl) :
    PE X (.Call (.Attribute o name apos) (e :: es) [] cpos) (uBM T r to t) := by
  refine ⟨fun pins s σ H Q I h => ?_⟩
  refine wpAny_Call_method_late hbase hfew hline rfl (thn (ho.run pins s σ H _ I h) fun v s1 ⟨x, H1, I1, r1, ty, q1⟩ => ?_)
  obtain ⟨h1, h2⟩ := tyU_is I1 r1 ty
  refine ⟨T, id, pa, slot, hty, h1, h2, ?_⟩
  have hA := ha.run cpos pins s1 σ H1 _ I1 q1
  rw [hs] at hA ⊢
  refine Calls.callWith_builtin (by show (false || (backTo cpos (starEach es X.env)).any (·.1)) = false; rw [hplain] <;> rfl) (Calls.evalArgs_plain ?_)
  exact thn hA fun us s2 ⟨vs, H2, I2, r2, q2⟩ => hm pins s2 σ H2 x vs v us Q I2 r1 r2 q2
theorem mtR_imp {r r' : V → List V → Hp → VK → Prop} (h : MtR X id r) (k : ∀ x xs H Q, r' x xs H Q → r x xs H Q) : MtR X id r' := fun pins s σ H x xs v us Q I rx rs q => h pins s σ H x xs v us Q I rx rs (k _ _ _ _ q)
def uAppend : V → List V → Hp → VK → Prop := fun x vs H Q => match x, vs with
  | .ref l, [y] => (match H l with
    | some (.lst xs) => xs.length < sizeLine ∧ Q .non (upd H l (.lst (xs ++ [y])))
    | _ => False)
  | _, _ => False
theorem u_append : MtR X "list.append" uAppend := mtR_imp mt_append fun x xs H Q h => by
  unfold uAppend at h
  split at h
  · split at h
    · exact ⟨_, _, _, rfl, rfl, by assumption, h.1, h.2⟩
    · exact h.elim
  · exact h.elim
def uExtend : V → List V → Hp → VK → Prop := fun x vs H Q => match x, vs with
  | .ref l, [.ref b] => (match H l, H b with
    | some (.lst xs), some (.lst ys) => xs.length + ys.length ≤ sizeLine ∧ Q .non (upd H l (.lst (xs ++ ys)))
    | _, _ => False)
  | _, _ => False
theorem u_extend : MtR X "list.extend" uExtend := mtR_imp mt_extend fun x xs H Q h => by
  unfold uExtend at h
  split at h
  · split at h
    · exact ⟨_, _, _, _, rfl, rfl, by assumption, by assumption, h.1, h.2⟩
    · exact h.elim
  · exact h.elim
/-- xs.pop(i), i a place -/
def uPopAt : V → List V → Hp → VK → Prop := fun x vs H Q => match x, vs with
  | .ref l, [.int i] => (match H l with
    | some (.lst xs) => ∃ (k : Nat) (y : V), i = (k : Int) ∧ xs[k]? = some y ∧ Q y (upd H l (.lst (xs.eraseIdx k)))
    | _ => False)
  | _, _ => False
theorem seqIndex_nat {k n : Nat} (h : k < n) : seqIndex? (k : Int) n = some k := by
  unfold seqIndex?
  have h1 : ¬ ((k : Int) < 0) := by omega
  simp [h1, h]
theorem u_popAt : MtR X "list.pop" uPopAt := by
  intro pins s σ H x xs v us Q I rx rs h
  unfold uPopAt at h
  split at h
  · split at h
    · rename_i ys e
      obtain ⟨k, y, rfl, hy, q⟩ := h
      have hk : k < ys.length := (List.getElem?_eq_some_iff.mp hy).1
      have hz := (I.lstM e).1
      have hl := line63
      exact mt_popAt pins s σ H _ _ v us Q I rx rs ⟨_, _, _, _, _, rfl, rfl, e, by omega, by omega, seqIndex_nat hk, hy, q⟩
    · exact h.elim
  · exact h.elim
/-- list.index of flat things; list.count -/
def uLIndex : V → List V → Hp → VK → Prop := fun x vs H Q => match x, vs with
  | .ref l, [y] => (match H l with
    | some (.lst xs) => (flatV y = true ∧ xs.all flatV = true) ∧ ∃ j z, (xs[j]? = some z ∧ eqV z y = true ∧ ∀ (m : Nat) (z' : V), m < j → xs[m]? = some z' → eqV z' y = false) ∧ Q (.int (j : Nat)) H
    | _ => False)
  | _, _ => False
theorem u_lindex : MtR X "list.index" uLIndex := mtR_imp mt_index fun x xs H Q h => by
  unfold uLIndex at h
  split at h
  · split at h
    · obtain ⟨⟨h1, h2⟩, j, z, ⟨h3, h4, h5⟩, q⟩ := h
      exact ⟨_, _, _, j, z, rfl, rfl, SqL.of (by assumption), h1, h2, h3, h4, h5, q⟩
    · exact h.elim
  · exact h.elim
theorem count_eqU {x : V} : ∀ {xs : List V} {us : List Value}, Vals xs us → xs.all flatV = true → us.countP (eqU x) = xs.countP fun y => eqV y x
  | _, _, .nil, _ => rfl
  | y :: xs, u :: us, .cons r t, f => by
    rw [List.all_cons, Bool.and_eq_true] at f
    rw [List.countP_cons, List.countP_cons, eqU_of r f.1, count_eqU t f.2]
def uLCount : V → List V → Hp → VK → Prop := fun x vs H Q => match x, vs with
  | .ref l, [y] => (match H l with
    | some (.lst xs) => (flatV y = true ∧ xs.all flatV = true) ∧ Q (.int (xs.countP (fun z => eqV z y) : Nat)) H
    | _ => False)
  | _, _ => False
theorem u_lcount : MtR X "list.count" uLCount := by
  intro pins s σ H x xs v us Q I rx rxs h
  unfold uLCount at h
  split at h
  · rename_i p y
    split at h
    · rename_i ys e
      obtain ⟨⟨fy, fys⟩, q⟩ := h
      cases rx
      obtain ⟨u, rfl, ru⟩ := rxs.one
      obtain ⟨its, rv, ⟨⟨cls, dd, data, sl⟩, n, ho, hc, hdn, hd⟩, hlen⟩ := I.list (SqL.of e)
      simp only at hc hd
      subst hc hd
      refine call_meets PySem.F.slot_list_count ⟨_, ho, rfl⟩ PySem.F.entry_list_count (PySem.F.args_list_count_2 _ _)
        (SeqAt.list_countAt p its.toArray n dd sl u (eqU y)) ⟨ho, fun z hz => mem_eqAt ru fy rv fys z (by simpa using hz), ?_⟩
      have ec : its.toArray.toList.countP (eqU y) = ys.countP (fun z => eqV z y) := count_eqU rv fys
      refine ⟨.int (ys.countP (fun z => eqV z y) : Nat), H, I.tok _, ⟨s.toks, ?_⟩, q⟩
      show Value.int ((its.toArray.toList.countP (eqU y) : Nat) : Int) s.toks = Value.int ((ys.countP (fun z => eqV z y) : Nat) : Int) s.toks
      rw [ec]
    · exact h.elim
  · exact h.elim
/-- tuple.index of a whole number that is there -/
def uTIndex : V → List V → Hp → VK → Prop := fun x vs H Q => match x, vs with
  | .ref p, [.int k] => (match H p with
    | some (.frz _ (.tup xs)) => ∃ ns : List Int, xs = ns.map V.int ∧ k ∈ ns ∧ Q (.int (ns.idxOf k : Nat)) H
    | _ => False)
  | _, _ => False
theorem u_tindex : MtR X "tuple.index" uTIndex := by
  intro pins s σ H x xs v us Q I rx rxs h
  unfold uTIndex at h
  split at h
  · rename_i p k
    split at h
    · rename_i ys e
      obtain ⟨ns, rfl, hk, q⟩ := h
      cases rx
      obtain ⟨u, rfl, ru⟩ := rxs.one
      obtain ⟨t, rfl⟩ := ru
      obtain ⟨its, rv, pl, hz⟩ := I.tuple (.inl (.inr ⟨_, e⟩))
      exact PySem.SeqAt.tuple_index_ints pl (ints_of_vals rv) hk ⟨.int (ns.idxOf k : Nat), H, I.tok _, ⟨_, rfl⟩, q⟩
    · exact h.elim
  · exact h.elim
end
end Cv
end
section
namespace Cv
open PySem L2
theorem atI_n {α : Type} {xs : List α} {k : Nat} : atI xs (k : Int) = xs[k]? := by
  unfold atI ixN
  by_cases h : k < xs.length
  · rw [if_pos (by omega), if_pos (by omega)]
    simp
  · rw [if_pos (by omega), if_neg (by omega), List.getElem?_eq_none (by omega)]
    rfl
theorem atI_0 {α : Type} {a : α} {l : List α} : atI (a :: l) (0 : Int) = some a := atI_n (k := 0)
theorem atI_1 {α : Type} {a b : α} {l : List α} : atI (a :: b :: l) (1 : Int) = some b := atI_n (k := 1)
theorem atI_2 {α : Type} {a b c : α} {l : List α} : atI (a :: b :: c :: l) (2 : Int) = some c := atI_n (k := 2)
theorem atI_3 {α : Type} {a b c d : α} {l : List α} : atI (a :: b :: c :: d :: l) (3 : Int) = some d := atI_n (k := 3)
theorem atI_4 {α : Type} {a b c d e : α} {l : List α} : atI (a :: b :: c :: d :: e :: l) (4 : Int) = some e := atI_n (k := 4)
theorem if_true_eq {A B : Prop} : (if true = true then A else B) = A := if_pos rfl
theorem if_false_eq {A B : Prop} : (if false = true then A else B) = B := if_neg Bool.false_ne_true
theorem isaV_int {H : Hp} {i : Int} {T : String} : isaV H (.int i) T = some (T == "int") := rfl
theorem isaV_bl {H : Hp} {b : Bool} {T : String} : isaV H (.bl b) T = some (T == "bool" || T == "int") := rfl
theorem isaV_str {H : Hp} {z : Str} {T : String} : isaV H (.str z) T = some (T == "str") := rfl
theorem isaV_non {H : Hp} {T : String} : isaV H .non T = some false := rfl
theorem isa_ref_int {H : Hp} {p : Addr} (k : (isaV H (.ref p) "int").isSome = true) : isaV H (.ref p) "int" = some false := by
  unfold isaV at k ⊢
  simp only at k ⊢
  split at k <;> simp_all
theorem ok_int : ("int" ∈ okTy) = True := by decide
theorem ok_bool : ("bool" ∈ okTy) = True := by decide
theorem ok_str : ("str" ∈ okTy) = True := by decide
theorem ok_list : ("list" ∈ okTy) = True := by decide
theorem ok_tuple : ("tuple" ∈ okTy) = True := by decide
end Cv
end
section
namespace Cv
open PySem L2
/-! ### comprehensions -/
def MonoG (g : TG) : Prop := ∀ v σ H (Q Q' : L2.St → Hp → Prop), (∀ σ' H', Q σ' H' → Q' σ' H') → g v σ H Q → g v σ H Q'
theorem mono_name {i : Nat} : MonoG (gName i) := fun _ _ _ _ _ k h => k _ _ h
def MonoGs (g : TGs) : Prop := ∀ v σ H (Q Q' : L2.St → Hp → Prop), (∀ σ' H', Q σ' H' → Q' σ' H') → g v σ H Q → g v σ H Q'
theorem mono_nil : MonoGs uNil := fun v σ H Q Q' k h => by
  unfold uNil at h ⊢
  split at h
  · exact k _ _ h
  · exact h.elim
theorem mono_cons {t : TG} {u : TGs} (ht : MonoG t) (hu : MonoGs u) : MonoGs (uCons t u) := fun v σ H Q Q' k h => by
  unfold uCons at h ⊢
  split at h
  · exact ht _ _ _ _ _ (fun σ' H' q => hu _ _ _ _ _ k q) h
  · exact h.elim
theorem mono_tup {n : Nat} {t : TGs} (ht : MonoGs t) : MonoG (uTup n t) := fun v σ H Q Q' k h => by
  unfold uTup at h ⊢
  split at h
  · split at h
    · exact ⟨h.1, ht _ _ _ _ _ k h.2⟩
    · exact h.elim
  · exact h.elim
theorem same_upd {H H' : Hp} {D : Addr} {o : HO} (e : Same H H') (h : H D = none) : Same H (upd H' D o) := fun b u hb => by
  rw [upd_ne (ne_of_none hb h)]
  exact e b u hb
theorem same_new {H : Hp} {D : Addr} {o : HO} (h : H D = none) : Same H (upd H D o) := same_upd (Same.refl H) h
/-- the values that the turns below n give -/
def vals (f : Nat → V) (keep : Nat → Bool) (n : Nat) : List V := ((List.range n).filter keep).map f
theorem vals_succ (f : Nat → V) (keep : Nat → Bool) (n : Nat) : vals f keep (n + 1) = if keep n = true then vals f keep n ++ [f n] else vals f keep n := by
  unfold vals
  rw [List.range_succ, List.filter_append, List.map_append]
  by_cases h : keep n = true <;> simp [h]
theorem vals_len (f : Nat → V) (keep : Nat → Bool) (n : Nat) : (vals f keep n).length ≤ n := by
  unfold vals
  rw [List.length_map]
  have h := List.length_filter_le keep (List.range n)
  rw [List.length_range] at h
  exact h
theorem vals_all (f : Nat → V) (n : Nat) : vals f (fun _ => true) n = (List.range n).map f := by
  unfold vals
  rw [List.filter_eq_self.mpr (fun _ _ => rfl)]
/-- a comprehension behind its iterable -/
def LcB (g : TG) (tt : TT) (te : TE) (vs : List Nat) (σ : L2.St) (Q : VK) (J : It) (H1 : Hp) : Prop := ∀ D, H1 D = none → ∃ W : Nat → Nat → Hp → Prop, (∃ m, W 0 m (upd H1 D (.lst []))) ∧ ∀ i m H, W i m H →
  (J.stop i H ∧ Q (.ref D) H) ∨ (J.go i H ∧ ∃ Nx : Hp → Prop, (∀ H', Nx H' → ∃ m', m' < m ∧ W (i + 1) m' H') ∧ ∀ x H', J.yld i H x H' → g x (wipe σ vs) H' fun σ2 H2 => wipe σ2 vs = wipe σ vs ∧ tt σ2 H2 fun b H3 =>
    if b = true then te σ2 H3 fun y H4 => ∃ acc, H4 D = some (.lst acc) ∧ acc.length < sizeLine ∧ Nx (upd H4 D (.lst (acc ++ [y]))) else Nx H3)
theorem tLc_eq {wi : TI} {g : TG} {tt : TT} {te : TE} {vs : List Nat} {σ : L2.St} {H : Hp} {Q : VK} : tLc wi g tt te vs σ H Q = wi σ H (LcB g tt te vs σ Q) := rfl
/-- a for behind its iterable -/
def ForB (g : TG) (tb : TS) (D : Ends) (σ : L2.St) (J : It) (H1 : Hp) : Prop := ∃ W : Nat → Nat → L2.St → Hp → Prop, (∃ m, W 0 m σ H1) ∧ ∀ i m σ H, W i m σ H →
  (J.stop i H ∧ D.nx σ H) ∨ (J.go i H ∧ ∃ N : L2.St → Hp → Prop, (∀ σ' H', N σ' H' → ∃ m', m' < m ∧ W (i + 1) m' σ' H') ∧ ∀ x H', J.yld i H x H' → g x σ H' fun σ2 H2 => tb { D with nx := N, ct := N, bk := D.nx } σ2 H2)
theorem tFor_eq {wi : TI} {g : TG} {tb : TS} {D : Ends} {σ : L2.St} {H : Hp} : tFor wi g tb D σ H = wi σ H (ForB g tb D σ) := rfl
/-- a for by what holds between the turns -/
theorem for_pv {J : It} {n : Nat} {G : Hp → Prop} {Y : Nat → Hp → V → Hp → Prop} {g : TG} {tb : TS} {D : Ends} {σ : L2.St} {H : Hp} (w : Walk J n G Y) (Pv : Nat → L2.St → Hp → Prop) (h0 : Pv 0 σ H) (hG : ∀ i σ H, i ≤ n → Pv i σ H → G H)
    (hs : ∀ i x σ H H', i < n → Pv i σ H → Y i H x H' → g x σ H' fun σ2 H2 => tb { D with nx := Pv (i + 1), ct := Pv (i + 1), bk := D.nx } σ2 H2) (hd : ∀ σ H, Pv n σ H → D.nx σ H) : ForB g tb D σ J H := for_it w Pv h0 hG hs hd
/-- a while by what holds between the turns and a number that falls -/
theorem while_pv {c : TT} {tb : TS} {D : Ends} {σ : L2.St} {H : Hp} (W : Nat → L2.St → Hp → Prop) (m0 : Nat) (h0 : W m0 σ H)
    (hs : ∀ m σ H, W m σ H → c σ H fun b H1 => if b = true then tb { D with nx := fun σ' H' => ∃ m', m' < m ∧ W m' σ' H', ct := fun σ' H' => ∃ m', m' < m ∧ W m' σ' H', bk := D.nx } σ H1 else D.nx σ H1) (hc : ∀ σ H (Q Q' : Bool → Hp → Prop), (∀ b H', Q b H' → Q' b H') → c σ H Q → c σ H Q') : tWhile c tb D σ H := by
  refine ⟨W, ⟨m0, h0⟩, fun m σ H hw => hc σ H _ _ (fun b H' q => ?_) (hs m σ H hw)⟩
  cases b with
  | true => exact ⟨_, fun _ _ n => n, q⟩
  | false => exact q
/-- a comprehension whose turns change nothing that stood: f i, where keep i -/
theorem lc_pure {g : TG} {tt : TT} {te : TE} {vs : List Nat} {σ : L2.St} {H1 : Hp} {Q : VK} {J : It} {n : Nat} {G : Hp → Prop} {Y : Nat → Hp → V → Hp → Prop} (hm : MonoG g)
    (w : Walk J n G Y) (hn : n ≤ 100000) (hG : ∀ H', Same H1 H' → G H') (f : Nat → V) (keep : Nat → Bool)
    (hs : ∀ i x H' H'', i < n → Same H1 H' → Y i H' x H'' → g x (wipe σ vs) H'' fun σ2 H2 => wipe σ2 vs = wipe σ vs ∧ Same H' H2 ∧
      (∀ QT : Bool → Hp → Prop, (∀ H3, Same H2 H3 → QT (keep i) H3) → tt σ2 H2 QT) ∧ (keep i = true → ∀ H3, Same H2 H3 → ∀ Q' : VK, (∀ H4, Same H3 H4 → Q' (f i) H4) → te σ2 H3 Q'))
    (hQ : ∀ p H', Same H1 H' → H1 p = none → H' p = some (.lst (vals f keep n)) → Q (.ref p) H') : LcB g tt te vs σ Q J H1 := by
  refine fun D hD => ?_
  refine lc_it w (fun i H' => Same H1 H' ∧ H' D = some (.lst (vals f keep i))) ⟨same_new hD, upd_same⟩ (fun i H' _ p => hG H' p.1) (fun i x H' H'' hi p y => ?_) (fun H' p => hQ D H' p.1 hD p.2)
  refine hm _ _ _ _ _ (fun σ2 H2 q => ?_) (hs i x H' H'' hi p.1 y)
  obtain ⟨q1, q2, q3, q4⟩ := q
  refine ⟨q1, q3 _ fun H3 e3 => ?_⟩
  have hl := vals_len f keep i
  have sl : (100000 : Nat) < sizeLine := by rw [sizeLine_eq]; decide
  by_cases hk : keep i = true
  · rw [hk, if_pos rfl]
    refine q4 hk H3 e3 _ fun H4 e4 => ⟨vals f keep i, e4 _ _ (e3 _ _ (q2 _ _ p.2)), by omega, ?_, ?_⟩
    · exact same_upd (p.1.trans (q2.trans (e3.trans e4))) hD
    · rw [vals_succ, if_pos hk]
      exact upd_same
  · rw [if_neg hk]
    refine ⟨p.1.trans (q2.trans e3), ?_⟩
    rw [vals_succ, if_neg hk]
    exact e3 _ _ (q2 _ _ p.2)
theorem walk_zipT {K : PySem.W.Frag} {a b : Addr} {xs ys : List V} {n : Nat} (hn : n = min xs.length ys.length) : Walk (RZ.ItzT K a b) n (fun H => SqT K H a xs ∧ SqT K H b ys) (YPair (fun i => xs[i]?) (fun i => ys[i]?)) := by
  subst hn
  refine ⟨fun i _ hi q => ?_, fun _ q => ⟨xs, ys, q.1, q.2, by omega⟩, fun i H v H' _ q y => ?_⟩
  · have h1 : i < xs.length := by omega
    have h2 : i < ys.length := by omega
    exact ⟨xs, ys, xs[i], ys[i], q.1, q.2, by simp [h1], by simp [h2]⟩
  · obtain ⟨T, x, z, h1, h2, h3, h4, h5⟩ := y
    exact ⟨T, x, z, h1, h2, h3, h4 xs q.1, h5 ys q.2⟩
end Cv
end
section
/-! plain: from yard to yard by ways -/
namespace Cv
open PySem L2
/-- a way between two of n yards -/
def WayOk (n : Nat) (x : List Int) : Prop := ∃ a b l f : Int, x = [a, b, l, f] ∧ 0 ≤ a ∧ a < b ∧ b < n ∧ 0 ≤ l ∧ l ≤ 5 ∧ 1 ≤ f ∧ f ≤ 99
/-- each yard but the first has a way from a lesser one -/
def Joined (n : Nat) (ws : List (List Int)) : Prop := ∀ k : Int, 1 ≤ k → k < n → ∃ x ∈ ws, ∃ a l f : Int, x = [a, k, l, f]
theorem inV_int (a : Int) (fs : List Int) : inV (.int a) (fs.map V.int) = decide (a ∈ fs) := by
  induction fs with
  | nil => rfl
  | cons x r ih =>
    unfold inV at ih ⊢
    rw [List.map_cons, List.any_cons, ih]
    by_cases h : a = x
    · subst h
      simp [eqV]
    · have h' : ¬ x = a := fun e => h e.symm
      simp [eqV, h, h']
theorem flat_ints (fs : List Int) : (fs.map V.int).all flatV = true := by
  simp [flatV]
/-- what a turn puts to the yards found -/
def ext (fs : List Int) (a b : Int) : List Int := fs ++ [a, b].filter fun y => !decide (y ∈ fs)
structure Fnd (n : Nat) (fs : List Int) : Prop where
  nd : fs.Nodup
  bd : ∀ x ∈ fs, 0 ≤ x ∧ x < n
theorem Fnd.len {n : Nat} {fs : List Int} (h : Fnd n fs) : fs.length ≤ n := by
  have h1 : (fs.map Int.toNat).Nodup := by
    rw [List.nodup_iff_pairwise_ne, List.pairwise_map]
    refine (List.nodup_iff_pairwise_ne.mp h.nd).imp_of_mem fun {x y} hx hy ne e => ne ?_
    have h1 := h.bd x hx
    have h2 := h.bd y hy
    omega
  have h2 : (fs.map Int.toNat).Subset (List.range n) := fun k hk => by
    obtain ⟨x, hx, rfl⟩ := List.mem_map.mp hk
    have := h.bd x hx
    exact List.mem_range.mpr (by omega)
  have h3 := List.Nodup.length_le_of_subset h1 h2
  simpa using h3
theorem Fnd.ext {n : Nat} {fs : List Int} {a b : Int} (h : Fnd n fs) (hab : a ≠ b) (ha : 0 ≤ a ∧ a < n) (hb : 0 ≤ b ∧ b < n) : Fnd n (ext fs a b) := by
  refine ⟨?_, fun x hx => ?_⟩
  · unfold Cv.ext
    rw [List.nodup_append]
    refine ⟨h.nd, ?_, fun x hx y hy e => ?_⟩
    · exact List.Pairwise.filter _ (show [a, b].Nodup by simp [hab])
    · subst e
      have := (List.mem_filter.mp hy).2
      simp [hx] at this
  · rcases List.mem_append.mp hx with hx | hx
    · exact h.bd x hx
    · have := (List.mem_filter.mp hx).1
      simp at this
      rcases this with rfl | rfl
      · exact ha
      · exact hb
theorem ext_has {fs : List Int} {a b : Int} : a ∈ ext fs a b ∧ b ∈ ext fs a b := by
  unfold ext
  constructor
  · by_cases h : a ∈ fs
    · exact List.mem_append.mpr (.inl h)
    · exact List.mem_append.mpr (.inr (List.mem_filter.mpr ⟨by simp, by simp [h]⟩))
  · by_cases h : b ∈ fs
    · exact List.mem_append.mpr (.inl h)
    · exact List.mem_append.mpr (.inr (List.mem_filter.mpr ⟨by simp, by simp [h]⟩))
/-- behind the search all yards are found -/
theorem all_found {n : Nat} {ws : List (List Int)} {fs : List Int} (hn : 1 ≤ n) (hw : ∀ x ∈ ws, WayOk n x) (hj : Joined n ws) (h : Fnd n fs) (h0 : (0 : Int) ∈ fs)
    (hc : ∀ x ∈ ws, ∀ a b l f : Int, x = [a, b, l, f] → a ∈ fs ∨ b ∈ fs → a ∈ fs ∧ b ∈ fs) : fs.length = n := by
  have key : ∀ k : Nat, k < n → (k : Int) ∈ fs := by
    intro k
    induction k using Nat.strongRecOn with
    | ind k ih =>
      intro hk
      by_cases hz : k = 0
      · subst hz
        exact h0
      · obtain ⟨x, hx, a, l, f, rfl⟩ := hj k (by omega) (by omega)
        obtain ⟨a', b', l', f', e, h1, h2, h3, _⟩ := hw _ hx
        cases e
        have ha : a ∈ fs := by
          have := ih a.toNat (by omega) (by omega)
          rwa [Int.toNat_of_nonneg h1] at this
        exact (hc _ hx _ _ _ _ rfl (.inl ha)).2
  have h1 : ((List.range n).map fun k : Nat => (k : Int)).Nodup := by
    rw [List.nodup_iff_pairwise_ne, List.pairwise_map]
    exact (List.nodup_iff_pairwise_ne.mp List.nodup_range).imp fun ne e => ne (by omega)
  have h2 : ((List.range n).map fun k : Nat => (k : Int)).Subset fs := fun x hx => by
    obtain ⟨k, hk, rfl⟩ := List.mem_map.mp hx
    exact key k (List.mem_range.mp hk)
  have h3 := List.Nodup.length_le_of_subset h1 h2
  have h4 := h.len
  simp at h3
  omega
end Cv
end
section
/-! sorted of data -/
namespace Cv
open PySem L2
open PySem.Spec PyProof.Rows
/-- the less of two data comes first -/
def leD (p q : V × PyData) : Bool := !PySem.W.dataLt q.2 p.2
theorem leD_eq : PySem.W.dataLe false (fun b : V × PyData => b.2) = leD := by
  rw [PySem.W.dataLe_eq]
  rfl
theorem each_vals {xs : List V} {its : List Value} (r : Vals xs its) : ∀ {bs : List (V × PyData)}, xs = bs.map (·.1) → PySem.W.EachIs (fun v b => RelV b.1 v) its bs := by
  induction r with
  | nil =>
    intro bs e
    cases bs with
    | nil => exact .nil
    | cons b bs => cases e
  | cons h t ih =>
    intro bs e
    cases bs with
    | nil => cases e
    | cons b bs =>
      rw [List.map_cons] at e
      injection e with e1 e2
      subst e1
      exact .cons h (ih e2)
theorem vals_each {bs : List (V × PyData)} {its : List Value} (e : PySem.W.EachIs (fun v b => RelV b.1 v) its bs) : Vals (bs.map (·.1)) its := by
  induction e with
  | nil => exact .nil
  | cons h t ih => exact .cons h ih
mutual
theorem reads_lt {h : Heap} : ∀ {v : Value} {d : PyData} {as : List Addr}, Reads h v d as → ∀ a ∈ as, a < h.objs.size
  | _, _, _, .none, a, ha => by cases ha
  | _, _, _, .bool _, a, ha => by cases ha
  | _, _, _, .int _ _, a, ha => by cases ha
  | _, _, _, .str _ _, a, ha => by cases ha
  | _, _, _, .list h1 _ _ r, a, ha => by
    rcases List.mem_cons.mp ha with rfl | ha
    · exact Heap.lt_size h1
    · exact readsAll_lt r a ha
  | _, _, _, .tuple _ _ _ r, a, ha => readsAll_lt r a ha
  | _, _, _, .dict h1 _ _ r1 r2, a, ha => by
    rcases List.mem_append.mp ha with ha | ha
    · rcases List.mem_cons.mp ha with rfl | ha
      · exact Heap.lt_size h1
      · exact readsAll_lt r1 a ha
    · exact readsAll_lt r2 a ha
theorem readsAll_lt {h : Heap} : ∀ {vs : List Value} {ds : List PyData} {as : List Addr}, ReadsAll h vs ds as → ∀ a ∈ as, a < h.objs.size
  | _, _, _, .nil, a, ha => by cases ha
  | _, _, _, .cons r1 r2, a, ha => by
    rcases List.mem_append.mp ha with ha | ha
    · exact reads_lt r1 a ha
    · exact readsAll_lt r2 a ha
end
section
variable {X : Cx}
/-- what is to be sorted: values, each with the data that it stands for -/
structure Sorts (K : PySem.W.Frag) (H : Hp) (bs : List (V × PyData)) : Prop where
  dp : ∀ b ∈ bs, Dp K H b.1 b.2
  al : PySem.W.AllAlike (bs.map (·.2))
  so : PySem.W.Sortable (bs.map (·.2))
  de : ∀ b ∈ bs, b.2.depth ≤ 20
theorem each_reads {pins : List (Addr × Obj)} {σ : L2.St} {H : Hp} {s : Shared} (I : Inv X pins σ H s) {its : List Value} {bs : List (V × PyData)} (e : PySem.W.EachIs (fun v b => RelV b.1 v) its bs) (hd : ∀ b ∈ bs, Dp X.K H b.1 b.2) : PySem.W.EachIs (fun v b => ∃ as, Reads s.heap v b.2 as) its bs := by
  induction e with
  | nil => exact .nil
  | cons h t ih => exact .cons (Dp.reads I _ _ _ (hd _ (by simp)) h) (ih fun b hb => hd b (by simp [hb]))
def uSortedL (K : PySem.W.Frag) : List V → Hp → VK → Prop := fun vs H Q => match vs with
  | [.ref a] => (match H a with
    | some (.lst xs) => ∃ bs : List (V × PyData), xs = bs.map (·.1) ∧ Sorts K H bs ∧ NewL ((bs.mergeSort leD).map (·.1)) H Q
    | _ => False)
  | _ => False
theorem u_sortedL (hu : X.A.units + 64 < cLine) : CallR X (.builtin "sorted") (uSortedL X.K) := by
  intro pins s σ H vs us Q I r h
  unfold uSortedL at h
  split at h
  · rename_i a
    split at h
    · rename_i xs ea
      obtain ⟨bs, ex, S, q⟩ := h
      obtain ⟨its, rv, hl, hz⟩ := I.list (SqL.of ea)
      rw [Vals.ref1 r]
      have e := each_vals rv ex
      have hlen : bs.length = xs.length := by rw [ex, List.length_map]
      refine PySem.W.sorted_data (R := fun v b => RelV b.1 v) (enc := fun b : V × PyData => b.2) hl.isList e (each_reads I e S.dp) S.al S.so (by omega) (fun b hb => by have := S.de b hb; omega) fun out ho h1 => ?_
      rw [leD_eq] at h1
      obtain ⟨ep, he'⟩ := PyProof.Rows.sortedAll_at s.heap its out.toArray
      have hlen2 : ((bs.mergeSort leD).map (·.1)).length ≤ sizeLine := by rw [List.length_map, List.length_mergeSort]; omega
      exact ⟨.ref _, upd H (s.heap.objs.size + 1) (.lst ((bs.mergeSort leD).map (·.1))), I.laid (t' := s.toks) (fun _ _ => PyProof.Rows.sortedAll_old) (Nat.le_succ _) ⟨hlen2, out, ep, vals_each h1, he'⟩, rfl, al_lst q _ (I.hok.fresh (Nat.le_succ _))⟩
    · exact h.elim
  · exact h.elim
/-- a dict's key as data -/
def kD1 : Key → PyData
  | .inl i => .int i
  | .inr x => .str x
def kD (k : List Key) : PyData := .tuple (k.map kD1)
def keyed (cs : List Addr) (kvs : List (List Key × V)) : List (V × PyData) := List.zipWith (fun c kv => (V.ref c, kD kv.1)) cs kvs
theorem keyed_fst : ∀ {kvs : List (List Key × V)} {cs : List Addr}, cs.length = kvs.length → (keyed cs kvs).map (·.1) = cs.map V.ref
  | [], [], _ => rfl
  | [], _ :: _, h => by cases h
  | _ :: _, [], h => by cases h
  | kv :: kvs, c :: cs, h => by
    have ih := keyed_fst (kvs := kvs) (cs := cs) (by simpa using h)
    unfold keyed at ih ⊢
    rw [List.zipWith_cons_cons, List.map_cons, List.map_cons, ih]
def uSortedDT (K : PySem.W.Frag) : List V → Hp → VK → Prop := fun vs H Q => match vs with
  | [.ref a] => (match H a with
    | some (.dT kvs) => ∀ cs, IsKeys H kvs cs → Sorts K H (keyed cs kvs) ∧ NewL (((keyed cs kvs).mergeSort leD).map (·.1)) H Q
    | _ => False)
  | _ => False
theorem u_sortedDT (hcalm : X.calm = true) (hu : X.A.units + 64 < cLine) : CallR X (.builtin "sorted") (uSortedDT X.K) := by
  intro pins s σ H xs us Q I r h
  unfold uSortedDT at h
  split at h
  · rename_i d
    split at h
    · rename_i kvs hd
      obtain ⟨u, eu, rx⟩ := vals1 r
      subst eu
      cases rx
      obtain ⟨z, hs, ks, pr, o, es, ep, ho, hx, hdt, he, hn⟩ := (show ObjOk X.prog X.w H s.heap d (.dT kvs) from I.hok d _ hd)
      have l1 : es.size = ks.length := size_of_entries he
      have l2 : kvs.length = ks.length := Paired.length pr
      obtain ⟨S, q⟩ := h (ks.map fun x => x.2.1) (isKeys_of pr)
      refine Calls.call_function_entry PyProof.Rows.kind_sorted PyProof.Rows.plain_sorted PyProof.Rows.entry_sorted (PyProof.Rows.args_sorted1 _) ?_
      unfold Builtin.«sorted»
      refine wpAny_bind (m := checkCount "sorted" 1 1 _) (wpAny_pure ?_)
      refine wpAny_bind (PySem.W.kdu_collect (A := X.A.in1) (kdl_raw hs hx hdt) (I.ok.hd hcalm) ho (by omega) fun h' tk acc hk it => ?_)
      have ea : acc.toList = ks.map fun x => Value.ref x.2.1 := by
        have hl : acc.toList.length = ks.length := by rw [Array.length_toList, it.1]; exact l1
        apply List.ext_getElem?
        intro j
        rw [List.getElem?_map]
        cases hj : acc.toList[j]? with
        | none =>
          have h1 := List.getElem?_eq_none_iff.mp hj
          rw [List.getElem?_eq_none (by omega)]
          all_goals rfl
        | some v =>
          obtain ⟨en, hen, hv⟩ := it.2 j v (by rw [← Array.getElem?_toList]; exact hj)
          have qe := entry_at he j
          rw [hen] at qe
          cases hb : ks[j]? with
          | none =>
            rw [hb] at qe
            exact nomatch (show some en = none from qe)
          | some b =>
            rw [hb] at qe
            have e2 : en = entryOfKey (tupleKind (mixKind X.prog X.w)) b := Option.some.inj qe
            rw [hv, e2]
            all_goals rfl
      have hlc : (ks.map fun x => x.2.1).length = kvs.length := by rw [List.length_map]; omega
      have eb : acc.toList = (ks.map fun x => x.2.1).map Value.ref := by rw [ea, List.map_map]; all_goals rfl
      have rv : Vals ((ks.map fun x => x.2.1).map V.ref) acc.toList := by rw [eb]; exact vals_refs _
      have e := each_vals rv (keyed_fst hlc).symm
      have I1 : Inv X pins σ H { s with heap := h', toks := tk } := I.kept hk
      have hal : acc.toList.length = kvs.length := by rw [ea, List.length_map]; omega
      refine wpAny_bind (wpAny_newList ?_ (by omega))
      have hoL : (h'.push (seqObj "list" acc.toList.toArray 0)).get? h'.objs.size = some (seqObj "list" acc.toList.toArray 0) := Heap.get?_push_size _ rfl
      show wpAny _ _ _ _ _ { s with heap := h'.push (seqObj "list" acc.toList.toArray 0), toks := tk }
      have er0 := each_reads I1 e S.dp
      have hbl : (keyed (ks.map fun x => x.2.1) kvs).length = kvs.length := by
        have := congrArg List.length (keyed_fst hlc)
        rw [List.length_map, List.length_map] at this
        omega
      have er : PySem.W.EachIs (fun v b => ∃ as, Reads (h'.push (seqObj "list" acc.toList.toArray 0)) v b.2 as ∧ h'.objs.size ∉ as) acc.toList (keyed (ks.map fun x => x.2.1) kvs) := er0.mono fun v b ⟨as, rr⟩ => by
        refine ⟨as, PyProof.Rows.Reads.keeps (fun _ _ => Heap.get?_push_of_some _) rr, fun hm => Nat.lt_irrefl _ (reads_lt rr _ hm)⟩
      refine wpAny_bind (wpAny_holding (PySem.W.list_sort_data (s := { s with heap := h'.push (seqObj "list" acc.toList.toArray 0), toks := tk }) (R := fun v b => RelV b.1 v) (enc := fun b : V × PyData => b.2) hoL e er S.al S.so (by omega) (fun b hb => by have := S.de b hb; show X.A.units + 1 + 1 + _ < _; omega) fun out ho h1 => ?_))
      rw [leD_eq] at h1
      obtain ⟨e', he'⟩ := PyProof.Rows.sortedHeap_at (vs := acc.toList) (out := out.toArray) hoL
      have hlen : (((keyed (ks.map fun x => x.2.1) kvs).mergeSort leD).map (·.1)).length ≤ sizeLine := by
        rw [List.length_map, List.length_mergeSort, hbl]
        exact z
      refine wpAny_pure ⟨_, rfl, .ref h'.objs.size, upd H h'.objs.size (.lst (((keyed (ks.map fun x => x.2.1) kvs).mergeSort leD).map (·.1))), I1.laid (t' := tk) (fun b u e => ?_) (Nat.le_refl _)
        (show ObjOk X.prog X.w _ _ _ (.lst _) from ⟨hlen, out, e', vals_each h1, he'⟩), rfl, al_lst q _ (I1.hok.fresh (Nat.le_refl _))⟩
      have hb : b < h'.objs.size := Heap.lt_size e
      rw [PyProof.Rows.sortedHeap_old (Nat.ne_of_lt hb) (by rw [size_push']; exact Nat.lt_succ_of_lt hb)]
      exact Heap.get?_push_of_some _ e
    · exact h.elim
  · exact h.elim
end
end Cv
end
section
/-! sorted keys of whole numbers -/
namespace Cv
open PySem L2
theorem lexLt_lt : ∀ xs ys : List Int, HT.lexLt xs ys = decide (xs < ys)
  | [], [] => by simp [HT.lexLt]
  | [], y :: ys => by simp [HT.lexLt]
  | x :: xs, [] => by simp [HT.lexLt]
  | x :: xs, y :: ys => by
    rw [HT.lexLt_cons]
    by_cases h : x = y
    · rw [if_pos h, lexLt_lt xs ys]
      simp [h, List.cons_lt_cons_iff]
    · rw [if_neg h]
      simp [h, List.cons_lt_cons_iff]
theorem lt_data (xs ys : List Int) : PySem.W.dataLt (.tuple (xs.map .int)) (.tuple (ys.map .int)) = decide (xs < ys) := by
  rw [PySem.W.dataLt_tuple]
  exact PySem.W.dataLt_ints xs ys
theorem leD_total : PySem.W.TotalLe leD := by
  rw [← leD_eq]
  exact PySem.W.sortLe_total _ _ _
def kInts (k : List Key) : List Int := k.map fun
  | .inl i => i
  | .inr _ => 0
theorem kInts_inl (k : List Int) : kInts (k.map Sum.inl) = k := by
  unfold kInts
  rw [List.map_map]
  exact List.map_id' k
theorem kD_inl (k : List Int) : kD (k.map Sum.inl) = .tuple (k.map .int) := by
  unfold kD
  rw [List.map_map]
  rfl
theorem kV_inl (k : List Int) : (k.map (Sum.inl : Int → Key)).map kV = k.map V.int := by
  rw [List.map_map]
  rfl
/-- a key's tuple, as it is sorted -/
def KeyB (H : Hp) (b : V × PyData) (c : Addr) (k : List Int) : Prop := b = (.ref c, .tuple (k.map .int)) ∧ H c = some (.tup (k.map V.int)) ∧ k ≠ []
def adr : V → Addr
  | .ref c => c
  | _ => 0
def intD : PyData → Int
  | .int i => i
  | _ => 0
def intsD : PyData → List Int
  | .tuple ds => ds.map intD
  | _ => []
theorem intsD_ints (k : List Int) : intsD (.tuple (k.map .int)) = k := by
  show (k.map PyData.int).map intD = k
  rw [List.map_map]
  exact List.map_id' k
def IntKeys (kvs : List (List Key × V)) : Prop := ∀ kv ∈ kvs, ∃ k : List Int, kv.1 = k.map Sum.inl ∧ k ≠ []
theorem keyed_all {H : Hp} : ∀ {kvs : List (List Key × V)} {cs : List Addr}, IntKeys kvs → IsKeys H kvs cs → ∀ b ∈ keyed cs kvs, ∃ c k, KeyB H b c k
  | [], _, _, h, b, hb => by
    cases h
    cases hb
  | kv :: kvs, _, hk, h, b, hb => by
    cases h with
    | cons h1 h2 =>
      rename_i c cs
      unfold keyed at hb
      rw [List.zipWith_cons_cons] at hb
      rcases List.mem_cons.mp hb with rfl | hb
      · obtain ⟨k, e, hn⟩ := hk kv (by simp)
        refine ⟨c, k, ?_, ?_, hn⟩
        · rw [e, kD_inl]
        · rw [← kV_inl, ← e]
          exact h1
      · exact keyed_all (fun z hz => hk z (by simp [hz])) h2 b hb
theorem keyed_ints {H : Hp} : ∀ {kvs : List (List Key × V)} {cs : List Addr}, IntKeys kvs → IsKeys H kvs cs → (keyed cs kvs).map (fun b => intsD b.2) = kvs.map fun kv => kInts kv.1
  | [], _, _, h => by
    cases h
    rfl
  | kv :: kvs, _, hk, h => by
    cases h with
    | cons h1 h2 =>
      rename_i c cs
      have ih := keyed_ints (fun z hz => hk z (by simp [hz])) h2
      obtain ⟨k, e, hn⟩ := hk kv (by simp)
      unfold keyed at ih ⊢
      rw [List.zipWith_cons_cons, List.map_cons, List.map_cons, ih, e, kD_inl, intsD_ints, kInts_inl]
theorem dp_ints {K : PySem.W.Frag} {H : Hp} : ∀ k : List Int, DpAll K H (k.map V.int) (k.map .int)
  | [] => .nil
  | i :: k => .cons (.int i) (dp_ints k)
theorem sort_keys {K : PySem.W.Frag} {H : Hp} {kvs : List (List Key × V)} {cs : List Addr} (hk : IntKeys kvs) (hi : IsKeys H kvs cs) :
    Sorts K H (keyed cs kvs) ∧ ∃ (as : List Addr) (ws : List (List Int)), ((keyed cs kvs).mergeSort leD).map (·.1) = as.map V.ref ∧ (as.length = ws.length ∧ ∀ (i : Nat) (a : Addr) (x : List Int), as[i]? = some a → ws[i]? = some x → H a = some (.tup (x.map V.int))) ∧
      ws.Perm (kvs.map fun kv => kInts kv.1) ∧ ws.Pairwise fun x y => ¬ y < x := by
  have hall := keyed_all hk hi
  refine ⟨⟨fun b hb => ?_, fun d hd d' hd' => ?_, .inl fun d hd => ?_, fun b hb => ?_⟩, ((keyed cs kvs).mergeSort leD).map (fun b => adr b.1), ((keyed cs kvs).mergeSort leD).map (fun b => intsD b.2), ?_, ⟨by simp, fun i a x ha hx => ?_⟩, ?_, ?_⟩
  · obtain ⟨c, k, rfl, h2, h3⟩ := hall b hb
    exact .tup (SqT.of h2) (dp_ints k)
  · obtain ⟨b, hb, rfl⟩ := List.mem_map.mp hd
    obtain ⟨b', hb', rfl⟩ := List.mem_map.mp hd'
    obtain ⟨c, k, rfl, _⟩ := hall b hb
    obtain ⟨c', k', rfl, _⟩ := hall b' hb'
    exact PySem.W.alike_ints k k'
  · obtain ⟨b, hb, rfl⟩ := List.mem_map.mp hd
    obtain ⟨c, k, rfl, _, hn⟩ := hall b hb
    cases k with
    | nil => exact absurd rfl hn
    | cons x r => exact ⟨_, _, rfl⟩
  · obtain ⟨c, k, rfl, _⟩ := hall b hb
    show PyData.depth (.tuple (k.map .int)) ≤ 20
    have h := PySem.W.depth_ints k
    simp [PyData.depth, h]
  · rw [List.map_map]
    refine List.map_congr_left fun b hb => ?_
    obtain ⟨c, k, rfl, _⟩ := hall b (List.mem_mergeSort.mp hb)
    rfl
  · rw [List.getElem?_map] at ha hx
    cases e : ((keyed cs kvs).mergeSort leD)[i]? with
    | none => rw [e] at ha; cases ha
    | some b =>
      rw [e] at ha hx
      obtain ⟨c, k, rfl, h2, _⟩ := hall b (List.mem_mergeSort.mp (List.mem_of_getElem? e))
      have e1 : c = a := Option.some.inj ha
      have e2 : intsD (.tuple (k.map .int)) = x := Option.some.inj hx
      rw [intsD_ints] at e2
      rw [← e1, ← e2]
      exact h2
  · rw [← keyed_ints hk hi]
    exact (List.mergeSort_perm _ _).map _
  · rw [List.pairwise_map]
    refine (PySem.W.sort_pairwise leD_total _).imp_of_mem fun {a b} ha hb h => ?_
    obtain ⟨c, k, rfl, _⟩ := hall a (List.mem_mergeSort.mp ha)
    obtain ⟨c', k', rfl, _⟩ := hall b (List.mem_mergeSort.mp hb)
    unfold leD at h
    rw [lt_data] at h
    simpa [intsD_ints] using h
end Cv
end
section
namespace Cv
open PySem L2
/-- all but b stays -/
def But (b : Addr) (H H' : Hp) : Prop := ∀ a o, a ≠ b → H a = some o → H' a = some o
theorem But.refl (b : Addr) (H : Hp) : But b H H := fun _ _ _ h => h
theorem But.trans {b : Addr} {H H1 H2 : Hp} (x : But b H H1) (y : But b H1 H2) : But b H H2 := fun a o n h => y a o n (x a o n h)
theorem But.upd (b : Addr) (H : Hp) (o : HO) : But b H (upd H b o) := fun a u n h => by rw [upd_ne n]; exact h
theorem But.same {b : Addr} {H H' : Hp} (e : Same H H') : But b H H' := fun a o _ h => e a o h

def uInt1 : List V → Hp → VK → Prop := fun xs H Q => match xs with
  | [.int i] => Q (.int i) H
  | [.bl k] => Q (.int (if k = true then 1 else 0)) H
  | _ => False
theorem u_int1 {X : Cx} : CallR X (.type "int") uInt1 := callR_imp call_int1 fun xs H Q h => by
  unfold uInt1 at h
  split at h
  · exact .inl ⟨_, rfl, h⟩
  · exact .inr ⟨_, rfl, h⟩
  · exact h.elim
/-- a comprehension without tests whose turns may change what stands at b: M of the turn and what is gathered; B, what is known of b -/
theorem lc_acc {g : TG} {te : TE} {vs : List Nat} {σ : L2.St} {H1 : Hp} {Q : VK} {J : It} {n : Nat} {G : Hp → Prop} {Y : Nat → Hp → V → Hp → Prop} {b : Addr} {B : Hp → Prop} (hm : MonoG g)
    (w : Walk J n G Y) (M : Nat → List V → Prop) (hM : M 0 []) (hl : ∀ i acc, M i acc → acc.length ≤ 1000) (hB : ∀ H D o, D ≠ b → B H → B (upd H D o)) (hb : B H1) (hbb : ∃ o, H1 b = some o) (hG : ∀ H', B H' → But b H1 H' → G H')
    (hs : ∀ i x H' H'' acc, i < n → M i acc → B H' → But b H1 H' → Y i H' x H'' → g x (wipe σ vs) H'' fun σ2 H2 => wipe σ2 vs = wipe σ vs ∧ ∀ Q' : VK, (∀ y H4, M (i + 1) (acc ++ [y]) → B H4 → But b H' H4 → Q' y H4) → te σ2 H2 Q')
    (hQ : ∀ p H' acc, M n acc → B H' → But b H1 H' → H1 p = none → H' p = some (.lst acc) → Q (.ref p) H') : LcB g tYes te vs σ Q J H1 := by
  refine fun D hD => ?_
  have hDb : D ≠ b := fun e => by
    obtain ⟨o, ho⟩ := hbb
    rw [e, ho] at hD
    cases hD
  refine lc_it w (fun i H' => ∃ acc, M i acc ∧ B H' ∧ But b H1 H' ∧ H' D = some (.lst acc)) ⟨[], hM, hB _ _ _ hDb hb, But.same (same_new hD), upd_same⟩ (fun i H' _ ⟨_, _, p1, p2, _⟩ => hG H' p1 p2) (fun i x H' H'' hi p y => ?_) (fun H' ⟨acc, p1, p2, p3, p4⟩ => hQ D H' acc p1 p2 p3 hD p4)
  obtain ⟨acc, p1, p2, p3, p4⟩ := p
  refine hm _ _ _ _ _ (fun σ2 H2 q => ?_) (hs i x H' H'' acc hi p1 p2 p3 y)
  obtain ⟨q1, q2⟩ := q
  refine ⟨q1, ?_⟩
  unfold tYes
  refine iteT ?_
  refine q2 _ fun y H4 m1 m2 m3 => ⟨acc, m3 _ _ hDb p4, ?_, acc ++ [y], m1, hB _ _ _ hDb m2, ?_, upd_same⟩
  · have := hl i acc p1
    have sl : (1000 : Nat) < sizeLine := by rw [sizeLine_eq]; decide
    omega
  · intro a o ha ho
    rw [upd_ne (ne_of_none ho hD)]
    exact m3 a o ha (p3 a o ha ho)
end Cv
end
section
/-! plain: ways as keys of a dict -/
namespace Cv
open PySem L2
theorem keys_putK {κ : Type} [DecidableEq κ] (kvs : List (κ × V)) (k : κ) (v : V) : (putK kvs k v).map (·.1) = if k ∈ kvs.map (·.1) then kvs.map (·.1) else kvs.map (·.1) ++ [k] := by
  have e : (kvs.any fun kv => decide (kv.1 = k)) = decide (k ∈ kvs.map (·.1)) := by
    induction kvs with
    | nil => rfl
    | cons x r ih =>
      rw [List.any_cons, ih]
      by_cases h : x.1 = k
      · simp [h]
      · have h' : ¬ k = x.1 := fun z => h z.symm
        simp [h, h']
  unfold putK
  rw [e]
  by_cases h : k ∈ kvs.map (·.1)
  · rw [if_pos (decide_eq_true h), if_pos h, List.map_map]
    refine List.map_congr_left fun kv _ => ?_
    show (if kv.1 = k then (kv.1, v) else kv).1 = kv.1
    split <;> rfl
  · rw [if_neg (by simpa using h), if_neg h, List.map_append]
    rfl
/-- ways gathered as keys, at most c -/
structure DW (n : Nat) (kvs : List (List Key × V)) (c : Nat) : Prop where
  nd : (kvs.map (·.1)).Nodup
  ok : ∀ k ∈ kvs.map (·.1), ∃ x : List Int, k = x.map Sum.inl ∧ WayOk n x
  le : kvs.length ≤ c
theorem DW.put {n : Nat} {kvs : List (List Key × V)} {c : Nat} {x : List Int} {v : V} (h : DW n kvs c) (hx : WayOk n x) : DW n (putK kvs (x.map Sum.inl) v) (c + 1) := by
  refine ⟨?_, ?_, ?_⟩
  · rw [keys_putK]
    split
    · exact h.nd
    · rename_i hk
      rw [List.nodup_append]
      exact ⟨h.nd, by simp, fun a ha b hb e => hk (by simp at hb; rw [← hb, ← e]; exact ha)⟩
  · rw [keys_putK]
    split
    · exact h.ok
    · intro k hk
      rcases List.mem_append.mp hk with hk | hk
      · exact h.ok k hk
      · exact ⟨x, by simpa using hk, hx⟩
  · have := length_putK kvs (x.map Sum.inl) v
    have := h.le
    omega
/-- a way to the yard k is there -/
def HasW (kvs : List (List Key × V)) (k : Int) : Prop := ∃ a l f : Int, [a, k, l, f].map Sum.inl ∈ kvs.map (·.1)
theorem HasW.put {kvs : List (List Key × V)} {k : Int} {y : List Key} {v : V} (h : HasW kvs k) : HasW (putK kvs y v) k := by
  obtain ⟨a, l, f, h⟩ := h
  refine ⟨a, l, f, ?_⟩
  rw [keys_putK]
  split
  · exact h
  · exact List.mem_append.mpr (.inl h)
theorem HasW.self {kvs : List (List Key × V)} {a k l f : Int} {v : V} : HasW (putK kvs ([a, k, l, f].map Sum.inl) v) k := by
  refine ⟨a, l, f, ?_⟩
  rw [keys_putK]
  split
  · assumption
  · exact List.mem_append.mpr (.inr (by simp))
def risesB : List (List Int) → Bool
  | x :: y :: r => HT.lexLt x y && risesB (y :: r)
  | _ => true
theorem rises_of : ∀ {ws : List (List Int)}, ws.Nodup → ws.Pairwise (fun x y => ¬ y < x) → risesB ws = true
  | [], _, _ => rfl
  | [_], _, _ => rfl
  | x :: y :: r, hn, hp => by
    have ih := rises_of (ws := y :: r) (List.nodup_cons.mp hn).2 (List.pairwise_cons.mp hp).2
    have h1 : ¬ y < x := (List.pairwise_cons.mp hp).1 y (by simp)
    have h2 : x ≠ y := fun e => (List.nodup_cons.mp hn).1 (by simp [e])
    have h3 : x < y := by
      rcases Std.lt_trichotomy x y with h | h | h
      · exact h
      · exact absurd h h2
      · exact absurd h h1
    show (HT.lexLt x y && risesB (y :: r)) = true
    rw [ih, lexLt_lt]
    simp [h3]
theorem DW.keys {n : Nat} {kvs : List (List Key × V)} {c : Nat} (h : DW n kvs c) : IntKeys kvs := fun kv hkv => by
  obtain ⟨x, e, a, b, l, f, rfl, _⟩ := h.ok kv.1 (List.mem_map.mpr ⟨kv, hkv, rfl⟩)
  exact ⟨_, e, by simp⟩
/-- the sorted ways of such a dict -/
theorem DW.net {n : Nat} {kvs : List (List Key × V)} {c : Nat} {ws : List (List Int)} (h : DW n kvs c) (hj : ∀ k : Int, 1 ≤ k → k < n → HasW kvs k) (hp : ws.Perm (kvs.map fun kv => kInts kv.1)) (hs : ws.Pairwise fun x y => ¬ y < x) :
    ws.length ≤ c ∧ (∀ x ∈ ws, WayOk n x) ∧ risesB ws = true ∧ Joined n ws := by
  have e : (kvs.map fun kv => kInts kv.1) = (kvs.map (·.1)).map kInts := by rw [List.map_map]; rfl
  refine ⟨?_, fun x hx => ?_, rises_of ?_ hs, fun k h1 h2 => ?_⟩
  · rw [hp.length_eq, List.length_map]
    exact h.le
  · have := hp.mem_iff.mp hx
    rw [e] at this
    obtain ⟨k, hk, rfl⟩ := List.mem_map.mp this
    obtain ⟨y, rfl, hy⟩ := h.ok k hk
    rw [kInts_inl]
    exact hy
  · rw [hp.nodup_iff, e, List.nodup_iff_pairwise_ne, List.pairwise_map]
    refine (List.nodup_iff_pairwise_ne.mp h.nd).imp_of_mem fun {x y} hx hy ne e => ne ?_
    obtain ⟨a, rfl, _⟩ := h.ok x hx
    obtain ⟨b, rfl, _⟩ := h.ok y hy
    rw [kInts_inl, kInts_inl] at e
    rw [e]
  · obtain ⟨a, l, f, hm⟩ := hj k h1 h2
    refine ⟨[a, k, l, f], hp.mem_iff.mpr ?_, a, l, f, rfl⟩
    rw [e]
    exact List.mem_map.mpr ⟨_, hm, kInts_inl _⟩
end Cv
end
section
/-! an error that a suite holds -/
namespace Cv
open PySem L2
def uIsE (K : PySem.W.Frag) (a : Addr) (cls : Value) (d : Option Addr) : List V → Hp → VK → Prop := fun xs H Q => match xs with
  | [.ref x, .ref C] => x = a ∧ ∃ D, cls = .ref D ∧ d = none ∧ ExcC K D ∧ ∃ b, PySem.W.kitOne K (.ref D) (.ref C) = some b ∧ Q (.bl b) H
  | [.ref x, .ty T] => x = a ∧ ∃ D, cls = .ref D ∧ d = none ∧ ExcC K D ∧ ∃ b, PySem.W.kitOne K (.ref D) (.type T) = some b ∧ Q (.bl b) H
  | _ => False
theorem u_isE {X : Cx} {a : Addr} {cls : Value} {d : Option Addr} {oe : Obj} {pn : List (Addr × Obj)} (hz : Zc cls d oe) (hf : ∃ vs, oe.data = .fields vs) : CallR (X.suite a ((a, oe) :: pn)) (.builtin "isinstance") (uIsE X.K a cls d) := by
  intro pins s σ H xs us Q I r h
  unfold uIsE at h
  split at h
  · obtain ⟨rfl, D, rfl, rfl, hE, b, hb, q⟩ := h
    exact call_isE hE hz hf pins s σ H _ us Q I r ⟨_, _, b, rfl, fun u hu => hu, hb, q⟩
  · obtain ⟨rfl, D, rfl, rfl, hE, b, hb, q⟩ := h
    exact call_isE hE hz hf pins s σ H _ us Q I r ⟨_, _, b, rfl, fun u hu => hu, hb, q⟩
  · exact h.elim
def uRepr : List V → Hp → VK → Prop := fun xs H Q => match xs with
  | [.int i] => i.natAbs < 2 ^ 1900 ∧ Q (.str (toString i)) H
  | _ => False
theorem u_repr {X : Cx} : CallR X (.builtin "repr") uRepr := callR_imp SkE.call_repr_int fun xs H Q h => by
  unfold uRepr at h
  split at h
  · rename_i i
    refine ⟨_, rfl, ?_, h.2⟩
    by_cases hz : i.natAbs = 0
    · rw [hz]
      decide
    · have := (Nat.log2_lt hz).2 h.1
      omega
  · exact h.elim
/-- the truth of a plain value -/
def tTru (ta : TE) : St → Hp → (Bool → Hp → Prop) → Prop := fun σ H Q => ta σ H fun x H' => match x with
  | .non => Q false H'
  | .bl b => Q b H'
  | .int i => Q (i != 0) H'
  | .ref p => match H' p with
    | some (.lst xs) => Q (!xs.isEmpty) H'
    | some (.tup xs) => Q (!xs.isEmpty) H'
    | some (.frz _ (.tup xs)) => Q (!xs.isEmpty) H'
    | some (.dK kvs) => Q (!kvs.isEmpty) H'
    | _ => False
  | _ => False
theorem pt_tru {X : Cx} {a : Expr} {ta : TE} (ha : PE X a ta) (he : ∀ whole, isTrue a X.env whole = (do let v ← whole; standAt a.pos; holding [v] (truthy v))) : PT X a (tTru ta) := by
  refine ⟨fun pins s σ H Q I h => ?_⟩
  refine PyProof.Rows.isTrue_plain (thn (ha.run pins s σ H _ I h) fun v s1 ⟨x, H1, I1, r1, q1⟩ => tru_ok pins s1 σ H1 x v Q I1 r1 ?_) (he _)
  dsimp only at q1
  split at q1
  · exact ⟨_, rfl, q1⟩
  · exact ⟨_, rfl, q1⟩
  · exact ⟨_, rfl, q1⟩
  · split at q1
    · rename_i hp
      exact ⟨_, Or.inl ⟨_, Or.inl (Or.inl hp), rfl⟩, q1⟩
    · rename_i hp
      exact ⟨_, Or.inr (Or.inl ⟨_, Or.inl (Or.inl hp), rfl⟩), q1⟩
    · rename_i hp
      exact ⟨_, Or.inr (Or.inl ⟨_, Or.inl (Or.inr ⟨_, hp⟩), rfl⟩), q1⟩
    · rename_i hp
      exact ⟨_, Or.inr (Or.inr ⟨_, hp, rfl⟩), q1⟩
    · exact q1.elim
  · exact q1.elim
theorem u_neK {X : Cx} {K : PySem.W.Frag} (hk : X.K = K) (hu : X.A.units + 64 < cLine) : OpR X (compareOp .NotEq) (uNe K) := hk ▸ u_ne hu
theorem u_isEK {X : Cx} {K : PySem.W.Frag} {a : Addr} {cls : Value} {d : Option Addr} {oe : Obj} {pn : List (Addr × Obj)} (hk : X.K = K) (hz : Zc cls d oe) (hf : ∃ vs, oe.data = .fields vs) : CallR (X.suite a ((a, oe) :: pn)) (.builtin "isinstance") (uIsE K a cls d) := hk ▸ u_isE hz hf
theorem take_len {X : Cx} {W : WX} (t : Takes X W) : Takes X (fun c d σ H => σ.length = X.N.length → W c d σ H) := fun u s' ⟨a, B, sI, pins, σ, H, cls, d, e, I, nb, up, sky, na, os, ag, w⟩ =>
  t u s' ⟨a, B, sI, pins, σ, H, cls, d, e, I, nb, up, sky, na, os, ag, w I.len⟩
/-- the suite of a def's first try -/
def trySuite (s : Stmt) : List Stmt := match defBody s with
  | .Try _ [.ExceptHandler _ _ b _] _ _ _ :: _ => b
  | _ => []
end Cv
end
section
/-! the law's own def: tables, lambdas, ends -/
namespace Cv
open PySem L2
open PySem.Spec PyProof.Rows
def uMax2 : List V → Hp → VK → Prop := fun xs H Q => match xs with
  | [.int i, .int j] => Q (.int (if j > i then j else i)) H
  | _ => False
def uMin2 : List V → Hp → VK → Prop := fun xs H Q => match xs with
  | [.int i, .int j] => Q (.int (if j < i then j else i)) H
  | _ => False
theorem u_max2 {X : Cx} (hc : X.calm = true) : CallR X (.builtin "max") uMax2 := callR_imp (call_max2 hc) fun xs H Q h => by
  unfold uMax2 at h
  split at h
  · exact ⟨_, _, rfl, h⟩
  · exact h.elim
theorem u_min2 {X : Cx} (hc : X.calm = true) : CallR X (.builtin "min") uMin2 := callR_imp (call_min2 hc) fun xs H Q h => by
  unfold uMin2 at h
  split at h
  · exact ⟨_, _, rfl, h⟩
  · exact h.elim
/-- list(range(n)) -/
def uLstRg (ta : TE) : TE := fun σ H Q => ta σ H fun x H1 => match x with
  | .int n => RgOk 0 n ∧ NewL (rgV 0 n) H1 Q
  | _ => False
theorem ue_listRg {X : Cx} {a : Expr} {ta : TE} {p pos p2 pos2 : Pos} (hc : X.calm = true) (hg : Gl X "list") (hm : X.mg "list" = none) (hg2 : Gl X "range") (hm2 : X.mg "range" = none) (ha : PE X a ta)
    (na : starEach [a] X.env = (false, eval a X.env) :: starEach [] X.env := by rfl)
    (nb : starEach [Expr.Call (.Name "range" p) [a] [] pos] X.env = (false, eval (Expr.Call (.Name "range" p) [a] [] pos) X.env) :: starEach [] X.env := by rfl) :
    PE X (.Call (.Name "list" p2) [Expr.Call (.Name "range" p) [a] [] pos] [] pos2) (uLstRg ta) := by
  refine ⟨fun pins s σ H Q I h => (pe_listRg hc hg hm (te := fun σ H R => (∀ n H1, RgOk 0 n → NewL (rgV 0 n) H1 Q → R 0 n H1) ∧ uLstRg ta σ H Q) ?_ nb).run pins s σ H Q I ⟨fun n H1 h1 h2 => ⟨h1, al_any h2⟩, h⟩⟩
  intro pins s σ H R I h
  refine Call_ (ld_blt I hg2 hm2 boot_range (PyProof.Rows.callWith_type1 (one_arg ha I h.2 (fun v s2 x H2 I2 r q => ?_) na) na))
  cases x with
  | int n =>
    obtain ⟨t, rfl⟩ := r
    exact call_range_1 ⟨_, 0, n, _, _, _, H2, rfl, IsRange.new _ _ _ _ _ _ _, I2.kept fun b u e => Heap.get?_push_of_some _ e, h.1 _ _ q.1 q.2⟩
  | _ => exact q.elim
/-- a def by its body, its code object known -/
theorem okC {P : Program} {w : World} {K : PySem.W.Frag} {mg : Str → Option Value} {base : Heap} {x qual : Str} {st : Stmt} {f : Addr} {fd : FuncData} {N ps : List Str} {k : Nat} {sp : Sp} {cdv : Value} (F : Fun K x qual st f fd) (hcv : fd.code = cdv) (S : FnScope N ps (defScope st)) (len : ∀ vs H Q E, sp vs H Q E → vs.length = ps.length)
    (hbody : ∀ (A : Around) (outer : List Env) (s : Shared) (H : Hp) (vs : List V) (Q : VK) (E : XK), Room k (A.deeper (envOfC qual (defScope st) s.heap.objs.size f cdv)) → sp vs H Q E →
      ∃ t, PSs (cxOf C8.CX0 P w K mg base N qual (defScope st) f cdv A outer s H E).nox (defBody st) t ∧ t { nx := fun _ H' => Q .non H', rt := Q } (L2.start N vs) H) : FnOk P w K mg base C8.CX0 (k + 1) f fd ps sp := by
  obtain ⟨oc, od, kV, doc, pm, an, cdv', ct, osl, rfl, lk, hcd⟩ := F.ex
  have e : cdv' = cdv := hcv
  subst e
  refine fn_of lk hcd S len fun A outer s H vs Q E hr hsp => ?_
  obtain ⟨t, h, q⟩ := hbody A outer s H vs Q E hr hsp
  exact ⟨t, h.nox, q⟩
/-- what stands but for tables stays -/
theorem sqL_ext {K : PySem.W.Frag} {H H' : Hp} {a : Addr} {xs : List V} (h : SqL K H a xs) (e : LamX.ExtN H H') : SqL K H' a xs := by
  rcases h with (h | ⟨o, h⟩) | h
  · exact .inl (.inl (e _ _ h (by intro _ z; cases z)))
  · exact .inl (.inr ⟨o, e _ _ h (by intro _ z; cases z)⟩)
  · exact .inr h
end Cv
end
section
/-! data within data: less, least, taken out -/
namespace Cv
open PySem L2
variable {X : Cx}
def uLtD (K : PySem.W.Frag) : R2 := fun x y H Q => ∃ d e, Dp K H x d ∧ Dp K H y e ∧ PySem.W.alike d e = true ∧ d ≠ .none ∧ d.depth ≤ 20 ∧ Q (.bl (PySem.W.dataLt d e)) H
theorem u_ltD (hu : X.A.units + 64 < cLine) : OpR X (compareOp .Lt) (uLtD X.K) := by
  intro pins s σ H x y v u Q I rx ry h
  obtain ⟨d, e, h1, h2, h3, h4, h5, q⟩ := h
  obtain ⟨as, ra⟩ := Dp.reads I _ _ _ h1 rx
  obtain ⟨bs, rb⟩ := Dp.reads I _ _ _ h2 ry
  exact PySem.W.lt_data ra rb h3 h4 (by omega) ⟨.bl _, H, I, rfl, q⟩
theorem plain_mem : ∀ {ds : List PyData} {d : PyData}, PyData.plainAll ds = true → d ∈ ds → d.plain = true
  | [], _, _, h => by cases h
  | x :: r, d, h, hm => by
    have h' : (x.plain && PyData.plainAll r) = true := h
    rw [Bool.and_eq_true] at h'
    rcases List.mem_cons.1 hm with rfl | hm
    · exact h'.1
    · exact plain_mem h'.2 hm
theorem minD_mem (d : PyData) : ∀ ds : List PyData, PySem.W.minD d ds ∈ d :: ds := by
  intro ds
  unfold PySem.W.minD
  induction ds generalizing d with
  | nil => simp
  | cons x r ih =>
    have := ih (if PySem.W.dataLt x d then x else d)
    rw [List.foldl_cons]
    rcases List.mem_cons.1 this with h | h
    · rw [h]
      split <;> simp
    · simp [h]
/-- least of a list of data -/
def uMinD (K : PySem.W.Frag) : List V → Hp → VK → Prop := fun vs H Q => match vs with
  | [.ref l] => (match H l with
    | some (.lst xs) => ∃ d ds, DpAll K H xs (d :: ds) ∧ PySem.W.AlikeAll (d :: ds) ∧ PyData.plainAll (d :: ds) = true ∧ PyData.depthAll (d :: ds) ≤ 20 ∧ ∀ (i : Nat) x, xs[i]? = some x → (d :: ds)[i]? = some (PySem.W.minD d ds) → Q x H
    | _ => False)
  | _ => False
theorem vals_at {xs : List V} {us : List Value} (r : Vals xs us) : ∀ (i : Nat) (u : Value), us[i]? = some u → ∃ x, xs[i]? = some x ∧ RelV x u := by
  induction r with
  | nil =>
    intro i u h
    simp at h
  | cons h t ih =>
    intro i u e
    cases i with
    | zero =>
      simp at e
      subst e
      exact ⟨_, rfl, h⟩
    | succ i => exact ih i u (by simpa using e)
theorem u_minD (hc : X.calm = true) (hu : X.A.units + 64 < cLine) : CallR X (.builtin "min") (uMinD X.K) := by
  intro pins s σ H vs us Q I r h
  unfold uMinD at h
  split at h
  · rename_i l
    split at h
    · rename_i xs ea
      obtain ⟨d, ds, hD, hA, hp, hde, q⟩ := h
      obtain ⟨its, rv, hl, hz⟩ := I.list (SqL.of ea)
      rw [Vals.ref1 r]
      obtain ⟨as, hr⟩ := Dp.readsAll I _ _ _ hD rv
      refine PySem.W.min_list_data (I.ok.hd hc) hl.isList (by simpa using hr) hA (by omega) fun i v h' tk bs hv rd hk => ?_
      have hv' : its[i]? = some v := by simpa using hv
      obtain ⟨x, hx, rx⟩ := vals_at rv i v hv'
      refine ⟨x, H, I.kept hk, rx, q i x hx ?_⟩
      have hpm := plain_mem hp (minD_mem d ds)
      have e1 := PySem.SeqAt.readOf_plain hpm rd
      have hr' : ReadsAll h' its (d :: ds) as := PyProof.Rows.ReadsAll.keeps hk hr
      have e2 := PySem.SeqAt.readsAll_map_plain _ _ _ hp hr'
      have e3 : (its.map (PySem.SeqAt.readOf h'))[i]? = (d :: ds)[i]? := by rw [e2]
      rw [List.getElem?_map, hv'] at e3
      rw [← e3, ← e1]
      rfl
    · exact h.elim
  · exact h.elim
/-- list.remove of data -/
def uRemoveD (K : PySem.W.Frag) : V → List V → Hp → VK → Prop := fun x vs H Q => match x, vs with
  | .ref l, [y] => (match H l with
    | some (.lst xs) => ∃ ds e j, DpAll K H xs ds ∧ Dp K H y e ∧ PyData.plainAll ds = true ∧ e.plain = true ∧ PyData.depthAll ds ≤ 20 ∧ PySem.SeqAt.dataPlace ds e = some j ∧ Q .non (upd H l (.lst (xs.eraseIdx j)))
    | _ => False)
  | _, _ => False
theorem u_removeD (hu : X.A.units + 64 < cLine) : MtR X "list.remove" (uRemoveD X.K) := by
  intro pins s σ H x xs v us Q I rx rxs h
  unfold uRemoveD at h
  split at h
  · rename_i l y
    split at h
    · rename_i ys ea
      obtain ⟨ds, e, j, hD, hE, hp, hpe, hde, hj, q⟩ := h
      cases (show v = Value.ref l from rx)
      obtain ⟨u, rfl, ry⟩ := vals1 rxs
      obtain ⟨z, its, n, r, hl, e0⟩ := I.lstM ea
      obtain ⟨as, hr⟩ := Dp.readsAll I _ _ _ hD r
      obtain ⟨bs, hx⟩ := Dp.reads I _ _ _ hE ry
      refine PySem.SeqAt.remove_list_data (vs := its.toArray) ⟨_, e0, rfl, n, rfl⟩ (by simpa using hr) hx hp hpe (by omega) hj (by rw [List.size_toArray, ← hl]; exact z) ?_
      refine ⟨.non, _, I.lset (its' := its.eraseIdx j) ea e0 ?_ (r.eraseIdx j) ?_, rfl, q⟩
      · show its.toArray.eraseIdxIfInBounds j = (its.eraseIdx j).toArray
        rw [List.eraseIdxIfInBounds_toArray]
      · have := List.length_eraseIdx_le ys j
        omega
    · exact h.elim
  · exact h.elim
end Cv
end
section
/-! (miles, path): how Python sets them in order -/
namespace Cv
open PySem L2
theorem lex_irr : ∀ x : List Int, HT.lexLt x x = false
  | [] => rfl
  | a :: r => by rw [HT.lexLt_cons, if_pos rfl]; exact lex_irr r
theorem lex_tot : ∀ x y : List Int, HT.lexLt x y = false → HT.lexLt y x = false → x = y
  | [], [], _, _ => rfl
  | [], _ :: _, h, _ => by cases h
  | _ :: _, [], _, h => by cases h
  | a :: r, b :: t, h1, h2 => by
    rw [HT.lexLt_cons] at h1 h2
    by_cases e : a = b
    · subst e
      rw [if_pos rfl] at h1 h2
      rw [lex_tot r t h1 h2]
    · rw [if_neg e] at h1
      rw [if_neg (Ne.symm e)] at h2
      simp at h1 h2
      omega
theorem lex_trans : ∀ x y z : List Int, HT.lexLt x y = true → HT.lexLt y z = true → HT.lexLt x z = true
  | [], [], _, h, _ => by cases h
  | _ :: _, [], _, h, _ => by cases h
  | _, _ :: _, [], _, h => by cases h
  | [], _ :: _, _ :: _, _, _ => rfl
  | a :: r, b :: t, c :: u, h1, h2 => by
    rw [HT.lexLt_cons] at h1 h2 ⊢
    by_cases e : a = b
    · subst e
      rw [if_pos rfl] at h1
      by_cases e2 : a = c
      · subst e2
        rw [if_pos rfl] at h2 ⊢
        exact lex_trans r t u h1 h2
      · rw [if_neg e2] at h2 ⊢
        exact h2
    · rw [if_neg e] at h1
      by_cases e2 : b = c
      · subst e2
        rw [if_neg e]
        exact h1
      · rw [if_neg e2] at h2
        simp at h1 h2
        rw [if_neg (by omega)]
        simp
        omega
abbrev Pth := Int × List Int
def ltP (x y : Pth) : Bool := if x.1 = y.1 then HT.lexLt x.2 y.2 else decide (x.1 < y.1)
theorem ltP_irr (x : Pth) : ltP x x = false := by unfold ltP; rw [if_pos rfl]; exact lex_irr _
theorem ltP_tot {x y : Pth} (h1 : ltP x y = false) (h2 : ltP y x = false) : x = y := by
  unfold ltP at h1 h2
  by_cases e : x.1 = y.1
  · rw [if_pos e] at h1
    rw [if_pos e.symm] at h2
    exact Prod.ext e (lex_tot _ _ h1 h2)
  · rw [if_neg e] at h1
    rw [if_neg (Ne.symm e)] at h2
    simp at h1 h2
    omega
theorem ltP_trans {x y z : Pth} (h1 : ltP x y = true) (h2 : ltP y z = true) : ltP x z = true := by
  unfold ltP at h1 h2 ⊢
  by_cases e : x.1 = y.1
  · rw [if_pos e] at h1
    by_cases e2 : y.1 = z.1
    · rw [if_pos e2] at h2
      rw [if_pos (e.trans e2)]
      exact lex_trans _ _ _ h1 h2
    · rw [if_neg e2] at h2
      rw [if_neg (by rw [e]; exact e2), e]
      exact h2
  · rw [if_neg e] at h1
    by_cases e2 : y.1 = z.1
    · rw [if_neg (by rw [← e2]; exact e), ← e2]
      exact h1
    · rw [if_neg e2] at h2
      simp at h1 h2
      rw [if_neg (by omega)]
      simp
      omega
/-- not after -/
def leP (x y : Pth) : Prop := ltP y x = false
theorem leP_refl (x : Pth) : leP x x := ltP_irr x
theorem leP_trans {x y z : Pth} (h1 : leP x y) (h2 : leP y z) : leP x z := by
  unfold leP at *
  cases h : ltP z x with
  | false => rfl
  | true =>
    cases hxy : ltP x y with
    | true => rw [ltP_trans h hxy] at h2; cases h2
    | false =>
      have e : x = y := ltP_tot hxy h1
      rw [e] at h
      rw [h] at h2
      cases h2
theorem leP_anti {x y : Pth} (h1 : leP x y) (h2 : leP y x) : x = y := ltP_tot h2 h1
theorem leP_of_lt {x y : Pth} (h : ltP x y = true) : leP x y := by
  unfold leP
  cases h2 : ltP y x with
  | false => rfl
  | true =>
    have := ltP_trans h h2
    rw [ltP_irr] at this
    cases this
theorem leP_total (x y : Pth) : leP x y ∨ leP y x := by
  unfold leP
  cases h : ltP y x with
  | false => exact .inl rfl
  | true => exact .inr (leP_of_lt h)
/-- the least -/
def minP (x : Pth) (xs : List Pth) : Pth := xs.foldl (fun a y => if ltP y a then y else a) x
theorem minP_mem (x : Pth) (xs : List Pth) : minP x xs ∈ x :: xs := by
  unfold minP
  induction xs generalizing x with
  | nil => simp
  | cons y r ih =>
    rw [List.foldl_cons]
    rcases List.mem_cons.1 (ih (if ltP y x then y else x)) with h | h
    · rw [h]
      split <;> simp
    · simp [h]
theorem minP_le (x : Pth) (xs : List Pth) : ∀ y ∈ x :: xs, leP (minP x xs) y := by
  unfold minP
  induction xs generalizing x with
  | nil =>
    intro y hy
    simp at hy
    rw [hy]
    exact leP_refl _
  | cons z r ih =>
    intro y hy
    rw [List.foldl_cons]
    have h0 := ih (if ltP z x then z else x) (if ltP z x then z else x) (by simp)
    have hzx : leP (if ltP z x then z else x) z ∧ leP (if ltP z x then z else x) x := by
      cases h : ltP z x with
      | true => exact ⟨leP_refl _, leP_of_lt h⟩
      | false => exact ⟨h, leP_refl _⟩
    rcases List.mem_cons.1 hy with rfl | hy
    · exact leP_trans h0 hzx.2
    · rcases List.mem_cons.1 hy with rfl | hy
      · exact leP_trans h0 hzx.1
      · exact ih _ _ (by simp [hy])
/-! as data -/
def pD (x : Pth) : PyData := .tuple [.int x.1, .tuple (x.2.map .int)]
theorem toks_ints : ∀ xs ys : List Int, PyProof.Rows.lexLt PyProof.Rows.itemOrd (PySem.W.keyToksAll (xs.map .int)) (PySem.W.keyToksAll (ys.map .int)) = HT.lexLt xs ys
  | [], [] => by decide
  | [], y :: ys => by
    rw [List.map_nil, List.map_cons, PySem.W.toks_all_cons]
    rfl
  | x :: xs, [] => by
    rw [List.map_nil, List.map_cons, PySem.W.toks_all_cons]
    rfl
  | x :: xs, y :: ys => by
    rw [HT.lexLt_cons, List.map_cons, List.map_cons]
    by_cases e : x = y
    · rw [if_pos e, PySem.W.dataLt_all_yes (by rfl) (by simp [PyData.eqv, e])]
      exact toks_ints xs ys
    · rw [if_neg e, PySem.W.dataLt_all_no (by rfl) (by simp [PyData.eqv, e])]
      exact PySem.W.dataLt_int x y
theorem alike_ints : ∀ xs ys : List Int, PySem.W.alikeAll (xs.map .int) (ys.map .int) = true
  | [], _ => by simp [PySem.W.alikeAll]
  | _ :: _, [] => by simp [PySem.W.alikeAll]
  | x :: xs, y :: ys => by
    rw [List.map_cons, List.map_cons, PySem.W.alikeAll, alike_ints xs ys]
    rfl
theorem eqv_ints : ∀ xs ys : List Int, PyData.eqvAll (xs.map .int) (ys.map .int) = decide (xs = ys)
  | [], [] => by simp [PyData.eqvAll]
  | [], _ :: _ => by simp [PyData.eqvAll]
  | _ :: _, [] => by simp [PyData.eqvAll]
  | x :: xs, y :: ys => by
    rw [List.map_cons, List.map_cons, PySem.W.eqv_all_cons, eqv_ints xs ys]
    simp [PyData.eqv]
    by_cases h : x = y <;> simp [h]
theorem pD_alike (x y : Pth) : PySem.W.alike (pD x) (pD y) = true := by
  simp [pD, PySem.W.alike, PySem.W.alikeAll, alike_ints]
theorem pD_eqv (x y : Pth) : PyData.eqv (pD x) (pD y) = decide (x = y) := by
  unfold pD
  simp only [PyData.eqv, PyData.eqvAll, eqv_ints]
  obtain ⟨a, b⟩ := x
  obtain ⟨c, d⟩ := y
  by_cases h : a = c <;> by_cases h2 : b = d <;> simp [h, h2]
theorem pD_lt (x y : Pth) : PySem.W.dataLt (pD x) (pD y) = ltP x y := by
  unfold pD ltP
  rw [PySem.W.dataLt_tuple]
  by_cases e : x.1 = y.1
  · rw [if_pos e, PySem.W.dataLt_all_yes (by rfl) (by simp [PyData.eqv, e])]
    by_cases e2 : x.2 = y.2
    · rw [PySem.W.dataLt_all_yes (by simp [PySem.W.alike, alike_ints]) (by simp [PyData.eqv, eqv_ints, e2]), e2, lex_irr]
      decide
    · rw [PySem.W.dataLt_all_no (by simp [PySem.W.alike, alike_ints]) (by simp [PyData.eqv, eqv_ints, e2]), PySem.W.dataLt_tuple, toks_ints]
  · rw [if_neg e, PySem.W.dataLt_all_no (by rfl) (by simp [PyData.eqv, e])]
    exact PySem.W.dataLt_int _ _
theorem pD_inj {x y : Pth} (h : pD x = pD y) : x = y := by
  have := pD_eqv x y
  rw [h] at this
  have e := pD_eqv y y
  simp at e
  rw [e] at this
  simpa using this.symm
theorem pD_min (x : Pth) : ∀ xs : List Pth, PySem.W.minD (pD x) (xs.map pD) = pD (minP x xs) := by
  intro xs
  unfold PySem.W.minD minP
  induction xs generalizing x with
  | nil => rfl
  | cons y r ih =>
    rw [List.map_cons, List.foldl_cons, List.foldl_cons, pD_lt]
    cases ltP y x with
    | true => exact ih y
    | false => exact ih x
theorem pD_plain (x : Pth) : (pD x).plain = true := by
  have : ∀ l : List Int, PyData.plainAll (l.map .int) = true := fun l => by
    induction l with
    | nil => rfl
    | cons a r ih =>
      show (true && _) = true
      rw [ih]
      rfl
  show (true && (PyData.plainAll (x.2.map .int) && true)) = true
  rw [this]
  rfl
end Cv
end
section
/-! (miles, path) as they stand -/
namespace Cv
open PySem L2
def PthAt (H : Hp) (a : Addr) (x : Pth) : Prop := ∃ b, H a = some (.tup [.int x.1, .ref b]) ∧ H b = some (.tup (x.2.map V.int))
theorem PthAt.keep {H H' : Hp} {a : Addr} {x : Pth} (h : PthAt H a x) (e : ∀ b o, H b = some o → (∀ l, o ≠ .lst l) → (∀ l, o ≠ .dK l) → (∀ l, o ≠ .dT l) → H' b = some o) : PthAt H' a x :=
  let ⟨b, h1, h2⟩ := h; ⟨b, e _ _ h1 (by intro _ z; cases z) (by intro _ z; cases z) (by intro _ z; cases z), e _ _ h2 (by intro _ z; cases z) (by intro _ z; cases z) (by intro _ z; cases z)⟩
theorem dpInts {K : PySem.W.Frag} {H : Hp} : ∀ k : List Int, DpAll K H (k.map V.int) (k.map .int)
  | [] => .nil
  | i :: k => .cons (.int i) (dpInts k)
theorem PthAt.dp {K : PySem.W.Frag} {H : Hp} {a : Addr} {x : Pth} (h : PthAt H a x) : Dp K H (.ref a) (pD x) :=
  let ⟨_, h1, h2⟩ := h; .tup (SqT.of h1) (.cons (.int _) (.cons (.tup (SqT.of h2) (dpInts _)) .nil))
def Pths (H : Hp) (as : List Addr) (xs : List Pth) : Prop := as.length = xs.length ∧ ∀ (i : Nat) a x, as[i]? = some a → xs[i]? = some x → PthAt H a x
theorem Pths.nil {H : Hp} : Pths H [] [] := ⟨rfl, fun i a x h => by simp at h⟩
theorem Pths.add {H : Hp} {as : List Addr} {xs : List Pth} {a : Addr} {x : Pth} (h : Pths H as xs) (p : PthAt H a x) : Pths H (as ++ [a]) (xs ++ [x]) := by
  refine ⟨by simp [h.1], fun i b y hb hy => ?_⟩
  by_cases hi : i < as.length
  · rw [List.getElem?_append_left hi] at hb
    rw [List.getElem?_append_left (by rw [← h.1]; exact hi)] at hy
    exact h.2 i b y hb hy
  · rw [List.getElem?_append_right (by omega)] at hb
    rw [List.getElem?_append_right (by rw [← h.1]; omega)] at hy
    rw [h.1] at hb
    rcases Nat.eq_zero_or_pos (i - xs.length) with e | e
    · rw [e] at hb hy
      simp at hb hy
      subst hb hy
      exact p
    · rw [List.getElem?_eq_none (by simp; omega)] at hb
      cases hb
theorem Pths.del {H : Hp} {as : List Addr} {xs : List Pth} (h : Pths H as xs) (j : Nat) : Pths H (as.eraseIdx j) (xs.eraseIdx j) := by
  refine ⟨by simp [List.length_eraseIdx, h.1], fun i b y hb hy => ?_⟩
  rw [List.getElem?_eraseIdx] at hb hy
  split at hb
  · rename_i hi
    rw [if_pos hi] at hy
    exact h.2 i b y hb hy
  · rename_i hi
    rw [if_neg hi] at hy
    exact h.2 (i + 1) b y hb hy
theorem Pths.keep {H H' : Hp} {as : List Addr} {xs : List Pth} (h : Pths H as xs) (e : ∀ b o, H b = some o → (∀ l, o ≠ .lst l) → (∀ l, o ≠ .dK l) → (∀ l, o ≠ .dT l) → H' b = some o) : Pths H' as xs :=
  ⟨h.1, fun i a x ha hx => (h.2 i a x ha hx).keep e⟩
theorem Pths.dp {K : PySem.W.Frag} {H : Hp} : ∀ {as : List Addr} {xs : List Pth}, Pths H as xs → DpAll K H (as.map V.ref) (xs.map pD)
  | [], [], _ => .nil
  | [], _ :: _, h => by cases h.1
  | _ :: _, [], h => by cases h.1
  | a :: as, x :: xs, h => .cons (h.2 0 a x rfl rfl).dp (Pths.dp ⟨by simpa using h.1, fun i b y hb hy => h.2 (i + 1) b y (by simpa using hb) (by simpa using hy)⟩)
theorem depth_ints : ∀ l : List Int, PyData.depthAll (l.map .int) ≤ 1
  | [] => by simp [PyData.depthAll]
  | a :: r => by
    have := depth_ints r
    simp only [List.map_cons, PyData.depthAll, PyData.depth]
    omega
theorem pD_depth (x : Pth) : (pD x).depth ≤ 10 := by
  have := depth_ints x.2
  simp only [pD, PyData.depth, PyData.depthAll]
  omega
theorem pDs_depth : ∀ xs : List Pth, PyData.depthAll (xs.map pD) ≤ 10
  | [] => by simp [PyData.depthAll]
  | a :: r => by
    have h1 := pDs_depth r
    have h2 := pD_depth a
    simp only [List.map_cons, PyData.depthAll]
    omega
theorem pDs_plain : ∀ xs : List Pth, PyData.plainAll (xs.map pD) = true
  | [] => rfl
  | a :: r => by
    show ((pD a).plain && PyData.plainAll (r.map pD)) = true
    rw [pD_plain, pDs_plain r]
    rfl
theorem minP_ok {K : PySem.W.Frag} {H : Hp} {Q : VK} {l : Addr} {as : List Addr} {x : Pth} {xs : List Pth} (hl : H l = some (.lst (as.map V.ref))) (hp : Pths H as (x :: xs))
    (q : ∀ (i : Nat) a, as[i]? = some a → (x :: xs)[i]? = some (minP x xs) → Q (.ref a) H) : uMinD K [.ref l] H Q := by
  simp only [uMinD, hl]
  refine ⟨pD x, xs.map pD, hp.dp, ⟨fun d hd e he => ?_, fun d hd => ?_⟩, pDs_plain (x :: xs), Nat.le_trans (pDs_depth (x :: xs)) (by decide), fun i v hv hm => ?_⟩
  · rw [← List.map_cons] at hd he
    obtain ⟨y, _, rfl⟩ := List.mem_map.1 hd
    obtain ⟨z, _, rfl⟩ := List.mem_map.1 he
    exact pD_alike y z
  · rw [← List.map_cons] at hd
    obtain ⟨y, _, rfl⟩ := List.mem_map.1 hd
    intro e
    cases e
  · rw [List.getElem?_map] at hv
    obtain ⟨a, ha, rfl⟩ := Option.map_eq_some_iff.1 hv
    refine q i a ha ?_
    rw [pD_min, ← List.map_cons, List.getElem?_map] at hm
    obtain ⟨y, hy, e⟩ := Option.map_eq_some_iff.1 hm
    rw [hy, pD_inj e]
theorem removeP_ok {K : PySem.W.Frag} {H : Hp} {Q : VK} {l a : Addr} {as : List Addr} {x : Pth} {xs : List Pth} (hl : H l = some (.lst (as.map V.ref))) (hp : Pths H as xs) (ha : PthAt H a x) (hx : x ∈ xs)
    (q : ∀ j : Nat, xs[j]? = some x → Q .non (upd H l (.lst ((as.eraseIdx j).map V.ref)))) : uRemoveD K (.ref l) [.ref a] H Q := by
  simp only [uRemoveD, hl]
  have hs : (PySem.SeqAt.dataPlace (xs.map pD) (pD x)).isSome = true := by
    unfold PySem.SeqAt.dataPlace
    rw [List.findIdx?_isSome, List.any_eq_true]
    exact ⟨pD x, List.mem_map.2 ⟨x, hx, rfl⟩, by rw [pD_eqv]; simp⟩
  obtain ⟨j, hj⟩ := Option.isSome_iff_exists.1 hs
  refine ⟨_, _, j, hp.dp, ha.dp, pDs_plain xs, pD_plain x, Nat.le_trans (pDs_depth xs) (by decide), hj, ?_⟩
  have e : (as.map V.ref).eraseIdx j = (as.eraseIdx j).map V.ref := by
    apply List.ext_getElem?
    intro i
    simp only [List.getElem?_eraseIdx, List.getElem?_map]
    split <;> rfl
  rw [e]
  refine q j ?_
  obtain ⟨h1, h2, _⟩ := List.findIdx?_eq_some_iff_getElem.mp hj
  rw [List.getElem_map, pD_eqv] at h2
  rw [List.getElem?_eq_getElem (by simpa using h1)]
  simpa using h2
theorem ltP_ok {K : PySem.W.Frag} {H : Hp} {Q : VK} {a b : Addr} {x y : Pth} (ha : PthAt H a x) (hb : PthAt H b y) (q : Q (.bl (ltP x y)) H) : uLtD K (.ref a) (.ref b) H Q :=
  ⟨_, _, ha.dp, hb.dp, pD_alike x y, (by intro e; cases e), Nat.le_trans (pD_depth x) (by decide), by rw [pD_lt]; exact q⟩
end Cv
end
section
/-! walks over a net and the least of them; no program in sight -/
namespace Cv
open PySem L2
/-- a way from u to v of f miles -/
def Edg (ws : List (List Int)) (u v f : Int) : Prop := ∃ l, [u, v, l, f] ∈ ws ∨ [v, u, l, f] ∈ ws
/-- longer by a yard -/
def extP (x : Pth) (f v : Int) : Pth := (x.1 + f, x.2 ++ [v])
inductive Wk (ws : List (List Int)) (s : Int) : Int → Pth → Prop
  | nil : Wk ws s s (0, [s])
  | step {u v f : Int} {x : Pth} : Wk ws s u x → Edg ws u v f → Wk ws s v (extP x f v)
section
variable {ws : List (List Int)} {s : Int} (hp : ∀ u v f, Edg ws u v f → 1 ≤ f)
theorem Wk.last {v : Int} {x : Pth} (h : Wk ws s v x) : x.2.getLast? = some v := by
  cases h with
  | nil => rfl
  | step h e => simp [extP]
theorem Wk.ne {v : Int} {x : Pth} (h : Wk ws s v x) : x.2 ≠ [] := fun e => by
  have := h.last
  rw [e] at this
  cases this
theorem Wk.ends {v u : Int} {x : Pth} (h : Wk ws s v x) (h' : Wk ws s u x) : v = u := by
  have := h.last.symm.trans h'.last
  simpa using this
include hp in
theorem Wk.len {v : Int} {x : Pth} (h : Wk ws s v x) : (x.2.length : Int) ≤ x.1 + 1 := by
  induction h with
  | nil => simp
  | step h e ih =>
    have := hp _ _ _ e
    simp [extP]
    omega
include hp in
/-- a front part of a walk -/
theorem Wk.front {v : Int} {x : Pth} (h : Wk ws s v x) : ∀ (p r : List Int), x.2 = p ++ r → p ≠ [] → r ≠ [] → ∃ u d, Wk ws s u (d, p) ∧ d < x.1 := by
  induction h with
  | nil =>
    intro p r e hp' hr
    have := congrArg List.length e
    cases p with
    | nil => exact absurd rfl hp'
    | cons a p =>
      cases r with
      | nil => exact absurd rfl hr
      | cons b r =>
        simp at this
  | @step u v f x h e ih =>
    intro p r er hp' hr
    have hf := hp _ _ _ e
    have er' : x.2 ++ [v] = p ++ r := er
    obtain ⟨r', b, rfl⟩ : ∃ r' b, r = r' ++ [b] := ⟨r.dropLast, r.getLast hr, (List.dropLast_concat_getLast hr).symm⟩
    rw [← List.append_assoc] at er'
    obtain ⟨e1, _⟩ := List.append_inj' er' rfl
    by_cases hr' : r' = []
    · subst hr'
      rw [List.append_nil] at e1
      refine ⟨u, x.1, ?_, by show x.1 < x.1 + f; omega⟩
      rw [← e1]
      exact h
    · obtain ⟨u', d, h1, h2⟩ := ih p r' e1 hp' hr'
      exact ⟨u', d, h1, by show d < x.1 + f; omega⟩
theorem lex_snoc : ∀ (p q : List Int) (v : Int), HT.lexLt p q = true → (∀ r, q = p ++ r → r = []) → HT.lexLt (p ++ [v]) (q ++ [v]) = true
  | [], q, v, h, hn => by
    have := hn q rfl
    subst this
    cases h
  | _ :: _, [], _, h, _ => by cases h
  | a :: p, b :: q, v, h, hn => by
    rw [List.cons_append, List.cons_append]
    rw [HT.lexLt_cons] at h ⊢
    by_cases e : a = b
    · subst e
      rw [if_pos rfl] at h ⊢
      exact lex_snoc p q v h fun r hr => hn r (by rw [hr]; rfl)
    · rw [if_neg e] at h ⊢
      exact h
include hp in
/-- what is least among the short ones stays so when both are made longer -/
theorem ext_le {u v f : Int} {x y : Pth} {k : Nat} (hx : Wk ws s u x) (hy : Wk ws s u y) (hk : y.2.length ≤ k) (hl : ∀ z, Wk ws s u z → z.2.length ≤ k → leP x z) : leP (extP x f v) (extP y f v) := by
  have h := hl y hy hk
  unfold leP ltP at h ⊢
  change (if y.1 + f = x.1 + f then HT.lexLt (y.2 ++ [v]) (x.2 ++ [v]) else decide (y.1 + f < x.1 + f)) = false
  by_cases e : y.1 = x.1
  · rw [if_pos e] at h
    rw [if_pos (by omega)]
    by_cases e2 : x.2 = y.2
    · rw [e2]
      exact lex_irr _
    · have hlt : HT.lexLt x.2 y.2 = true := by
        cases h3 : HT.lexLt x.2 y.2 with
        | true => rfl
        | false => exact absurd (lex_tot _ _ h3 h) e2
      have : HT.lexLt (x.2 ++ [v]) (y.2 ++ [v]) = true := by
        refine lex_snoc _ _ _ hlt fun r hr => ?_
        by_cases hr' : r = []
        · exact hr'
        · exfalso
          obtain ⟨u', d, h1, h2⟩ := hy.front hp x.2 r hr hx.ne hr'
          have eu : u = u' := by
            have q1 := hx.last
            have q2 : x.2.getLast? = some u' := h1.last
            rw [q1] at q2
            simpa using q2
          subst eu
          have hlen : x.2.length ≤ k := by
            have := congrArg List.length hr
            rw [List.length_append] at this
            omega
          have := hl (d, x.2) h1 hlen
          unfold leP ltP at this
          rw [if_neg (show ¬ d = x.1 by omega)] at this
          simp at this
          omega
      cases h4 : HT.lexLt (y.2 ++ [v]) (x.2 ++ [v]) with
      | false => rfl
      | true =>
        have := lex_trans _ _ _ this h4
        rw [lex_irr] at this
        cases this
  · rw [if_neg e] at h
    rw [if_neg (by omega)]
    simp at h ⊢
    omega
theorem ext_far {x : Pth} {f g v : Int} (h : f ≤ g) : leP (extP x f v) (extP x g v) := by
  unfold leP ltP extP
  simp only
  by_cases e : f = g
  · subst e
    rw [if_pos rfl]
    exact lex_irr _
  · rw [if_neg (by omega)]
    simp
    omega
theorem ext_more {x : Pth} {f v : Int} (h : 1 ≤ f) : leP x (extP x f v) := by
  unfold leP ltP extP
  simp only
  rw [if_neg (by omega)]
  simp
  omega
/-- the least walk to v -/
def Best (ws : List (List Int)) (s v : Int) (x : Pth) : Prop := Wk ws s v x ∧ ∀ y, Wk ws s v y → leP x y
theorem Best.uniq {v : Int} {x y : Pth} (h1 : Best ws s v x) (h2 : Best ws s v y) : x = y := leP_anti (h1.2 y h2.1) (h2.2 x h1.1)
/-! the relaxing of all ways -/
def Walks (ws : List (List Int)) (s : Int) (F : Int → Option Pth) : Prop := ∀ v x, F v = some x → Wk ws s v x
def BF (ws : List (List Int)) (s : Int) (r : Nat) (F : Int → Option Pth) : Prop := ∀ v y, Wk ws s v y → y.2.length ≤ r + 1 → ∃ x, F v = some x ∧ leP x y
/-- F is at least as good as G -/
def Btr (F G : Int → Option Pth) : Prop := ∀ v y, G v = some y → ∃ x, F v = some x ∧ leP x y
theorem Btr.refl (F : Int → Option Pth) : Btr F F := fun v y h => ⟨y, h, leP_refl _⟩
theorem Btr.trans {F G K : Int → Option Pth} (h1 : Btr F G) (h2 : Btr G K) : Btr F K := fun v y h => by
  obtain ⟨x, hx, l⟩ := h2 v y h
  obtain ⟨z, hz, l2⟩ := h1 v x hx
  exact ⟨z, hz, leP_trans l2 l⟩
theorem bf0 : BF ws s 0 (fun v => if v = s then some (0, [s]) else none) := by
  intro v y h hl
  cases h with
  | nil => exact ⟨_, if_pos rfl, leP_refl _⟩
  | step h e =>
    have := h.ne
    simp [extP] at hl
    exact absurd hl this
include hp in
theorem bf_step {r : Nat} {F G : Int → Option Pth} (hF : Walks ws s F) (h : BF ws s r F) (hb : Btr G F) (hr : ∀ u v f x, F u = some x → Edg ws u v f → ∃ z, G v = some z ∧ leP z (extP x f v)) : BF ws s (r + 1) G := by
  intro v y hy hl
  cases hy with
  | nil =>
    obtain ⟨x, hx, l⟩ := h s (0, [s]) .nil (by simp)
    obtain ⟨z, hz, l2⟩ := hb _ _ hx
    exact ⟨z, hz, leP_trans l2 l⟩
  | @step u _ f y hy e =>
    have hl' : y.2.length ≤ r + 1 := by
      simp [extP] at hl
      exact hl
    obtain ⟨x, hx, _⟩ := h u y hy hl'
    obtain ⟨z, hz, l⟩ := hr u v f x hx e
    refine ⟨z, hz, leP_trans l (ext_le hp (hF _ _ hx) hy hl' fun w hw hwl => ?_)⟩
    obtain ⟨x', hx', l'⟩ := h u w hw hwl
    rw [hx] at hx'
    cases hx'
    exact l'
include hp in
theorem bf_all {F : Int → Option Pth} (hF : Walks ws s F) (h0 : BF ws s 0 F) (hr : ∀ u v f x, F u = some x → Edg ws u v f → ∃ z, F v = some z ∧ leP z (extP x f v)) : ∀ r, BF ws s r F
  | 0 => h0
  | r + 1 => bf_step hp hF (bf_all hF h0 hr r) (Btr.refl F) hr
theorem bf_best {F : Int → Option Pth} (hF : Walks ws s F) (h : ∀ r, BF ws s r F) {v : Int} {x : Pth} (hx : F v = some x) : Best ws s v x := by
  refine ⟨hF _ _ hx, fun y hy => ?_⟩
  obtain ⟨z, hz, l⟩ := h y.2.length v y hy (by omega)
  rw [hx] at hz
  cases hz
  exact l
include hp in
/-- far enough: nothing gets better -/
theorem bf_far {D r : Nat} {F : Int → Option Pth} (hF : Walks ws s F) (h : BF ws s r F) (hD : D ≤ r) (hreach : ∀ v y, Wk ws s v y → ∃ z, Wk ws s v z ∧ z.1 ≤ D) : ∀ v y, Wk ws s v y → ∃ x, F v = some x ∧ leP x y := by
  intro v y hy
  obtain ⟨z, hz, hzD⟩ := hreach v y hy
  have hzl := hz.len hp
  obtain ⟨x, hx, l⟩ := h v z hz (by omega)
  by_cases hyD : y.1 ≤ D
  · have := hy.len hp
    exact h v y hy (by omega)
  · refine ⟨x, hx, ?_⟩
    have hxz : x.1 ≤ z.1 := by
      unfold leP ltP at l
      by_cases e : z.1 = x.1
      · omega
      · rw [if_neg e] at l
        simp at l
        omega
    unfold leP ltP
    rw [if_neg (by omega)]
    simp
    omega
/-! the least that waits -/
structure Dij (ws : List (List Int)) (s : Int) (F : Int → Option Pth) (Wt : List Pth) : Prop where
  best : ∀ v x, F v = some x → Best ws s v x
  walk : ∀ x ∈ Wt, ∃ v, Wk ws s v x
  ext : ∀ u x v f, F u = some x → Edg ws u v f → F v = none → ∃ w ∈ Wt, Wk ws s v w ∧ leP w (extP x f v)
  beg : F s = none → (0, [s]) ∈ Wt
theorem Dij.start : Dij ws s (fun _ => none) [(0, [s])] where
  best := fun v x h => by cases h
  walk := fun x h => by
    simp at h
    subst h
    exact ⟨s, .nil⟩
  ext := fun u x v f h => by cases h
  beg := fun _ => by simp
include hp in
theorem Dij.waits {F : Int → Option Pth} {Wt : List Pth} (d : Dij ws s F Wt) {z : Int} {y : Pth} (hy : Wk ws s z y) : F z = none → ∃ w ∈ Wt, leP w y := by
  induction hy with
  | nil => exact fun h => ⟨_, d.beg h, leP_refl _⟩
  | @step u v f y hy e ih =>
    intro hz
    cases hu : F u with
    | none =>
      obtain ⟨w, hw, l⟩ := ih hu
      exact ⟨w, hw, leP_trans l (ext_more (hp _ _ _ e))⟩
    | some x =>
      obtain ⟨w, hw, _, l⟩ := d.ext u x v f hu e hz
      have hb := d.best u x hu
      exact ⟨w, hw, leP_trans l (ext_le hp hb.1 hy (Nat.le_refl _) fun q hq _ => hb.2 q hq)⟩
include hp in
theorem Dij.least {F : Int → Option Pth} {Wt : List Pth} (d : Dij ws s F Wt) {v : Int} {x : Pth} (hx : x ∈ Wt) (hl : ∀ y ∈ Wt, leP x y) (hv : Wk ws s v x) (hF : F v = none) : Best ws s v x :=
  ⟨hv, fun y hy => by
    obtain ⟨w, hw, l⟩ := d.waits hp hy hF
    exact leP_trans (hl w hw) l⟩
/-- taken out, its end known -/
theorem Dij.drop {F : Int → Option Pth} {Wt Wt' : List Pth} (d : Dij ws s F Wt) {v : Int} {x : Pth} (hv : Wk ws s v x) (hF : F v ≠ none) (hs : ∀ y ∈ Wt', y ∈ Wt) (hk : ∀ y ∈ Wt, y ≠ x → y ∈ Wt') : Dij ws s F Wt' where
  best := d.best
  walk := fun y hy => d.walk y (hs y hy)
  ext := fun u y z f hu e hz => by
    obtain ⟨w, hw, h1, l⟩ := d.ext u y z f hu e hz
    refine ⟨w, hk w hw (fun q => ?_), h1, l⟩
    rw [q] at h1
    rw [← h1.ends hv] at hF
    exact hF hz
  beg := fun h => by
    refine hk _ (d.beg h) fun q => ?_
    rw [← q] at hv
    have : v = s := hv.ends .nil
    rw [this] at hF
    exact hF h
/-- taken out, its end new -/
theorem Dij.settle {F : Int → Option Pth} {Wt Wt' : List Pth} (d : Dij ws s F Wt) {v : Int} {x : Pth} (hb : Best ws s v x) (hs : ∀ y ∈ Wt', y ∈ Wt ∨ ∃ z, Wk ws s z y) (hk : ∀ y ∈ Wt, y ≠ x → y ∈ Wt')
    (hn : ∀ z f, Edg ws v z f → F z = none → z ≠ v → ∃ w ∈ Wt', Wk ws s z w ∧ leP w (extP x f z)) : Dij ws s (fun z => if z = v then some x else F z) Wt' where
  best := fun z y h => by
    by_cases e : z = v
    · rw [if_pos e] at h
      cases h
      rw [e]
      exact hb
    · rw [if_neg e] at h
      exact d.best z y h
  walk := fun y hy => (hs y hy).elim (d.walk y) id
  ext := fun u y z f hu e hz => by
    by_cases ez : z = v
    · rw [if_pos ez] at hz
      cases hz
    · rw [if_neg ez] at hz
      by_cases eu : u = v
      · rw [if_pos eu] at hu
        cases hu
        rw [eu] at e
        exact hn z f e hz ez
      · rw [if_neg eu] at hu
        obtain ⟨w, hw, h1, l⟩ := d.ext u y z f hu e hz
        exact ⟨w, hk w hw (fun q => ez (by rw [q] at h1; exact h1.ends hb.1)), h1, l⟩
  beg := fun h => by
    by_cases e : s = v
    · rw [if_pos e] at h
      cases h
    · rw [if_neg e] at h
      exact hk _ (d.beg h) fun q => e (by
        have := hb.1
        rw [← q] at this
        exact (this.ends .nil).symm)
end
end Cv
end
section
/-! the links of a net -/
namespace Cv
open PySem L2
abbrev Lnk := Int → Int → Option (Int × Int)
def LinkS (S : List (Int × Int × Int × Int)) (G : Lnk) : Prop := ∀ a b, (∀ f l, G a b = some (f, l) → (a, b, f, l) ∈ S) ∧ ∀ f l, (a, b, f, l) ∈ S → ∃ g k, G a b = some (g, k) ∧ HT.lexLt [f, l] [g, k] = false
def putG (G : Lnk) (a b : Int) (x : Int × Int) : Lnk := fun a' b' => if a' = a ∧ b' = b then some x else G a' b'
theorem LinkS.nil : LinkS [] (fun _ _ => none) := fun a b => ⟨fun f l h => (by cases h), fun f l h => by cases h⟩
theorem LinkS.put {S : List (Int × Int × Int × Int)} {G : Lnk} (h : LinkS S G) {a b f l : Int} (hn : ∀ g k, G a b = some (g, k) → HT.lexLt [f, l] [g, k] = true) : LinkS (S ++ [(a, b, f, l)]) (putG G a b (f, l)) := by
  intro a' b'
  unfold putG
  by_cases e : a' = a ∧ b' = b
  · obtain ⟨rfl, rfl⟩ := e
    simp only [and_self, if_true]
    refine ⟨fun g k hg => ?_, fun g k hg => ⟨f, l, rfl, ?_⟩⟩
    · simp at hg
      simp [hg.1, hg.2]
    · rcases List.mem_append.1 hg with hg | hg
      · obtain ⟨g', k', h1, h2⟩ := (h a' b').2 g k hg
        have h3 := hn g' k' h1
        cases h4 : HT.lexLt [g, k] [f, l] with
        | false => rfl
        | true => rw [lex_trans _ _ _ h4 h3] at h2; cases h2
      · simp at hg
        rw [hg.1, hg.2]
        exact lex_irr _
  · rw [if_neg e]
    refine ⟨fun g k hg => List.mem_append.2 (.inl ((h a' b').1 g k hg)), fun g k hg => ?_⟩
    rcases List.mem_append.1 hg with hg | hg
    · exact (h a' b').2 g k hg
    · simp at hg
      exact absurd ⟨hg.1, hg.2.1⟩ e
theorem LinkS.pass {S : List (Int × Int × Int × Int)} {G : Lnk} (h : LinkS S G) {a b f l g k : Int} (hg : G a b = some (g, k)) (hn : HT.lexLt [f, l] [g, k] = false) : LinkS (S ++ [(a, b, f, l)]) G := by
  intro a' b'
  refine ⟨fun g' k' hg' => List.mem_append.2 (.inl ((h a' b').1 g' k' hg')), fun g' k' hg' => ?_⟩
  rcases List.mem_append.1 hg' with hg' | hg'
  · exact (h a' b').2 g' k' hg'
  · simp at hg'
    obtain ⟨rfl, rfl, rfl, rfl⟩ := hg'
    exact ⟨g, k, hg, hn⟩
/-- both directions of a way -/
def dir2 : List Int → List (Int × Int × Int × Int)
  | [a, b, l, f] => [(a, b, f, l), (b, a, f, l)]
  | _ => []
def dirs (ws : List (List Int)) : List (Int × Int × Int × Int) := ws.flatMap dir2
theorem mem_dirs {ws : List (List Int)} {a b f l : Int} : (a, b, f, l) ∈ dirs ws ↔ ([a, b, l, f] ∈ ws ∨ [b, a, l, f] ∈ ws) := by
  unfold dirs
  rw [List.mem_flatMap]
  constructor
  · rintro ⟨x, hx, h⟩
    unfold dir2 at h
    split at h
    · simp at h
      rcases h with ⟨rfl, rfl, rfl, rfl⟩ | ⟨rfl, rfl, rfl, rfl⟩
      · exact .inl hx
      · exact .inr hx
    · cases h
  · rintro (h | h)
    · exact ⟨_, h, by simp [dir2]⟩
    · exact ⟨_, h, by simp [dir2]⟩
theorem dirs_take {ws : List (List Int)} {i : Nat} {x : List Int} (h : ws[i]? = some x) : dirs (ws.take (i + 1)) = dirs (ws.take i) ++ dir2 x := by
  unfold dirs
  rw [List.take_add_one, h, List.flatMap_append]
  simp
/-- the dict of links as it stands -/
structure LkAt (H : Hp) (kvs : List (List Key × V)) (G : Lnk) : Prop where
  key : ∀ k v, (k, v) ∈ kvs → ∃ a b : Int, k = [Sum.inl a, Sum.inl b]
  non : ∀ a b, G a b = none → valV kvs [Sum.inl a, Sum.inl b] = none
  val : ∀ a b f l, G a b = some (f, l) → ∃ p, valV kvs [Sum.inl a, Sum.inl b] = some (.ref p) ∧ H p = some (.tup [.int f, .int l])
theorem LkAt.nil {H : Hp} : LkAt H [] (fun _ _ => none) := ⟨fun _ _ h => (by cases h), fun _ _ _ => rfl, fun _ _ _ _ h => by cases h⟩
theorem LkAt.keep {H H' : Hp} {kvs : List (List Key × V)} {G : Lnk} (h : LkAt H kvs G) (e : ∀ b o, H b = some o → (∀ l, o ≠ .lst l) → (∀ l, o ≠ .dK l) → (∀ l, o ≠ .dT l) → H' b = some o) : LkAt H' kvs G :=
  ⟨h.key, h.non, fun a b f l hg => let ⟨p, h1, h2⟩ := h.val a b f l hg; ⟨p, h1, e _ _ h2 (by intro _ z; cases z) (by intro _ z; cases z) (by intro _ z; cases z)⟩⟩
theorem mem_putK {κ : Type} [DecidableEq κ] {kvs : List (κ × V)} {k k' : κ} {v v' : V} (h : (k', v') ∈ putK kvs k v) : k' = k ∨ (k', v') ∈ kvs := by
  unfold putK at h
  split at h
  · obtain ⟨kv, h1, h2⟩ := List.mem_map.1 h
    split at h2
    · rename_i e
      injection h2 with h3 h4
      exact .inl (h3 ▸ e)
    · exact .inr (h2 ▸ h1)
  · rcases List.mem_append.1 h with h | h
    · exact .inr h
    · simp at h
      exact .inl h.1
theorem LkAt.put {H : Hp} {kvs : List (List Key × V)} {G : Lnk} (h : LkAt H kvs G) {a b f l : Int} {p : Addr} (hp : H p = some (.tup [.int f, .int l])) : LkAt H (putK kvs [Sum.inl a, Sum.inl b] (.ref p)) (putG G a b (f, l)) := by
  refine ⟨fun k v hk => ?_, fun a' b' hg => ?_, fun a' b' f' l' hg => ?_⟩
  · rcases mem_putK hk with rfl | hk
    · exact ⟨a, b, rfl⟩
    · exact h.key k v hk
  · unfold putG at hg
    split at hg
    · cases hg
    · rename_i e
      rw [valV_put, if_neg (fun z => e (by simpa using z))]
      exact h.non a' b' hg
  · unfold putG at hg
    rw [valV_put]
    split at hg
    · rename_i e
      cases hg
      exact ⟨p, by rw [if_pos (by rw [e.1, e.2])], hp⟩
    · rename_i e
      rw [if_neg (fun z => e (by simpa using z))]
      exact h.val a' b' f' l' hg
theorem LkAt.some? {H : Hp} {kvs : List (List Key × V)} {G : Lnk} (h : LkAt H kvs G) (a b : Int) : (valV kvs [Sum.inl a, Sum.inl b]).isSome = (G a b).isSome := by
  cases hg : G a b with
  | none => rw [h.non a b hg]; rfl
  | some x =>
    obtain ⟨f, l⟩ := x
    obtain ⟨p, h1, _⟩ := h.val a b f l hg
    rw [h1]
    rfl
/-- a key that stands is a link -/
theorem LkAt.has {H : Hp} {kvs : List (List Key × V)} {G : Lnk} (h : LkAt H kvs G) {k : List Key} {v : V} (hk : (k, v) ∈ kvs) : ∃ a b f l p, k = [Sum.inl a, Sum.inl b] ∧ G a b = some (f, l) ∧ valV kvs k = some (.ref p) ∧ H p = some (.tup [.int f, .int l]) := by
  obtain ⟨a, b, rfl⟩ := h.key k v hk
  cases hg : G a b with
  | none =>
    have h1 := h.non a b hg
    have h2 := valV_any [Sum.inl a, Sum.inl b] kvs
    rw [h1] at h2
    have : (kvs.any fun kv => decide (kv.1 = [Sum.inl a, Sum.inl b])) = true := List.any_eq_true.2 ⟨_, hk, by simp⟩
    rw [this] at h2
    cases h2
  | some x =>
    obtain ⟨f, l⟩ := x
    obtain ⟨p, h1, h2⟩ := h.val a b f l hg
    exact ⟨a, b, f, l, p, rfl, hg, h1, h2⟩
/-- a link stands as a key -/
theorem LkAt.in {H : Hp} {kvs : List (List Key × V)} {G : Lnk} (h : LkAt H kvs G) {a b f l : Int} (hg : G a b = some (f, l)) : ∃ (i : Nat) (v : V), kvs[i]? = some ([Sum.inl a, Sum.inl b], v) := by
  obtain ⟨p, h1, _⟩ := h.val a b f l hg
  unfold valV at h1
  obtain ⟨kv, h2, _⟩ := Option.map_eq_some_iff.1 h1
  have h3 := List.mem_of_find?_eq_some h2
  have h4 := List.find?_some h2
  obtain ⟨i, hi, e⟩ := List.getElem_of_mem h3
  refine ⟨i, kv.2, ?_⟩
  rw [List.getElem?_eq_getElem hi, e]
  simp at h4
  rw [← h4]
/-- d[t] of a locked dict -/
def uIxF : R2 := fun x y H Q => match x with
  | .ref p => (match H p with
    | some (.frz _ (.dT kvs)) => (match y with
      | .ref t => (match H t with
        | some (.tup xs) => (match keysV xs with
          | some k => ∃ v, valV kvs k = some v ∧ Q v H
          | none => False)
        | _ => False)
      | _ => False)
    | _ => False)
  | _ => False
theorem u_ixF {X : Cx} (hu : X.A.units + 1 < cLine) : IxR X uIxF := by
  intro value slice pins s σ H x y v u Q I rx ry h hs
  unfold uIxF at h
  split at h
  · rename_i p
    split at h
    · rename_i o kvs e
      split at h
      · rename_i t
        split at h
        · rename_i xs et
          split at h
          · rename_i k ek
            have ex := keysV_is ek
            subst ex
            obtain ⟨w', e1, q⟩ := h
            exact ix_dict hu value slice pins s σ H _ _ v u Q I rx ry ⟨_, _, rfl, e1 ▸ .inr ⟨kvs, k, t, .inr ⟨o, e⟩, rfl, et, rfl⟩, q⟩ hs
          · exact h.elim
        · exact h.elim
      · exact h.elim
    · exact h.elim
  · exact h.elim
end Cv
end
section
/-! every yard is reached -/
namespace Cv
open PySem L2
theorem Edg.symm {ws : List (List Int)} {u v f : Int} (h : Edg ws u v f) : Edg ws v u f := let ⟨l, h⟩ := h; ⟨l, h.symm⟩
theorem edg_in {n : Nat} {ws : List (List Int)} (hw : ∀ x ∈ ws, WayOk n x) {u v f : Int} (h : Edg ws u v f) : (0 ≤ u ∧ u < n) ∧ (0 ≤ v ∧ v < n) ∧ 1 ≤ f := by
  obtain ⟨l, h | h⟩ := h
  · obtain ⟨a, b, l', f', e, h1, h2, h3, h4, h5, h6, h7⟩ := hw _ h
    cases e
    omega
  · obtain ⟨a, b, l', f', e, h1, h2, h3, h4, h5, h6, h7⟩ := hw _ h
    cases e
    omega
theorem edg_pos {n : Nat} {ws : List (List Int)} (hw : ∀ x ∈ ws, WayOk n x) : ∀ u v f, Edg ws u v f → 1 ≤ f := fun u v f h => (edg_in hw h).2.2
theorem wk_in {n : Nat} {ws : List (List Int)} (hw : ∀ x ∈ ws, WayOk n x) {s : Int} (hs : 0 ≤ s ∧ s < n) {v : Int} {x : Pth} (h : Wk ws s v x) : 0 ≤ v ∧ v < n := by
  cases h with
  | nil => exact hs
  | step _ e => exact (edg_in hw e).2.1
theorem reach_all {n : Nat} {ws : List (List Int)} (hw : ∀ x ∈ ws, WayOk n x) (hj : Joined n ws) {s : Int} (hs : 0 ≤ s ∧ s < n) {v : Int} (hv : 0 ≤ v ∧ v < n) : ∃ x, Wk ws s v x := by
  have key : ∀ k : Nat, k < n → ((∃ x, Wk ws s k x) ↔ ∃ x, Wk ws s 0 x) := by
    intro k
    induction k using Nat.strongRecOn with
    | ind k ih =>
      intro hk
      by_cases hz : k = 0
      · subst hz
        exact Iff.rfl
      · obtain ⟨x, hx, a, l, f, rfl⟩ := hj k (by omega) (by omega)
        obtain ⟨a', b', l', f', e, h1, h2, h3, _⟩ := hw _ hx
        cases e
        have ha := ih a.toNat (by omega) (by omega)
        rw [Int.toNat_of_nonneg h1] at ha
        rw [← ha]
        have hE : Edg ws a k f := ⟨l, .inl hx⟩
        exact ⟨fun ⟨y, hy⟩ => ⟨_, .step hy hE.symm⟩, fun ⟨y, hy⟩ => ⟨_, .step hy hE⟩⟩
  have h1 := (key s.toNat (by omega)).1 (by rw [Int.toNat_of_nonneg hs.1]; exact ⟨_, .nil⟩)
  have h2 := (key v.toNat (by omega)).2 h1
  rwa [Int.toNat_of_nonneg hv.1] at h2
theorem linkS_edg {ws : List (List Int)} {G : Lnk} (h : LinkS (dirs ws) G) {a b f l : Int} (hg : G a b = some (f, l)) : Edg ws a b f := ⟨l, mem_dirs.1 ((h a b).1 f l hg)⟩
theorem linkS_le {ws : List (List Int)} {G : Lnk} (h : LinkS (dirs ws) G) {a b f : Int} (he : Edg ws a b f) : ∃ g k, G a b = some (g, k) ∧ g ≤ f := by
  obtain ⟨l, he⟩ := he
  obtain ⟨g, k, h1, h2⟩ := (h a b).2 f l (mem_dirs.2 he)
  refine ⟨g, k, h1, ?_⟩
  rw [HT.lexLt_cons] at h2
  by_cases e : f = g
  · omega
  · rw [if_neg e] at h2
    simp at h2
    omega
theorem pDs_shaped (xs : List Pth) : PySem.SeqAt.shaped (.list (xs.map pD)) = true := by
  have h1 : ∀ l : List Int, PyData.canLayAll0 (l.map .int) = true := fun l => by
    induction l with
    | nil => rfl
    | cons a r ih =>
      show (true && _) = true
      rw [ih]
      rfl
  have h2 : PyData.canLayAll0 (xs.map pD) = true := by
    induction xs with
    | nil => rfl
    | cons x r ih =>
      show ((true && (PyData.canLayAll0 (x.2.map .int) && true)) && _) = true
      rw [h1, ih]
      rfl
  have h3 := pDs_depth xs
  unfold PySem.SeqAt.shaped
  rw [Bool.and_eq_true]
  refine ⟨h2, decide_eq_true ?_⟩
  simp only [PyData.depth]
  omega
theorem Fnd.add {n : Nat} {ks : List Int} (h : Fnd n ks) {v : Int} (hv : 0 ≤ v ∧ v < n) (hn : v ∉ ks) : Fnd n (v :: ks) :=
  ⟨List.nodup_cons.2 ⟨hn, h.nd⟩, fun x hx => (List.mem_cons.1 hx).elim (fun e => e ▸ hv) (h.bd x)⟩
theorem isaV_ref {H : Hp} {p : Addr} {T : String} : isaV H (.ref p) T = (match H p with
    | some (.lst _) => some (T == "list")
    | some (.tup _) => some (T == "tuple")
    | some (.frz _ (.tup _)) => some (T == "tuple")
    | some (.dK _) => some (T == "dict")
    | some (.dT _) => some (T == "dict")
    | _ => none) := rfl
theorem isa_mono {H H' : Hp} {x : V} {T : String} (e : Same H H') (h : (isaV H x T).isSome = true) : (isaV H' x T).isSome = true := by
  cases x with
  | ref p =>
    rw [isaV_ref] at h ⊢
    split at h
    all_goals first
      | (rename_i q; rw [e _ _ q]; rfl)
      | exact absurd h Bool.false_ne_true
  | _ => exact h
end Cv
end
section
/-! The V layer: what a text computes, told over data (trees), not over the heap.
  Sh Z H v d: the value v stands for the data d, all of it locked (never written again).
  Ow: an own list or dict (its items are locked data), that may be written. -/
namespace Cv
open PySem L2
abbrev D := PyData
/-- the program, the world, the written part -/
structure Zx where
  P : Program
  w : World
  K : PySem.W.Frag
/-! a key of a dict, up to == -/
mutual
def nk : D → Option NestedKey
  | .none => some .none
  | .bool b => some (.num (if b = true then 1 else 0))
  | .int i => some (.num i)
  | .str x => some (.text x)
  | .tuple xs => match nkAll xs with
    | some ks => some (.tup ks)
    | none => none
  | .list _ => none
  | .dict _ => none
def nkAll : List D → Option (List NestedKey)
  | [] => some []
  | x :: xs => match nk x, nkAll xs with
    | some k, some ks => some (k :: ks)
    | _, _ => none
end
/-- a dict whose keys are tuples, nested -/
def oN (Z : Zx) (a : Addr) (kvs : List (NestedKey × Addr × V)) : HO := .ext fun h => (a == sysModules) = false ∧ kvs.length ≤ sizeLine ∧ ∃ xs : List (NestedKey × Addr × Value),
  Paired (fun (p : NestedKey × Addr × V) (q : NestedKey × Addr × Value) => p.1 = q.1 ∧ p.2.1 = q.2.1 ∧ RelV p.2.2 q.2.2) kvs xs ∧
  ∃ o es ep, h.get? a = some o ∧ o.ExactDict ∧ o.data = .dict es ep ∧ es.toList = xs.map (entryOfKey (nestedKind Z.P Z.w)) ∧ (xs.map (·.1)).Nodup
/-- a tuple, locked or of the written part, that has no attributes -/
def TupAt (Z : Zx) (H : Hp) (a : Addr) (vs : List V) : Prop :=
  (∃ o : Obj, o.dict = none ∧ H a = some (.frz o (.tup vs))) ∨
  ∃ (o : Obj) (its : Array Value) (n : Nat), Z.K.lookup a = some o ∧ o.cls = .type "tuple" ∧ o.dict = none ∧ o.data = .seq its n ∧ its.size ≤ sizeLine ∧ Vals vs its.toList
/-- a list, locked or of the written part -/
def LstAt (Z : Zx) (H : Hp) (a : Addr) (vs : List V) : Prop :=
  (∃ o : Obj, H a = some (.frz o (.lst vs))) ∨ ∃ (its : List Value) (n : Nat), Z.K.lookup a = some { cls := .type "list", data := .seq its.toArray n } ∧ vs.length ≤ sizeLine ∧ Vals vs its
def keyD : Key → D
  | .inl i => .int i
  | .inr x => .str x
mutual
inductive Sh (Z : Zx) (H : Hp) : V → D → Prop
  | non : Sh Z H .non .none
  | bl (b : Bool) : Sh Z H (.bl b) (.bool b)
  | int (i : Int) : Sh Z H (.int i) (.int i)
  | str (x : Str) : Sh Z H (.str x) (.str x)
  | tup {a : Addr} {vs : List V} {ds : List D} : TupAt Z H a vs → ShAll Z H vs ds → Sh Z H (.ref a) (.tuple ds)
  | lst {a : Addr} {vs : List V} {ds : List D} : LstAt Z H a vs → ShAll Z H vs ds → Sh Z H (.ref a) (.list ds)
  | dK {a : Addr} {o : Obj} {kvs : List (Key × V)} {ds : List (D × D)} : H a = some (.frz o (.dK kvs)) → ShKv Z H kvs ds → Sh Z H (.ref a) (.dict ds)
  | dN {a : Addr} {o : Obj} {kvs : List (NestedKey × Addr × V)} {ds : List (D × D)} : H a = some (.frz o (oN Z a kvs)) → ShN Z H kvs ds → ds ≠ [] → Sh Z H (.ref a) (.dict ds)
inductive ShN (Z : Zx) (H : Hp) : List (NestedKey × Addr × V) → List (D × D) → Prop
  | nil : ShN Z H [] []
  | cons {k : NestedKey} {b : Addr} {v : V} {vs : List (NestedKey × Addr × V)} {ks : List D} {d : D} {ds : List (D × D)} : Sh Z H (.ref b) (.tuple ks) → nk (.tuple ks) = some k → k.depth ≤ 8 → Sh Z H v d → ShN Z H vs ds → ShN Z H ((k, b, v) :: vs) ((.tuple ks, d) :: ds)
inductive ShAll (Z : Zx) (H : Hp) : List V → List D → Prop
  | nil : ShAll Z H [] []
  | cons {v : V} {vs : List V} {d : D} {ds : List D} : Sh Z H v d → ShAll Z H vs ds → ShAll Z H (v :: vs) (d :: ds)
inductive ShKv (Z : Zx) (H : Hp) : List (Key × V) → List (D × D) → Prop
  | nil : ShKv Z H [] []
  | cons {k : Key} {v : V} {vs : List (Key × V)} {d : D} {ds : List (D × D)} : Sh Z H v d → ShKv Z H vs ds → ShKv Z H ((k, v) :: vs) ((keyD k, d) :: ds)
end
/-- what is locked stays -/
def Fz (H H' : Hp) : Prop := ∀ a o u, H a = some (.frz o u) → H' a = some (.frz o u)
theorem Fz.refl (H : Hp) : Fz H H := fun _ _ _ h => h
theorem Fz.trans {H H1 H2 : Hp} (a : Fz H H1) (b : Fz H1 H2) : Fz H H2 := fun p o u h => b p o u (a p o u h)
theorem Same.fz {H H' : Hp} (h : Same H H') : Fz H H' := fun a o u e => h a _ e
section
variable {Z : Zx} {H H' : Hp}
theorem TupAt.keep {a : Addr} {vs : List V} (h : TupAt Z H a vs) (f : Fz H H') : TupAt Z H' a vs := by
  rcases h with ⟨o, hd, e⟩ | h
  · exact .inl ⟨o, hd, f _ _ _ e⟩
  · exact .inr h
theorem LstAt.keep {a : Addr} {vs : List V} (h : LstAt Z H a vs) (f : Fz H H') : LstAt Z H' a vs := by
  rcases h with ⟨o, e⟩ | h
  · exact .inl ⟨o, f _ _ _ e⟩
  · exact .inr h
/-- a list to be read -/
def LstR (Z : Zx) (H : Hp) (a : Addr) (vs : List V) : Prop := Rd H a (.lst vs) ∨ ∃ (its : List Value) (n : Nat), Z.K.lookup a = some { cls := .type "list", data := .seq its.toArray n } ∧ vs.length ≤ sizeLine ∧ Vals vs its
theorem LstAt.r {a : Addr} {vs : List V} (h : LstAt Z H a vs) : LstR Z H a vs := by
  rcases h with ⟨o, e⟩ | h
  · exact .inl (.inr ⟨o, e⟩)
  · exact .inr h
theorem LstR.sq {a : Addr} {vs : List V} (h : LstR Z H a vs) : SqL Z.K H a vs := by
  rcases h with h | ⟨its, n, e, hz, rv⟩
  · exact .inl h
  · refine .inr ⟨_, its.toArray, n, e, rfl, rfl, rfl, ?_, by simpa using rv⟩
    have := rv.length
    rw [List.size_toArray]; omega
theorem TupAt.sq {a : Addr} {vs : List V} (h : TupAt Z H a vs) : SqT Z.K H a vs := by
  rcases h with ⟨o, _, e⟩ | ⟨o, its, n, h1, h2, _, h3⟩
  · exact .inl (.inr ⟨o, e⟩)
  · exact .inr ⟨o, its, n, h1, h2, h3⟩
mutual
theorem Sh.keep (f : Fz H H') : ∀ (d : D) (v : V), Sh Z H v d → Sh Z H' v d
  | .none, _, h => by cases h; exact .non
  | .bool b, _, h => by cases h; exact .bl b
  | .int i, _, h => by cases h; exact .int i
  | .str x, _, h => by cases h; exact .str x
  | .list ds, _, h => by
    cases h with
    | lst e a => exact .lst (e.keep f) (ShAll.keep f ds _ a)
  | .tuple ds, _, h => by
    cases h with
    | tup e a => exact .tup (e.keep f) (ShAll.keep f ds _ a)
  | .dict ds, _, h => by
    cases h with
    | dK e a => exact .dK (f _ _ _ e) (ShKv.keep f ds _ a)
    | dN e a n => exact .dN (f _ _ _ e) (ShN.keep f ds _ a) n
theorem ShN.keep (f : Fz H H') : ∀ (ds : List (D × D)) (vs : List (NestedKey × Addr × V)), ShN Z H vs ds → ShN Z H' vs ds
  | [], _, h => by cases h; exact .nil
  | d :: ds, _, h => by
    cases h with
    | cons h1 h2 h3 h4 h5 => exact .cons (Sh.keep f _ _ h1) h2 h3 (Sh.keep f _ _ h4) (ShN.keep f ds _ h5)
theorem ShAll.keep (f : Fz H H') : ∀ (ds : List D) (vs : List V), ShAll Z H vs ds → ShAll Z H' vs ds
  | [], _, h => by cases h; exact .nil
  | d :: ds, _, h => by
    cases h with
    | cons h1 h2 => exact .cons (Sh.keep f d _ h1) (ShAll.keep f ds _ h2)
theorem ShKv.keep (f : Fz H H') : ∀ (ds : List (D × D)) (vs : List (Key × V)), ShKv Z H vs ds → ShKv Z H' vs ds
  | [], _, h => by cases h; exact .nil
  | d :: ds, _, h => by
    cases h with
    | cons h1 h2 => exact .cons (Sh.keep f _ _ h1) (ShKv.keep f ds _ h2)
end
theorem Sh.up {v : V} {d : D} (h : Sh Z H v d) (f : Fz H H') : Sh Z H' v d := Sh.keep f d v h
theorem ShAll.up {v : List V} {d : List D} (h : ShAll Z H v d) (f : Fz H H') : ShAll Z H' v d := ShAll.keep f d v h
theorem ShKv.up {v : List (Key × V)} {d : List (D × D)} (h : ShKv Z H v d) (f : Fz H H') : ShKv Z H' v d := ShKv.keep f d v h
theorem ShN.up {v : List (NestedKey × Addr × V)} {d : List (D × D)} (h : ShN Z H v d) (f : Fz H H') : ShN Z H' v d := ShN.keep f d v h
theorem ShAll.length : ∀ {vs : List V} {ds : List D}, ShAll Z H vs ds → vs.length = ds.length
  | [], _, h => by cases h; rfl
  | v :: vs, _, h => by
    cases h with
    | cons h1 h2 => simp [ShAll.length h2]
theorem ShAll.append : ∀ {vs ws : List V} {ds es : List D}, ShAll Z H vs ds → ShAll Z H ws es → ShAll Z H (vs ++ ws) (ds ++ es)
  | [], _, _, _, h, g => by cases h; exact g
  | v :: vs, _, _, _, h, g => by
    cases h with
    | cons h1 h2 => exact .cons h1 (h2.append g)
theorem ShAll.drop : ∀ {vs : List V} {ds : List D} (n : Nat), ShAll Z H vs ds → ShAll Z H (vs.drop n) (ds.drop n)
  | _, _, 0, h => h
  | [], _, n + 1, h => by cases h; simp; exact .nil
  | v :: vs, _, n + 1, h => by
    cases h with
    | cons h1 h2 => simpa using h2.drop n
theorem ShAll.take : ∀ {vs : List V} {ds : List D} (n : Nat), ShAll Z H vs ds → ShAll Z H (vs.take n) (ds.take n)
  | _, _, 0, h => by simp; exact .nil
  | [], _, n + 1, h => by cases h; simp; exact .nil
  | v :: vs, _, n + 1, h => by
    cases h with
    | cons h1 h2 => simpa using ShAll.cons h1 (h2.take n)
theorem ShAll.get : ∀ {vs : List V} {ds : List D} {i : Nat} {d : D}, ShAll Z H vs ds → ds[i]? = some d → ∃ v, vs[i]? = some v ∧ Sh Z H v d
  | [], _, i, d, h, e => by cases h; simp at e
  | v :: vs, _, 0, d, h, e => by
    cases h with
    | cons h1 h2 => simp at e; subst e; exact ⟨v, rfl, h1⟩
  | v :: vs, _, i + 1, d, h, e => by
    cases h with
    | cons h1 h2 => simp at e; simpa using h2.get e
theorem ShAll.get' : ∀ {vs : List V} {ds : List D} {i : Nat} {v : V}, ShAll Z H vs ds → vs[i]? = some v → ∃ d, ds[i]? = some d ∧ Sh Z H v d
  | [], _, i, d, h, e => by cases h; simp at e
  | v :: vs, _, 0, d, h, e => by
    cases h with
    | cons h1 h2 => simp at e; subst e; exact ⟨_, rfl, h1⟩
  | v :: vs, _, i + 1, d, h, e => by
    cases h with
    | cons h1 h2 => simp at e; simpa using h2.get' e
theorem ShAll.set : ∀ {vs : List V} {ds : List D} {v : V} {d : D} (i : Nat), ShAll Z H vs ds → Sh Z H v d → ShAll Z H (vs.set i v) (ds.set i d)
  | [], _, _, _, i, h, g => by cases h; exact .nil
  | w :: vs, _, _, _, 0, h, g => by
    cases h with
    | cons h1 h2 => exact .cons g h2
  | w :: vs, _, _, _, i + 1, h, g => by
    cases h with
    | cons h1 h2 => exact .cons h1 (h2.set i g)
theorem ShAll.eraseIdx : ∀ {vs : List V} {ds : List D} (i : Nat), ShAll Z H vs ds → ShAll Z H (vs.eraseIdx i) (ds.eraseIdx i)
  | [], _, i, h => by cases h; simp; exact .nil
  | v :: vs, _, 0, h => by
    cases h with
    | cons h1 h2 => simpa using h2
  | v :: vs, _, i + 1, h => by
    cases h with
    | cons h1 h2 => simpa using ShAll.cons h1 (h2.eraseIdx i)
theorem ShAll.rep {vs : List V} {ds : List D} (h : ShAll Z H vs ds) : ∀ n : Nat, ShAll Z H (List.replicate n vs).flatten (List.replicate n ds).flatten
  | 0 => .nil
  | n + 1 => by
    rw [List.replicate_succ, List.replicate_succ, List.flatten_cons, List.flatten_cons]
    exact h.append (h.rep n)
theorem ShAll.ints : ∀ ns : List Int, ShAll Z H (ns.map V.int) (ns.map .int)
  | [] => .nil
  | n :: ns => .cons (.int n) (ShAll.ints ns)
theorem ShAll.strs : ∀ ns : List Str, ShAll Z H (ns.map V.str) (ns.map .str)
  | [] => .nil
  | n :: ns => .cons (.str n) (ShAll.strs ns)
/-- own: a list or a dict that may be written -/
inductive Ow (Z : Zx) (H : Hp) : V → D → Prop
  | lst {a : Addr} {vs : List V} {ds : List D} : H a = some (.lst vs) → ShAll Z H vs ds → Ow Z H (.ref a) (.list ds)
  | dK {a : Addr} {kvs : List (Key × V)} {ds : List (D × D)} : H a = some (.dK kvs) → ShKv Z H kvs ds → Ow Z H (.ref a) (.dict ds)
  | dN {a : Addr} {kvs : List (NestedKey × Addr × V)} {ds : List (D × D)} : H a = some (oN Z a kvs) → ShN Z H kvs ds → ds ≠ [] → Ow Z H (.ref a) (.dict ds)
/-- to be read -/
inductive Rp (Z : Zx) (H : Hp) : V → D → Prop
  | sh {v : V} {d : D} : Sh Z H v d → Rp Z H v d
  | ow {v : V} {d : D} : Ow Z H v d → Rp Z H v d
theorem Ow.mut {a : Addr} {d : D} (h : Ow Z H (.ref a) d) : Mut (H a) := by
  cases h with
  | lst e _ => rw [e]; trivial
  | dK e _ => rw [e]; trivial
  | dN e _ _ => rw [e]; trivial
/-- no table of code objects, no code object -/
structure NoTab (x : Option HO) : Prop where
  t : ∀ ps, x ≠ some (.tbl ps)
  c : ∀ c q, x ≠ some (LamX.CodeO c q)
theorem nt_none : NoTab none := ⟨fun _ => by simp, fun _ _ => by simp⟩
theorem nt_lst {xs : List V} : NoTab (some (.lst xs)) := ⟨fun _ => by simp, fun _ _ => by simp [LamX.CodeO]⟩
theorem nt_dK {xs : List (Key × V)} : NoTab (some (.dK xs)) := ⟨fun _ => by simp, fun _ _ => by simp [LamX.CodeO]⟩
theorem nt_oN {Z : Zx} {a : Addr} {kvs : List (NestedKey × Addr × V)} : NoTab (some (oN Z a kvs)) := ⟨fun _ => by simp [oN], fun c q z => by
  simp only [oN, LamX.CodeO, Option.some.injEq, HO.ext.injEq] at z
  have e := congrFun z ⟨Array.replicate (c + 1) { cls := .none, data := .fields #[.none, .str q default] }, {}⟩
  have g : ∀ b o, (Heap.mk (Array.replicate (c + 1) { cls := .none, data := .fields #[.none, .str q default] }) {}).get? b = some o → o = { cls := .none, data := .fields #[.none, .str q default] } := fun b o hb => by
    have := (Heap.get?_some_iff.mp hb).1
    simp only [Array.getElem?_replicate] at this
    split at this
    · exact (Option.some.inj this).symm
    · cases this
  have : ∃ (oc : Obj) (vs : Array Value) (t : Tok), (Heap.mk (Array.replicate (c + 1) { cls := .none, data := .fields #[.none, .str q default] }) {}).get? c = some oc ∧ oc.data = .fields vs ∧ vs[1]? = some (.str q t) :=
    ⟨{ cls := .none, data := .fields #[.none, .str q default] }, _, default, Heap.get?_some_iff.mpr ⟨by simp, rfl⟩, rfl, rfl⟩
  rw [← e] at this
  obtain ⟨_, _, xs, _, o, es, ep, h1, _, h3, _⟩ := this
  rw [g _ _ h1] at h3
  cases h3⟩
theorem Ow.noTab {a : Addr} {d : D} (h : Ow Z H (.ref a) d) : NoTab (H a) := by
  cases h with
  | lst e _ => rw [e]; exact nt_lst
  | dK e _ => rw [e]; exact nt_dK
  | dN e _ _ => rw [e]; exact nt_oN
theorem Ow.ref {v : V} {d : D} (h : Ow Z H v d) : ∃ a, v = .ref a := by
  cases h <;> exact ⟨_, rfl⟩
/-- an own thing that is not touched -/
theorem Ow.keep {a : Addr} {d : D} (h : Ow Z H (.ref a) d) (f : Fz H H') (e : H' a = H a) : Ow Z H' (.ref a) d := by
  cases h with
  | lst e1 h2 => exact .lst (e.trans e1) (h2.up f)
  | dK e1 h2 => exact .dK (e.trans e1) (h2.up f)
  | dN e1 h2 n => exact .dN (e.trans e1) (h2.up f) n
theorem Ow.frz {a : Addr} {d : D} (h : Ow Z H (.ref a) d) : ∃ u, H a = some u ∧ Mut (some u) ∧ ∀ o, Fz H (upd H a (.frz o u)) ∧ Sh Z (upd H a (.frz o u)) (.ref a) d := by
  have fz : ∀ u o, H a = some u → Mut (some u) → Fz H (upd H a (.frz o u)) := fun u o e m b o' u' e' => by
    have : b ≠ a := fun z => by
      subst z
      rw [e] at e'
      cases e'
      exact m
    rw [upd_ne this]; exact e'
  cases h with
  | lst e h2 => exact ⟨_, e, trivial, fun o => ⟨fz _ o e trivial, .lst (.inl ⟨o, upd_same⟩) (h2.up (fz _ o e trivial))⟩⟩
  | dK e h2 => exact ⟨_, e, trivial, fun o => ⟨fz _ o e trivial, .dK upd_same (h2.up (fz _ o e trivial))⟩⟩
  | dN e h2 n => exact ⟨_, e, trivial, fun o => ⟨fz _ o e trivial, .dN upd_same (h2.up (fz _ o e trivial)) n⟩⟩
end
end Cv
end
section
/-! The V layer: states, judgements. -/
namespace Cv
open PySem L2
/-- a slot: own (may be written), its data -/
structure Sl where
  o : Bool
  d : D
abbrev Ev := List (Option Sl)
/-- an exception: its class, its fields -/
structure Ex where
  c : String
  fs : List D
inductive R (α : Type) where
  | ok (a : α) (ρ : Ev)
  | ex (e : Ex)
abbrev M (α : Type) := Ev → Option (R α)
def ret {α : Type} (a : α) : M α := fun ρ => some (.ok a ρ)
def bnd {α β : Type} (m : M α) (k : α → M β) : M β := fun ρ => match m ρ with
  | some (.ok a ρ') => k a ρ'
  | some (.ex e) => some (.ex e)
  | none => none
def lft {α : Type} (o : Option α) : M α := fun ρ => match o with
  | some a => some (.ok a ρ)
  | none => none
/-- a list or a dict -/
def isC : D → Bool
  | .list _ => true
  | .dict _ => true
  | _ => false
/-- nothing but perhaps a table of code objects -/
def Nn (H : Hp) (p : Addr) : Prop := ∀ o, H p = some o → ∃ ps, o = .tbl ps
theorem Nn.of {H : Hp} {p : Addr} (h : H p = none) : Nn H p := fun o e => by rw [h] at e; cases e
/-- from H on to H': only what stands at S was changed; the tables of T are told -/
structure Mv (T : List (Addr × Str)) (S : List Addr) (H H' : Hp) : Prop where
  old : ∀ a o, H a = some o → a ∉ S → (∀ ps, o ≠ .tbl ps) → H' a = some o
  fz : Fz H H'
  dom : ∀ a o, H a = some o → (∀ ps, o ≠ .tbl ps) → ∃ o', H' a = some o' ∧ ∀ ps, o' ≠ .tbl ps
  tb : LamX.Tabs T H ∧ LamX.Tabs T H'
theorem Mv.refl {T : List (Addr × Str)} (S : List Addr) (H : Hp) (t : LamX.Tabs T H) : Mv T S H H := ⟨fun _ _ h _ _ => h, Fz.refl H, fun _ o h n => ⟨o, h, n⟩, t, t⟩
theorem Mv.same {T : List (Addr × Str)} {S : List Addr} {H H' : Hp} (h : Same H H') (t : LamX.Tabs T H) : Mv T S H H' := ⟨fun a o e _ _ => h a o e, Same.fz h, fun a o e n => ⟨o, h a o e, n⟩, t, t.ext h⟩
theorem Mv.trans {T : List (Addr × Str)} {S S' : List Addr} {H H1 H2 : Hp} (a : Mv T S H H1) (b : Mv T S' H1 H2) (hs : ∀ p ∈ S', p ∈ S ∨ Nn H p) : Mv T S H H2 := by
  refine ⟨fun p o e hp n => ?_, a.fz.trans b.fz, fun p o e n => let ⟨o1, e1, n1⟩ := a.dom p o e n; b.dom p o1 e1 n1, a.tb.1, b.tb.2⟩
  have np : p ∉ S' := fun z => (hs p z).elim hp (fun q => let ⟨ps, z⟩ := q o e; n ps z)
  exact b.old p o (a.old p o e hp n) np n
theorem Mv.upd {T : List (Addr × Str)} {S : List Addr} {H H1 : Hp} {p : Addr} {o : HO} (a : Mv T S H H1) (hp : Nn H p ∨ p ∈ S) (nf : ∀ o' u, H1 p ≠ some (.frz o' u)) (nt : NoTab (H1 p)) (no : ∀ ps, o ≠ .tbl ps) : Mv T S H (L2.upd H1 p o) := by
  refine ⟨fun b u e hb n => ?_, fun b o' u e => ?_, fun b u e n => ?_, a.tb.1, fun r hr => ?_⟩
  · have ne : b ≠ p := fun z => by
      subst z
      rcases hp with h | h
      · obtain ⟨ps, z⟩ := h u e; exact n ps z
      · exact hb h
    rw [upd_ne ne]
    exact a.old b u e hb n
  · have := a.fz b o' u e
    rw [upd_ne (fun z => by subst z; exact nf _ _ this)]
    exact this
  · by_cases z : b = p
    · subst z; exact ⟨_, upd_same, no⟩
    · rw [upd_ne z]; exact a.dom b u e n
  · obtain ⟨ps, h1, h2, h3⟩ := a.tb.2 r hr
    refine ⟨ps, by rw [upd_ne (fun z => by rw [z] at h1; exact nt.t _ h1)]; exact h1, h2, fun pos cv hc => ?_⟩
    obtain ⟨c, e1, e2⟩ := h3 pos cv hc
    exact ⟨c, e1, by rw [upd_ne (fun z => by subst z; exact nt.c _ _ e2)]; exact e2⟩
/-- the classes; the tables of code objects -/
structure Cl where
  f : String → Addr
  T : List (Addr × Str)
instance : CoeFun Cl (fun _ => String → Addr) := ⟨Cl.f⟩
/-- what a def's text runs in: the written part, the classes, the heap at the entry, what may be written of it, what is wanted of what is raised -/
structure Gh where
  Z : Zx
  cl : Cl
  H0 : Hp
  S : List Addr
  W : XK
  fx : List Nat
  fv : Nat → Option V
  tp : List (Addr × HO)
def fldN : String → List Str
  | "Clash" => ["ahead", "note", "pages", "needed", "days"]
  | "NoText" => ["row"]
  | "TooMany" => ["many", "most"]
  | _ => []
def ExcAt (Z : Zx) (cl : Cl) (H : Hp) (e : Ex) (cls : Value) (od : Option Addr) : Prop := cls = .ref (cl e.c) ∧ match e.fs with
  | [] => od = none
  | fs => ∃ d vs, od = some d ∧ H d = some (.xd ((fldN e.c).zip vs)) ∧ ShAll Z H vs fs
def Kont {α : Type} (G : Gh) (r : Option (R α)) (k : α → Ev → Prop) : Prop := match r with
  | some (.ok a ρ) => k a ρ
  | some (.ex e) => ∀ cls od H, Mv G.cl.T G.S G.H0 H → ExcAt G.Z G.cl H e cls od → G.W cls od H
  | none => False
theorem Kont.mono {α : Type} {G : Gh} {r : Option (R α)} {k k' : α → Ev → Prop} (h : Kont G r k) (m : ∀ a ρ, k a ρ → k' a ρ) : Kont G r k' := by
  cases r with
  | none => exact h
  | some x =>
    cases x with
    | ok a ρ => exact m a ρ h
    | ex e => exact h
theorem Kont.bnd {α β : Type} {G : Gh} {m : M α} {k : α → M β} {ρ : Ev} {q : β → Ev → Prop} (h : Kont G (bnd m k ρ) q) : Kont G (m ρ) fun a ρ' => Kont G (k a ρ') q := by
  unfold Cv.bnd at h
  cases e : m ρ with
  | none => rw [e] at h; exact h
  | some x =>
    rw [e] at h
    cases x with
    | ok a ρ' => exact h
    | ex z => exact h
theorem Kont.lft {α : Type} {G : Gh} {o : Option α} {ρ : Ev} {q : α → Ev → Prop} (h : Kont G (lft o ρ) q) : ∃ a, o = some a ∧ q a ρ := by
  unfold Cv.lft at h
  cases o with
  | none => exact h.elim
  | some a => exact ⟨a, rfl, h⟩
/-- what is new or may be written -/
def NewA (G : Gh) (p : Addr) : Prop := Nn G.H0 p ∨ p ∈ G.S
def SlOk (G : Gh) (i : Nat) (H : Hp) (v : V) (s : Sl) : Prop := match s.o with
  | false => Sh G.Z H v s.d
  | true => Ow G.Z H v s.d ∧ ∀ p, v = .ref p → Nn G.H0 p ∨ (i ∈ G.fx ∧ p ∈ G.S)
structure Stt (G : Gh) (H : Hp) (σ : St) (ρ : Ev) : Prop where
  len : ρ.length = σ.length
  val : ∀ (i : Nat) s, ρ[i]? = some (some s) → ∃ v, σ[i]? = some (some v) ∧ SlOk G i H v s
  dis : ∀ (i j : Nat) (s t : Sl) p, ρ[i]? = some (some s) → ρ[j]? = some (some t) → s.o = true → t.o = true → σ[i]? = some (some (.ref p)) → σ[j]? = some (some (.ref p)) → i = j
  mv : Mv G.cl.T G.S G.H0 H
  fix : ∀ i ∈ G.fx, σ[i]? = some (G.fv i)
  tmp : ∀ q ∈ G.tp, H q.1 = some q.2 ∧ (Mut (some q.2) ∧ Nn G.H0 q.1 ∧ NoTab (some q.2)) ∧ ∀ (j : Nat) s, ρ[j]? = some (some s) → s.o = true → σ[j]? ≠ some (some (.ref q.1))
theorem SlOk.keep {G : Gh} {i : Nat} {H H' : Hp} {v : V} {s : Sl} (h : SlOk G i H v s) (f : Fz H H') (e : ∀ p, v = .ref p → s.o = true → H' p = H p) : SlOk G i H' v s := by
  unfold SlOk at *
  cases ho : s.o with
  | false => rw [ho] at h; exact h.up f
  | true =>
    rw [ho] at h
    obtain ⟨p, rfl⟩ := h.1.ref
    exact ⟨h.1.keep f (e p rfl ho), h.2⟩
/-- things more alone -/
theorem Stt.same {G : Gh} {H H' : Hp} {σ : St} {ρ : Ev} (h : Stt G H σ ρ) (e : Same H H') : Stt G H' σ ρ := by
  refine ⟨h.len, fun i s hs => ?_, h.dis, h.mv.trans (S' := []) (Mv.same e h.mv.tb.2) (fun _ z => nomatch z), h.fix, fun q hq => ⟨e _ _ (h.tmp q hq).1, (h.tmp q hq).2⟩⟩
  obtain ⟨v, h1, h2⟩ := h.val i s hs
  refine ⟨v, h1, h2.keep (Same.fz e) fun p hv ho => ?_⟩
  unfold SlOk at h2
  rw [ho, hv] at h2
  have m := h2.1.mut
  cases q : H p with
  | none => rw [q] at m; exact m.elim
  | some u => rw [e p u q]
/-- fresh: not of the entry, no own slot's -/
def FreshO (G : Gh) (σ : St) (ρ : Ev) (p : Addr) : Prop := Nn G.H0 p ∧ (∀ (j : Nat) s, ρ[j]? = some (some s) → s.o = true → σ[j]? ≠ some (some (.ref p))) ∧ ∀ q ∈ G.tp, q.1 ≠ p
/-- a result that may be one's own -/
def RO (G : Gh) (H : Hp) (σ : St) (ρ : Ev) (v : V) (d : D) : Prop := match isC d with
  | true => ∃ p, v = .ref p ∧ Ow G.Z H v d ∧ FreshO G σ ρ p
  | false => Sh G.Z H v d
/-- a new result of an operation -/
def NR (Z : Zx) (H H' : Hp) (v : V) (d : D) : Prop := match isC d with
  | true => ∃ p, v = .ref p ∧ H p = none ∧ Ow Z H' v d
  | false => Sh Z H' v d
theorem Stt.nn_new {G : Gh} {H : Hp} {σ : St} {ρ : Ev} (h : Stt G H σ ρ) {p : Addr} (e : Nn H p) : FreshO G σ ρ p := by
  have mu : ∀ u, H p = some u → Mut (some u) → False := fun u hu m => by
    obtain ⟨ps, rfl⟩ := e u hu
    exact m
  refine ⟨?_, fun j s hs ho he => ?_, fun q hq z => mu q.2 (by rw [← z]; exact (h.tmp q hq).1) (h.tmp q hq).2.1.1⟩
  · intro o q
    by_cases n : ∃ ps, o = .tbl ps
    · exact n
    · obtain ⟨o', e', n'⟩ := h.mv.dom p o q (fun ps z => n ⟨ps, z⟩)
      obtain ⟨ps, z⟩ := e o' e'
      exact (n' ps z).elim
  · obtain ⟨v, h1, h2⟩ := h.val j s hs
    rw [h1] at he
    cases he
    unfold SlOk at h2
    rw [ho] at h2
    have := h2.1.mut
    cases hp : H p with
    | none => rw [hp] at this; exact this
    | some u => rw [hp] at this; exact mu u hp this
theorem Stt.none_new {G : Gh} {H : Hp} {σ : St} {ρ : Ev} (h : Stt G H σ ρ) {p : Addr} (e : H p = none) : FreshO G σ ρ p := h.nn_new (.of e)
theorem NR.ro {G : Gh} {H H' : Hp} {σ : St} {ρ : Ev} {v : V} {d : D} (h : NR G.Z H H' v d) (s : Stt G H σ ρ) : RO G H' σ ρ v d := by
  unfold NR at h
  unfold RO
  cases e : isC d with
  | false => rw [e] at h; exact h
  | true =>
    rw [e] at h
    obtain ⟨p, hv, hp, hw⟩ := h
    exact ⟨p, hv, hw, s.none_new hp⟩
def tvE (G : Gh) (f : M D) : TE := fun σ H Q => ∃ ρ, Stt G H σ ρ ∧ Kont G (f ρ) fun d ρ' => ∀ v H', Fz H H' → Stt G H' σ ρ' → Sh G.Z H' v d → Q v H'
def tvB (G : Gh) (f : M D) : TE := fun σ H Q => ∃ ρ, Stt G H σ ρ ∧ Kont G (f ρ) fun d ρ' => ∀ v H', Fz H H' → Stt G H' σ ρ' → Rp G.Z H' v d → Q v H'
def tvO (G : Gh) (f : M D) : TE := fun σ H Q => ∃ ρ, Stt G H σ ρ ∧ Kont G (f ρ) fun d ρ' => ∀ v H', Fz H H' → Stt G H' σ ρ' → RO G H' σ ρ' v d → Q v H'
def tvT (G : Gh) (f : M Bool) : TT := fun σ H Q => ∃ ρ, Stt G H σ ρ ∧ Kont G (f ρ) fun b ρ' => ∀ H', Fz H H' → Stt G H' σ ρ' → Q b H'
def tvA (G : Gh) (f : M (List D)) : TA := fun σ H Q => ∃ ρ, Stt G H σ ρ ∧ Kont G (f ρ) fun ds ρ' => ∀ vs H', Fz H H' → Stt G H' σ ρ' → ShAll G.Z H' vs ds → Q vs H'
abbrev VE (X : Cx) (G : Gh) (e : Expr) (f : M D) : Prop := PE X e (tvE G f)
abbrev VB (X : Cx) (G : Gh) (e : Expr) (f : M D) : Prop := PE X e (tvB G f)
abbrev VO (X : Cx) (G : Gh) (e : Expr) (f : M D) : Prop := PE X e (tvO G f)
abbrev VT (X : Cx) (G : Gh) (e : Expr) (f : M Bool) : Prop := PT X e (tvT G f)
abbrev VA (X : Cx) (G : Gh) (es : List Expr) (f : M (List D)) : Prop := PA X es (tvA G f)
section
variable {X : Cx} {G : Gh}
/-! ### locking -/
theorem pe_lockV {e : Expr} {t : TE} (h : PE X e t) : PE X e (fun σ H Q => t σ H fun v H1 => Q v H1 ∨ ∃ a u, v = .ref a ∧ H1 a = some u ∧ Mut (some u) ∧ ∀ o, Q v (upd H1 a (.frz o u))) := by
  refine ⟨fun pins s σ H Q I hq => thn (h.run pins s σ H _ I hq) fun v s1 ⟨x, H1, I1, r, q⟩ => ?_⟩
  rcases q with q | ⟨a, u, rfl, e1, m, q⟩
  · exact ⟨x, H1, I1, r, q⟩
  · obtain ⟨od, I2⟩ := I1.lock e1 m
    exact ⟨_, _, I2, r, q od⟩
/-- locking an object that no own slot has -/
theorem Stt.lock {H : Hp} {σ : St} {ρ : Ev} {p : Addr} {u : HO} {o : Obj} (h : Stt G H σ ρ) (f : FreshO G σ ρ p) (e : H p = some u) (m : Mut (some u)) (nt : NoTab (H p)) (fz : Fz H (upd H p (.frz o u))) : Stt G (upd H p (.frz o u)) σ ρ := by
  refine ⟨h.len, fun i s hs => ?_, h.dis, h.mv.upd (.inl f.1) (fun o' u' z => by rw [e] at z; cases z; exact m) nt (fun _ z => nomatch z), h.fix, fun q hq => ⟨by rw [upd_ne (f.2.2 q hq)]; exact (h.tmp q hq).1, (h.tmp q hq).2⟩⟩
  obtain ⟨v, h1, h2⟩ := h.val i s hs
  refine ⟨v, h1, h2.keep fz fun q hv ho => ?_⟩
  have : q ≠ p := fun z => by
    subst z hv
    exact f.2.1 i s hs ho h1
  exact upd_ne this
/-- locking an own slot's object -/
theorem Stt.lockSlot {H : Hp} {σ : St} {ρ : Ev} {p : Addr} {u : HO} {o : Obj} {i : Nat} {s : Sl} (h : Stt G H σ ρ) (hi : ρ[i]? = some (some s)) (ho : s.o = true) (hv : σ[i]? = some (some (.ref p))) (e : H p = some u) (m : Mut (some u)) (nt : NoTab (H p)) (fz : Fz H (upd H p (.frz o u)))
    (sh : Sh G.Z (upd H p (.frz o u)) (.ref p) s.d) : Stt G (upd H p (.frz o u)) σ (ρ.set i (some ⟨false, s.d⟩)) := by
  have hil : i < ρ.length := (List.getElem?_eq_some_iff.mp hi).1
  have aux : ∀ (k : Nat) (t : Sl), (ρ.set i (some ⟨false, s.d⟩))[k]? = some (some t) → t.o = true → ρ[k]? = some (some t) := fun k t hk hot => by
    by_cases z : k = i
    · subst z
      rw [List.getElem?_set_self hil] at hk
      cases hk
      cases hot
    · rw [List.getElem?_set_ne (Ne.symm z)] at hk
      exact hk
  refine ⟨by simpa using h.len, fun j t ht => ?_, fun j k t1 t2 q h1 h2 h3 h4 h5 h6 => ?_, h.mv.upd ?_ (fun o' u' z => by rw [e] at z; cases z; exact m) nt (fun _ z => nomatch z), h.fix, fun q hq => ⟨?_, (h.tmp q hq).2.1, fun j t hj ht => (h.tmp q hq).2.2 j t (aux j t hj ht) ht⟩⟩
  · by_cases hj : j = i
    · subst hj
      rw [List.getElem?_set_self hil] at ht
      cases ht
      exact ⟨_, hv, sh⟩
    · rw [List.getElem?_set_ne (Ne.symm hj)] at ht
      obtain ⟨v, h1, h2⟩ := h.val j t ht
      refine ⟨v, h1, h2.keep fz fun q hq hoq => ?_⟩
      have : q ≠ p := fun z => by
        subst z hq
        exact hj (h.dis j i t s q ht hi hoq ho h1 hv)
      exact upd_ne this
  · exact h.dis j k t1 t2 q (aux j t1 h1 h3) (aux k t2 h2 h4) h3 h4 h5 h6
  · obtain ⟨v, h1, h2⟩ := h.val i s hi
    rw [hv] at h1
    cases h1
    unfold SlOk at h2
    rw [ho] at h2
    exact (h2.2 p rfl).imp id And.right
  · rw [upd_ne (fun z => (h.tmp q hq).2.2 i s hi ho (by rw [z]; exact hv))]
    exact (h.tmp q hq).1
/-- what is one's own is locked where it is handed on -/
theorem ve_frz {e : Expr} {f : M D} (h : VO X G e f) : VE X G e f := pe_imp (pe_lockV h) fun σ H Q ⟨ρ, S, k⟩ => ⟨ρ, S, k.mono fun d ρ' q v H1 fz S1 ro => by
  unfold RO at ro
  cases hd : isC d with
  | false => rw [hd] at ro; exact .inl (q v H1 fz S1 ro)
  | true =>
    rw [hd] at ro
    obtain ⟨p, rfl, ow, fr⟩ := ro
    obtain ⟨u, e1, m, z⟩ := ow.frz
    exact .inr ⟨p, u, rfl, e1, m, fun o => q _ _ (fz.trans (z o).1) (S1.lock fr e1 m ow.noTab (z o).1) (z o).2⟩⟩
theorem vb_of {e : Expr} {f : M D} (h : VE X G e f) : VB X G e f := pe_imp h fun σ H Q ⟨ρ, S, k⟩ => ⟨ρ, S, k.mono fun d ρ' q v H1 fz S1 sh => q v H1 fz S1 (.sh sh)⟩
/-- what isn't a list or a dict -/
def nonC : Option (R D) → Prop
  | some (.ok d _) => isC d = false
  | _ => True
/-! ### names, constants -/
def vVar (i : Nat) : M D := fun ρ => match ρ[i]? with
  | some (some s) => some (.ok s.d (if s.o then ρ.set i (some ⟨false, s.d⟩) else ρ))
  | _ => none
def vGet (i : Nat) : M D := fun ρ => match ρ[i]? with
  | some (some s) => some (.ok s.d ρ)
  | _ => none
theorem ve_var (i : Nat) {x : Str} {pos : Pos} (hN : X.N[i]? = some x := by rfl) (hv : Vis X.env.scope x := by first | exact Or.inl rfl | exact Or.inr (Or.inl rfl) | exact Or.inr (Or.inr rfl)) (hd : (x == ("__debug__" : Str)) = false := by decide)
    (hcd : (x == ("__classdict__" : Str)) = false := by decide) : VE X G (.Name x pos) (vVar i) := pe_imp (pe_lockV (pe_var hN hv hd hcd)) fun σ H Q ⟨ρ, S, k⟩ => by
  unfold vVar at k
  cases hs : ρ[i]? with
  | none => rw [hs] at k; exact k.elim
  | some r =>
    cases r with
    | none => rw [hs] at k; exact k.elim
    | some s =>
      rw [hs] at k
      obtain ⟨v, h1, h2⟩ := S.val i s hs
      refine ⟨v, h1, ?_⟩
      cases ho : s.o with
      | false =>
        simp only [ho] at k
        unfold SlOk at h2
        rw [ho] at h2
        exact .inl (k v H (Fz.refl H) S h2)
      | true =>
        simp only [ho] at k
        unfold SlOk at h2
        rw [ho] at h2
        obtain ⟨p, rfl⟩ := h2.1.ref
        obtain ⟨u, e1, m, z⟩ := h2.1.frz
        exact .inr ⟨p, u, rfl, e1, m, fun o => k _ _ (z o).1 (S.lockSlot hs ho h1 e1 m h2.1.noTab (z o).1 (z o).2) (z o).2⟩
theorem vb_var (i : Nat) {x : Str} {pos : Pos} (hN : X.N[i]? = some x := by rfl) (hv : Vis X.env.scope x := by first | exact Or.inl rfl | exact Or.inr (Or.inl rfl) | exact Or.inr (Or.inr rfl)) (hd : (x == ("__debug__" : Str)) = false := by decide)
    (hcd : (x == ("__classdict__" : Str)) = false := by decide) : VB X G (.Name x pos) (vGet i) := pe_imp (pe_var hN hv hd hcd) fun σ H Q ⟨ρ, S, k⟩ => by
  unfold vGet at k
  cases hs : ρ[i]? with
  | none => rw [hs] at k; exact k.elim
  | some r =>
    cases r with
    | none => rw [hs] at k; exact k.elim
    | some s =>
      rw [hs] at k
      obtain ⟨v, h1, h2⟩ := S.val i s hs
      refine ⟨v, h1, k v H (Fz.refl H) S ?_⟩
      unfold SlOk at h2
      cases ho : s.o with
      | false => rw [ho] at h2; exact .sh h2
      | true => rw [ho] at h2; exact .ow h2.1
theorem vo_c {e : Expr} {v : V} {d : D} (h : PE X e (tC v)) (hs : ∀ H, Sh G.Z H v d) (hc : isC d = false := by rfl) : VO X G e (ret d) := pe_imp h fun σ H Q ⟨ρ, S, k⟩ => k v H (Fz.refl H) S (by unfold RO; rw [hc]; exact hs H)
theorem ve_c {e : Expr} {v : V} {d : D} (h : PE X e (tC v)) (hs : ∀ H, Sh G.Z H v d) : VE X G e (ret d) := pe_imp h fun σ H Q ⟨ρ, S, k⟩ => k v H (Fz.refl H) S (hs H)
theorem vo_int {i : Int} {j : Nat} {pos : Pos} : VO X G (.Constant (.int i) j pos) (ret (.int i)) := vo_c pe_int fun _ => .int i
theorem vo_bl {i : Bool} {j : Nat} {pos : Pos} : VO X G (.Constant (.bool i) j pos) (ret (.bool i)) := vo_c pe_bl fun _ => .bl i
theorem vo_non {j : Nat} {pos : Pos} : VO X G (.Constant .none j pos) (ret .none) := vo_c pe_non fun _ => .non
theorem vo_str {i : Str} {j : Nat} {pos : Pos} : VO X G (.Constant (.str i) j pos) (ret (.str i)) := vo_c pe_str fun _ => .str i
theorem vo_glI {x : Str} {i : Int} {pos : Pos} (hg : Gl X x) (h : ∃ t, X.mg x = some (.int i t)) (hd : (x == ("__debug__" : Str)) = false := by decide) : VO X G (.Name x pos) (ret (.int i)) := vo_c (pe_cI hg h hd) fun _ => .int i
/-- a written thing of the module -/
theorem vo_gl {x : Str} {u : Value} {v : V} {d : D} {pos : Pos} (hg : Gl X x) (h : X.mg x = some u) (r : RelV v u) (hs : ∀ H, Sh G.Z H v d) (hd : (x == ("__debug__" : Str)) = false := by decide) : VE X G (.Name x pos) (ret d) := ve_c (pe_glob hg h r hd) hs
end
end Cv
end
section
/-! The V layer: operators. -/
namespace Cv
open PySem L2
open PySem.Spec PyProof.Rows
section
variable {X : Cx} {G : Gh} {pins : List (Addr × Obj)} {σ : L2.St} {H : Hp} {s : Shared}
abbrev zx (X : Cx) : Zx := ⟨X.prog, X.w, X.K⟩
/-! ### data as the model reads it -/
theorem reads_key {h : Heap} {k : Key} {v : Value} (e : keyIs k v = true) : ∃ as, Reads h v (keyD k) as := by
  rcases keyIs_shape e with ⟨i, t, rfl, rfl⟩ | ⟨x, t, rfl, rfl⟩
  · exact ⟨_, .int i t⟩
  · exact ⟨_, .str x t⟩
theorem reads_keys {h : Heap} {knd : KeyKind X.prog X.w Key} (hk : knd = mixKind X.prog X.w) : ∀ {es : List DictEntry} {vs : List (Key × Value)} {kvs : List (Key × V)} {ds : List (D × D)}, Pairs knd es vs → KV kvs vs → ShKv (zx X) H kvs ds →
    ∃ as, ReadsAll h (es.map (·.key)) (ds.map (·.1)) as
  | [], _, _, _, p, q, r => by cases p; cases q; cases r; exact ⟨_, .nil⟩
  | e :: es, _, _, _, p, q, r => by
    cases p with
    | cons p1 p2 p3 =>
      cases q with
      | cons q1 q2 =>
        cases r with
        | cons r1 r2 =>
          subst hk
          obtain ⟨as, h1⟩ := reads_keys rfl p3 q2 r2
          simp only at q1
          obtain ⟨bs, h2⟩ := reads_key (h := h) (q1.1 ▸ p1)
          exact ⟨_, .cons h2 h1⟩
abbrev RelN : (NestedKey × Addr × V) → (NestedKey × Addr × Value) → Prop := fun p q => p.1 = q.1 ∧ p.2.1 = q.2.1 ∧ RelV p.2.2 q.2.2
theorem oN_ok (I : Inv X pins σ H s) {a : Addr} {kvs : List (NestedKey × Addr × V)} (h : Rd H a (oN (zx X) a kvs)) : (a == sysModules) = false ∧ kvs.length ≤ sizeLine ∧ ∃ xs : List (NestedKey × Addr × Value), Paired RelN kvs xs ∧
    ∃ o es ep, s.heap.get? a = some o ∧ o.ExactDict ∧ o.data = .dict es ep ∧ es.toList = xs.map (entryOfKey (nestedKind X.prog X.w)) ∧ (xs.map (·.1)).Nodup := (h.ok I.hok).1
mutual
theorem Sh.reads (I : Inv X pins σ H s) : ∀ (d : D) (v : V) (u : Value), Sh (zx X) H v d → RelV v u → ∃ as, Reads s.heap u d as
  | .none, _, _, h, r => by cases h; cases r; exact ⟨_, Reads.none⟩
  | .bool b, _, _, h, r => by cases h; cases r; exact ⟨_, Reads.bool b⟩
  | .int i, _, _, h, r => by cases h; obtain ⟨t, rfl⟩ := r; exact ⟨_, Reads.int i t⟩
  | .str x, _, _, h, r => by cases h; obtain ⟨t, rfl⟩ := r; exact ⟨_, Reads.str x t⟩
  | .list ds, _, _, h, r => by
    cases h with
    | lst hs ha =>
      cases r
      obtain ⟨its, rv, ⟨o, n, ho, hc, _, hd⟩, _⟩ := I.list hs.r.sq
      obtain ⟨as, hr⟩ := Sh.readsAll I ds _ its ha rv
      exact ⟨_, Reads.list ho hc hd hr⟩
  | .tuple ds, _, _, h, r => by
    cases h with
    | tup hs ha =>
      cases r
      obtain ⟨its, rv, ⟨o, ho, hc, n, hd⟩, _⟩ := I.tuple hs.sq
      obtain ⟨as, hr⟩ := Sh.readsAll I ds _ its ha rv
      exact ⟨_, Reads.tuple ho hc hd hr⟩
  | .dict ds, _, _, h, r => by
    cases h with
    | dK hs ha =>
      cases r
      obtain ⟨_, _, _, vs, kv, o, es, ep, e, ex, hd, _, pr, _⟩ := I.hok _ _ hs
      obtain ⟨as, h1⟩ := reads_keys (h := s.heap) rfl pr kv ha
      obtain ⟨bs, h2⟩ := Sh.readsKv I ds _ vs es.toList ha kv pr
      exact ⟨_, Reads.dict e ex.1 hd h1 h2⟩
    | dN hs ha hne =>
      cases r
      obtain ⟨_, _, xs, pr, o, es, ep, e, ex, hd, he, _⟩ := oN_ok I (.inr ⟨_, hs⟩)
      obtain ⟨as, bs, h1, h2⟩ := Sh.readsN I ds _ xs ha pr
      refine ⟨_, Reads.dict (as := as) (bs := bs) e ex.1 hd ?_ ?_⟩
      · rw [he, List.map_map]; exact h1
      · rw [he, List.map_map]; exact h2
theorem Sh.readsAll (I : Inv X pins σ H s) : ∀ (ds : List D) (vs : List V) (us : List Value), ShAll (zx X) H vs ds → Vals vs us → ∃ as, ReadsAll s.heap us ds as
  | [], _, _, h, r => by cases h; cases r; exact ⟨_, ReadsAll.nil⟩
  | d :: ds, _, _, h, r => by
    cases h with
    | cons h1 h2 =>
      cases r with
      | cons r1 r2 =>
        obtain ⟨as, q1⟩ := Sh.reads I d _ _ h1 r1
        obtain ⟨bs, q2⟩ := Sh.readsAll I ds _ _ h2 r2
        exact ⟨_, ReadsAll.cons q1 q2⟩
theorem Sh.readsN (I : Inv X pins σ H s) : ∀ (ds : List (D × D)) (kvs : List (NestedKey × Addr × V)) (xs : List (NestedKey × Addr × Value)), ShN (zx X) H kvs ds → Paired RelN kvs xs →
    ∃ as bs, ReadsAll s.heap (xs.map fun x => Value.ref x.2.1) (ds.map (·.1)) as ∧ ReadsAll s.heap (xs.map (·.2.2)) (ds.map (·.2)) bs
  | [], _, _, h, r => by cases h; cases r; exact ⟨_, _, ReadsAll.nil, ReadsAll.nil⟩
  | d :: ds, _, _, h, r => by
    cases h with
    | cons h1 h2 h3 h4 h5 =>
      cases r with
      | cons r1 r2 =>
        obtain ⟨_, e2, r3⟩ := r1
        simp only at e2 r3
        obtain ⟨as, q1⟩ := Sh.reads I _ _ (.ref _) h1 rfl
        obtain ⟨bs, q2⟩ := Sh.reads I _ _ _ h4 r3
        obtain ⟨cs, es, q3, q4⟩ := Sh.readsN I ds _ _ h5 r2
        rw [e2] at q1
        exact ⟨_, _, ReadsAll.cons q1 q3, ReadsAll.cons q2 q4⟩
theorem Sh.readsKv (I : Inv X pins σ H s) : ∀ (ds : List (D × D)) (kvs : List (Key × V)) (vs : List (Key × Value)) (es : List DictEntry), ShKv (zx X) H kvs ds → KV kvs vs → Pairs (mixKind X.prog X.w) es vs → ∃ as, ReadsAll s.heap (es.map (·.val)) (ds.map (·.2)) as
  | [], _, _, _, h, r, p => by cases h; cases r; cases p; exact ⟨_, ReadsAll.nil⟩
  | d :: ds, _, _, _, h, r, p => by
    cases h with
    | cons h1 h2 =>
      cases r with
      | cons r1 r2 =>
        cases p with
        | cons p1 p2 p3 =>
          obtain ⟨as, q1⟩ := Sh.reads I _ _ _ h1 r1.2
          obtain ⟨bs, q2⟩ := Sh.readsKv I ds _ _ _ h2 r2 p3
          rw [← p2] at q1
          exact ⟨_, ReadsAll.cons q1 q2⟩
end
theorem Rp.reads (I : Inv X pins σ H s) {d : D} {v : V} {u : Value} (h : Rp (zx X) H v d) (r : RelV v u) : ∃ as, Reads s.heap u d as := by
  cases h with
  | sh h => exact Sh.reads I d v u h r
  | ow h =>
    cases h with
    | lst hs ha =>
      cases r
      obtain ⟨its, rv, ⟨o, n, ho, hc, _, hd⟩, _⟩ := I.list (SqL.of hs)
      obtain ⟨as, hr⟩ := Sh.readsAll I _ _ its ha rv
      exact ⟨_, Reads.list ho hc hd hr⟩
    | dK hs ha =>
      cases r
      obtain ⟨_, _, vs, kv, o, es, ep, e, ex, hd, _, pr, _⟩ := I.hok _ _ hs
      obtain ⟨as, h1⟩ := reads_keys (h := s.heap) rfl pr kv ha
      obtain ⟨bs, h2⟩ := Sh.readsKv I _ _ vs es.toList ha kv pr
      exact ⟨_, Reads.dict e ex.1 hd h1 h2⟩
    | dN hs ha hne =>
      cases r
      obtain ⟨_, _, xs, pr, o, es, ep, e, ex, hd, he, _⟩ := oN_ok I (.inl hs)
      obtain ⟨as, bs, h1, h2⟩ := Sh.readsN I _ _ xs ha pr
      refine ⟨_, Reads.dict (as := as) (bs := bs) e ex.1 hd ?_ ?_⟩
      · rw [he, List.map_map]; exact h1
      · rw [he, List.map_map]; exact h2
theorem Rp.int {Z : Zx} {v : V} {i : Int} (h : Rp Z H v (.int i)) : v = .int i := by
  cases h with
  | sh h => cases h; rfl
  | ow h => cases h
theorem Rp.str {Z : Zx} {v : V} {i : Str} (h : Rp Z H v (.str i)) : v = .str i := by
  cases h with
  | sh h => cases h; rfl
  | ow h => cases h
theorem Rp.bl {Z : Zx} {v : V} {i : Bool} (h : Rp Z H v (.bool i)) : v = .bl i := by
  cases h with
  | sh h => cases h; rfl
  | ow h => cases h
theorem Rp.non {Z : Zx} {v : V} (h : Rp Z H v .none) : v = .non := by
  cases h with
  | sh h => cases h; rfl
  | ow h => cases h
theorem Rp.lst {Z : Zx} {v : V} {ds : List D} (h : Rp Z H v (.list ds)) : ∃ a vs, v = .ref a ∧ LstR Z H a vs ∧ ShAll Z H vs ds := by
  cases h with
  | sh h => cases h with | lst e a => exact ⟨_, _, rfl, e.r, a⟩
  | ow h => cases h with | lst e a => exact ⟨_, _, rfl, .inl (.inl e), a⟩
theorem Rp.tup {Z : Zx} {v : V} {ds : List D} (h : Rp Z H v (.tuple ds)) : ∃ a vs, v = .ref a ∧ TupAt Z H a vs ∧ ShAll Z H vs ds := by
  cases h with
  | sh h => cases h with | tup e a => exact ⟨_, _, rfl, e, a⟩
  | ow h => cases h
theorem Rp.dic {Z : Zx} {v : V} {ds : List (D × D)} (h : Rp Z H v (.dict ds)) : ∃ a, v = .ref a ∧ ((∃ kvs, Rd H a (.dK kvs) ∧ ShKv Z H kvs ds) ∨ (ds ≠ [] ∧ ∃ kvs, Rd H a (oN Z a kvs) ∧ ShN Z H kvs ds)) := by
  cases h with
  | sh h =>
    cases h with
    | dK e a => exact ⟨_, rfl, .inl ⟨_, .inr ⟨_, e⟩, a⟩⟩
    | dN e a n => exact ⟨_, rfl, .inr ⟨n, _, .inr ⟨_, e⟩, a⟩⟩
  | ow h =>
    cases h with
    | dK e a => exact ⟨_, rfl, .inl ⟨_, .inl e, a⟩⟩
    | dN e a n => exact ⟨_, rfl, .inr ⟨n, _, .inl e, a⟩⟩
theorem inv_lst {a : Addr} {xs : List V} (I : Inv X pins σ H s) (hH : LstR (zx X) H a xs) : xs.length ≤ sizeLine ∧ ∃ (its : List Value) (n : Nat), Vals xs its ∧ xs.length = its.length ∧ s.heap.get? a = some { cls := .type "list", data := .seq its.toArray n } := by
  rcases hH with hH | ⟨its, n, e, hz, rv⟩
  · obtain ⟨z, its, n, r, e⟩ := hH.ok I.hok
    exact ⟨z, its, n, r, r.length, e⟩
  · exact ⟨hz, its, n, rv, rv.length, I.kIn a _ e⟩
theorem nr_sh {Z : Zx} {H H' : Hp} {v : V} {d : D} (hc : isC d = false) (h : Sh Z H' v d) : NR Z H H' v d := by unfold NR; rw [hc]; exact h
theorem nr_ow {Z : Zx} {H H' : Hp} {p : Addr} {d : D} (hc : isC d = true) (hp : H p = none) (h : Ow Z H' (.ref p) d) : NR Z H H' (.ref p) d := by unfold NR; rw [hc]; exact ⟨p, rfl, hp, h⟩
theorem sm_upd {H : Hp} {p : Addr} {o : HO} (hp : H p = none) : Same H (upd H p o) := fun b u e => by rw [upd_ne (ne_of_none e hp)]; exact e
theorem nr_lst {Z : Zx} {H : Hp} {p : Addr} {vs : List V} {ds : List D} (hp : H p = none) (h : ShAll Z H vs ds) : NR Z H (upd H p (.lst vs)) (.ref p) (.list ds) := nr_ow rfl hp (.lst upd_same (h.up (Same.fz (sm_upd hp))))
/-- a new tuple is laid -/
theorem inv_tnew {tk : Nat} {vs : List V} {us : List Value} (I : Inv X pins σ H s) (r : Vals vs us) (hz : vs.length ≤ sizeLine) :
    Inv X pins σ (upd H s.heap.objs.size (.frz { cls := .type "tuple", data := .seq us.toArray } (.tup vs))) { s with heap := s.heap.push { cls := .type "tuple", data := .seq us.toArray }, toks := tk } :=
  I.laid (fun b u e => Heap.get?_push_of_some _ e) (Nat.le_refl _) (show ObjOk X.prog X.w _ _ _ (.frz _ (.tup vs)) from ⟨Heap.get?_push_size _ rfl, hz, us, r, IsTup.new _ _⟩)
theorem nr_tup {Z : Zx} {H : Hp} {p : Addr} {o : Obj} {vs : List V} {ds : List D} (hd : o.dict = none) (hp : H p = none) (h : ShAll Z H vs ds) : NR Z H (upd H p (.frz o (.tup vs))) (.ref p) (.tuple ds) :=
  nr_sh rfl (.tup (.inl ⟨o, hd, upd_same⟩) (h.up (Same.fz (sm_upd hp))))
/-! ### two-place operators -/
def rN (Z : Zx) (p : D → D → Option D) : R2 := fun x y H Q => ∃ dx dy d, Rp Z H x dx ∧ Rp Z H y dy ∧ p dx dy = some d ∧ ∀ v H', Same H H' → NR Z H H' v d → Q v H'
def OpV (X : Cx) (f : Value → Value → Sem Value) (p : D → D → Option D) : Prop := OpR X f (rN (zx X) p)
def dAdd : D → D → Option D
  | .int i, .int j => some (.int (i + j))
  | .str a, .str b => if a.length + b.length ≤ sizeLine then some (.str (a ++ b)) else none
  | .list a, .list b => if a.length + b.length ≤ sizeLine then some (.list (a ++ b)) else none
  | .tuple a, .tuple b => if a.length + b.length ≤ sizeLine then some (.tuple (a ++ b)) else none
  | _, _ => none
theorem o_add : OpV X (binaryOp .Add) dAdd := by
  intro pins s σ H x y v u Q I rx ry ⟨dx, dy, d, hx, hy, e, q⟩
  unfold dAdd at e
  split at e
  · cases e
    cases hx.int
    cases hy.int
    exact op_add pins s σ H _ _ v u Q I rx ry ⟨_, _, rfl, rfl, q _ _ (Same.refl H) (nr_sh rfl (.int _))⟩
  · split at e
    · cases e
      cases hx.str
      cases hy.str
      exact op_add_str pins s σ H _ _ v u Q I rx ry ⟨_, _, rfl, rfl, by assumption, q _ _ (Same.refl H) (nr_sh rfl (.str _))⟩
    · cases e
  · split at e
    · rename_i hz
      cases e
      obtain ⟨a, vs, rfl, ha, sa⟩ := hx.lst
      obtain ⟨b, ws, rfl, hb, sb⟩ := hy.lst
      cases rx
      cases ry
      obtain ⟨z, its, n, r, hl, e⟩ := inv_lst I ha
      obtain ⟨z2, its2, n2, r2, hl2, e2⟩ := inv_lst I hb
      rw [← sa.length, ← sb.length] at hz
      refine PySem.P.add_list e e2 ?_ (by rw [List.size_toArray, List.size_toArray]; omega)
      have ea : its.toArray ++ its2.toArray = (its ++ its2).toArray := by simp
      rw [ea]
      exact ⟨.ref _, _, I.lnew (t' := s.toks) (r.append r2) (by rw [List.length_append]; omega), rfl, q _ _ (sm_upd I.fresh) (nr_lst I.fresh (sa.append sb))⟩
    · cases e
  · split at e
    · rename_i hz
      cases e
      obtain ⟨a, vs, rfl, ha, sa⟩ := hx.tup
      obtain ⟨b, ws, rfl, hb, sb⟩ := hy.tup
      rw [← sa.length, ← sb.length] at hz
      cases rx
      cases ry
      obtain ⟨its, r1, p1, _⟩ := I.tuple ha.sq
      obtain ⟨its2, r2, p2, _⟩ := I.tuple hb.sq
      by_cases hv : vs = []
      · subst hv
        cases r1
        cases sa
        exact cat_tup0 p1 p2 ⟨.ref b, H, I, rfl, q _ _ (Same.refl H) (nr_sh rfl (.tup hb sb))⟩
      · refine HT.cat_tup p1 p2 (fun z => hv (r1.nil_iff.mp z)) (fun z => ?_) (fun z => ?_) (by rw [← r1.length, ← r2.length]; exact hz)
        · have hw := r2.nil_iff.mp z
          subst hw
          cases sb
          rw [List.append_nil] at q
          exact ⟨.ref a, H, I, rfl, q _ _ (Same.refl H) (nr_sh rfl (.tup ha sa))⟩
        · exact ⟨.ref s.heap.objs.size, _, inv_tnew I (tk := s.toks) (r1.append r2) (by rw [List.length_append]; exact hz), rfl, q _ _ (sm_upd I.fresh) (nr_tup rfl I.fresh (sa.append sb))⟩
    · cases e
  · cases e
/-- an operation on whole numbers -/
def dI (c : Int → Int → Prop) [DecidableRel c] (f : Int → Int → Int) : D → D → Option D
  | .int i, .int j => if c i j then some (.int (f i j)) else none
  | _, _ => none
theorem o_int {g : Value → Value → Sem Value} {c : Int → Int → Prop} [DecidableRel c] {f : Int → Int → Int} (h : ∀ i j, c i j → ∀ (pins : List (Addr × Obj)) (s : Shared) (σ : L2.St) (H : Hp) (v u : Value) (Q : VK), Inv X pins σ H s → RelV (.int i) v → RelV (.int j) u → Q (.int (f i j)) H → wpAny (model X.prog X.w) X.A (g v u) (EP X pins σ Q) X.xe s) : OpV X g (dI c f) := by
  intro pins s σ H x y v u Q I rx ry ⟨dx, dy, d, hx, hy, e, q⟩
  unfold dI at e
  split at e
  · split at e
    · cases e
      cases hx.int
      cases hy.int
      exact h _ _ (by assumption) pins s σ H v u Q I rx ry (q _ _ (Same.refl H) (nr_sh rfl (.int _)))
    · cases e
  · cases e
def cT : Int → Int → Prop := fun _ _ => True
instance : DecidableRel cT := fun _ _ => isTrue trivial
def dSub : D → D → Option D
  | .int i, .int j => some (.int (i - j))
  | _, _ => none
theorem o_sub : OpV X (binaryOp .Sub) dSub := by
  intro pins s σ H x y v u Q I rx ry ⟨dx, dy, d, hx, hy, e, q⟩
  unfold dSub at e
  split at e
  · cases e
    cases hx.int
    cases hy.int
    exact op_sub pins s σ H _ _ v u Q I rx ry ⟨_, _, rfl, rfl, q _ _ (Same.refl H) (nr_sh rfl (.int _))⟩
  · cases e
instance : DecidableRel CMul := fun i j => inferInstanceAs (Decidable ((-(2 ^ 64) < i ∧ i < 2 ^ 64) ∨ (-(2 ^ 64) < j ∧ j < 2 ^ 64)))
instance : DecidableRel CPow := fun i j => inferInstanceAs (Decidable (0 ≤ j ∧ j ≤ 1000000 ∧ i.natAbs < 2 ^ 64))
def dMul : D → D → Option D
  | .int i, .int j => if CMul i j then some (.int (i * j)) else none
  | .list xs, .int k => if -(2 ^ 63) ≤ k ∧ k < 2 ^ 63 ∧ xs.length * k.toNat ≤ sizeLine then some (.list (List.replicate k.toNat xs).flatten) else none
  | _, _ => none
theorem o_mul : OpV X (binaryOp .Mult) dMul := by
  intro pins s σ H x y v u Q I rx ry ⟨dx, dy, d, hx, hy, e, q⟩
  unfold dMul at e
  split at e
  · split at e
    · cases e
      cases hx.int
      cases hy.int
      exact op_mul pins s σ H _ _ v u Q I rx ry ⟨_, _, rfl, rfl, by assumption, q _ _ (Same.refl H) (nr_sh rfl (.int _))⟩
    · cases e
  · rename_i xs k
    split at e
    · rename_i hz
      obtain ⟨h1, h2, hz⟩ := hz
      cases e
      cases hy.int
      obtain ⟨a, vs, rfl, ha, sa⟩ := hx.lst
      cases rx
      obtain ⟨t, rfl⟩ := ry
      obtain ⟨z, its, n, r, hl, e⟩ := inv_lst I ha
      rw [← sa.length] at hz
      have big : (sizeLine : Nat) ≤ (2 ^ 63 - 1) / 8 := by decide
      have fold : ∀ m : Nat, List.foldl (fun x1 x2 => x1 ++ x2) #[] (List.replicate m its.toArray) = (List.replicate m its).flatten.toArray := fun m => by simpa using foldl_rep its m []
      have made : List.foldl (fun x1 x2 => x1 ++ x2) #[] (List.replicate (if its.toArray.isEmpty = true then 0 else k.toNat) its.toArray) = (List.replicate k.toNat its).flatten.toArray := by
        rw [fold]
        cases its with
        | nil => simp
        | cons _ _ => simp
      have inLine : its.toArray.size * k.toNat ≤ sizeLine := by simpa [← hl] using hz
      have go := AutoListH.list___mul___list_int_3 a its.toArray n k t (by simp [fitsIndex_both h1 h2]) (by omega) (by rw [notLongL inLine]; simp)
      refine wpAny_binaryOp_repeat_ref (T := "list") (U := "int") (by decide) ⟨_, e, rfl⟩ (fun s' => typeIs_int s' k t) noFill_list_mul F.fills_int_mul F.slot_int_rmul repeat_list F.slot_int_index.lookup (call_meets F.slot_int_rmul (typeIs_int s k t) F.entry_int_rmul (F.args_int_rmul_2 _ _) (int___rmul___int_list k t a its.toArray n) ⟨e, rfl, ⟨_, e, rfl⟩, call_meets F.slot_list_mul ⟨_, e, rfl⟩ F.entry_list_mul (F.args_list_mul_2 _ _) go ⟨e, ?_⟩⟩)
      rw [made]
      exact ⟨.ref _, _, I.lnew (t' := s.toks) (r.rep k.toNat) (by simpa [PyProof.Rows.lm_len_rep_flat, Nat.mul_comm] using hz), rfl, q _ _ (sm_upd I.fresh) (nr_lst I.fresh (sa.rep k.toNat))⟩
    · cases e
  · cases e
def dMod : D → D → Option D
  | .int i, .int j => if 0 < j then some (.int (i % j)) else none
  | _, _ => none
theorem o_mod : OpV X (binaryOp .Mod) dMod := by
  intro pins s σ H x y v u Q I rx ry ⟨dx, dy, d, hx, hy, e, q⟩
  unfold dMod at e
  split at e
  · split at e
    · cases e
      cases hx.int
      cases hy.int
      exact op_mod pins s σ H _ _ v u Q I rx ry ⟨_, _, rfl, rfl, by assumption, q _ _ (Same.refl H) (nr_sh rfl (.int _))⟩
    · cases e
  · cases e
/-- // : the divisor below 2 ^ 8000 -/
def dFdiv : D → D → Option D
  | .int i, .int j => if 0 < j ∧ j.natAbs.log2 < 9000 then some (.int (i / j)) else none
  | _, _ => none
theorem o_fdiv : OpV X (binaryOp .FloorDiv) dFdiv := by
  intro pins s σ H x y v u Q I rx ry ⟨dx, dy, d, hx, hy, e, q⟩
  unfold dFdiv at e
  split at e
  · split at e
    · rename_i hj
      cases e
      cases hx.int
      cases hy.int
      exact op_fdivW pins s σ H _ _ v u Q I rx ry ⟨_, _, rfl, rfl, hj, q _ _ (Same.refl H) (nr_sh rfl (.int _))⟩
    · cases e
  · cases e
def dPow : D → D → Option D
  | .int i, .int j => if CPow i j then some (.int (i ^ j.toNat)) else none
  | _, _ => none
theorem o_pow : OpV X (binaryOp .Pow) dPow := by
  intro pins s σ H x y v u Q I rx ry ⟨dx, dy, d, hx, hy, e, q⟩
  unfold dPow at e
  split at e
  · split at e
    · cases e
      cases hx.int
      cases hy.int
      exact op_pow pins s σ H _ _ v u Q I rx ry ⟨_, _, rfl, rfl, by assumption, q _ _ (Same.refl H) (nr_sh rfl (.int _))⟩
    · cases e
  · cases e
/-! ### comparisons -/
def gd (d : D) : Bool := d.plain && decide (d.depth ≤ 40)
def dEqB : D → D → Option Bool
  | .int i, .int j => some (decide (i = j))
  | .str i, .str j => some (decide (i = j))
  | .bool i, .bool j => some (decide (i = j))
  | .none, .none => some true
  | d, e => if gd d && gd e then some (PyData.eqv d e) else none
theorem dEqB_eqv {d e : D} {b : Bool} (h : dEqB d e = some b) : d.plain = true ∧ e.plain = true ∧ d.depth ≤ 40 ∧ b = PyData.eqv d e := by
  unfold dEqB at h
  split at h
  · cases h
    exact ⟨rfl, rfl, by simp [PyData.depth], by rw [Bool.eq_iff_iff]; simp [PyData.eqv]⟩
  · cases h
    exact ⟨rfl, rfl, by simp [PyData.depth], by rw [Bool.eq_iff_iff]; simp [PyData.eqv]⟩
  · cases h
    exact ⟨rfl, rfl, by simp [PyData.depth], by rw [Bool.eq_iff_iff]; simp [PyData.eqv]⟩
  · cases h
    exact ⟨rfl, rfl, by simp [PyData.depth], by simp [PyData.eqv]⟩
  · split at h
    · rename_i hg
      cases h
      simp only [gd, Bool.and_eq_true, decide_eq_true_eq] at hg
      exact ⟨hg.1.1, hg.2.1, hg.1.2, rfl⟩
    · cases h
def dEq (x y : D) : Option D := (dEqB x y).map .bool
def dNe (x y : D) : Option D := (dEqB x y).map fun b => .bool (!b)
theorem o_eq (hu : X.A.units + 64 < cLine) : OpV X (compareOp .Eq) dEq := by
  intro pins s σ H x y v u Q I rx ry ⟨dx, dy, d, hx, hy, e, q⟩
  obtain ⟨b, hb, rfl⟩ := Option.map_eq_some_iff.1 e
  obtain ⟨h1, h2, h3, rfl⟩ := dEqB_eqv hb
  obtain ⟨as, ra⟩ := hx.reads I rx
  obtain ⟨bs, rb⟩ := hy.reads I ry
  exact SeqAt.eq_plain ra rb h1 h2 (by omega) ⟨.bl _, H, I, rfl, q _ _ (Same.refl H) (nr_sh rfl (.bl _))⟩
theorem o_ne (hu : X.A.units + 64 < cLine) : OpV X (compareOp .NotEq) dNe := by
  intro pins s σ H x y v u Q I rx ry ⟨dx, dy, d, hx, hy, e, q⟩
  obtain ⟨b, hb, rfl⟩ := Option.map_eq_some_iff.1 e
  obtain ⟨h1, h2, h3, rfl⟩ := dEqB_eqv hb
  obtain ⟨as, ra⟩ := hx.reads I rx
  obtain ⟨bs, rb⟩ := hy.reads I ry
  exact SeqAt.ne_plain ra rb h1 h2 (by omega) ⟨.bl _, H, I, rfl, q _ _ (Same.refl H) (nr_sh rfl (.bl _))⟩
def isN : D → Bool
  | .none => true
  | _ => false
/-- less: numbers; else data that are alike -/
def dLtB : D → D → Option Bool
  | .int i, .int j => some (decide (i < j))
  | d, e => if gd d && PySem.W.alike d e && !isN d then some (PySem.W.dataLt d e) else none
theorem dLtB_is {d e : D} {b : Bool} (h : dLtB d e = some b) : PySem.W.alike d e = true ∧ d ≠ .none ∧ d.depth ≤ 40 ∧ b = PySem.W.dataLt d e := by
  unfold dLtB at h
  split at h
  · cases h
    exact ⟨rfl, (by intro z; cases z), by simp [PyData.depth], (PySem.W.dataLt_int _ _).symm⟩
  · split at h
    · rename_i hg
      cases h
      simp only [gd, Bool.and_eq_true, decide_eq_true_eq] at hg
      refine ⟨hg.1.2, fun z => ?_, hg.1.1.2, rfl⟩
      subst z
      exact Bool.false_ne_true hg.2
    · cases h
def dLt (x y : D) : Option D := (dLtB x y).map .bool
def dGt (x y : D) : Option D := (dLtB y x).map .bool
def dLe (x y : D) : Option D := (dLtB y x).map fun b => .bool (!b)
def dGe (x y : D) : Option D := (dLtB x y).map fun b => .bool (!b)
theorem alike_symm_none {d e : D} (h : PySem.W.alike d e = true) (hn : d ≠ .none) : e ≠ .none := fun z => by
  subst z
  cases d <;> first | exact hn rfl | (simp [PySem.W.alike] at h)
mutual
theorem alike_comm : ∀ d e : D, PySem.W.alike d e = PySem.W.alike e d
  | .none, e => by cases e <;> rfl
  | .bool _, e => by cases e <;> rfl
  | .int _, e => by cases e <;> rfl
  | .str _, e => by cases e <;> rfl
  | .dict _, e => by cases e <;> rfl
  | .list xs, .list ys => by simp only [PySem.W.alike]; exact alikeAll_comm xs ys
  | .tuple xs, .tuple ys => by simp only [PySem.W.alike]; exact alikeAll_comm xs ys
  | .list _, .none | .list _, .bool _ | .list _, .int _ | .list _, .str _ | .list _, .tuple _ | .list _, .dict _ => rfl
  | .tuple _, .none | .tuple _, .bool _ | .tuple _, .int _ | .tuple _, .str _ | .tuple _, .list _ | .tuple _, .dict _ => rfl
theorem alikeAll_comm : ∀ d e : List D, PySem.W.alikeAll d e = PySem.W.alikeAll e d
  | [], [] => rfl
  | [], _ :: _ => by simp [PySem.W.alikeAll]
  | _ :: _, [] => by simp [PySem.W.alikeAll]
  | x :: xs, y :: ys => by simp only [PySem.W.alikeAll]; rw [alike_comm x y, alikeAll_comm xs ys]
end
theorem o_lt (hu : X.A.units + 64 < cLine) : OpV X (compareOp .Lt) dLt := by
  intro pins s σ H x y v u Q I rx ry ⟨dx, dy, d, hx, hy, e, q⟩
  obtain ⟨b, hb, rfl⟩ := Option.map_eq_some_iff.1 e
  obtain ⟨h1, h2, h3, rfl⟩ := dLtB_is hb
  obtain ⟨as, ra⟩ := hx.reads I rx
  obtain ⟨bs, rb⟩ := hy.reads I ry
  exact PySem.W.lt_data ra rb h1 h2 (by omega) ⟨.bl _, H, I, rfl, q _ _ (Same.refl H) (nr_sh rfl (.bl _))⟩
theorem o_ge (hu : X.A.units + 64 < cLine) : OpV X (compareOp .GtE) dGe := by
  intro pins s σ H x y v u Q I rx ry ⟨dx, dy, d, hx, hy, e, q⟩
  obtain ⟨b, hb, rfl⟩ := Option.map_eq_some_iff.1 e
  obtain ⟨h1, h2, h3, rfl⟩ := dLtB_is hb
  obtain ⟨as, ra⟩ := hx.reads I rx
  obtain ⟨bs, rb⟩ := hy.reads I ry
  exact PySem.W.ge_data ra rb h1 h2 (by omega) ⟨.bl _, H, I, rfl, q _ _ (Same.refl H) (nr_sh rfl (.bl _))⟩
theorem o_gt (hu : X.A.units + 64 < cLine) : OpV X (compareOp .Gt) dGt := by
  intro pins s σ H x y v u Q I rx ry ⟨dx, dy, d, hx, hy, e, q⟩
  obtain ⟨b, hb, rfl⟩ := Option.map_eq_some_iff.1 e
  obtain ⟨h1, h2, h3, rfl⟩ := dLtB_is hb
  obtain ⟨as, ra⟩ := hx.reads I rx
  obtain ⟨bs, rb⟩ := hy.reads I ry
  exact PySem.W.gt_data ra rb (by rw [alike_comm]; exact h1) (alike_symm_none h1 h2) (by omega) ⟨.bl _, H, I, rfl, q _ _ (Same.refl H) (nr_sh rfl (.bl _))⟩
theorem o_le (hu : X.A.units + 64 < cLine) : OpV X (compareOp .LtE) dLe := by
  intro pins s σ H x y v u Q I rx ry ⟨dx, dy, d, hx, hy, e, q⟩
  obtain ⟨b, hb, rfl⟩ := Option.map_eq_some_iff.1 e
  obtain ⟨h1, h2, h3, rfl⟩ := dLtB_is hb
  obtain ⟨as, ra⟩ := hx.reads I rx
  obtain ⟨bs, rb⟩ := hy.reads I ry
  exact PySem.W.le_data ra rb (by rw [alike_comm]; exact h1) (alike_symm_none h1 h2) (by omega) ⟨.bl _, H, I, rfl, q _ _ (Same.refl H) (nr_sh rfl (.bl _))⟩
/-- is None; is True, is False -/
def dIsB : D → D → Option Bool
  | .bool a, .bool b => some (decide (a = b))
  | x, .none => some (isN x)
  | _, _ => none
def dIs (x y : D) : Option D := (dIsB x y).map .bool
def dIsNot (x y : D) : Option D := (dIsB x y).map fun b => .bool (!b)
theorem isNon_rp {Z : Zx} {v : V} {d : D} (h : Rp Z H v d) : isNon v = isN d := by
  cases h with
  | sh h => cases h <;> rfl
  | ow h => cases h <;> rfl
theorem o_is : OpV X (compareOp .Is) dIs := by
  intro pins s σ H x y v u Q I rx ry ⟨dx, dy, d, hx, hy, e, q⟩
  obtain ⟨b, hb, rfl⟩ := Option.map_eq_some_iff.1 e
  unfold dIsB at hb
  split at hb
  · cases hb
    cases hx.bl
    cases hy.bl
    exact op_is_bl pins s σ H _ _ v u Q I rx ry ⟨_, _, rfl, rfl, q _ _ (Same.refl H) (nr_sh rfl (.bl _))⟩
  · cases hb
    cases hy.non
    refine op_isN pins s σ H _ _ v u Q I rx ry ⟨rfl, ?_⟩
    rw [isNon_dec, isNon_rp hx]
    exact q _ _ (Same.refl H) (nr_sh rfl (.bl _))
  · cases hb
theorem o_isnot : OpV X (compareOp .IsNot) dIsNot := by
  intro pins s σ H x y v u Q I rx ry ⟨dx, dy, d, hx, hy, e, q⟩
  obtain ⟨b, hb, rfl⟩ := Option.map_eq_some_iff.1 e
  unfold dIsB at hb
  split at hb
  · cases hb
    cases hx.bl
    cases hy.bl
    exact op_isnot_bl pins s σ H _ _ v u Q I rx ry ⟨_, _, rfl, rfl, q _ _ (Same.refl H) (nr_sh rfl (.bl _))⟩
  · cases hb
    cases hy.non
    refine op_notN pins s σ H _ _ v u Q I rx ry ⟨rfl, ?_⟩
    rw [isNon_dec, isNon_rp hx]
    exact q _ _ (Same.refl H) (nr_sh rfl (.bl _))
  · cases hb
/-! ### dicts -/
def keyOf : D → Option Key
  | .int i => some (.inl i)
  | .str x => some (.inr x)
  | _ => none
def isT : D → Bool
  | .tuple _ => true
  | _ => false
/-- the key is of the kind of the dict's keys -/
def kOk (ds : List (D × D)) : D → Bool
  | .int _ => ds.all fun p => (keyOf p.1).isSome
  | .str _ => ds.all fun p => (keyOf p.1).isSome
  | .tuple xs => (match nk (.tuple xs) with
    | some k => decide (k.depth ≤ 8)
    | none => false) && ds.all fun p => isT p.1
  | _ => false
def gN : List (D × D) → NestedKey → Option D
  | [], _ => none
  | (d, x) :: r, k => if nk d = some k then some x else gN r k
def dGet (ds : List (D × D)) (x : D) : Option (Option D) := if kOk ds x then (match nk x with
  | some k => some (gN ds k)
  | none => none) else none
def keyN : Key → NestedKey
  | .inl i => .num i
  | .inr x => .text x
theorem keyN_inj {k k' : Key} (h : keyN k = keyN k') : k = k' := by
  cases k <;> cases k' <;> simp [keyN] at h <;> rw [h]
theorem nk_keyD (k : Key) : nk (keyD k) = some (keyN k) := by cases k <;> simp [keyD, nk, keyN]
def OptV (Z : Zx) (H : Hp) (o : Option V) : Option D → Prop
  | some d => ∃ v, o = some v ∧ Sh Z H v d
  | none => o = none
def OptK (Z : Zx) (H : Hp) (o : Option (Addr × Value)) : Option D → Prop
  | some d => ∃ p v, o = some p ∧ RelV v p.2 ∧ Sh Z H v d
  | none => o = none
theorem OptV.same {Z : Zx} {o : Option V} {r : Option D} (h : OptV Z H o r) : o.isSome = r.isSome := by
  cases r with
  | none => rw [show o = none from h]; rfl
  | some d => obtain ⟨v, rfl, _⟩ := h; rfl
theorem OptK.same {Z : Zx} {o : Option (Addr × Value)} {r : Option D} (h : OptK Z H o r) : o.isSome = r.isSome := by
  cases r with
  | none => rw [show o = none from h]; rfl
  | some d => obtain ⟨p, v, rfl, _⟩ := h; rfl
theorem gN_val {Z : Zx} : ∀ {kvs : List (Key × V)} {ds : List (D × D)} (k : Key), ShKv Z H kvs ds → OptV Z H (valV kvs k) (gN ds (keyN k))
  | [], _, k, h => by cases h; rfl
  | (k', v) :: r, _, k, h => by
    cases h with
    | cons h1 h2 =>
      have ih := gN_val k h2
      simp only [gN, nk_keyD, Option.some.injEq]
      by_cases e : k' = k
      · subst e
        rw [if_pos rfl]
        exact ⟨v, by simp [valV], h1⟩
      · rw [if_neg (fun z => e (keyN_inj z))]
        have hv : valV ((k', v) :: r) k = valV r k := by simp [valV, e]
        rw [hv]
        exact ih
mutual
theorem nest_is (I : Inv X pins σ H s) : ∀ (d : D) (v : V) (u : Value) (k : NestedKey), Sh (zx X) H v d → RelV v u → nk d = some k → NestedIs s.heap k u
  | .none, _, _, _, h, r, e => by cases h; cases r; cases e; exact .none
  | .bool b, _, _, _, h, r, e => by cases h; cases r; cases e; exact .bool rfl
  | .int i, _, _, _, h, r, e => by cases h; obtain ⟨t, rfl⟩ := r; cases e; exact .int i t
  | .str x, _, _, _, h, r, e => by cases h; obtain ⟨t, rfl⟩ := r; cases e; exact .text x t
  | .list _, _, _, _, _, _, e => by cases e
  | .dict _, _, _, _, _, _, e => by cases e
  | .tuple ds, _, _, k, h, r, e => by
    cases h with
    | tup hs ha =>
      cases r
      obtain ⟨its, rv, ⟨o, ho, hc, n, hd⟩, _⟩ := I.tuple hs.sq
      simp only [nk] at e
      split at e
      · rename_i ks ek
        cases e
        exact .tup ho hc hd (by simpa using nest_all I ds _ its ks ha rv ek)
      · cases e
theorem nest_all (I : Inv X pins σ H s) : ∀ (ds : List D) (vs : List V) (us : List Value) (ks : List NestedKey), ShAll (zx X) H vs ds → Vals vs us → nkAll ds = some ks → NestedAll s.heap ks us
  | [], _, _, _, h, r, e => by cases h; cases r; cases e; exact .nil
  | d :: ds, _, _, ks, h, r, e => by
    cases h with
    | cons h1 h2 =>
      cases r with
      | cons r1 r2 =>
        simp only [nkAll] at e
        split at e
        · rename_i k ks' e1 e2
          cases e
          exact .cons (nest_is I d _ _ k h1 r1 e1) (nest_all I ds _ _ ks' h2 r2 e2)
        · cases e
end
theorem atKey_gN {Z : Zx} (k : NestedKey) : ∀ {ds : List (D × D)} {kvs : List (NestedKey × Addr × V)} {xs : List (NestedKey × Addr × Value)}, ShN Z H kvs ds → Paired RelN kvs xs →
    OptK Z H (atKey xs k) (gN ds k)
  | [], _, _, h, r => by cases h; cases r; rfl
  | d :: ds, _, _, h, r => by
    cases h with
    | cons h1 h2 h3 h4 h5 =>
      cases r with
      | cons r1 r2 =>
        rename_i q _
        obtain ⟨e1, e2, r3⟩ := r1
        simp only at e1 r3
        have ih := atKey_gN k h5 r2
        simp only [gN, h2, Option.some.injEq]
        obtain ⟨k', b', u'⟩ := q
        simp only at e1
        subst e1
        rename_i k2 _ _ _ _ _ l2
        by_cases ek : k2 = k
        · rw [if_pos ek]
          exact ⟨_, _, by simp [atKey, ek], r3, h4⟩
        · rw [if_neg ek]
          have : atKey ((k2, b', u') :: l2) k = atKey l2 k := by simp only [atKey, List.find?_cons, ek, decide_false]
          rw [this]
          exact ih
/-- a dict asked by a tuple -/
theorem tupDict (I : Inv X pins σ H s) {a : Addr} {ds : List (D × D)} (h : Rp (zx X) H (.ref a) (.dict ds)) (ht : (ds.all fun p => isT p.1) = true) :
    (a == sysModules) = false ∧ ∃ kvs xs, ShN (zx X) H kvs ds ∧ Paired RelN kvs xs ∧ xs.length ≤ sizeLine ∧ s.heap.DictOfH (nestedKind X.prog X.w) a xs ∧ (Rd H a (oN (zx X) a kvs) ∨ (kvs = [] ∧ Rd H a (.dK []))) := by
  obtain ⟨_, e, h⟩ := h.dic
  cases e
  rcases h with ⟨kvs, hr, hk⟩ | ⟨_, kvs, hr, hn⟩
  · have en : ds = [] ∧ kvs = [] := by
      cases hk with
      | nil => exact ⟨rfl, rfl⟩
      | cons h1 h2 =>
        rename_i k _ _ _ _
        cases k <;> simp [keyD, isT] at ht
    obtain ⟨rfl, rfl⟩ := en
    obtain ⟨_, hs, vs, kv, o, es, ep, e, ex, hd, _, pr, _⟩ := hr.ok I.hok
    cases kv
    have he : es.toList = [] := by
      cases hh : es.toList with
      | nil => rfl
      | cons _ _ => rw [hh] at pr; cases pr
    exact ⟨hs, [], [], .nil, .nil, Nat.zero_le _, ⟨o, es, ep, e, ex, hd, by rw [he]; rfl, (by intro x hx; cases hx), List.nodup_nil⟩, .inr ⟨rfl, hr⟩⟩
  · obtain ⟨hs, hz, xs, pr, o, es, ep, e, ex, hd, he, nd⟩ := oN_ok I hr
    have hl : kvs.length = xs.length := Paired.length pr
    refine ⟨hs, kvs, xs, hn, pr, by omega, ⟨o, es, ep, e, ex, hd, he, fun x hx => ?_, nd⟩, .inl hr⟩
    have all : ∀ {ds : List (D × D)} {kvs : List (NestedKey × Addr × V)} {xs : List (NestedKey × Addr × Value)}, ShN (zx X) H kvs ds → Paired RelN kvs xs → ∀ x ∈ xs, (nestedKind X.prog X.w).is s.heap x.1 x.2.1 := by
      intro ds
      induction ds with
      | nil => intro _ _ h r; cases h; cases r; intro x hx; cases hx
      | cons d ds ih =>
        intro _ _ h r
        cases h with
        | cons h1 h2 h3 h4 h5 =>
          cases r with
          | cons r1 r2 =>
            rename_i q _
            intro x hx
            rcases List.mem_cons.1 hx with rfl | hx
            · obtain ⟨e1, e2, _⟩ := r1
              simp only at e1 e2
              rw [← e1, ← e2]
              exact ⟨nest_is I _ _ _ _ h1 rfl h2, h3⟩
            · exact ih h5 r2 x hx
    exact all hn pr x hx
theorem keyOf_kV {Z : Zx} {x : V} {d : D} {k : Key} (h : Rp Z H x d) (e : keyOf d = some k) : x = kV k ∧ nk d = some (keyN k) := by
  cases d <;> simp [keyOf] at e
  · cases h.int; subst e; exact ⟨rfl, by simp [nk, keyN]⟩
  · cases h.str; subst e; exact ⟨rfl, by simp [nk, keyN]⟩
/-- what a dict is asked -/
theorem dGet_ask {a : Addr} {x : V} {u : Value} {ds : List (D × D)} {dx : D} {r : Option D} (I : Inv X pins σ H s) (h : Rp (zx X) H (.ref a) (.dict ds)) (hx : Rp (zx X) H x dx) (rx : RelV x u) (e : dGet ds dx = some r) :
    (∃ o, DGet H a x o ∧ OptV (zx X) H o r) ∨
    (∃ b k xs, u = .ref b ∧ (a == sysModules) = false ∧ (nestedKind X.prog X.w).is s.heap k b ∧ s.heap.DictOfH (nestedKind X.prog X.w) a xs ∧ OptK (zx X) H (atKey xs k) r) := by
  unfold dGet at e
  split at e
  · rename_i ok
    have flat : ∀ k, keyOf dx = some k → (ds.all fun p => (keyOf p.1).isSome) = true → ∃ o, DGet H a x o ∧ OptV (zx X) H o r := by
      intro k ek hk
      obtain ⟨rfl, en⟩ := keyOf_kV hx ek
      rw [en] at e
      cases e
      obtain ⟨_, e, h⟩ := h.dic
      cases e
      rcases h with ⟨kvs, hr, hs⟩ | ⟨ne, kvs, hr, hn⟩
      · have := gN_val k hs
        exact ⟨valV kvs k, .inl ⟨kvs, k, hr, rfl, rfl⟩, this⟩
      · cases hn with
        | nil => exact absurd rfl ne
        | cons _ _ _ _ _ => simp [keyOf] at hk
    cases dx with
    | int i => exact .inl (flat _ rfl ok)
    | str i => exact .inl (flat _ rfl ok)
    | tuple xs =>
      simp only [kOk, Bool.and_eq_true] at ok
      obtain ⟨ok1, ok2⟩ := ok
      split at ok1
      · rename_i k ek
        rw [ek] at e
        cases e
        obtain ⟨hs, kvs, ys, hn, pr, hz, dd, _⟩ := tupDict I h ok2
        have := atKey_gN k hn pr
        obtain ⟨b, vs, rfl, ht, hv⟩ := hx.tup
        cases rx
        exact .inr ⟨b, k, ys, rfl, hs, ⟨nest_is I _ _ _ _ (.tup ht hv) rfl ek, of_decide_eq_true ok1⟩, dd, this⟩
      · cases ok1
    | none => cases ok
    | bool _ => cases ok
    | list _ => cases ok
    | dict _ => cases ok
  · cases e
/-- in: a list, a tuple, the keys of a dict -/
def gdAll (ds : List D) : Bool := PyData.plainAll ds && decide (PyData.depthAll ds ≤ 40)
def dInB : D → D → Option Bool
  | x, .list ys => if gd x && gdAll ys then some (ys.any fun y => PyData.eqv y x) else none
  | x, .tuple ys => if gd x && gdAll ys then some (ys.any fun y => PyData.eqv y x) else none
  | x, .dict kvs => (dGet kvs x).map Option.isSome
  | .str x, .str y => some (!(Builtin.Str.occurrences y x 0 y.length 1).isEmpty)
  | _, _ => none
def dIn (x y : D) : Option D := (dInB x y).map .bool
def dNotIn (x y : D) : Option D := (dInB x y).map fun b => .bool (!b)
theorem o_in (hu : X.A.units + 64 < cLine) : OpV X (compareOp .In) dIn := by
  intro pins s σ H x y v u Q I rx ry ⟨dx, dy, d, hx, hy, e, q⟩
  obtain ⟨b, hb, rfl⟩ := Option.map_eq_some_iff.1 e
  have q' := q (.bl b) H (Same.refl H) (nr_sh rfl (.bl _))
  unfold dInB at hb
  split at hb
  · split at hb
    · rename_i hg
      cases hb
      simp only [gd, gdAll, Bool.and_eq_true, decide_eq_true_eq] at hg
      obtain ⟨as, ra⟩ := hx.reads I rx
      obtain ⟨bs, rb⟩ := hy.reads I ry
      exact SeqAt.in_list_data rb ra hg.2.1 hg.1.1 (by omega) ⟨.bl _, H, I, rfl, q'⟩
    · cases hb
  · split at hb
    · rename_i hg
      cases hb
      simp only [gd, gdAll, Bool.and_eq_true, decide_eq_true_eq] at hg
      obtain ⟨as, ra⟩ := hx.reads I rx
      obtain ⟨bs, rb⟩ := hy.reads I ry
      exact SeqAt.in_tuple_data rb ra hg.2.1 hg.1.1 (by omega) ⟨.bl _, H, I, rfl, q'⟩
    · cases hb
  · obtain ⟨r, hr, rfl⟩ := Option.map_eq_some_iff.1 hb
    obtain ⟨a, rfl, _⟩ := hy.dic
    cases ry
    rcases dGet_ask I hy hx rx hr with ⟨o, g, z⟩ | ⟨b, k, xs, rfl, hs, hk, dd, z⟩
    · refine d_in (by omega) I g rx fun s3 I3 => ⟨.bl _, H, I3, rfl, ?_⟩
      rw [z.same]; exact q'
    · refine wpAny_in_heap (show X.A.in1.units + 8 < cLine by show X.A.units + 1 + 8 < cLine; omega) hk hs dd ?_
      rw [z.same]
      exact ⟨.bl _, H, I.tok _, rfl, q'⟩
  · cases hb
    cases hx.str
    cases hy.str
    exact op_in_str pins s σ H _ _ v u Q I rx ry ⟨_, _, rfl, rfl, q'⟩
  · cases hb
theorem o_notin (hu : X.A.units + 64 < cLine) : OpV X (compareOp .NotIn) dNotIn := by
  intro pins s σ H x y v u Q I rx ry ⟨dx, dy, d, hx, hy, e, q⟩
  obtain ⟨b, hb, rfl⟩ := Option.map_eq_some_iff.1 e
  have q' := q (.bl (!b)) H (Same.refl H) (nr_sh rfl (.bl _))
  unfold dInB at hb
  split at hb
  · split at hb
    · rename_i hg
      cases hb
      simp only [gd, gdAll, Bool.and_eq_true, decide_eq_true_eq] at hg
      obtain ⟨as, ra⟩ := hx.reads I rx
      obtain ⟨bs, rb⟩ := hy.reads I ry
      exact SeqAt.notIn_list_data rb ra hg.2.1 hg.1.1 (by omega) ⟨.bl _, H, I, rfl, q'⟩
    · cases hb
  · split at hb
    · rename_i hg
      cases hb
      simp only [gd, gdAll, Bool.and_eq_true, decide_eq_true_eq] at hg
      obtain ⟨as, ra⟩ := hx.reads I rx
      obtain ⟨bs, rb⟩ := hy.reads I ry
      exact SeqAt.notIn_tuple_data rb ra hg.2.1 hg.1.1 (by omega) ⟨.bl _, H, I, rfl, q'⟩
    · cases hb
  · obtain ⟨r, hr, rfl⟩ := Option.map_eq_some_iff.1 hb
    obtain ⟨a, rfl, _⟩ := hy.dic
    cases ry
    rcases dGet_ask I hy hx rx hr with ⟨o, g, z⟩ | ⟨b, k, xs, rfl, hs, hk, dd, z⟩
    · refine d_notIn (by omega) I g rx fun s3 I3 => ⟨.bl _, H, I3, rfl, ?_⟩
      rw [z.same]; exact q'
    · refine wpAny_notIn_heap (show X.A.in1.units + 8 < cLine by show X.A.units + 1 + 8 < cLine; omega) hk hs dd ?_
      rw [z.same]
      exact ⟨.bl _, H, I.tok _, rfl, q'⟩
  · cases hb
    cases hx.str
    cases hy.str
    refine op_notIn_str pins s σ H _ _ v u Q I rx ry ⟨_, _, rfl, rfl, ?_⟩
    simpa using q'
  · cases hb
end
end Cv
end
section
/-! The V layer: expressions. -/
namespace Cv
open PySem L2
section
variable {X : Cx} {G : Gh}
def vOp (p : D → D → Option D) (fa fb : M D) : M D := bnd fa fun x => bnd fb fun y => lft (p x y)
/-- the left one is an own name: read when the right one has been reckoned -/
def vOpL (p : D → D → Option D) (i : Nat) (fb : M D) : M D := bnd fb fun y => bnd (vGet i) fun x => lft (p x y)
theorem top_ro {p : D → D → Option D} {fa fb : M D} (hZ : G.Z = zx X) : ∀ σ H Q, tvO G (vOp p fa fb) σ H Q → tOp (rN (zx X) p) (tvE G fa) (tvB G fb) σ H Q := by
  obtain ⟨Z, cl, H0, S0, W, fx, fv, tp⟩ := G
  cases hZ
  rintro σ H Q ⟨ρ, S, k⟩
  refine ⟨ρ, S, k.bnd.mono fun x ρ1 k1 v H1 fz1 S1 s1 => ⟨ρ1, S1, k1.bnd.mono fun y ρ2 k2 w H2 fz2 S2 r2 => ?_⟩⟩
  obtain ⟨d, e, q⟩ := k2.lft
  exact ⟨x, y, d, .sh (s1.up fz2), r2, e, fun z H3 sm nr => q z H3 (fz1.trans (fz2.trans (Same.fz sm))) (S2.same sm) (nr.ro S2)⟩
/-- an own name, as it stands behind another reckoning -/
theorem Stt.get {H : Hp} {σ : St} {ρ : Ev} {i : Nat} {v : V} {s : Sl} (S : Stt G H σ ρ) (hv : σ[i]? = some (some v)) (hs : ρ[i]? = some (some s)) : Rp G.Z H v s.d := by
  obtain ⟨w, h1, h2⟩ := S.val i s hs
  rw [hv] at h1
  cases h1
  unfold SlOk at h2
  cases ho : s.o with
  | false => rw [ho] at h2; exact .sh h2
  | true => rw [ho] at h2; exact .ow h2.1
theorem Kont.get {α : Type} {i : Nat} {k : D → M α} {ρ : Ev} {q : α → Ev → Prop} (h : Kont G (Cv.bnd (vGet i) k ρ) q) : ∃ s, ρ[i]? = some (some s) ∧ Kont G (k s.d ρ) q := by
  have h1 := h.bnd
  unfold vGet at h1
  cases hs : ρ[i]? with
  | none => rw [hs] at h1; exact h1.elim
  | some r =>
    cases r with
    | none => rw [hs] at h1; exact h1.elim
    | some s => rw [hs] at h1; exact ⟨s, rfl, h1⟩
/-- a slot's value, whatever it holds (asked ahead of what may change it) -/
def tAny (i : Nat) : TE := tVar i
theorem topL_ro {p : D → D → Option D} {i : Nat} {fb : M D} (hZ : G.Z = zx X) : ∀ σ H Q, tvO G (fun ρ => if (ρ[i]?.join).isSome then vOpL p i fb ρ else none) σ H Q → tOp (rN (zx X) p) (tVar i) (tvB G fb) σ H Q := by
  obtain ⟨Z, cl, H0, S0, W, fx, fv, tp⟩ := G
  cases hZ
  rintro σ H Q ⟨ρ, S, k⟩
  dsimp only at k
  split at k
  · rename_i hi
    cases hs : ρ[i]? with
    | none => rw [hs] at hi; cases hi
    | some r =>
      cases r with
      | none => rw [hs] at hi; cases hi
      | some s0 =>
        obtain ⟨v, hv, _⟩ := S.val i s0 hs
        refine ⟨v, hv, ρ, S, k.bnd.mono fun y ρ2 k2 w H2 fz2 S2 r2 => ?_⟩
        obtain ⟨s, hs2, k3⟩ := k2.get
        obtain ⟨d, e, q⟩ := k3.lft
        exact ⟨s.d, y, d, S2.get hv hs2, r2, e, fun z H3 sm nr => q z H3 (fz2.trans (Same.fz sm)) (S2.same sm) (nr.ro S2)⟩
  · exact k.elim
def vOpN (p : D → D → Option D) (i : Nat) (fb : M D) : M D := fun ρ => if (ρ[i]?.join).isSome then vOpL p i fb ρ else none
variable {a b c : Expr} {fa fb fc : M D} {pos : Pos} {p p' : D → D → Option D}
theorem vo_op {op : Operator} (ho : OpV X (binaryOp op) p) (ha : VE X G a fa) (hb : VB X G b fb) (hZ : G.Z = zx X := by rfl) : VO X G (.BinOp a op b pos) (vOp p fa fb) := pe_imp (pe_op ho ha hb) (top_ro hZ)
theorem vo_opN {op : Operator} (i : Nat) {x : Str} {ps : Pos} (ho : OpV X (binaryOp op) p) (hb : VB X G b fb) (hZ : G.Z = zx X := by rfl) (hN : X.N[i]? = some x := by rfl) (hv : Vis X.env.scope x := by first | exact Or.inl rfl | exact Or.inr (Or.inl rfl) | exact Or.inr (Or.inr rfl))
    (hd : (x == ("__debug__" : Str)) = false := by decide) (hcd : (x == ("__classdict__" : Str)) = false := by decide) : VO X G (.BinOp (.Name x ps) op b pos) (vOpN p i fb) := pe_imp (pe_op ho (pe_var hN hv hd hcd) hb) (topL_ro hZ)
theorem vo_cmp {op : CmpOp} (ho : OpV X (compareOp op) p) (ha : VE X G a fa) (hb : VB X G b fb) (hm : behindInMarks op b = false) (hZ : G.Z = zx X := by rfl) : VO X G (.Compare a [op] [b] pos) (vOp p fa fb) := pe_imp (pe_cmpR ho ha hb hm) (top_ro hZ)
theorem vo_cmpN {op : CmpOp} (i : Nat) {x : Str} {ps : Pos} (ho : OpV X (compareOp op) p) (hb : VB X G b fb) (hm : behindInMarks op b = false) (hZ : G.Z = zx X := by rfl) (hN : X.N[i]? = some x := by rfl) (hv : Vis X.env.scope x := by first | exact Or.inl rfl | exact Or.inr (Or.inl rfl) | exact Or.inr (Or.inr rfl))
    (hd : (x == ("__debug__" : Str)) = false := by decide) (hcd : (x == ("__classdict__" : Str)) = false := by decide) : VO X G (.Compare (.Name x ps) [op] [b] pos) (vOpN p i fb) := pe_imp (pe_cmpR ho (pe_var hN hv hd hcd) hb hm) (topL_ro hZ)
/-- a op b op' c -/
def vChain (p p' : D → D → Option D) (fa fb fc : M D) : M D := bnd fa fun x => bnd fb fun y => bnd (lft (p x y)) fun r => match r with
  | .bool true => bnd fc fun z => lft (p' y z)
  | .bool false => ret (.bool false)
  | _ => fun _ => none
theorem vo_chain {op op' : CmpOp} (ho : OpV X (compareOp op) p) (ho' : OpV X (compareOp op') p') (ha : VE X G a fa) (hb : VE X G b fb) (hc : VB X G c fc) (hZ : G.Z = zx X := by rfl) (hm : lastMarks [op, op'] [b, c] = false := by rfl) :
    VO X G (.Compare a [op, op'] [b, c] pos) (vChain p p' fa fb fc) := pe_imp (pe_chain ho ho' ha hb hc hm) (by
  obtain ⟨Z, cl, H0, S0, W, fx, fv, tp⟩ := G
  cases hZ
  rintro σ H Q ⟨ρ, S, k⟩
  refine ⟨ρ, S, k.bnd.mono fun x ρ1 k1 v H1 fz1 S1 s1 => ⟨ρ1, S1, k1.bnd.mono fun y ρ2 k2 w H2 fz2 S2 r2 => ?_⟩⟩
  obtain ⟨d, e, q⟩ := k2.bnd.lft
  refine ⟨x, y, d, .sh (s1.up fz2), .sh r2, e, fun z H3 sm nr => ?_⟩
  cases d with
  | bool t =>
    have : z = .bl t := by
      have h : Sh (zx X) H3 z (.bool t) := nr
      cases h
      rfl
    subst this
    refine ⟨t, rfl, ?_⟩
    cases t with
    | true =>
      rw [if_pos rfl]
      refine ⟨ρ2, S2.same sm, (Kont.bnd q).mono fun y' ρ3 k3 w' H4 fz4 S4 r4 => ?_⟩
      obtain ⟨d', e', q'⟩ := k3.lft
      exact ⟨y, y', d', .sh ((r2.up (Same.fz sm)).up fz4), r4, e', fun z' H5 sm' nr' => q' z' H5 (fz1.trans (fz2.trans ((Same.fz sm).trans (fz4.trans (Same.fz sm'))))) (S4.same sm') (nr'.ro S4)⟩
    | false =>
      rw [if_neg (by decide)]
      exact q _ H3 (fz1.trans (fz2.trans (Same.fz sm))) (S2.same sm) (.bl false)
  | _ => exact q.elim)
/-! ### and, or, not -/
def vAnd (fa fb : M D) : M D := bnd fa fun x => match x with
  | .bool true => fb
  | .bool false => ret (.bool false)
  | _ => fun _ => none
def vOr (fa fb : M D) : M D := bnd fa fun x => match x with
  | .bool false => fb
  | .bool true => ret (.bool true)
  | _ => fun _ => none
def vNot (fa : M D) : M D := bnd fa fun x => match x with
  | .bool b => ret (.bool (!b))
  | _ => fun _ => none
variable {rest : List Expr}
theorem tvO_kont {f : M D} {σ : St} {H H' : Hp} {Q : VK} {ρ : Ev} (S : Stt G H' σ ρ) (fz : Fz H H') (k : Kont G (f ρ) fun d ρ' => ∀ v H'', Fz H H'' → Stt G H'' σ ρ' → RO G H'' σ ρ' v d → Q v H'') : tvO G f σ H' Q :=
  ⟨ρ, S, k.mono fun d ρ' q v H'' f2 => q v H'' (fz.trans f2)⟩
theorem tvE_kont {f : M D} {σ : St} {H H' : Hp} {Q : VK} {ρ : Ev} (S : Stt G H' σ ρ) (fz : Fz H H') (k : Kont G (f ρ) fun d ρ' => ∀ v H'', Fz H H'' → Stt G H'' σ ρ' → Sh G.Z H'' v d → Q v H'') : tvE G f σ H' Q :=
  ⟨ρ, S, k.mono fun d ρ' q v H'' f2 => q v H'' (fz.trans f2)⟩
theorem vo_one {op : BoolOp} (h : VO X G a fa) : VO X G (.BoolOp op [a] pos) fa := pe_one h
theorem vo_and (ha : VE X G a fa) (hb : VO X G (.BoolOp .And (b :: rest) pos) fb) : VO X G (.BoolOp .And (a :: b :: rest) pos) (vAnd fa fb) := pe_imp (pe_and ha hb) (by
  rintro σ H Q ⟨ρ, S, k⟩
  refine ⟨ρ, S, k.bnd.mono fun x ρ1 k1 v H1 fz1 S1 s1 => ?_⟩
  cases x with
  | bool t =>
    cases s1
    refine ⟨t, rfl, ?_⟩
    cases t with
    | true => rw [if_pos rfl]; exact tvO_kont S1 fz1 k1
    | false => rw [if_neg (by decide)]; exact k1 _ H1 fz1 S1 (show Sh G.Z H1 (.bl false) (.bool false) from .bl false)
  | _ => exact k1.elim)
theorem vo_or (ha : VE X G a fa) (hb : VO X G (.BoolOp .Or (b :: rest) pos) fb) : VO X G (.BoolOp .Or (a :: b :: rest) pos) (vOr fa fb) := pe_imp (pe_or ha hb) (by
  rintro σ H Q ⟨ρ, S, k⟩
  refine ⟨ρ, S, k.bnd.mono fun x ρ1 k1 v H1 fz1 S1 s1 => ?_⟩
  cases x with
  | bool t =>
    cases s1
    refine ⟨t, rfl, ?_⟩
    cases t with
    | false => rw [if_neg (by decide)]; exact tvO_kont S1 fz1 k1
    | true => rw [if_pos rfl]; exact k1 _ H1 fz1 S1 (show Sh G.Z H1 (.bl true) (.bool true) from .bl true)
  | _ => exact k1.elim)
theorem vo_not (ha : VE X G a fa) : VO X G (.UnaryOp .Not a pos) (vNot fa) := pe_imp (pe_not ha) (by
  rintro σ H Q ⟨ρ, S, k⟩
  refine ⟨ρ, S, k.bnd.mono fun x ρ1 k1 v H1 fz1 S1 s1 => ?_⟩
  cases x with
  | bool t => cases s1; exact ⟨t, rfl, k1 _ H1 fz1 S1 (show Sh G.Z H1 (.bl (!t)) (.bool (!t)) from .bl _)⟩
  | _ => exact k1.elim)
def dNeg : D → Option D
  | .int i => some (.int (-i))
  | _ => none
def vNeg (fa : M D) : M D := bnd fa fun x => lft (dNeg x)
theorem vo_neg (ha : VE X G a fa) : VO X G (.UnaryOp .USub a pos) (vNeg fa) := pe_imp (pe_un un_neg ha) (by
  rintro σ H Q ⟨ρ, S, k⟩
  refine ⟨ρ, S, k.bnd.mono fun x ρ1 k1 v H1 fz1 S1 s1 => ?_⟩
  obtain ⟨d, e, q⟩ := k1.lft
  cases x with
  | int i => cases e; cases s1; exact ⟨i, rfl, q _ H1 fz1 S1 (show Sh G.Z H1 (.int (-i)) (.int (-i)) from .int _)⟩
  | _ => cases e)
/-! ### tests -/
def vT (f : M D) : M Bool := bnd f fun x => match x with
  | .bool b => ret b
  | _ => fun _ => none
theorem vt_val (h : VE X G a fa) (he : ∀ whole, isTrue a X.env whole = (do let v ← whole; standAt a.pos; holding [v] (truthy v)) := by intro _; rfl) : VT X G a (vT fa) := pt_imp (pt_val h he) (by
  rintro σ H Q ⟨ρ, S, k⟩
  refine ⟨ρ, S, k.bnd.mono fun x ρ1 k1 v H1 fz1 S1 s1 => ?_⟩
  cases x with
  | bool t => cases s1; exact ⟨t, rfl, k1 H1 fz1 S1⟩
  | _ => exact k1.elim)
theorem vt_cmp {op : CmpOp} (ho : OpV X (compareOp op) p) (ha : VE X G a fa) (hb : VB X G b fb) (hm : behindInMarks op b = false) (hZ : G.Z = zx X := by rfl) : VT X G (.Compare a [op] [b] pos) (vT (vOp p fa fb)) := pt_imp (pt_cmpR ho ha hb hm) (by
  rintro σ H Q ⟨ρ, S, k⟩
  refine top_ro hZ σ H _ ⟨ρ, S, k.bnd.mono fun x ρ1 k1 v H1 fz1 S1 s1 => ?_⟩
  cases x with
  | bool t =>
    have h : Sh G.Z H1 v (.bool t) := s1
    cases h
    exact ⟨t, rfl, k1 H1 fz1 S1⟩
  | _ => exact k1.elim)
theorem vt_cmpN {op : CmpOp} (i : Nat) {x : Str} {ps : Pos} (ho : OpV X (compareOp op) p) (hb : VB X G b fb) (hm : behindInMarks op b = false) (hZ : G.Z = zx X := by rfl) (hN : X.N[i]? = some x := by rfl) (hv : Vis X.env.scope x := by first | exact Or.inl rfl | exact Or.inr (Or.inl rfl) | exact Or.inr (Or.inr rfl))
    (hd : (x == ("__debug__" : Str)) = false := by decide) (hcd : (x == ("__classdict__" : Str)) = false := by decide) : VT X G (.Compare (.Name x ps) [op] [b] pos) (vT (vOpN p i fb)) := pt_imp (pt_cmpR ho (pe_var hN hv hd hcd) hb hm) (by
  rintro σ H Q ⟨ρ, S, k⟩
  refine topL_ro hZ σ H _ ⟨ρ, S, k.bnd.mono fun x ρ1 k1 v H1 fz1 S1 s1 => ?_⟩
  cases x with
  | bool t =>
    have h : Sh G.Z H1 v (.bool t) := s1
    cases h
    exact ⟨t, rfl, k1 H1 fz1 S1⟩
  | _ => exact k1.elim)
abbrev VW (X : Cx) (G : Gh) (e : Expr) (f : M Bool) : Prop := PW X e (tvT G f)
variable {ta tb : M Bool}
def vNotT (t : M Bool) : M Bool := bnd t fun b => ret (!b)
def vAndT (t u : M Bool) : M Bool := bnd t fun b => if b then u else ret false
def vOrT (t u : M Bool) : M Bool := bnd t fun b => if b then ret true else u
theorem pw_imp {e : Expr} {t t' : TT} (h : PW X e t) (k : ∀ σ H Q, t' σ H Q → t σ H Q) : PW X e t' := ⟨fun w pins s σ H Q I q => h.run w pins s σ H Q I (k σ H Q q)⟩
theorem vt_not (ha : VT X G a ta) : VT X G (.UnaryOp .Not a pos) (vNotT ta) := pt_imp (pt_not ha) (by
  rintro σ H Q ⟨ρ, S, k⟩
  exact ⟨ρ, S, k.bnd.mono fun x ρ1 k1 H1 fz1 S1 => k1 H1 fz1 S1⟩)
theorem vw_and1 (ha : VT X G a ta) : VW X G (.BoolOp .And [a] pos) ta := pw_and1 ha
theorem vw_or1 (ha : VT X G a ta) : VW X G (.BoolOp .Or [a] pos) ta := pw_or1 ha
theorem vw_and (ha : VT X G a ta) (hb : VW X G (.BoolOp .And (b :: rest) pos) tb) : VW X G (.BoolOp .And (a :: b :: rest) pos) (vAndT ta tb) := pw_imp (pw_and ha hb) (by
  rintro σ H Q ⟨ρ, S, k⟩
  refine ⟨ρ, S, k.bnd.mono fun x ρ1 k1 H1 fz1 S1 => ?_⟩
  cases x with
  | true => rw [if_pos rfl]; exact ⟨ρ1, S1, Kont.mono k1 fun c ρ2 q H2 f2 => q H2 (fz1.trans f2)⟩
  | false => rw [if_neg (by decide)]; exact k1 H1 fz1 S1)
theorem vw_or (ha : VT X G a ta) (hb : VW X G (.BoolOp .Or (b :: rest) pos) tb) : VW X G (.BoolOp .Or (a :: b :: rest) pos) (vOrT ta tb) := pw_imp (pw_or ha hb) (by
  rintro σ H Q ⟨ρ, S, k⟩
  refine ⟨ρ, S, k.bnd.mono fun x ρ1 k1 H1 fz1 S1 => ?_⟩
  cases x with
  | false => rw [if_neg (by decide)]; exact ⟨ρ1, S1, Kont.mono k1 fun c ρ2 q H2 f2 => q H2 (fz1.trans f2)⟩
  | true => rw [if_pos rfl]; exact k1 H1 fz1 S1)
theorem vt_w (h : VW X G a ta) : VT X G a ta := h.pt
def vIf {α : Type} (t : M Bool) (fa fb : M α) : M α := bnd t fun b => if b then fa else fb
theorem vo_if (ht : VT X G c ta) (ha : VO X G a fa) (hb : VO X G b fb) : VO X G (.IfExp c a b pos) (vIf ta fa fb) := pe_imp (pe_ifExp ht ha hb) (by
  rintro σ H Q ⟨ρ, S, k⟩
  refine ⟨ρ, S, k.bnd.mono fun x ρ1 k1 H1 fz1 S1 => ?_⟩
  cases x with
  | true => rw [if_pos rfl]; exact tvO_kont S1 fz1 k1
  | false => rw [if_neg (by decide)]; exact tvO_kont S1 fz1 k1)
theorem ve_if (ht : VT X G c ta) (ha : VE X G a fa) (hb : VE X G b fb) : VE X G (.IfExp c a b pos) (vIf ta fa fb) := pe_imp (pe_ifExp ht ha hb) (by
  rintro σ H Q ⟨ρ, S, k⟩
  refine ⟨ρ, S, k.bnd.mono fun x ρ1 k1 H1 fz1 S1 => ?_⟩
  cases x with
  | true => rw [if_pos rfl]; exact tvE_kont S1 fz1 k1
  | false => rw [if_neg (by decide)]; exact tvE_kont S1 fz1 k1)
/-! ### arguments -/
variable {es : List Expr} {fs : M (List D)}
def vNil : M (List D) := ret []
def vCons (f : M D) (fs : M (List D)) : M (List D) := bnd f fun x => bnd fs fun xs => ret (x :: xs)
theorem va_nil : VA X G [] vNil := ⟨fun pos pins s σ H Q I ⟨ρ, S, k⟩ => pa_nil.run pos pins s σ H Q I (k [] H (Fz.refl H) S .nil)⟩
theorem va_cons (ha : VE X G a fa) (hr : VA X G es fs) (hs : starEach (a :: es) X.env = (false, eval a X.env) :: starEach es X.env := by rfl) : VA X G (a :: es) (vCons fa fs) := ⟨fun pos pins s σ H Q I ⟨ρ, S, k⟩ => (pa_cons ha hr hs).run pos pins s σ H Q I
  ⟨ρ, S, k.bnd.mono fun x ρ1 k1 v H1 fz1 S1 s1 => ⟨ρ1, S1, k1.bnd.mono fun xs ρ2 k2 vs H2 fz2 S2 r2 => k2 _ H2 (fz1.trans fz2) S2 (.cons (s1.up fz2) r2)⟩⟩⟩
/-! ### displays -/
def vTup (fs : M (List D)) : M D := bnd fs fun xs => lft (if xs.length ≤ 1000 then some (.tuple xs) else none)
def vLst (fs : M (List D)) : M D := bnd fs fun xs => lft (if xs.length ≤ 1000 then some (.list xs) else none)
theorem vo_tup {x1 : Nat} (h : VA X G es fs) (hZ : G.Z = zx X := by rfl) : VO X G (.Tuple es x1 pos) (vTup fs) := by
  obtain ⟨Z, cl, H0, S0, W, fx, fv, tp⟩ := G
  cases hZ
  refine ⟨fun pins s σ H Q I ⟨ρ, S, k⟩ => ?_⟩
  refine wpAny_Tuple_spliced (thn (h.run pos pins s σ H (fun vs H1 => vs.length ≤ 1000 ∧ ∀ p o, o.dict = none → H1 p = none → Q (.ref p) (upd H1 p (.frz o (.tup vs)))) I ⟨ρ, S, k.bnd.mono fun xs ρ1 k1 vs H1 fz1 S1 s1 => ?_⟩) fun us s1 ⟨xs, H1, I1, r, z, q⟩ => ⟨by rw [← r.length]; exact sz1000 z, ?_⟩)
  · obtain ⟨d, e, q⟩ := k1.lft
    split at e
    · cases e
      refine ⟨by rw [s1.length]; assumption, fun p o ho hp => ?_⟩
      have sm := sm_upd (o := .frz o (.tup vs)) hp
      exact q _ _ (fz1.trans (Same.fz sm)) (S1.same sm) (show Sh (zx X) _ _ _ from .tup (.inl ⟨o, ho, upd_same⟩) (s1.up (Same.fz sm)))
    · cases e
  · exact ⟨.ref s1.heap.objs.size, _, inv_tnew (tk := s1.toks) I1 r (sz1000 z), rfl, q _ _ rfl I1.fresh⟩
theorem vo_lst (h : VA X G es fs) (hZ : G.Z = zx X := by rfl) : VO X G (.List es pos) (vLst fs) := pe_imp (ue_lst h) (by
  obtain ⟨Z, cl, H0, S0, W, fx, fv, tp⟩ := G
  cases hZ
  rintro σ H Q ⟨ρ, S, k⟩
  refine ⟨ρ, S, k.bnd.mono fun xs ρ1 k1 vs H1 fz1 S1 s1 => ?_⟩
  obtain ⟨d, e, q⟩ := k1.lft
  split at e
  · cases e
    refine ⟨by rw [s1.length]; assumption, fun p H2 sm hp e2 => ?_⟩
    exact q _ _ (fz1.trans (Same.fz sm)) (S1.same sm) (NR.ro (nr_ow rfl hp (.lst e2 (s1.up (Same.fz sm)))) S1)
  · cases e)
def vDict0 : M D := ret (.dict [])
theorem vo_dict0 : VO X G (.Dict [] [] pos) vDict0 := pe_imp ue_dK (by
  rintro σ H Q ⟨ρ, S, k⟩
  intro p H2 sm hp e2
  exact k _ _ (Same.fz sm) (S.same sm) (NR.ro (nr_ow rfl hp (.dK e2 .nil)) S))
end
end Cv
end
section
/-! The V layer: subscripts, slices, built-ins. -/
namespace Cv
open PySem L2
section
variable {X : Cx} {G : Gh}
/-! ### x[y] -/
theorem ShAll.atI {Z : Zx} {H : Hp} {vs : List V} {ds : List D} {i : Int} {d : D} (h : ShAll Z H vs ds) (e : L2.atI ds i = some d) : ∃ v, L2.atI vs i = some v ∧ Sh Z H v d := by
  unfold L2.atI at *
  rw [h.length]
  cases hj : ixN ds.length i with
  | none => rw [hj] at e; cases e
  | some j => rw [hj] at e; exact h.get e
def dIx : D → D → Option D
  | .list xs, .int i => L2.atI xs i
  | .tuple xs, .int i => L2.atI xs i
  | .dict kvs, k => (dGet kvs k).join
  | .str z, .int i => if z.length ≤ sizeLine then (L2.atI z.cps.toList i).map fun c => .str ⟨#[c]⟩ else none
  | _, _ => none
def rS (Z : Zx) (p : D → D → Option D) : R2 := fun x y H Q => ∃ dx dy d, Rp Z H x dx ∧ Rp Z H y dy ∧ p dx dy = some d ∧ ∀ v, Sh Z H v d → Q v H
open PySem.Spec PyProof.Rows in
theorem o_ix (hu : X.A.units + 64 < cLine) : IxR X (rS (zx X) dIx) := by
  intro value slice pins s σ H x y v u Q I rx ry ⟨dx, dy, d, hx, hy, e, q⟩ hs
  unfold dIx at e
  split at e
  · cases hy.int
    obtain ⟨a, vs, rfl, hr, sv⟩ := hx.lst
    obtain ⟨z, e1, sz⟩ := sv.atI e
    exact ix_list value slice pins s σ H _ _ v u Q I rx ry ⟨_, _, _, _, rfl, rfl, hr.sq, e1, q z sz⟩ hs
  · cases hy.int
    obtain ⟨a, vs, rfl, hr, sv⟩ := hx.tup
    obtain ⟨z, e1, sz⟩ := sv.atI e
    exact ix_tup value slice pins s σ H _ _ v u Q I rx ry ⟨_, _, _, _, rfl, rfl, hr.sq, e1, q z sz⟩ hs
  · obtain ⟨a, rfl, _⟩ := hx.dic
    obtain ⟨r, hr, er⟩ := Option.join_eq_some_iff.1 e |> fun h => (⟨some d, h, rfl⟩ : ∃ r, dGet _ _ = some r ∧ r = some d)
    subst er
    rcases dGet_ask I hx hy ry hr with ⟨o, g, z⟩ | ⟨b, k, xs, rfl, hsm, hk, dd, z⟩
    · obtain ⟨w, rfl, sw⟩ := z
      exact ix_dict (by omega) value slice pins s σ H _ _ v u Q I rx ry ⟨a, w, rfl, g, q w sw⟩ hs
    · obtain ⟨p, w, ep, rw', sw⟩ := z
      cases rx
      have hT := dd.typeIs
      unfold subscriptTail
      refine wpAny_bind ?_
      rw [getitemInPython_of_ne hT.not_modules]
      refine wpAny_bind (wpAny_specialOf hT PySem.F.slot_dict_getitem.lookup ?_)
      have got : wpAny (model X.prog X.w) X.A (getItem (.ref a) (.ref b)) (EP X pins σ Q) X.xe s := wpAny_getItem_heap (show X.A.in1.units + 8 < cLine by show X.A.units + 1 + 8 < cLine; omega) hk dd ep ⟨w, H, I.tok _, rw', q w sw⟩
      have fin : wpAny (model X.prog X.w) X.A (subscripted slice false (.ref a) (.ref b)) (fun r s₃ => wpAny (model X.prog X.w) X.A (letTemporaryGo value (.ref a) r >>= fun _ => pure r) (EP X pins σ Q) X.xe s₃) X.xe s := by
        rw [hs]
        exact wpAny_operating (wpAny_mono got (fun r s₃ h₃ => wpAny_bind (wpAny_letTemporaryGo (wpAny_pure h₃))) fun _ _ x => x)
      first
        | exact wpAny_pure (wpAny_bind fin)
        | exact wpAny_bind (wpAny_pure (wpAny_bind fin))
        | exact wpAny_bind fin
  · cases hy.int
    cases hx.str
    split at e
    · obtain ⟨c, ec, rfl⟩ := Option.map_eq_some_iff.1 e
      exact ix_str value slice pins s σ H _ _ v u Q I rx ry ⟨_, _, _, rfl, rfl, by assumption, ec, q _ (.str _)⟩ hs
    · cases e
  · cases e
variable {a b c : Expr} {fa fb fc : M D} {pos : Pos}
theorem top_sh {p : D → D → Option D} (hZ : G.Z = zx X) : ∀ σ H Q, tvE G (vOp p fa fb) σ H Q → tOp (rS (zx X) p) (tvE G fa) (tvB G fb) σ H Q := by
  obtain ⟨Z, cl, H0, S0, W, fx, fv, tp⟩ := G
  cases hZ
  rintro σ H Q ⟨ρ, S, k⟩
  refine ⟨ρ, S, k.bnd.mono fun x ρ1 k1 v H1 fz1 S1 s1 => ⟨ρ1, S1, k1.bnd.mono fun y ρ2 k2 w H2 fz2 S2 r2 => ?_⟩⟩
  obtain ⟨d, e, q⟩ := k2.lft
  exact ⟨x, y, d, .sh (s1.up fz2), r2, e, fun z sz => q z H2 (fz1.trans fz2) S2 sz⟩
theorem topL_sh {p : D → D → Option D} {i : Nat} (hZ : G.Z = zx X) : ∀ σ H Q, tvE G (vOpN p i fb) σ H Q → tOp (rS (zx X) p) (tVar i) (tvB G fb) σ H Q := by
  obtain ⟨Z, cl, H0, S0, W, fx, fv, tp⟩ := G
  cases hZ
  rintro σ H Q ⟨ρ, S, k⟩
  unfold vOpN at k
  split at k
  · rename_i hi
    cases hs : ρ[i]? with
    | none => rw [hs] at hi; cases hi
    | some r =>
      cases r with
      | none => rw [hs] at hi; cases hi
      | some s0 =>
        obtain ⟨v, hv, _⟩ := S.val i s0 hs
        refine ⟨v, hv, ρ, S, k.bnd.mono fun y ρ2 k2 w H2 fz2 S2 r2 => ?_⟩
        obtain ⟨s, hs2, k3⟩ := k2.get
        obtain ⟨d, e, q⟩ := k3.lft
        exact ⟨s.d, y, d, S2.get hv hs2, r2, e, fun z sz => q z H2 fz2 S2 sz⟩
  · exact k.elim
theorem ve_ix (hu : X.A.units + 64 < cLine) (ha : VE X G a fa) (hb : VB X G b fb) (hs : PlainIx b) (hZ : G.Z = zx X := by rfl) : VE X G (.Subscript a b pos) (vOp dIx fa fb) := pe_imp (pe_ix (o_ix hu) ha hb hs) (top_sh hZ)
theorem ve_ixN (i : Nat) {x : Str} {ps : Pos} (hu : X.A.units + 64 < cLine) (hb : VB X G b fb) (hs : PlainIx b) (hZ : G.Z = zx X := by rfl) (hN : X.N[i]? = some x := by rfl) (hv : Vis X.env.scope x := by first | exact Or.inl rfl | exact Or.inr (Or.inl rfl) | exact Or.inr (Or.inr rfl))
    (hd : (x == ("__debug__" : Str)) = false := by decide) (hcd : (x == ("__classdict__" : Str)) = false := by decide) : VE X G (.Subscript (.Name x ps) b pos) (vOpN dIx i fb) := pe_imp (pe_ix (o_ix hu) (pe_var hN hv hd hcd) hb hs) (topL_sh hZ)
/-! ### x[lo:hi] -/
def cutD {α : Type} (xs : List α) (lo hi : Option Int) : List α := (xs.drop (HT.sIx xs.length 0 lo)).take (HT.sIx xs.length xs.length hi - HT.sIx xs.length 0 lo)
def dSl : D → Option Int → Option Int → Option D
  | .list xs, lo, hi => some (.list (cutD xs lo hi))
  | .tuple xs, lo, hi => some (.tuple (cutD xs lo hi))
  | .str z, lo, hi => if z.length ≤ sizeLine then some (.str (cutS z lo hi)) else none
  | _, _, _ => none
theorem ShAll.cut {Z : Zx} {H : Hp} {vs : List V} {ds : List D} (h : ShAll Z H vs ds) (lo hi : Option Int) : ShAll Z H (cutV vs lo hi) (cutD ds lo hi) := by
  unfold cutV cutD
  rw [h.length]
  exact (h.drop _).take _
def rSl (Z : Zx) : V → Option Int → Option Int → Hp → VK → Prop := fun x lo hi H Q => ∃ dx d, Rp Z H x dx ∧ dSl dx lo hi = some d ∧ ∀ v H', Same H H' → NR Z H H' v d → Q v H'
open PySem.Spec PyProof.Rows in
theorem o_sl : SlR X (rSl (zx X)) := by
  intro pins s σ H x v lo' hi' lo hi sl Q I rx hs pl ph ⟨dx, d, hx, e, q⟩
  unfold dSl at e
  split at e
  · cases e
    obtain ⟨a, vs, rfl, hr, sv⟩ := hx.lst
    exact sl_list pins s σ H _ v lo' hi' lo hi sl Q I rx hs pl ph ⟨_, _, rfl, hr.sq, fun p hp => q _ _ (sm_upd hp) (nr_lst hp (sv.cut lo hi))⟩
  · cases e
    obtain ⟨a, vs, rfl, hr, sv⟩ := hx.tup
    by_cases hw : HT.sIx vs.length 0 lo = 0 ∧ HT.sIx vs.length vs.length hi = vs.length
    · have ec : cutV vs lo hi = vs := cut_all hw
      have sc := sv.cut lo hi
      rw [ec] at sc
      refine sl_tupA pins s σ H _ v lo' hi' lo hi sl Q I rx hs pl ph ⟨_, _, rfl, hr.sq, fun _ => q _ _ (Same.refl H) (nr_sh rfl (.tup hr sc)), fun z => absurd hw z⟩
    · cases rx
      obtain ⟨its, r, ht, hz⟩ := I.tuple hr.sq
      have hlen : its.toArray.size = vs.length := by simpa using r.length.symm
      refine ⟨"tuple", _, PyProof.Rows.slot_tuple_getitem.lookup, ht.typeIs, HT.getItem_tuple_cut ht hs pl ph (by rw [hlen]; exact hw) ?_ (by rw [hlen]; exact hz)⟩
      rw [hlen]
      exact ⟨.ref s.heap.objs.size, _, inv_tnew (tk := s.toks) I (vs := cutV vs lo hi) ((r.drop _).take _) (Nat.le_trans (cutV_length vs lo hi) hz), rfl, q _ _ (sm_upd I.fresh) (nr_tup rfl I.fresh (sv.cut lo hi))⟩
  · split at e
    · cases e
      cases hx.str
      exact sl_str pins s σ H _ v lo' hi' lo hi sl Q I rx hs pl ph ⟨_, rfl, by assumption, q _ _ (Same.refl H) (nr_sh rfl (.str _))⟩
    · cases e
  · cases e
/-- a part of a slice -/
def tvP (G : Gh) (f : M (Option Int)) : TO := fun σ H Q => ∃ ρ, Stt G H σ ρ ∧ Kont G (f ρ) fun o ρ' => ∀ H', Fz H H' → Stt G H' σ ρ' → Q o H'
abbrev VP (X : Cx) (G : Gh) (e : Option Expr) (f : M (Option Int)) : Prop := PO X e (tvP G f)
theorem po_imp {e : Option Expr} {t t' : TO} (h : PO X e t) (k : ∀ σ H Q, t' σ H Q → t σ H Q) : PO X e t' := ⟨fun pins s σ H Q I q => h.run pins s σ H Q I (k σ H Q q)⟩
def vPart (f : M D) : M (Option Int) := bnd f fun x => match x with
  | .int i => ret (some i)
  | _ => fun _ => none
def vNoPart : M (Option Int) := ret none
theorem vp_none : VP X G none vNoPart := po_imp po_none (by
  rintro σ H Q ⟨ρ, S, k⟩
  exact k H (Fz.refl H) S)
theorem vp_some (h : VE X G a fa) : VP X G (some a) (vPart fa) := po_imp (po_some h) (by
  rintro σ H Q ⟨ρ, S, k⟩
  refine ⟨ρ, S, k.bnd.mono fun x ρ1 k1 v H1 fz1 S1 s1 => ?_⟩
  cases x with
  | int i => cases s1; exact ⟨i, rfl, k1 H1 fz1 S1⟩
  | _ => exact k1.elim)
def vSl (fa : M D) (lo hi : M (Option Int)) : M D := bnd fa fun x => bnd lo fun l => bnd hi fun h => lft (dSl x l h)
theorem vo_sl {lo hi : Option Expr} {fl fh : M (Option Int)} {p2 : Pos} (ha : VE X G a fa) (hl : VP X G lo fl) (hh : VP X G hi fh) (hZ : G.Z = zx X := by rfl) : VO X G (.Subscript a (.Slice lo hi none p2) pos) (vSl fa fl fh) := pe_imp (pe_slice o_sl ha hl hh) (by
  obtain ⟨Z, cl, H0, S0, W, fx, fv, tp⟩ := G
  cases hZ
  rintro σ H Q ⟨ρ, S, k⟩
  refine ⟨ρ, S, k.bnd.mono fun x ρ1 k1 v H1 fz1 S1 s1 => ⟨ρ1, S1, k1.bnd.mono fun l ρ2 k2 H2 fz2 S2 => ⟨ρ2, S2, k2.bnd.mono fun h ρ3 k3 H3 fz3 S3 => ?_⟩⟩⟩
  obtain ⟨d, e, q⟩ := k3.lft
  exact ⟨x, d, .sh (s1.up (fz2.trans fz3)), e, fun z H4 sm nr => q z H4 (fz1.trans (fz2.trans (fz3.trans (Same.fz sm)))) (S3.same sm) (nr.ro S3)⟩)
/-- the slice of an own name, its ends written -/
def vSlN (i : Nat) (lo hi : M (Option Int)) : M D := fun ρ => if (ρ[i]?.join).isSome then bnd lo (fun l => bnd hi fun h => bnd (vGet i) fun x => lft (dSl x l h)) ρ else none
theorem vo_slN (i : Nat) {x : Str} {ps : Pos} {lo hi : Option Expr} {fl fh : M (Option Int)} {p2 : Pos} (hl : VP X G lo fl) (hh : VP X G hi fh) (hZ : G.Z = zx X := by rfl) (hN : X.N[i]? = some x := by rfl) (hv : Vis X.env.scope x := by first | exact Or.inl rfl | exact Or.inr (Or.inl rfl) | exact Or.inr (Or.inr rfl))
    (hd : (x == ("__debug__" : Str)) = false := by decide) (hcd : (x == ("__classdict__" : Str)) = false := by decide) : VO X G (.Subscript (.Name x ps) (.Slice lo hi none p2) pos) (vSlN i fl fh) := pe_imp (pe_slice o_sl (pe_var hN hv hd hcd) hl hh) (by
  obtain ⟨Z, cl, H0, S0, W, fx, fv, tp⟩ := G
  cases hZ
  rintro σ H Q ⟨ρ, S, k⟩
  unfold vSlN at k
  split at k
  · rename_i hi'
    cases hs : ρ[i]? with
    | none => rw [hs] at hi'; cases hi'
    | some r =>
      cases r with
      | none => rw [hs] at hi'; cases hi'
      | some s0 =>
        obtain ⟨v, hv, _⟩ := S.val i s0 hs
        refine ⟨v, hv, ρ, S, k.bnd.mono fun l ρ2 k2 H2 fz2 S2 => ⟨ρ2, S2, k2.bnd.mono fun h ρ3 k3 H3 fz3 S3 => ?_⟩⟩
        obtain ⟨s, hs2, k4⟩ := k3.get
        obtain ⟨d, e, q⟩ := k4.lft
        exact ⟨s.d, d, S3.get hv hs2, e, fun z H4 sm nr => q z H4 (fz2.trans (fz3.trans (Same.fz sm))) (S3.same sm) (nr.ro S3)⟩
  · exact k.elim)
/-! ### built-ins of one argument, of several -/
def rC1 (Z : Zx) (p : D → Option D) : List V → Hp → VK → Prop := fun xs H Q => ∃ x d r, xs = [x] ∧ Rp Z H x d ∧ p d = some r ∧ ∀ v H', Same H H' → NR Z H H' v r → Q v H'
def rCN (Z : Zx) (p : List D → Option D) : List V → Hp → VK → Prop := fun xs H Q => ∃ ds r, ShAll Z H xs ds ∧ p ds = some r ∧ ∀ v H', Same H H' → NR Z H H' v r → Q v H'
def vC1 (p : D → Option D) (fa : M D) : M D := bnd fa fun x => lft (p x)
def vCN (p : List D → Option D) (fs : M (List D)) : M D := bnd fs fun xs => lft (p xs)
theorem tc1 {p : D → Option D} (hZ : G.Z = zx X) : ∀ σ H Q, tvO G (vC1 p fa) σ H Q → tCB (rC1 (zx X) p) (tCons (tvB G fa) tNil) σ H Q := by
  obtain ⟨Z, cl, H0, S0, W, fx, fv, tp⟩ := G
  cases hZ
  rintro σ H Q ⟨ρ, S, k⟩
  refine ⟨ρ, S, k.bnd.mono fun x ρ1 k1 v H1 fz1 S1 r1 => ?_⟩
  obtain ⟨d, e, q⟩ := k1.lft
  exact ⟨v, x, d, rfl, r1, e, fun z H2 sm nr => q z H2 (fz1.trans (Same.fz sm)) (S1.same sm) (nr.ro S1)⟩
theorem tcN {p : List D → Option D} {fs : M (List D)} (hZ : G.Z = zx X) : ∀ σ H Q, tvO G (vCN p fs) σ H Q → tCB (rCN (zx X) p) (tvA G fs) σ H Q := by
  obtain ⟨Z, cl, H0, S0, W, fx, fv, tp⟩ := G
  cases hZ
  rintro σ H Q ⟨ρ, S, k⟩
  refine ⟨ρ, S, k.bnd.mono fun x ρ1 k1 v H1 fz1 S1 r1 => ?_⟩
  obtain ⟨d, e, q⟩ := k1.lft
  exact ⟨x, d, r1, e, fun z H2 sm nr => q z H2 (fz1.trans (Same.fz sm)) (S1.same sm) (nr.ro S1)⟩
variable {x : Str} {id T : String} {pp : Pos} {es : List Expr} {fs : M (List D)}
theorem vo_b1 {p : D → Option D} (hc : CallR X (.builtin id) (rC1 (zx X) p)) (hg : Gl X x) (hm : X.mg x = none) (hv : bootBuiltins x = some (.builtin id)) (ha : VB X G a fa) (hZ : G.Z = zx X := by rfl) (hn : x ≠ "__name__" := by decide) (hdb : (x == ("__debug__" : Str)) = false := by decide)
    (hs : starEach [a] X.env = (false, eval a X.env) :: starEach [] X.env := by rfl) : VO X G (.Call (.Name x pp) [a] [] pos) (vC1 p fa) := pe_imp (pe_callB hc hg hm hv (pa_cons ha pa_nil hs) hn hdb hs rfl) (tc1 hZ)
theorem vo_t1 {p : D → Option D} (hc : CallR X (.type T) (rC1 (zx X) p)) (hg : Gl X x) (hm : X.mg x = none) (hv : bootBuiltins x = some (.type T)) (ha : VB X G a fa) (hZ : G.Z = zx X := by rfl) (hn : x ≠ "__name__" := by decide) (hdb : (x == ("__debug__" : Str)) = false := by decide)
    (hs : starEach [a] X.env = (false, eval a X.env) :: starEach [] X.env := by rfl) : VO X G (.Call (.Name x pp) [a] [] pos) (vC1 p fa) := pe_imp (pe_callTy hc hg hm hv (pa_cons ha pa_nil hs) hn hdb hs rfl) (tc1 hZ)
theorem vo_bN {p : List D → Option D} (hc : CallR X (.builtin id) (rCN (zx X) p)) (hg : Gl X x) (hm : X.mg x = none) (hv : bootBuiltins x = some (.builtin id)) (ha : VA X G (a :: es) fs) (hZ : G.Z = zx X := by rfl) (hn : x ≠ "__name__" := by decide) (hdb : (x == ("__debug__" : Str)) = false := by decide)
    (hs : starEach (a :: es) X.env = (false, eval a X.env) :: starEach es X.env := by rfl) (hpl : (backTo pos (starEach es X.env)).any (·.1) = false := by rfl) : VO X G (.Call (.Name x pp) (a :: es) [] pos) (vCN p fs) := pe_imp (pe_callB hc hg hm hv ha hn hdb hs hpl) (tcN hZ)
end
end Cv
end
section
/-! The V layer: the built-ins by name. -/
namespace Cv
open PySem L2
open PySem.Spec PyProof.Rows
section
variable {X : Cx} {G : Gh}
def dLen : D → Option D
  | .list xs => some (.int xs.length)
  | .tuple xs => some (.int xs.length)
  | .dict xs => some (.int xs.length)
  | .str z => if z.length ≤ sizeLine then some (.int z.length) else none
  | _ => none
theorem ShKv.length {Z : Zx} {H : Hp} : ∀ {vs : List (Key × V)} {ds : List (D × D)}, ShKv Z H vs ds → vs.length = ds.length
  | [], _, h => by cases h; rfl
  | v :: vs, _, h => by
    cases h with
    | cons h1 h2 => simp [ShKv.length h2]
theorem ShN.length {Z : Zx} {H : Hp} : ∀ {vs : List (NestedKey × Addr × V)} {ds : List (D × D)}, ShN Z H vs ds → vs.length = ds.length
  | [], _, h => by cases h; rfl
  | v :: vs, _, h => by
    cases h with
    | cons h1 h2 h3 h4 h5 => simp [ShN.length h5]
theorem ShN.isT {Z : Zx} {H : Hp} : ∀ {vs : List (NestedKey × Addr × V)} {ds : List (D × D)}, ShN Z H vs ds → (ds.all fun p => Cv.isT p.1) = true
  | [], _, h => by cases h; rfl
  | v :: vs, _, h => by
    cases h with
    | cons h1 h2 h3 h4 h5 => rw [List.all_cons, ShN.isT h5]; rfl
theorem c_len : CallR X (.builtin "len") (rC1 (zx X) dLen) := by
  intro pins s σ H xs us Q I r ⟨x, d, z, e, hx, ed, q⟩
  subst e
  unfold dLen at ed
  split at ed
  · cases ed
    obtain ⟨a, vs, rfl, hr, sv⟩ := hx.lst
    refine call_len_seq pins s σ H _ us Q I r ⟨_, _, rfl, .inl hr.sq, ?_⟩
    rw [sv.length]
    exact q _ _ (Same.refl H) (nr_sh rfl (.int _))
  · cases ed
    obtain ⟨a, vs, rfl, hr, sv⟩ := hx.tup
    refine call_len_seq pins s σ H _ us Q I r ⟨_, _, rfl, .inr hr.sq, ?_⟩
    rw [sv.length]
    exact q _ _ (Same.refl H) (nr_sh rfl (.int _))
  · cases ed
    obtain ⟨a, rfl, h⟩ := hx.dic
    obtain ⟨u, rfl, ru⟩ := vals1 r
    cases ru
    rcases h with ⟨kvs, hr, sv⟩ | ⟨_, kvs, hr, sv⟩
    · refine d_len I hr fun t s' I' => ⟨.int kvs.length, H, I', ⟨t, rfl⟩, ?_⟩
      rw [sv.length]
      exact q _ _ (Same.refl H) (nr_sh rfl (.int _))
    · obtain ⟨hs, kvs', xs, sv', pr, hz, dd, _⟩ := tupDict I hx sv.isT
      have l2 : kvs'.length = xs.length := Paired.length pr
      have big : sizeLine = 16777216 := sizeLine_eq
      rw [← sv'.length, l2] at q
      exact call_len_dictH hs dd (by omega) ⟨.int xs.length, H, I.tok _, ⟨_, rfl⟩, q _ _ (Same.refl H) (nr_sh rfl (.int _))⟩
  · split at ed
    · cases ed
      cases hx.str
      exact call_len_str pins s σ H _ us Q I r ⟨_, rfl, by assumption, q _ _ (Same.refl H) (nr_sh rfl (.int _))⟩
    · cases ed
  · cases ed
/-! isinstance -/
def rIs (Z : Zx) (T : String) (g : D → Bool) : List V → Hp → VK → Prop := fun xs H Q => ∃ x d, xs = [x, .ty T] ∧ Rp Z H x d ∧ Q (.bl (g d)) H
theorem c_isR {T : String} {g : D → Bool} (h : ∀ (s : Shared) (v : Value) (d : D) (as : List Addr) (Q : Value → Shared → Prop), Reads s.heap v d as → (∀ tk, s.toks ≤ tk → Q (.bool (g d)) { s with toks := tk }) → wpAny (model X.prog X.w) X.A (call (.builtin "isinstance") [v, .type T]) Q X.xe s) :
    CallR X (.builtin "isinstance") (rIs (zx X) T g) := by
  intro pins s σ H xs us Q I r ⟨x, d, e, hx, q⟩
  subst e
  cases r with
  | cons r1 r2 =>
    cases r2 with
    | cons r3 r4 =>
      cases r4
      cases (show _ = Value.type T from r3)
      obtain ⟨as, ra⟩ := hx.reads I r1
      exact h s _ d as _ ra fun tk _ => ⟨.bl _, H, I.tok _, rfl, q⟩
theorem c_is_int : CallR X (.builtin "isinstance") (rIs (zx X) "int" PyData.isInt) := c_isR fun s v d as Q r h => PySem.W.isinstance_int_data r h
theorem c_is_bool : CallR X (.builtin "isinstance") (rIs (zx X) "bool" PyData.isBool) := c_isR fun s v d as Q r h => PySem.W.isinstance_bool_data r h
theorem c_is_str : CallR X (.builtin "isinstance") (rIs (zx X) "str" PyData.isStr) := c_isR fun s v d as Q r h => PySem.W.isinstance_str_data r h
theorem c_is_list : CallR X (.builtin "isinstance") (rIs (zx X) "list" PyData.isList) := c_isR fun s v d as Q r h => PySem.W.isinstance_list_data r h
theorem c_is_tuple : CallR X (.builtin "isinstance") (rIs (zx X) "tuple" PyData.isTuple) := c_isR fun s v d as Q r h => PySem.W.isinstance_tuple_data r h
theorem c_is_dict : CallR X (.builtin "isinstance") (rIs (zx X) "dict" PyData.isDict) := c_isR fun s v d as Q r h => PySem.W.isinstance_dict_data r h
def vIs (g : D → Bool) (fa : M D) : M D := bnd fa fun x => ret (.bool (g x))
theorem vo_is {T : String} {g : D → Bool} {x y : Str} {a : Expr} {fa : M D} {p1 p2 pos : Pos} (hc : CallR X (.builtin "isinstance") (rIs (zx X) T g)) (hg : Gl X "isinstance") (hm : X.mg "isinstance" = none) (hg2 : Gl X y) (hm2 : X.mg y = none) (hv2 : bootBuiltins y = some (.type T)) (ha : VB X G a fa) (hZ : G.Z = zx X := by rfl)
    (hn2 : y ≠ "__name__" := by decide) (hd2 : (y == ("__debug__" : Str)) = false := by decide) (hs : starEach [a, .Name y p2] X.env = (false, eval a X.env) :: starEach [.Name y p2] X.env := by rfl) (hs2 : starEach [.Name y p2] X.env = (false, eval (.Name y p2) X.env) :: starEach [] X.env := by rfl)
    (hpl : (backTo pos (starEach [.Name y p2] X.env)).any (·.1) = false := by rfl) : VO X G (.Call (.Name "isinstance" p1) [a, .Name y p2] [] pos) (vIs g fa) := pe_imp (pe_callB hc hg hm (by decide +kernel) (pa_cons ha (pa_cons (pe_bltn (v := .ty T) hg2 hm2 hv2 rfl hn2 hd2) pa_nil hs2) hs) (by decide) (by decide) hs hpl) (by
  obtain ⟨Z, cl, H0, S0, W, fx, fv, tp⟩ := G
  cases hZ
  rintro σ H Q ⟨ρ, S, k⟩
  refine ⟨ρ, S, k.bnd.mono fun x ρ1 k1 v H1 fz1 S1 r1 => ?_⟩
  exact ⟨v, x, rfl, r1, k1 _ H1 fz1 S1 (show Sh (zx X) H1 (.bl (g x)) (.bool (g x)) from .bl _)⟩)
/-! numbers -/
def dAbs : D → Option D
  | .int i => some (.int (if i < 0 then -i else i))
  | _ => none
theorem c_abs : CallR X (.builtin "abs") (rC1 (zx X) dAbs) := by
  intro pins s σ H xs us Q I r ⟨x, d, z, e, hx, ed, q⟩
  subst e
  unfold dAbs at ed
  split at ed
  · cases ed
    cases hx.int
    exact call_abs pins s σ H _ us Q I r ⟨_, rfl, q _ _ (Same.refl H) (nr_sh rfl (.int _))⟩
  · cases ed
def dMax2 : List D → Option D
  | [.int i, .int j] => some (.int (if j > i then j else i))
  | _ => none
def dMin2 : List D → Option D
  | [.int i, .int j] => some (.int (if j < i then j else i))
  | _ => none
theorem sh_int2 {Z : Zx} {H : Hp} {xs : List V} {i j : Int} (h : ShAll Z H xs [.int i, .int j]) : xs = [.int i, .int j] := by
  cases h with
  | cons h1 h2 =>
    cases h2 with
    | cons h3 h4 => cases h4; cases h1; cases h3; rfl
theorem c_max2 (hc : X.calm = true) : CallR X (.builtin "max") (rCN (zx X) dMax2) := by
  intro pins s σ H xs us Q I r ⟨ds, z, hx, ed, q⟩
  unfold dMax2 at ed
  split at ed
  · cases ed
    cases sh_int2 hx
    exact call_max2 hc pins s σ H _ us Q I r ⟨_, _, rfl, q _ _ (Same.refl H) (nr_sh rfl (.int _))⟩
  · cases ed
theorem c_min2 (hc : X.calm = true) : CallR X (.builtin "min") (rCN (zx X) dMin2) := by
  intro pins s σ H xs us Q I r ⟨ds, z, hx, ed, q⟩
  unfold dMin2 at ed
  split at ed
  · cases ed
    cases sh_int2 hx
    exact call_min2 hc pins s σ H _ us Q I r ⟨_, _, rfl, q _ _ (Same.refl H) (nr_sh rfl (.int _))⟩
  · cases ed
def dDivmod : List D → Option D
  | [.int i, .int j] => if 0 < j ∧ j.natAbs.log2 < 9000 then some (.tuple [.int (i / j), .int (i % j)]) else none
  | _ => none
def dInt : D → Option D
  | .int i => some (.int i)
  | .bool k => some (.int (if k then 1 else 0))
  | _ => none
theorem c_int : CallR X (.type "int") (rC1 (zx X) dInt) := by
  intro pins s σ H xs us Q I r ⟨x, d, z, e, hx, ed, q⟩
  subst e
  unfold dInt at ed
  split at ed
  · cases ed
    cases hx.int
    exact call_int1 pins s σ H _ us Q I r (.inl ⟨_, rfl, q _ _ (Same.refl H) (nr_sh rfl (.int _))⟩)
  · cases ed
    cases hx.bl
    exact call_int1 pins s σ H _ us Q I r (.inr ⟨_, rfl, q _ _ (Same.refl H) (nr_sh rfl (.int _))⟩)
  · cases ed
/-! sums, all, any -/
def intsOf : List D → Option (List Int)
  | [] => some []
  | .int i :: r => (intsOf r).map (i :: ·)
  | _ => none
def blsOf : List D → Option (List Bool)
  | [] => some []
  | .bool i :: r => (blsOf r).map (i :: ·)
  | _ => none
theorem intsOf_sh {Z : Zx} {H : Hp} : ∀ {ds : List D} {vs : List V} {ns : List Int}, ShAll Z H vs ds → intsOf ds = some ns → vs = ns.map V.int
  | [], _, _, h, e => by cases h; cases e; rfl
  | d :: ds, _, _, h, e => by
    cases h with
    | cons h1 h2 =>
      cases d with
      | int i =>
        simp only [intsOf] at e
        obtain ⟨ms, e1, rfl⟩ := Option.map_eq_some_iff.1 e
        cases h1
        rw [intsOf_sh h2 e1]
        rfl
      | _ => cases e
theorem blsOf_sh {Z : Zx} {H : Hp} : ∀ {ds : List D} {vs : List V} {ns : List Bool}, ShAll Z H vs ds → blsOf ds = some ns → vs = ns.map V.bl
  | [], _, _, h, e => by cases h; cases e; rfl
  | d :: ds, _, _, h, e => by
    cases h with
    | cons h1 h2 =>
      cases d with
      | bool i =>
        simp only [blsOf] at e
        obtain ⟨ms, e1, rfl⟩ := Option.map_eq_some_iff.1 e
        cases h1
        rw [blsOf_sh h2 e1]
        rfl
      | _ => cases e
def dSum : D → Option D
  | .list ds => (intsOf ds).map fun ns => .int ns.sum
  | _ => none
def dAll : D → Option D
  | .list ds => (blsOf ds).map fun bs => .bool (bs.all id)
  | _ => none
def dAny : D → Option D
  | .list ds => (blsOf ds).map fun bs => .bool (bs.any id)
  | _ => none
theorem c_sum (hc : X.calm = true) : CallR X (.builtin "sum") (rC1 (zx X) dSum) := by
  intro pins s σ H xs us Q I r ⟨x, d, z, e, hx, ed, q⟩
  subst e
  unfold dSum at ed
  split at ed
  · obtain ⟨ns, e1, rfl⟩ := Option.map_eq_some_iff.1 ed
    obtain ⟨a, vs, rfl, hr, sv⟩ := hx.lst
    cases intsOf_sh sv e1
    exact cr_sum hc pins s σ H _ us Q I r ⟨_, _, rfl, hr.sq, q _ _ (Same.refl H) (nr_sh rfl (.int _))⟩
  · cases ed
theorem c_all (hc : X.calm = true) : CallR X (.builtin "all") (rC1 (zx X) dAll) := by
  intro pins s σ H xs us Q I r ⟨x, d, z, e, hx, ed, q⟩
  subst e
  unfold dAll at ed
  split at ed
  · obtain ⟨ns, e1, rfl⟩ := Option.map_eq_some_iff.1 ed
    obtain ⟨a, vs, rfl, hr, sv⟩ := hx.lst
    cases blsOf_sh sv e1
    exact cr_all hc pins s σ H _ us Q I r ⟨_, _, rfl, hr.sq, q _ _ (Same.refl H) (nr_sh rfl (.bl _))⟩
  · cases ed
theorem c_any (hc : X.calm = true) : CallR X (.builtin "any") (rC1 (zx X) dAny) := by
  intro pins s σ H xs us Q I r ⟨x, d, z, e, hx, ed, q⟩
  subst e
  unfold dAny at ed
  split at ed
  · obtain ⟨ns, e1, rfl⟩ := Option.map_eq_some_iff.1 ed
    obtain ⟨a, vs, rfl, hr, sv⟩ := hx.lst
    cases blsOf_sh sv e1
    exact cr_any hc pins s σ H _ us Q I r ⟨_, _, rfl, hr.sq, q _ _ (Same.refl H) (nr_sh rfl (.bl _))⟩
  · cases ed
/-! list, tuple -/
def dList : D → Option D
  | .list ds => some (.list ds)
  | .tuple ds => some (.list ds)
  | _ => none
def dTuple : D → Option D
  | .list ds => some (.tuple ds)
  | .tuple ds => some (.tuple ds)
  | _ => none
theorem c_list : CallR X (.type "list") (rC1 (zx X) dList) := by
  intro pins s σ H xs us Q I r ⟨x, d, z, e, hx, ed, q⟩
  subst e
  unfold dList at ed
  split at ed
  · cases ed
    obtain ⟨a, vs, rfl, hr, sv⟩ := hx.lst
    exact call_list_of pins s σ H _ us Q I r ⟨_, _, rfl, .inl hr.sq, fun p hp => q _ _ (sm_upd hp) (nr_lst hp sv)⟩
  · cases ed
    obtain ⟨a, vs, rfl, hr, sv⟩ := hx.tup
    exact call_list_of pins s σ H _ us Q I r ⟨_, _, rfl, .inr hr.sq, fun p hp => q _ _ (sm_upd hp) (nr_lst hp sv)⟩
  · cases ed
theorem c_tuple : CallR X (.type "tuple") (rC1 (zx X) dTuple) := by
  intro pins s σ H xs us Q I r ⟨x, d, z, e, hx, ed, q⟩
  subst e
  unfold dTuple at ed
  split at ed
  · cases ed
    obtain ⟨a, vs, rfl, hr, sv⟩ := hx.lst
    obtain ⟨u, rfl, rx⟩ := vals1 r
    cases rx
    obtain ⟨its, rv, pl, hz⟩ := I.list hr.sq
    have hl := rv.length
    refine call_tuple_list pl.isList (fun h' kp => ?_) (by simp only [List.size_toArray] <;> omega)
    have I1 : Inv X pins σ H { s with heap := h' } := I.kept (t' := s.toks) kp
    exact ⟨.ref h'.objs.size, _, inv_tnew (tk := s.toks) I1 rv hz, rfl, q _ _ (sm_upd I1.fresh) (nr_tup rfl I1.fresh sv)⟩
  · cases ed
    obtain ⟨a, vs, rfl, hr, sv⟩ := hx.tup
    exact call_tupleT pins s σ H _ us Q I r ⟨_, _, rfl, hr.sq, q _ _ (Same.refl H) (nr_sh rfl (.tup hr sv))⟩
  · cases ed
end
end Cv
end
section
/-! The V layer: statements. -/
namespace Cv
open PySem L2
inductive Fl where
  | nx
  | rt (d : D)
  | bk
  | ct
def RetOk (G : Gh) (rm : Bool) (H : Hp) (v : V) (d : D) : Prop := match rm && isC d with
  | true => ∃ p, v = .ref p ∧ Ow G.Z H v d ∧ Nn G.H0 p
  | false => Sh G.Z H v d
def FlK (G : Gh) (rm : Bool) (H : Hp) (D : Ends) : Fl → Ev → Prop
  | .nx, ρ => ∀ σ' H', Fz H H' → Stt G H' σ' ρ → D.nx σ' H'
  | .bk, ρ => ∀ σ' H', Fz H H' → Stt G H' σ' ρ → D.bk σ' H'
  | .ct, ρ => ∀ σ' H', Fz H H' → Stt G H' σ' ρ → D.ct σ' H'
  | .rt d, ρ => ∀ v σ' H', Fz H H' → Stt G H' σ' ρ → RetOk G rm H' v d → D.rt v H'
def tvS (G : Gh) (rm : Bool) (f : M Fl) : TS := fun D σ H => ∃ ρ, Stt G H σ ρ ∧ Kont G (f ρ) (FlK G rm H D)
abbrev VS (X : Cx) (G : Gh) (rm : Bool) (st : Stmt) (f : M Fl) : Prop := PS X st (tvS G rm f)
abbrev VSs (X : Cx) (G : Gh) (rm : Bool) (st : List Stmt) (f : M Fl) : Prop := PSs X st (tvS G rm f)
section
variable {X : Cx} {G : Gh} {rm : Bool}
theorem pss_imp {e : List Stmt} {t t' : TS} (h : PSs X e t) (k : ∀ D σ H, t' D σ H → t D σ H) : PSs X e t' := ⟨fun pins s σ H D I q => h.run pins s σ H D I (k D σ H q)⟩
theorem FlK.up {H H1 : Hp} {D : Ends} {fl : Fl} {ρ : Ev} (h : FlK G rm H D fl ρ) (f : Fz H H1) : FlK G rm H1 D fl ρ := by
  cases fl with
  | nx => exact fun σ' H' g => h σ' H' (f.trans g)
  | bk => exact fun σ' H' g => h σ' H' (f.trans g)
  | ct => exact fun σ' H' g => h σ' H' (f.trans g)
  | rt d => exact fun v σ' H' g => h v σ' H' (f.trans g)
variable {st : Stmt} {rest : List Stmt} {f g : M Fl} {e : Expr} {fe : M D} {pos : Pos}
def vSeq (f g : M Fl) : M Fl := bnd f fun fl => match fl with
  | .nx => g
  | x => ret x
theorem vss_nil : VSs X G rm [] (ret .nx) := pss_imp pss_nil fun D σ H ⟨ρ, S, k⟩ => k σ H (Fz.refl H) S
theorem vss_one (h : VS X G rm st f) : VSs X G rm [st] f := pss_one h
theorem vss_cons (h : VS X G rm st f) (h2 : VSs X G rm rest g) : VSs X G rm (st :: rest) (vSeq f g) := pss_imp (pss_cons h h2) fun D σ H ⟨ρ, S, k⟩ => ⟨ρ, S, k.bnd.mono fun fl ρ1 k1 => by
  cases fl with
  | nx => exact fun σ' H' fz S' => ⟨ρ1, S', Kont.mono k1 fun fl ρ2 q => q.up fz⟩
  | bk => exact k1
  | ct => exact k1
  | rt d => exact k1⟩
theorem vs_pass : VS X G rm (.Pass pos) (ret .nx) := ps_imp ps_pass fun D σ H ⟨ρ, S, k⟩ => k σ H (Fz.refl H) S
theorem vs_break : VS X G rm (.Break pos) (ret .bk) := ps_imp ps_break fun D σ H ⟨ρ, S, k⟩ => k σ H (Fz.refl H) S
theorem vs_continue : VS X G rm (.Continue pos) (ret .ct) := ps_imp ps_continue fun D σ H ⟨ρ, S, k⟩ => k σ H (Fz.refl H) S
def vDrop (f : M D) : M Fl := bnd f fun _ => ret .nx
theorem vs_expr (h : VO X G e fe) (hs : swapsWith e none pos.line X.env = pure false := by rfl) : VS X G rm (.Expr e pos) (vDrop fe) := ps_imp (ps_expr h hs) fun D σ H ⟨ρ, S, k⟩ => ⟨ρ, S, k.bnd.mono fun d ρ1 k1 v H1 fz S1 _ => k1 σ H1 fz S1⟩
def vRet (f : M D) : M Fl := bnd f fun d => ret (.rt d)
theorem vs_ret (h : VE X G e fe) : VS X G false (.Return (some e) pos) (vRet fe) := ps_imp (ps_ret h) fun D σ H ⟨ρ, S, k⟩ => ⟨ρ, S, k.bnd.mono fun d ρ1 k1 v H1 fz S1 sh => k1 v σ H1 fz S1 sh⟩
theorem vs_retO (h : VO X G e fe) : VS X G true (.Return (some e) pos) (vRet fe) := ps_imp (ps_ret h) fun D σ H ⟨ρ, S, k⟩ => ⟨ρ, S, k.bnd.mono fun d ρ1 k1 v H1 fz S1 ro => k1 v σ H1 fz S1 (by
  unfold RO at ro
  unfold RetOk
  cases hd : isC d with
  | false => rw [hd] at ro; exact ro
  | true => rw [hd] at ro; obtain ⟨p, h1, h2, h3⟩ := ro; exact ⟨p, h1, h2, h3.1⟩)⟩
theorem Ow.isC {Z : Zx} {H : Hp} {v : V} {d : D} (h : Ow Z H v d) : Cv.isC d = true := by
  cases h <;> rfl
/-- return x, x an own name -/
def vRetN (i : Nat) : M Fl := fun ρ => match ρ[i]? with
  | some (some s) => if isC s.d && !s.o then none else some (.ok (.rt s.d) ρ)
  | _ => none
theorem vs_retN (i : Nat) {x : Str} {ps : Pos} (hf : i ∉ G.fx) (hN : X.N[i]? = some x := by rfl) (hv : Vis X.env.scope x := by first | exact Or.inl rfl | exact Or.inr (Or.inl rfl) | exact Or.inr (Or.inr rfl)) (hd : (x == ("__debug__" : Str)) = false := by decide)
    (hcd : (x == ("__classdict__" : Str)) = false := by decide) : VS X G true (.Return (some (.Name x ps)) pos) (vRetN i) := ps_imp (ps_ret (pe_var hN hv hd hcd)) fun D σ H ⟨ρ, S, k⟩ => by
  unfold vRetN at k
  cases hs : ρ[i]? with
  | none => rw [hs] at k; exact k.elim
  | some r =>
    cases r with
    | none => rw [hs] at k; exact k.elim
    | some s =>
      rw [hs] at k
      obtain ⟨v, h1, h2⟩ := S.val i s hs
      refine ⟨v, h1, ?_⟩
      simp only at k
      unfold SlOk at h2
      cases ho : s.o with
      | false =>
        rw [ho] at h2 k
        cases hc : isC s.d with
        | true => rw [hc] at k; exact k.elim
        | false => rw [hc] at k; exact k v σ H (Fz.refl H) S (by unfold RetOk; rw [hc]; exact h2)
      | true =>
        rw [ho] at h2 k
        obtain ⟨p, rfl⟩ := h2.1.ref
        have hc : isC s.d = true := h2.1.isC
        rw [hc] at k
        refine k _ σ H (Fz.refl H) S ?_
        unfold RetOk
        rw [hc]
        refine ⟨p, rfl, h2.1, ?_⟩
        rcases h2.2 p rfl with z | z
        · exact z
        · exact absurd z.1 hf
def vRetNone : M Fl := ret (.rt .none)
theorem vs_retNone : VS X G rm (.Return none pos) vRetNone := ps_imp ps_retN fun D σ H ⟨ρ, S, k⟩ => k .non σ H (Fz.refl H) S (by unfold RetOk; cases rm <;> exact Sh.non)
theorem vs_if {c : Expr} {a b : List Stmt} {t : M Bool} (hc : VT X G c t) (ha : VSs X G rm a f) (hb : VSs X G rm b g) : VS X G rm (.If c a b pos) (vIf t f g) := ps_imp (ps_if hc ha hb) fun D σ H ⟨ρ, S, k⟩ => ⟨ρ, S, k.bnd.mono fun x ρ1 k1 H1 fz S1 => by
  cases x with
  | true => rw [if_pos rfl]; exact ⟨ρ1, S1, Kont.mono k1 fun fl ρ2 q => q.up fz⟩
  | false => rw [if_neg (by decide)]; exact ⟨ρ1, S1, Kont.mono k1 fun fl ρ2 q => q.up fz⟩⟩
/-! ### stores -/
def vSetSh (i : Nat) (d : D) : M Unit := fun ρ => some (.ok () (ρ.set i (some ⟨false, d⟩)))
def vSetOw (i : Nat) (d : D) : M Unit := fun ρ => some (.ok () (ρ.set i (some ⟨isC d, d⟩)))
theorem set_get {α : Type} {l : List α} {i j : Nat} {a b : α} (h : (l.set i a)[j]? = some b) : (j = i ∧ b = a) ∨ (j ≠ i ∧ l[j]? = some b) := by
  by_cases e : j = i
  · subst e
    by_cases hl : j < l.length
    · rw [List.getElem?_set_self hl] at h
      cases h
      exact .inl ⟨rfl, rfl⟩
    · rw [List.getElem?_eq_none (by simpa using hl)] at h
      cases h
  · rw [List.getElem?_set_ne (Ne.symm e)] at h
    exact .inr ⟨e, h⟩
theorem Stt.setSh {H : Hp} {σ : St} {ρ : Ev} {i : Nat} {v : V} {d : D} (S : Stt G H σ ρ) (hf : i ∉ G.fx) (sh : Sh G.Z H v d) : Stt G H (σ.set i (some v)) (ρ.set i (some ⟨false, d⟩)) := by
  have aux : ∀ (k : Nat) (t : Sl), (ρ.set i (some ⟨false, d⟩))[k]? = some (some t) → t.o = true → ρ[k]? = some (some t) ∧ (σ.set i (some v))[k]? = σ[k]? := fun k t hk hot => by
    rcases set_get hk with ⟨rfl, z⟩ | ⟨h1, h2⟩
    · cases z; cases hot
    · exact ⟨h2, List.getElem?_set_ne (Ne.symm h1)⟩
  refine ⟨by simpa using S.len, fun j t ht => ?_, fun j k t1 t2 q h1 h2 h3 h4 h5 h6 => ?_, S.mv, fun j hj => ?_, fun q hq => ⟨(S.tmp q hq).1, (S.tmp q hq).2.1, fun j t hj ht => ?_⟩⟩
  · rcases set_get ht with ⟨rfl, z⟩ | ⟨h1, h2⟩
    · cases z
      refine ⟨v, ?_, sh⟩
      have : j < ρ.length := by
        have := (List.getElem?_eq_some_iff.mp ht).1
        simpa using this
      rw [S.len] at this
      exact List.getElem?_set_self this
    · rw [List.getElem?_set_ne (Ne.symm h1)]
      exact S.val j t h2
  · obtain ⟨a1, a2⟩ := aux j t1 h1 h3
    obtain ⟨b1, b2⟩ := aux k t2 h2 h4
    rw [a2] at h5
    rw [b2] at h6
    exact S.dis j k t1 t2 q a1 b1 h3 h4 h5 h6
  · rw [List.getElem?_set_ne (fun z : i = j => hf (by rw [z]; exact hj))]
    exact S.fix j hj
  · obtain ⟨a1, a2⟩ := aux j t hj ht
    rw [a2]
    exact (S.tmp q hq).2.2 j t a1 ht
theorem Stt.setOw {H : Hp} {σ : St} {ρ : Ev} {i : Nat} {v : V} {d : D} (S : Stt G H σ ρ) (hf : i ∉ G.fx) (ro : RO G H σ ρ v d) : Stt G H (σ.set i (some v)) (ρ.set i (some ⟨isC d, d⟩)) := by
  unfold RO at ro
  cases hc : isC d with
  | false => rw [hc] at ro; exact S.setSh hf ro
  | true =>
    rw [hc] at ro
    obtain ⟨p, rfl, ow, fr⟩ := ro
    have aux : ∀ (k : Nat) (t : Sl), (ρ.set i (some ⟨true, d⟩))[k]? = some (some t) → (k = i ∧ t = ⟨true, d⟩ ∧ k < σ.length) ∨ (k ≠ i ∧ ρ[k]? = some (some t) ∧ (σ.set i (some (.ref p)))[k]? = σ[k]?) := fun k t hk => by
      have hl := (List.getElem?_eq_some_iff.mp hk).1
      rcases set_get hk with ⟨rfl, z⟩ | ⟨h1, h2⟩
      · cases z
        exact .inl ⟨rfl, rfl, by rw [← S.len]; simpa using hl⟩
      · exact .inr ⟨h1, h2, List.getElem?_set_ne (Ne.symm h1)⟩
    refine ⟨by simpa using S.len, fun j t ht => ?_, fun j k t1 t2 q h1 h2 h3 h4 h5 h6 => ?_, S.mv, fun j hj => ?_, fun q hq => ⟨(S.tmp q hq).1, (S.tmp q hq).2.1, fun j t hj ht => ?_⟩⟩
    · rcases aux j t ht with ⟨rfl, rfl, hl⟩ | ⟨h1, h2, h3⟩
      · exact ⟨.ref p, List.getElem?_set_self hl, ow, fun q hq => by cases hq; exact .inl fr.1⟩
      · rw [h3]; exact S.val j t h2
    · rcases aux j t1 h1 with ⟨rfl, rfl, hl⟩ | ⟨a1, a2, a3⟩
      · rcases aux k t2 h2 with ⟨rfl, _, _⟩ | ⟨b1, b2, b3⟩
        · rfl
        · rw [List.getElem?_set_self hl] at h5
          cases h5
          rw [b3] at h6
          exact absurd h6 (fr.2.1 k t2 b2 h4)
      · rcases aux k t2 h2 with ⟨rfl, _, hl⟩ | ⟨b1, b2, b3⟩
        · rw [List.getElem?_set_self hl] at h6
          cases h6
          rw [a3] at h5
          exact absurd h5 (fr.2.1 j t1 a2 h3)
        · rw [a3] at h5
          rw [b3] at h6
          exact S.dis j k t1 t2 q a2 b2 h3 h4 h5 h6
    · rw [List.getElem?_set_ne (fun z : i = j => hf (by rw [z]; exact hj))]
      exact S.fix j hj
    · rcases aux j t hj with ⟨rfl, rfl, hl⟩ | ⟨a1, a2, a3⟩
      · rw [List.getElem?_set_self hl]
        intro z
        cases z
        exact fr.2.2 q hq rfl
      · rw [a3]
        exact (S.tmp q hq).2.2 j t a2 ht
def vSet (i : Nat) (f : M D) : M Fl := bnd f fun d => bnd (vSetSh i d) fun _ => ret .nx
def vSetO (i : Nat) (f : M D) : M Fl := bnd f fun d => bnd (vSetOw i d) fun _ => ret .nx
variable {i : Nat} {x : Str} {pos' : Pos}
theorem vs_set (hN : X.N.Nodup) (hi : X.N[i]? = some x) (hx : Loc X.env.scope x) (he : VE X G e fe) (hfx : i ∉ G.fx) (hs : swapsWith e (some (.Name x pos')) pos.line X.env = pure false := by rfl) (hf : X.fn x = true ∨ X.env.scope.names.lookup x = some .local := by first | exact .inl rfl | exact .inr rfl | assumption) :
    VS X G rm (.Assign [.Name x pos'] e pos) (vSet i fe) := ps_imp (ps_set hN hi hx he hs hf) fun D σ H ⟨ρ, S, k⟩ => ⟨ρ, S, k.bnd.mono fun d ρ1 k1 v H1 fz S1 sh => k1 _ H1 fz (S1.setSh hfx sh)⟩
theorem vs_setO (hN : X.N.Nodup) (hi : X.N[i]? = some x) (hx : Loc X.env.scope x) (he : VO X G e fe) (hfx : i ∉ G.fx) (hs : swapsWith e (some (.Name x pos')) pos.line X.env = pure false := by rfl) (hf : X.fn x = true ∨ X.env.scope.names.lookup x = some .local := by first | exact .inl rfl | exact .inr rfl | assumption) :
    VS X G rm (.Assign [.Name x pos'] e pos) (vSetO i fe) := ps_imp (ps_set hN hi hx he hs hf) fun D σ H ⟨ρ, S, k⟩ => ⟨ρ, S, k.bnd.mono fun d ρ1 k1 v H1 fz S1 ro => k1 _ H1 fz (S1.setOw hfx ro)⟩
/-! ### targets -/
/-- only the slots vs may have changed -/
def SetOnly (vs : List Nat) (σ σ' : St) : Prop := σ'.length = σ.length ∧ ∀ j, j ∉ vs → σ'[j]? = σ[j]?
theorem SetOnly.refl (vs : List Nat) (σ : St) : SetOnly vs σ σ := ⟨rfl, fun _ _ => rfl⟩
theorem SetOnly.trans {vs : List Nat} {σ σ1 σ2 : St} (a : SetOnly vs σ σ1) (b : SetOnly vs σ1 σ2) : SetOnly vs σ σ2 := ⟨b.1.trans a.1, fun j h => (b.2 j h).trans (a.2 j h)⟩
/-- locked data, or a pair just made -/
inductive Up (Z : Zx) (H : Hp) : V → D → Prop
  | sh {v : V} {d : D} : Sh Z H v d → Up Z H v d
  | tp {a : Addr} {vs : List V} {ds : List D} : H a = some (.tup vs) → ShAll Z H vs ds → Up Z H (.ref a) (.tuple ds)
def tvG (G : Gh) (rel : Zx → Hp → V → D → Prop) (vs : List Nat) (g : D → M Unit) : TG := fun v σ H Q => ∃ ρ d, Stt G H σ ρ ∧ rel G.Z H v d ∧ Kont G (g d ρ) fun _ ρ' => ∀ σ', SetOnly vs σ σ' → Stt G H σ' ρ' → Q σ' H
abbrev VG (X : Cx) (G : Gh) (rel : Zx → Hp → V → D → Prop) (vs : List Nat) (t : Expr) (g : D → M Unit) : Prop := PG X t (tvG G rel vs g)
def tvGs (G : Gh) (vs : List Nat) (g : List D → M Unit) : TGs := fun xs σ H Q => ∃ ρ ds, Stt G H σ ρ ∧ ShAll G.Z H xs ds ∧ Kont G (g ds ρ) fun _ ρ' => ∀ σ', SetOnly vs σ σ' → Stt G H σ' ρ' → Q σ' H
abbrev VGs (X : Cx) (G : Gh) (vs : List Nat) (t : List Expr) (g : List D → M Unit) : Prop := PGs X t (tvGs G vs g)
theorem pgs_imp {e : List Expr} {t t' : TGs} (h : PGs X e t) (k : ∀ v σ H Q, t' v σ H Q → t v σ H Q) : PGs X e t' := ⟨fun pins s σ H v u Q I r q => h.run pins s σ H v u Q I r (k v σ H Q q)⟩
variable {vs : List Nat}
theorem set_only {σ : St} {v : Option V} (h : i ∈ vs) : SetOnly vs σ (σ.set i v) := ⟨by simp, fun j hj => List.getElem?_set_ne (fun z : i = j => hj (by rw [← z]; exact h))⟩
theorem vg_name (hN : X.N.Nodup) (hi : X.N[i]? = some x) (hx : Loc X.env.scope x) (hfx : i ∉ G.fx) (hv : i ∈ vs := by simp) (hf : X.fn x = true ∨ X.env.scope.names.lookup x = some .local := by first | exact .inl rfl | exact .inr rfl | assumption) : VG X G Sh vs (.Name x pos) (vSetSh i) :=
  pg_imp (pg_name hN hi hx hf) fun v σ H Q ⟨ρ, d, S, sh, k⟩ => k _ (set_only hv) (S.setSh hfx sh)
def vGNil : List D → M Unit
  | [] => ret ()
  | _ => fun _ => none
def vGCons (g : D → M Unit) (gs : List D → M Unit) : List D → M Unit
  | x :: r => bnd (g x) fun _ => gs r
  | _ => fun _ => none
theorem vgs_nil : VGs X G vs [] vGNil := pgs_imp pgs_nil fun xs σ H Q ⟨ρ, ds, S, sh, k⟩ => by
  cases sh with
  | nil => exact ⟨rfl, k σ (SetOnly.refl vs σ) S⟩
  | cons h1 h2 => exact k.elim
theorem vgs_cons {es : List Expr} {g1 : D → M Unit} {gs : List D → M Unit} (h1 : VG X G Sh vs e g1) (h2 : VGs X G vs es gs) (hs : (assignEach (e :: es) X.env).map (·.2) = assign e X.env :: (assignEach es X.env).map (·.2) := by rfl) : VGs X G vs (e :: es) (vGCons g1 gs) :=
  pgs_imp (pgs_cons h1 h2 hs) fun xs σ H Q ⟨ρ, ds, S, sh, k⟩ => by
  cases sh with
  | nil => exact k.elim
  | cons h1 h2 =>
    exact ⟨_, _, rfl, ρ, _, S, h1, (Kont.bnd k).mono fun _ ρ1 k1 σ1 so S1 => ⟨ρ1, _, S1, h2, Kont.mono k1 fun _ ρ2 q σ2 so2 S2 => q σ2 (so.trans so2) S2⟩⟩
def vGTup (n : Nat) (gs : List D → M Unit) : D → M Unit
  | .tuple ds => if ds.length = n then gs ds else fun _ => none
  | _ => fun _ => none
theorem vg_tup {es : List Expr} {k n : Nat} {gs : List D → M Unit} (hc : X.calm = true) (h : VGs X G vs es gs) (hZ : G.Z = zx X := by rfl) (hn : (assignEach es X.env).length = n := by rfl) (hst : (assignEach es X.env).findIdx? (·.1) = none := by rfl) : VG X G Up vs (.Tuple es k pos) (vGTup n gs) :=
  pg_imp (pg_tup hc h hn hst) fun v σ H Q ⟨ρ, d, S, up, k⟩ => by
  cases d with
  | tuple ds =>
    unfold vGTup at k
    simp only at k
    split at k
    · rename_i hl
      have : ∃ a ws, v = .ref a ∧ SqT X.K H a ws ∧ ShAll G.Z H ws ds := by
        cases up with
        | sh sh =>
          cases sh with
          | tup ht hs =>
            refine ⟨_, _, rfl, ?_, hs⟩
            have := ht.sq
            rw [hZ] at this
            exact this
        | tp e hs => exact ⟨_, _, rfl, SqT.of e, hs⟩
      obtain ⟨a, ws, rfl, hsq, hs⟩ := this
      exact ⟨a, ws, rfl, hsq, by rw [hs.length]; exact hl, ρ, ds, S, hs, k⟩
    · exact k.elim
  | _ => exact k.elim
theorem vg_weak {t : Expr} {g : D → M Unit} (h : VG X G Up vs t g) : VG X G Sh vs t g := pg_imp h fun v σ H Q ⟨ρ, d, S, sh, k⟩ => ⟨ρ, d, S, .sh sh, k⟩
def vAsg (f : M D) (g : D → M Unit) : M Fl := bnd f fun d => bnd (g d) fun _ => ret .nx
theorem vs_asg {t : Expr} {g : D → M Unit} (he : VE X G e fe) (hg : VG X G Sh vs t g) (hs : swapsWithSole [t] e pos.line X.env = pure false := by rfl) (hw : swappedStores [t] e X.env = pure none := by rfl) (h1 : (assignEach [t] X.env).map (·.2) = [assign t X.env] := by rfl) : VS X G rm (.Assign [t] e pos) (vAsg fe g) :=
  ps_imp (ps_asg he hg hs hw h1) fun D σ H ⟨ρ, S, k⟩ => ⟨ρ, S, k.bnd.mono fun d ρ1 k1 v H1 fz S1 sh => ⟨ρ1, d, S1, sh, k1.bnd.mono fun _ ρ2 k2 σ' so S2 => k2 σ' H1 fz S2⟩⟩
/-- a, b = e1, e2 -/
def vPar (i j : Nat) (fa fb : M D) : M Fl := bnd fa fun x => bnd fb fun y => bnd (vSetSh i x) fun _ => bnd (vSetOw j y) fun _ => ret .nx
/-- e1 locked, e2 perhaps one's own -/
theorem vs_par {j : Nat} {y : Str} {a b : Expr} {fa fb : M D} {px py pt : Pos} {kt k2 : Nat} {pt2 : Pos} (hc : X.calm = true) (hN : X.N.Nodup) (hi : X.N[i]? = some x) (hj : X.N[j]? = some y) (hij : i ≠ j) (hx : X.env.scope.names.lookup x = some .local) (hy : X.env.scope.names.lookup y = some .local)
    (ha : VE X G a fa) (hb : VO X G b fb) (hfi : i ∉ G.fx) (hfj : j ∉ G.fx) (hw : swappedStores [.Tuple [.Name x px, .Name y py] kt pt] (.Tuple [a, b] k2 pt2) X.env = pure (some [x, y])) (hs : swapsWithSole [.Tuple [.Name x px, .Name y py] kt pt] (.Tuple [a, b] k2 pt2) pos.line X.env = pure false := by rfl)
    (hs1 : starEach [a, b] X.env = (false, eval a X.env) :: starEach [b] X.env := by rfl) (hs2 : starEach [b] X.env = (false, eval b X.env) :: starEach [] X.env := by rfl) : VS X G rm (.Assign [.Tuple [.Name x px, .Name y py] kt pt] (.Tuple [a, b] k2 pt2) pos) (vPar i j fa fb) :=
  ps_imp (ps_par hc hN hi hj hij hx hy (pa_cons ha (pa_cons hb pa_nil hs2) hs1) hw hs) fun D σ H ⟨ρ, S, k⟩ => ⟨ρ, S, k.bnd.mono fun d ρ1 k1 v H1 fz S1 sh => ⟨ρ1, S1, k1.bnd.mono fun d2 ρ2 k2 w H2 fz2 S2 ro => ⟨v, w, rfl, by
    have S3 := S2.setSh hfi (sh.up fz2)
    refine k2 _ H2 (fz.trans fz2) (S3.setOw hfj ?_)
    unfold RO at ro ⊢
    cases hd : isC d2 with
    | false => rw [hd] at ro; exact ro
    | true =>
      rw [hd] at ro
      obtain ⟨p, h1, h2, h3, h4, h5⟩ := ro
      refine ⟨p, h1, h2, h3, fun m s hm ho => ?_, h5⟩
      rcases set_get hm with ⟨rfl, z⟩ | ⟨a1, a2⟩
      · cases z; cases ho
      · rw [List.getElem?_set_ne (Ne.symm a1)]
        exact h4 m s a2 ho⟩⟩⟩
/-! ### while -/
def vWhileN : Nat → M Bool → M Fl → M Fl
  | 0, _, _ => fun _ => none
  | n + 1, t, b => bnd t fun c => if c then bnd b fun fl => match fl with
    | .nx => vWhileN n t b
    | .ct => vWhileN n t b
    | .bk => ret .nx
    | .rt d => ret (.rt d) else ret .nx
def vWhile (t : M Bool) (b : M Fl) : M Fl := fun ρ => vWhileN 1000000000 t b ρ
theorem vs_while {c : Expr} {body : List Stmt} {t : M Bool} {b : M Fl} (hp : PassesOwn (model X.prog X.w) X.A X.env X.xe) (hc : VT X G c t) (hb : VSs X G rm body b) : VS X G rm (.While c body [] pos) (vWhile t b) := ps_imp (ps_while hp hc hb) fun D σ H ⟨ρ, S, k⟩ => by
  refine ⟨fun m σ' H' => ∃ ρ', Stt G H' σ' ρ' ∧ Fz H H' ∧ Kont G (vWhileN m t b ρ') (FlK G rm H D), ⟨_, ρ, S, Fz.refl H, k⟩, ?_⟩
  rintro m σ1 H1 ⟨ρ1, S1, fz1, k1⟩
  cases m with
  | zero => exact k1.elim
  | succ m =>
    refine ⟨ρ1, S1, (Kont.bnd k1).mono fun c ρ2 k2 H2 fz2 S2 => ?_⟩
    cases c with
    | false => rw [if_neg (by decide)]; exact k2 σ1 H2 (fz1.trans fz2) S2
    | true =>
      rw [if_pos rfl]
      refine ⟨fun σ' H' => ∃ ρ', Stt G H' σ' ρ' ∧ Fz H H' ∧ Kont G (vWhileN m t b ρ') (FlK G rm H D), fun σ' H' h => ⟨m, Nat.lt_succ_self m, h⟩, ρ2, S2, (Kont.bnd k2).mono fun fl ρ3 k3 => ?_⟩
      cases fl with
      | nx => exact fun σ' H' f S' => ⟨ρ3, S', fz1.trans (fz2.trans f), k3⟩
      | ct => exact fun σ' H' f S' => ⟨ρ3, S', fz1.trans (fz2.trans f), k3⟩
      | bk => exact fun σ' H' f S' => k3 σ' H' (fz1.trans (fz2.trans f)) S'
      | rt d => exact fun v σ' H' f S' r => k3 v σ' H' (fz1.trans (fz2.trans f)) S' r
/-! ### for -/
/-- an iterator over ds, while what is locked stays -/
def ItV (rel : Zx → Hp → V → D → Prop) (Z : Zx) (J : It) (ds : List D) (H1 : Hp) : Prop := ∃ (Gd : Hp → Prop) (Y : Nat → Hp → V → Hp → Prop), Walk J ds.length Gd Y ∧ (∀ H2, Fz H1 H2 → Gd H2) ∧
  ∀ (i : Nat) H2 x H3, i < ds.length → Fz H1 H2 → Y i H2 x H3 → Same H2 H3 ∧ ∃ d, ds[i]? = some d ∧ rel Z H3 x d
def tvI (G : Gh) (rel : Zx → Hp → V → D → Prop) (f : M (List D)) : TI := fun σ H R => ∃ ρ, Stt G H σ ρ ∧ Kont G (f ρ) fun ds ρ' => ∀ J H', Fz H H' → Stt G H' σ ρ' → ItV rel G.Z J ds H' → R J H'
abbrev VI (X : Cx) (G : Gh) (rel : Zx → Hp → V → D → Prop) (tg e : Expr) (f : M (List D)) : Prop := PI X tg e (tvI G rel f)
def vForL (g : D → M Unit) (b : M Fl) : List D → M Fl
  | [] => ret .nx
  | x :: r => bnd (g x) fun _ => bnd b fun fl => match fl with
    | .nx => vForL g b r
    | .ct => vForL g b r
    | .bk => ret .nx
    | .rt d => ret (.rt d)
def vFor (it : M (List D)) (g : D → M Unit) (b : M Fl) : M Fl := bnd it fun xs => vForL g b xs
theorem vs_for {rel : Zx → Hp → V → D → Prop} {tg iter : Expr} {body : List Stmt} {it : M (List D)} {g : D → M Unit} {b : M Fl} (hp : PassesOwn (model X.prog X.w) X.A X.env X.xe) (hc : X.calm = true) (hi : VI X G rel tg iter it) (hg : VG X G rel vs tg g) (hb : VSs X G rm body b)
    (hs : ∀ x, foldedSetIterable iter X.env x = pure x := by intro _; rfl) : VS X G rm (.For tg iter body [] pos) (vFor it g b) := ps_imp (ps_for hp hc hi hg hb hs) fun D σ H ⟨ρ, S, k⟩ => by
  refine ⟨ρ, S, k.bnd.mono fun ds ρ1 k1 J H1 fz1 S1 ⟨Gd, Y, w, hG, hY⟩ => ?_⟩
  refine for_it w (fun i σ' H' => ∃ ρ', Stt G H' σ' ρ' ∧ Fz H1 H' ∧ Kont G (vForL g b (ds.drop i) ρ') (FlK G rm H D)) ⟨ρ1, S1, Fz.refl H1, by simpa using k1⟩ (fun i σ' H' _ ⟨_, _, f, _⟩ => hG H' f) ?_ ?_
  · rintro i x σ2 H2 H3 hi ⟨ρ2, S2, f2, k2⟩ hy
    obtain ⟨sm, d, hd, rl⟩ := hY i H2 x H3 hi f2 hy
    rw [List.drop_eq_getElem_cons hi] at k2
    have ed : ds[i] = d := by
      rw [List.getElem?_eq_getElem hi] at hd
      exact Option.some.inj hd
    rw [ed] at k2
    refine ⟨ρ2, d, S2.same sm, rl, (Kont.bnd k2).mono fun _ ρ3 k3 σ3 so S3 => ⟨ρ3, S3, (Kont.bnd k3).mono fun fl ρ4 k4 => ?_⟩⟩
    have f3 : Fz H1 H3 := f2.trans (Same.fz sm)
    cases fl with
    | nx => exact fun σ' H' f S' => ⟨ρ4, S', f3.trans f, k4⟩
    | ct => exact fun σ' H' f S' => ⟨ρ4, S', f3.trans f, k4⟩
    | bk => exact fun σ' H' f S' => k4 σ' H' (fz1.trans (f3.trans f)) S'
    | rt d => exact fun v σ' H' f S' r => k4 v σ' H' (fz1.trans (f3.trans f)) S' r
  · rintro σ2 H2 ⟨ρ2, S2, f2, k2⟩
    rw [List.drop_length] at k2
    exact k2 σ2 H2 (fz1.trans f2) S2
end
end Cv
end
section
/-! The V layer: what is one's own is written. -/
namespace Cv
open PySem L2
open PySem.Spec PyProof.Rows
section
variable {X : Cx} {G : Gh} {rm : Bool} {pins : List (Addr × Obj)} {σ : L2.St} {H : Hp} {s : Shared}
theorem fz_mut {p : Addr} {o : HO} (m : Mut (H p)) : Fz H (upd H p o) := fun b o' u e => by
  rw [upd_ne (fun z => by subst z; rw [e] at m; exact m)]
  exact e
theorem Stt.mutate {ρ : Ev} {i : Nat} {d d' : D} {p : Addr} {o : HO} (S : Stt G H σ ρ) (hi : ρ[i]? = some (some ⟨true, d⟩)) (hv : σ[i]? = some (some (.ref p))) (m : Mut (H p)) (ow : Ow G.Z (upd H p o) (.ref p) d') : Stt G (upd H p o) σ (ρ.set i (some ⟨true, d'⟩)) := by
  have fz := fz_mut (o := o) m
  obtain ⟨v, h1, h2⟩ := S.val i _ hi
  rw [hv] at h1
  cases h1
  have h3 : Ow G.Z H (.ref p) d ∧ ∀ q, V.ref p = .ref q → Nn G.H0 q ∨ (i ∈ G.fx ∧ q ∈ G.S) := h2
  have aux : ∀ (k : Nat) (t : Sl), (ρ.set i (some ⟨true, d'⟩))[k]? = some (some t) → ∃ t', ρ[k]? = some (some t') ∧ (t.o = true → t'.o = true) ∧ (k ≠ i → t' = t) := fun k t hk => by
    rcases set_get hk with ⟨rfl, z⟩ | ⟨a1, a2⟩
    · cases z; exact ⟨_, hi, fun _ => rfl, fun z => absurd rfl z⟩
    · exact ⟨t, a2, id, fun _ => rfl⟩
  refine ⟨by simpa using S.len, fun j t ht => ?_, fun j k t1 t2 q e1 e2 e3 e4 e5 e6 => ?_, S.mv.upd ((h3.2 p rfl).imp id And.right) (fun o' u z => by rw [z] at m; exact m) h3.1.noTab (fun ps z => ow.noTab.t ps (by rw [upd_same, z])), S.fix, fun q hq => ⟨?_, (S.tmp q hq).2.1, fun j t hj ht => ?_⟩⟩
  · rcases set_get ht with ⟨rfl, z⟩ | ⟨a1, a2⟩
    · cases z
      exact ⟨_, hv, ow, h3.2⟩
    · obtain ⟨w, b1, b2⟩ := S.val j t a2
      refine ⟨w, b1, b2.keep fz fun q hq hoq => upd_ne fun z => ?_⟩
      subst z hq
      exact a1 (S.dis j i t _ q a2 hi hoq rfl b1 hv)
  · obtain ⟨t1', c1, c2, _⟩ := aux j t1 e1
    obtain ⟨t2', d1, d2, _⟩ := aux k t2 e2
    exact S.dis j k t1' t2' q c1 d1 (c2 e3) (d2 e4) e5 e6
  · rw [upd_ne (fun z => (S.tmp q hq).2.2 i _ hi rfl (by rw [z]; exact hv))]
    exact (S.tmp q hq).1
  · obtain ⟨t', c1, c2, _⟩ := aux j t hj
    exact (S.tmp q hq).2.2 j t' c1 (c2 ht)
/-! ### methods -/
def tyD : D → Option String
  | .list _ => some "list"
  | .tuple _ => some "tuple"
  | .dict _ => some "dict"
  | .str _ => some "str"
  | _ => none
theorem ty_rp {T : String} {x : V} {v : Value} {d : D} (I : Inv X pins σ H s) (r : RelV x v) (h : Rp (zx X) H x d) (ty : tyD d = some T) : s.TypeIs v T ∧ ∀ a, v = .ref a → ∃ ob, s.heap.get? a = some ob ∧ ob.dict = none := by
  cases d with
  | list ds =>
    cases ty
    obtain ⟨a, vs, rfl, hr, _⟩ := h.lst
    cases r
    obtain ⟨_, its, n, _, _, e⟩ := inv_lst I hr
    exact ⟨⟨_, e, rfl⟩, fun b z => by cases z; exact ⟨_, e, rfl⟩⟩
  | tuple ds =>
    cases ty
    obtain ⟨a, vs, rfl, hr, _⟩ := h.tup
    cases r
    rcases hr with ⟨o, ho, e⟩ | ⟨o, its, n, e, hc, ho, _⟩
    · obtain ⟨h1, _, its, _, ob, h3, h4, _⟩ := I.hok a _ e
      rw [h1] at h3
      cases h3
      exact ⟨⟨o, h1, h4⟩, fun b z => by cases z; exact ⟨o, h1, ho⟩⟩
    · have h1 := I.kIn a o e
      exact ⟨⟨o, h1, hc⟩, fun b z => by cases z; exact ⟨o, h1, ho⟩⟩
  | dict ds =>
    cases ty
    obtain ⟨a, rfl, hh⟩ := h.dic
    cases r
    have : ∃ o, s.heap.get? a = some o ∧ o.ExactDict := by
      rcases hh with ⟨kvs, hr, _⟩ | ⟨_, kvs, hr, _⟩
      · obtain ⟨_, _, vs, _, o, _, _, e, ex, _⟩ := hr.ok I.hok
        exact ⟨o, e, ex⟩
      · obtain ⟨_, _, _, _, o, _, _, e, ex, _⟩ := oN_ok I hr
        exact ⟨o, e, ex⟩
    obtain ⟨o, e, ex⟩ := this
    exact ⟨⟨o, e, ex.1⟩, fun b z => by cases z; exact ⟨o, e, ex.2.1⟩⟩
  | str z =>
    cases ty
    cases h.str
    exact tyV_is I r rfl
  | none => cases ty
  | bool _ => cases ty
  | int _ => cases ty
def tBM (Z : Zx) (T : String) (r : V → List V → Hp → VK → Prop) (to : TE) (t : TA) : TE := fun σ H Q => to σ H fun x H1 => (∃ d, Rp Z H1 x d ∧ tyD d = some T) ∧ t σ H1 fun xs H2 => r x xs H2 Q
def tBM0 (Z : Zx) (T : String) (r : V → List V → Hp → VK → Prop) (to : TE) : TE := fun σ H Q => to σ H fun x H1 => (∃ d, Rp Z H1 x d ∧ tyD d = some T) ∧ r x [] H1 Q
variable {o e : Expr} {es : List Expr} {to : TE} {t : TA} {name : Str} {apos cpos : Pos} {T id : String} {r : V → List V → Hp → VK → Prop}
theorem pe_m0 (pa : PlainAttrs T) (slot : Slot T name id) (hty : typeOf (.builtin id) = pure (.type "method_descriptor")) (hm : MtR X id r) (ho : PE X o to)
    (hbase : attributeBase o name X.env (eval o X.env) = eval o X.env := by rfl) (hline : (apos.endLine == cpos.line) = true := by rfl) : PE X (.Call (.Attribute o name apos) [] [] cpos) (tBM0 (zx X) T r to) := by
  refine ⟨fun pins s σ H Q I h => wpAny_Call_method0_late hbase hline (thn (ho.run pins s σ H _ I h) fun v s1 ⟨x, H1, I1, r1, ⟨d, rp, ty⟩, q1⟩ => ?_)⟩
  obtain ⟨h1, h2⟩ := ty_rp I1 r1 rp ty
  exact ⟨T, id, pa, slot, hty, h1, h2, Calls.callWith_builtin rfl (PySem.evalArgs_none (hm pins s1 σ H1 x [] v [] Q I1 r1 .nil q1))⟩
theorem pe_m (pa : PlainAttrs T) (slot : Slot T name id) (hty : typeOf (.builtin id) = pure (.type "method_descriptor")) (hm : MtR X id r) (ho : PE X o to) (ha : PA X (e :: es) t)
    (hbase : attributeBase o name X.env (eval o X.env) = eval o X.env := by rfl)
    (hfew : ((backTo cpos (starEach (e :: es) X.env)).all (fun x => !x.1) && (backToKw cpos (keywordEach [] X.env)).all (fun x => x.1.isSome) && decide ((e :: es).length + ([] : List Keyword).length + (if ([] : List Keyword).isEmpty then 0 else 1) < 30)) = true := by rfl)
    (hline : (apos.endLine == cpos.line) = true := by rfl) (hs : starEach (e :: es) X.env = (false, eval e X.env) :: starEach es X.env := by rfl) (hplain : (backTo cpos (starEach es X.env)).any (·.1) = false := by rfl) :
    PE X (.Call (.Attribute o name apos) (e :: es) [] cpos) (tBM (zx X) T r to t) := by
  refine ⟨fun pins s σ H Q I h => wpAny_Call_method_late hbase hfew hline rfl (thn (ho.run pins s σ H _ I h) fun v s1 ⟨x, H1, I1, r1, ⟨d, rp, ty⟩, q1⟩ => ?_)⟩
  obtain ⟨h1, h2⟩ := ty_rp I1 r1 rp ty
  refine ⟨T, id, pa, slot, hty, h1, h2, ?_⟩
  have hA := ha.run cpos pins s1 σ H1 _ I1 q1
  rw [hs] at hA ⊢
  exact Calls.callWith_builtin (by show (false || (backTo cpos (starEach es X.env)).any (·.1)) = false; rw [hplain] <;> rfl) (Calls.evalArgs_plain (thn hA fun us s2 ⟨vs, H2, I2, r2, q2⟩ => hm pins s2 σ H2 x vs v us Q I2 r1 r2 q2))
/-- a method that reads; the receiver locked -/
def rM (Z : Zx) (p : D → List D → Option D) : V → List V → Hp → VK → Prop := fun x xs H Q => ∃ d ds r, Rp Z H x d ∧ ShAll Z H xs ds ∧ p d ds = some r ∧ ∀ v H', Same H H' → NR Z H H' v r → Q v H'
/-- a method that gives an item -/
def rMS (Z : Zx) (p : D → List D → Option D) : V → List V → Hp → VK → Prop := fun x xs H Q => ∃ d ds r, Rp Z H x d ∧ ShAll Z H xs ds ∧ p d ds = some r ∧ ∀ v, Sh Z H v r → Q v H
def vM (T : String) (p : D → List D → Option D) (fo : M D) (fs : M (List D)) : M D := bnd fo fun x => if tyD x = some T then bnd fs fun xs => lft (p x xs) else fun _ => none
def vMN (T : String) (p : D → List D → Option D) (i : Nat) (fs : M (List D)) : M D := bnd (vGet i) fun x => if tyD x = some T then bnd fs fun xs => bnd (vGet i) fun y => lft (p y xs) else fun _ => none
variable {fo : M D} {fs : M (List D)} {p : D → List D → Option D}
theorem vo_m (pa : PlainAttrs T) (slot : Slot T name id) (hty : typeOf (.builtin id) = pure (.type "method_descriptor")) (hm : MtR X id (rM (zx X) p)) (ho : VE X G o fo) (ha : VA X G (e :: es) fs) (hZ : G.Z = zx X := by rfl) (hbase : attributeBase o name X.env (eval o X.env) = eval o X.env := by rfl)
    (hfew : ((backTo cpos (starEach (e :: es) X.env)).all (fun x => !x.1) && (backToKw cpos (keywordEach [] X.env)).all (fun x => x.1.isSome) && decide ((e :: es).length + ([] : List Keyword).length + (if ([] : List Keyword).isEmpty then 0 else 1) < 30)) = true := by rfl)
    (hline : (apos.endLine == cpos.line) = true := by rfl) (hs : starEach (e :: es) X.env = (false, eval e X.env) :: starEach es X.env := by rfl) (hplain : (backTo cpos (starEach es X.env)).any (·.1) = false := by rfl) :
    VO X G (.Call (.Attribute o name apos) (e :: es) [] cpos) (vM T p fo fs) := pe_imp (pe_m pa slot hty hm ho ha hbase hfew hline hs hplain) (by
  obtain ⟨Z, cl, H0, S0, W, fx, fv, tp⟩ := G
  cases hZ
  rintro σ H Q ⟨ρ, S, k⟩
  refine ⟨ρ, S, k.bnd.mono fun x ρ1 k1 v H1 fz1 S1 s1 => ?_⟩
  split at k1
  · rename_i hT
    refine ⟨⟨x, .sh s1, hT⟩, ρ1, S1, k1.bnd.mono fun xs ρ2 k2 vs H2 fz2 S2 s2 => ?_⟩
    obtain ⟨d, e, q⟩ := k2.lft
    exact ⟨x, xs, d, .sh (s1.up fz2), s2, e, fun z H3 sm nr => q z H3 (fz1.trans (fz2.trans (Same.fz sm))) (S2.same sm) (nr.ro S2)⟩
  · exact k1.elim)
theorem ve_m (pa : PlainAttrs T) (slot : Slot T name id) (hty : typeOf (.builtin id) = pure (.type "method_descriptor")) (hm : MtR X id (rMS (zx X) p)) (ho : VE X G o fo) (ha : VA X G (e :: es) fs) (hZ : G.Z = zx X := by rfl) (hbase : attributeBase o name X.env (eval o X.env) = eval o X.env := by rfl)
    (hfew : ((backTo cpos (starEach (e :: es) X.env)).all (fun x => !x.1) && (backToKw cpos (keywordEach [] X.env)).all (fun x => x.1.isSome) && decide ((e :: es).length + ([] : List Keyword).length + (if ([] : List Keyword).isEmpty then 0 else 1) < 30)) = true := by rfl)
    (hline : (apos.endLine == cpos.line) = true := by rfl) (hs : starEach (e :: es) X.env = (false, eval e X.env) :: starEach es X.env := by rfl) (hplain : (backTo cpos (starEach es X.env)).any (·.1) = false := by rfl) :
    VE X G (.Call (.Attribute o name apos) (e :: es) [] cpos) (vM T p fo fs) := pe_imp (pe_m pa slot hty hm ho ha hbase hfew hline hs hplain) (by
  obtain ⟨Z, cl, H0, S0, W, fx, fv, tp⟩ := G
  cases hZ
  rintro σ H Q ⟨ρ, S, k⟩
  refine ⟨ρ, S, k.bnd.mono fun x ρ1 k1 v H1 fz1 S1 s1 => ?_⟩
  split at k1
  · rename_i hT
    refine ⟨⟨x, .sh s1, hT⟩, ρ1, S1, k1.bnd.mono fun xs ρ2 k2 vs H2 fz2 S2 s2 => ?_⟩
    obtain ⟨d, e, q⟩ := k2.lft
    exact ⟨x, xs, d, .sh (s1.up fz2), s2, e, fun z sz => q z H2 (fz1.trans fz2) S2 sz⟩
  · exact k1.elim)
variable {i : Nat} {x : Str} {ps : Pos}
theorem vo_mN (i : Nat) (pa : PlainAttrs T) (slot : Slot T name id) (hty : typeOf (.builtin id) = pure (.type "method_descriptor")) (hm : MtR X id (rM (zx X) p)) (ha : VA X G (e :: es) fs) (hZ : G.Z = zx X := by rfl)
    (hN : X.N[i]? = some x := by rfl) (hv : Vis X.env.scope x := by first | exact Or.inl rfl | exact Or.inr (Or.inl rfl) | exact Or.inr (Or.inr rfl)) (hd : (x == ("__debug__" : Str)) = false := by decide) (hcd : (x == ("__classdict__" : Str)) = false := by decide)
    (hbase : attributeBase (.Name x ps) name X.env (eval (.Name x ps) X.env) = eval (.Name x ps) X.env := by rfl)
    (hfew : ((backTo cpos (starEach (e :: es) X.env)).all (fun x => !x.1) && (backToKw cpos (keywordEach [] X.env)).all (fun x => x.1.isSome) && decide ((e :: es).length + ([] : List Keyword).length + (if ([] : List Keyword).isEmpty then 0 else 1) < 30)) = true := by rfl)
    (hline : (apos.endLine == cpos.line) = true := by rfl) (hs : starEach (e :: es) X.env = (false, eval e X.env) :: starEach es X.env := by rfl) (hplain : (backTo cpos (starEach es X.env)).any (·.1) = false := by rfl) :
    VO X G (.Call (.Attribute (.Name x ps) name apos) (e :: es) [] cpos) (vMN T p i fs) := pe_imp (pe_m pa slot hty hm (pe_var hN hv hd hcd) ha hbase hfew hline hs hplain) (by
  obtain ⟨Z, cl, H0, S0, W, fx, fv, tp⟩ := G
  cases hZ
  rintro σ H Q ⟨ρ, S, k⟩
  obtain ⟨s0, hs0, k0⟩ := k.get
  obtain ⟨v, hv, _⟩ := S.val i s0 hs0
  split at k0
  · rename_i hT
    refine ⟨v, hv, ⟨s0.d, S.get hv hs0, hT⟩, ρ, S, k0.bnd.mono fun xs ρ2 k2 vs H2 fz2 S2 s2 => ?_⟩
    obtain ⟨s1, hs1, k3⟩ := k2.get
    obtain ⟨d, e, q⟩ := k3.lft
    exact ⟨s1.d, xs, d, S2.get hv hs1, s2, e, fun z H3 sm nr => q z H3 (fz2.trans (Same.fz sm)) (S2.same sm) (nr.ro S2)⟩
  · exact k0.elim)
/-- a method that writes: p gives what is told, and the receiver behind it -/
def rMW (Z : Zx) (p : D → List D → Option (D × D)) : V → List V → Hp → VK → Prop := fun x xs H Q => ∃ d ds r d', Ow Z H x d ∧ ShAll Z H xs ds ∧ p d ds = some (r, d') ∧ ∀ v q o, x = .ref q → Fz H (upd H q o) → Ow Z (upd H q o) x d' → Sh Z (upd H q o) v r → Q v (upd H q o)
def putO (i : Nat) (d : D) : M Unit := fun ρ => some (.ok () (ρ.set i (some ⟨true, d⟩)))
def getO (i : Nat) : M D := fun ρ => match ρ[i]? with
  | some (some s) => if s.o then some (.ok s.d ρ) else none
  | _ => none
def vMW (T : String) (p : D → List D → Option (D × D)) (i : Nat) (fs : M (List D)) : M D := bnd (vGet i) fun x => if tyD x = some T then bnd fs fun xs => bnd (getO i) fun y => bnd (lft (p y xs)) fun r => bnd (putO i r.2) fun _ => ret r.1 else fun _ => none
theorem Kont.getO {α : Type} {i : Nat} {k : D → M α} {ρ : Ev} {q : α → Ev → Prop} (h : Kont G (Cv.bnd (Cv.getO i) k ρ) q) : ∃ d, ρ[i]? = some (some ⟨true, d⟩) ∧ Kont G (k d ρ) q := by
  have h1 := h.bnd
  unfold Cv.getO at h1
  cases hs : ρ[i]? with
  | none => rw [hs] at h1; exact h1.elim
  | some r =>
    cases r with
    | none => rw [hs] at h1; exact h1.elim
    | some s =>
      rw [hs] at h1
      obtain ⟨o, d⟩ := s
      cases o with
      | false => exact h1.elim
      | true => exact ⟨d, rfl, h1⟩
theorem Stt.own {ρ : Ev} {i : Nat} {d : D} (S : Stt G H σ ρ) (hi : ρ[i]? = some (some ⟨true, d⟩)) : ∃ q, σ[i]? = some (some (.ref q)) ∧ Ow G.Z H (.ref q) d := by
  obtain ⟨v, h1, h2⟩ := S.val i _ hi
  have h3 : Ow G.Z H v d ∧ _ := h2
  obtain ⟨q, rfl⟩ := h3.1.ref
  exact ⟨q, h1, h3.1⟩
theorem ve_mw (i : Nat) {p : D → List D → Option (D × D)} (pa : PlainAttrs T) (slot : Slot T name id) (hty : typeOf (.builtin id) = pure (.type "method_descriptor")) (hm : MtR X id (rMW (zx X) p)) (ha : VA X G (e :: es) fs) (hZ : G.Z = zx X := by rfl)
    (hN : X.N[i]? = some x := by rfl) (hv : Vis X.env.scope x := by first | exact Or.inl rfl | exact Or.inr (Or.inl rfl) | exact Or.inr (Or.inr rfl)) (hd : (x == ("__debug__" : Str)) = false := by decide) (hcd : (x == ("__classdict__" : Str)) = false := by decide)
    (hbase : attributeBase (.Name x ps) name X.env (eval (.Name x ps) X.env) = eval (.Name x ps) X.env := by rfl)
    (hfew : ((backTo cpos (starEach (e :: es) X.env)).all (fun x => !x.1) && (backToKw cpos (keywordEach [] X.env)).all (fun x => x.1.isSome) && decide ((e :: es).length + ([] : List Keyword).length + (if ([] : List Keyword).isEmpty then 0 else 1) < 30)) = true := by rfl)
    (hline : (apos.endLine == cpos.line) = true := by rfl) (hs : starEach (e :: es) X.env = (false, eval e X.env) :: starEach es X.env := by rfl) (hplain : (backTo cpos (starEach es X.env)).any (·.1) = false := by rfl) :
    VE X G (.Call (.Attribute (.Name x ps) name apos) (e :: es) [] cpos) (vMW T p i fs) := pe_imp (pe_m pa slot hty hm (pe_var hN hv hd hcd) ha hbase hfew hline hs hplain) (by
  obtain ⟨Z, cl, H0, S0, W, fx, fv, tp⟩ := G
  cases hZ
  rintro σ H Q ⟨ρ, S, k⟩
  obtain ⟨s0, hs0, k0⟩ := k.get
  obtain ⟨v, hv, _⟩ := S.val i s0 hs0
  split at k0
  · rename_i hT
    refine ⟨v, hv, ⟨s0.d, S.get hv hs0, hT⟩, ρ, S, k0.bnd.mono fun xs ρ2 k2 vs H2 fz2 S2 s2 => ?_⟩
    obtain ⟨d, hd, k3⟩ := k2.getO
    obtain ⟨r, e, q⟩ := k3.bnd.lft
    obtain ⟨qa, hq, ow⟩ := S2.own hd
    rw [hv] at hq
    cases hq
    refine ⟨d, xs, r.1, r.2, ow, s2, e, fun w q' o eq fz3 ow' sw => ?_⟩
    cases eq
    exact q w _ (fz2.trans fz3) (S2.mutate hd hv ow.mut ow') sw
  · exact k0.elim)
theorem vs_exprE {f : M D} {pos : Pos} (h : VE X G e f) (hs : swapsWith e none pos.line X.env = pure false := by rfl) : VS X G rm (.Expr e pos) (vDrop f) := ps_imp (ps_expr h hs) fun D σ H ⟨ρ, S, k⟩ => ⟨ρ, S, k.bnd.mono fun d ρ1 k1 v H1 fz S1 _ => k1 σ H1 fz S1⟩
end
end Cv
end
section
/-! The V layer: methods by name; x[i] = e; what is walked; comprehensions. -/
namespace Cv
open PySem L2
open PySem.Spec PyProof.Rows
section
variable {X : Cx} {G : Gh} {rm : Bool}
def dAppend : D → List D → Option (D × D)
  | .list xs, [y] => if xs.length < sizeLine then some (.none, .list (xs ++ [y])) else none
  | _, _ => none
theorem sh_one {Z : Zx} {H : Hp} {xs : List V} {d : D} (h : ShAll Z H xs [d]) : ∃ v, xs = [v] ∧ Sh Z H v d := by
  cases h with
  | cons h1 h2 => cases h2; exact ⟨_, rfl, h1⟩
theorem m_append : MtR X "list.append" (rMW (zx X) dAppend) := by
  intro pins s σ H x xs v us Q I rx rs ⟨d, ds, r, d', ow, sh, e, q⟩
  unfold dAppend at e
  split at e
  · split at e
    · cases e
      obtain ⟨y, rfl, sy⟩ := sh_one sh
      cases ow with
      | lst ea sv =>
        rename_i a vs
        have fz := fz_mut (H := H) (o := .lst (vs ++ [y])) (by rw [ea]; trivial)
        exact mt_append pins s σ H _ _ v us Q I rx rs ⟨_, _, _, rfl, rfl, ea, by rw [sv.length]; assumption, q .non _ _ rfl fz (.lst upd_same ((sv.append (.cons sy .nil)).up fz)) .non⟩
    · cases e
  · cases e
def dExtend : D → List D → Option (D × D)
  | .list xs, [.list ys] => if xs.length + ys.length ≤ sizeLine then some (.none, .list (xs ++ ys)) else none
  | _, _ => none
theorem m_extend : MtR X "list.extend" (rMW (zx X) dExtend) := by
  intro pins s σ H x xs v us Q I rx rs ⟨d, ds, r, d', ow, sh, e, q⟩
  unfold dExtend at e
  split at e
  · split at e
    · rename_i hz
      cases e
      obtain ⟨y, rfl, sy⟩ := sh_one sh
      obtain ⟨b, ws, rfl, hb, sb⟩ := (Rp.sh sy).lst
      cases ow with
      | lst ea sv =>
        rename_i a vs
        cases rx
        obtain ⟨u, rfl, ru⟩ := vals1 rs
        cases ru
        rw [← sv.length, ← sb.length] at hz
        obtain ⟨_, its, n, rv, hl, e1⟩ := inv_lst I (.inl (.inl ea))
        obtain ⟨_, jts, m, rw', hm, e2⟩ := inv_lst I hb
        have fz := fz_mut (H := H) (o := .lst (vs ++ ws)) (by rw [ea]; trivial)
        have short : its.toArray.size + jts.toArray.size ≤ sizeLine := by simp only [List.size_toArray]; omega
        refine call_meets F.slot_list_extend ⟨_, e1, rfl⟩ F.entry_list_extend (F.args_list_extend_2 _ _) (AutoSeq1.list_extend_list_list_0 a its.toArray n b jts.toArray m (by rw [notLongL short, Bool.and_false]; decide) (by simp only [List.size_toArray]; omega) (by omega)) ⟨e1, e2, ?_⟩
        exact ⟨.non, _, I.lset (its' := its ++ jts) ea e1 (by simp) (rv.append rw') (by rw [List.length_append]; omega), rfl, q .non _ _ rfl fz (.lst upd_same ((sv.append sb).up fz)) .non⟩
    · cases e
  · cases e
def dPopAt : D → List D → Option (D × D)
  | .list xs, [.int i] => match ixN xs.length i with
    | some k => (xs[k]?).map fun y => (y, .list (xs.eraseIdx k))
    | none => none
  | _, _ => none
theorem m_popAt : MtR X "list.pop" (rMW (zx X) dPopAt) := by
  intro pins s σ H x xs v us Q I rx rs ⟨d, ds, r, d', ow, sh, e, q⟩
  unfold dPopAt at e
  split at e
  · rename_i i
    split at e
    · rename_i k hk
      obtain ⟨y, hy, e⟩ := Option.map_eq_some_iff.1 e
      cases e
      obtain ⟨w, rfl, sw⟩ := sh_one sh
      cases sw
      cases ow with
      | lst ea sv =>
        rename_i a vs
        obtain ⟨z, hz, sz⟩ := sv.get hy
        rw [← sv.length] at hk
        obtain ⟨h1, h2, h3, h4⟩ := ixN_seq hk
        have big := line63
        have hl := (I.lstM ea).1
        have fz := fz_mut (H := H) (o := .lst (vs.eraseIdx k)) (by rw [ea]; trivial)
        exact mt_popAt pins s σ H _ _ v us Q I rx rs ⟨_, _, _, _, _, rfl, rfl, ea, by omega, by omega, h1, hz, q z _ _ rfl fz (.lst upd_same ((sv.eraseIdx k).up fz)) (sz.up fz)⟩
    · cases e
  · cases e
def dRemove : D → List D → Option (D × D)
  | .list xs, [y] => if gd y && gdAll xs then (match SeqAt.dataPlace xs y with
    | some j => some (.none, .list (xs.eraseIdx j))
    | none => none) else none
  | _, _ => none
theorem m_remove (hu : X.A.units + 64 < cLine) : MtR X "list.remove" (rMW (zx X) dRemove) := by
  intro pins s σ H x xs v us Q I rx rs ⟨d, ds, r, d', ow, sh, e, q⟩
  unfold dRemove at e
  split at e
  · split at e
    · rename_i hg
      split at e
      · rename_i j hj
        cases e
        obtain ⟨y, rfl, sy⟩ := sh_one sh
        simp only [gd, gdAll, Bool.and_eq_true, decide_eq_true_eq] at hg
        cases ow with
        | lst ea sv =>
          rename_i a vs
          cases rx
          obtain ⟨u, rfl, ru⟩ := vals1 rs
          obtain ⟨z, its, n, rv, hl, e0⟩ := inv_lst I (.inl (.inl ea))
          obtain ⟨as, hr⟩ := Sh.readsAll I _ _ _ sv rv
          obtain ⟨bs, hx⟩ := Sh.reads I _ _ _ sy ru
          have fz := fz_mut (H := H) (o := .lst (vs.eraseIdx j)) (by rw [ea]; trivial)
          have short := List.length_eraseIdx_le vs j
          refine PySem.SeqAt.remove_list_data (vs := its.toArray) ⟨_, e0, rfl, n, rfl⟩ (by simpa using hr) hx hg.2.1 hg.1.1 (by omega) hj (by rw [List.size_toArray, ← hl]; exact z) ?_
          refine ⟨.non, _, I.lset (its' := its.eraseIdx j) ea e0 ?_ (rv.eraseIdx j) (by omega), rfl, q .non _ _ rfl fz (.lst upd_same ((sv.eraseIdx j).up fz)) .non⟩
          show its.toArray.eraseIdxIfInBounds j = (its.eraseIdx j).toArray
          rw [List.eraseIdxIfInBounds_toArray]
      · cases e
    · cases e
  · cases e
/-! ### x[i] = e -/
def putD (kvs : List (D × D)) (k : D) (n : NestedKey) (v : D) : List (D × D) := if (gN kvs n).isSome then kvs.map (fun p => if nk p.1 = some n then (p.1, v) else p) else kvs ++ [(k, v)]
def dSet : D → D → D → Option D
  | .list xs, .int i, v => (ixN xs.length i).map fun j => .list (xs.set j v)
  | .dict kvs, k, v => if kOk kvs k && decide (kvs.length < sizeLine) then (nk k).map fun n => .dict (putD kvs k n v) else none
  | _, _, _ => none
def rSet (Z : Zx) : V → V → V → Hp → (Hp → Prop) → Prop := fun o i v H Q => ∃ d di dv d', Ow Z H o d ∧ Rp Z H i di ∧ Sh Z H v dv ∧ dSet d di dv = some d' ∧ ∀ q u, o = .ref q → Fz H (upd H q u) → Ow Z (upd H q u) o d' → Q (upd H q u)
theorem putK_sh {Z : Zx} {H : Hp} {k : Key} {v : V} {d : D} (sv : Sh Z H v d) : ∀ {kvs : List (Key × V)} {ds : List (D × D)}, ShKv Z H kvs ds → ShKv Z H (putK kvs k v) (putD ds (keyD k) (keyN k) d) := by
  intro kvs ds h
  have l := gN_val k h
  have any : (kvs.any fun kv => decide (kv.1 = k)) = (gN ds (keyN k)).isSome := by
    rw [← l.same]
    clear l h
    induction kvs with
    | nil => rfl
    | cons p r ih =>
      obtain ⟨k', w⟩ := p
      by_cases e : k' = k
      · simp [valV, e]
      · simp only [List.any_cons, e, decide_false, Bool.false_or, ih]
        simp [valV, e]
  unfold putK putD
  rw [any]
  split
  · rename_i hh
    clear hh l any
    induction ds generalizing kvs with
    | nil => cases h; exact .nil
    | cons p ds ih =>
      cases h with
      | @cons k' w vs d' _ h1 h2 =>
        simp only [List.map_cons, nk_keyD, Option.some.injEq]
        by_cases e : k' = k
        · subst e
          rw [if_pos rfl, if_pos rfl]
          exact .cons sv (ih h2)
        · rw [if_neg e, if_neg (fun z => e (keyN_inj z))]
          exact .cons h1 (ih h2)
  · rename_i hh
    clear hh l any
    induction ds generalizing kvs with
    | nil => cases h; exact .cons sv .nil
    | cons p ds ih =>
      cases h with
      | cons h1 h2 => exact .cons h1 (ih h2)
/-- an entry more, or another value -/
def putN (kvs : List (NestedKey × Addr × V)) (k : NestedKey) (b : Addr) (v : V) : List (NestedKey × Addr × V) := if (kvs.any fun p => decide (p.1 = k)) then kvs.map (fun p => if p.1 = k then (p.1, p.2.1, v) else p) else kvs ++ [(k, b, v)]
theorem putN_sh {Z : Zx} {H : Hp} {k : NestedKey} {b : Addr} {v : V} {ks : List D} {d : D} (sb : Sh Z H (.ref b) (.tuple ks)) (hk : nk (.tuple ks) = some k) (hd : k.depth ≤ 8) (sv : Sh Z H v d) : ∀ {ds : List (D × D)} {kvs : List (NestedKey × Addr × V)}, ShN Z H kvs ds → ShN Z H (putN kvs k b v) (putD ds (.tuple ks) k d) := by
  intro ds kvs h
  have any : (kvs.any fun p => decide (p.1 = k)) = (gN ds k).isSome := by
    induction ds generalizing kvs with
    | nil => cases h; rfl
    | cons p ds ih =>
      cases h with
      | cons h1 h2 h3 h4 h5 =>
        rename_i k' _ _ _ _ _
        simp only [List.any_cons, gN, h2, Option.some.injEq]
        by_cases e : k' = k
        · simp [e]
        · simp only [e, decide_false, Bool.false_or, if_false]
          exact ih h5
  unfold putN putD
  rw [any]
  split
  · rename_i hh
    clear hh any
    induction ds generalizing kvs with
    | nil => cases h; exact .nil
    | cons p ds ih =>
      cases h with
      | cons h1 h2 h3 h4 h5 =>
        rename_i k' _ _ _ _ _ 
        simp only [List.map_cons, h2, Option.some.injEq]
        by_cases e : k' = k
        · rw [if_pos e, if_pos e]
          exact .cons h1 h2 h3 sv (ih h5)
        · rw [if_neg e, if_neg e]
          exact .cons h1 h2 h3 h4 (ih h5)
  · rename_i hh
    clear hh any
    induction ds generalizing kvs with
    | nil => cases h; exact .cons sb hk hd sv .nil
    | cons p ds ih =>
      cases h with
      | cons h1 h2 h3 h4 h5 => exact .cons h1 h2 h3 h4 (ih h5)
theorem putN_stored {k : NestedKey} {b : Addr} {v : V} {u : Value} (r : RelV v u) : ∀ {kvs : List (NestedKey × Addr × V)} {xs : List (NestedKey × Addr × Value)}, Paired RelN kvs xs → Paired RelN (putN kvs k b v) (storedH xs k b u) := by
  intro kvs xs h
  have any : (kvs.any fun p => decide (p.1 = k)) = (atKey xs k).isSome := by
    induction h with
    | nil => rfl
    | @cons p q ps qs h1 h2 ih =>
      obtain ⟨e1, _, _⟩ := h1
      simp only [List.any_cons, e1, atKey, List.find?_cons]
      by_cases e : q.1 = k
      · simp [e]
      · simp only [e, decide_false, Bool.false_or]
        rw [ih]
        rfl
  unfold putN storedH
  rw [any]
  split
  · rename_i hh
    clear hh any
    induction h with
    | nil => exact .nil
    | @cons p q ps qs h1 h2 ih =>
      obtain ⟨e1, e2, e3⟩ := h1
      refine .cons ?_ ih
      unfold putAt
      dsimp only
      rw [e1]
      by_cases e : q.1 = k
      · rw [if_pos e, if_pos e]; exact ⟨rfl, e2, r⟩
      · rw [if_neg e, if_neg e]; exact ⟨e1, e2, e3⟩
  · rename_i hh
    clear hh any
    induction h with
    | nil => exact .cons ⟨rfl, rfl, r⟩ .nil
    | cons h1 h2 ih => exact .cons h1 ih
theorem putN_length (kvs : List (NestedKey × Addr × V)) (k : NestedKey) (b : Addr) (v : V) : (putN kvs k b v).length ≤ kvs.length + 1 := by
  unfold putN
  split
  · simp
  · simp
theorem putD_ne (ds : List (D × D)) (k : D) (n : NestedKey) (d : D) : putD ds k n d ≠ [] := by
  unfold putD
  split
  · rename_i h
    cases ds with
    | nil => simp [gN] at h
    | cons _ _ => simp
  · simp
theorem s_set (hu : X.A.units + 64 < cLine) : PSet X (rSet (zx X)) := by
  intro pins s σ H o i v ov iv u Q I ro ri rv ⟨d, di, dv, d', ow, hi, sv, e, q⟩
  cases d with
  | list xs =>
    cases di with
    | int i =>
      obtain ⟨j, hj, rfl⟩ := Option.map_eq_some_iff.1 (show (ixN xs.length i).map _ = _ from e)
      cases hi.int
      cases ow with
      | lst ea sa =>
        rename_i a vs
        rw [← sa.length] at hj
        have fz := fz_mut (H := H) (o := .lst (vs.set j v)) (by rw [ea]; trivial)
        exact set_list pins s σ H _ _ v ov iv u Q I ro ri rv ⟨_, _, _, _, rfl, rfl, ea, hj, q _ _ rfl fz (.lst upd_same ((sa.set j sv).up fz))⟩
    | _ => cases e
  | dict kvs =>
    have e : (if kOk kvs di && decide (kvs.length < sizeLine) then (nk di).map fun n => PyData.dict (putD kvs di n dv) else none) = some d' := e
    split at e
    · rename_i hg
      obtain ⟨n, hn, rfl⟩ := Option.map_eq_some_iff.1 e
      simp only [Bool.and_eq_true, decide_eq_true_eq] at hg
      obtain ⟨ok, hz⟩ := hg
      have flat : ∀ k, keyOf di = some k → (kvs.all fun p => (keyOf p.1).isSome) = true → wpAny (model X.prog X.w) X.A (setItem ov iv u) (fun _ s' => ∃ H', Inv X pins σ H' s' ∧ Q H') X.xe s := by
        intro k ek hk
        obtain ⟨rfl, en⟩ := keyOf_kV hi ek
        rw [en] at hn
        cases hn
        have ed : di = keyD k := by
          cases di <;> simp [keyOf] at ek <;> subst ek <;> rfl
        subst ed
        cases ow with
        | dK ea sa =>
          rename_i a ws
          cases ro
          rw [← sa.length] at hz
          have fz := fz_mut (H := H) (o := .dK (putK ws k v)) (by rw [ea]; trivial)
          exact d_setItem (by omega) I (DPut.k ea hz) ri rv fun s' I' => ⟨_, I', q _ _ rfl fz (.dK upd_same ((putK_sh sv sa).up fz))⟩
        | dN ea sa ne =>
          cases sa with
          | nil => exact absurd rfl ne
          | cons _ _ _ _ _ => simp [keyOf] at hk
      cases di with
      | int _ => exact flat _ rfl ok
      | str _ => exact flat _ rfl ok
      | tuple ks =>
        simp only [kOk, Bool.and_eq_true] at ok
        obtain ⟨ok1, ok2⟩ := ok
        rw [hn] at ok1
        have hdp : n.depth ≤ 8 := of_decide_eq_true ok1
        obtain ⟨a, rfl⟩ := ow.ref
        obtain ⟨hs, ws, xs, sa, pr, hzx, dd, hrd⟩ := tupDict I (.ow ow) ok2
        obtain ⟨b, vs, rfl, ht, hv⟩ := hi.tup
        cases ro
        cases ri
        have hlw : ws.length = kvs.length := sa.length
        have hm : Mut (H a) := ow.mut
        have fz := fz_mut (H := H) (o := oN (zx X) a (putN ws n b v)) hm
        refine wpAny_setItem_heap (hsz := hzx) (knd := nestedKind X.prog X.w) (show X.A.in1.units + 8 < cLine by show X.A.units + 1 + 8 < cLine; omega) ⟨nest_is I _ _ _ _ (.tup ht hv) rfl hn, hdp⟩ dd fun h' dd' hs' => ?_
        obtain ⟨ob, es, ep, hq, h2, h3, h4, _, h5⟩ := dd'
        have hl := putN_length ws n b v
        refine ⟨_, d_write (ob := oN (zx X) a (putN ws n b v)) I hm hs' ⟨ob, hq⟩ ⟨⟨hs, by omega, _, putN_stored rv pr, ob, es, ep, hq, h2, h3, h4, h5⟩, ⟨ob, hq⟩, ?_⟩, q _ _ rfl fz (.dN upd_same ((putN_sh (.tup ht hv) hn hdp sv sa).up fz) (putD_ne _ _ _ _))⟩
        rintro g1 g2 ⟨c1, c2, ys, c3, ob', es', ep', c4, c5⟩ hk
        exact ⟨c1, c2, ys, c3, ob', es', ep', hk _ c4, c5⟩
      | none => cases ok
      | bool _ => cases ok
      | list _ => cases ok
      | dict _ => cases ok
    · cases e
  | _ => cases e
variable {a b e : Expr} {fa fb fe : M D} {pos : Pos}
/-- x[b] = e, x an own name -/
def vPut (i : Nat) (fb : M D) (fe : M D) : M Fl := bnd fe fun v => bnd (vGet i) fun _ => bnd fb fun k => bnd (getO i) fun d => bnd (lft (dSet d k v)) fun d' => bnd (putO i d') fun _ => ret .nx
theorem vs_put (i : Nat) {x : Str} {ps pos' : Pos} (hu : X.A.units + 64 < cLine) (he : VE X G e fe) (hb : VB X G b fb) (hZ : G.Z = zx X := by rfl) (hN : X.N[i]? = some x := by rfl) (hv : Vis X.env.scope x := by first | exact Or.inl rfl | exact Or.inr (Or.inl rfl) | exact Or.inr (Or.inr rfl))
    (hd : (x == ("__debug__" : Str)) = false := by decide) (hcd : (x == ("__classdict__" : Str)) = false := by decide) (ha : ∀ v, assign (.Subscript (.Name x ps) b pos') X.env v = (do
      let ov ← holding [v] (eval (.Name x ps) X.env)
      let iv ← holding [v, ov] (eval b X.env)
      standAt pos'
      holding [v, ov, iv] (setItem ov iv v)
      release [v, ov, iv] []) := by intro _; rfl)
    (hs : swapsWithSole [.Subscript (.Name x ps) b pos'] e pos.line X.env = pure false := by rfl) (hw : swappedStores [.Subscript (.Name x ps) b pos'] e X.env = pure none := by rfl) (h1 : (assignEach [.Subscript (.Name x ps) b pos'] X.env).map (·.2) = [assign (.Subscript (.Name x ps) b pos') X.env] := by rfl) :
    VS X G rm (.Assign [.Subscript (.Name x ps) b pos'] e pos) (vPut i fb fe) := ps_imp (ps_asg he (pg_sub (pe_var hN hv hd hcd) hb (s_set hu) ha) hs hw h1) (by
  obtain ⟨Z, cl, H0, S0, W, fx, fv, tp⟩ := G
  cases hZ
  rintro D σ H ⟨ρ, S, k⟩
  refine ⟨ρ, S, k.bnd.mono fun dv ρ1 k1 w H1 fz1 S1 sw => ?_⟩
  obtain ⟨s0, hs0, k2⟩ := k1.get
  obtain ⟨v, hv, _⟩ := S1.val i s0 hs0
  refine ⟨v, hv, ρ1, S1, k2.bnd.mono fun dk ρ2 k3 y H2 fz2 S2 ry => ?_⟩
  obtain ⟨d, hd, k4⟩ := k3.getO
  obtain ⟨d', e, q⟩ := k4.bnd.lft
  obtain ⟨qa, hq, ow⟩ := S2.own hd
  rw [hv] at hq
  cases hq
  refine ⟨d, dk, dv, d', ow, ry, sw.up fz2, e, fun q' o eq fz3 ow' => ?_⟩
  cases eq
  exact q σ _ (fz1.trans (fz2.trans fz3)) (S2.mutate hd hv ow.mut ow'))
end
end Cv
end
section
/-! The V layer: what is walked; comprehensions. -/
namespace Cv
open PySem L2
open PySem.Spec PyProof.Rows
section
variable {X : Cx} {G : Gh} {rm : Bool} {tg e : Expr} {fe : M D}
theorem fz_sq {Z : Zx} {H H' : Hp} {a : Addr} {vs : List V} (h : LstAt Z H a vs) (f : Fz H H') : SqL Z.K H' a vs := (h.keep f).r.sq
def vItL (f : M D) : M (List D) := bnd f fun x => match x with
  | .list ds => ret ds
  | _ => fun _ => none
def vItT (f : M D) : M (List D) := bnd f fun x => match x with
  | .tuple ds => ret ds
  | _ => fun _ => none
theorem vi_list (he : VE X G e fe) (hZ : G.Z = zx X := by rfl) : VI X G Sh tg e (vItL fe) := pi_imp (pi_list he) (by
  obtain ⟨Z, cl, H0, S0, W, fx, fv, tp⟩ := G
  cases hZ
  rintro σ H R ⟨ρ, S, k⟩
  refine ⟨ρ, S, k.bnd.mono fun x ρ1 k1 v H1 fz1 S1 s1 => ?_⟩
  cases x with
  | list ds =>
    cases s1 with
    | lst ea sv =>
      refine ⟨_, rfl, ⟨_, fz_sq ea (Fz.refl H1)⟩, k1 _ H1 fz1 S1 ⟨_, _, sv.length ▸ walk_list, fun H2 f => fz_sq ea f, fun i H2 x H3 hi f hy => ?_⟩⟩
      obtain ⟨rfl, hx⟩ := hy
      obtain ⟨d, hd, sd⟩ := (sv.up f).get' hx
      exact ⟨Same.refl _, d, hd, sd⟩
  | _ => exact k1.elim)
theorem vi_tup (he : VE X G e fe) (hZ : G.Z = zx X := by rfl) : VI X G Sh tg e (vItT fe) := pi_imp (pi_tup he) (by
  obtain ⟨Z, cl, H0, S0, W, fx, fv, tp⟩ := G
  cases hZ
  rintro σ H R ⟨ρ, S, k⟩
  refine ⟨ρ, S, k.bnd.mono fun x ρ1 k1 v H1 fz1 S1 s1 => ?_⟩
  cases x with
  | tuple ds =>
    cases s1 with
    | tup ea sv =>
      refine ⟨_, rfl, ⟨_, ea.sq⟩, k1 _ H1 fz1 S1 ⟨_, _, sv.length ▸ walk_tup, fun H2 f => (ea.keep f).sq, fun i H2 x H3 hi f hy => ?_⟩⟩
      obtain ⟨rfl, hx⟩ := hy
      obtain ⟨d, hd, sd⟩ := (sv.up f).get' hx
      exact ⟨Same.refl _, d, hd, sd⟩
  | _ => exact k1.elim)
/-- whole numbers in a row -/
def rngD (lo : Int) (n : Nat) : List D := (List.range n).map fun (k : Nat) => .int (lo + (k : Int))
theorem itv_range {Z : Zx} {H : Hp} {lo : Int} {n : Nat} : ItV Sh Z (Itr lo n) (rngD lo n) H := by
  have hl : (rngD lo n).length = n := by simp [rngD]
  refine ⟨_, _, by rw [hl]; exact walk_range, fun _ _ => trivial, fun i H2 x H3 hi _ hy => ?_⟩
  obtain ⟨rfl, rfl⟩ := hy
  rw [hl] at hi
  exact ⟨Same.refl _, .int (lo + i), by simp [rngD, hi], .int _⟩
def vRng1 (f : M D) : M (List D) := bnd f fun x => match x with
  | .int j => if -(2 ^ 62) ≤ j ∧ j < 2 ^ 62 then ret (rngD 0 j.toNat) else fun _ => none
  | _ => fun _ => none
def vRng2 (f g : M D) : M (List D) := bnd f fun x => bnd g fun y => match x, y with
  | .int i, .int j => if -(2 ^ 62) ≤ i ∧ i < 2 ^ 62 ∧ -(2 ^ 62) ≤ j ∧ j < 2 ^ 62 then ret (rngD i (j - i).toNat) else fun _ => none
  | _, _ => fun _ => none
variable {a b : Expr} {fa fb : M D} {p pos : Pos}
theorem vi_rng1 (hg : Gl X "range") (hm : X.mg "range" = none) (ha : VE X G a fa) (hs : starEach [a] X.env = [(false, eval a X.env)] := by rfl) : VI X G Sh tg (.Call (.Name "range" p) [a] [] pos) (vRng1 fa) := pi_imp (pi_range1 hg hm (pa_cons ha pa_nil hs) hs) (by
  rintro σ H R ⟨ρ, S, k⟩
  refine ⟨ρ, S, k.bnd.mono fun x ρ1 k1 v H1 fz1 S1 s1 => ?_⟩
  cases x with
  | int j =>
    cases s1
    simp only at k1
    split at k1
    · rename_i hj
      exact ⟨j, rfl, hj.1, hj.2, k1 _ H1 fz1 S1 itv_range⟩
    · exact k1.elim
  | _ => exact k1.elim)
theorem vi_rng2 (hg : Gl X "range") (hm : X.mg "range" = none) (ha : VE X G a fa) (hb : VE X G b fb) (hs : starEach [a, b] X.env = [(false, eval a X.env), (false, eval b X.env)] := by rfl) (hs2 : starEach [b] X.env = [(false, eval b X.env)] := by rfl) :
    VI X G Sh tg (.Call (.Name "range" p) [a, b] [] pos) (vRng2 fa fb) := pi_imp (pi_range2 hg hm (pa_cons ha (pa_cons hb pa_nil hs2) (by rw [hs, hs2])) hs hs2) (by
  rintro σ H R ⟨ρ, S, k⟩
  refine ⟨ρ, S, k.bnd.mono fun x ρ1 k1 v H1 fz1 S1 s1 => ⟨ρ1, S1, k1.bnd.mono fun y ρ2 k2 w H2 fz2 S2 s2 => ?_⟩⟩
  cases x with
  | int i =>
    cases y with
    | int j =>
      cases s1
      cases s2
      simp only at k2
      split at k2
      · rename_i hj
        exact ⟨i, j, rfl, hj, k2 _ H2 (fz1.trans fz2) S2 itv_range⟩
      · exact k2.elim
    | _ => exact k2.elim
  | _ => cases y <;> exact k2.elim)
/-! ### the keys of a dict -/
theorem frzN {pins : List (Addr × Obj)} {σ : L2.St} {H : Hp} {s : Shared} (I : Inv X pins σ H s) {d : Addr} {o : Obj} {kvs : List (NestedKey × Addr × V)} (h : H d = some (.frz o (oN (zx X) d kvs))) : (d == sysModules) = false ∧ s.heap.get? d = some o ∧ o.ExactDict ∧
    ∃ es ep, o.data = .dict es ep ∧ es.size = kvs.length ∧ ∀ (i : Nat) k b v, kvs[i]? = some (k, b, v) → ∃ en, es[i]? = some en ∧ en.key = .ref b := by
  obtain ⟨h1, _⟩ := I.hok d _ h
  obtain ⟨hs, _, xs, pr, o', es, ep, e, ex, hd, he, _⟩ := oN_ok I (.inr ⟨o, h⟩)
  rw [h1] at e
  cases e
  have l1 : es.toList.length = xs.length := by rw [he, List.length_map]
  have l2 : kvs.length = xs.length := Paired.length pr
  refine ⟨hs, h1, ex, es, ep, hd, by rw [Array.length_toList] at l1; omega, fun i k b v hk => ?_⟩
  obtain ⟨q, hq, e1, e2, _⟩ := paired_get pr hk
  have he' : es.toList[i]? = some (entryOfKey (nestedKind X.prog X.w) q) := by rw [he, List.getElem?_map, hq]; rfl
  rw [Array.getElem?_toList] at he'
  exact ⟨_, he', by show Value.ref q.2.1 = _; rw [← e2]⟩
def Itn (Z : Zx) (d : Addr) (o : Obj) (kvs : List (NestedKey × Addr × V)) : It :=
  ⟨fun i H => H d = some (.frz o (oN Z d kvs)) ∧ i < kvs.length, fun i H x H' => H' = H ∧ ∃ k b v, kvs[i]? = some (k, b, v) ∧ x = .ref b, fun i H => H d = some (.frz o (oN Z d kvs)) ∧ kvs.length ≤ i⟩
theorem turn_keysN {P : Program} {w : World} {K : PySem.W.Frag} {d : Addr} {o : Obj} {es : Array DictEntry} {ep : Nat} {kvs : List (NestedKey × Addr × V)} (it : Addr) (hod : o.data = .dict es ep) : Turn P w K tg (Itn ⟨P, w, K⟩ d o kvs) [it] it (fun i h => h.IsKeyIter it d i kvs.length ep) where
  mem := by simp
  obj := fun i h st b hb => by
    obtain rfl : b = it := by simpa using hb
    obtain ⟨oi, e, c, dd⟩ := st
    exact ⟨oi, e, fun v z => by rw [dd] at z; cases z⟩
  keep := fun i h h' st k => st.at fun oi e => k it (by simp) oi e
  item := by
    intro Y hP hw hK hc i pins s σ H E I hf st hg
    subst hP hw hK
    obtain ⟨hd, hi⟩ := hg
    obtain ⟨f0, f1, f2, f3, f4, f5⟩ := hf it (by simp)
    obtain ⟨_, hgd, hx, es', ep', hdt, hsz, ent⟩ := frzN I hd
    obtain ⟨rfl, rfl⟩ := dict_ep hod hdt
    obtain ⟨⟨k, b, v⟩, hkv⟩ : ∃ p, kvs[i]? = some p := ⟨kvs[i], List.getElem?_eq_getElem hi⟩
    obtain ⟨en, hen, hkey⟩ := ent i k b v hkv
    refine next_key_item st hgd hdt hsz hen fun h' st' sb => ?_
    have J : Inv Y pins σ H { s with heap := h' } := I.turned (t' := s.toks) (fun c ob hb q => (sb.2 c hb).trans q) f0 f1 f3 f4 f5
    obtain ⟨oi, q, c, dd⟩ := id st'
    exact ⟨en.key, rfl, go_of (s := { s with heap := h' }) q c dd (by decide) ⟨.ref b, H, J, hkey, ⟨rfl, k, b, v, hkv, rfl⟩, st', fun c hb => (hf c hb).1⟩⟩
  done := by
    intro Y hP hw hK hc i pins s σ H E I hf st hg
    subst hP hw hK
    obtain ⟨hd, hi⟩ := hg
    obtain ⟨f0, f1, f2, f3, f4, f5⟩ := hf it (by simp)
    obtain ⟨_, hgd, hx, es', ep', hdt, hsz, ent⟩ := frzN I hd
    obtain ⟨rfl, rfl⟩ := dict_ep hod hdt
    exact next_key_end (I.ok.hd hc) st hgd hdt hsz hi fun h' eb => ⟨rfl, I.turned (t' := s.toks) (fun c ob hb q => eb c ob hb q) f0 f1 f3 f4 f5⟩
  self := fun A i s Q E st h => wpAny_pyIter_keyiter st h
def iKeysN (Z : Zx) (td : TE) : TI := fun σ H R => td σ H fun x H1 => ∃ d o, x = .ref d ∧ ((∃ kvs, H1 d = some (.frz o (.dK kvs)) ∧ R (Itk d o kvs) H1) ∨ ∃ kvs, H1 d = some (.frz o (oN Z d kvs)) ∧ R (Itn Z d o kvs) H1)
theorem pi_keysN {td : TE} (he : PE X e td) : PI X tg e (iKeysN (zx X) td) := by
  refine ⟨fun pins s σ H R I h => thn (he.run pins s σ H _ I h) fun u s1 ⟨x, H1, I1, rx, d, o, ex, q⟩ => ?_⟩
  subst ex
  obtain rfl : u = Value.ref d := rx
  rcases q with ⟨kvs, hd, q⟩ | ⟨kvs, hd, q⟩
  · obtain ⟨hs, hgd, hx, es, ep, vs, hdt, hsz, kv, hm⟩ := I1.frzK hd
    exact iter_keys hs hgd hx hdt (pi_one (tk := s1.toks) I1 _ (turn_keys _ hdt) ⟨_, Heap.get?_push_size _ rfl, rfl, by rw [hsz] <;> rfl⟩ q)
  · obtain ⟨hs, hgd, hx, es, ep, hdt, hsz, ent⟩ := frzN I1 hd
    exact iter_keys hs hgd hx hdt (pi_one (tk := s1.toks) I1 _ (turn_keysN _ hdt) ⟨_, Heap.get?_push_size _ rfl, rfl, by rw [hsz] <;> rfl⟩ q)
def vItK (f : M D) : M (List D) := bnd f fun x => match x with
  | .dict ds => ret (ds.map (·.1))
  | _ => fun _ => none
theorem ShKv.get {Z : Zx} {H : Hp} : ∀ {ds : List (D × D)} {kvs : List (Key × V)} {i : Nat} {k : Key} {v : V}, ShKv Z H kvs ds → kvs[i]? = some (k, v) → ∃ d, ds[i]? = some (keyD k, d)
  | [], _, i, k, v, h, e => by cases h; simp at e
  | _ :: _, _, 0, k, v, h, e => by
    cases h with
    | cons h1 h2 => simp at e; obtain ⟨rfl, rfl⟩ := e; exact ⟨_, rfl⟩
  | _ :: _, _, i + 1, k, v, h, e => by
    cases h with
    | cons h1 h2 => simp at e; simpa using h2.get e
theorem ShN.get {Z : Zx} {H : Hp} : ∀ {ds : List (D × D)} {kvs : List (NestedKey × Addr × V)} {i : Nat} {k : NestedKey} {b : Addr} {v : V}, ShN Z H kvs ds → kvs[i]? = some (k, b, v) → ∃ ks d, ds[i]? = some (.tuple ks, d) ∧ Sh Z H (.ref b) (.tuple ks)
  | [], _, i, k, b, v, h, e => by cases h; simp at e
  | _ :: _, _, 0, k, b, v, h, e => by
    cases h with
    | cons h1 h2 h3 h4 h5 => simp at e; obtain ⟨rfl, rfl, rfl⟩ := e; exact ⟨_, _, rfl, h1⟩
  | _ :: _, _, i + 1, k, b, v, h, e => by
    cases h with
    | cons h1 h2 h3 h4 h5 => simp at e; simpa using h5.get e
theorem sh_keyD {Z : Zx} {H : Hp} (k : Key) : Sh Z H (kV k) (keyD k) := by
  cases k
  · exact .int _
  · exact .str _
theorem vi_keys (he : VE X G e fe) (hZ : G.Z = zx X := by rfl) : VI X G Sh tg e (vItK fe) := pi_imp (pi_keysN he) (by
  obtain ⟨Z, cl, H0, S0, W, fx, fv, tp⟩ := G
  cases hZ
  rintro σ H R ⟨ρ, S, k⟩
  refine ⟨ρ, S, k.bnd.mono fun x ρ1 k1 v H1 fz1 S1 s1 => ?_⟩
  cases x with
  | dict ds =>
    cases s1 with
    | dK ea sv =>
      rename_i a o kvs
      have hl : (ds.map (·.1)).length = kvs.length := by rw [List.length_map, sv.length]
      refine ⟨_, _, rfl, .inl ⟨_, ea, k1 _ H1 fz1 S1 ⟨_, _, hl.symm ▸ walk_keys, fun H2 f => f _ _ _ ea, fun i H2 x H3 hi f hy => ?_⟩⟩⟩
      obtain ⟨rfl, k, w, hk, rfl⟩ := hy
      obtain ⟨d, hd⟩ := sv.get hk
      exact ⟨Same.refl _, keyD k, by rw [List.getElem?_map, hd]; rfl, sh_keyD k⟩
    | dN ea sv hne =>
      rename_i a o kvs
      have hl : (ds.map (·.1)).length = kvs.length := by rw [List.length_map, sv.length]
      refine ⟨_, _, rfl, .inr ⟨_, ea, k1 _ H1 fz1 S1 ⟨fun H2 => H2 a = some (.frz o (oN (zx X) a kvs)), fun i H x H' => H' = H ∧ ∃ k b v, kvs[i]? = some (k, b, v) ∧ x = .ref b, hl.symm ▸ ⟨fun i H hi h => ⟨h, hi⟩, fun H h => ⟨h, Nat.le_refl _⟩, fun i H x H' _ _ y => y⟩, fun H2 f => f _ _ _ ea, fun i H2 x H3 hi f hy => ?_⟩⟩⟩
      obtain ⟨rfl, k, b, w, hk, rfl⟩ := hy
      obtain ⟨ks, d, hd, sb⟩ := (sv.up f).get hk
      exact ⟨Same.refl _, .tuple ks, by rw [List.getElem?_map, hd]; rfl, sb⟩
  | _ => exact k1.elim)
/-! ### enumerate, zip: pairs -/
def enumD (ds : List D) : List D := List.zipWith (fun (i : Nat) d => .tuple [.int i, d]) (List.range ds.length) ds
def vEnum (f : M D) : M (List D) := bnd f fun x => match x with
  | .list ds => ret (enumD ds)
  | _ => fun _ => none
theorem vi_enum {elts : List Expr} {kk : Nat} {tpos : Pos} (hg : Gl X "enumerate") (hm : X.mg "enumerate" = none) (ha : VE X G a fa) (hZ : G.Z = zx X := by rfl) (hs : starEach [a] X.env = [(false, eval a X.env)] := by rfl) : VI X G Up (.Tuple elts kk tpos) (.Call (.Name "enumerate" p) [a] [] pos) (vEnum fa) := pi_imp (pi_enum hg hm (pa_cons ha pa_nil hs) hs) (by
  obtain ⟨Z, cl, H0, S0, W, fx, fv, tp⟩ := G
  cases hZ
  rintro σ H R ⟨ρ, S, k⟩
  refine ⟨ρ, S, k.bnd.mono fun x ρ1 k1 v H1 fz1 S1 s1 => ?_⟩
  cases x with
  | list ds =>
    cases s1 with
    | lst ea sv =>
      rename_i a vs
      have hl : (enumD ds).length = vs.length := by simp [enumD, sv.length]
      refine ⟨_, _, rfl, fz_sq ea (Fz.refl H1), k1 _ H1 fz1 S1 ⟨_, _, hl.symm ▸ walk_enum, fun H2 f => fz_sq ea f, fun i H2 x H3 hi f hy => ?_⟩⟩
      obtain ⟨T, x, y, rfl, hT, rfl, hx, hy⟩ := hy
      cases hx
      obtain ⟨d, hd, sd⟩ := (sv.up f).get' hy
      have sm := sm_upd (o := .tup [.int (i : Nat), y]) hT
      have hi' : i < ds.length := (List.getElem?_eq_some_iff.mp hd).1
      refine ⟨sm, .tuple [.int i, d], ?_, .tp upd_same (.cons (.int _) (.cons (sd.up (Same.fz sm)) .nil))⟩
      simp only [enumD, List.getElem?_zipWith, hd, List.getElem?_range hi']
  | _ => exact k1.elim)
def zipD (xs ys : List D) : List D := List.zipWith (fun d e => .tuple [d, e]) xs ys
def vZip (f g : M D) : M (List D) := bnd f fun x => bnd g fun y => match x, y with
  | .list ds, .list es => ret (zipD ds es)
  | .tuple ds, .tuple es => ret (zipD ds es)
  | _, _ => fun _ => none
theorem itv_pair {Z : Zx} {J : It} {H1 : Hp} {xs ys : List V} {ds es : List D} {n : Nat} {Gd : Hp → Prop} (hn : n = min xs.length ys.length) (w : Walk J n Gd (YPair (fun i => xs[i]?) (fun i => ys[i]?))) (hG : ∀ H2, Fz H1 H2 → Gd H2) (sx : ShAll Z H1 xs ds) (sy : ShAll Z H1 ys es) : ItV Up Z J (zipD ds es) H1 := by
  have hl : (zipD ds es).length = n := by simp [zipD, hn, sx.length, sy.length]
  refine ⟨Gd, _, hl.symm ▸ w, hG, fun i H2 x H3 hi f hy => ?_⟩
  obtain ⟨T, x, y, rfl, hT, rfl, hx, hy⟩ := hy
  obtain ⟨d, hd, sd⟩ := (sx.up f).get' hx
  obtain ⟨e, he, se⟩ := (sy.up f).get' hy
  have sm := sm_upd (o := .tup [x, y]) hT
  refine ⟨sm, .tuple [d, e], ?_, .tp upd_same (.cons (sd.up (Same.fz sm)) (.cons (se.up (Same.fz sm)) .nil))⟩
  simp [zipD, List.getElem?_zipWith, hd, he]
theorem vi_zip {elts : List Expr} {kk : Nat} {tpos : Pos} (hg : Gl X "zip") (hm : X.mg "zip" = none) (ha : VE X G a fa) (hb : VE X G b fb) (hZ : G.Z = zx X := by rfl) (hs : starEach [a, b] X.env = (false, eval a X.env) :: starEach [b] X.env := by rfl) (hs2 : starEach [b] X.env = (false, eval b X.env) :: starEach [] X.env := by rfl) (hpl : (backTo pos (starEach [b] X.env)).any (·.1) = false := by rfl) :
    VI X G Up (.Tuple elts kk tpos) (.Call (.Name "zip" p) [a, b] [] pos) (vZip fa fb) := pi_imp (RZ.pi_zipA hg hm (pa_cons ha (pa_cons hb pa_nil hs2) hs) hs hpl) (by
  obtain ⟨Z, cl, H0, S0, W, fx, fv, tp⟩ := G
  cases hZ
  rintro σ H R ⟨ρ, S, k⟩
  refine ⟨ρ, S, k.bnd.mono fun x ρ1 k1 v H1 fz1 S1 s1 => ⟨ρ1, S1, k1.bnd.mono fun y ρ2 k2 w H2 fz2 S2 s2 => ?_⟩⟩
  cases x with
  | list ds =>
    cases y with
    | list es =>
      have s1 := s1.up fz2
      cases s1 with
      | lst ea sv =>
        cases s2 with
        | lst eb sw =>
          exact ⟨_, _, _, _, rfl, .inl ⟨fz_sq ea (Fz.refl H2), fz_sq eb (Fz.refl H2), k2 _ H2 (fz1.trans fz2) S2 (itv_pair rfl (walk_zip rfl) (fun H3 f => ⟨fz_sq ea f, fz_sq eb f⟩) sv sw)⟩⟩
    | _ => exact k2.elim
  | tuple ds =>
    cases y with
    | tuple es =>
      have s1 := s1.up fz2
      cases s1 with
      | tup ea sv =>
        cases s2 with
        | tup eb sw =>
          exact ⟨_, _, _, _, rfl, .inr ⟨ea.sq, eb.sq, k2 _ H2 (fz1.trans fz2) S2 (itv_pair rfl (walk_zipT rfl) (fun H3 f => ⟨(ea.keep f).sq, (eb.keep f).sq⟩) sv sw)⟩⟩
    | _ => exact k2.elim
  | _ => cases y <;> exact k2.elim)
/-! ### comprehensions -/
def wipeE (ρ : Ev) : List Nat → Ev
  | [] => ρ
  | v :: vs => (wipeE ρ vs).set v none
def backE (ρ0 : Ev) (ρ : Ev) : List Nat → Ev
  | [] => ρ
  | v :: vs => (backE ρ0 ρ vs).set v (ρ0[v]?.join)
def noOwn (ρ : Ev) (vs : List Nat) : Bool := vs.all fun i => match ρ[i]? with
  | some (some s) => !s.o
  | _ => true
def lcL (vs : List Nat) (g : D → M Unit) (t : M Bool) (f : M D) : List D → List D → M (List D)
  | [], acc => ret acc
  | x :: r, acc => fun ρ => bnd (g x) (fun _ => bnd t fun b => if b then bnd f fun y => if acc.length < sizeLine then lcL vs g t f r (acc ++ [y]) else fun _ => none else lcL vs g t f r acc) (wipeE ρ vs)
def vLc (it : M (List D)) (vs : List Nat) (g : D → M Unit) (t : M Bool) (f : M D) : M D := bnd it fun xs => fun ρ => if noOwn ρ vs then (match lcL vs g t f xs [] ρ with
  | some (.ok acc ρ') => some (.ok (.list acc) (backE ρ ρ' vs))
  | _ => none) else none
def Gh.inn (G : Gh) (tp : List (Addr × HO)) : Gh := { G with tp := tp, W := fun _ _ _ => False }
theorem wipe_get {σ : L2.St} {j : Nat} : ∀ vs : List Nat, (wipe σ vs)[j]? = if j ∈ vs then (if j < σ.length then some none else none) else σ[j]?
  | [] => by simp [wipe]
  | v :: vs => by
    have hl := wipe_length σ vs
    simp only [wipe, List.mem_cons]
    by_cases e : j = v
    · subst e
      simp only [true_or, if_true]
      by_cases h : j < σ.length
      · rw [List.getElem?_set_self (by omega), if_pos h]
      · rw [if_neg h, List.getElem?_eq_none (by simp; omega)]
    · rw [List.getElem?_set_ne (Ne.symm e), wipe_get vs]
      simp [e]
theorem wipeE_length (ρ : Ev) : ∀ vs : List Nat, (wipeE ρ vs).length = ρ.length
  | [] => rfl
  | v :: vs => by simp [wipeE, wipeE_length ρ vs]
theorem wipeE_get {ρ : Ev} {j : Nat} : ∀ vs : List Nat, (wipeE ρ vs)[j]? = if j ∈ vs then (if j < ρ.length then some none else none) else ρ[j]?
  | [] => by simp [wipeE]
  | v :: vs => by
    have hl := wipeE_length ρ vs
    simp only [wipeE, List.mem_cons]
    by_cases e : j = v
    · subst e
      simp only [true_or, if_true]
      by_cases h : j < ρ.length
      · rw [List.getElem?_set_self (by omega), if_pos h]
      · rw [if_neg h, List.getElem?_eq_none (by simp; omega)]
    · rw [List.getElem?_set_ne (Ne.symm e), wipeE_get vs]
      simp [e]
theorem backE_length (ρ0 ρ : Ev) : ∀ vs : List Nat, (backE ρ0 ρ vs).length = ρ.length
  | [] => rfl
  | v :: vs => by simp [backE, backE_length ρ0 ρ vs]
theorem backE_get {ρ0 ρ : Ev} {j : Nat} : ∀ vs : List Nat, (backE ρ0 ρ vs)[j]? = if j ∈ vs then (if j < ρ.length then some (ρ0[j]?.join) else none) else ρ[j]?
  | [] => by simp [backE]
  | v :: vs => by
    have hl := backE_length ρ0 ρ vs
    simp only [backE, List.mem_cons]
    by_cases e : j = v
    · subst e
      simp only [true_or, if_true]
      by_cases h : j < ρ.length
      · rw [List.getElem?_set_self (by omega), if_pos h]
      · rw [if_neg h, List.getElem?_eq_none (by simp; omega)]
    · rw [List.getElem?_set_ne (Ne.symm e), backE_get vs]
      simp [e]
theorem wipe_only {vs : List Nat} {σ σ' : L2.St} (h : SetOnly vs σ σ') : wipe σ' vs = wipe σ vs := by
  apply List.ext_getElem?
  intro j
  rw [wipe_get, wipe_get, h.1]
  split
  · rfl
  · exact h.2 j (by assumption)
theorem wipe_wipe {vs : List Nat} {σ : L2.St} : wipe (wipe σ vs) vs = wipe σ vs := by
  apply List.ext_getElem?
  intro j
  rw [wipe_get, wipe_get, wipe_length]
  split <;> rfl
theorem Stt.wipe {H : Hp} {σ : L2.St} {ρ : Ev} (vs : List Nat) (hf : ∀ i ∈ vs, i ∉ G.fx) (S : Stt G H σ ρ) : Stt G H (L2.wipe σ vs) (wipeE ρ vs) := by
  have aux : ∀ (j : Nat) (s : Sl), (wipeE ρ vs)[j]? = some (some s) → ρ[j]? = some (some s) ∧ (L2.wipe σ vs)[j]? = σ[j]? := fun j s h => by
    rw [wipeE_get] at h
    split at h
    · split at h <;> cases h
    · exact ⟨h, by rw [wipe_get, if_neg (by assumption)]⟩
  refine ⟨by rw [wipeE_length, wipe_length]; exact S.len, fun j s h => ?_, fun j k s t q h1 h2 h3 h4 h5 h6 => ?_, S.mv, fun j hj => ?_, fun q hq => ⟨(S.tmp q hq).1, (S.tmp q hq).2.1, fun j s h ho => ?_⟩⟩
  · obtain ⟨a, b⟩ := aux j s h
    rw [b]; exact S.val j s a
  · obtain ⟨a1, b1⟩ := aux j s h1
    obtain ⟨a2, b2⟩ := aux k t h2
    rw [b1] at h5
    rw [b2] at h6
    exact S.dis j k s t q a1 a2 h3 h4 h5 h6
  · rw [wipe_get, if_neg (fun z => hf j z hj)]; exact S.fix j hj
  · obtain ⟨a, b⟩ := aux j s h
    rw [b]; exact (S.tmp q hq).2.2 j s a ho
theorem Stt.inn {H : Hp} {σ : L2.St} {ρ : Ev} {A : Addr} {av : List V} (S : Stt G H σ ρ) (hA : H A = none) : Stt (G.inn ((A, .lst av) :: G.tp)) (upd H A (.lst av)) σ ρ := by
  have sm := sm_upd (o := .lst av) hA
  have S1 := S.same sm
  have fr := S.none_new hA
  refine ⟨S1.len, S1.val, S1.dis, S1.mv, S1.fix, fun q hq => ?_⟩
  rcases List.mem_cons.1 hq with rfl | hq
  · exact ⟨upd_same, ⟨trivial, fr.1, nt_lst⟩, fr.2.1⟩
  · exact S1.tmp q hq
theorem Stt.inn2 {H : Hp} {σ : L2.St} {ρ : Ev} {A : Addr} {av aw : List V} {tp : List (Addr × HO)} (S : Stt (G.inn ((A, .lst av) :: tp)) H σ ρ) (hn : ∀ q ∈ tp, q.1 ≠ A) : Stt (G.inn ((A, .lst aw) :: tp)) (upd H A (.lst aw)) σ ρ := by
  obtain ⟨h1, h2, h3⟩ := S.tmp (A, .lst av) (by simp [Gh.inn])
  have m : Mut (H A) := by rw [h1]; trivial
  have fz := fz_mut (o := .lst aw) m
  refine ⟨S.len, fun j s h => ?_, S.dis, S.mv.upd (.inl h2.2.1) (fun o u z => by rw [z] at m; exact m) (by rw [h1]; exact nt_lst) (fun _ z => nomatch z), S.fix, fun q hq => ?_⟩
  · obtain ⟨v, a, b⟩ := S.val j s h
    refine ⟨v, a, b.keep fz fun p hp ho => upd_ne fun z => ?_⟩
    subst z hp
    exact h3 j s h ho a
  · rcases List.mem_cons.1 hq with rfl | hq
    · exact ⟨upd_same, ⟨trivial, h2.2.1, nt_lst⟩, h3⟩
    · obtain ⟨c1, c2⟩ := S.tmp q (List.mem_cons_of_mem _ hq)
      exact ⟨by rw [upd_ne (hn q hq)]; exact c1, c2⟩
theorem Stt.out {H1 H : Hp} {σ : L2.St} {ρ0 ρ : Ev} {A : Addr} {av : List V} {vs : List Nat} (S0 : Stt G H1 σ ρ0) (no : noOwn ρ0 vs = true) (fz : Fz H1 H) (S : Stt (G.inn ((A, .lst av) :: G.tp)) H (L2.wipe σ vs) (wipeE ρ vs)) : Stt G H σ (backE ρ0 ρ vs) ∧ ∀ (j : Nat) s, (backE ρ0 ρ vs)[j]? = some (some s) → s.o = true → σ[j]? ≠ some (some (.ref A)) := by
  have hl : ρ.length = σ.length := by
    have := S.len
    rwa [wipeE_length, wipe_length] at this
  have aux : ∀ (j : Nat) (s : Sl), (backE ρ0 ρ vs)[j]? = some (some s) → (j ∈ vs ∧ ρ0[j]? = some (some s) ∧ s.o = false) ∨ (j ∉ vs ∧ (wipeE ρ vs)[j]? = some (some s) ∧ (L2.wipe σ vs)[j]? = σ[j]?) := fun j s h => by
    rw [backE_get] at h
    split at h
    · rename_i hj
      split at h
      · have h' : ρ0[j]?.join = some s := Option.some.inj h
        have h2 : ρ0[j]? = some (some s) := Option.join_eq_some_iff.1 h'
        refine .inl ⟨hj, h2, ?_⟩
        have := List.all_eq_true.1 no j hj
        rw [h2] at this
        simpa using this
      · cases h
    · rename_i hj
      exact .inr ⟨hj, by rw [wipeE_get, if_neg hj]; exact h, by rw [wipe_get, if_neg hj]⟩
  have auxO : ∀ (j : Nat) (s : Sl), (backE ρ0 ρ vs)[j]? = some (some s) → s.o = true → (wipeE ρ vs)[j]? = some (some s) ∧ (L2.wipe σ vs)[j]? = σ[j]? := fun j s h ho => by
    rcases aux j s h with ⟨_, _, z⟩ | ⟨_, a, b⟩
    · rw [ho] at z; cases z
    · exact ⟨a, b⟩
  refine ⟨⟨by rw [backE_length]; exact hl, fun j s h => ?_, fun j k s t q h1 h2 h3 h4 h5 h6 => ?_, S.mv, S0.fix, fun q hq => ?_⟩, fun j s h ho => by
    obtain ⟨a, b⟩ := auxO j s h ho
    rw [← b]
    exact (S.tmp (A, .lst av) (by simp [Gh.inn])).2.2 j s a ho⟩
  · rcases aux j s h with ⟨_, a, z⟩ | ⟨_, a, b⟩
    · obtain ⟨v, c1, c2⟩ := S0.val j s a
      refine ⟨v, c1, c2.keep fz fun p _ ho => ?_⟩
      rw [z] at ho; cases ho
    · rw [← b]; exact S.val j s a
  · obtain ⟨a1, b1⟩ := auxO j s h1 h3
    obtain ⟨a2, b2⟩ := auxO k t h2 h4
    rw [← b1] at h5
    rw [← b2] at h6
    exact S.dis j k s t q a1 a2 h3 h4 h5 h6
  · obtain ⟨c1, c2, c3⟩ := S.tmp q (List.mem_cons_of_mem _ hq)
    refine ⟨c1, c2, fun j s h ho => ?_⟩
    obtain ⟨a, b⟩ := auxO j s h ho
    rw [← b]; exact c3 j s a ho
theorem bnd_ok {α β : Type} {m : M α} {k : α → M β} {ρ ρ' : Ev} {a : β} (h : bnd m k ρ = some (.ok a ρ')) : ∃ b ρ1, m ρ = some (.ok b ρ1) ∧ k b ρ1 = some (.ok a ρ') := by
  unfold bnd at h
  cases e : m ρ with
  | none => rw [e] at h; cases h
  | some x =>
    rw [e] at h
    cases x with
    | ok b ρ1 => exact ⟨b, ρ1, rfl, h⟩
    | ex _ => cases h
theorem Kont.ofEq {α : Type} {r : Option (R α)} {a : α} {ρ : Ev} (h : r = some (.ok a ρ)) : Kont G r fun b ρ' => b = a ∧ ρ' = ρ := by
  rw [h]; exact ⟨rfl, rfl⟩
def exE {α : Type} (t : List (Addr × HO) → α → Prop) (a : α) : Prop := ∃ tp, t tp a
def tLE (G : Gh) (f : M D) : TE := fun σ H Q => ∃ tp, tvE (G.inn tp) f σ H Q
def tLT (G : Gh) (f : M Bool) : TT := fun σ H Q => ∃ tp, tvT (G.inn tp) f σ H Q
def tLG (G : Gh) (rel : Zx → Hp → V → D → Prop) (vs : List Nat) (g : D → M Unit) : TG := fun v σ H Q => ∃ tp, tvG (G.inn tp) rel vs g v σ H Q
theorem lc_v {rel : Zx → Hp → V → D → Prop} {it : M (List D)} {vs : List Nat} {g : D → M Unit} {t : M Bool} {f : M D} (hf : ∀ i ∈ vs, i ∉ G.fx) : ∀ σ H Q, tvO G (vLc it vs g t f) σ H Q → tLc (tvI G rel it) (tLG G rel vs g) (tLT G t) (tLE G f) vs σ H Q := by
  rintro σ H Q ⟨ρ, S, k⟩
  refine ⟨ρ, S, k.bnd.mono fun ds ρ1 k1 J H1 fz1 S1 ⟨Gd, Y, w, hG, hY⟩ => ?_⟩
  split at k1
  · rename_i no
    cases hL : lcL vs g t f ds [] ρ1 with
    | none => rw [hL] at k1; exact k1.elim
    | some r =>
      cases r with
      | ex _ => rw [hL] at k1; exact k1.elim
      | ok accF ρF =>
        rw [hL] at k1
        intro A hA
        have sm0 := sm_upd (o := .lst []) hA
        have hnA : ∀ q ∈ G.tp, q.1 ≠ A := (S1.none_new hA).2.2
        refine lc_it w (fun i H' => ∃ ρ' acc av, Stt (G.inn ((A, .lst av) :: G.tp)) H' (wipe σ vs) (wipeE ρ' vs) ∧ Fz H1 H' ∧ ShAll G.Z H' av acc ∧ lcL vs g t f (ds.drop i) acc ρ' = some (.ok accF ρF)) ⟨ρ1, [], [], (S1.inn hA).wipe vs hf, Same.fz sm0, .nil, by simpa using hL⟩ (fun i H' _ ⟨_, _, _, _, f, _⟩ => hG H' f) ?_ ?_
        · rintro i x H2 H3 hi ⟨ρ2, acc, av, S2, f2, sa, e2⟩ hy
          obtain ⟨sm, d, hd, rl⟩ := hY i H2 x H3 hi f2 hy
          rw [List.drop_eq_getElem_cons hi] at e2
          have ed : ds[i] = d := by
            rw [List.getElem?_eq_getElem hi] at hd
            exact Option.some.inj hd
          rw [ed] at e2
          obtain ⟨u3, ρ3, g3, e3⟩ := bnd_ok (show bnd (g d) _ (wipeE ρ2 vs) = _ from e2)
          obtain ⟨b, ρ4, g4, e4⟩ := bnd_ok e3
          have f3 : Fz H1 H3 := f2.trans (Same.fz sm)
          refine ⟨_, wipeE ρ2 vs, d, S2.same sm, rl, (Kont.ofEq g3).mono fun _ ρ3' ⟨_, eq3⟩ σ3 so S3 => ⟨by rw [wipe_only so, wipe_wipe], _, ρ3, eq3 ▸ S3, (Kont.ofEq g4).mono fun b' ρ4' ⟨eb, eq4⟩ H4 fz4 S4 => ?_⟩⟩
          subst eb eq4
          have ws : wipe σ3 vs = wipe σ vs := by rw [wipe_only so, wipe_wipe]
          have f4 : Fz H1 H4 := f3.trans fz4
          cases b' with
          | true =>
            rw [if_pos rfl]
            obtain ⟨y, ρ5, g5, e5⟩ := bnd_ok (show bnd f _ ρ4' = _ from e4)
            refine ⟨_, ρ4', S4, (Kont.ofEq g5).mono fun y' ρ5' ⟨ey, eq5⟩ v H5 fz5 S5 sy => ?_⟩
            subst ey eq5
            split at e5
            · rename_i hz
              obtain ⟨c1, _, _⟩ := S5.tmp (A, .lst av) (by simp [Gh.inn])
              have sa5 := sa.up ((Same.fz sm).trans (fz4.trans fz5))
              have m : Mut (H5 A) := by rw [c1]; trivial
              have fzm := fz_mut (o := .lst (av ++ [v])) m
              refine ⟨av, c1, by rw [sa.length]; exact hz, ρ5', acc ++ [y'], av ++ [v], ?_, f4.trans (fz5.trans fzm), (sa5.append (.cons sy .nil)).up fzm, e5⟩
              have := Stt.wipe (G := G.inn ((A, .lst (av ++ [v])) :: G.tp)) vs hf (S5.inn2 (aw := av ++ [v]) hnA)
              rwa [ws] at this
            · cases e5
          | false =>
            rw [if_neg (by decide)]
            refine ⟨ρ4', acc, av, ?_, f4, sa.up ((Same.fz sm).trans fz4), e4⟩
            have := Stt.wipe (G := G.inn ((A, .lst av) :: G.tp)) vs hf S4
            rwa [ws] at this
        · rintro H2 ⟨ρ2, acc, av, S2, f2, sa, e2⟩
          rw [List.drop_length] at e2
          cases e2
          obtain ⟨c1, c2, c3⟩ := S2.tmp (A, .lst av) (by simp [Gh.inn])
          obtain ⟨So, Sf⟩ := Stt.out S1 no f2 S2
          exact k1 _ H2 (fz1.trans f2) So (show ∃ p, _ from ⟨A, rfl, .lst c1 sa, c2.2.1, Sf, hnA⟩)
  · exact k1.elim
/-- the conditions of a comprehension -/
def vYes : M Bool := ret true
theorem vts_nil {tp : List (Addr × HO)} : PTs X [] (tvT (G.inn tp) vYes) := ⟨fun pins s σ H Q I ⟨ρ, S, k⟩ => pts_nil.run pins s σ H Q I (k H (Fz.refl H) S)⟩
theorem vts_one {c : Expr} {t : M Bool} {tp : List (Addr × HO)} (h : VT X (G.inn tp) c t) : PTs X [c] (tvT (G.inn tp) t) := pts_one h
theorem vo_lc {rel : Zx → Hp → V → D → Prop} {elt iter : Expr} {ifs : List Expr} {scope : Scope} {own : List (Str × Nat)} {it : M (List D)} {g : D → M Unit} {t : M Bool} {f : M D} (hc : X.calm = true) (hN : X.N.Nodup) (hi : VI X G rel tg iter it) (ok : BlkOk X.N X.env.scope scope own) (hf : ∀ i ∈ own.map (·.2), i ∉ G.fx)
    (hg : ∀ (s : Shared) (H : Hp) (C : Addr) (cl : List (Str × Addr)) (fp : List Addr) (tp : List (Addr × HO)), VG (X.blk s H scope (compEnvC scope cl C X.env) fp) (G.inn tp) rel (own.map (·.2)) tg g)
    (ht : ∀ (s : Shared) (H : Hp) (C : Addr) (cl : List (Str × Addr)) (fp : List Addr) (tp : List (Addr × HO)), PTs (X.blk s H scope (compEnvC scope cl C X.env) fp) ifs (tvT (G.inn tp) t))
    (he : ∀ (s : Shared) (H : Hp) (C : Addr) (cl : List (Str × Addr)) (fp : List Addr) (tp : List (Addr × HO)), VE (X.blk s H scope (compEnvC scope cl C X.env) fp) (G.inn tp) elt f)
    (hs : ∀ x, foldedSetIterable iter X.env x = pure x := by intro _; rfl) : VO X G (.ListComp elt [⟨tg, iter, ifs, 0⟩] scope pos) (vLc it (own.map (·.2)) g t f) :=
  pe_imp (pe_lc hc hN hi ok (fun s H C cl fp => ⟨fun pins s' σ H' v u Q I r ⟨tp, h⟩ => (hg s H C cl fp tp).run pins s' σ H' v u Q I r h⟩) (fun s H C cl fp => ⟨fun pins s' σ H' Q I ⟨tp, h⟩ => (ht s H C cl fp tp).run pins s' σ H' Q I h⟩) (fun s H C cl fp => ⟨fun pins s' σ H' Q I ⟨tp, h⟩ => (he s H C cl fp tp).run pins s' σ H' Q I h⟩) hs) (lc_v hf)
/-- name = [..] on one line -/
theorem vs_setLc {rel : Zx → Hp → V → D → Prop} {i : Nat} {y : Str} {py spos : Pos} {elt iter : Expr} {ifs : List Expr} {scope : Scope} {own : List (Str × Nat)} {it : M (List D)} {g : D → M Unit} {t : M Bool} {f : M D} (hc : X.calm = true) (hN : X.N.Nodup) (hy : X.N[i]? = some y) (hyl : X.env.scope.names.lookup y = some .local)
    (hsw : swapsWith (.ListComp elt [⟨tg, iter, ifs, 0⟩] scope pos) (some (.Name y py)) spos.line X.env = pure true) (hi : VI X G rel tg iter it) (ok : BlkOk X.N X.env.scope scope own) (hf : ∀ i ∈ own.map (·.2), i ∉ G.fx) (hfi : i ∉ G.fx)
    (hg : ∀ (s : Shared) (H : Hp) (C : Addr) (cl : List (Str × Addr)) (fp : List Addr) (tp : List (Addr × HO)), VG (X.blk s H scope (compEnvC scope cl C X.env) fp) (G.inn tp) rel (own.map (·.2)) tg g)
    (ht : ∀ (s : Shared) (H : Hp) (C : Addr) (cl : List (Str × Addr)) (fp : List Addr) (tp : List (Addr × HO)), PTs (X.blk s H scope (compEnvC scope cl C X.env) fp) ifs (tvT (G.inn tp) t))
    (he : ∀ (s : Shared) (H : Hp) (C : Addr) (cl : List (Str × Addr)) (fp : List Addr) (tp : List (Addr × HO)), VE (X.blk s H scope (compEnvC scope cl C X.env) fp) (G.inn tp) elt f)
    (hs : ∀ x, foldedSetIterable iter X.env x = pure x := by intro _; rfl) : VS X G rm (.Assign [.Name y py] (.ListComp elt [⟨tg, iter, ifs, 0⟩] scope pos) spos) (vSetO i (vLc it (own.map (·.2)) g t f)) :=
  ps_imp (ps_setLc hc hN hy hyl hsw hi ok (fun s H C cl fp => ⟨fun pins s' σ H' v u Q I r ⟨tp, h⟩ => (hg s H C cl fp tp).run pins s' σ H' v u Q I r h⟩) (fun s H C cl fp => ⟨fun pins s' σ H' Q I ⟨tp, h⟩ => (ht s H C cl fp tp).run pins s' σ H' Q I h⟩) (fun s H C cl fp => ⟨fun pins s' σ H' Q I ⟨tp, h⟩ => (he s H C cl fp tp).run pins s' σ H' Q I h⟩) hs)
    fun D σ H ⟨ρ, S, k⟩ => lc_v hf σ H _ ⟨ρ, S, k.bnd.mono fun d ρ1 k1 v H1 fz S1 ro => k1 _ H1 fz (S1.setOw hfi ro)⟩
end
end Cv
end
section
/-! The V layer: defs and their calls. -/
namespace Cv
open PySem L2
open PySem.Spec
inductive Rf where
  | ret (d : D) (outs : List D)
  | exc (e : Ex)
def entL (fx : List Nat) : Nat → List D → Ev
  | _, [] => []
  | i, d :: r => some ⟨fx.contains i, d⟩ :: entL fx (i + 1) r
def ent (fx : List Nat) (n : Nat) (ds : List D) : Ev := entL fx 0 ds ++ List.replicate (n - ds.length) none
def outsOf : List Nat → Ev → Option (List D)
  | [], _ => some []
  | i :: r, ρ => match ρ[i]?, outsOf r ρ with
    | some (some ⟨true, d⟩), some ds => some (d :: ds)
    | _, _ => none
/-- what a def computes -/
def runR (fx : List Nat) : Option (R Fl) → Option Rf
  | some (.ok (.rt d) ρ) => (outsOf fx ρ).map (.ret d)
  | some (.ok .nx ρ) => (outsOf fx ρ).map (.ret .none)
  | some (.ex e) => some (.exc e)
  | _ => none
def runF (np : Nat) (fx : List Nat) (n : Nat) (body : M Fl) (ds : List D) : Option Rf := if ds.length = np then runR fx (body (ent fx n ds)) else none
theorem runF_len {np : Nat} {fx : List Nat} {n : Nat} {body : M Fl} : ∀ ds r, runF np fx n body ds = some r → ds.length = np := fun ds r h => by
  unfold runF at h
  split at h
  · assumption
  · cases h
def refOf : Option V → Option Addr
  | some (.ref p) => some p
  | _ => none
def ioA (fx : List Nat) (vs : List V) : List Addr := fx.filterMap fun i => refOf vs[i]?
structure ArgOk (Z : Zx) (fx : List Nat) (H : Hp) (vs : List V) (ds : List D) : Prop where
  len : vs.length = ds.length
  val : ∀ (i : Nat) v d, vs[i]? = some v → ds[i]? = some d → if i ∈ fx then Ow Z H v d else Sh Z H v d
  dis : ∀ (i j : Nat) p, i ∈ fx → j ∈ fx → vs[i]? = some (.ref p) → vs[j]? = some (.ref p) → i = j
def OutOk (Z : Zx) (fx : List Nat) (H : Hp) (vs : List V) (outs : List D) : Prop := ∀ (k i : Nat), fx[k]? = some i → ∃ v d, vs[i]? = some v ∧ outs[k]? = some d ∧ Ow Z H v d
def ResOk (Z : Zx) (rm : Bool) (H H' : Hp) (v : V) (d : D) : Prop := match rm && isC d with
  | true => ∃ p, v = .ref p ∧ Ow Z H' v d ∧ Nn H p
  | false => Sh Z H' v d
def spV (Z : Zx) (cl : Cl) (np : Nat) (fx : List Nat) (rm : Bool) (mf : List D → Option Rf) : Sp := fun vs H Q E => vs.length = np ∧ LamX.Tabs cl.T H ∧ ∃ ds, ArgOk Z fx H vs ds ∧ match mf ds with
  | some (.ret d outs) => ∀ v H', Mv cl.T (ioA fx vs) H H' → OutOk Z fx H' vs outs → ResOk Z rm H H' v d → Q v H'
  | some (.exc e) => ∀ cls od H', Mv cl.T (ioA fx vs) H H' → ExcAt Z cl H' e cls od → E cls od H'
  | none => False
abbrev gh (Z : Zx) (cl : Cl) (H : Hp) (W : XK) (fx : List Nat) (vs : List V) : Gh := ⟨Z, cl, H, ioA fx vs, W, fx, fun i => vs[i]?, []⟩
theorem nfx {G : Gh} {i : Nat} {fx : List Nat} (h : G.fx = fx) (c : fx.contains i = false) : i ∉ G.fx := by
  rw [h]
  intro z
  have : fx.contains i = true := by simpa using z
  rw [this] at c
  cases c
theorem nfxs {G : Gh} {fx vs : List Nat} (h : G.fx = fx) (c : (vs.all fun i => !fx.contains i) = true) : ∀ i ∈ vs, i ∉ G.fx := fun i hi => nfx h (by simpa using List.all_eq_true.1 c i hi)
theorem entL_get {fx : List Nat} : ∀ {ds : List D} {k j : Nat}, (entL fx k ds)[j]? = (ds[j]?).map fun d => some ⟨fx.contains (k + j), d⟩
  | [], k, j => by simp [entL]
  | d :: r, k, 0 => by simp [entL]
  | d :: r, k, j + 1 => by
    simp only [entL, List.getElem?_cons_succ]
    rw [entL_get, Nat.add_right_comm, ← Nat.add_assoc]
theorem entL_length {fx : List Nat} : ∀ {ds : List D} {k : Nat}, (entL fx k ds).length = ds.length
  | [], k => rfl
  | d :: r, k => by simp [entL, entL_length]
theorem ioA_mem {fx : List Nat} {vs : List V} {p : Addr} (h : p ∈ ioA fx vs) : ∃ i ∈ fx, vs[i]? = some (.ref p) := by
  obtain ⟨i, hi, e⟩ := List.mem_filterMap.1 h
  refine ⟨i, hi, ?_⟩
  unfold refOf at e
  split at e
  · cases e; assumption
  · cases e
theorem mem_ioA {fx : List Nat} {vs : List V} {p : Addr} {i : Nat} (hi : i ∈ fx) (e : vs[i]? = some (.ref p)) : p ∈ ioA fx vs := List.mem_filterMap.2 ⟨i, hi, by rw [e]; rfl⟩
theorem stt_start {Z : Zx} {cl : Cl} {H : Hp} {W : XK} {fx : List Nat} {vs : List V} {ds : List D} {N : List Str} (tb : LamX.Tabs cl.T H) (A : ArgOk Z fx H vs ds) (hl : vs.length ≤ N.length) (hfx : ∀ i ∈ fx, i < vs.length) : Stt (gh Z cl H W fx vs) H (L2.start N vs) (ent fx N.length ds) := by
  have hlen : (ent fx N.length ds).length = N.length := by
    unfold ent
    rw [List.length_append, entL_length, List.length_replicate, ← A.len]
    omega
  have aux : ∀ (i : Nat) (s : Sl), (ent fx N.length ds)[i]? = some (some s) → ∃ v d, vs[i]? = some v ∧ ds[i]? = some d ∧ s = ⟨fx.contains i, d⟩ ∧ (L2.start N vs)[i]? = some (some v) := fun i s h => by
    unfold ent at h
    by_cases hi : i < ds.length
    · rw [List.getElem?_append_left (by rw [entL_length]; exact hi), entL_get, List.getElem?_eq_getElem hi] at h
      simp only [Option.map_some, Option.some.injEq, Nat.zero_add] at h
      have hi' : i < vs.length := by rw [A.len]; exact hi
      refine ⟨vs[i], ds[i], List.getElem?_eq_getElem hi', List.getElem?_eq_getElem hi, h.symm, ?_⟩
      unfold L2.start
      rw [List.getElem?_append_left (by simpa using hi'), List.getElem?_map, List.getElem?_eq_getElem hi']
      rfl
    · rw [List.getElem?_append_right (by rw [entL_length]; omega), List.getElem?_replicate] at h
      split at h <;> cases h
  have own : ∀ (i : Nat) (s : Sl), (ent fx N.length ds)[i]? = some (some s) → s.o = true → i ∈ fx ∧ ∃ v, vs[i]? = some v ∧ (L2.start N vs)[i]? = some (some v) := fun i s h ho => by
    obtain ⟨v, d, h1, h2, rfl, h4⟩ := aux i s h
    exact ⟨by simpa using ho, v, h1, h4⟩
  refine ⟨?_, fun i s h => ?_, fun i j s t p h1 h2 h3 h4 h5 h6 => ?_, Mv.refl _ _ tb, fun i hi => ?_, fun q hq => nomatch hq⟩
  · rw [hlen]
    unfold L2.start
    rw [List.length_append, List.length_map, List.length_replicate]
    omega
  · obtain ⟨v, d, h1, h2, rfl, h4⟩ := aux i s h
    refine ⟨v, h4, ?_⟩
    have hv := A.val i v d h1 h2
    unfold SlOk
    by_cases hi : i ∈ fx
    · have hc : fx.contains i = true := by simpa using hi
      rw [if_pos hi] at hv
      simp only [hc]
      exact ⟨hv, fun p e => .inr ⟨hi, mem_ioA hi (by rw [h1, e])⟩⟩
    · have hc : fx.contains i = false := by simpa using hi
      rw [if_neg hi] at hv
      simp only [hc]
      exact hv
  · obtain ⟨i1, v, e1, e2⟩ := own i s h1 h3
    obtain ⟨j1, w, f1, f2⟩ := own j t h2 h4
    rw [e2] at h5
    cases h5
    rw [f2] at h6
    cases h6
    exact A.dis i j p i1 j1 e1 f1
  · have hi' := hfx i hi
    unfold L2.start
    rw [List.getElem?_append_left (by simpa using hi'), List.getElem?_map]
    show Option.map some vs[i]? = some vs[i]?
    rw [List.getElem?_eq_getElem hi']
    rfl
theorem outs_ok {G : Gh} {H : Hp} {σ : St} {ρ : Ev} {vs : List V} (S : Stt G H σ ρ) (hv : ∀ i ∈ G.fx, ∃ v, vs[i]? = some v ∧ G.fv i = some v) : ∀ {fx : List Nat} {outs : List D}, (∀ i ∈ fx, i ∈ G.fx) → outsOf fx ρ = some outs → OutOk G.Z fx H vs outs
  | [], _, _, _ => fun k i h => by simp at h
  | j :: fx, outs, hs, h => fun k i hk => by
    simp only [outsOf] at h
    split at h
    · rename_i d ds e1 e2
      cases h
      cases k with
      | zero =>
        simp at hk
        subst hk
        obtain ⟨v, h1, h2⟩ := hv j (hs j (by simp))
        obtain ⟨w, a, b⟩ := S.val j _ e1
        have f := S.fix j (hs j (by simp))
        rw [a, h2] at f
        cases f
        exact ⟨_, d, h1, rfl, And.left b⟩
      | succ k =>
        have ih := outs_ok S hv (fx := fx) (fun i hi => hs i (by simp [hi])) e2 k i (by simpa using hk)
        simpa using ih
    · cases h
section
variable {P : Program} {w : World} {K : PySem.W.Frag} {mg : Str → Option Value} {base : Heap} {cl : Cl}
theorem body_ok {X : Cx} {Z : Zx} {fx : List Nat} {rm : Bool} {N : List Str} {vs : List V} {H : Hp} {Q : VK} {E W : XK} {body : M Fl} {np : Nat} {sts : List Stmt} (hE : ∀ cls od H', E cls od H' → W cls od H') (hp : np ≤ N.length) (hfx : (fx.all fun i => decide (i < np)) = true) (hsp : spV Z cl np fx rm (runF np fx N.length body) vs H Q E)
    (hb : VSs X (gh Z cl H W fx vs) rm sts body) : ∃ t, PSs X sts t ∧ t { nx := fun _ H' => Q .non H', rt := Q } (L2.start N vs) H := by
  obtain ⟨hl, tb, ds, A, k⟩ := hsp
  have hfx' : ∀ i ∈ fx, i < vs.length := fun i hi => by rw [hl]; simpa using List.all_eq_true.1 hfx i hi
  refine ⟨_, hb, ent fx N.length ds, stt_start tb A (by omega) hfx', ?_⟩
  unfold runF at k
  rw [if_pos (by rw [← A.len]; exact hl)] at k
  have hv : ∀ i ∈ (gh Z cl H W fx vs).fx, ∃ v, vs[i]? = some v ∧ (gh Z cl H W fx vs).fv i = some v := fun i hi => ⟨vs[i]'(hfx' i hi), List.getElem?_eq_getElem (hfx' i hi), List.getElem?_eq_getElem (hfx' i hi)⟩
  cases hr : body (ent fx N.length ds) with
  | none => rw [hr] at k; exact k.elim
  | some r =>
    rw [hr] at k
    cases r with
    | ex e => exact fun cls od H' mv ea => hE _ _ _ (k cls od H' mv ea)
    | ok fl ρ =>
      cases fl with
      | nx =>
        rw [show runR fx (some (.ok .nx ρ)) = (outsOf fx ρ).map (.ret .none) from rfl] at k
        cases ho : outsOf fx ρ with
        | none => rw [ho] at k; exact k.elim
        | some outs =>
          rw [ho] at k
          exact fun σ' H' fz S => k .non H' S.mv (outs_ok S hv (fun _ h => h) ho) (by unfold ResOk; cases rm <;> exact Sh.non)
      | rt d =>
        rw [show runR fx (some (.ok (.rt d) ρ)) = (outsOf fx ρ).map (.ret d) from rfl] at k
        cases ho : outsOf fx ρ with
        | none => rw [ho] at k; exact k.elim
        | some outs =>
          rw [ho] at k
          exact fun v σ' H' fz S rk => k v H' S.mv (outs_ok S hv (fun _ h => h) ho) rk
      | bk => exact k.elim
      | ct => exact k.elim
/-- a def that raises nothing -/
theorem def_ok {x qual : Str} {st : Stmt} {f : Addr} {fd : FuncData} {N ps : List Str} {k np : Nat} {fx : List Nat} {rm : Bool} {body : M Fl} (F : Fun K x qual st f fd) (S : FnScope N ps (defScope st)) (hnp : ps.length = np) (hp : np ≤ N.length) (hfx : (fx.all fun i => decide (i < np)) = true)
    (hb : ∀ (cdv : Value) (A : Around) (outer : List Env) (s : Shared) (H : Hp) (vs : List V) (E : XK), Room k (A.deeper (PyProof.Rows.envOfC qual (defScope st) s.heap.objs.size f cdv)) → VSs (cxOf CX0 P w K mg base N qual (defScope st) f cdv A outer s H E).nox (gh ⟨P, w, K⟩ cl H (fun _ _ _ => False) fx vs) rm (defBody st) body)
    (hx : ∀ ds e, runF np fx N.length body ds ≠ some (.exc e)) : FnOk P w K mg base CX0 (k + 1) f fd ps (spV ⟨P, w, K⟩ cl np fx rm (runF np fx N.length body)) := by
  refine F.ok S (fun vs H Q E h => by rw [hnp]; exact h.1) fun cdv A outer s H vs Q E hr hsp => ?_
  refine body_ok (E := fun _ _ _ => False) (fun _ _ _ h => h) hp hfx ?_ (hb cdv A outer s H vs E hr)
  obtain ⟨hl, tb, ds, Ao, kk⟩ := hsp
  refine ⟨hl, tb, ds, Ao, ?_⟩
  cases hr : runF np fx N.length body ds with
  | none => rw [hr] at kk; exact kk.elim
  | some r =>
    rw [hr] at kk
    cases r with
    | ret d outs => exact kk
    | exc e => exact (hx ds e hr).elim
/-- a def that may raise -/
theorem def_okX {x qual : Str} {st : Stmt} {f : Addr} {fd : FuncData} {N ps : List Str} {k np : Nat} {fx : List Nat} {rm : Bool} {body : M Fl} (F : Fun K x qual st f fd) (S : FnScope N ps (defScope st)) (hnp : ps.length = np) (hp : np ≤ N.length) (hfx : (fx.all fun i => decide (i < np)) = true)
    (hb : ∀ (cdv : Value) (A : Around) (outer : List Env) (s : Shared) (H : Hp) (vs : List V) (E : XK), Room k (A.deeper (PyProof.Rows.envOfC qual (defScope st) s.heap.objs.size f cdv)) → VSs (cxOf (L2.CX P w) P w K mg base N qual (defScope st) f cdv A outer s H E) (gh ⟨P, w, K⟩ cl H E fx vs) rm (defBody st) body) :
    FnOk P w K mg base (L2.CX P w) (k + 1) f fd ps (spV ⟨P, w, K⟩ cl np fx rm (runF np fx N.length body)) := by
  refine F.okX S (fun vs H Q E h => by rw [hnp]; exact h.1) fun cdv A outer s H vs Q E hr hsp => ?_
  exact body_ok (E := E) (fun _ _ _ h => h) hp hfx hsp (hb cdv A outer s H vs E hr)
end
/-! ### calls -/
section
variable {X : Cx} {G : Gh} {CX : CXT} {k : Nat} {f : Addr} {fd : FuncData} {ps : List Str} {x : Str} {e : Expr} {es : List Expr} {p pos : Pos} {fs : M (List D)} {mf : List D → Option Rf} {rm : Bool} {np : Nat}
def vCall (mf : List D → Option Rf) (fs : M (List D)) : M D := bnd fs fun ds => fun ρ => match mf ds with
  | some (.ret d _) => some (.ok d ρ)
  | some (.exc e) => some (.ex e)
  | none => none
theorem ResOk.ro {Z : Zx} {H H' : Hp} {σ : St} {ρ : Ev} {v : V} {d : D} (h : ResOk G.Z true H H' v d) (s : Stt G H σ ρ) : RO G H' σ ρ v d := by
  unfold ResOk at h
  unfold RO
  cases hc : isC d with
  | false => rw [hc] at h; exact h
  | true =>
    rw [hc] at h
    obtain ⟨p, h1, h2, h3⟩ := h
    exact ⟨p, h1, h2, s.nn_new h3⟩
/-- behind a call that wrote nothing of ours -/
theorem Stt.called {H H' : Hp} {σ : St} {ρ : Ev} {S : List Addr} (h : Stt G H σ ρ) (m : Mv G.cl.T S H H') (hS : ∀ p ∈ S, False) : Stt G H' σ ρ := by
  have keep : ∀ p, Mut (H p) → H' p = H p := fun p hm => by
    cases q : H p with
    | none => rw [q] at hm; exact hm.elim
    | some u =>
      exact m.old p u q (fun z => hS p z) (fun ps z => by rw [q, z] at hm; exact hm.elim)
  refine ⟨h.len, fun i s hs => ?_, h.dis, h.mv.trans m (fun p hp => (hS p hp).elim), h.fix, fun q hq => ?_⟩
  · obtain ⟨v, h1, h2⟩ := h.val i s hs
    refine ⟨v, h1, h2.keep m.fz fun p hv ho => keep p ?_⟩
    unfold SlOk at h2
    rw [ho, hv] at h2
    exact h2.1.mut
  · obtain ⟨c1, c2⟩ := h.tmp q hq
    exact ⟨by rw [keep _ (by rw [c1]; exact c2.1.1)]; exact c1, c2⟩
theorem ExcAt.up {Z : Zx} {cl : Cl} {H : Hp} {e : Ex} {cls : Value} {od : Option Addr} (h : ExcAt Z cl H e cls od) : ExcAt Z cl H e cls od := h
theorem argOk_of {Z : Zx} {H : Hp} {vs : List V} {ds : List D} (h : ShAll Z H vs ds) : ArgOk Z [] H vs ds := ⟨h.length, fun i v d h1 h2 => by
  rw [if_neg (by simp)]
  obtain ⟨d', e, s⟩ := h.get' h1
  rw [h2] at e
  cases e
  exact s, fun i j p hi => nomatch hi⟩
theorem tcall {cl : Cl} (hcl : G.cl = cl) (hZ : G.Z = zx X) (hl : ∀ ds r, mf ds = some r → ds.length = np) : ∀ σ H Q, tvO G (vCall mf fs) σ H Q → tCall (spV (zx X) cl np [] true mf) [] G.W (tvA G fs) σ H Q := by
  obtain ⟨Z, cl', H0, S0, W, fx, fv, tp⟩ := G
  cases hZ
  cases hcl
  rintro σ H Q ⟨ρ, S, k⟩
  refine ⟨ρ, S, k.bnd.mono fun ds ρ1 k1 vs H1 fz1 S1 s1 => ?_⟩
  show spV _ _ _ _ _ _ (vs ++ []) H1 Q _
  rw [List.append_nil]
  refine ⟨?_, S1.mv.tb.2, ds, argOk_of s1, ?_⟩
  · cases hm : mf ds with
    | none => rw [hm] at k1; exact k1.elim
    | some r => rw [s1.length]; exact hl ds r hm
  · cases hm : mf ds with
    | none => rw [hm] at k1; exact k1.elim
    | some r =>
      rw [hm] at k1
      cases r with
      | ret d outs => exact fun v H' mv _ rk => k1 v H' (fz1.trans mv.fz) (S1.called mv (fun _ z => nomatch z)) (ResOk.ro (Z := zx X) (G := ⟨zx X, cl', H0, S0, W, fx, fv, tp⟩) rk S1 |> fun r => by
          unfold RO at r ⊢
          exact r)
      | exc e => exact fun cls od H' mv ea => k1 cls od H' (S1.mv.trans mv (fun _ z => nomatch z)) ea
theorem vo_call {cl : Cl} (F : FnOk X.prog X.w X.K X.mg X.base CX k f fd ps (spV (zx X) cl np [] true mf)) (hr : Room k X.A) (hg : Gl X x) (hm : X.mg x = some (.ref f)) (hk : PySem.W.keepIn X.K (.ref f) = true) (hb : Binds X.K fd ps []) (hx : Passes CX X G.W) (hl : ∀ ds r, mf ds = some r → ds.length = np)
    (ha : VA X G (e :: es) fs) (hcl : G.cl = cl := by rfl) (hZ : G.Z = zx X := by rfl) (hdb : (x == ("__debug__" : Str)) = false := by decide) (he : starEach (e :: es) X.env = (false, eval e X.env) :: starEach es X.env := by rfl) (hpl : (backTo pos (starEach es X.env)).any (·.1) = false := by rfl) :
    VO X G (.Call (.Name x p) (e :: es) [] pos) (vCall mf fs) := pe_imp (pe_call F hr hg hm hk hb .nil hx ha hdb he hpl) (tcall hcl hZ hl)
theorem tcallE {cl : Cl} (hcl : G.cl = cl) (hZ : G.Z = zx X) (hl : ∀ ds r, mf ds = some r → ds.length = np) : ∀ σ H Q, tvE G (vCall mf fs) σ H Q → tCall (spV (zx X) cl np [] false mf) [] G.W (tvA G fs) σ H Q := by
  obtain ⟨Z, cl', H0, S0, W, fx, fv, tp⟩ := G
  cases hZ
  cases hcl
  rintro σ H Q ⟨ρ, S, k⟩
  refine ⟨ρ, S, k.bnd.mono fun ds ρ1 k1 vs H1 fz1 S1 s1 => ?_⟩
  show spV _ _ _ _ _ _ (vs ++ []) H1 Q _
  rw [List.append_nil]
  refine ⟨?_, S1.mv.tb.2, ds, argOk_of s1, ?_⟩
  · cases hm : mf ds with
    | none => rw [hm] at k1; exact k1.elim
    | some r => rw [s1.length]; exact hl ds r hm
  · cases hm : mf ds with
    | none => rw [hm] at k1; exact k1.elim
    | some r =>
      rw [hm] at k1
      cases r with
      | ret d outs => exact fun v H' mv _ rk => k1 v H' (fz1.trans mv.fz) (S1.called mv (fun _ z => nomatch z)) rk
      | exc e => exact fun cls od H' mv ea => k1 cls od H' (S1.mv.trans mv (fun _ z => nomatch z)) ea
theorem ve_call {cl : Cl} (F : FnOk X.prog X.w X.K X.mg X.base CX k f fd ps (spV (zx X) cl np [] false mf)) (hr : Room k X.A) (hg : Gl X x) (hm : X.mg x = some (.ref f)) (hk : PySem.W.keepIn X.K (.ref f) = true) (hb : Binds X.K fd ps []) (hx : Passes CX X G.W) (hl : ∀ ds r, mf ds = some r → ds.length = np)
    (ha : VA X G (e :: es) fs) (hcl : G.cl = cl := by rfl) (hZ : G.Z = zx X := by rfl) (hdb : (x == ("__debug__" : Str)) = false := by decide) (he : starEach (e :: es) X.env = (false, eval e X.env) :: starEach es X.env := by rfl) (hpl : (backTo pos (starEach es X.env)).any (·.1) = false := by rfl) :
    VE X G (.Call (.Name x p) (e :: es) [] pos) (vCall mf fs) := pe_imp (pe_call F hr hg hm hk hb .nil hx ha hdb he hpl) (tcallE hcl hZ hl)
/-! ### a call that writes one own name, the q-th argument -/
structure ArgQ (Z : Zx) (H : Hp) (σ : St) (q j : Nat) (vs : List V) (ds : List D) : Prop where
  ex : ∃ vp vq dp dq v, vs = vp ++ v :: vq ∧ ds = dp ++ dq ∧ vp.length = q ∧ ShAll Z H vp dp ∧ ShAll Z H vq dq ∧ σ[j]? = some (some v)
def tvQ (G : Gh) (q j : Nat) (f : M (List D)) : TA := fun σ H Q => ∃ ρ, Stt G H σ ρ ∧ Kont G (f ρ) fun ds ρ' => ∀ vs H', Fz H H' → Stt G H' σ ρ' → ArgQ G.Z H' σ q j vs ds → Q vs H'
abbrev VQ (X : Cx) (G : Gh) (q j : Nat) (es : List Expr) (f : M (List D)) : Prop := PA X es (tvQ G q j f)
def vHere (j : Nat) (f : M (List D)) : M (List D) := fun ρ => if (ρ[j]?.join).isSome then f ρ else none
theorem vq_here (j : Nat) {y : Str} {py : Pos} (hr : VA X G es fs) (hN : X.N[j]? = some y := by rfl) (hv : Vis X.env.scope y := by first | exact Or.inl rfl | exact Or.inr (Or.inl rfl) | exact Or.inr (Or.inr rfl)) (hd : (y == ("__debug__" : Str)) = false := by decide) (hcd : (y == ("__classdict__" : Str)) = false := by decide)
    (hs : starEach (.Name y py :: es) X.env = (false, eval (.Name y py) X.env) :: starEach es X.env := by rfl) : VQ X G 0 j (.Name y py :: es) (vHere j fs) := ⟨fun pos pins s σ H Q I ⟨ρ, S, k⟩ => (pa_cons (pe_var hN hv hd hcd) hr hs).run pos pins s σ H Q I (by
  unfold vHere at k
  split at k
  · rename_i hj
    cases hr : ρ[j]? with
    | none => rw [hr] at hj; cases hj
    | some r =>
      cases r with
      | none => rw [hr] at hj; cases hj
      | some s0 =>
        obtain ⟨v, hv, _⟩ := S.val j s0 hr
        exact ⟨v, hv, ρ, S, k.mono fun ds ρ2 k2 vs H2 fz2 S2 s2 => k2 _ H2 fz2 S2 ⟨[], vs, [], ds, v, rfl, rfl, rfl, .nil, s2, hv⟩⟩
  · exact k.elim)⟩
theorem vq_cons {q j : Nat} {fa : M D} (ha : VE X G e fa) (hr : VQ X G q j es fs) (hs : starEach (e :: es) X.env = (false, eval e X.env) :: starEach es X.env := by rfl) : VQ X G (q + 1) j (e :: es) (vCons fa fs) := ⟨fun pos pins s σ H Q I ⟨ρ, S, k⟩ => (pa_cons ha hr hs).run pos pins s σ H Q I
  ⟨ρ, S, k.bnd.mono fun x ρ1 k1 v H1 fz1 S1 s1 => ⟨ρ1, S1, k1.bnd.mono fun xs ρ2 k2 vs H2 fz2 S2 r2 => k2 _ H2 (fz1.trans fz2) S2 (by
    obtain ⟨vp, vq, dp, dq, w, rfl, rfl, hl, sp, sq, hw⟩ := r2.ex
    exact ⟨v :: vp, vq, x :: dp, dq, w, rfl, rfl, by simp [hl], .cons (s1.up fz2) sp, sq, hw⟩)⟩⟩⟩
def vCallQ (mf : List D → Option Rf) (q j : Nat) (fs : M (List D)) : M D := bnd fs fun ds => bnd (getO j) fun dj => fun ρ => match mf (ds.take q ++ dj :: ds.drop q) with
  | some (.ret d [o]) => if isC o then some (.ok d (ρ.set j (some ⟨true, o⟩))) else none
  | some (.exc e) => some (.ex e)
  | _ => none
theorem Stt.calledQ {H H' : Hp} {σ : St} {ρ : Ev} {j : Nat} {d d' : D} {p : Addr} (h : Stt G H σ ρ) (hj : ρ[j]? = some (some ⟨true, d⟩)) (hv : σ[j]? = some (some (.ref p))) (m : Mv G.cl.T [p] H H') (ow : Ow G.Z H' (.ref p) d') : Stt G H' σ (ρ.set j (some ⟨true, d'⟩)) := by
  have h3 : Ow G.Z H (.ref p) d ∧ ∀ q, V.ref p = .ref q → Nn G.H0 q ∨ (j ∈ G.fx ∧ q ∈ G.S) := by
    obtain ⟨v, h1, h2⟩ := h.val j _ hj
    rw [hv] at h1
    cases h1
    exact h2
  have keep : ∀ q, Mut (H q) → q ≠ p → H' q = H q := fun q hm hq => by
    cases e : H q with
    | none => rw [e] at hm; exact hm.elim
    | some u =>
      exact m.old q u e (fun z => hq (by simpa using z)) (fun ps z => by rw [e, z] at hm; exact hm.elim)
  have aux : ∀ (k : Nat) (t : Sl), (ρ.set j (some ⟨true, d'⟩))[k]? = some (some t) → ∃ t', ρ[k]? = some (some t') ∧ (t.o = true → t'.o = true) := fun k t hk => by
    rcases set_get hk with ⟨rfl, z⟩ | ⟨a1, a2⟩
    · cases z; exact ⟨_, hj, fun _ => rfl⟩
    · exact ⟨t, a2, id⟩
  refine ⟨by simpa using h.len, fun i t ht => ?_, fun i k t1 t2 q e1 e2 e3 e4 e5 e6 => ?_, h.mv.trans m (fun q hq => ?_), h.fix, fun q hq => ?_⟩
  · rcases set_get ht with ⟨rfl, z⟩ | ⟨a1, a2⟩
    · cases z
      exact ⟨_, hv, ow, h3.2⟩
    · obtain ⟨w, b1, b2⟩ := h.val i t a2
      refine ⟨w, b1, b2.keep m.fz fun q hq hoq => keep q ?_ fun z => ?_⟩
      · unfold SlOk at b2
        rw [hoq, hq] at b2
        exact b2.1.mut
      · subst z hq
        exact a1 (h.dis i j t _ q a2 hj hoq rfl b1 hv)
  · obtain ⟨t1', c1, c2⟩ := aux i t1 e1
    obtain ⟨t2', d1, d2⟩ := aux k t2 e2
    exact h.dis i k t1' t2' q c1 d1 (c2 e3) (d2 e4) e5 e6
  · have : q = p := by simpa using hq
    subst this
    exact ((h3.2 q rfl).imp id And.right).symm
  · obtain ⟨c1, c2, c3⟩ := h.tmp q hq
    refine ⟨?_, c2, fun i t hi ht => ?_⟩
    · rw [keep q.1 (by rw [c1]; exact c2.1) fun z => c3 j _ hj rfl (by rw [z]; exact hv)]
      exact c1
    · obtain ⟨t', a1, a2⟩ := aux i t hi
      exact c3 i t' a1 (a2 ht)
theorem tcallQ {cl : Cl} {q j : Nat} (hcl : G.cl = cl) (hZ : G.Z = zx X) (hl : ∀ ds r, mf ds = some r → ds.length = np) : ∀ σ H Q, tvE G (vCallQ mf q j fs) σ H Q → tCall (spV (zx X) cl np [q] false mf) [] G.W (tvQ G q j fs) σ H Q := by
  obtain ⟨Z, cl', H0, S0, W, fx, fv, tp⟩ := G
  cases hZ
  cases hcl
  rintro σ H Q ⟨ρ, S, k⟩
  refine ⟨ρ, S, k.bnd.mono fun ds ρ1 k1 vs H1 fz1 S1 aq => ?_⟩
  show spV _ _ _ _ _ _ (vs ++ []) H1 Q _
  rw [List.append_nil]
  obtain ⟨dj, hj, k2⟩ := k1.getO
  obtain ⟨p, hp, ow⟩ := S1.own hj
  obtain ⟨vp, vq, dp, dq, v, rfl, rfl, hlq, sp, sq, hv⟩ := aq.ex
  rw [hp] at hv
  cases hv
  have hdp : dp.length = q := by rw [← sp.length]; exact hlq
  have et : (dp ++ dq).take q ++ dj :: (dp ++ dq).drop q = dp ++ dj :: dq := by
    rw [← hdp]; simp
  rw [et] at k2
  have hq : (vp ++ V.ref p :: vq)[q]? = some (.ref p) := by rw [List.getElem?_append_right (by omega)]; simp [hlq]
  have hio : ioA [q] (vp ++ V.ref p :: vq) = [p] := by simp [ioA, hq, refOf]
  have len : (vp ++ V.ref p :: vq).length = (dp ++ dj :: dq).length := by simp [sp.length, sq.length]
  have ao : ArgOk (zx X) [q] H1 (vp ++ V.ref p :: vq) (dp ++ dj :: dq) := by
    refine ⟨len, fun i w d h1 h2 => ?_, fun i j' r hi hj' _ _ => by simp at hi hj'; omega⟩
    by_cases hi : i = q
    · subst hi
      rw [if_pos (by simp)]
      rw [hq] at h1
      cases h1
      rw [List.getElem?_append_right (by omega)] at h2
      have : i - dp.length = 0 := by omega
      rw [this] at h2
      simp at h2
      subst h2
      exact ow
    · rw [if_neg (by simpa using hi)]
      by_cases hlt : i < q
      · rw [List.getElem?_append_left (by omega)] at h1 h2
        obtain ⟨d', e', s'⟩ := sp.get' h1
        rw [h2] at e'
        cases e'
        exact s'
      · rw [List.getElem?_append_right (by omega)] at h1 h2
        rw [hlq] at h1
        rw [hdp] at h2
        obtain ⟨m, hm⟩ : ∃ m, i - q = m + 1 := ⟨i - q - 1, by omega⟩
        rw [hm] at h1 h2
        simp at h1 h2
        obtain ⟨d', e', s'⟩ := sq.get' h1
        rw [h2] at e'
        cases e'
        exact s'
  refine ⟨?_, S1.mv.tb.2, _, ao, ?_⟩
  · cases hm : mf (dp ++ dj :: dq) with
    | none => rw [hm] at k2; exact k2.elim
    | some r => rw [len]; exact hl _ r hm
  · cases hm : mf (dp ++ dj :: dq) with
    | none => rw [hm] at k2; exact k2.elim
    | some r =>
      rw [hm] at k2
      cases r with
      | exc e => exact fun cls od H' mv ea => k2 cls od H' (S1.mv.trans mv (fun a ha => by
          rw [hio] at ha
          obtain rfl : a = p := by simpa using ha
          obtain ⟨v, h1, h2⟩ := S1.val j _ hj
          rw [hp] at h1
          cases h1
          exact ((And.right h2 a rfl).imp id And.right).symm)) ea
      | ret d outs =>
        cases outs with
        | nil => exact k2.elim
        | cons o r =>
          cases r with
          | cons _ _ => exact k2.elim
          | nil =>
            intro v H' mv oo rk
            rw [hio] at mv
            obtain ⟨w, o', e1, e2, ow'⟩ := oo 0 q rfl
            rw [hq] at e1
            cases e1
            simp at e2
            subst e2
            dsimp only at k2
            split at k2
            · exact k2 v H' (fz1.trans mv.fz) (S1.calledQ hj hp mv ow') rk
            · exact k2.elim
theorem ve_callQ {cl : Cl} {q j : Nat} (F : FnOk X.prog X.w X.K X.mg X.base CX k f fd ps (spV (zx X) cl np [q] false mf)) (hr : Room k X.A) (hg : Gl X x) (hm : X.mg x = some (.ref f)) (hk : PySem.W.keepIn X.K (.ref f) = true) (hb : Binds X.K fd ps []) (hx : Passes CX X G.W) (hl : ∀ ds r, mf ds = some r → ds.length = np)
    (ha : VQ X G q j (e :: es) fs) (hcl : G.cl = cl := by rfl) (hZ : G.Z = zx X := by rfl) (hdb : (x == ("__debug__" : Str)) = false := by decide) (he : starEach (e :: es) X.env = (false, eval e X.env) :: starEach es X.env := by rfl) (hpl : (backTo pos (starEach es X.env)).any (·.1) = false := by rfl) :
    VE X G (.Call (.Name x p) (e :: es) [] pos) (vCallQ mf q j fs) := pe_imp (pe_call F hr hg hm hk hb .nil hx ha hdb he hpl) (tcallQ hcl hZ hl)
end
end Cv
end
section
/-! The V layer: what was lacking. -/
namespace Cv
open PySem L2
section
variable {X : Cx} {G : Gh} {rm : Bool} {a b : Expr} {rest : List Expr} {fa fb : M D} {pos : Pos}
theorem ve_one {op : BoolOp} (h : VE X G a fa) : VE X G (.BoolOp op [a] pos) fa := pe_one h
theorem ve_and (ha : VE X G a fa) (hb : VE X G (.BoolOp .And (b :: rest) pos) fb) : VE X G (.BoolOp .And (a :: b :: rest) pos) (vAnd fa fb) := pe_imp (pe_and ha hb) (by
  rintro σ H Q ⟨ρ, S, k⟩
  refine ⟨ρ, S, k.bnd.mono fun x ρ1 k1 v H1 fz1 S1 s1 => ?_⟩
  cases x with
  | bool t =>
    cases s1
    refine ⟨t, rfl, ?_⟩
    cases t with
    | true => rw [if_pos rfl]; exact tvE_kont S1 fz1 k1
    | false => rw [if_neg (by decide)]; exact k1 _ H1 fz1 S1 (.bl false)
  | _ => exact k1.elim)
theorem ve_or (ha : VE X G a fa) (hb : VE X G (.BoolOp .Or (b :: rest) pos) fb) : VE X G (.BoolOp .Or (a :: b :: rest) pos) (vOr fa fb) := pe_imp (pe_or ha hb) (by
  rintro σ H Q ⟨ρ, S, k⟩
  refine ⟨ρ, S, k.bnd.mono fun x ρ1 k1 v H1 fz1 S1 s1 => ?_⟩
  cases x with
  | bool t =>
    cases s1
    refine ⟨t, rfl, ?_⟩
    cases t with
    | false => rw [if_neg (by decide)]; exact tvE_kont S1 fz1 k1
    | true => rw [if_pos rfl]; exact k1 _ H1 fz1 S1 (.bl true)
  | _ => exact k1.elim)
/-- nothing is let out -/
theorem passF {P : Program} {w : World} : Passes (L2.CX P w) X (fun _ _ _ => False) := fun _ _ _ _ _ _ _ h => by
  obtain ⟨_, _, _, _, _, _, _, _, _, _, _, _, z⟩ := h
  exact z.elim
def vRaise (c : String) : M Fl := fun _ => some (.ex ⟨c, []⟩)
theorem vs_raise {st : Stmt} {c : String} {C : Addr} (h : PS X st (fun _ _ H => G.W (.ref C) none H)) (hC : G.cl c = C) : VS X G rm st (vRaise c) := ps_imp h fun D σ H ⟨ρ, S, k⟩ => k (.ref C) none H S.mv ⟨by rw [hC], rfl⟩
/-- a chain as a test -/
theorem vt_chain {op op' : CmpOp} {c : Expr} {fc : M D} {p p' : D → D → Option D} (ho : OpV X (compareOp op) p) (ho' : OpV X (compareOp op') p') (ha : VE X G a fa) (hb : VE X G b fb) (hc : VB X G c fc) (hZ : G.Z = zx X := by rfl) (hm : lastMarks [op, op'] [b, c] = false := by rfl) :
    VT X G (.Compare a [op, op'] [b, c] pos) (vT (vChain p p' fa fb fc)) := pt_imp (pt_chain ho ho' ha hb hc hm) (by
  obtain ⟨Z, cl, H0, S0, W, fx, fv, tp⟩ := G
  cases hZ
  rintro σ H Q ⟨ρ, S, k⟩
  replace k := k.bnd
  refine ⟨ρ, S, k.bnd.mono fun x ρ1 k1 v H1 fz1 S1 s1 => ⟨ρ1, S1, k1.bnd.mono fun y ρ2 k2 w H2 fz2 S2 r2 => ?_⟩⟩
  obtain ⟨d, e, q⟩ := k2.bnd.lft
  refine ⟨x, y, d, .sh (s1.up fz2), .sh r2, e, fun z H3 sm nr => ?_⟩
  cases d with
  | bool t =>
    have : z = .bl t := by
      have h : Sh (zx X) H3 z (.bool t) := nr
      cases h
      rfl
    subst this
    refine ⟨t, rfl, ?_⟩
    cases t with
    | true =>
      rw [if_pos rfl]
      refine ⟨ρ2, S2.same sm, (Kont.bnd q).mono fun y' ρ3 k3 w' H4 fz4 S4 r4 => ?_⟩
      obtain ⟨d', e', q'⟩ := k3.lft
      refine ⟨y, y', d', .sh ((r2.up (Same.fz sm)).up fz4), r4, e', fun z' H5 sm' nr' => ?_⟩
      cases d' with
      | bool t' =>
        have h : Sh (zx X) H5 z' (.bool t') := nr'
        cases h
        exact ⟨t', rfl, q' H5 (fz1.trans (fz2.trans ((Same.fz sm).trans (fz4.trans (Same.fz sm'))))) (S4.same sm')⟩
      | _ => exact q'.elim
    | false =>
      rw [if_neg (by decide)]
      exact ⟨false, rfl, q H3 (fz1.trans (fz2.trans (Same.fz sm))) (S2.same sm)⟩
  | _ => exact q.elim)
/-! sorted -/
def allAlike (ds : List D) : Bool := ds.all fun x => ds.all fun y => PySem.W.alike x y
def isTup1 : D → Bool
  | .tuple (_ :: _) => true
  | _ => false
def noTup : D → Bool
  | .tuple _ => false
  | .none => false
  | _ => true
def sortOk (ds : List D) : Bool := allAlike ds && (ds.all isTup1 || ds.all noTup) && decide (PyData.depthAll ds ≤ 40) && decide (ds.length ≤ 100000)
def leDD (p q : D) : Bool := !PySem.W.dataLt q p
def dSorted : D → Option D
  | .list ds => if sortOk ds then some (.list (ds.mergeSort leDD)) else none
  | .dict kvs => if sortOk (kvs.map (·.1)) && kvs.all (fun p => isT p.1) then some (.list ((kvs.map (·.1)).mergeSort leDD)) else none
  | _ => none
theorem sortOk_is {ds : List D} (h : sortOk ds = true) : PySem.W.AllAlike ds ∧ PySem.W.Sortable ds ∧ PyData.depthAll ds ≤ 40 ∧ ds.length ≤ 100000 := by
  simp only [sortOk, Bool.and_eq_true, Bool.or_eq_true, decide_eq_true_eq] at h
  obtain ⟨⟨⟨h1, h2⟩, h3⟩, h4⟩ := h
  refine ⟨fun d hd d' hd' => ?_, ?_, h3, h4⟩
  · exact List.all_eq_true.1 (List.all_eq_true.1 h1 d hd) d' hd'
  · rcases h2 with h2 | h2
    · refine .inl fun d hd => ?_
      have := List.all_eq_true.1 h2 d hd
      unfold isTup1 at this
      split at this
      · exact ⟨_, _, rfl⟩
      · cases this
    · refine .inr fun d hd => ?_
      have := List.all_eq_true.1 h2 d hd
      unfold noTup at this
      split at this
      · cases this
      · cases this
      · rename_i n1 n2
        exact ⟨n2, fun xs => n1 xs⟩
theorem depth_mem : ∀ {ds : List D} {d : D}, d ∈ ds → d.depth ≤ PyData.depthAll ds
  | x :: r, d, h => by
    rw [PyData.depthAll]
    rcases List.mem_cons.1 h with rfl | h
    · exact Nat.le_max_left _ _
    · exact Nat.le_trans (depth_mem h) (Nat.le_max_right _ _)
theorem zip_sh {Z : Zx} {H : Hp} : ∀ {vs : List V} {ds : List D}, ShAll Z H vs ds → vs = (vs.zip ds).map (·.1) ∧ ds = (vs.zip ds).map (·.2) ∧ ∀ b ∈ vs.zip ds, Sh Z H b.1 b.2
  | [], _, h => by cases h; exact ⟨rfl, rfl, fun b hb => nomatch hb⟩
  | v :: vs, _, h => by
    cases h with
    | cons h1 h2 =>
      obtain ⟨a, b, c⟩ := zip_sh h2
      refine ⟨by rw [List.zip_cons_cons, List.map_cons, ← a], by rw [List.zip_cons_cons, List.map_cons, ← b], fun p hp => ?_⟩
      rw [List.zip_cons_cons] at hp
      rcases List.mem_cons.1 hp with rfl | hp
      · exact h1
      · exact c p hp
theorem sh_pairs {Z : Zx} {H : Hp} : ∀ {bs : List (V × D)}, (∀ b ∈ bs, Sh Z H b.1 b.2) → ShAll Z H (bs.map (·.1)) (bs.map (·.2))
  | [], _ => .nil
  | b :: bs, h => .cons (h b (by simp)) (sh_pairs fun c hc => h c (by simp [hc]))
theorem each_readsV {pins : List (Addr × Obj)} {σ : L2.St} {H : Hp} {s : Shared} (I : Inv X pins σ H s) {its : List Value} {bs : List (V × D)} (e : PySem.W.EachIs (fun v b => RelV b.1 v) its bs) (hd : ∀ b ∈ bs, Sh (zx X) H b.1 b.2) : PySem.W.EachIs (fun v b => ∃ as, Reads s.heap v b.2 as) its bs := by
  induction e with
  | nil => exact .nil
  | cons h t ih => exact .cons (Sh.reads I _ _ _ (hd _ (by simp)) h) (ih fun b hb => hd b (by simp [hb]))
theorem sort_snd (bs : List (V × D)) : (bs.mergeSort leD).map (·.2) = (bs.map (·.2)).mergeSort leDD := List.map_mergeSort fun _ _ _ _ => rfl
theorem keysN {Z : Zx} {H : Hp} : ∀ {kvs : List (D × D)} {ws : List (NestedKey × Addr × V)} {ks : List (NestedKey × Addr × Value)}, ShN Z H ws kvs → Paired RelN ws ks → ShAll Z H (ks.map fun x => V.ref x.2.1) (kvs.map (·.1))
  | [], _, _, sn, pr => by cases sn; cases pr; exact .nil
  | p :: kvs, _, _, sn, pr => by
    cases sn with
    | cons c1 c2 c3 c4 c5 =>
      cases pr with
      | cons p1 p2 =>
        refine .cons ?_ (keysN c5 p2)
        have e := p1.2.1
        simp only at e
        show Sh Z H (V.ref _) _
        rw [← e]
        exact c1
theorem valsN : ∀ ks : List (NestedKey × Addr × Value), Vals (ks.map fun x => V.ref x.2.1) (ks.map fun x => Value.ref x.2.1)
  | [] => .nil
  | _ :: ks => .cons rfl (valsN ks)
open PySem.Spec PyProof.Rows in
theorem c_sorted (hcalm : X.calm = true) (hu : X.A.units + 64 < cLine) : CallR X (.builtin "sorted") (rC1 (zx X) dSorted) := by
  intro pins s σ H xs us Q I r ⟨x, d, z, e, hx, ed, q⟩
  subst e
  cases d with
  | list ds =>
    simp only [dSorted] at ed
    split at ed
    · rename_i ok
      cases ed
      obtain ⟨h1, h2, h3, h4⟩ := sortOk_is ok
      obtain ⟨a, vs, rfl, hr, sv⟩ := hx.lst
      obtain ⟨e1, e2, e3⟩ := zip_sh sv
      obtain ⟨its, rv, hl, hz⟩ := I.list hr.sq
      rw [Vals.ref1 r]
      have e := each_vals rv e1
      have hlen : (vs.zip ds).length = vs.length := by rw [← List.length_map (f := (·.1)), ← e1]
      have el : (vs.zip ds).map (fun b : V × PyData => b.2) = ds := e2.symm
      refine PySem.W.sorted_data (R := fun v b => RelV b.1 v) (enc := fun b : V × PyData => b.2) hl.isList e (each_readsV I e e3) (by rw [el]; exact h1) (by rw [el]; exact h2) (by omega) (fun b hb => by have := depth_mem (ds := ds) (d := b.2) (by rw [e2]; exact List.mem_map.2 ⟨b, hb, rfl⟩); omega) fun out ho h1 => ?_
      rw [leD_eq] at h1
      obtain ⟨ep, he'⟩ := PyProof.Rows.sortedAll_at s.heap its out.toArray
      have hlen2 : (((vs.zip ds).mergeSort leD).map (·.1)).length ≤ sizeLine := by rw [List.length_map, List.length_mergeSort]; omega
      have hf : H (s.heap.objs.size + 1) = none := I.hok.fresh (Nat.le_succ _)
      refine ⟨.ref _, upd H (s.heap.objs.size + 1) (.lst (((vs.zip ds).mergeSort leD).map (·.1))), I.laid (t' := s.toks) (fun _ _ => PyProof.Rows.sortedAll_old) (Nat.le_succ _) ⟨hlen2, out, ep, vals_each h1, he'⟩, rfl, q _ _ (sm_upd hf) (nr_lst hf ?_)⟩
      have ss := sh_pairs (Z := zx X) (H := H) (bs := (vs.zip ds).mergeSort leD) fun b hb => e3 b (List.mem_mergeSort.1 hb)
      rw [sort_snd, ← e2] at ss
      exact ss
    · cases ed
  | dict kvs =>
    simp only [dSorted] at ed
    split at ed
    · rename_i ok
      cases ed
      rw [Bool.and_eq_true] at ok
      obtain ⟨ok, isTs⟩ := ok
      obtain ⟨h1, h2, h3, h4⟩ := sortOk_is ok
      obtain ⟨a, rfl, _⟩ := hx.dic
      obtain ⟨u, eu, rx⟩ := vals1 r
      subst eu
      cases rx
      obtain ⟨hs, ws, ks, sn, pr, hz, ⟨o, es, ep, ho, hx', hdt, he, _, _⟩, _⟩ := tupDict I hx isTs
      have l1 : es.size = ks.length := by have := congrArg List.length he; simpa using this
      have l2 : ws.length = ks.length := Paired.length pr
      have l3 := sn.length
      have keys : ShAll (zx X) H (ks.map fun x => V.ref x.2.1) (kvs.map (·.1)) := keysN sn pr
      obtain ⟨e1, e2, e3⟩ := zip_sh keys
      refine Calls.call_function_entry PyProof.Rows.kind_sorted PyProof.Rows.plain_sorted PyProof.Rows.entry_sorted (PyProof.Rows.args_sorted1 _) ?_
      unfold Builtin.«sorted»
      refine wpAny_bind (m := checkCount "sorted" 1 1 _) (wpAny_pure ?_)
      refine wpAny_bind (PySem.W.kdu_collect (A := X.A.in1) (kdl_raw hs hx' hdt) (I.ok.hd hcalm) ho (by omega) fun h' tk acc hk it => ?_)
      have ea : acc.toList = ks.map fun x => Value.ref x.2.1 := by
        have hl : acc.toList.length = ks.length := by rw [Array.length_toList, it.1]; exact l1
        apply List.ext_getElem?
        intro j
        rw [List.getElem?_map]
        cases hj : acc.toList[j]? with
        | none => rw [List.getElem?_eq_none (by have := List.getElem?_eq_none_iff.mp hj; omega)]; rfl
        | some v =>
          obtain ⟨en, hen, hv⟩ := it.2 j v (by rw [← Array.getElem?_toList]; exact hj)
          have qe := entry_at he j
          rw [hen] at qe
          cases hb : ks[j]? with
          | none => rw [hb] at qe; exact nomatch (show some en = none from qe)
          | some b =>
            rw [hb] at qe
            rw [hv, Option.some.inj (show some en = some _ from qe)]
            rfl
      have rv : Vals (ks.map fun x => V.ref x.2.1) acc.toList := by rw [ea]; exact valsN ks
      have e := each_vals rv e1
      have I1 : Inv X pins σ H { s with heap := h', toks := tk } := I.kept hk
      have hal : acc.toList.length = ks.length := by rw [ea, List.length_map]
      have hbl : ((ks.map fun x => V.ref x.2.1).zip (kvs.map (·.1))).length = ks.length := by rw [← List.length_map (f := (·.1)), ← e1, List.length_map]
      have el : ((ks.map fun x => V.ref x.2.1).zip (kvs.map (·.1))).map (fun b : V × PyData => b.2) = kvs.map (·.1) := e2.symm
      refine wpAny_bind (wpAny_newList ?_ (by omega))
      have hoL : (h'.push (seqObj "list" acc.toList.toArray 0)).get? h'.objs.size = some (seqObj "list" acc.toList.toArray 0) := Heap.get?_push_size _ rfl
      show wpAny _ _ _ _ _ { s with heap := h'.push (seqObj "list" acc.toList.toArray 0), toks := tk }
      have er := (each_readsV I1 e e3).mono fun v b ⟨as, rr⟩ => (show ∃ as, Reads (h'.push (seqObj "list" acc.toList.toArray 0)) v b.2 as ∧ h'.objs.size ∉ as from ⟨as, PyProof.Rows.Reads.keeps (fun _ _ => Heap.get?_push_of_some _) rr, fun hm => Nat.lt_irrefl _ (reads_lt rr _ hm)⟩)
      refine wpAny_bind (wpAny_holding (PySem.W.list_sort_data (s := { s with heap := h'.push (seqObj "list" acc.toList.toArray 0), toks := tk }) (R := fun v b => RelV b.1 v) (enc := fun b : V × PyData => b.2) hoL e er (by rw [el]; exact h1) (by rw [el]; exact h2) (by omega) (fun b hb => by have := depth_mem (ds := kvs.map (·.1)) (d := b.2) (by rw [e2]; exact List.mem_map.2 ⟨b, hb, rfl⟩); show X.A.units + 1 + 1 + b.2.depth < cLine; omega) fun out ho' h1' => ?_))
      rw [leD_eq] at h1'
      obtain ⟨e', he'⟩ := PyProof.Rows.sortedHeap_at (vs := acc.toList) (out := out.toArray) hoL
      have hlen : ((((ks.map fun x => V.ref x.2.1).zip (kvs.map (·.1))).mergeSort leD).map (·.1)).length ≤ sizeLine := by
        rw [List.length_map, List.length_mergeSort, hbl]
        exact hz
      have hf : H h'.objs.size = none := I1.hok.fresh (Nat.le_refl _)
      refine wpAny_pure ⟨_, rfl, .ref h'.objs.size, upd H h'.objs.size (.lst _), I1.laid (t' := tk) (fun b u e => ?_) (Nat.le_refl _) (show ObjOk X.prog X.w _ _ _ (.lst _) from ⟨hlen, out, e', vals_each h1', he'⟩), rfl, q _ _ (sm_upd hf) (nr_lst hf ?_)⟩
      · have hb : b < h'.objs.size := Heap.lt_size e
        rw [PyProof.Rows.sortedHeap_old (Nat.ne_of_lt hb) (by rw [size_push']; exact Nat.lt_succ_of_lt hb)]
        exact Heap.get?_push_of_some _ e
      · have ss := sh_pairs (Z := zx X) (H := H) (bs := ((ks.map fun x => V.ref x.2.1).zip (kvs.map (·.1))).mergeSort leD) fun b hb => e3 b (List.mem_mergeSort.1 hb)
        rw [sort_snd, ← e2] at ss
        exact ss
    · cases ed
  | _ => cases ed
end
end Cv
end
section
/-! The V layer: more built-ins. -/
namespace Cv
open PySem L2
open PySem.Spec PyProof.Rows
section
variable {X : Cx} {G : Gh} {rm : Bool} {a b : Expr} {fa fb : M D} {pos : Pos}
theorem c_divmod : CallR X (.builtin "divmod") (rCN (zx X) dDivmod) := by
  intro pins s σ H xs us Q I r ⟨ds, z, hx, ed, q⟩
  unfold dDivmod at ed
  split at ed
  · split at ed
    · rename_i i j hj
      cases ed
      cases sh_int2 hx
      obtain ⟨u, w', rfl, ⟨t, rfl⟩, ⟨t', rfl⟩⟩ := vals2 r
      have pl : Vals [V.int (i / j), .int (i % j)] [Value.int (i / j) s.toks, .int (i % j) (s.toks + 1)] := .cons ⟨_, rfl⟩ (.cons ⟨_, rfl⟩ .nil)
      refine divmod_int (by omega) ?_ (.inl (PyProof.noPylong_of_log2 hj.2))
      rw [Int.fdiv_eq_ediv_of_nonneg i (by omega), Int.fmod_eq_emod_of_nonneg i (by omega)]
      exact ⟨.ref s.heap.objs.size, _, inv_tnew I pl (sz1000 (by simp)), rfl, q _ _ (sm_upd I.fresh) (nr_tup rfl I.fresh (.cons (.int _) (.cons (.int _) .nil)))⟩
    · cases ed
  · cases ed
/-- least, greatest of a list: one of its items -/
def rC1S (Z : Zx) (p : D → Option D) : List V → Hp → VK → Prop := fun xs H Q => ∃ x d r, xs = [x] ∧ Rp Z H x d ∧ p d = some r ∧ ∀ v, Sh Z H v r → Q v H
variable {x : Str} {id T : String} {pp : Pos}
theorem ve_b1S {p : D → Option D} (hc : CallR X (.builtin id) (rC1S (zx X) p)) (hg : Gl X x) (hm : X.mg x = none) (hv : bootBuiltins x = some (.builtin id)) (ha : VB X G a fa) (hZ : G.Z = zx X := by rfl) (hn : x ≠ "__name__" := by decide) (hdb : (x == ("__debug__" : Str)) = false := by decide)
    (hs : starEach [a] X.env = (false, eval a X.env) :: starEach [] X.env := by rfl) : VE X G (.Call (.Name x pp) [a] [] pos) (vC1 p fa) := pe_imp (pe_callB hc hg hm hv (pa_cons ha pa_nil hs) hn hdb hs rfl) (by
  obtain ⟨Z, cl, H0, S0, W, fx, fv, tp⟩ := G
  cases hZ
  rintro σ H Q ⟨ρ, S, k⟩
  refine ⟨ρ, S, k.bnd.mono fun x ρ1 k1 v H1 fz1 S1 r1 => ?_⟩
  obtain ⟨d, e, q⟩ := k1.lft
  exact ⟨v, x, d, rfl, r1, e, fun z sz => q z H1 fz1 S1 sz⟩)
def minOk (ds : List D) : Bool := allAlike ds && ds.all (fun d => !isN d) && PyData.plainAll ds && decide (PyData.depthAll ds ≤ 40)
def dMinD : D → Option D
  | .list (d :: ds) => if minOk (d :: ds) then some (PySem.W.minD d ds) else none
  | _ => none
theorem minOk_is {ds : List D} (h : minOk ds = true) : PySem.W.AlikeAll ds ∧ PyData.plainAll ds = true ∧ PyData.depthAll ds ≤ 40 := by
  simp only [minOk, Bool.and_eq_true, decide_eq_true_eq] at h
  obtain ⟨⟨⟨h1, h2⟩, h3⟩, h4⟩ := h
  refine ⟨⟨fun d hd d' hd' => List.all_eq_true.1 (List.all_eq_true.1 h1 d hd) d' hd', fun d hd z => ?_⟩, h3, h4⟩
  have := List.all_eq_true.1 h2 d hd
  rw [z] at this
  cases this
theorem c_minD (hc : X.calm = true) (hu : X.A.units + 64 < cLine) : CallR X (.builtin "min") (rC1S (zx X) dMinD) := by
  intro pins s σ H xs us Q I r ⟨x, d, z, e, hx, ed, q⟩
  subst e
  unfold dMinD at ed
  split at ed
  · split at ed
    · rename_i d ds ok
      cases ed
      obtain ⟨hA, hp, hde⟩ := minOk_is ok
      obtain ⟨l, vs, rfl, hr, sv⟩ := hx.lst
      obtain ⟨its, rv, hl, hz⟩ := I.list hr.sq
      rw [Vals.ref1 r]
      obtain ⟨as, ra⟩ := Sh.readsAll I _ _ _ sv rv
      refine PySem.W.min_list_data (I.ok.hd hc) hl.isList (by simpa using ra) hA (by omega) fun i v h' tk bs hv rd hk => ?_
      have hv' : its[i]? = some v := by simpa using hv
      obtain ⟨y, hy, ry⟩ := vals_at rv i v hv'
      obtain ⟨d', hd', sy⟩ := sv.get' hy
      have e1 := PySem.SeqAt.readOf_plain (plain_mem hp (minD_mem d ds)) rd
      have e2 := PySem.SeqAt.readsAll_map_plain _ _ _ hp (PyProof.Rows.ReadsAll.keeps hk ra)
      have e3 : (its.map (PySem.SeqAt.readOf h'))[i]? = some d' := by rw [e2]; exact hd'
      rw [List.getElem?_map, hv'] at e3
      have e4 : PySem.W.minD d ds = d' := e1.symm.trans (Option.some.inj e3)
      rw [e4] at q
      exact ⟨y, H, I.kept hk, ry, q y sy⟩
    · cases ed
  · cases ed
def dMaxD : D → Option D
  | .list (d :: ds) => if minOk (d :: ds) then some (PySem.W.maxD d ds) else none
  | _ => none
theorem maxD_mem (d : D) : ∀ ds : List D, PySem.W.maxD d ds ∈ d :: ds := by
  intro ds
  unfold PySem.W.maxD
  induction ds generalizing d with
  | nil => simp
  | cons x r ih =>
    rw [List.foldl_cons]
    rcases List.mem_cons.1 (ih (if PySem.W.dataLt d x then x else d)) with h | h
    · rw [h]; split <;> simp
    · simp [h]
theorem c_maxD (hc : X.calm = true) (hu : X.A.units + 64 < cLine) : CallR X (.builtin "max") (rC1S (zx X) dMaxD) := by
  intro pins s σ H xs us Q I r ⟨x, d, z, e, hx, ed, q⟩
  subst e
  unfold dMaxD at ed
  split at ed
  · split at ed
    · rename_i d ds ok
      cases ed
      obtain ⟨hA, hp, hde⟩ := minOk_is ok
      obtain ⟨l, vs, rfl, hr, sv⟩ := hx.lst
      obtain ⟨its, rv, hl, hz⟩ := I.list hr.sq
      rw [Vals.ref1 r]
      obtain ⟨as, ra⟩ := Sh.readsAll I _ _ _ sv rv
      refine PySem.W.max_list_data (I.ok.hd hc) hl.isList (by simpa using ra) hA (by omega) fun i v h' tk bs hv rd hk => ?_
      have hv' : its[i]? = some v := by simpa using hv
      obtain ⟨y, hy, ry⟩ := vals_at rv i v hv'
      obtain ⟨d', hd', sy⟩ := sv.get' hy
      have e1 := PySem.SeqAt.readOf_plain (plain_mem hp (maxD_mem d ds)) rd
      have e2 := PySem.SeqAt.readsAll_map_plain _ _ _ hp (PyProof.Rows.ReadsAll.keeps hk ra)
      have e3 : (its.map (PySem.SeqAt.readOf h'))[i]? = some d' := by rw [e2]; exact hd'
      rw [List.getElem?_map, hv'] at e3
      have e4 : PySem.W.maxD d ds = d' := e1.symm.trans (Option.some.inj e3)
      rw [e4] at q
      exact ⟨y, H, I.kept hk, ry, q y sy⟩
    · cases ed
  · cases ed
end
end Cv
end
section
/-! The V layer: dict displays, dict(pairs), repr. -/
namespace Cv
open PySem L2
section
variable {X : Cx} {G : Gh} {rm : Bool} {a b : Expr} {fa fb : M D} {pos : Pos}
theorem Stt.innO {H : Hp} {σ : L2.St} {ρ : Ev} {A : Addr} {o : HO} (S : Stt G H σ ρ) (hA : H A = none) (m : Mut (some o)) (nt : NoTab (some o)) : Stt (G.inn ((A, o) :: G.tp)) (upd H A o) σ ρ := by
  have sm := sm_upd (o := o) hA
  have S1 := S.same sm
  have fr := S.none_new hA
  refine ⟨S1.len, S1.val, S1.dis, S1.mv, S1.fix, fun q hq => ?_⟩
  rcases List.mem_cons.1 hq with rfl | hq
  · exact ⟨upd_same, ⟨m, fr.1, nt⟩, fr.2.1⟩
  · exact S1.tmp q hq
theorem Stt.outO {H : Hp} {σ : L2.St} {ρ : Ev} {A : Addr} {o o' : HO} (S : Stt (G.inn ((A, o) :: G.tp)) H σ ρ) (hn : ∀ q ∈ G.tp, q.1 ≠ A) (no : ∀ ps, o' ≠ .tbl ps) : Stt G (upd H A o') σ ρ ∧ FreshO G σ ρ A ∧ Fz H (upd H A o') := by
  obtain ⟨h1, h2, h3⟩ := S.tmp (A, o) (by simp [Gh.inn])
  have m : Mut (H A) := by rw [h1]; exact h2.1
  have fz := fz_mut (o := o') m
  refine ⟨⟨S.len, fun j s h => ?_, S.dis, S.mv.upd (.inl h2.2.1) (fun o u z => by rw [z] at m; exact m) (by rw [h1]; exact h2.2.2) no, S.fix, fun q hq => ?_⟩, ⟨h2.2.1, h3, hn⟩, fz⟩
  · obtain ⟨v, c1, c2⟩ := S.val j s h
    refine ⟨v, c1, SlOk.keep (G := G) c2 fz fun p hp ho => upd_ne fun z => ?_⟩
    subst z hp
    exact h3 j s h ho c1
  · obtain ⟨c1, c2⟩ := S.tmp q (List.mem_cons_of_mem _ hq)
    exact ⟨by rw [upd_ne (hn q hq)]; exact c1, c2⟩
/-- {k: v} -/
def vDisp1 (fk fv : M D) : M D := fun ρ => match bnd fk (fun k => bnd fv fun v => ret (k, v)) ρ with
  | some (.ok r ρ') => (match keyOf r.1 with
    | some _ => some (.ok (.dict [(r.1, r.2)]) ρ')
    | none => none)
  | _ => none
theorem vo_disp1 (hk : ∀ tp, VE X (G.inn tp) a fa) (hv : ∀ tp, VE X (G.inn tp) b fb) : VO X G (.Dict [some a] [b] pos) (vDisp1 fa fb) :=
  pe_imp (pe_disp (trs := [(tLE G fa, tLE G fb)]) (pps_cons ⟨fun pins s σ H Q I ⟨tp, h⟩ => (hk tp).run pins s σ H Q I h⟩ ⟨fun pins s σ H Q I ⟨tp, h⟩ => (hv tp).run pins s σ H Q I h⟩ pps_nil) rfl rfl (by simp) (by simp)) (by
  rintro σ H Q ⟨ρ, S, k⟩ p hp
  unfold vDisp1 at k
  cases hr : bnd fa (fun k => bnd fb fun v => ret (k, v)) ρ with
  | none => rw [hr] at k; exact k.elim
  | some r =>
    cases r with
    | ex _ => rw [hr] at k; exact k.elim
    | ok r ρ' =>
      rw [hr] at k
      simp only at k
      split at k
      · rename_i kk hkk
        obtain ⟨dk, ρ1, e1, e2⟩ := bnd_ok hr
        obtain ⟨dv, ρ2, e3, e4⟩ := bnd_ok e2
        cases e4
        have sm := sm_upd (o := .dK []) hp
        have hn : ∀ q ∈ G.tp, q.1 ≠ p := (S.none_new hp).2.2
        refine ⟨_, ρ, S.innO hp trivial nt_dK, (Kont.ofEq e1).mono fun dk' ρ1' ⟨z1, z2⟩ x H1 fz1 S1 s1 => ⟨_, ρ1, z2 ▸ S1, (Kont.ofEq e3).mono fun dv' ρ2' ⟨z3, z4⟩ y H2 fz2 S2 s2 => ?_⟩⟩
        subst z1 z3 z4
        obtain ⟨h1, h2, h3⟩ := S2.tmp (p, .dK []) (by simp [Gh.inn])
        obtain ⟨rfl, en⟩ := keyOf_kV (.sh s1) hkk
        have ed : dk' = keyD kk := by
          cases dk' <;> simp [keyOf] at hkk <;> subst hkk <;> rfl
        refine ⟨h1, [(kk, y)], rfl, by simp, ?_⟩
        have em : mergeK [] [(kk, y)] = [(kk, y)] := rfl
        rw [em]
        obtain ⟨S3, fr, fz⟩ := S2.outO (o' := .dK [(kk, y)]) hn (fun _ z => nomatch z)
        refine k _ _ ((Same.fz sm).trans (fz1.trans (fz2.trans fz))) S3 (show ∃ q, _ from ⟨p, rfl, .dK upd_same ?_, fr⟩)
        rw [ed]
        exact .cons (s2.up fz) .nil
      · exact k.elim)
/-! repr -/
theorem reads_plain : ∀ {h : Heap} {v : Value} {d : D} {as : List Addr}, Reads h v d as → True := fun _ => trivial
def dRepr : D → Option D
  | .int i => if i.natAbs.log2 < 1920 then some (.str (toString i)) else none
  | .none => some (.str "None")
  | .bool b => some (.str (if b then "True" else "False"))
  | .str x => if (reprText x).length ≤ sizeLine then some (.str (reprText x)) else none
  | d => if d.showable && !d.hasDict && decide (d.depth ≤ 40) && decide (d.shown.length ≤ sizeLine) then some (.str d.shown) else none
def isBox : D → Bool
  | .list _ => true
  | .tuple _ => true
  | .dict _ => true
  | _ => false
theorem rp_ref {Z : Zx} {H : Hp} {v : V} {d : D} (h : Rp Z H v d) (hd : isBox d = true) : ∃ a, v = .ref a := by
  cases d with
  | list ds => obtain ⟨a, _, e, _⟩ := h.lst; exact ⟨a, e⟩
  | tuple ds => obtain ⟨a, _, e, _⟩ := h.tup; exact ⟨a, e⟩
  | dict ds => obtain ⟨a, e, _⟩ := h.dic; exact ⟨a, e⟩
  | _ => cases hd
theorem c_repr (hG : X.A.guards = some []) (hu : X.A.units + 64 < cLine) : CallR X (.builtin "repr") (rC1 (zx X) dRepr) := by
  intro pins s σ H xs us Q I r ⟨x, d, z, e, hx, ed, q⟩
  subst e
  obtain ⟨u, rfl, rx⟩ := vals1 r
  have box : isBox d = true → (if d.showable && !d.hasDict && decide (d.depth ≤ 40) && decide (d.shown.length ≤ sizeLine) then some (PyData.str d.shown) else none) = some z → wpAny (model X.prog X.w) X.A (call (.builtin "repr") [u]) (EP X pins σ Q) X.xe s := by
    intro hd ez
    split at ez
    · rename_i ok
      cases ez
      simp only [Bool.and_eq_true, decide_eq_true_eq] at ok
      obtain ⟨⟨⟨o1, o2⟩, o3⟩, o4⟩ := ok
      obtain ⟨a, rfl⟩ := rp_ref hx hd
      obtain ⟨as, ra⟩ := hx.reads I rx
      cases rx
      exact repr_of_reads' ra o1 (fun hh => by rw [hh] at o2; cases o2) hG (by omega) (fun _ _ h => h) (fun h' t tk hk => ⟨.str _, H, I.kept hk, ⟨_, rfl⟩, q _ _ (Same.refl H) (nr_sh rfl (.str _))⟩) o4
    · cases ez
  cases d with
  | int i =>
    simp only [dRepr] at ed
    split at ed
    · cases ed
      cases hx.int
      obtain ⟨t, rfl⟩ := rx
      exact PySem.P.repr_of_int (by assumption) ⟨.str _, H, I.tok _, ⟨_, rfl⟩, q _ _ (Same.refl H) (nr_sh rfl (.str _))⟩
    · cases ed
  | none =>
    cases ed
    cases hx.non
    cases rx
    exact PySem.P.repr_of_none ⟨.str _, H, I.tok _, ⟨_, rfl⟩, q _ _ (Same.refl H) (nr_sh rfl (.str _))⟩
  | bool b =>
    cases ed
    cases hx.bl
    cases rx
    refine PySem.P.repr_of_bool ⟨.str (if b then "True" else "False"), H, I.tok _, ⟨s.toks, ?_⟩, q _ _ (Same.refl H) (nr_sh rfl (.str _))⟩
    cases b <;> rfl
  | str x =>
    simp only [dRepr] at ed
    split at ed
    · cases ed
      cases hx.str
      obtain ⟨t, rfl⟩ := rx
      exact PySem.P.repr_of_str ⟨.str _, H, I.tok _, ⟨_, rfl⟩, q _ _ (Same.refl H) (nr_sh rfl (.str _))⟩ (by assumption)
    · cases ed
  | list ds => exact box rfl ed
  | tuple ds => exact box rfl ed
  | dict ds => exact box rfl ed
end
end Cv
end
section
/-! The V layer: dict(list of pairs). -/
namespace Cv
open PySem L2
open PySem.Spec PyProof.Rows
section
variable {X : Cx} {G : Gh}
def pairsOf : List D → Option (List (D × D))
  | [] => some []
  | .tuple [k, v] :: r => (pairsOf r).map ((k, v) :: ·)
  | _ => none
/-- the pairs put in one by one; keys all tuples, or all whole numbers and texts -/
def putAll (acc : List (D × D)) : List (D × D) → List (D × D)
  | [] => acc
  | p :: r => putAll (match nk p.1 with
    | some n => putD acc p.1 n p.2
    | none => acc) r
def tupKey (d : D) : Bool := isT d && (match nk d with
  | some k => decide (k.depth ≤ 8)
  | none => false)
def dDict : D → Option D
  | .list ds => (match pairsOf ds with
    | some ps => if ps.length ≤ 100000 && ps.all (fun p => tupKey p.1) then some (.dict (putAll [] ps)) else none
    | none => none)
  | _ => none
/-- the pairs as they stand -/
structure PairsAt (X : Cx) (H : Hp) (h : Heap) (vs : List V) (its : List Value) (ps : List (D × D)) (ts : List Addr) (kv : List (Value × Value)) (ws : List (NestedKey × Addr × V)) (xs : List (NestedKey × Addr × Value)) : Prop where
  l1 : its.length = ps.length
  l2 : kv.length = ps.length
  l3 : xs.length = ps.length
  l4 : ts.length = ps.length
  it : ∀ (j : Nat) (k v : Value), kv[j]? = some (k, v) → ∃ t, ts[j]? = some t ∧ its[j]? = some (.ref t) ∧ PairAt h t k v ∧ ∃ n b, xs[j]? = some (n, b, v) ∧ k = .ref b
  is : ∀ x ∈ xs, (nestedKind X.prog X.w).is h x.1 x.2.1
  pr : Paired RelN ws xs
  sh : ∀ (acc : List (D × D)) (aw : List (NestedKey × Addr × V)) (ax : List (NestedKey × Addr × Value)), ShN (zx X) H aw acc → Paired RelN aw ax → ∃ rw, ShN (zx X) H rw (putAll acc ps) ∧ Paired RelN rw (storedAllH ax xs)
theorem pairsAt {pins : List (Addr × Obj)} {σ : L2.St} {H : Hp} {s : Shared} (I : Inv X pins σ H s) : ∀ {ps : List (D × D)} {ds : List D} {vs : List V} {its : List Value}, pairsOf ds = some ps → (ps.all fun p => tupKey p.1) = true → ShAll (zx X) H vs ds → Vals vs its →
    ∃ ts kv ws xs, PairsAt X H s.heap vs its ps ts kv ws xs
  | [], ds, vs, its, e, _, sh, rv => by
    have : ds = [] := by
      cases ds with
      | nil => rfl
      | cons d r =>
        unfold pairsOf at e
        split at e
        · rename_i h; cases h
        · obtain ⟨_, _, z⟩ := Option.map_eq_some_iff.1 e
          cases z
        · cases e
    subst this
    cases sh
    cases rv
    exact ⟨[], [], [], [], rfl, rfl, rfl, rfl, fun j k v h => by simp at h, fun x hx => (by cases hx), .nil, fun acc aw ax h1 h2 => ⟨aw, h1, h2⟩⟩
  | (k, v) :: ps, ds, vs, its, e, ok, sh, rv => by
    cases ds with
    | nil => cases e
    | cons d r =>
      have hd : d = .tuple [k, v] ∧ pairsOf r = some ps := by
        unfold pairsOf at e
        split at e
        · rename_i h; cases h
        · rename_i k' v' r' h
          cases h
          obtain ⟨ps', e', z⟩ := Option.map_eq_some_iff.1 e
          cases z
          exact ⟨rfl, e'⟩
        · cases e
      obtain ⟨rfl, er⟩ := hd
      rw [List.all_cons, Bool.and_eq_true] at ok
      obtain ⟨ok1, ok2⟩ := ok
      cases sh with
      | cons s1 s2 =>
        cases rv with
        | cons r1 r2 =>
          rename_i vx vr ux ur
          obtain ⟨ts, kv, ws, xs, P⟩ := pairsAt I er ok2 s2 r2
          obtain ⟨t, vv, ev, ht, hv⟩ := (Rp.sh s1).tup
          subst ev
          cases r1
          cases hv with
          | cons c1 c2 =>
            cases c2 with
            | cons c3 c4 =>
              cases c4
              rename_i x y
              obtain ⟨jts, rj, ⟨o, ho, hc, n, hdt⟩, _⟩ := I.tuple ht.sq
              cases rj with
              | cons rk rj =>
                cases rj with
                | cons rw' rj =>
                  cases rj
                  rename_i uk uv
                  simp only [tupKey, Bool.and_eq_true] at ok1
                  obtain ⟨o1, o2⟩ := ok1
                  cases k with
                  | tuple ks =>
                    split at o2
                    · rename_i nkk en
                      obtain ⟨b, _, eb, hb, hbv⟩ := (Rp.sh c1).tup
                      subst eb
                      cases rk
                      have hdp : nkk.depth ≤ 8 := of_decide_eq_true o2
                      refine ⟨t :: ts, (.ref b, uv) :: kv, (nkk, b, y) :: ws, (nkk, b, uv) :: xs, by simp [P.l1], by simp [P.l2], by simp [P.l3], by simp [P.l4], fun j k' v' hj => ?_, fun x hx => ?_, .cons ⟨rfl, rfl, rw'⟩ P.pr, fun acc aw ax h1 h2 => ?_⟩
                      · cases j with
                        | zero =>
                          simp at hj
                          obtain ⟨rfl, rfl⟩ := hj
                          exact ⟨t, rfl, rfl, .inl ⟨o, ho, hc, n, by simpa using hdt⟩, nkk, b, rfl, rfl⟩
                        | succ j =>
                          simp at hj
                          simpa using P.it j k' v' hj
                      · rcases List.mem_cons.1 hx with rfl | hx
                        · exact ⟨nest_is I _ _ _ _ c1 rfl en, hdp⟩
                        · exact P.is x hx
                      · have q1 := putN_sh c1 en hdp c3 h1
                        have q2 := putN_stored (k := nkk) (b := b) rw' h2
                        obtain ⟨rw2, q3, q4⟩ := P.sh _ _ _ q1 q2
                        refine ⟨rw2, ?_, q4⟩
                        simp only [putAll, en]
                        exact q3
                    · cases o2
                  | _ => cases o1
theorem putAll_ne : ∀ {ps : List (D × D)} {acc : List (D × D)}, acc ≠ [] → putAll acc ps ≠ []
  | [], acc, h => h
  | p :: r, acc, h => by
    unfold putAll
    refine putAll_ne ?_
    split
    · exact putD_ne _ _ _ _
    · exact h
theorem c_dict (hcalm : X.calm = true) (hu : X.A.units + 64 < cLine) : CallR X (.type "dict") (rC1 (zx X) dDict) := by
  intro pins s σ H xs us Q I r ⟨x, d, z, e, hx, ed, q⟩
  subst e
  cases d with
  | list ds =>
    simp only [dDict] at ed
    split at ed
    · rename_i ps ep
      split at ed
      · rename_i ok
        cases ed
        simp only [Bool.and_eq_true, decide_eq_true_eq] at ok
        obtain ⟨o1, o3⟩ := ok
        obtain ⟨a, vs, rfl, hr, sv⟩ := hx.lst
        obtain ⟨_, its, n, rv, hl, e0⟩ := inv_lst I hr
        rw [Vals.ref1 r]
        obtain ⟨ts, kv, ws, xs, P⟩ := pairsAt I ep o3 sv rv
        have big : sizeLine = 16777216 := sizeLine_eq
        refine call_dict_pairsH (knd := nestedKind X.prog X.w) (ps := xs) (PairArg.list a its.toArray (fun j => ts.getD j 0) kv) (I.ok.hd hcalm) (show X.A.units + 1 + 1 + 8 < cLine by omega) ⟨⟨_, n, e0, rfl, rfl, rfl⟩, by simp [P.l1, P.l2], fun j k v hj => ?_⟩ ⟨by rw [P.l3, P.l2], fun i k v hi => ?_⟩ (fun h' hk x hx' => ?_) (by rw [P.l2]; omega) fun h' tk hd' hk => ?_
        · obtain ⟨t, h1, h2, h3, _⟩ := P.it j k v hj
          have : ts.getD j 0 = t := by simp [List.getD, h1]
          dsimp only
          rw [this]
          exact ⟨by simpa using h2, h3⟩
        · obtain ⟨t, _, _, _, nn, b, h4, h5⟩ := P.it i k v hi
          exact ⟨nn, b, h4, h5⟩
        · obtain ⟨c1, c2⟩ := P.is x hx'
          exact ⟨NestedIs.at (fun b ob vs n hb _ => hk b ob (Nat.ne_of_lt (Heap.lt_size hb)) (by simp) hb) _ _ c1, c2⟩
        · obtain ⟨rw2, q1, q2⟩ := P.sh [] [] [] .nil .nil
          obtain ⟨ob, es, ep', hq, h2, h3, h4, _, h5⟩ := hd'
          have I1 : Inv X pins σ H { s with heap := h', toks := tk } := I.kept fun b o e => hk b o (by simp) e
          have hf : H s.heap.objs.size = none := I.hok.fresh (Nat.le_refl _)
          have hl2 : rw2.length ≤ sizeLine := by
            have h6 : (storedAllH ([] : List (NestedKey × Addr × Value)) xs).length ≤ xs.length := by
              have gen : ∀ (ys acc : List (NestedKey × Addr × Value)), (storedAllH acc ys).length ≤ acc.length + ys.length := by
                intro ys
                induction ys with
                | nil => intro acc; simp [storedAllH]
                | cons y ys ih =>
                  intro acc
                  have := ih (storedH acc y.1 y.2.1 y.2.2)
                  have l : (storedH acc y.1 y.2.1 y.2.2).length ≤ acc.length + 1 := by unfold storedH; split <;> simp
                  show (storedAllH (storedH acc y.1 y.2.1 y.2.2) ys).length ≤ _
                  rw [List.length_cons]
                  omega
              simpa using gen xs []
            have h7 : rw2.length = _ := Paired.length q2
            have := P.l3
            omega
          have hns : (s.heap.objs.size == sysModules) = false := by
            have hb := I.big
            exact beq_eq_false_iff_ne.mpr (Nat.ne_of_gt hb)
          by_cases o2 : ps = []
          · subst o2
            have hx0 : xs = [] := List.eq_nil_of_length_eq_zero P.l3
            subst hx0
            have he0 : es = #[] := by
              have : es.toList = [] := h4
              exact Array.toList_eq_nil_iff.mp this
            subst he0
            have sm := sm_upd (o := .dK []) hf
            refine ⟨.ref s.heap.objs.size, upd H s.heap.objs.size (.dK []), I.laid (t' := tk) (h' := h') (fun b o e => hk b o (by simp) e) (Nat.le_refl _) ⟨Nat.zero_le _, hns, [], .nil, ⟨ob, #[], ep', hq, h2, h3, fun _ he => by simp at he, by first | trivial | exact .nil | simp [Pairs], List.nodup_nil⟩⟩, rfl, q _ _ sm (nr_ow rfl hf (.dK upd_same .nil))⟩
          have sm := sm_upd (o := oN (zx X) s.heap.objs.size rw2) hf
          have hne : putAll [] ps ≠ [] := by
            cases ps with
            | nil => exact absurd rfl o2
            | cons p r =>
              unfold putAll
              refine putAll_ne ?_
              rw [List.all_cons, Bool.and_eq_true] at o3
              have := o3.1
              simp only [tupKey, Bool.and_eq_true] at this
              split
              · exact putD_ne _ _ _ _
              · rename_i hn
                rw [hn] at this
                cases this.2
          refine ⟨.ref s.heap.objs.size, upd H s.heap.objs.size (oN (zx X) s.heap.objs.size rw2), I.laid (t' := tk) (h' := h') (fun b o e => hk b o (by simp) e) (Nat.le_refl _) ⟨⟨hns, hl2, _, q2, ob, es, ep', hq, h2, h3, h4, h5⟩, ⟨ob, hq⟩, ?_⟩, rfl, q _ _ sm (nr_ow rfl hf (.dN upd_same (q1.up (Same.fz sm)) hne))⟩
          rintro g1 g2 ⟨c1, c2, ys, c3, ob', es', ep2, c4, c5⟩ hk2
          exact ⟨c1, c2, ys, c3, ob', es', ep2, hk2 _ c4, c5⟩
      · cases ed
    · cases ed
  | _ => cases ed
variable {rm : Bool} {i j : Nat} {x y : Str} {a b : Expr} {fa fb : M D} {px py pt pt2 pos : Pos} {kt k2 : Nat}
/-- a, b = e1, e2, both locked -/
def vParE (i j : Nat) (fa fb : M D) : M Fl := bnd fa fun x => bnd fb fun y => bnd (vSetSh i x) fun _ => bnd (vSetSh j y) fun _ => ret .nx
theorem vs_parE (hc : X.calm = true) (hN : X.N.Nodup) (hi : X.N[i]? = some x) (hj : X.N[j]? = some y) (hij : i ≠ j) (hx : X.env.scope.names.lookup x = some .local) (hy : X.env.scope.names.lookup y = some .local)
    (ha : VE X G a fa) (hb : VE X G b fb) (hfi : i ∉ G.fx) (hfj : j ∉ G.fx) (hw : swappedStores [.Tuple [.Name x px, .Name y py] kt pt] (.Tuple [a, b] k2 pt2) X.env = pure (some [x, y])) (hs : swapsWithSole [.Tuple [.Name x px, .Name y py] kt pt] (.Tuple [a, b] k2 pt2) pos.line X.env = pure false := by rfl)
    (hs1 : starEach [a, b] X.env = (false, eval a X.env) :: starEach [b] X.env := by rfl) (hs2 : starEach [b] X.env = (false, eval b X.env) :: starEach [] X.env := by rfl) : VS X G rm (.Assign [.Tuple [.Name x px, .Name y py] kt pt] (.Tuple [a, b] k2 pt2) pos) (vParE i j fa fb) :=
  ps_imp (ps_par hc hN hi hj hij hx hy (pa_cons ha (pa_cons hb pa_nil hs2) hs1) hw hs) fun D σ H ⟨ρ, S, k⟩ => ⟨ρ, S, k.bnd.mono fun d ρ1 k1 v H1 fz S1 sh => ⟨ρ1, S1, k1.bnd.mono fun d2 ρ2 k2 w H2 fz2 S2 sh2 => ⟨v, w, rfl, k2 _ H2 (fz.trans fz2) ((S2.setSh hfi (sh.up fz2)).setSh hfj sh2)⟩⟩⟩
/-- a, b = e1, e2, the first one's own, kept while the second is reckoned -/
def vParF (i j : Nat) (fa fb : M D) : M Fl := bnd fa fun x => if isC x then fun ρ => (match fb ρ with
  | some (.ok y ρ') => (bnd (vSetOw i x) fun _ => bnd (vSetSh j y) fun _ => ret .nx) ρ'
  | _ => none) else fun _ => none
theorem vs_parF (hc : X.calm = true) (hN : X.N.Nodup) (hi : X.N[i]? = some x) (hj : X.N[j]? = some y) (hij : i ≠ j) (hx : X.env.scope.names.lookup x = some .local) (hy : X.env.scope.names.lookup y = some .local)
    (ha : VO X G a fa) (hb : ∀ tp, VE X (G.inn tp) b fb) (hfi : i ∉ G.fx) (hfj : j ∉ G.fx) (hw : swappedStores [.Tuple [.Name x px, .Name y py] kt pt] (.Tuple [a, b] k2 pt2) X.env = pure (some [x, y])) (hs : swapsWithSole [.Tuple [.Name x px, .Name y py] kt pt] (.Tuple [a, b] k2 pt2) pos.line X.env = pure false := by rfl)
    (hs1 : starEach [a, b] X.env = (false, eval a X.env) :: starEach [b] X.env := by rfl) (hs2 : starEach [b] X.env = (false, eval b X.env) :: starEach [] X.env := by rfl) : VS X G rm (.Assign [.Tuple [.Name x px, .Name y py] kt pt] (.Tuple [a, b] k2 pt2) pos) (vParF i j fa fb) :=
  ps_imp (ps_par hc hN hi hj hij hx hy (pa_cons ha (pa_cons (te := tLE G fb) ⟨fun pins s σ H Q I ⟨tp, h⟩ => (hb tp).run pins s σ H Q I h⟩ pa_nil hs2) hs1) hw hs) fun D σ H ⟨ρ, S, k⟩ => ⟨ρ, S, k.bnd.mono fun d ρ1 k1 v H1 fz S1 ro => by
    split at k1
    · rename_i hC
      unfold RO at ro
      rw [hC] at ro
      obtain ⟨p, rfl, ow, fr⟩ := ro
      obtain ⟨u, eu, mu, _⟩ := ow.frz
      have Si : Stt (G.inn ((p, u) :: G.tp)) H1 σ ρ1 := by
        refine ⟨S1.len, S1.val, S1.dis, S1.mv, S1.fix, fun q hq => ?_⟩
        rcases List.mem_cons.1 hq with rfl | hq
        · exact ⟨eu, ⟨mu, fr.1, by rw [← eu]; exact ow.noTab⟩, fr.2.1⟩
        · exact S1.tmp q hq
      dsimp only at k1
      cases hr : fb ρ1 with
      | none => rw [hr] at k1; exact k1.elim
      | some r =>
        cases r with
        | ex _ => rw [hr] at k1; exact k1.elim
        | ok d2 ρ2 =>
          rw [hr] at k1
          refine ⟨_, ρ1, Si, (Kont.ofEq hr).mono fun d2' ρ2' ⟨z1, z2⟩ w H2 fz2 S2 sh2 => ⟨.ref p, w, rfl, ?_⟩⟩
          subst z1 z2
          obtain ⟨c1, c2, c3⟩ := S2.tmp (p, u) (by simp [Gh.inn])
          have S3 : Stt G H2 σ ρ2' := ⟨S2.len, S2.val, S2.dis, S2.mv, S2.fix, fun q hq => S2.tmp q (List.mem_cons_of_mem _ hq)⟩
          have ow2 : Ow G.Z H2 (.ref p) d := ow.keep fz2 (by rw [c1, eu])
          have S4 := S3.setOw (i := i) hfi (v := .ref p) (d := d) (by unfold RO; rw [hC]; exact ⟨p, rfl, ow2, c2.2.1, c3, fr.2.2⟩)
          exact k1 _ H2 (fz.trans fz2) (S4.setSh hfj sh2)
    · exact k1.elim⟩
end
end Cv
end
section
/-! The V layer: defs that ask repr of things (no repr is under way around them); the end of a law. -/
namespace Cv
open PySem L2
open PySem.Spec PyProof.Rows
/-- as FnOk, called where no repr is under way -/
structure FnG (P : Program) (w : World) (K : PySem.W.Frag) (mg : Str → Option Value) (base : Heap) (CX : CXT) (k : Nat) (f : Addr) (fd : FuncData) (ps : List Str) (sp : Sp) : Prop where
  len : ∀ vs H Q E, sp vs H Q E → vs.length = ps.length
  run : ∀ (A : Around) (outer : List Env) (s : Shared) (H : Hp) (args : Args) (us : List Value) (vs : List V) (Q : VK) (E : XK), Room k A → A.guards = some [] → Env0 P w K mg base A outer s H → BindsTo s fd args (ps.zip us) → Vals vs us → sp vs H Q E → codeAny (model P w) A (.call (.ref f) args) (CR CX outer P w H s Q E) s
theorem gd_deeper (A : Around) (env : Env) : (A.deeper env).guards = A.guards := rfl
section
variable {P : Program} {w : World} {K : PySem.W.Frag} {mg : Str → Option Value} {base : Heap} {cl : Cl} {CX : CXT}
theorem okGC {x qual : Str} {st : Stmt} {f : Addr} {fd : FuncData} {N ps : List Str} {k : Nat} {sp : Sp} (F : Fun K x qual st f fd) (S : FnScope N ps (defScope st)) (len : ∀ vs H Q E, sp vs H Q E → vs.length = ps.length)
    (hb : ∀ (cdv : Value), fd.code = cdv → ∀ (A : Around) (outer : List Env) (s : Shared) (H : Hp) (vs : List V) (Q : VK) (E : XK), Room k (A.deeper (envOfC qual (defScope st) s.heap.objs.size f cdv)) → A.guards = some [] → sp vs H Q E →
      ∃ t, PSs (cxOf CX P w K mg base N qual (defScope st) f cdv A outer s H E) (defBody st) t ∧ t { nx := fun _ H' => Q .non H', rt := Q } (L2.start N vs) H) : FnG P w K mg base CX (k + 1) f fd ps sp := by
  obtain ⟨oc, od, kV, doc, pm, an, cdv, ct, osl, rfl, lk, hcd⟩ := F.ex
  refine ⟨len, fun A outer s H args us vs Q E hr hg env binds rv hsp => ?_⟩
  have same : ∀ b o, base.get? b = some o → s.heap.get? b = some o := fun b o e => (env.bs b o e).1
  have kin : K.In s.heap := env.mod.kin.keeps same
  refine codeAny_call_function hr.depth (kin _ _ lk) rfl S.co S.gen rfl (PySem.W.codeRec_of kin hcd) (binds _ _ _ _ ?_)
  refine wpAny_newFunctionEnv_cells S.kind (fun ⟨n, v⟩ hy => (S.par n (List.of_mem_zip hy).1).imp id fun q => ⟨q, PySem.W.cellsFrom_some _ _ _ (.inl q)⟩) fun fr hfr s1 born => ?_
  subst hfr
  refine ⟨(env.mod.nolimit.keeps same).keeps born.toInCall.keep, codeAny_func ?_⟩
  obtain ⟨t, pt, q⟩ := hb cdv rfl A outer s H vs Q E (hr.deeper _) hg hsp
  have I : Inv (cxOf CX P w K mg base N qual (defScope st) f cdv A outer s H E) [] (L2.start N vs) H s1 := inv_start S hr.hd env (len _ _ _ _ hsp) rv born
  refine wpAny_mono (pt.run [] s1 (L2.start N vs) H _ I q) (fun fl s2 end_ => ?_) fun e s2 z => z
  cases fl with
  | ret u => obtain ⟨v, σ', H', J, rv', q'⟩ := end_; exact ⟨v, H', J.os, J.bare, J.base, J.hok, rv', q'⟩
  | next => obtain ⟨σ', H', J, q'⟩ := end_; exact ⟨.non, H', J.os, J.bare, J.base, J.hok, rfl, q'⟩
  | brk => obtain ⟨_, _, _, z⟩ := end_; exact z.elim
  | cont => obtain ⟨_, _, _, z⟩ := end_; exact z.elim
theorem def_okGC {x qual : Str} {st : Stmt} {f : Addr} {fd : FuncData} {N ps : List Str} {k np : Nat} {fx : List Nat} {rm : Bool} {body : M Fl} (F : Fun K x qual st f fd) (S : FnScope N ps (defScope st)) (hnp : ps.length = np) (hp : np ≤ N.length) (hfx : (fx.all fun i => decide (i < np)) = true)
    (hb : ∀ (cdv : Value), fd.code = cdv → ∀ (A : Around) (outer : List Env) (s : Shared) (H : Hp) (vs : List V) (E : XK), Room k (A.deeper (envOfC qual (defScope st) s.heap.objs.size f cdv)) → (cxOf (L2.CX P w) P w K mg base N qual (defScope st) f cdv A outer s H E).A.guards = some [] → VSs (cxOf (L2.CX P w) P w K mg base N qual (defScope st) f cdv A outer s H E) (gh ⟨P, w, K⟩ cl H E fx vs) rm (defBody st) body) :
    FnG P w K mg base (L2.CX P w) (k + 1) f fd ps (spV ⟨P, w, K⟩ cl np fx rm (runF np fx N.length body)) := by
  refine okGC F S (fun vs H Q E h => by rw [hnp]; exact h.1) fun cdv hcd A outer s H vs Q E hr hg hsp => ?_
  exact body_ok (E := E) (fun _ _ _ h => h) hp hfx hsp (hb cdv hcd A outer s H vs E hr hg)
theorem def_okG {x qual : Str} {st : Stmt} {f : Addr} {fd : FuncData} {N ps : List Str} {k np : Nat} {fx : List Nat} {rm : Bool} {body : M Fl} (F : Fun K x qual st f fd) (S : FnScope N ps (defScope st)) (hnp : ps.length = np) (hp : np ≤ N.length) (hfx : (fx.all fun i => decide (i < np)) = true)
    (hb : ∀ (cdv : Value) (A : Around) (outer : List Env) (s : Shared) (H : Hp) (vs : List V) (E : XK), Room k (A.deeper (envOfC qual (defScope st) s.heap.objs.size f cdv)) → (cxOf (L2.CX P w) P w K mg base N qual (defScope st) f cdv A outer s H E).A.guards = some [] → VSs (cxOf (L2.CX P w) P w K mg base N qual (defScope st) f cdv A outer s H E) (gh ⟨P, w, K⟩ cl H E fx vs) rm (defBody st) body) :
    FnG P w K mg base (L2.CX P w) (k + 1) f fd ps (spV ⟨P, w, K⟩ cl np fx rm (runF np fx N.length body)) := by
  refine okGC F S (fun vs H Q E h => by rw [hnp]; exact h.1) fun cdv _ A outer s H vs Q E hr hg hsp => ?_
  exact body_ok (E := E) (fun _ _ _ h => h) hp hfx hsp (hb cdv A outer s H vs E hr hg)
end
section
variable {X : Cx} {G : Gh} {CX : CXT} {k : Nat} {f : Addr} {fd : FuncData} {ps : List Str} {x : Str} {e : Expr} {es : List Expr} {p pos : Pos} {fs : M (List D)} {mf : List D → Option Rf} {np : Nat} {sp : Sp} {ds : List Value} {dvs : List V} {E : XK} {t : TA}
theorem pe_callG (F : FnG X.prog X.w X.K X.mg X.base CX k f fd ps sp) (hG : X.A.guards = some []) (hr : Room k X.A) (hg : Gl X x) (hm : X.mg x = some (.ref f)) (hk : PySem.W.keepIn X.K (.ref f) = true) (hb : Binds X.K fd ps []) (hx : Passes CX X E)
    (ha : PA X (e :: es) t) (hdb : (x == ("__debug__" : Str)) = false := by decide) (he : starEach (e :: es) X.env = (false, eval e X.env) :: starEach es X.env := by rfl) (hpl : (backTo pos (starEach es X.env)).any (·.1) = false := by rfl) : PE X (.Call (.Name x p) (e :: es) [] pos) (tCall sp [] E t) := by
  refine ⟨fun pins s σ H Q I h => wpAny_Call_Name_kw (ld_glob I hg hm (PySem.W.callWith_K (h₀ := X.base) I.ok.mod.kin hk (thn (ha.run pos pins s σ H _ I h) fun us s1 ⟨vs, H1, I1, r, q⟩ => ⟨I1.kIn, ?_⟩) he hpl) hdb)⟩
  have q : sp (vs ++ []) H1 Q E := q
  rw [List.append_nil] at q
  have hl : us.length = ps.length := by rw [← r.length]; exact F.len _ _ _ _ q
  have b1 := hb s1 us I1.kIn (by rw [List.append_nil]; exact hl)
  rw [List.append_nil] at b1
  refine wpAny_call (codeAny_mono (F.run X.A X.stack s1 H1 ⟨us, []⟩ us vs Q E hr hG I1.env0 b1 r q) fun out s2 z => ?_)
  cases out with
  | error e => exact hx pins σ H1 s1 e s2 I1 z
  | ok fl =>
    cases fl with
    | ret u => exact I1.after z
    | next => exact z.elim
    | brk => exact z.elim
    | cont => exact z.elim
theorem ve_callG {cl : Cl} (F : FnG X.prog X.w X.K X.mg X.base CX k f fd ps (spV (zx X) cl np [] false mf)) (hG : X.A.guards = some []) (hr : Room k X.A) (hg : Gl X x) (hm : X.mg x = some (.ref f)) (hk : PySem.W.keepIn X.K (.ref f) = true) (hb : Binds X.K fd ps []) (hx : Passes CX X G.W) (hl : ∀ ds r, mf ds = some r → ds.length = np)
    (ha : VA X G (e :: es) fs) (hcl : G.cl = cl := by rfl) (hZ : G.Z = zx X := by rfl) (hdb : (x == ("__debug__" : Str)) = false := by decide) (he : starEach (e :: es) X.env = (false, eval e X.env) :: starEach es X.env := by rfl) (hpl : (backTo pos (starEach es X.env)).any (·.1) = false := by rfl) :
    VE X G (.Call (.Name x p) (e :: es) [] pos) (vCall mf fs) := pe_imp (pe_callG F hG hr hg hm hk hb hx ha hdb he hpl) (tcallE hcl hZ hl)
theorem ve_callGQ {cl : Cl} {q j : Nat} (F : FnG X.prog X.w X.K X.mg X.base CX k f fd ps (spV (zx X) cl np [q] false mf)) (hG : X.A.guards = some []) (hr : Room k X.A) (hg : Gl X x) (hm : X.mg x = some (.ref f)) (hk : PySem.W.keepIn X.K (.ref f) = true) (hb : Binds X.K fd ps []) (hx : Passes CX X G.W) (hl : ∀ ds r, mf ds = some r → ds.length = np)
    (ha : VQ X G q j (e :: es) fs) (hcl : G.cl = cl := by rfl) (hZ : G.Z = zx X := by rfl) (hdb : (x == ("__debug__" : Str)) = false := by decide) (he : starEach (e :: es) X.env = (false, eval e X.env) :: starEach es X.env := by rfl) (hpl : (backTo pos (starEach es X.env)).any (·.1) = false := by rfl) :
    VE X G (.Call (.Name x p) (e :: es) [] pos) (vCallQ mf q j fs) := pe_imp (pe_callG F hG hr hg hm hk hb hx ha hdb he hpl) (tcallQ hcl hZ hl)
end
/-! ### the end of a law -/
/-- what is tracked where the law begins: the script, unless it is of the written part; the tables of code objects, empty -/
def atLaw (K : PySem.W.Frag) (a : Addr) (o : Obj) (ns : List Int) (cs : List (Addr × Addr)) : Hp := fun b => if b = a ∧ K.lookup a = none then some (.frz o (.lst (ns.map V.int))) else if (cs.any fun p => decide (p.2 = b)) = true then some (.tbl #[]) else none
abbrev tabO : Obj := { cls := .none, data := .fields #[] }
theorem law_callG {P : Program} {w : World} {K : PySem.W.Frag} {mg mb : Str → Option Value} {CX : CXT} {k : Nat} {fa a : Addr} {fd : FuncData} {x : Str} {sp : Sp} {s : Shared} {its : List Value} {ns : List Int} {cs : List (Addr × Addr)} (kin : K.In s.heap) (glob : s.heap.Ns mainGlobals mg) (blt : s.heap.Ns builtinsNs mb)
    (boot : ∀ x : Str, x ≠ "__name__" → mb x = bootBuiltins x) (lim : s.heap.NoLimit) (gens : s.gens = #[]) (scr : s.heap.get? a = some { cls := .type "list", data := .seq its.toArray }) (isI : IntsAre its ns) (short : ns.length ≤ sizeLine) (room : Room k callerA)
    (tabs : ∀ p ∈ cs, s.heap.get? p.2 = some tabO) (notK : ∀ p ∈ cs, K.lookup p.2 = none) (codes : ∀ p ∈ cs, PySem.W.CodeHd s.heap p.1 p.2)
    (bmain : ∃ (bm : Addr) (ob : Obj), mg "__builtins__" = some (.ref bm) ∧ bm ≠ builtinsNs ∧ s.heap.get? bm = some ob ∧ ob.cls = .type "module" ∧ ob.dict = some builtinsNs ∧ ob.data = .plain)
    (F : ∀ base : Heap, K.In base → base.Ns mainGlobals mg → (∀ p ∈ cs, LamX.TabB base mg p.1 p.2) → FnG P w K mg base CX k fa fd [x] sp) (binds : ∀ (s : Shared) (u : Value), BindsTo s fd ⟨[u], []⟩ [(x, u)])
    (hsp : ∀ H : Hp, (∀ p ∈ cs, H p.2 = some (.tbl #[])) → Sh ⟨P, w, K⟩ H (.ref a) (.list (ns.map .int)) → sp [.ref a] H (fun v _ => v = .bl true) fun _ _ _ => False) (calm : ∀ H e s', CX [] H s (fun _ _ _ => False) e s' → False) :
    codeAny (model P w) callerA (.call (.ref fa) ⟨[.ref a], []⟩) (fun r s' => r = .ok (.ret (.bool true)) ∧ OldK s.heap s'.heap ∧ s'.os = s.os ∧ AllBare s'.gens) s := by
  have vals := vals_ints isI
  obtain ⟨ob, eob⟩ : ∃ ob : Obj, ob = { cls := .type "list", data := .seq its.toArray } := ⟨_, rfl⟩
  obtain ⟨H, eH⟩ : ∃ H, H = atLaw K a ob ns cs := ⟨_, rfl⟩
  have only : ∀ b u, H b = some u → (b = a ∧ K.lookup a = none ∧ u = .frz ob (.lst (ns.map V.int))) ∨ (u = .tbl #[] ∧ ∃ p ∈ cs, p.2 = b) := fun b u z => by
    rw [eH] at z
    unfold atLaw at z
    split at z
    · rename_i c; cases z; exact .inl ⟨c.1, c.2, rfl⟩
    · split at z
      · rename_i c
        cases z
        obtain ⟨p, h1, h2⟩ := List.any_eq_true.1 c
        exact .inr ⟨rfl, p, h1, by simpa using h2⟩
      · cases z
  have notA : ∀ p ∈ cs, p.2 ≠ a := fun p hp z => by
    have e := tabs p hp
    rw [z, scr] at e
    cases e
  have atT : ∀ p ∈ cs, H p.2 = some (.tbl #[]) := fun p hp => by
    rw [eH]
    unfold atLaw
    rw [if_neg (fun c => notA p hp c.1), if_pos (List.any_eq_true.2 ⟨p, hp, by simp⟩)]
  have free : ∀ b o, s.heap.get? b = some o → (∀ vs n, o.data ≠ .seq vs n) → o.data ≠ .fields #[] → H b = none := fun b o e nd nf => by
    cases q : H b with
    | none => rfl
    | some u =>
      rcases only b u q with ⟨rfl, _, _⟩ | ⟨_, p, hp, rfl⟩
      · rw [scr] at e
        cases e
        exact (nd _ _ rfl).elim
      · rw [tabs p hp] at e
        cases e
        exact (nf rfl).elim
  have ns' : ∀ {b : Addr} {m : Str → Option Value}, s.heap.Ns b m → (hidT s.heap H).Ns b m := fun {b m} ⟨o, es, ep, e, d, r⟩ => ⟨o, es, ep, hidT_get e (free b o e (fun vs n z => by rw [d] at z; cases z) fun z => by rw [d] at z; cases z), d, r⟩
  have kin' : K.In (hidT s.heap H) := fun b o e => hidT_get (kin b o e) (by
    cases q : H b with
    | none => rfl
    | some u =>
      rcases only b u q with ⟨rfl, z, _⟩ | ⟨_, p, hp, rfl⟩
      · rw [z] at e
        cases e
      · rw [notK p hp] at e
        cases e)
  have hok : HOk P w H s.heap := fun b u z => by
    rcases only b u z with ⟨rfl, _, rfl⟩ | ⟨rfl, p, hp, rfl⟩
    · rw [eob]
      exact ⟨scr, by rw [List.length_map]; exact short, its, _, vals, scr⟩
    · exact tabs p hp
  have tb : ∀ p ∈ cs, LamX.TabB (hidT s.heap H) mg p.1 p.2 := fun p hp => by
    refine ⟨?_, ?_, fun z => ?_⟩
    · obtain ⟨o, us, f1, f2, f3, f4, f5, f6, f7, g1, g2, g3, g4, g5⟩ := codes p hp
      exact ⟨o, us, f1, f2, f3, f4, f5, f6, f7, hidT_get g1 (free _ _ g1 (fun vs n z => by rw [g3] at z; cases z) fun z => by rw [g3] at z; cases z; simp at g4), g2, g3, g4, g5⟩
    · obtain ⟨bm, om, b1, b2, b3, b4, b5, b6⟩ := bmain
      refine ⟨bm, om, b1, b2, fun z => ?_, fun z => ?_, hidT_get b3 (free _ _ b3 (fun vs n z => by rw [b6] at z; cases z) fun z => by rw [b6] at z; cases z), b4, b5, b6⟩
      · obtain ⟨o, es, ep, e, d, _⟩ := glob
        rw [z, e] at b3
        cases b3
        rw [d] at b6
        cases b6
      · rw [z, tabs p hp] at b3
        cases b3
        cases b6
    · obtain ⟨o, es, ep, e, d, _⟩ := glob
      rw [z, tabs p hp] at e
      cases e
      cases d
  have md : Mod K mg (hidT s.heap H) := ⟨kin', ns' glob, ⟨mb, ns' blt, boot⟩, let ⟨mc, h1, h2⟩ := lim; ⟨mc, ns' h1, h2⟩⟩
  have env : Env0 P w K mg (hidT s.heap H) callerA [] s H := ⟨rfl, md, fun b o e => of_hidT e, Nat.le_of_eq (hidT_size _ _), trivial, (by intro b hb; cases hb), hok, .of_eq gens⟩
  have sh : Sh ⟨P, w, K⟩ H (.ref a) (.list (ns.map .int)) := by
    refine .lst ?_ (ShAll.ints ns)
    cases hk : K.lookup a with
    | none => exact .inl ⟨ob, by rw [eH]; exact if_pos ⟨rfl, hk⟩⟩
    | some o =>
      have e := kin a o hk
      rw [scr] at e
      cases e
      exact .inr ⟨its, _, hk, by rw [List.length_map]; exact short, vals⟩
  refine codeAny_mono ((F _ kin' (ns' glob) tb).run callerA [] s H ⟨[.ref a], []⟩ [.ref a] [.ref a] _ _ room rfl env (binds s (.ref a)) (.cons rfl .nil) (hsp H atT sh)) fun r s' out => ?_
  cases r with
  | error e => exact (calm H e s' out).elim
  | ok fl =>
    cases fl with
    | next => exact out.elim
    | brk => exact out.elim
    | cont => exact out.elim
    | ret u =>
      obtain ⟨v, H', os, bare, un, hok', rel, q⟩ := out
      cases (show v = .bl true from q)
      cases (show u = Value.bool true from rel)
      have each : ∀ b o, s.heap.get? b = some o → s'.heap.get? b = some o ∨ ∃ p ∈ cs, p.2 = b ∧ o = tabO ∧ ∃ more, s'.heap.get? b = some { cls := .none, data := .fields more } := fun b o e => by
        cases hb : H b with
        | none => exact .inl (un.keep b o e hb (by intro z; cases z) (by simp))
        | some u =>
          rcases only b u hb with ⟨_, _, rfl⟩ | ⟨rfl, p, hp, rfl⟩
          · obtain ⟨e1, _⟩ := hok b _ hb
            obtain ⟨e2, _⟩ := hok' b _ (un.frzs b ob _ hb)
            rw [e] at e1
            cases e1
            exact .inl e2
          · rw [tabs p hp] at e
            cases e
            obtain ⟨more, z⟩ := un.tbls _ _ hb
            exact .inr ⟨p, hp, rfl, rfl, _, hok' _ _ z⟩
      refine ⟨rfl, ⟨fun b o e => ?_, fun b o e => ?_⟩, os, bare⟩
      · rcases each b o e with h | ⟨p, hp, rfl, rfl, more, h⟩
        · exact .inl h
        · exact .inr (.inl ⟨((codes p hp).tab (tabs p hp)).isCodeTable, rfl, #[], more, rfl, by simpa using h⟩)
      · rcases each b o e with h | ⟨p, hp, rfl, rfl, more, h⟩
        · exact ⟨_, h⟩
        · exact ⟨_, h⟩
/-- what is known of the law's text at the head's heap: cs, the code objects that make lambdas, with their tables -/
def LawG (l : PySem.W.OpenLaw) (w : World) (K : PySem.W.Frag) (k : Nat) (x : Str) (mf : List D → Option Rf) (mg : Str → Option Value) (fa : Addr) (h : Heap) : Prop := ∃ (fd : FuncData) (cl : Cl) (cs : List (Addr × Addr)), (∀ (s : Shared) (u : Value), BindsTo s fd ⟨[u], []⟩ [(x, u)]) ∧
  (∀ p ∈ cs, h.get? p.2 = some tabO) ∧ (∀ p ∈ cs, K.lookup p.2 = none) ∧ (∀ p ∈ cs, PySem.W.CodeHd h p.1 p.2) ∧ (∀ q ∈ cl.T, ∃ p ∈ cs, p.2 = q.1) ∧
  ∀ base : Heap, K.In base → base.Ns mainGlobals mg → (∀ p ∈ cs, LamX.TabB base mg p.1 p.2) → FnG l.prog w K mg base (L2.CX l.prog w) k fa fd [x] (spV ⟨l.prog, w, K⟩ cl 1 [] false mf)
theorem walk_ofG {l : PySem.W.OpenLaw} {n k : Nat} {q : Program} {loose : List Str} {XP : (Str → Option Value) → Heap → Prop} {YP : World → Heap → Prop} {d : DefRec} {K : Params → PySem.W.Frag} {x : Str} {mf : List D → Option Rf} (hn : l.most = some n) (hn2 : n ≤ sizeLine) (hdf : d.params.defaults = []) (hr : Room k callerA)
    (hY : ∀ (w : World) (h : Heap), YP w h → (K w.params).In h)
    (F : ∀ (w : World) (mg : Str → Option Value) (fa : Addr) (h : Heap), YP w h → (K w.params).In h → h.Ns mainGlobals mg → mg d.name = some (.ref fa) → LawG l w (K w.params) k x mf mg fa h)
    (told : ∀ ns : List Int, ns.length ≤ n → (∀ z ∈ ns, Builtin.Int.intBits z ≤ 1048576) → mf [.list (ns.map .int)] = some (.ret (.bool true) [])) :
    PySem.W.WalkO q loose XP YP l.row.toRowW d [] (fun f vs => PySem.call f vs) := by
  refine Att.attach_callB hn hdf fun w s₀ s₁ mg mb fa o pm cd doc a vs ns G Y ho hd hcd hmg hobj hints hlen hbits hg => ?_
  have KX := hY w _ Y
  obtain ⟨fd, cl, cs, hb, ht, nk, hc, hcl, hF⟩ := F w mg fa _ Y KX G.T.g hmg
  refine law_callG KX G.T.g G.T.b G.T.builtins G.T.nolimit hg hobj hints (Nat.le_trans hlen hn2) hr ht nk hc G.T.bmain hF hb (fun H hT sh => ⟨rfl, fun q hq => ?_, [.list (ns.map .int)], argOk_of (.cons sh .nil), ?_⟩) fun H e s' z => ?_
  · obtain ⟨p, hp, e⟩ := hcl q hq
    exact LamX.TabS.nil (e ▸ hT p hp)
  · rw [told ns hlen hbits]
    intro v H' _ _ rk
    cases (show Sh _ H' v (.bool true) from rk)
    rfl
  · obtain ⟨_, _, _, _, _, _, _, _, _, _, _, _, z⟩ := z
    exact z.elim
end Cv
end
section
/-! Plain tools for the mirrors: loops by what stays true. -/
namespace Cv
open PySem L2
theorem for_nil {g : D → M Unit} {b : M Fl} {ρ : Ev} : vForL g b [] ρ = some (.ok .nx ρ) := rfl
theorem for_nx {g : D → M Unit} {b : M Fl} {x : D} {r : List D} {ρ ρ1 ρ2 : Ev} (hg : g x ρ = some (.ok () ρ1)) (hb : b ρ1 = some (.ok .nx ρ2)) : vForL g b (x :: r) ρ = vForL g b r ρ2 := by
  simp only [vForL, bnd, hg, hb]
theorem for_ct {g : D → M Unit} {b : M Fl} {x : D} {r : List D} {ρ ρ1 ρ2 : Ev} (hg : g x ρ = some (.ok () ρ1)) (hb : b ρ1 = some (.ok .ct ρ2)) : vForL g b (x :: r) ρ = vForL g b r ρ2 := by
  simp only [vForL, bnd, hg, hb]
theorem for_rt {g : D → M Unit} {b : M Fl} {x : D} {r : List D} {ρ ρ1 ρ2 : Ev} {d : D} (hg : g x ρ = some (.ok () ρ1)) (hb : b ρ1 = some (.ok (.rt d) ρ2)) : vForL g b (x :: r) ρ = some (.ok (.rt d) ρ2) := by
  simp only [vForL, bnd, hg, hb, ret]
/-- a loop that goes to its end -/
theorem for_inv {g : D → M Unit} {b : M Fl} (I : List D → Ev → Prop) (step : ∀ x r ρ, I (x :: r) ρ → ∃ ρ1 ρ2, g x ρ = some (.ok () ρ1) ∧ b ρ1 = some (.ok .nx ρ2) ∧ I r ρ2) : ∀ (xs : List D) (ρ : Ev), I xs ρ → ∃ ρ', vForL g b xs ρ = some (.ok .nx ρ') ∧ I [] ρ'
  | [], ρ, h => ⟨ρ, rfl, h⟩
  | x :: r, ρ, h => by
    obtain ⟨ρ1, ρ2, h1, h2, h3⟩ := step x r ρ h
    rw [for_nx h1 h2]
    exact for_inv I step r ρ2 h3
/-- a loop that may be left by a return -/
theorem for_invR {g : D → M Unit} {b : M Fl} (I : List D → Ev → Prop) (R : D → Ev → Prop) (step : ∀ x r ρ, I (x :: r) ρ → ∃ ρ1 ρ2, g x ρ = some (.ok () ρ1) ∧ ((b ρ1 = some (.ok .nx ρ2) ∧ I r ρ2) ∨ ∃ d, b ρ1 = some (.ok (.rt d) ρ2) ∧ R d ρ2)) : ∀ (xs : List D) (ρ : Ev), I xs ρ → ∃ ρ', (vForL g b xs ρ = some (.ok .nx ρ') ∧ I [] ρ') ∨ ∃ d, vForL g b xs ρ = some (.ok (.rt d) ρ') ∧ R d ρ'
  | [], ρ, h => ⟨ρ, .inl ⟨rfl, h⟩⟩
  | x :: r, ρ, h => by
    obtain ⟨ρ1, ρ2, h1, h2⟩ := step x r ρ h
    rcases h2 with ⟨h2, h3⟩ | ⟨d, h2, h3⟩
    · rw [for_nx h1 h2]
      exact for_invR I R step r ρ2 h3
    · exact ⟨ρ2, .inr ⟨d, for_rt h1 h2, h3⟩⟩
theorem whileN_mono {t : M Bool} {b : M Fl} : ∀ {n m : Nat} {ρ : Ev} {r : R Fl}, vWhileN n t b ρ = some r → n ≤ m → vWhileN m t b ρ = some r
  | 0, _, _, _, h, _ => by cases h
  | n + 1, 0, _, _, _, h => absurd h (by omega)
  | n + 1, m + 1, ρ, r, h, hm => by
    unfold vWhileN bnd at h ⊢
    cases ht : t ρ with
    | none => rw [ht] at h; cases h
    | some z =>
      rw [ht] at h
      cases z with
      | ex e => exact h
      | ok c ρ1 =>
        cases c with
        | false => exact h
        | true =>
          dsimp only at h ⊢
          simp only [if_true] at h ⊢
          cases hb : b ρ1 with
          | none => rw [hb] at h; cases h
          | some y =>
            rw [hb] at h
            cases y with
            | ex e => exact h
            | ok fl ρ2 =>
              cases fl with
              | nx => exact whileN_mono h (by omega)
              | ct => exact whileN_mono h (by omega)
              | bk => exact h
              | rt d => exact h
theorem while_of {t : M Bool} {b : M Fl} {n : Nat} {ρ : Ev} {r : R Fl} (h : vWhileN n t b ρ = some r) (hn : n ≤ 1000000000) : vWhile t b ρ = some r := whileN_mono h hn
/-- a while by a falling number -/
theorem while_inv {t : M Bool} {b : M Fl} (I : Nat → Ev → Prop) (Q : Ev → Prop) (step : ∀ n ρ, I n ρ → ∃ c ρ1, t ρ = some (.ok c ρ1) ∧ (c = false → Q ρ1) ∧ (c = true → ∃ ρ2 m, b ρ1 = some (.ok .nx ρ2) ∧ m < n ∧ I m ρ2)) : ∀ (n : Nat) (ρ : Ev), I n ρ → n < 1000000000 → ∃ ρ', vWhile t b ρ = some (.ok .nx ρ') ∧ Q ρ' := by
  have core : ∀ (k n : Nat) (ρ : Ev), n ≤ k → I n ρ → ∃ ρ', vWhileN (k + 1) t b ρ = some (.ok .nx ρ') ∧ Q ρ' := by
    intro k
    induction k with
    | zero =>
      intro n ρ hn h
      obtain ⟨c, ρ1, h1, h2, h3⟩ := step n ρ h
      cases c with
      | false => exact ⟨ρ1, by simp [vWhileN, bnd, h1, ret], h2 rfl⟩
      | true =>
        obtain ⟨ρ2, m, _, hm, _⟩ := h3 rfl
        omega
    | succ k ih =>
      intro n ρ hn h
      obtain ⟨c, ρ1, h1, h2, h3⟩ := step n ρ h
      cases c with
      | false => exact ⟨ρ1, by simp [vWhileN, bnd, h1, ret], h2 rfl⟩
      | true =>
        obtain ⟨ρ2, m, e, hm, h4⟩ := h3 rfl
        obtain ⟨ρ', e', q⟩ := ih m ρ2 (by omega) h4
        refine ⟨ρ', ?_, q⟩
        rw [vWhileN]
        simp only [bnd, h1, if_true, e]
        exact e'
  intro n ρ h hn
  obtain ⟨ρ', e, q⟩ := core n n ρ (Nat.le_refl n) h
  exact ⟨ρ', while_of e (by omega), q⟩
/-- a comprehension, item by item -/
theorem lc_inv {vs : List Nat} {g : D → M Unit} {t : M Bool} {f : M D} (I : List D → List D → Ev → Prop)
    (step : ∀ x r acc ρ, I (x :: r) acc ρ → ∃ ρ1 c ρ2, g x (wipeE ρ vs) = some (.ok () ρ1) ∧ t ρ1 = some (.ok c ρ2) ∧ (c = false → I r acc ρ2) ∧ (c = true → acc.length < sizeLine ∧ ∃ y ρ3, f ρ2 = some (.ok y ρ3) ∧ I r (acc ++ [y]) ρ3)) :
    ∀ (xs acc : List D) (ρ : Ev), I xs acc ρ → ∃ acc' ρ', lcL vs g t f xs acc ρ = some (.ok acc' ρ') ∧ I [] acc' ρ'
  | [], acc, ρ, h => ⟨acc, ρ, rfl, h⟩
  | x :: r, acc, ρ, h => by
    obtain ⟨ρ1, c, ρ2, h1, h2, h3, h4⟩ := step x r acc ρ h
    cases c with
    | false =>
      obtain ⟨acc', ρ', e, q⟩ := lc_inv I step r acc ρ2 (h3 rfl)
      exact ⟨acc', ρ', by simp only [lcL, bnd, h1, h2]; exact e, q⟩
    | true =>
      obtain ⟨hz, y, ρ3, h5, h6⟩ := h4 rfl
      obtain ⟨acc', ρ', e, q⟩ := lc_inv I step r (acc ++ [y]) ρ3 h6
      exact ⟨acc', ρ', by simp only [lcL, bnd, h1, h2, if_true, h5, hz]; exact e, q⟩
/-- a comprehension that changes nothing -/
theorem lc_map {vs : List Nat} {g : D → M Unit} {t : M Bool} {f : M D} (p : D → Bool) (F : D → D) (ρ : Ev) (xs : List D) (hl : xs.length ≤ 1000000) (ok : ∀ x ∈ xs, ∀ ρ', wipeE ρ' vs = wipeE ρ vs → ∃ ρ1, g x (wipeE ρ' vs) = some (.ok () ρ1) ∧ t ρ1 = some (.ok (p x) ρ1) ∧ wipeE ρ1 vs = wipeE ρ vs ∧ (p x = true → f ρ1 = some (.ok (F x) ρ1))) :
    ∃ ρ', lcL vs g t f xs [] ρ = some (.ok ((xs.filter p).map F) ρ') ∧ wipeE ρ' vs = wipeE ρ vs := by
  have core : ∀ (ys zs acc : List D) (ρ' : Ev), (∀ x ∈ ys, x ∈ xs) → acc.length + ys.length ≤ 1000000 → wipeE ρ' vs = wipeE ρ vs → ∃ ρ2, lcL vs g t f ys acc ρ' = some (.ok (acc ++ (ys.filter p).map F) ρ2) ∧ wipeE ρ2 vs = wipeE ρ vs := by
    intro ys
    induction ys with
    | nil => intro zs acc ρ' _ _ h; exact ⟨ρ', by simp [lcL, ret], h⟩
    | cons x r ih =>
      intro zs acc ρ' hm hl h
      obtain ⟨ρ1, h1, h2, h3, h4⟩ := ok x (hm x (by simp)) ρ' h
      cases hp : p x with
      | false =>
        obtain ⟨ρ2, e, q⟩ := ih zs acc ρ1 (fun y hy => hm y (by simp [hy])) (by simp at hl; omega) h3
        refine ⟨ρ2, ?_, q⟩
        simp only [lcL, bnd, h1, h2, hp, List.filter_cons]
        exact e
      | true =>
        obtain ⟨ρ2, e, q⟩ := ih zs (acc ++ [F x]) ρ1 (fun y hy => hm y (by simp [hy])) (by simp at hl ⊢; omega) h3
        refine ⟨ρ2, ?_, q⟩
        have hz : acc.length < sizeLine := by rw [sizeLine_eq]; simp at hl; omega
        simp only [lcL, bnd, h1, h2, hp, if_true, h4 hp, hz, List.filter_cons]
        rw [e]
        simp
  obtain ⟨ρ2, e, q⟩ := core xs [] [] ρ (fun x h => h) (by simpa using hl) rfl
  exact ⟨ρ2, by simpa using e, q⟩
theorem ixN_0 {n : Nat} : ixN (n + 1) (0 : Int) = some 0 := by unfold ixN; simp
theorem ixN_1 {n : Nat} : ixN (n + 2) (1 : Int) = some 1 := by
  unfold ixN
  have : (1 : Int) < ↑n + 2 := by omega
  simp [this]
end Cv
end
section
/-! What a mirror wants: for `simp only` from the front to the end. -/
namespace Cv
open PySem L2
/-- m ends well in q, or in an exception of E -/
@[irreducible] def Wp {α : Type} (E : Ex → Prop) (m : M α) (ρ : Ev) (q : α → Ev → Prop) : Prop := match m ρ with
  | some (.ok a ρ') => q a ρ'
  | some (.ex e) => E e
  | none => False
@[irreducible] def Fw (E : Ex → Prop) (mf : List D → Option Rf) (ds : List D) (q : D → List D → Prop) : Prop := match mf ds with
  | some (.ret d os) => q d os
  | some (.exc e) => E e
  | none => False
def Wo (o : Option (Option Sl)) (p : Sl → Prop) : Prop := match o with
  | some (some s) => p s
  | _ => False
def Wl (o : Option D) (p : D → Prop) : Prop := match o with
  | some d => p d
  | none => False
section
variable {α β : Type} {E : Ex → Prop} {ρ : Ev} {q : α → Ev → Prop} {qd : D → Ev → Prop} {qf : Fl → Ev → Prop} {qb : Bool → Ev → Prop} {qs : List D → Ev → Prop} {qu : Unit → Ev → Prop}
theorem Wp.mono {m : M α} {q' : α → Ev → Prop} (h : Wp E m ρ q) (i : ∀ a ρ', q a ρ' → q' a ρ') : Wp E m ρ q' := by
  unfold Wp at h ⊢
  cases hm : m ρ with
  | none => rw [hm] at h; exact h
  | some r => cases r with
    | ok a ρ' => rw [hm] at h; exact i _ _ h
    | ex e => rw [hm] at h; exact h
theorem Fw.mono {mf : List D → Option Rf} {ds : List D} {p p' : D → List D → Prop} (h : Fw E mf ds p) (i : ∀ d os, p d os → p' d os) : Fw E mf ds p' := by
  unfold Fw at h ⊢
  cases hm : mf ds with
  | none => rw [hm] at h; exact h
  | some r => cases r with
    | ret d os => rw [hm] at h; exact i _ _ h
    | exc e => rw [hm] at h; exact h
theorem Fw.told {mf : List D → Option Rf} {ds : List D} {d : D} {os : List D} (h : Fw (fun _ => False) mf ds fun d' os' => d' = d ∧ os' = os) : mf ds = some (.ret d os) := by
  unfold Fw at h
  cases hm : mf ds with
  | none => rw [hm] at h; exact h.elim
  | some r => cases r with
    | ret d os => rw [hm] at h; rw [h.1, h.2]
    | exc e => rw [hm] at h; exact h.elim
theorem fw_of {mf : List D → Option Rf} {ds : List D} {d : D} {os : List D} {p : D → List D → Prop} (h : mf ds = some (.ret d os)) (hp : p d os) : Fw E mf ds p := by unfold Fw; rw [h]; exact hp
theorem fw_is {mf : List D → Option Rf} {ds : List D} {d : D} {os : List D} {p : D → List D → Prop} (h : mf ds = some (.ret d os)) : Fw E mf ds p = p d os := by unfold Fw; rw [h]
theorem wp_ret (a : α) : Wp E (ret a) ρ q = q a ρ := by with_unfolding_all rfl
theorem wp_bnd {m : M β} {k : β → M α} : Wp E (bnd m k) ρ q = Wp E m ρ fun a ρ' => Wp E (k a) ρ' q := by
  unfold Wp bnd
  cases m ρ with
  | none => with_unfolding_all rfl
  | some r => cases r <;> with_unfolding_all rfl
theorem wp_no : Wp E (fun _ => none : M α) ρ q = False := by with_unfolding_all rfl
theorem wp_iteP {c : Prop} [Decidable c] {m : M α} : Wp E (if c then m else fun _ => none) ρ q = (c ∧ Wp E m ρ q) := by
  by_cases h : c
  · rw [if_pos h]; simp [h]
  · rw [if_neg h]; simp [h, wp_no]
theorem wp_lft {o : Option D} : Wp E (lft o) ρ qd = Wl o fun d => qd d ρ := by cases o <;> with_unfolding_all rfl
theorem wl_some {d : D} {p : D → Prop} : Wl (some d) p = p d := by with_unfolding_all rfl
theorem wl_none {p : D → Prop} : Wl none p = False := by with_unfolding_all rfl
theorem wl_of {o : Option D} {d : D} {p : D → Prop} (h : o = some d) (hp : p d) : Wl o p := by rw [h]; exact hp
theorem wl_if {c : Prop} [Decidable c] {d : D} {p : D → Prop} : Wl (if c then some d else none) p = (c ∧ p d) := by
  by_cases h : c <;> simp [h, Wl]
theorem wo_some {s : Sl} {p : Sl → Prop} : Wo (some (some s)) p = p s := by with_unfolding_all rfl
theorem wp_var {i : Nat} : Wp E (vVar i) ρ qd = Wo ρ[i]? fun s => qd s.d (if s.o then ρ.set i (some ⟨false, s.d⟩) else ρ) := by
  unfold Wp vVar Wo
  cases ρ[i]? with
  | none => with_unfolding_all rfl
  | some r => cases r <;> with_unfolding_all rfl
theorem wp_get {i : Nat} : Wp E (vGet i) ρ qd = Wo ρ[i]? fun s => qd s.d ρ := by
  unfold Wp vGet Wo
  cases ρ[i]? with
  | none => with_unfolding_all rfl
  | some r => cases r <;> with_unfolding_all rfl
theorem wp_getO {i : Nat} : Wp E (getO i) ρ qd = Wo ρ[i]? fun s => s.o = true ∧ qd s.d ρ := by
  unfold Wp getO Wo
  cases ρ[i]? with
  | none => with_unfolding_all rfl
  | some r => cases r with
    | none => with_unfolding_all rfl
    | some s => rcases s with ⟨o, d⟩; cases o <;> simp
theorem wp_putO {i : Nat} {d : D} : Wp E (putO i d) ρ qu = qu () (ρ.set i (some ⟨true, d⟩)) := by with_unfolding_all rfl
theorem wp_setSh {i : Nat} {d : D} : Wp E (vSetSh i d) ρ qu = qu () (ρ.set i (some ⟨false, d⟩)) := by with_unfolding_all rfl
theorem wp_setOw {i : Nat} {d : D} : Wp E (vSetOw i d) ρ qu = qu () (ρ.set i (some ⟨isC d, d⟩)) := by with_unfolding_all rfl
theorem wp_op {p : D → D → Option D} {fa fb : M D} : Wp E (vOp p fa fb) ρ qd = Wp E fa ρ fun x ρ1 => Wp E fb ρ1 fun y ρ2 => Wl (p x y) fun d => qd d ρ2 := by simp only [vOp, wp_bnd, wp_lft]
theorem wp_opN {p : D → D → Option D} {i : Nat} {fb : M D} : Wp E (vOpN p i fb) ρ qd = ((ρ[i]?.join).isSome = true ∧ Wp E fb ρ fun y ρ1 => Wo ρ1[i]? fun s => Wl (p s.d y) fun d => qd d ρ1) := by
  have : Wp E (vOpN p i fb) ρ qd = ((ρ[i]?.join).isSome = true ∧ Wp E (vOpL p i fb) ρ qd) := by
    unfold vOpN Wp
    by_cases h : (ρ[i]?.join).isSome = true <;> simp [h]
  rw [this, vOpL]
  simp only [wp_bnd, wp_lft, wp_get]
theorem wp_T {f : M D} : Wp E (vT f) ρ qb = Wp E f ρ fun x ρ1 => match x with
    | .bool b => qb b ρ1
    | _ => False := by
  simp only [vT, wp_bnd]
  congr 1
  funext x ρ1
  cases x <;> with_unfolding_all rfl
theorem wp_chain {p p' : D → D → Option D} {fa fb fc : M D} : Wp E (vChain p p' fa fb fc) ρ qd = Wp E fa ρ fun x ρ1 => Wp E fb ρ1 fun y ρ2 => Wl (p x y) fun r => match r with
    | .bool b => (b = true → Wp E fc ρ2 fun z ρ3 => Wl (p' y z) fun d => qd d ρ3) ∧ (b = false → qd (.bool false) ρ2)
    | _ => False := by
  simp only [vChain, wp_bnd, wp_lft]
  congr 1
  funext x ρ1
  congr 1
  funext y ρ2
  congr 1
  funext r
  cases r with
  | bool b => cases b <;> simp [wp_bnd, wp_lft, wp_ret]
  | _ => with_unfolding_all rfl
theorem wp_and {fa fb : M D} : Wp E (vAnd fa fb) ρ qd = Wp E fa ρ fun x ρ1 => match x with
    | .bool b => (b = true → Wp E fb ρ1 qd) ∧ (b = false → qd (.bool false) ρ1)
    | _ => False := by
  simp only [vAnd, wp_bnd]
  congr 1
  funext x ρ1
  cases x with
  | bool b => cases b <;> simp [wp_ret]
  | _ => with_unfolding_all rfl
theorem wp_or {fa fb : M D} : Wp E (vOr fa fb) ρ qd = Wp E fa ρ fun x ρ1 => match x with
    | .bool b => (b = false → Wp E fb ρ1 qd) ∧ (b = true → qd (.bool true) ρ1)
    | _ => False := by
  simp only [vOr, wp_bnd]
  congr 1
  funext x ρ1
  cases x with
  | bool b => cases b <;> simp [wp_ret]
  | _ => with_unfolding_all rfl
theorem wp_not {fa : M D} : Wp E (vNot fa) ρ qd = Wp E fa ρ fun x ρ1 => match x with
    | .bool b => qd (.bool (!b)) ρ1
    | _ => False := by
  simp only [vNot, wp_bnd]
  congr 1
  funext x ρ1
  cases x <;> with_unfolding_all rfl
theorem wp_notT {t : M Bool} : Wp E (vNotT t) ρ qb = Wp E t ρ fun b ρ1 => qb (!b) ρ1 := by simp only [vNotT, wp_bnd, wp_ret]
theorem wp_ite {b : Bool} {fa fb : M α} : Wp E (if b then fa else fb) ρ q = ((b = true → Wp E fa ρ q) ∧ (b = false → Wp E fb ρ q)) := by cases b <;> simp
theorem wp_andT {t u : M Bool} : Wp E (vAndT t u) ρ qb = Wp E t ρ fun b ρ1 => (b = true → Wp E u ρ1 qb) ∧ (b = false → qb false ρ1) := by simp only [vAndT, wp_bnd, wp_ite, wp_ret]
theorem wp_orT {t u : M Bool} : Wp E (vOrT t u) ρ qb = Wp E t ρ fun b ρ1 => (b = true → qb true ρ1) ∧ (b = false → Wp E u ρ1 qb) := by simp only [vOrT, wp_bnd, wp_ite, wp_ret]
theorem wp_if {t : M Bool} {fa fb : M α} : Wp E (vIf t fa fb) ρ q = Wp E t ρ fun b ρ1 => (b = true → Wp E fa ρ1 q) ∧ (b = false → Wp E fb ρ1 q) := by simp only [vIf, wp_bnd, wp_ite]
theorem wp_nil : Wp E vNil ρ qs = qs [] ρ := by with_unfolding_all rfl
theorem wp_cons {f : M D} {fs : M (List D)} : Wp E (vCons f fs) ρ qs = Wp E f ρ fun x ρ1 => Wp E fs ρ1 fun xs ρ2 => qs (x :: xs) ρ2 := by simp only [vCons, wp_bnd, wp_ret]
theorem wp_tup {fs : M (List D)} : Wp E (vTup fs) ρ qd = Wp E fs ρ fun xs ρ1 => xs.length ≤ 1000 ∧ qd (.tuple xs) ρ1 := by simp only [vTup, wp_bnd, wp_lft, wl_if]
theorem wp_lst {fs : M (List D)} : Wp E (vLst fs) ρ qd = Wp E fs ρ fun xs ρ1 => xs.length ≤ 1000 ∧ qd (.list xs) ρ1 := by simp only [vLst, wp_bnd, wp_lft, wl_if]
theorem wp_c1 {p : D → Option D} {f : M D} : Wp E (vC1 p f) ρ qd = Wp E f ρ fun x ρ1 => Wl (p x) fun d => qd d ρ1 := by simp only [vC1, wp_bnd, wp_lft]
theorem wp_cN {p : List D → Option D} {f : M (List D)} : Wp E (vCN p f) ρ qd = Wp E f ρ fun x ρ1 => Wl (p x) fun d => qd d ρ1 := by simp only [vCN, wp_bnd, wp_lft]
theorem wp_seq {f g : M Fl} : Wp E (vSeq f g) ρ qf = Wp E f ρ fun fl ρ1 => match fl with
    | .nx => Wp E g ρ1 qf
    | x => qf x ρ1 := by
  simp only [vSeq, wp_bnd]
  congr 1
  funext fl ρ1
  cases fl <;> with_unfolding_all rfl
theorem wp_drop {f : M D} : Wp E (vDrop f) ρ qf = Wp E f ρ fun _ ρ1 => qf .nx ρ1 := by simp only [vDrop, wp_bnd, wp_ret]
theorem wp_rt {f : M D} : Wp E (vRet f) ρ qf = Wp E f ρ fun d ρ1 => qf (.rt d) ρ1 := by simp only [vRet, wp_bnd, wp_ret]
theorem wp_rtN {i : Nat} : Wp E (vRetN i) ρ qf = Wo ρ[i]? fun s => (isC s.d && !s.o) = false ∧ qf (.rt s.d) ρ := by
  unfold Wp vRetN Wo
  cases ρ[i]? with
  | none => with_unfolding_all rfl
  | some r => cases r with
    | none => with_unfolding_all rfl
    | some s => cases h : (isC s.d && !s.o) <;> simp [h]
theorem wp_set {i : Nat} {f : M D} : Wp E (vSet i f) ρ qf = Wp E f ρ fun d ρ1 => qf .nx (ρ1.set i (some ⟨false, d⟩)) := by simp only [vSet, wp_bnd, wp_ret, wp_setSh]
theorem wp_setO {i : Nat} {f : M D} : Wp E (vSetO i f) ρ qf = Wp E f ρ fun d ρ1 => qf .nx (ρ1.set i (some ⟨isC d, d⟩)) := by simp only [vSetO, wp_bnd, wp_ret, wp_setOw]
theorem wp_asg {f : M D} {g : D → M Unit} : Wp E (vAsg f g) ρ qf = Wp E f ρ fun d ρ1 => Wp E (g d) ρ1 fun _ ρ2 => qf .nx ρ2 := by simp only [vAsg, wp_bnd, wp_ret]
theorem wp_gtup {n : Nat} {gs : List D → M Unit} {ds : List D} : Wp E (vGTup n gs (.tuple ds)) ρ qu = (ds.length = n ∧ Wp E (gs ds) ρ qu) := by
  unfold vGTup
  by_cases h : ds.length = n <;> simp [h, wp_no]
theorem wp_gcons {g : D → M Unit} {gs : List D → M Unit} {d : D} {ds : List D} : Wp E (vGCons g gs (d :: ds)) ρ qu = Wp E (g d) ρ fun _ ρ1 => Wp E (gs ds) ρ1 qu := by simp only [vGCons, wp_bnd]
theorem wp_gnil : Wp E (vGNil []) ρ qu = qu () ρ := by with_unfolding_all rfl
theorem wp_par {i j : Nat} {fa fb : M D} : Wp E (vPar i j fa fb) ρ qf = Wp E fa ρ fun x ρ1 => Wp E fb ρ1 fun y ρ2 => qf .nx ((ρ2.set i (some ⟨false, x⟩)).set j (some ⟨isC y, y⟩)) := by simp only [vPar, wp_bnd, wp_ret, wp_setSh, wp_setOw]
theorem wp_parE {i j : Nat} {fa fb : M D} : Wp E (vParE i j fa fb) ρ qf = Wp E fa ρ fun x ρ1 => Wp E fb ρ1 fun y ρ2 => qf .nx ((ρ2.set i (some ⟨false, x⟩)).set j (some ⟨false, y⟩)) := by simp only [vParE, wp_bnd, wp_ret, wp_setSh]
theorem wp_put {i : Nat} {fb fe : M D} : Wp E (vPut i fb fe) ρ qf = Wp E fe ρ fun v ρ1 => Wo ρ1[i]? fun _ => Wp E fb ρ1 fun k ρ2 => Wo ρ2[i]? fun s => s.o = true ∧ Wl (dSet s.d k v) fun d => qf .nx (ρ2.set i (some ⟨true, d⟩)) := by simp only [vPut, wp_bnd, wp_ret, wp_get, wp_getO, wp_putO, wp_lft]
theorem wp_for0 {it : M (List D)} {g : D → M Unit} {b : M Fl} : Wp E (vFor it g b) ρ qf = Wp E it ρ fun xs ρ1 => Wp E (vForL g b xs) ρ1 qf := by simp only [vFor, wp_bnd]
theorem wp_itL {f : M D} : Wp E (vItL f) ρ qs = Wp E f ρ fun x ρ1 => match x with
    | .list ds => qs ds ρ1
    | _ => False := by
  simp only [vItL, wp_bnd]
  congr 1
  funext x ρ1
  cases x <;> with_unfolding_all rfl
theorem wp_itT {f : M D} : Wp E (vItT f) ρ qs = Wp E f ρ fun x ρ1 => match x with
    | .tuple ds => qs ds ρ1
    | _ => False := by
  simp only [vItT, wp_bnd]
  congr 1
  funext x ρ1
  cases x <;> with_unfolding_all rfl
theorem wp_itK {f : M D} : Wp E (vItK f) ρ qs = Wp E f ρ fun x ρ1 => match x with
    | .dict ds => qs (ds.map (·.1)) ρ1
    | _ => False := by
  simp only [vItK, wp_bnd]
  congr 1
  funext x ρ1
  cases x <;> with_unfolding_all rfl
theorem wp_rng1 {f : M D} : Wp E (vRng1 f) ρ qs = Wp E f ρ fun x ρ1 => match x with
    | .int j => (-(2 ^ 62) ≤ j ∧ j < 2 ^ 62) ∧ qs (rngD 0 j.toNat) ρ1
    | _ => False := by
  simp only [vRng1, wp_bnd]
  congr 1
  funext x ρ1
  cases x with
  | int j => show Wp E (if _ then _ else _) _ _ = _; rw [wp_iteP, wp_ret]
  | _ => with_unfolding_all rfl
theorem wp_rng2 {f g : M D} : Wp E (vRng2 f g) ρ qs = Wp E f ρ fun x ρ1 => Wp E g ρ1 fun y ρ2 => match x, y with
    | .int i, .int j => (-(2 ^ 62) ≤ i ∧ i < 2 ^ 62 ∧ -(2 ^ 62) ≤ j ∧ j < 2 ^ 62) ∧ qs (rngD i (j - i).toNat) ρ2
    | _, _ => False := by
  simp only [vRng2, wp_bnd]
  congr 1
  funext x ρ1
  congr 1
  funext y ρ2
  cases x with
  | int i => cases y with
    | int j => show Wp E (if _ then _ else _) _ _ = _; rw [wp_iteP, wp_ret]
    | _ => with_unfolding_all rfl
  | _ => with_unfolding_all rfl
theorem wp_zip {f g : M D} : Wp E (vZip f g) ρ qs = Wp E f ρ fun x ρ1 => Wp E g ρ1 fun y ρ2 => match x, y with
    | .list ds, .list es => qs (zipD ds es) ρ2
    | .tuple ds, .tuple es => qs (zipD ds es) ρ2
    | _, _ => False := by
  simp only [vZip, wp_bnd]
  congr 1
  funext x ρ1
  congr 1
  funext y ρ2
  cases x <;> cases y <;> with_unfolding_all rfl
theorem wp_call {mf : List D → Option Rf} {fs : M (List D)} : Wp E (vCall mf fs) ρ qd = Wp E fs ρ fun ds ρ1 => Fw E mf ds fun d _ => qd d ρ1 := by
  simp only [vCall, wp_bnd]
  congr 1
  funext ds ρ1
  unfold Wp Fw
  cases mf ds with
  | none => with_unfolding_all rfl
  | some r => cases r <;> with_unfolding_all rfl
theorem wp_here {j : Nat} {f : M (List D)} : Wp E (vHere j f) ρ qs = ((ρ[j]?.join).isSome = true ∧ Wp E f ρ qs) := by
  unfold vHere Wp
  by_cases h : (ρ[j]?.join).isSome = true <;> simp [h]
theorem wp_callQ {mf : List D → Option Rf} {n j : Nat} {fs : M (List D)} : Wp E (vCallQ mf n j fs) ρ qd = Wp E fs ρ fun ds ρ1 => Wo ρ1[j]? fun s => s.o = true ∧ Fw E mf (ds.take n ++ s.d :: ds.drop n) fun d os => match os with
    | [o] => isC o = true ∧ qd d (ρ1.set j (some ⟨true, o⟩))
    | _ => False := by
  simp only [vCallQ, wp_bnd, wp_getO]
  congr 1
  funext ds ρ1
  congr 1
  funext s
  congr 1
  unfold Wp Fw
  cases mf (ds.take n ++ s.d :: ds.drop n) with
  | none => with_unfolding_all rfl
  | some r => cases r with
    | exc e => with_unfolding_all rfl
    | ret d os => match os with
      | [] => with_unfolding_all rfl
      | [o] => cases h : isC o <;> simp [h]
      | _ :: _ :: _ => with_unfolding_all rfl
theorem wp_raise {c : String} : Wp E (vRaise c) ρ qf = E ⟨c, []⟩ := by with_unfolding_all rfl
theorem fw_run {np : Nat} {fx : List Nat} {n : Nat} {b : M Fl} {ds : List D} {p : D → List D → Prop} : Fw E (runF np fx n b) ds p = (ds.length = np ∧ Wp E b (ent fx n ds) fun fl ρ' => match fl, outsOf fx ρ' with
    | .rt d, some os => p d os
    | .nx, some os => p .none os
    | _, _ => False) := by
  unfold Fw runF
  by_cases h : ds.length = np
  · simp only [h, if_true, true_and]
    unfold Wp runR
    cases b (ent fx n ds) with
    | none => with_unfolding_all rfl
    | some r => cases r with
      | ex e => with_unfolding_all rfl
      | ok fl ρ' => cases fl <;> cases ho : outsOf fx ρ' <;> simp [ho]
  · simp [h]
/-! ### loops -/
theorem wp_for {g : D → M Unit} {b : M Fl} (I : List D → Ev → Prop) (step : ∀ x r ρ, I (x :: r) ρ → Wp E (g x) ρ fun _ ρ1 => Wp E b ρ1 fun fl ρ2 => match fl with
    | .nx => I r ρ2
    | .ct => I r ρ2
    | .bk => qf .nx ρ2
    | .rt d => qf (.rt d) ρ2) (post : ∀ ρ, I [] ρ → qf .nx ρ) : ∀ (xs : List D) (ρ : Ev), I xs ρ → Wp E (vForL g b xs) ρ qf
  | [], ρ, h => by simp only [vForL, wp_ret]; exact post ρ h
  | x :: r, ρ, h => by
    simp only [vForL, wp_bnd]
    refine (step x r ρ h).mono fun _ ρ1 h1 => h1.mono fun fl ρ2 h2 => ?_
    cases fl with
    | nx => exact wp_for I step post r ρ2 h2
    | ct => exact wp_for I step post r ρ2 h2
    | bk => simp only [wp_ret]; exact h2
    | rt d => simp only [wp_ret]; exact h2
theorem wp_while {t : M Bool} {b : M Fl} (I : Nat → Ev → Prop) (step : ∀ n ρ, I n ρ → Wp E t ρ fun c ρ1 => (c = false → qf .nx ρ1) ∧ (c = true → Wp E b ρ1 fun fl ρ2 => match fl with
    | .nx => ∃ m, m < n ∧ I m ρ2
    | .ct => ∃ m, m < n ∧ I m ρ2
    | .bk => qf .nx ρ2
    | .rt d => qf (.rt d) ρ2)) (n : Nat) (hI : I n ρ) (hn : n < 1000000000) : Wp E (vWhile t b) ρ qf := by
  have core : ∀ (k n : Nat) (ρ : Ev), n < k → I n ρ → Wp E (vWhileN k t b) ρ qf := by
    intro k
    induction k with
    | zero => intro n ρ hn _; omega
    | succ k ih =>
      intro n ρ hn h
      rw [vWhileN]
      simp only [wp_bnd, wp_ite]
      refine (step n ρ h).mono fun c ρ1 h1 => ⟨fun hc => ?_, fun hc => by simp only [wp_ret]; exact h1.1 hc⟩
      refine (h1.2 hc).mono fun fl ρ2 h2 => ?_
      cases fl with
      | nx => obtain ⟨m, hm, h3⟩ := h2; exact ih m ρ2 (by omega) h3
      | ct => obtain ⟨m, hm, h3⟩ := h2; exact ih m ρ2 (by omega) h3
      | bk => simp only [wp_ret]; exact h2
      | rt d => simp only [wp_ret]; exact h2
  exact core 1000000000 n ρ hn hI
theorem wp_lc0 {it : M (List D)} {vs : List Nat} {g : D → M Unit} {t : M Bool} {f : M D} : Wp E (vLc it vs g t f) ρ qd = Wp E it ρ fun xs ρ1 => noOwn ρ1 vs = true ∧ Wp (fun _ => False) (lcL vs g t f xs []) ρ1 fun acc ρ2 => qd (.list acc) (backE ρ1 ρ2 vs) := by
  simp only [vLc, wp_bnd]
  congr 1
  funext xs ρ1
  unfold Wp
  cases h : noOwn ρ1 vs with
  | false => simp [h]
  | true =>
    cases hl : lcL vs g t f xs [] ρ1 with
    | none => simp [h, hl]
    | some r => cases r <;> simp [h, hl]
theorem wp_lcL {vs : List Nat} {g : D → M Unit} {t : M Bool} {f : M D} (I : List D → List D → Ev → Prop) (step : ∀ x r acc ρ, I (x :: r) acc ρ → Wp E (g x) (wipeE ρ vs) fun _ ρ1 => Wp E t ρ1 fun c ρ2 => (c = false → I r acc ρ2) ∧ (c = true → Wp E f ρ2 fun y ρ3 => acc.length < sizeLine ∧ I r (acc ++ [y]) ρ3)) (post : ∀ acc ρ, I [] acc ρ → qs acc ρ) : ∀ (xs acc : List D) (ρ : Ev), I xs acc ρ → Wp E (lcL vs g t f xs acc) ρ qs
  | [], acc, ρ, h => by simp only [lcL, wp_ret]; exact post acc ρ h
  | x :: r, acc, ρ, h => by
    have e : Wp E (lcL vs g t f (x :: r) acc) ρ qs = Wp E (bnd (g x) (fun _ => bnd t fun b => if b then bnd f fun y => if acc.length < sizeLine then lcL vs g t f r (acc ++ [y]) else fun _ => none else lcL vs g t f r acc)) (wipeE ρ vs) qs := by with_unfolding_all rfl
    rw [e]
    simp only [wp_bnd, wp_ite]
    refine (step x r acc ρ h).mono fun _ ρ1 h1 => h1.mono fun c ρ2 h2 => ⟨fun hc => ?_, fun hc => ?_⟩
    · refine (h2.2 hc).mono fun y ρ3 h3 => ?_
      rw [if_pos h3.1]
      exact wp_lcL I step post r _ _ h3.2
    · exact wp_lcL I step post r _ _ (h2.1 hc)
/-! ### what operators want -/
theorem wl_add {i j : Int} {p : D → Prop} : Wl (dAdd (.int i) (.int j)) p = p (.int (i + j)) := rfl
theorem wl_addT {a b : List D} {p : D → Prop} : Wl (dAdd (.tuple a) (.tuple b)) p = (a.length + b.length ≤ sizeLine ∧ p (.tuple (a ++ b))) := by simp only [dAdd, wl_if]
theorem wl_addL {a b : List D} {p : D → Prop} : Wl (dAdd (.list a) (.list b)) p = (a.length + b.length ≤ sizeLine ∧ p (.list (a ++ b))) := by simp only [dAdd, wl_if]
theorem wl_sub {i j : Int} {p : D → Prop} : Wl (dSub (.int i) (.int j)) p = p (.int (i - j)) := rfl
theorem wl_mul {i j : Int} {p : D → Prop} : Wl (dMul (.int i) (.int j)) p = (CMul i j ∧ p (.int (i * j))) := by simp only [dMul, wl_if]
theorem wl_mulL {xs : List D} {k : Int} {p : D → Prop} : Wl (dMul (.list xs) (.int k)) p = ((-(2 ^ 63) ≤ k ∧ k < 2 ^ 63 ∧ xs.length * k.toNat ≤ sizeLine) ∧ p (.list (List.replicate k.toNat xs).flatten)) := by simp only [dMul, wl_if]
theorem wl_mod {i j : Int} {p : D → Prop} : Wl (dMod (.int i) (.int j)) p = (0 < j ∧ p (.int (i % j))) := by simp only [dMod, wl_if]
theorem wl_fdiv {i j : Int} {p : D → Prop} : Wl (dFdiv (.int i) (.int j)) p = ((0 < j ∧ j.natAbs.log2 < 9000) ∧ p (.int (i / j))) := by simp only [dFdiv, wl_if]
theorem wl_divmod {i j : Int} {p : D → Prop} : Wl (dDivmod [.int i, .int j]) p = ((0 < j ∧ j.natAbs.log2 < 9000) ∧ p (.tuple [.int (i / j), .int (i % j)])) := by simp only [dDivmod, wl_if]
theorem wl_lt {i j : Int} {p : D → Prop} : Wl (dLt (.int i) (.int j)) p = p (.bool (decide (i < j))) := rfl
theorem wl_gt {i j : Int} {p : D → Prop} : Wl (dGt (.int i) (.int j)) p = p (.bool (decide (j < i))) := rfl
theorem wl_le {i j : Int} {p : D → Prop} : Wl (dLe (.int i) (.int j)) p = p (.bool (!decide (j < i))) := rfl
theorem wl_ge {i j : Int} {p : D → Prop} : Wl (dGe (.int i) (.int j)) p = p (.bool (!decide (i < j))) := rfl
theorem wl_eq {i j : Int} {p : D → Prop} : Wl (dEq (.int i) (.int j)) p = p (.bool (decide (i = j))) := rfl
theorem wl_ne {i j : Int} {p : D → Prop} : Wl (dNe (.int i) (.int j)) p = p (.bool (!decide (i = j))) := rfl
theorem wl_lenL {xs : List D} {p : D → Prop} : Wl (dLen (.list xs)) p = p (.int xs.length) := rfl
theorem wl_lenT {xs : List D} {p : D → Prop} : Wl (dLen (.tuple xs)) p = p (.int xs.length) := rfl
theorem wl_lenD {xs : List (D × D)} {p : D → Prop} : Wl (dLen (.dict xs)) p = p (.int xs.length) := rfl
theorem wl_ixL {xs : List D} {i : Int} {p : D → Prop} : Wl (dIx (.list xs) (.int i)) p = Wl (L2.atI xs i) p := rfl
theorem wl_ixT {xs : List D} {i : Int} {p : D → Prop} : Wl (dIx (.tuple xs) (.int i)) p = Wl (L2.atI xs i) p := rfl
theorem wl_setL {xs : List D} {i : Int} {v : D} {p : D → Prop} : Wl (dSet (.list xs) (.int i) v) p = (match ixN xs.length i with
    | some j => p (.list (xs.set j v))
    | none => False) := by
  simp only [dSet]
  cases ixN xs.length i <;> rfl
theorem wl_abs {i : Int} {p : D → Prop} : Wl (dAbs (.int i)) p = p (.int (if i < 0 then -i else i)) := rfl
theorem wl_max2 {i j : Int} {p : D → Prop} : Wl (dMax2 [.int i, .int j]) p = p (.int (if j > i then j else i)) := rfl
theorem wl_min2 {i j : Int} {p : D → Prop} : Wl (dMin2 [.int i, .int j]) p = p (.int (if j < i then j else i)) := rfl
theorem wl_intB {b : Bool} {p : D → Prop} : Wl (dInt (.bool b)) p = p (.int (if b then 1 else 0)) := rfl
theorem wl_tupL {xs : List D} {p : D → Prop} : Wl (dTuple (.list xs)) p = p (.tuple xs) := rfl
end
end Cv
end
section
/-! Plain facts about data: tuples of whole numbers, dicts. -/
namespace Cv
open PySem L2
theorem isC_list {xs : List D} : isC (.list xs) = true := rfl
theorem isC_dict {xs : List (D × D)} : isC (.dict xs) = true := rfl
theorem isC_tup {xs : List D} : isC (.tuple xs) = false := rfl
theorem isC_int {i : Int} : isC (.int i) = false := rfl
theorem isC_bool {b : Bool} : isC (.bool b) = false := rfl
theorem isC_str {x : Str} : isC (.str x) = false := rfl
theorem isC_none : isC .none = false := rfl
/-- a tuple of whole numbers -/
def tI (x : List Int) : D := .tuple (x.map .int)
theorem isC_tI {x : List Int} : isC (tI x) = false := rfl
theorem nkAll_ints : ∀ x : List Int, nkAll (x.map .int) = some (x.map .num)
  | [] => by simp [nkAll]
  | a :: r => by simp [nkAll, nk, nkAll_ints r]
theorem nk_tI (x : List Int) : nk (tI x) = some (.tup (x.map .num)) := by
  unfold tI
  rw [nk, nkAll_ints]
theorem num_inj : ∀ x y : List Int, x.map NestedKey.num = y.map NestedKey.num → x = y
  | [], [], _ => rfl
  | [], _ :: _, h => by simp at h
  | _ :: _, [], h => by simp at h
  | a :: r, b :: t, h => by
    simp at h
    rw [h.1, num_inj r t (by simpa using h.2)]
theorem depth_num : ∀ x : List Int, NestedKey.depthAll (x.map .num) ≤ 1
  | [] => by simp [NestedKey.depthAll]
  | a :: r => by
    have := depth_num r
    simp only [List.map_cons, NestedKey.depthAll, NestedKey.depth]
    omega
section
variable {κ : Type} [DecidableEq κ]
structure KeyD (key : κ → D) : Type where
  n : κ → NestedKey
  nk : ∀ a, Cv.nk (key a) = some (n a)
  inj : ∀ a b, n a = n b → a = b
  ok : ∀ (kvs : List (κ × D)) a, kOk (kvs.map fun p => (key p.1, p.2)) (key a) = true
def keyI : KeyD PyData.int where
  n := .num
  nk := fun _ => rfl
  inj := fun a b h => by cases h; rfl
  ok := fun kvs a => by simp [kOk, keyOf]
def keyT : KeyD tI where
  n := fun x => .tup (x.map .num)
  nk := nk_tI
  inj := fun a b h => num_inj a b (by injection h)
  ok := fun kvs a => by
    have h := nk_tI a
    have hd := depth_num a
    unfold tI at h ⊢
    unfold kOk
    simp only [h]
    have : (NestedKey.tup (a.map .num)).depth ≤ 8 := by
      simp only [NestedKey.depth]
      omega
    simp [this, isT]
def gK : List (κ × D) → κ → Option D
  | [], _ => none
  | (b, x) :: r, a => if b = a then some x else gK r a
def pK (kvs : List (κ × D)) (a : κ) (v : D) : List (κ × D) := if (gK kvs a).isSome then kvs.map (fun p => if p.1 = a then (p.1, v) else p) else kvs ++ [(a, v)]
def dOf (key : κ → D) (kvs : List (κ × D)) : D := .dict (kvs.map fun p => (key p.1, p.2))
theorem gN_gK {key : κ → D} (k : KeyD key) (a : κ) : ∀ kvs : List (κ × D), gN (kvs.map fun p => (key p.1, p.2)) (k.n a) = gK kvs a
  | [] => rfl
  | (b, x) :: r => by
    simp only [List.map_cons, gN, gK, k.nk, Option.some.injEq]
    by_cases h : b = a
    · simp [h]
    · have : k.n b ≠ k.n a := fun e => h (k.inj _ _ e)
      simp [h, this, gN_gK k a r]
theorem dGet_of {key : κ → D} (k : KeyD key) (kvs : List (κ × D)) (a : κ) : dGet (kvs.map fun p => (key p.1, p.2)) (key a) = some (gK kvs a) := by
  simp only [dGet, k.ok, k.nk, if_true, gN_gK]
theorem wl_setD {key : κ → D} (k : KeyD key) {kvs : List (κ × D)} {a : κ} {v : D} {p : D → Prop} (hk : ∀ xs i, key a = .int i → dOf key kvs ≠ .list xs := by intro xs i h e; cases e) : Wl (dSet (dOf key kvs) (key a) v) p = (kvs.length < sizeLine ∧ p (dOf key (pK kvs a v))) := by
  have e : dSet (dOf key kvs) (key a) v = if kvs.length < sizeLine then some (dOf key (pK kvs a v)) else none := by
    simp only [dOf, dSet, k.ok, k.nk, Option.map_some, List.length_map, Bool.true_and, decide_eq_true_eq]
    congr 1
    simp only [putD, gN_gK, pK]
    split
    · simp only [List.map_map, Option.some.injEq, PyData.dict.injEq]
      refine List.map_congr_left fun p hp => ?_
      simp only [Function.comp_apply, k.nk, Option.some.injEq]
      by_cases h : p.1 = a
      · simp [h]
      · have : k.n p.1 ≠ k.n a := fun e => h (k.inj _ _ e)
        simp [h, this]
    · simp
  rw [e, wl_if]
theorem wl_ixD {key : κ → D} (k : KeyD key) {kvs : List (κ × D)} {a : κ} {p : D → Prop} : Wl (dIx (dOf key kvs) (key a)) p = Wl (gK kvs a) p := by
  have e : dIx (dOf key kvs) (key a) = gK kvs a := by
    simp only [dOf, dIx, dGet_of k, Option.join_some]
  rw [e]
theorem wl_inD {key : κ → D} (k : KeyD key) {kvs : List (κ × D)} {a : κ} {p : D → Prop} : Wl (dIn (key a) (dOf key kvs)) p = p (.bool (gK kvs a).isSome) := by
  have e : dIn (key a) (dOf key kvs) = some (.bool (gK kvs a).isSome) := by
    have : dInB (key a) (dOf key kvs) = some (gK kvs a).isSome := by
      simp only [dOf, dInB, dGet_of k, Option.map_some]
    simp only [dIn, this, Option.map_some]
  rw [e, wl_some]
theorem wl_niD {key : κ → D} (k : KeyD key) {kvs : List (κ × D)} {a : κ} {p : D → Prop} : Wl (dNotIn (key a) (dOf key kvs)) p = p (.bool (!(gK kvs a).isSome)) := by
  have e : dNotIn (key a) (dOf key kvs) = some (.bool (!(gK kvs a).isSome)) := by
    have : dInB (key a) (dOf key kvs) = some (gK kvs a).isSome := by
      simp only [dOf, dInB, dGet_of k, Option.map_some]
    simp only [dNotIn, this, Option.map_some]
  rw [e, wl_some]
theorem gK_pK (kvs : List (κ × D)) (a b : κ) (v : D) : gK (pK kvs a v) b = if a = b then some v else gK kvs b := by
  unfold pK
  split
  · rename_i h
    induction kvs with
    | nil => simp [gK] at h
    | cons p r ih =>
      rcases p with ⟨c, x⟩
      simp only [List.map_cons, gK] at h ⊢
      by_cases hc : c = a
      · subst hc
        by_cases hb : c = b
        · simp [gK, hb]
        · simp only [if_true, gK, hb, if_false]
          by_cases hr : (gK r c).isSome
          · simpa [hb] using ih hr
          · have : r.map (fun p => if p.1 = c then (p.1, v) else p) = r := by
              conv => rhs; rw [← List.map_id r]
              refine List.map_congr_left fun p hp => ?_
              by_cases hpc : p.1 = c
              · exfalso
                apply hr
                clear ih h
                induction r with
                | nil => cases hp
                | cons q t ih2 =>
                  rcases q with ⟨e, y⟩
                  simp only [gK]
                  by_cases he : e = c
                  · simp [he]
                  · simp only [he, if_false]
                    rcases List.mem_cons.1 hp with rfl | hp
                    · exact absurd hpc he
                    · exact ih2 (fun h => hr (by simpa [gK, he] using h)) hp
              · simp [hpc]
            rw [this]
      · simp only [hc, if_false, gK] at h ⊢
        by_cases hb : c = b
        · have : a ≠ b := fun e => hc (hb.trans e.symm)
          simp [hb, this]
        · simp only [hb, if_false]
          exact ih h
  · rename_i h
    induction kvs with
    | nil => simp [gK]
    | cons p r ih =>
      rcases p with ⟨c, x⟩
      simp only [gK, List.cons_append] at h ⊢
      by_cases hc : c = a
      · simp [hc] at h
      · simp only [hc, if_false] at h
        by_cases hb : c = b
        · have : a ≠ b := fun e => hc (hb.trans e.symm)
          simp [hb, this]
        · simp only [hb, if_false]
          exact ih h
theorem keys_pK (kvs : List (κ × D)) (a : κ) (v : D) : (pK kvs a v).map (·.1) = if (gK kvs a).isSome then kvs.map (·.1) else kvs.map (·.1) ++ [a] := by
  unfold pK
  split
  · simp only [List.map_map]
    refine List.map_congr_left fun p hp => ?_
    simp only [Function.comp_apply]
    split <;> rfl
  · simp
theorem gK_mem {kvs : List (κ × D)} {a : κ} : (gK kvs a).isSome = true ↔ a ∈ kvs.map (·.1) := by
  induction kvs with
  | nil => simp [gK]
  | cons p r ih =>
    rcases p with ⟨c, x⟩
    simp only [gK, List.map_cons, List.mem_cons]
    by_cases hc : c = a
    · simp [hc]
    · simp only [hc, if_false, ih]
      constructor
      · exact .inr
      · rintro (h | h)
        · exact absurd h.symm hc
        · exact h
end
abbrev dKI (kvs : List (Int × D)) : D := dOf PyData.int kvs
abbrev dKT (kvs : List (List Int × D)) : D := dOf tI kvs
theorem isC_dOf {κ : Type} {key : κ → D} {kvs : List (κ × D)} : isC (dOf key kvs) = true := rfl
theorem wl_setI {kvs : List (Int × D)} {i : Int} {v : D} {p : D → Prop} : Wl (dSet (dOf PyData.int kvs) (.int i) v) p = (kvs.length < sizeLine ∧ p (dOf PyData.int (pK kvs i v))) := wl_setD keyI
theorem wl_ixI {kvs : List (Int × D)} {i : Int} {p : D → Prop} : Wl (dIx (dOf PyData.int kvs) (.int i)) p = Wl (gK kvs i) p := wl_ixD keyI
theorem wl_inI {kvs : List (Int × D)} {i : Int} {p : D → Prop} : Wl (dIn (.int i) (dOf PyData.int kvs)) p = p (.bool (gK kvs i).isSome) := wl_inD keyI
theorem wl_niI {kvs : List (Int × D)} {i : Int} {p : D → Prop} : Wl (dNotIn (.int i) (dOf PyData.int kvs)) p = p (.bool (!(gK kvs i).isSome)) := wl_niD keyI
theorem wl_set4 {kvs : List (List Int × D)} {a b c d : Int} {v : D} {p : D → Prop} : Wl (dSet (dOf tI kvs) (.tuple [.int a, .int b, .int c, .int d]) v) p = (kvs.length < sizeLine ∧ p (dOf tI (pK kvs [a, b, c, d] v))) := wl_setD keyT (a := [a, b, c, d])
theorem wl_set2 {kvs : List (List Int × D)} {a b : Int} {v : D} {p : D → Prop} : Wl (dSet (dOf tI kvs) (.tuple [.int a, .int b]) v) p = (kvs.length < sizeLine ∧ p (dOf tI (pK kvs [a, b] v))) := wl_setD keyT (a := [a, b])
theorem wl_ix2 {kvs : List (List Int × D)} {a b : Int} {p : D → Prop} : Wl (dIx (dOf tI kvs) (.tuple [.int a, .int b])) p = Wl (gK kvs [a, b]) p := wl_ixD keyT (a := [a, b])
theorem wl_ni2 {kvs : List (List Int × D)} {a b : Int} {p : D → Prop} : Wl (dNotIn (.tuple [.int a, .int b]) (dOf tI kvs)) p = p (.bool (!(gK kvs [a, b]).isSome)) := wl_niD keyT (a := [a, b])
/-! ### sorted keys -/
theorem tI_lt (x y : List Int) : PySem.W.dataLt (tI x) (tI y) = HT.lexLt x y := by
  unfold tI PySem.W.dataLt
  rw [PySem.W.keyToks, PySem.W.keyToks]
  exact toks_ints x y
theorem tI_inj {x y : List Int} (h : tI x = tI y) : x = y := by
  unfold tI at h
  injection h with h
  exact (List.map_inj_right (fun a b e => by injection e)).1 h
/-- sorting by the order of tuples of whole numbers -/
def srt (xs : List (List Int)) : List (List Int) := xs.mergeSort fun x y => !HT.lexLt y x
theorem leDD_tI (x y : List Int) : leDD (tI x) (tI y) = !HT.lexLt y x := by unfold leDD; rw [tI_lt]
theorem srt_map (xs : List (List Int)) : (xs.map tI).mergeSort leDD = (srt xs).map tI := by
  unfold srt
  rw [List.map_mergeSort]
  intro a _ b _
  rw [leDD_tI]
theorem srt_perm (xs : List (List Int)) : (srt xs).Perm xs := List.mergeSort_perm _ _
theorem lexle_trans (x y z : List Int) (h1 : (!HT.lexLt y x) = true) (h2 : (!HT.lexLt z y) = true) : (!HT.lexLt z x) = true := by
  rw [Bool.not_eq_true'] at h1 h2 ⊢
  cases h : HT.lexLt z x with
  | false => rfl
  | true =>
    exfalso
    cases h3 : HT.lexLt x y with
    | true => rw [lex_trans z x y h h3] at h2; cases h2
    | false =>
      have := lex_tot x y h3 h1
      rw [this] at h
      rw [h] at h2
      cases h2
theorem lexle_tot (x y : List Int) : (!HT.lexLt y x || !HT.lexLt x y) = true := by
  cases h : HT.lexLt y x with
  | false => rfl
  | true =>
    cases h2 : HT.lexLt x y with
    | false => rfl
    | true =>
      have := lex_trans _ _ _ h h2
      rw [lex_irr] at this
      cases this
theorem srt_sorted (xs : List (List Int)) : (srt xs).Pairwise fun x y => (!HT.lexLt y x) = true := List.pairwise_mergeSort (fun a b c => lexle_trans a b c) (fun a b => lexle_tot a b) xs
theorem rises_srt : ∀ {ws : List (List Int)}, ws.Nodup → ws.Pairwise (fun x y => (!HT.lexLt y x) = true) → risesB ws = true
  | [], _, _ => rfl
  | [_], _, _ => rfl
  | x :: y :: r, hn, hp => by
    rw [risesB, Bool.and_eq_true]
    refine ⟨?_, rises_srt (List.nodup_cons.1 hn).2 (List.pairwise_cons.1 hp).2⟩
    have h1 := (List.pairwise_cons.1 hp).1 y (by simp)
    rw [Bool.not_eq_true'] at h1
    cases h : HT.lexLt x y with
    | true => rfl
    | false =>
      have := lex_tot x y h h1
      exact absurd this (fun e => (List.nodup_cons.1 hn).1 (by simp [e]))
theorem alike_tI (x y : List Int) : PySem.W.alike (tI x) (tI y) = true := by
  unfold tI
  rw [PySem.W.alike]
  exact alike_ints x y
theorem depth_tI (x : List Int) : (tI x).depth ≤ 3 := by
  have := depth_ints x
  unfold tI
  simp only [PyData.depth]
  omega
theorem depths_tI : ∀ xs : List (List Int), PyData.depthAll (xs.map tI) ≤ 4
  | [] => by simp [PyData.depthAll]
  | x :: r => by
    have := depth_tI x
    have := depths_tI r
    simp only [List.map_cons, PyData.depthAll]
    omega
theorem alikes_tI : ∀ xs : List (List Int), allAlike (xs.map tI) = true := by
  intro xs
  unfold allAlike
  simp [List.all_map, alike_tI]
theorem sortOk_tI {xs : List (List Int)} (hn : ∀ x ∈ xs, x ≠ []) (hl : xs.length ≤ 100000) : sortOk (xs.map tI) = true := by
  have h1 := alikes_tI xs
  have h2 : (xs.map tI).all isTup1 = true := by
    simp only [List.all_map, List.all_eq_true]
    intro x hx
    cases x with
    | nil => exact absurd rfl (hn _ hx)
    | cons a r => rfl
  have h3 := depths_tI xs
  unfold sortOk
  simp only [h1, h2, Bool.true_or, Bool.true_and, Bool.and_eq_true, decide_eq_true_eq, List.length_map]
  omega
theorem wl_sortD {kvs : List (List Int × D)} {p : D → Prop} (hn : ∀ x ∈ kvs.map (·.1), x ≠ []) (hl : kvs.length ≤ 100000) : Wl (dSorted (dOf tI kvs)) p = p (.list ((srt (kvs.map (·.1))).map tI)) := by
  have e : dSorted (dOf tI kvs) = some (.list ((srt (kvs.map (·.1))).map tI)) := by
    have hk : (kvs.map fun p => (tI p.1, p.2)).map (·.1) = (kvs.map (·.1)).map tI := by simp [List.map_map, Function.comp_def]
    simp only [dOf, dSorted, hk]
    rw [sortOk_tI hn (by simpa using hl), srt_map]
    have : (kvs.map fun p => (tI p.1, p.2)).all (fun p => isT p.1) = true := by
      simp only [List.all_map, List.all_eq_true]
      intro x _
      rfl
    simp [this]
  rw [e, wl_some]
end Cv
end
section
/-! More of what mirrors want: methods, slices, kinds, membership, order. -/
namespace Cv
open PySem L2
def Wr (o : Option (D × D)) (p : D → D → Prop) : Prop := match o with
  | some r => p r.1 r.2
  | none => False
section
variable {E : Ex → Prop} {ρ : Ev} {qd : D → Ev → Prop} {qo : Option Int → Ev → Prop}
theorem wp_is {g : D → Bool} {f : M D} : Wp E (vIs g f) ρ qd = Wp E f ρ fun x ρ1 => qd (.bool (g x)) ρ1 := by simp only [vIs, wp_bnd, wp_ret]
theorem wp_mw {T : String} {p : D → List D → Option (D × D)} {i : Nat} {fs : M (List D)} : Wp E (vMW T p i fs) ρ qd = Wo ρ[i]? fun s => tyD s.d = some T ∧ Wp E fs ρ fun xs ρ1 => Wo ρ1[i]? fun s' => s'.o = true ∧ Wr (p s'.d xs) fun d r => qd d (ρ1.set i (some ⟨true, r⟩)) := by
  simp only [vMW, wp_bnd, wp_get]
  congr 1
  funext s
  by_cases h : tyD s.d = some T
  · simp only [h, if_true, true_and, wp_bnd, wp_getO, wp_putO, wp_ret]
    congr 1
    funext xs ρ1
    congr 1
    funext s'
    congr 1
    cases p s'.d xs <;> with_unfolding_all rfl
  · simp only [h, if_false, false_and]
    with_unfolding_all rfl
theorem wp_neg {f : M D} : Wp E (vNeg f) ρ qd = Wp E f ρ fun x ρ1 => Wl (dNeg x) fun d => qd d ρ1 := by simp only [vNeg, wp_bnd, wp_lft]
theorem wp_sl {f : M D} {lo hi : M (Option Int)} : Wp E (vSl f lo hi) ρ qd = Wp E f ρ fun x ρ1 => Wp E lo ρ1 fun l ρ2 => Wp E hi ρ2 fun h ρ3 => Wl (dSl x l h) fun d => qd d ρ3 := by simp only [vSl, wp_bnd, wp_lft]
theorem wp_part {f : M D} : Wp E (vPart f) ρ qo = Wp E f ρ fun x ρ1 => match x with
    | .int i => qo (some i) ρ1
    | _ => False := by
  simp only [vPart, wp_bnd]
  congr 1
  funext x ρ1
  cases x <;> with_unfolding_all rfl
theorem wp_noPart : Wp E vNoPart ρ qo = qo none ρ := by with_unfolding_all rfl
end
section
variable {p : D → Prop} {p2 : D → D → Prop}
theorem wr_append {xs : List D} {y : D} : Wr (dAppend (.list xs) [y]) p2 = (xs.length < sizeLine ∧ p2 .none (.list (xs ++ [y]))) := by
  simp only [dAppend]
  by_cases h : xs.length < sizeLine <;> simp [h, Wr]
theorem wr_extend {xs ys : List D} : Wr (dExtend (.list xs) [.list ys]) p2 = (xs.length + ys.length ≤ sizeLine ∧ p2 .none (.list (xs ++ ys))) := by
  simp only [dExtend]
  by_cases h : xs.length + ys.length ≤ sizeLine <;> simp [h, Wr]
theorem ty_list {xs : List D} : tyD (.list xs) = some "list" := rfl
theorem wl_neg {i : Int} : Wl (dNeg (.int i)) p = p (.int (-i)) := rfl
theorem cutD_1 {α : Type} (xs : List α) : cutD xs (some 1) none = xs.tail := by
  unfold cutD HT.sIx
  simp
  cases xs with
  | nil => rfl
  | cons x r =>
    have h : min 1 (r.length + 1) = 1 := by omega
    simp
theorem wl_sl1T {xs : List D} : Wl (dSl (.tuple xs) (some 1) none) p = p (.tuple xs.tail) := by
  simp only [dSl, cutD_1, wl_some]
theorem wl_sl1L {xs : List D} : Wl (dSl (.list xs) (some 1) none) p = p (.list xs.tail) := by
  simp only [dSl, cutD_1, wl_some]
theorem blsOf_map : ∀ bs : List Bool, blsOf (bs.map .bool) = some bs
  | [] => rfl
  | b :: r => by simp [blsOf, blsOf_map r]
theorem wl_all {bs : List Bool} : Wl (dAll (.list (bs.map .bool))) p = p (.bool (bs.all id)) := by simp only [dAll, blsOf_map, Option.map_some, wl_some]
theorem wl_any {bs : List Bool} : Wl (dAny (.list (bs.map .bool))) p = p (.bool (bs.any id)) := by simp only [dAny, blsOf_map, Option.map_some, wl_some]
theorem isInt_int {i : Int} : PyData.isInt (.int i) = true := rfl
theorem isBool_int {i : Int} : PyData.isBool (.int i) = false := rfl
theorem isTuple_tup {xs : List D} : PyData.isTuple (.tuple xs) = true := rfl
theorem isTuple_tI {xs : List Int} : PyData.isTuple (tI xs) = true := rfl
theorem wl_lenI {xs : List Int} : Wl (dLen (tI xs)) p = p (.int xs.length) := by
  simp only [tI, dLen, wl_some, List.length_map]
theorem wl_ixtI {xs : List Int} {i : Int} : Wl (dIx (tI xs) (.int i)) p = Wl ((L2.atI xs i).map .int) p := by
  have e : dIx (tI xs) (.int i) = (L2.atI xs i).map .int := by
    simp only [tI, dIx, L2.atI, List.length_map]
    cases L2.ixN xs.length i with
    | none => rfl
    | some j => simp
  rw [e]
theorem gd_int {i : Int} : gd (.int i) = true := by
  have : (PyData.int i).plain = true := rfl
  simp [gd, this, PyData.depth]
theorem plains_int : ∀ xs : List Int, PyData.plainAll (xs.map .int) = true
  | [] => rfl
  | a :: r => by simp only [List.map_cons, PyData.plainAll, plains_int r]; rfl
theorem gdAll_ints (xs : List Int) : gdAll (xs.map .int) = true := by
  have := depth_ints xs
  simp only [gdAll, plains_int, Bool.true_and, decide_eq_true_eq]
  omega
theorem any_eqv (a : Int) (xs : List Int) : ((xs.map PyData.int).any fun y => PyData.eqv y (.int a)) = decide (a ∈ xs) := by
  rw [Bool.eq_iff_iff]
  simp only [List.any_map, List.any_eq_true, Function.comp_apply, decide_eq_true_eq]
  constructor
  · rintro ⟨x, hx, e⟩
    have : x = a := by simpa [PyData.eqv] using e
    rw [← this]
    exact hx
  · intro h
    exact ⟨a, h, by simp [PyData.eqv]⟩
theorem wl_inL {a : Int} {xs : List Int} : Wl (dIn (.int a) (.list (xs.map .int))) p = p (.bool (decide (a ∈ xs))) := by
  simp only [dIn, dInB, gd_int, gdAll_ints, Bool.true_and, if_true, Option.map_some, wl_some, any_eqv]
theorem wl_niL {a : Int} {xs : List Int} : Wl (dNotIn (.int a) (.list (xs.map .int))) p = p (.bool (!decide (a ∈ xs))) := by
  simp only [dNotIn, dInB, gd_int, gdAll_ints, Bool.true_and, if_true, Option.map_some, wl_some, any_eqv]
theorem wl_inT {a : Int} {xs : List Int} : Wl (dIn (.int a) (.tuple (xs.map .int))) p = p (.bool (decide (a ∈ xs))) := by
  simp only [dIn, dInB, gd_int, gdAll_ints, Bool.true_and, if_true, Option.map_some, wl_some, any_eqv]
theorem wl_inT2 {a b c : Int} : Wl (dIn (.int a) (.tuple [.int b, .int c])) p = p (.bool (decide (a = b ∨ a = c))) := by
  have := @wl_inT p a [b, c]
  simpa using this
theorem gd_tI (x : List Int) : gd (tI x) = true := by
  have h1 := depth_tI x
  have h2 : (tI x).plain = true := by
    unfold tI
    rw [PyData.plain]
    exact plains_int x
  simp only [gd, h2, Bool.true_and, decide_eq_true_eq]
  omega
theorem wl_ltT {x y : List Int} : Wl (dLt (tI x) (tI y)) p = p (.bool (HT.lexLt x y)) := by
  have e : dLtB (tI x) (tI y) = some (HT.lexLt x y) := by
    have h1 := gd_tI x
    have h2 := alike_tI x y
    have h3 : isN (tI x) = false := rfl
    have h4 := tI_lt x y
    unfold tI at *
    simp only [dLtB, h1, h2, h3, h4, Bool.not_false, Bool.and_true, if_true]
  simp only [dLt, e, Option.map_some, wl_some]
theorem wl_lt2 {a b c d : Int} : Wl (dLt (.tuple [.int a, .int b]) (.tuple [.int c, .int d])) p = p (.bool (HT.lexLt [a, b] [c, d])) := wl_ltT (x := [a, b]) (y := [c, d])
theorem eqv_tI (x y : List Int) : PyData.eqv (tI x) (tI y) = decide (x = y) := by
  unfold tI
  rw [PyData.eqv]
  exact eqv_ints x y
theorem wp_forN {E : Ex → Prop} {ρ : Ev} {qf : Fl → Ev → Prop} {g : D → M Unit} {b : M Fl} : Wp E (vForL g b []) ρ qf = qf .nx ρ := by with_unfolding_all rfl
theorem wp_forC {E : Ex → Prop} {ρ : Ev} {qf : Fl → Ev → Prop} {g : D → M Unit} {b : M Fl} {x : D} {r : List D} : Wp E (vForL g b (x :: r)) ρ qf = Wp E (g x) ρ fun _ ρ1 => Wp E b ρ1 fun fl ρ2 => match fl with
    | .nx => Wp E (vForL g b r) ρ2 qf
    | .ct => Wp E (vForL g b r) ρ2 qf
    | .bk => qf .nx ρ2
    | .rt d => qf (.rt d) ρ2 := by
  simp only [vForL, wp_bnd]
  congr 1
  funext _ ρ1
  congr 1
  funext fl ρ2
  cases fl <;> with_unfolding_all rfl
end
/-- a list that is the last part of a mapped one -/
theorem cons_map {α : Type} {key : α → D} {x : D} {r : List D} {vs : List α} (h : x :: r = vs.map key) : ∃ v vs', vs = v :: vs' ∧ x = key v ∧ r = vs'.map key := by
  cases vs with
  | nil => cases h
  | cons v vs' =>
    injection h with h1 h2
    exact ⟨v, vs', rfl, h1, h2⟩
theorem nil_map {α : Type} {key : α → D} {vs : List α} (h : [] = vs.map key) : vs = [] := by
  cases vs with
  | nil => rfl
  | cons _ _ => cases h
end Cv
end
section
/-! Plain: rounds of bettering, in place. -/
namespace Cv
open PySem L2
section
variable {ws : List (List Int)} {s : Int}
theorem reach_down {n : Nat} (hw : ∀ x ∈ ws, WayOk n x) (hj : Joined n ws) : ∀ k : Nat, k < n → ∀ x, Wk ws s k x → ∃ z, Wk ws s 0 z ∧ z.1 ≤ x.1 + 99 * k := by
  intro k
  induction k using Nat.strongRecOn with
  | ind k ih =>
    intro hk x hx
    by_cases h0 : k = 0
    · subst h0
      exact ⟨x, hx, by omega⟩
    · obtain ⟨y, hy, a, l, f, rfl⟩ := hj k (by omega) (by omega)
      obtain ⟨a', b', l', f', e, h1, h2, h3, h4, h5, h6, h7⟩ := hw _ hy
      simp at e
      obtain ⟨rfl, rfl, rfl, rfl⟩ := e
      obtain ⟨j, rfl⟩ : ∃ j : Nat, a = j := ⟨a.toNat, by omega⟩
      obtain ⟨z, hz, hl⟩ := ih j (by omega) (by omega) _ (.step hx ⟨l, .inr hy⟩)
      refine ⟨z, hz, ?_⟩
      simp [extP] at hl
      omega
theorem reach_up {n : Nat} (hw : ∀ x ∈ ws, WayOk n x) (hj : Joined n ws) : ∀ k : Nat, k < n → ∀ x, Wk ws s 0 x → ∃ z, Wk ws s k z ∧ z.1 ≤ x.1 + 99 * k := by
  intro k
  induction k using Nat.strongRecOn with
  | ind k ih =>
    intro hk x hx
    by_cases h0 : k = 0
    · subst h0
      exact ⟨x, hx, by omega⟩
    · obtain ⟨y, hy, a, l, f, rfl⟩ := hj k (by omega) (by omega)
      obtain ⟨a', b', l', f', e, h1, h2, h3, h4, h5, h6, h7⟩ := hw _ hy
      simp at e
      obtain ⟨rfl, rfl, rfl, rfl⟩ := e
      obtain ⟨j, rfl⟩ : ∃ j : Nat, a = j := ⟨a.toNat, by omega⟩
      obtain ⟨z, hz, hl⟩ := ih j (by omega) (by omega) x hx
      refine ⟨extP z f k, .step hz ⟨l, .inl hy⟩, ?_⟩
      simp [extP]
      omega
theorem reach_far {n : Nat} (hn : n ≤ 10) (hw : ∀ x ∈ ws, WayOk n x) (hj : Joined n ws) (hs : 0 ≤ s ∧ s < n) {v : Int} (hv : 0 ≤ v ∧ v < n) : ∃ z, Wk ws s v z ∧ z.1 ≤ ((1782 : Nat) : Int) := by
  obtain ⟨i, rfl⟩ : ∃ i : Nat, s = i := ⟨s.toNat, by omega⟩
  obtain ⟨k, rfl⟩ : ∃ k : Nat, v = k := ⟨v.toNat, by omega⟩
  obtain ⟨z, hz, h1⟩ := reach_down (s := (i : Int)) hw hj i (by omega) _ .nil
  obtain ⟨y, hy, h2⟩ := reach_up hw hj k (by omega) z hz
  refine ⟨y, hy, ?_⟩
  simp at h1
  omega
theorem bf_step2 (hp : ∀ u v f, Edg ws u v f → 1 ≤ f) {r : Nat} {F G : Int → Option Pth} (hF : Walks ws s F) (h : BF ws s r F) (hb : Btr G F) (hr : ∀ u v f x, F u = some x → Edg ws u v f → ∃ x' z, Wk ws s u x' ∧ leP x' x ∧ G v = some z ∧ leP z (extP x' f v)) : BF ws s (r + 1) G := by
  intro v y hy hl
  cases hy with
  | nil =>
    obtain ⟨x, hx, l⟩ := h s (0, [s]) .nil (by simp)
    obtain ⟨z, hz, l2⟩ := hb _ _ hx
    exact ⟨z, hz, leP_trans l2 l⟩
  | @step u _ f y hy e =>
    have hl' : y.2.length ≤ r + 1 := by
      simp [extP] at hl
      exact hl
    obtain ⟨x, hx, _⟩ := h u y hy hl'
    obtain ⟨x', z, hw, hle, hz, l⟩ := hr u v f x hx e
    refine ⟨z, hz, leP_trans l (ext_le hp hw hy hl' fun w hw2 hwl => ?_)⟩
    obtain ⟨x2, hx2, l'⟩ := h u w hw2 hwl
    rw [hx] at hx2
    cases hx2
    exact leP_trans hle l'
/-- within a round -/
structure Rnd (ws : List (List Int)) (s : Int) (F0 F : Int → Option Pth) (S : List (Int × Int × Int × Int)) (b : Bool) : Prop where
  walks : Walks ws s F
  btr : Btr F F0
  done : ∀ u v f l, (u, v, f, l) ∈ S → ∀ x, F0 u = some x → ∃ x' z, Wk ws s u x' ∧ leP x' x ∧ F v = some z ∧ leP z (extP x' f v) ∧ (b = false → x' = x)
  same : b = false → F = F0
theorem Rnd.start {F : Int → Option Pth} (h : Walks ws s F) : Rnd ws s F F [] false := ⟨h, Btr.refl F, fun u v f l hm => (by cases hm), fun _ => rfl⟩
theorem Rnd.none {F0 F : Int → Option Pth} {S : List (Int × Int × Int × Int)} {b : Bool} (R : Rnd ws s F0 F S b) {u v f l : Int} (hu : F u = Option.none) : Rnd ws s F0 F (S ++ [(u, v, f, l)]) b := by
  refine ⟨R.walks, R.btr, fun u' v' f' l' hm x hx => ?_, R.same⟩
  rcases List.mem_append.1 hm with hm | hm
  · exact R.done u' v' f' l' hm x hx
  · simp at hm
    obtain ⟨rfl, rfl, rfl, rfl⟩ := hm
    obtain ⟨y, hy, _⟩ := R.btr _ _ hx
    rw [hu] at hy
    cases hy
theorem Rnd.pass {F0 F : Int → Option Pth} {S : List (Int × Int × Int × Int)} {b : Bool} (R : Rnd ws s F0 F S b) {u v f l : Int} {x z : Pth} (hu : F u = some x) (hv : F v = some z) (hn : ltP (extP x f v) z = false) : Rnd ws s F0 F (S ++ [(u, v, f, l)]) b := by
  refine ⟨R.walks, R.btr, fun u' v' f' l' hm x0 hx0 => ?_, R.same⟩
  rcases List.mem_append.1 hm with hm | hm
  · exact R.done u' v' f' l' hm x0 hx0
  · simp at hm
    obtain ⟨rfl, rfl, rfl, rfl⟩ := hm
    obtain ⟨y, hy, hl⟩ := R.btr _ _ hx0
    rw [hu] at hy
    cases hy
    refine ⟨x, z, R.walks _ _ hu, hl, hv, hn, fun hb => ?_⟩
    rw [R.same hb] at hu
    rw [hu] at hx0
    injection hx0
theorem Rnd.put {F0 F : Int → Option Pth} {S : List (Int × Int × Int × Int)} {b : Bool} (R : Rnd ws s F0 F S b) {u v f l : Int} {x : Pth} (hu : F u = some x) (he : Edg ws u v f) (hv : ∀ z, F v = some z → ltP (extP x f v) z = true) : Rnd ws s F0 (fun z => if z = v then some (extP x f v) else F z) (S ++ [(u, v, f, l)]) true := by
  have hb : Btr (fun z => if z = v then some (extP x f v) else F z) F := by
    intro z y hy
    by_cases e : z = v
    · subst e
      exact ⟨_, if_pos rfl, leP_of_lt (hv _ hy)⟩
    · exact ⟨y, by simp only [if_neg e]; exact hy, leP_refl _⟩
  refine ⟨fun z y hy => ?_, hb.trans R.btr, fun u' v' f' l' hm x0 hx0 => ?_, fun z => by cases z⟩
  · by_cases e : z = v
    · subst e
      simp at hy
      rw [← hy]
      exact .step (R.walks _ _ hu) he
    · simp only [if_neg e] at hy
      exact R.walks _ _ hy
  · rcases List.mem_append.1 hm with hm | hm
    · obtain ⟨x', z, h1, h2, h3, h4, _⟩ := R.done u' v' f' l' hm x0 hx0
      obtain ⟨z', h5, h6⟩ := hb _ _ h3
      exact ⟨x', z', h1, h2, h5, leP_trans h6 h4, fun z => by cases z⟩
    · simp at hm
      obtain ⟨rfl, rfl, rfl, rfl⟩ := hm
      obtain ⟨y, hy, hl⟩ := R.btr _ _ hx0
      rw [hu] at hy
      cases hy
      exact ⟨x, _, R.walks _ _ hu, hl, if_pos rfl, leP_refl _, fun z => by cases z⟩
theorem Rnd.bf {F0 F : Int → Option Pth} {b : Bool} {r : Nat} (hp : ∀ u v f, Edg ws u v f → 1 ≤ f) (R : Rnd ws s F0 F (dirs ws) b) (hF : Walks ws s F0) (h : BF ws s r F0) : BF ws s (r + 1) F :=
  bf_step2 hp hF h R.btr fun u v f x hx ⟨l, he⟩ => by
    obtain ⟨x', z, h1, h2, h3, h4, _⟩ := R.done u v f l (mem_dirs.2 he) x hx
    exact ⟨x', z, h1, h2, h3, h4⟩
theorem BF.less {r k : Nat} {F : Int → Option Pth} (h : BF ws s r F) (hk : k ≤ r) : BF ws s k F := fun v y hy hl => h v y hy (by omega)
/-- a round without a change: all is best -/
theorem Rnd.best {F0 F : Int → Option Pth} {r : Nat} (hp : ∀ u v f, Edg ws u v f → 1 ≤ f) (R : Rnd ws s F0 F (dirs ws) false) (h : BF ws s r F0) : (∀ v x, F v = some x → Best ws s v x) ∧ ∀ v y, Wk ws s v y → ∃ x, F v = some x := by
  have e := R.same rfl
  subst e
  have hall := bf_all hp R.walks (h.less (Nat.zero_le r)) fun u v f x hx ⟨l, he⟩ => by
    obtain ⟨x', z, h1, h2, h3, h4, h5⟩ := R.done u v f l (mem_dirs.2 he) x hx
    rw [h5 rfl] at h4
    exact ⟨z, h3, h4⟩
  refine ⟨fun v x hx => bf_best R.walks hall hx, fun v y hy => ?_⟩
  obtain ⟨x, hx, _⟩ := hall y.2.length v y hy (by omega)
  exact ⟨x, hx⟩
end
end Cv
end
section
/-! zip of two tuples whose pair may still be held: the turn for a name as target. -/
namespace Cv
open PySem L2 RZ
abbrev ZipAt (h : Heap) (z TI TO : Addr) (f0 f1 : Value) : Prop := h.get? z = some { cls := .type "zip", dict := none, data := .fields #[f0, f1, .bool false, .ref TI, .ref TO], slots := #[] }
def Lent (f0 f1 : Value) : Prop := (f0 = .none ∧ f1 = .bool false) ∨ ∃ (T : Addr) (f : Bool), f0 = rawInt T ∧ f1 = .bool f
section
variable {prog : Program} {w : World} {A : Around} {E : Value → Shared → Prop} {s : Shared}
theorem load_alive {a : Addr} {Q : Option Obj → Shared → Prop} (h : Q (s.heap.get? a) s) : wpAny (model prog w) A (loadIfAlive a) Q E s := fun _ _ _ => h
theorem zip_free {z TI TO : Addr} {f0 f1 : Value} {Q : Bool → Shared → Prop} (Hz : ZipAt s.heap z TI TO f0 f1) (hf : Lent f0 f1) (yes : Q true s) (no : ∀ (T : Addr) h', ZipAt h' z TI TO (rawInt T) (.bool true) → Heap.SameBut z s.heap h' → Q false { s with heap := h' }) :
    wpAny (model prog w) A (Builtin.SmallTypes.ownedTupleIsFree (.ref z)) Q E s := by
  unfold Builtin.SmallTypes.ownedTupleIsFree
  rcases hf with ⟨rfl, rfl⟩ | ⟨T, f, rfl, rfl⟩
  · exact wpAny_bind (wpAny_field Hz rfl (x := .none) rfl (wpAny_pure yes))
  · refine wpAny_bind (wpAny_field Hz rfl (x := rawInt T) rfl ?_)
    show wpAny _ _ (loadIfAlive ((T : Int).toNat) >>= fun _ => _) _ _ _
    rw [Int.toNat_natCast]
    refine wpAny_bind (load_alive ?_)
    cases hT : s.heap.get? T with
    | none =>
      simp only [Option.isNone_none, if_true]
      exact wpAny_pure yes
    | some oT =>
      simp only [Option.isNone_some, Bool.false_eq_true, if_false]
      refine wpAny_bind (wpAny_field Hz rfl (x := .bool f) rfl ?_)
      cases f with
      | true =>
        have c1 : (Value.bool true != Value.bool true) = false := rfl
        simp only [c1, Bool.false_eq_true, if_false]
        exact wpAny_pure (no T s.heap Hz (Heap.SameBut.refl _ _))
      | false =>
        have c1 : (Value.bool false != Value.bool true) = true := rfl
        simp only [c1, if_true]
        exact wpAny_bind (wpAny_setField_rec Hz (by simp) fun g₁ Hz₁ e₁ => wpAny_pure (no T g₁ Hz₁ e₁))
theorem zipN_item {z TI TO i1 i2 l1 l2 : Addr} {k1 k2 : Nat} {xs ys : Array Value} {x y a b f0 f1 : Value} {Q : Value → Shared → Prop} (D : ZipApart z TI TO i1 i2 l1 l2)
    (Hz : ZipAt s.heap z TI TO f0 f1) (hf : Lent f0 f1) (HI : IsPair s.heap TI (.ref i1) (.ref i2)) (HO' : IsPair s.heap TO a b)
    (j1 : s.heap.IsTupleIter i1 l1 k1) (j2 : s.heap.IsTupleIter i2 l2 k2) (t1 : s.heap.IsTuple l1 xs) (t2 : s.heap.IsTuple l2 ys) (hx : xs[k1]? = some x) (hy : ys[k2]? = some y)
    (hQ : ∀ h' f0' f1', ZipAt h' z TI TO f0' f1' → Lent f0' f1' → (∃ u v, IsPair h' TO u v) → h'.IsTupleIter i1 l1 (k1 + 1) → h'.IsTupleIter i2 l2 (k2 + 1) → IsPair h' s.heap.objs.size x y →
      (∀ c o, c ≠ z → c ≠ TO → c ≠ i1 → c ≠ i2 → s.heap.get? c = some o → h'.get? c = some o) → Q (.ref s.heap.objs.size) { s with heap := h' }) :
    wpAny (model prog w) A (Builtin.«zip.__next__» ⟨[.ref z], []⟩) (fun fin s' => ∃ v, fin = .done (.ret v) ∧ Q v s') E s := by
  show wpAny _ _ (field (.ref z) 2 >>= fun _ => _) _ _ _
  refine wpAny_bind (wpAny_field Hz rfl (x := .bool false) rfl ?_)
  show wpAny _ _ (field (.ref z) 3 >>= fun _ => _) _ _ _
  refine wpAny_bind (wpAny_field Hz rfl (x := .ref TI) rfl ?_)
  refine wpAny_bind (wpAny_seqItems HI rfl ?_)
  show wpAny _ _ (Builtin.SmallTypes.ownedTupleIsFree (.ref z) >>= fun _ => _) _ _ _
  refine wpAny_bind (zip_free Hz hf ?_ fun T g₁ Hz₁ e₁ => ?_)
  · simp only [if_true]
    refine wpAny_bind (wpAny_rule (wpAny_bind (wpAny_field Hz rfl (x := .ref TO) rfl ?_)))
    refine wpAny_bind (wpAny_setField_rec Hz (by simp) fun g₁ Hz₁ e₁ => ?_)
    replace Hz₁ : ZipAt g₁ z TI TO .ellipsis f1 := Hz₁
    refine wpAny_bind ?_
    simp only [List.zipIdx_cons, List.zipIdx_nil, List.forIn_cons, List.forIn_nil]
    refine wpAny_bind (wpAny_bind (wpAny_onRaise ?_))
    show wpAny _ _ (Builtin.SmallTypes.nextOf (.ref i1) >>= fun _ => _) _ _ _
    refine wpAny_bind (nextOf_tuple_item (j1.extBut e₁.extBut D.i1z) (t1.extBut e₁.extBut D.l1z) hx fun g₂ j1₂ e₂ => wpAny_pure ?_)
    have O₂ : IsPair g₂ TO a b := e₂.extBut _ _ D.TOi1 (e₁.extBut _ _ D.TOz HO')
    refine wpAny_bind (wpAny_seqItems O₂ rfl (wpAny_bind (wpAny_updateSeq_pair O₂ fun g₃ O₃ e₃ => ?_)))
    replace O₃ : IsPair g₃ TO x b := O₃
    refine wpAny_bind (wpAny_letGo (wpAny_pure (wpAny_bind (wpAny_bind (wpAny_onRaise ?_)))))
    show wpAny _ _ (Builtin.SmallTypes.nextOf (.ref i2) >>= fun _ => _) _ _ _
    refine wpAny_bind (nextOf_tuple_item (((j2.extBut e₁.extBut D.i2z).extBut e₂.extBut D.i12.symm).extBut e₃.extBut D.TOi2.symm)
      (((t2.extBut e₁.extBut D.l2z).extBut e₂.extBut D.l2i1).extBut e₃.extBut D.l2TO) hy fun g₄ j2₄ e₄ => wpAny_pure ?_)
    have O₄ : IsPair g₄ TO x b := e₄.extBut _ _ D.TOi2 O₃
    refine wpAny_bind (wpAny_seqItems O₄ rfl (wpAny_bind (wpAny_updateSeq_pair O₄ fun g₅ O₅ e₅ => ?_)))
    replace O₅ : IsPair g₅ TO x y := O₅
    refine wpAny_bind (wpAny_letGo (wpAny_pure (wpAny_pure (wpAny_bind (wpAny_seqItems O₅ rfl (wpAny_bind (wpAny_newTuple ?_)))))))
    have sz : g₅.objs.size = s.heap.objs.size := by rw [e₅.1, e₄.1, e₃.1, e₂.1, e₁.1]
    have Hz₅ : ZipAt g₅ z TI TO .ellipsis f1 := e₅.extBut _ _ D.TOz.symm (e₄.extBut _ _ D.i2z.symm (e₃.extBut _ _ D.TOz.symm (e₂.extBut _ _ D.i1z.symm Hz₁)))
    have kp : ∀ c o, c ≠ z → c ≠ TO → c ≠ i1 → c ≠ i2 → s.heap.get? c = some o → g₅.get? c = some o := fun c o n1 n2 n3 n4 e =>
      e₅.extBut _ _ n2 (e₄.extBut _ _ n4 (e₃.extBut _ _ n2 (e₂.extBut _ _ n3 (e₁.extBut _ _ n1 e))))
    have J1 : g₅.IsTupleIter i1 l1 (k1 + 1) := ((j1₂.extBut e₃.extBut D.TOi1.symm).extBut e₄.extBut D.i12).extBut e₅.extBut D.TOi1.symm
    have J2 : g₅.IsTupleIter i2 l2 (k2 + 1) := j2₄.extBut e₅.extBut D.TOi2.symm
    have zl : z < g₅.objs.size := Heap.lt_size Hz₅
    show wpAny _ _ (Builtin.SmallTypes.ownedTupleHandOut (.ref z) (.ref g₅.objs.size) >>= fun _ => _) _ _ _
    refine wpAny_bind ?_
    unfold Builtin.SmallTypes.ownedTupleHandOut
    have Hz₆ : ZipAt (g₅.push { cls := .type "tuple", data := .seq #[x, y] }) z TI TO .ellipsis f1 := Heap.get?_push_of_some _ Hz₅
    refine wpAny_bind (wpAny_setField_rec Hz₆ (by simp) fun g₇ Hz₇ e₇ => ?_)
    replace Hz₇ : ZipAt g₇ z TI TO (rawInt g₅.objs.size) f1 := Hz₇
    refine wpAny_setField_rec Hz₇ (by simp) fun g₈ Hz₈ e₈ => ?_
    replace Hz₈ : ZipAt g₈ z TI TO (rawInt g₅.objs.size) (.bool false) := Hz₈
    have up : ∀ c o, c ≠ z → g₅.get? c = some o → g₈.get? c = some o := fun c o n1 e => e₈.extBut _ _ n1 (e₇.extBut _ _ n1 (Heap.get?_push_of_some _ e))
    have P₈ : IsPair g₈ g₅.objs.size x y := e₈.extBut _ _ (Nat.ne_of_gt zl) (e₇.extBut _ _ (Nat.ne_of_gt zl) (Heap.get?_push_size _ rfl))
    refine wpAny_pure ⟨_, rfl, ?_⟩
    rw [sz] at Hz₈ P₈
    show Q (.ref g₅.objs.size) _
    rw [sz]
    exact hQ g₈ _ _ Hz₈ (.inr ⟨_, _, rfl, rfl⟩) ⟨x, y, up _ _ D.TOz O₅⟩ (J1.at fun o e => up _ o D.i1z e) (J2.at fun o e => up _ o D.i2z e) P₈ fun c o n1 n2 n3 n4 e => up c o n1 (kp c o n1 n2 n3 n4 e)
  · simp only [Bool.false_eq_true, if_false]
    refine wpAny_bind ?_
    rw [← Array.forIn_toList]
    simp only [List.forIn_cons, List.forIn_nil]
    refine wpAny_bind (wpAny_bind (wpAny_holding ?_))
    show wpAny _ _ (Builtin.SmallTypes.nextOf (.ref i1) >>= fun _ => _) _ _ _
    refine wpAny_bind (nextOf_tuple_item (s := { s with heap := g₁ }) (j1.extBut e₁.extBut D.i1z) (t1.extBut e₁.extBut D.l1z) hx fun g₂ j1₂ e₂ => wpAny_pure ?_)
    refine wpAny_pure (wpAny_bind (wpAny_bind (wpAny_holding ?_)))
    show wpAny _ _ (Builtin.SmallTypes.nextOf (.ref i2) >>= fun _ => _) _ _ _
    refine wpAny_bind (nextOf_tuple_item (s := { s with heap := g₂ }) ((j2.extBut e₁.extBut D.i2z).extBut e₂.extBut D.i12.symm) ((t2.extBut e₁.extBut D.l2z).extBut e₂.extBut D.l2i1) hy fun g₃ j2₃ e₃ => wpAny_pure ?_)
    refine wpAny_pure (wpAny_pure ?_)
    show wpAny _ _ (newTuple [x, y] >>= fun _ => _) _ _ _
    refine wpAny_bind (wpAny_newTuple (wpAny_pure ⟨_, rfl, ?_⟩))
    have sz : g₃.objs.size = s.heap.objs.size := by rw [e₃.1, e₂.1, e₁.1]
    have Hz₃ : ZipAt g₃ z TI TO (rawInt T) (.bool true) := e₃.extBut _ _ D.i2z.symm (e₂.extBut _ _ D.i1z.symm Hz₁)
    have kp : ∀ c o, c ≠ z → c ≠ i1 → c ≠ i2 → s.heap.get? c = some o → g₃.get? c = some o := fun c o n1 n2 n3 e => e₃.extBut _ _ n3 (e₂.extBut _ _ n2 (e₁.extBut _ _ n1 e))
    have J1 : g₃.IsTupleIter i1 l1 (k1 + 1) := j1₂.extBut e₃.extBut D.i12
    show Q (.ref g₃.objs.size) _
    have P : IsPair (g₃.push { cls := .type "tuple", data := .seq #[x, y] }) g₃.objs.size x y := Heap.get?_push_size _ rfl
    rw [sz] at P ⊢
    exact hQ _ _ _ (Heap.get?_push_of_some _ Hz₃) (.inr ⟨_, _, rfl, rfl⟩) ⟨a, b, Heap.get?_push_of_some _ (kp _ _ D.TOz D.TOi1 D.TOi2 HO')⟩ (J1.at fun o e => Heap.get?_push_of_some _ e) (j2₃.at fun o e => Heap.get?_push_of_some _ e) P fun c o n1 _ n3 n4 e => Heap.get?_push_of_some _ (kp c o n1 n3 n4 e)
theorem zipN_end {z TI TO i1 i2 l1 l2 : Addr} {k1 k2 : Nat} {xs ys : Array Value} {a b f0 f1 : Value} {Q : Fin → Shared → Prop} (hh : A.handled = none) (D : ZipApart z TI TO i1 i2 l1 l2)
    (Hz : ZipAt s.heap z TI TO f0 f1) (hf : Lent f0 f1) (HI : IsPair s.heap TI (.ref i1) (.ref i2)) (HO' : IsPair s.heap TO a b)
    (j1 : s.heap.IsTupleIter i1 l1 k1) (j2 : s.heap.IsTupleIter i2 l2 k2) (t1 : s.heap.IsTuple l1 xs) (t2 : s.heap.IsTuple l2 ys) (hend : xs[k1]? = none ∨ ys[k2]? = none)
    (hE : ∀ h' e, (∀ c o, c ≠ z → c ≠ TO → c ≠ i1 → c ≠ i2 → s.heap.get? c = some o → h'.get? c = some o) → (∃ o, h'.get? e = some o ∧ o.cls = .type "StopIteration") → E (.ref e) { s with heap := h' }) :
    wpAny (model prog w) A (Builtin.«zip.__next__» ⟨[.ref z], []⟩) Q E s := by
  show wpAny _ _ (field (.ref z) 2 >>= fun _ => _) _ _ _
  refine wpAny_bind (wpAny_field Hz rfl (x := .bool false) rfl ?_)
  show wpAny _ _ (field (.ref z) 3 >>= fun _ => _) _ _ _
  refine wpAny_bind (wpAny_field Hz rfl (x := .ref TI) rfl ?_)
  refine wpAny_bind (wpAny_seqItems HI rfl ?_)
  show wpAny _ _ (Builtin.SmallTypes.ownedTupleIsFree (.ref z) >>= fun _ => _) _ _ _
  refine wpAny_bind (zip_free Hz hf ?_ fun T g₁ Hz₁ e₁ => ?_)
  · simp only [if_true]
    refine wpAny_bind (wpAny_rule (wpAny_bind (wpAny_field Hz rfl (x := .ref TO) rfl ?_)))
    refine wpAny_bind (wpAny_setField_rec Hz (by simp) fun g₁ Hz₁ e₁ => ?_)
    replace Hz₁ : ZipAt g₁ z TI TO .ellipsis f1 := Hz₁
    refine wpAny_bind ?_
    simp only [List.zipIdx_cons, List.zipIdx_nil, List.forIn_cons, List.forIn_nil]
    refine wpAny_bind (wpAny_bind (wpAny_onRaise ?_))
    show wpAny _ _ (Builtin.SmallTypes.nextOf (.ref i1) >>= fun _ => _) _ _ _
    cases hx : xs[k1]? with
    | none =>
      refine wpAny_bind (nextOf_tuple_end hh (j1.extBut e₁.extBut D.i1z) (t1.extBut e₁.extBut D.l1z) hx fun g₂ e e₂ he => ?_)
      obtain ⟨oe, he1, he2⟩ := he
      have Hz₂ : ZipAt g₂ z TI TO .ellipsis f1 := e₂ _ _ D.i1z.symm Hz₁
      have ne : e ≠ z := fun q => by subst q; rw [Hz₂] at he1; cases he1; simp at he2
      exact wpAny_setField_rec Hz₂ (by simp) fun g₃ _ e₃ => hE g₃ e (fun c o n1 _ n3 _ q => e₃.extBut _ _ n1 (e₂ _ _ n3 (e₁.extBut _ _ n1 q))) ⟨oe, e₃.extBut _ _ ne he1, he2⟩
    | some x =>
      have hy : ys[k2]? = none := by
        rcases hend with q | q
        · rw [hx] at q; cases q
        · exact q
      refine wpAny_bind (nextOf_tuple_item (j1.extBut e₁.extBut D.i1z) (t1.extBut e₁.extBut D.l1z) hx fun g₂ j1₂ e₂ => wpAny_pure ?_)
      have O₂ : IsPair g₂ TO a b := e₂.extBut _ _ D.TOi1 (e₁.extBut _ _ D.TOz HO')
      refine wpAny_bind (wpAny_seqItems O₂ rfl (wpAny_bind (wpAny_updateSeq_pair O₂ fun g₃ O₃ e₃ => ?_)))
      refine wpAny_bind (wpAny_letGo (wpAny_pure (wpAny_bind (wpAny_bind (wpAny_onRaise ?_)))))
      show wpAny _ _ (Builtin.SmallTypes.nextOf (.ref i2) >>= fun _ => _) _ _ _
      refine wpAny_bind (nextOf_tuple_end hh (((j2.extBut e₁.extBut D.i2z).extBut e₂.extBut D.i12.symm).extBut e₃.extBut D.TOi2.symm)
        (((t2.extBut e₁.extBut D.l2z).extBut e₂.extBut D.l2i1).extBut e₃.extBut D.l2TO) hy fun g₄ e e₄ he => ?_)
      obtain ⟨oe, he1, he2⟩ := he
      have Hz₄ : ZipAt g₄ z TI TO .ellipsis f1 := e₄ _ _ D.i2z.symm (e₃.extBut _ _ D.TOz.symm (e₂.extBut _ _ D.i1z.symm Hz₁))
      have ne : e ≠ z := fun q => by subst q; rw [Hz₄] at he1; cases he1; simp at he2
      exact wpAny_setField_rec Hz₄ (by simp) fun g₅ _ e₅ => hE g₅ e (fun c o n1 n2 n3 n4 q => e₅.extBut _ _ n1 (e₄ _ _ n4 (e₃.extBut _ _ n2 (e₂.extBut _ _ n3 (e₁.extBut _ _ n1 q))))) ⟨oe, e₅.extBut _ _ ne he1, he2⟩
  · simp only [Bool.false_eq_true, if_false]
    refine wpAny_bind ?_
    rw [← Array.forIn_toList]
    simp only [List.forIn_cons, List.forIn_nil]
    refine wpAny_bind (wpAny_bind (wpAny_holding ?_))
    show wpAny _ _ (Builtin.SmallTypes.nextOf (.ref i1) >>= fun _ => _) _ _ _
    cases hx : xs[k1]? with
    | none =>
      refine wpAny_bind (nextOf_tuple_end (s := { s with heap := g₁ }) hh (j1.extBut e₁.extBut D.i1z) (t1.extBut e₁.extBut D.l1z) hx fun g₂ e e₂ he => ?_)
      exact hE g₂ e (fun c o n1 _ n3 _ q => e₂ _ _ n3 (e₁.extBut _ _ n1 q)) he
    | some x =>
      have hy : ys[k2]? = none := by
        rcases hend with q | q
        · rw [hx] at q; cases q
        · exact q
      refine wpAny_bind (nextOf_tuple_item (s := { s with heap := g₁ }) (j1.extBut e₁.extBut D.i1z) (t1.extBut e₁.extBut D.l1z) hx fun g₂ j1₂ e₂ => wpAny_pure ?_)
      refine wpAny_pure (wpAny_bind (wpAny_bind (wpAny_holding ?_)))
      show wpAny _ _ (Builtin.SmallTypes.nextOf (.ref i2) >>= fun _ => _) _ _ _
      refine wpAny_bind (nextOf_tuple_end (s := { s with heap := g₂ }) hh ((j2.extBut e₁.extBut D.i2z).extBut e₂.extBut D.i12.symm) ((t2.extBut e₁.extBut D.l2z).extBut e₂.extBut D.l2i1) hy fun g₃ e e₃ he => ?_)
      exact hE g₃ e (fun c o n1 _ n3 n4 q => e₃ _ _ n4 (e₂.extBut _ _ n3 (e₁.extBut _ _ n1 q))) he
theorem next_zipN {z TI TO i1 i2 l1 l2 : Addr} {k1 k2 : Nat} {xs ys : Array Value} {x y a b f0 f1 : Value} {Q : Option Value → Shared → Prop} (D : ZipApart z TI TO i1 i2 l1 l2)
    (Hz : ZipAt s.heap z TI TO f0 f1) (hf : Lent f0 f1) (HI : IsPair s.heap TI (.ref i1) (.ref i2)) (HO' : IsPair s.heap TO a b)
    (j1 : s.heap.IsTupleIter i1 l1 k1) (j2 : s.heap.IsTupleIter i2 l2 k2) (t1 : s.heap.IsTuple l1 xs) (t2 : s.heap.IsTuple l2 ys) (hx : xs[k1]? = some x) (hy : ys[k2]? = some y)
    (hQ : ∀ h' f0' f1', ZipAt h' z TI TO f0' f1' → Lent f0' f1' → (∃ u v, IsPair h' TO u v) → h'.IsTupleIter i1 l1 (k1 + 1) → h'.IsTupleIter i2 l2 (k2 + 1) → IsPair h' s.heap.objs.size x y →
      (∀ c o, c ≠ z → c ≠ TO → c ≠ i1 → c ≠ i2 → s.heap.get? c = some o → h'.get? c = some o) → Q (some (.ref s.heap.objs.size)) { s with heap := h' }) :
    wpAny (model prog w) A (pyNext (.ref z)) Q E s := by
  have ty : s.TypeIs (.ref z) "zip" := ⟨_, Hz, rfl⟩
  unfold pyNext
  exact wpAny_bind (wpAny_attempt (wpAny_callSpecial?_slot (name := Str.ofString "__next__") ty F.slot_zip_next
    (wpAny_call_entry F.slot_zip_next ty F.entry_zip_next (zipN_item D Hz hf HI HO' j1 j2 t1 t2 hx hy fun h' g0 g1 a1 a2 a3 a4 a5 a6 a7 => wpAny_pure (hQ h' g0 g1 a1 a2 a3 a4 a5 a6 a7)) (F.args_zip_next_1 _))))
theorem stop_zipN {z TI TO i1 i2 l1 l2 : Addr} {k1 k2 : Nat} {xs ys : Array Value} {a b f0 f1 : Value} {Q : Option Value → Shared → Prop} (hh : A.handled = none) (D : ZipApart z TI TO i1 i2 l1 l2)
    (Hz : ZipAt s.heap z TI TO f0 f1) (hf : Lent f0 f1) (HI : IsPair s.heap TI (.ref i1) (.ref i2)) (HO' : IsPair s.heap TO a b)
    (j1 : s.heap.IsTupleIter i1 l1 k1) (j2 : s.heap.IsTupleIter i2 l2 k2) (t1 : s.heap.IsTuple l1 xs) (t2 : s.heap.IsTuple l2 ys) (hend : xs[k1]? = none ∨ ys[k2]? = none)
    (hQ : ∀ h', (∀ c o, c ≠ z → c ≠ TO → c ≠ i1 → c ≠ i2 → s.heap.get? c = some o → h'.get? c = some o) → Q none { s with heap := h' }) : wpAny (model prog w) A (pyNext (.ref z)) Q E s := by
  have ty : s.TypeIs (.ref z) "zip" := ⟨_, Hz, rfl⟩
  unfold pyNext
  refine wpAny_bind (wpAny_attempt (wpAny_callSpecial?_slot (name := Str.ofString "__next__") ty F.slot_zip_next
    (wpAny_call_entry F.slot_zip_next ty F.entry_zip_next (zipN_end hh D Hz hf HI HO' j1 j2 t1 t2 hend fun h' e hk he => ?_) (F.args_zip_next_1 _))))
  obtain ⟨o, ho, hc⟩ := he
  exact wpAny_bind (wpAny_isInstance (T := "StopIteration") (b := true) ⟨o, ho, hc⟩ isSubtype_stop (wpAny_pure (hQ _ hk)))
end
/-- the tuples at a and b as they stand, each pair a new one, locked -/
def ItzF (K : PySem.W.Frag) (a b : Addr) : It :=
  ⟨fun i H => ∃ (xs ys : List V) (x y : V), SqT K H a xs ∧ SqT K H b ys ∧ xs[i]? = some x ∧ ys[i]? = some y,
    fun i H v H' => ∃ T x y, v = .ref T ∧ H T = none ∧ (∃ o : Obj, o.dict = none ∧ H' = upd H T (.frz o (.tup [x, y]))) ∧ (∀ xs, SqT K H a xs → xs[i]? = some x) ∧ ∀ ys, SqT K H b ys → ys[i]? = some y,
    fun i H => ∃ xs ys : List V, SqT K H a xs ∧ SqT K H b ys ∧ (xs.length ≤ i ∨ ys.length ≤ i)⟩
/-- the turn, the target a name -/
theorem turn_zipN {P : Program} {w : World} {K : PySem.W.Frag} {n : Str} {np : Pos} {a b z TI TO i1 i2 : Addr} (D : ZipApart z TI TO i1 i2 a b) :
    Turn P w K (.Name n np) (ItzF K a b) [z, TI, TO, i1, i2] z (fun i h => (∃ f0 f1, ZipAt h z TI TO f0 f1 ∧ Lent f0 f1) ∧ IsPair h TI (.ref i1) (.ref i2) ∧ (∃ x y, IsPair h TO x y) ∧ h.IsTupleIter i1 a i ∧ h.IsTupleIter i2 b i) where
  mem := by simp
  obj := fun i h st c hc => by
    obtain ⟨⟨f0, f1, Hz, _⟩, HI, ⟨x, y, HO'⟩, ⟨o1, q1, _, d1⟩, ⟨o2, q2, _, d2⟩⟩ := st
    simp only [List.mem_cons, List.not_mem_nil, or_false] at hc
    rcases hc with rfl | rfl | rfl | rfl | rfl
    · exact ⟨_, Hz, fun v q => nomatch q⟩
    · exact ⟨_, HI, fun v q => nomatch q⟩
    · exact ⟨_, HO', fun v q => nomatch q⟩
    · exact ⟨o1, q1, fun v q => by rw [d1] at q; cases q⟩
    · exact ⟨o2, q2, fun v q => by rw [d2] at q; cases q⟩
  keep := fun i h h' st k => by
    obtain ⟨⟨f0, f1, Hz, hf⟩, HI, ⟨x, y, HO'⟩, j1, j2⟩ := st
    exact ⟨⟨f0, f1, k z (by simp) _ Hz, hf⟩, k TI (by simp) _ HI, ⟨x, y, k TO (by simp) _ HO'⟩, j1.at fun o q => k i1 (by simp) o q, j2.at fun o q => k i2 (by simp) o q⟩
  item := by
    intro X hP hw hK hc i pins s σ H E I hfp st hg
    subst hP hw hK
    obtain ⟨⟨f0, f1, Hz, hf⟩, HI, ⟨x0, y0, HO'⟩, j1, j2⟩ := st
    obtain ⟨xs, ys, x, y, sx, sy, hx, hy⟩ := hg
    obtain ⟨its, rv, p, _⟩ := I.tuple sx
    obtain ⟨its2, rv2, p2, _⟩ := I.tuple sy
    obtain ⟨u, hu, ru⟩ := rv.get hx
    obtain ⟨u2, hu2, ru2⟩ := rv2.get hy
    refine next_zipN D Hz hf HI HO' j1 j2 p p2 (x := u) (y := u2) (by simpa using hu) (by simpa using hu2) fun h' f0' f1' Hz' hf' O' J1 J2 hT hk => ?_
    have new : ObjOk X.prog X.w (upd H s.heap.objs.size (.frz { cls := .type "tuple", data := .seq #[u, u2] } (.tup [x, y]))) h' s.heap.objs.size (.frz { cls := .type "tuple", data := .seq #[u, u2] } (.tup [x, y])) :=
      ⟨hT, by show 2 ≤ sizeLine; decide, [u, u2], .cons ru (.cons ru2 .nil), ⟨_, hT, rfl, _, rfl⟩⟩
    have I1 : Inv X pins σ (upd H s.heap.objs.size (.frz { cls := .type "tuple", data := .seq #[u, u2] } (.tup [x, y]))) { s with heap := h' } :=
      I.turnedNew (t' := s.toks) (ch := [z, TI, TO, i1, i2]) (fun c o hb q => hk c o (fun q' => hb (by simp [q'])) (fun q' => hb (by simp [q'])) (fun q' => hb (by simp [q'])) (fun q' => hb (by simp [q'])) q) hfp (Nat.le_refl _) new
    refine ⟨_, rfl, wpAny_pure ⟨.ref s.heap.objs.size, _, I1, rfl, ⟨_, x, y, rfl, I.hok.fresh (Nat.le_refl _), ⟨_, rfl, rfl⟩, fun l hl => by rw [I.tuple_inj hl sx]; exact hx, fun l hl => by rw [I.tuple_inj hl sy]; exact hy⟩, ⟨⟨f0', f1', Hz', hf'⟩, hk _ _ D.TIz D.TITO D.TIi1 D.TIi2 HI, O', J1, J2⟩, fun c hcm => ?_⟩⟩
    have hlt : c < s.heap.objs.size := by
      simp only [List.mem_cons, List.not_mem_nil, or_false] at hcm
      rcases hcm with rfl | rfl | rfl | rfl | rfl
      · exact Heap.lt_size Hz
      · exact Heap.lt_size HI
      · exact Heap.lt_size HO'
      · obtain ⟨_, q, _⟩ := j1; exact Heap.lt_size q
      · obtain ⟨_, q, _⟩ := j2; exact Heap.lt_size q
    rw [upd_ne (Nat.ne_of_lt hlt)]
    exact (hfp c hcm).1
  done := by
    intro X hP hw hK hc i pins s σ H E I hfp st hg
    subst hP hw hK
    obtain ⟨⟨f0, f1, Hz, hf⟩, HI, ⟨x0, y0, HO'⟩, j1, j2⟩ := st
    obtain ⟨xs, ys, sx, sy, hend⟩ := hg
    obtain ⟨its, rv, p, _⟩ := I.tuple sx
    obtain ⟨its2, rv2, p2, _⟩ := I.tuple sy
    have n1 := rv.length
    have n2 := rv2.length
    have he : its.toArray[i]? = none ∨ its2.toArray[i]? = none := by
      rcases hend with q | q
      · exact .inl (by simp; omega)
      · exact .inr (by simp; omega)
    exact stop_zipN (I.ok.hd hc) D Hz hf HI HO' j1 j2 p p2 he fun h' hk => ⟨rfl, I.turnedL (t' := s.toks) (ch := [z, TI, TO, i1, i2]) (fun c o hb q => hk c o (fun q' => hb (by simp [q'])) (fun q' => hb (by simp [q'])) (fun q' => hb (by simp [q'])) (fun q' => hb (by simp [q'])) q) hfp⟩
  self := fun A i s Q E st h => by
    obtain ⟨⟨f0, f1, Hz, hf⟩, _⟩ := st
    have ty : s.TypeIs (.ref z) "zip" := ⟨_, Hz, rfl⟩
    refine wpAny_pyIter_slot ty F.slot_zip_iter (wpAny_call_entry F.slot_zip_iter ty F.entry_zip_iter ?_ (F.args_zip_iter_1 _))
    show wpAny _ _ (PySem.ret (.ref z)) _ _ s
    exact wpAny_pure ⟨_, rfl, "zip", _, ty, F.slot_zip_next.lookup, h⟩
def vZipT (f g : M D) : M (List D) := bnd f fun x => bnd g fun y => match x, y with
  | .tuple ds, .tuple es => ret (zipD ds es)
  | _, _ => fun _ => none
theorem wp_zipT {E : Ex → Prop} {ρ : Ev} {qs : List D → Ev → Prop} {f g : M D} : Wp E (vZipT f g) ρ qs = Wp E f ρ fun x ρ1 => Wp E g ρ1 fun y ρ2 => match x, y with
    | .tuple ds, .tuple es => qs (zipD ds es) ρ2
    | _, _ => False := by
  simp only [vZipT, wp_bnd]
  congr 1
  funext x ρ1
  congr 1
  funext y ρ2
  cases x <;> cases y <;> with_unfolding_all rfl
def iZipN (K : PySem.W.Frag) (ta : TA) : TI := fun σ H R => ta σ H fun vs H1 => ∃ a b xs ys, vs = [.ref a, .ref b] ∧ SqT K H1 a xs ∧ SqT K H1 b ys ∧ R (ItzF K a b) H1
theorem pi_zipN {X : Cx} {e e2 : Expr} {ta : TA} {p pos np : Pos} {n : Str} (hg : Gl X "zip") (hm : X.mg "zip" = none) (ha : PA X [e, e2] ta)
    (hs : starEach [e, e2] X.env = (false, eval e X.env) :: starEach [e2] X.env := by rfl) (hpl : (backTo pos (starEach [e2] X.env)).any (·.1) = false := by rfl) :
    PI X (.Name n np) (.Call (.Name "zip" p) [e, e2] [] pos) (iZipN X.K ta) := by
  refine ⟨fun pins s σ H R I h => PyProof.Rows.Call_ (ld_blt I hg hm PyProof.Rows.boot_zip (PyProof.Rows.callWith_type1 (thn (ha.run pos pins s σ H _ I h) fun us s1 ⟨vs, H1, I1, r1, q1⟩ => ?_) hs hpl))⟩
  obtain ⟨a, b, xs, ys, rfl, sx, sy, q⟩ := q1
  cases r1 with
  | cons ra rr =>
    cases rr with
    | cons rb rr =>
      cases rr
      cases ra
      cases rb
      obtain ⟨its, rv, p1, _⟩ := I1.tuple sx
      obtain ⟨its2, rv2, p2, _⟩ := I1.tuple sy
      obtain ⟨o1, q1, _⟩ := id p1
      obtain ⟨o2, q2, _⟩ := id p2
      refine call_zipT (show s1.heap.IsTuple a its.toArray from p1) (show s1.heap.IsTuple b its2.toArray from p2) fun g Hz HI HO' j1 j2 _ hk => wpAny_pyIter_zip Hz ?_
      have I2 : Inv X pins σ H1 { s1 with heap := g } := I1.kept (t' := s1.toks) hk
      refine ⟨s1.heap.objs.size + 4, [s1.heap.objs.size + 4, s1.heap.objs.size + 2, s1.heap.objs.size + 3, s1.heap.objs.size, s1.heap.objs.size + 1], _, _, H1, rfl, I2, turn_zipN (PySem.W.ktu_apart s1.heap.objs.size a b (Heap.lt_size q1) (Heap.lt_size q2)), ⟨⟨_, _, Hz, .inl ⟨rfl, rfl⟩⟩, HI, ⟨_, _, HO'⟩, j1, j2⟩, fun c hc => ?_, q⟩
      have hle : s1.heap.objs.size ≤ c := by
        simp only [List.mem_cons, List.not_mem_nil, or_false] at hc
        rcases hc with rfl | rfl | rfl | rfl | rfl
        all_goals first
          | exact Nat.le_refl _
          | exact Nat.le_add_right _ _
      exact I1.fpOk hle (I1.hok.fresh hle)
def YFrz (f g : Nat → Option V) : Nat → Hp → V → Hp → Prop := fun i H v H' => ∃ T x y, v = .ref T ∧ H T = none ∧ (∃ o : Obj, o.dict = none ∧ H' = upd H T (.frz o (.tup [x, y]))) ∧ f i = some x ∧ g i = some y
theorem walk_zipF {K : PySem.W.Frag} {a b : Addr} {xs ys : List V} {n : Nat} (hn : n = min xs.length ys.length) : Walk (ItzF K a b) n (fun H => SqT K H a xs ∧ SqT K H b ys) (YFrz (fun i => xs[i]?) (fun i => ys[i]?)) := by
  subst hn
  refine ⟨fun i _ hi q => ?_, fun _ q => ⟨xs, ys, q.1, q.2, by omega⟩, fun i H v H' _ q y => ?_⟩
  · have h1 : i < xs.length := by omega
    have h2 : i < ys.length := by omega
    exact ⟨xs, ys, xs[i], ys[i], q.1, q.2, by simp [h1], by simp [h2]⟩
  · obtain ⟨T, x, z, h1, h2, h3, h4, h5⟩ := y
    exact ⟨T, x, z, h1, h2, h3, h4 xs q.1, h5 ys q.2⟩
theorem itv_frz {Z : Zx} {J : It} {H1 : Hp} {xs ys : List V} {ds es : List D} {n : Nat} {Gd : Hp → Prop} (hn : n = min xs.length ys.length) (w : Walk J n Gd (YFrz (fun i => xs[i]?) (fun i => ys[i]?))) (hG : ∀ H2, Fz H1 H2 → Gd H2) (sx : ShAll Z H1 xs ds) (sy : ShAll Z H1 ys es) : ItV Sh Z J (zipD ds es) H1 := by
  have hl : (zipD ds es).length = n := by simp [zipD, hn, sx.length, sy.length]
  refine ⟨Gd, _, hl.symm ▸ w, hG, fun i H2 x H3 hi f hy => ?_⟩
  obtain ⟨T, x, y, rfl, hT, ⟨o, ho, rfl⟩, hx, hy⟩ := hy
  obtain ⟨d, hd, sd⟩ := (sx.up f).get' hx
  obtain ⟨e, he, se⟩ := (sy.up f).get' hy
  have sm := sm_upd (o := .frz o (.tup [x, y])) hT
  refine ⟨sm, .tuple [d, e], ?_, .tup (.inl ⟨o, ho, upd_same⟩) (.cons (sd.up (Same.fz sm)) (.cons (se.up (Same.fz sm)) .nil))⟩
  simp [zipD, List.getElem?_zipWith, hd, he]
section
variable {X : Cx} {G : Gh} {a b : Expr} {fa fb : M D} {p pos : Pos}
theorem vi_zipN {n : Str} {np : Pos} (hg : Gl X "zip") (hm : X.mg "zip" = none) (ha : VE X G a fa) (hb : VE X G b fb) (hZ : G.Z = zx X := by rfl) (hs : starEach [a, b] X.env = (false, eval a X.env) :: starEach [b] X.env := by rfl) (hs2 : starEach [b] X.env = (false, eval b X.env) :: starEach [] X.env := by rfl) (hpl : (backTo pos (starEach [b] X.env)).any (·.1) = false := by rfl) :
    VI X G Sh (.Name n np) (.Call (.Name "zip" p) [a, b] [] pos) (vZipT fa fb) := pi_imp (pi_zipN hg hm (pa_cons ha (pa_cons hb pa_nil hs2) hs) hs hpl) (by
  obtain ⟨Z, cl, H0, S0, W, fx, fv, tp⟩ := G
  cases hZ
  rintro σ H R ⟨ρ, S, k⟩
  refine ⟨ρ, S, k.bnd.mono fun x ρ1 k1 v H1 fz1 S1 s1 => ⟨ρ1, S1, k1.bnd.mono fun y ρ2 k2 w H2 fz2 S2 s2 => ?_⟩⟩
  cases x with
  | tuple ds =>
    cases y with
    | tuple es =>
      have s1 := s1.up fz2
      cases s1 with
      | tup ea sv =>
        cases s2 with
        | tup eb sw =>
          exact ⟨_, _, _, _, rfl, ea.sq, eb.sq, k2 _ H2 (fz1.trans fz2) S2 (itv_frz rfl (walk_zipF rfl) (fun H3 f => ⟨(ea.keep f).sq, (eb.keep f).sq⟩) sv sw)⟩
    | _ => exact k2.elim
  | _ => cases y <;> exact k2.elim)
end
end Cv
end
section
/-! More calls: a fresh list handed to a def that writes it. -/
namespace Cv
open PySem L2
section
variable {X : Cx} {G : Gh} {CX : CXT} {k : Nat} {f : Addr} {fd : FuncData} {ps : List Str} {x : Str} {e : Expr} {p pos : Pos} {fe : M D} {mf : List D → Option Rf}
def vCallF (mf : List D → Option Rf) (fe : M D) : M D := bnd fe fun d0 => fun ρ => if isC d0 then (match mf [d0] with
  | some (.ret d _) => some (.ok d ρ)
  | some (.exc e) => some (.ex e)
  | none => none) else none
theorem Stt.calledF {H H' : Hp} {σ : St} {ρ : Ev} {p : Addr} (h : Stt G H σ ρ) (fr : FreshO G σ ρ p) (m : Mv G.cl.T [p] H H') : Stt G H' σ ρ := by
  obtain ⟨f1, f2, f3⟩ := fr
  have keep : ∀ q, Mut (H q) → q ≠ p → H' q = H q := fun q hm hq => by
    cases e : H q with
    | none => rw [e] at hm; exact hm.elim
    | some u =>
      exact m.old q u e (fun z => hq (by simpa using z)) (fun ps z => by rw [e, z] at hm; exact hm.elim)
  refine ⟨h.len, fun i t ht => ?_, h.dis, h.mv.trans m (fun q hq => ?_), h.fix, fun q hq => ?_⟩
  · obtain ⟨w, b1, b2⟩ := h.val i t ht
    refine ⟨w, b1, b2.keep m.fz fun q hq hoq => keep q ?_ fun z => ?_⟩
    · unfold SlOk at b2
      rw [hoq, hq] at b2
      exact b2.1.mut
    · subst z hq
      exact f2 i t ht hoq b1
  · have : q = p := by simpa using hq
    subst this
    exact .inr f1
  · obtain ⟨c1, c2, c3⟩ := h.tmp q hq
    refine ⟨?_, c2, c3⟩
    rw [keep q.1 (by rw [c1]; exact c2.1) (f3 q hq)]
    exact c1
theorem tcallF {cl : Cl} (hcl : G.cl = cl) (hZ : G.Z = zx X) : ∀ σ H Q, tvE G (vCallF mf fe) σ H Q → tCall (spV (zx X) cl 1 [0] false mf) [] G.W (tCons (tvO G fe) tNil) σ H Q := by
  obtain ⟨Z, cl', H0, S0, W, fx, fv, tp⟩ := G
  cases hZ
  cases hcl
  rintro σ H Q ⟨ρ, S, k⟩
  refine ⟨ρ, S, k.bnd.mono fun d0 ρ1 k1 v H1 fz1 S1 ro => ?_⟩
  show spV _ _ _ _ _ _ ([v] ++ []) H1 Q _
  rw [List.append_nil]
  dsimp only at k1
  split at k1
  · rename_i hc
    unfold RO at ro
    rw [hc] at ro
    obtain ⟨p, rfl, ow, fr⟩ := ro
    have hio : ioA [0] [V.ref p] = [p] := rfl
    refine ⟨rfl, S1.mv.tb.2, [d0], ⟨rfl, fun i w d h1 h2 => ?_, fun i j r hi hj _ _ => by simp at hi hj; omega⟩, ?_⟩
    · cases i with
      | zero =>
        simp at h1 h2
        subst h1 h2
        rw [if_pos (by simp)]
        exact ow
      | succ i => simp at h1
    · cases hm : mf [d0] with
      | none => rw [hm] at k1; exact k1.elim
      | some r =>
        rw [hm] at k1
        cases r with
        | exc e => exact fun cls od H' mv ea => k1 cls od H' (S1.mv.trans mv (fun a ha => by
            rw [hio] at ha
            obtain rfl : a = p := by simpa using ha
            exact .inr fr.1)) ea
        | ret d outs => exact fun v H' mv _ rk => k1 v H' (fz1.trans mv.fz) (S1.calledF fr mv) rk
  · exact k1.elim
theorem ve_callF {cl : Cl} (F : FnOk X.prog X.w X.K X.mg X.base CX k f fd ps (spV (zx X) cl 1 [0] false mf)) (hr : Room k X.A) (hg : Gl X x) (hm : X.mg x = some (.ref f)) (hk : PySem.W.keepIn X.K (.ref f) = true) (hb : Binds X.K fd ps []) (hx : Passes CX X G.W)
    (ha : VO X G e fe) (hcl : G.cl = cl := by rfl) (hZ : G.Z = zx X := by rfl) (hdb : (x == ("__debug__" : Str)) = false := by decide) (he : starEach [e] X.env = (false, eval e X.env) :: starEach [] X.env := by rfl) (hpl : (backTo pos (starEach [] X.env)).any (·.1) = false := by rfl) :
    VE X G (.Call (.Name x p) [e] [] pos) (vCallF mf fe) := pe_imp (pe_call F hr hg hm hk hb .nil hx (pa_cons ha pa_nil he) hdb he hpl) (tcallF hcl hZ)
theorem ve_callGF {cl : Cl} (F : FnG X.prog X.w X.K X.mg X.base CX k f fd ps (spV (zx X) cl 1 [0] false mf)) (hG : X.A.guards = some []) (hr : Room k X.A) (hg : Gl X x) (hm : X.mg x = some (.ref f)) (hk : PySem.W.keepIn X.K (.ref f) = true) (hb : Binds X.K fd ps []) (hx : Passes CX X G.W)
    (ha : VO X G e fe) (hcl : G.cl = cl := by rfl) (hZ : G.Z = zx X := by rfl) (hdb : (x == ("__debug__" : Str)) = false := by decide) (he : starEach [e] X.env = (false, eval e X.env) :: starEach [] X.env := by rfl) (hpl : (backTo pos (starEach [] X.env)).any (·.1) = false := by rfl) :
    VE X G (.Call (.Name x p) [e] [] pos) (vCallF mf fe) := pe_imp (pe_callG F hG hr hg hm hk hb hx (pa_cons ha pa_nil he) hdb he hpl) (tcallF hcl hZ)
theorem wp_callF {E : Ex → Prop} {ρ : Ev} {qd : D → Ev → Prop} : Wp E (vCallF mf fe) ρ qd = Wp E fe ρ fun d0 ρ1 => isC d0 = true ∧ Fw E mf [d0] fun d _ => qd d ρ1 := by
  simp only [vCallF, wp_bnd]
  congr 1
  funext d0 ρ1
  unfold Wp Fw
  cases hc : isC d0 with
  | false => simp
  | true =>
    cases hm : mf [d0] with
    | none => simp [hm]
    | some r => cases r <;> simp [hm]
end
end Cv
end
section
/-! Lambdas without parameters handed to a def that calls them within a try. -/
namespace Cv
open PySem L2
open PySem.Spec PyProof.Rows
/-- what is one's own is hidden -/
def hidO : Option Sl → Option Sl
  | some ⟨false, d⟩ => some ⟨false, d⟩
  | _ => none
def hid (ρ : Ev) : Ev := ρ.map hidO
theorem hid_get {ρ : Ev} {i : Nat} {s : Sl} (h : (hid ρ)[i]? = some (some s)) : s.o = false ∧ ρ[i]? = some (some s) := by
  unfold hid at h
  rw [List.getElem?_map] at h
  cases hr : ρ[i]? with
  | none => rw [hr] at h; cases h
  | some r =>
    rw [hr] at h
    cases r with
    | none => simp [hidO] at h
    | some t =>
      obtain ⟨o, d⟩ := t
      cases o with
      | true => simp [hidO] at h
      | false => simp [hidO] at h; subst h; exact ⟨rfl, rfl⟩
/-- the lambda's body runs as a def of its own -/
abbrev lgh (G : Gh) (H : Hp) (E : XK) : Gh := ⟨G.Z, G.cl, H, [], E, [], fun _ => none, []⟩
section
variable {X : Cx} {G : Gh}
theorem Stt.lam {H : Hp} {σ : L2.St} {ρ : Ev} (S : Stt G H σ ρ) (E : XK) : Stt (lgh G H E) H σ (hid ρ) := by
  refine ⟨by rw [hid, List.length_map]; exact S.len, fun i s hs => ?_, fun i j s t p h1 h2 h3 => ?_, Mv.refl _ _ S.mv.tb.2, (fun i hi => nomatch hi), (fun q hq => nomatch hq)⟩
  · obtain ⟨ho, hr⟩ := hid_get hs
    obtain ⟨v, h1, h2⟩ := S.val i s hr
    refine ⟨v, h1, ?_⟩
    unfold SlOk at h2 ⊢
    rw [ho] at h2 ⊢
    exact h2
  · rw [(hid_get h1).1] at h3
    cases h3
/-- tables grown alone: what is said stays -/
theorem Stt.extN {H H' : Hp} {σ : L2.St} {ρ : Ev} (S : Stt G H σ ρ) (e : LamX.ExtN H H') (t : LamX.Tabs G.cl.T H') : Stt G H' σ ρ := by
  have mt : ∀ u : HO, Mut (some u) → ∀ ps, u ≠ .tbl ps := fun u m ps z => by rw [z] at m; exact m
  have m : Mv G.cl.T [] H H' := ⟨fun a o h _ n => e a o h n, fun a o u h => e a _ h (fun ps z => nomatch z), fun a o h n => ⟨o, e a o h n, n⟩, S.mv.tb.2, t⟩
  exact S.called m (fun _ z => nomatch z)
/-- what a def makes of what it is given: kt of a value, ks of a refusal -/
def TTk (Z : Zx) (cl : Cl) (kt : D → Option D) (ks : Ex → Option D) : (XK → Hp → VK → Prop) → Hp → VK → Prop := fun tl H Q =>
  tl (fun cls od H' => ∃ e d, LamX.Tabs cl.T H' ∧ ExcAt Z cl H' e cls od ∧ ks e = some d ∧ ∀ v H'', Mv cl.T [] H' H'' → Sh Z H'' v d → Q v H'') H
    (fun v H' => ∃ d0 d, LamX.Tabs cl.T H' ∧ Sh Z H' v d0 ∧ kt d0 = some d ∧ ∀ u H'', Mv cl.T [] H' H'' → Sh Z H'' u d → Q u H'')
def vKind (kt : D → Option D) (ks : Ex → Option D) (fb : M D) : M D := fun ρ => match fb (hid ρ) with
  | some (.ok d _) => (match kt d with
    | some r => some (.ok r ρ)
    | none => none)
  | some (.ex e) => (match ks e with
    | some r => some (.ok r ρ)
    | none => none)
  | none => none
theorem ve_kind {T : List (Addr × Str)} {kt : D → Option D} {ks : Ex → Option D} {fb : M D} {cl : Cl} {x a : Str} {g c P : Addr} {k : Nat} {pg : Arguments} {bg : List Stmt} {sg : Scope} {dV kV doc pm cdv ct oc : Value} {an od : Option Addr} {osl : Array (Option Value)} {Ng : List Str}
    {params : Arguments} {body : Expr} {scope : Scope} {p lpos pos : Pos} (hcl : G.cl = cl) (hZ : G.Z = zx X) (hg : Gl X x) (hm : X.mg x = some (.ref g)) (hk : PySem.W.keepIn X.K (.ref g) = true)
    (lk : X.K.lookup g = some ⟨oc, od, .func (PySem.W.fnOf x x pg bg sg dV kV doc pm an cdv ct), osl⟩) (hcg : PySem.W.codeIn X.K cdv x = true) (hb : L2.Binds X.K (PySem.W.fnOf x x pg bg sg dV kV doc pm an cdv ct) [a] []) (Sg : FnScope Ng [a] sg) (hNg : Ng[0]? = some a) (hva : Vis sg a)
    (hG : LamX.GivesTo X Ng x sg g cdv bg a (X.env.qual ++ "<lambda>") (TTk (zx X) cl kt ks)) (hcT : cl.T = T)
    (TB : LamX.TabB X.base X.mg c P) (hcode : X.env.code = .ref c) (hmT : (P, X.env.qual ++ "<lambda>") ∈ T) (hu : ∀ p ∈ T, p.1 = P → p.2 = X.env.qual ++ "<lambda>") (hr : Room (k + 2) X.A) (L : LamX.LamS X.env.scope scope) (hdef : defaultsOf params X.env = ([], []))
    (hbind : ∀ (q : Str) (cl : List (Str × Addr)) (pm cv ctv : Value), bindArgs (PySem.W.kla_fn "<lambda>" q params body scope cl pm cv ctv) ⟨[], []⟩ = pure [])
    (hbody : ∀ (A : Around) (outer : List Env) (s : Shared) (H : Hp) (E : XK) (f c' : Addr), Room k (A.deeper (LamX.lamEnv X scope s.heap.objs.size f c')) → ∀ H', VE (LamX.lamCx X A outer s H E scope f c') (lgh G H' E) body fb)
    (hdb : (x == ("__debug__" : Str)) = false := by decide) (hd : (a == ("__debug__" : Str)) = false := by decide) (hcd : (a == ("__classdict__" : Str)) = false := by decide) :
    VE X G (.Call (.Name x p) [.Lambda params body scope lpos] [] pos) (vKind kt ks fb) := by
  subst hcT
  refine pe_imp (LamX.pe_lamcall (T := cl.T) (t := fun E σ H Q => tvE (lgh G H E) fb σ H Q) hg hm hk lk hcg hb Sg hNg hva hG TB hcode hmT hu hr L hdef hbind (fun A outer s H E f c' hr => ⟨fun pins s' σ H' Q I h => (hbody A outer s H E f c' hr H').run pins s' σ H' Q I h⟩) hdb hd hcd) ?_
  rintro σ H Q ⟨ρ, S, k⟩
  subst hcl
  refine ⟨S.mv.tb.2, fun H1 eN t1 => ?_⟩
  have S1 := S.extN eN t1
  refine ⟨hid ρ, S1.lam _, ?_⟩
  have fz1 : Fz H H1 := fun a o u h => eN a _ h (fun ps z => nomatch z)
  have fin : ∀ (d : D) (v : V) (H2 H3 : Hp), Mv G.cl.T [] H1 H2 → Mv G.cl.T [] H2 H3 → Sh (zx X) H3 v d → (∀ v H', Fz H H' → Stt G H' σ ρ → Sh G.Z H' v d → Q v H') → Q v H3 := fun d v H2 H3 m1 m2 sh q => by
    have m := m1.trans m2 (fun _ z => nomatch z)
    exact q v H3 (fz1.trans m.fz) (S1.called m (fun _ z => nomatch z)) (by rw [hZ]; exact sh)
  unfold vKind at k
  cases hf : fb (hid ρ) with
  | none => rw [hf] at k; exact k.elim
  | some r =>
    rw [hf] at k
    cases r with
    | ok d ρ' =>
      dsimp only at k
      cases hd : kt d with
      | none => rw [hd] at k; exact k.elim
      | some r =>
        rw [hd] at k
        exact fun v H2 fz S2 sh => ⟨d, r, S2.mv.tb.2, by rw [← hZ]; exact sh, hd, fun u H3 m su => fin r u H2 H3 S2.mv m su k⟩
    | ex e =>
      dsimp only at k
      cases hd : ks e with
      | none => rw [hd] at k; exact k.elim
      | some r =>
        rw [hd] at k
        exact fun cls od H2 mv ea => ⟨e, r, mv.tb.2, by rw [← hZ]; exact ea, hd, fun u H3 m su => fin r u H2 H3 mv m su k⟩
/-! ### the def that calls it: try: x() except C as n: suite; return told -/
theorem pe_weak {e : Expr} {t : TE} (h : PE X e t) : PE X e (fun σ H Q => ∃ Q' : VK, t σ H Q' ∧ ∀ v H', Q' v H' → Q v H') := ⟨fun pins s σ H Q I ⟨Q', h1, h2⟩ => thn (h.run pins s σ H _ I h1) fun v s1 ⟨x, H1, I1, r, q⟩ => ⟨x, H1, I1, r, h2 _ _ q⟩⟩
/-- the suite's own: slot i holds the refusal a -/
abbrev kgh (Z : Zx) (cl : Cl) (H : Hp) (i : Nat) (a : Addr) : Gh := ⟨Z, cl, H, [], fun _ _ _ => False, [i], fun _ => some (.ref a), []⟩
def runK (n : Nat) (m : M Fl) : Option D := match m (List.replicate n none) with
  | some (.ok (.rt d) _) => some d
  | _ => none
def ksOf (cs : List String) (n : Nat) (ms : String → M Fl) (e : Ex) : Option D := if e.fs.isEmpty && cs.contains e.c then runK n (ms e.c) else none
theorem stt_kgh {Z : Zx} {cl : Cl} {H : Hp} {i n : Nat} {a : Addr} {σ : L2.St} (tb : LamX.Tabs cl.T H) (hl : σ.length = n) (hi : i < n) : Stt (kgh Z cl H i a) H (σ.set i (some (.ref a))) (List.replicate n none) := by
  have no : ∀ (j : Nat) (s : Sl), (List.replicate n (none : Option Sl))[j]? ≠ some (some s) := fun j s h => by
    rw [List.getElem?_replicate] at h
    split at h <;> cases h
  refine ⟨by simp [hl], fun j s h => (no j s h).elim, fun j k s t p h1 => (no j s h1).elim, Mv.refl _ _ tb, fun j hj => ?_, (fun q hq => nomatch hq)⟩
  obtain rfl : j = i := by simpa using hj
  rw [List.getElem?_set_self (by omega)]
theorem gives_kind {cl : Cl} {cs : List String} {ms : String → M Fl} {N : List Str} {x a n ce q : Str} {sg : Scope} {g CE : Addr} {cdv : Value} {i m : Nat} {b₀ : Stmt} {suite : List Stmt} {told : Str} {j : Nat} {p1 p2 p3 p4 p5 p6 p7 p8 : Pos}
    (hN : N.length = m) (hNd : N.Nodup) (hi : N[i]? = some n) (him : i < m) (hln : sg.names.lookup n = some .local) (hce : ∀ s H, Names (cxOf C8.CX0 X.prog X.w X.K X.mg X.base N x sg g cdv X.A X.stack s H C8.E0).nox ce (.ref CE))
    (h0 : ∀ f : Addr, (L2.start N [V.ref f])[0]? = some (some (V.ref f)))
    (hex : ∀ c ∈ cs, PySem.W.exmOne X.K (.ref (cl c)) (.ref CE) = some true)
    (hsu : ∀ (s : Shared) (H : Hp) (c : String) (a : Addr) (oe : Obj) (pn : List (Addr × Obj)) (H' : Hp), c ∈ cs → Zc (.ref (cl c)) none oe → (∃ vs, oe.data = .fields vs) → VSs ((cxOf C8.CX0 X.prog X.w X.K X.mg X.base N x sg g cdv X.A X.stack s H C8.E0).nox.suite a ((a, oe) :: pn)) (kgh (zx X) cl H' i a) false (b₀ :: suite) (ms c)) :
    LamX.GivesTo X N x sg g cdv [.Try [.Expr (.Call (.Name a p1) [] [] p2) p3] [.ExceptHandler (some (.Name ce p4)) (some n) (b₀ :: suite) p5] [] [] p6, .Return (some (.Constant (.str told) j p7)) p8] a q (TTk (zx X) cl (fun _ => some (.str told)) (ksOf cs m ms)) := by
  intro f c' s H Q tl act hc h
  have hb : ∀ (W : WX) (pn : List (Addr × Obj)) (xe : Value → Shared → Prop), Takes ((cxOf C8.CX0 X.prog X.w X.K X.mg X.base N x sg g cdv X.A X.stack s H C8.E0).nox.tr pn xe) W →
      PE ((cxOf C8.CX0 X.prog X.w X.K X.mg X.base N x sg g cdv X.A X.stack s H C8.E0).nox.tr pn xe) (.Call (.Name a p1) [] [] p2)
        (fun σZ HZ Q => ∃ E : XK, (∀ cls d (σ' : L2.St) H', σ'.length = m → E cls d H' → W cls d σ' H') ∧ σZ[0]? = some (some (.ref f)) ∧ HZ c' = some (LamX.CodeO c' q) ∧ tl E HZ Q) := fun W pn xe tk =>
    ⟨fun pins s σ H Q I ⟨E, hE, h⟩ => (act _ pn xe E p1 p2 (take_len tk) (fun cls d σ' H' e l => hE cls d σ' H' (by rw [← hN]; exact l) e)).run pins s σ H Q I h⟩
  refine ⟨_, pss_cons (ps_try_as (i := i) (c := .ref CE) (Wout := fun _ _ _ _ => False) (ts := fun a cls d D σ H => ∃ c ∈ cs, cls = .ref (cl c) ∧ d = none ∧ tvS (kgh (zx X) cl H i a) false (ms c) D σ H) rfl rfl hNd hi hln (hce s H) LamX.takes0
    (fun W pn xe tk _ => pss_one (ps_expr (pe_weak (hb W pn xe tk)))) (fun a oe cls d pn hz hf => ⟨fun pins s' σ H' D I ⟨c, hc, ec, ed, t⟩ => (hsu s H c a oe pn H' hc (ec ▸ ed ▸ hz) hf).run pins s' σ H' D I t⟩)) (pss_one (ps_ret pe_str)), ?_⟩
  simp only [tSeq, tDrop, tRet]
  refine ⟨_, ⟨_, ?_, h0 f, hc, h⟩, ?_⟩
  · rintro cls d σ' H' l ⟨e, r, tb, ea, hk, q⟩
    unfold ksOf at hk
    split at hk
    · rename_i hcnd
      obtain ⟨h1, h2⟩ := Bool.and_eq_true_iff.1 hcnd
      have hm : e.c ∈ cs := by simpa using h2
      obtain ⟨e1, e2⟩ := ea
      have ef : e.fs = [] := by simpa using h1
      rw [ef] at e2
      refine ⟨true, by rw [e1]; exact hex _ hm, fun _ b nb => ⟨e.c, hm, e1, e2, List.replicate m none, stt_kgh tb l him, ?_⟩, fun z => nomatch z⟩
      unfold runK at hk
      split at hk
      · rename_i d' ρ' hms
        cases hk
        rw [hms]
        exact fun v σ2 H2 fz S2 ro => q v H2 S2.mv ro
      · cases hk
    · cases hk
  · rintro v H' ⟨d0, d, tb, sh, hk, q⟩
    cases hk
    exact q _ _ (Mv.refl _ _ tb) (.str _)
/-! ### isinstance of the refusal that a suite holds -/
theorem vo_isE {G : Gh} {a C D : Addr} {oe : Obj} {pn : List (Addr × Obj)} {i : Nat} {n c : Str} {b : Bool} {p0 p1 p2 pos : Pos} (hz : Zc (.ref D) none oe) (hf : ∃ vs, oe.data = .fields vs) (hE : ExcC X.K D) (hi : i ∈ G.fx) (hfv : G.fv i = some (.ref a))
    (hk : PySem.W.kitOne X.K (.ref D) (.ref C) = some b) (hgi : Gl (X.suite a ((a, oe) :: pn)) "isinstance") (hmi : (X.suite a ((a, oe) :: pn)).mg "isinstance" = none) (hN : (X.suite a ((a, oe) :: pn)).N[i]? = some n) (hv : Vis (X.suite a ((a, oe) :: pn)).env.scope n) (hgc : Gl (X.suite a ((a, oe) :: pn)) c) (hmc : X.mg c = some (.ref C))
    (hd : (n == ("__debug__" : Str)) = false := by decide) (hcd : (n == ("__classdict__" : Str)) = false := by decide) (hd2 : (c == ("__debug__" : Str)) = false := by decide)
    (he : starEach [Expr.Name n p1, Expr.Name c p2] (X.suite a ((a, oe) :: pn)).env = (false, eval (Expr.Name n p1) (X.suite a ((a, oe) :: pn)).env) :: starEach [Expr.Name c p2] (X.suite a ((a, oe) :: pn)).env := by rfl)
    (he2 : starEach [Expr.Name c p2] (X.suite a ((a, oe) :: pn)).env = (false, eval (Expr.Name c p2) (X.suite a ((a, oe) :: pn)).env) :: starEach [] (X.suite a ((a, oe) :: pn)).env := by rfl) :
    VO (X.suite a ((a, oe) :: pn)) G (.Call (.Name "isinstance" p0) [.Name n p1, .Name c p2] [] pos) (ret (.bool b)) :=
  pe_imp (pe_callB (u_isE hz hf) hgi hmi (by decide +kernel) (pa_cons (pe_var hN hv hd hcd) (pa_cons (pe_glob hgc hmc (show L2.RelV (.ref C) (.ref C) from rfl) hd2) pa_nil he2) he)) fun σ H Q ⟨ρ, S, k⟩ => by
    refine ⟨.ref a, by rw [S.fix i hi, hfv], ?_⟩
    exact ⟨rfl, D, rfl, rfl, hE, b, hk, k (.bl b) H (Fz.refl H) S (Sh.bl b)⟩
theorem vs_never {rm : Bool} {st : Stmt} : VS X G rm st (fun _ => none) := ps_imp ps_never fun D σ H ⟨ρ, S, k⟩ => k
theorem vo_isV {G : Gh} {a D : Addr} {oe : Obj} {pn : List (Addr × Obj)} {i : Nat} {n : Str} {b : Bool} {p0 p1 p2 pos : Pos} (hz : Zc (.ref D) none oe) (hf : ∃ vs, oe.data = .fields vs) (hE : ExcC X.K D) (hi : i ∈ G.fx) (hfv : G.fv i = some (.ref a))
    (hk : PySem.W.kitOne X.K (.ref D) (.type "ValueError") = some b) (hgi : Gl (X.suite a ((a, oe) :: pn)) "isinstance") (hmi : (X.suite a ((a, oe) :: pn)).mg "isinstance" = none) (hN : (X.suite a ((a, oe) :: pn)).N[i]? = some n) (hv : Vis (X.suite a ((a, oe) :: pn)).env.scope n)
    (hgc : Gl (X.suite a ((a, oe) :: pn)) "ValueError") (hmc : (X.suite a ((a, oe) :: pn)).mg "ValueError" = none) (hd : (n == ("__debug__" : Str)) = false := by decide) (hcd : (n == ("__classdict__" : Str)) = false := by decide)
    (he : starEach [Expr.Name n p1, Expr.Name "ValueError" p2] (X.suite a ((a, oe) :: pn)).env = (false, eval (Expr.Name n p1) (X.suite a ((a, oe) :: pn)).env) :: starEach [Expr.Name "ValueError" p2] (X.suite a ((a, oe) :: pn)).env := by rfl)
    (he2 : starEach [Expr.Name "ValueError" p2] (X.suite a ((a, oe) :: pn)).env = (false, eval (Expr.Name "ValueError" p2) (X.suite a ((a, oe) :: pn)).env) :: starEach [] (X.suite a ((a, oe) :: pn)).env := by rfl) :
    VO (X.suite a ((a, oe) :: pn)) G (.Call (.Name "isinstance" p0) [.Name n p1, .Name "ValueError" p2] [] pos) (ret (.bool b)) :=
  pe_imp (pe_callB (u_isE hz hf) hgi hmi (by decide +kernel) (pa_cons (pe_var hN hv hd hcd) (pa_cons (pe_bltn (v := .ty "ValueError") hgc hmc (by decide +kernel) rfl) pa_nil he2) he)) fun σ H Q ⟨ρ, S, k⟩ => by
    refine ⟨.ref a, by rw [S.fix i hi, hfv], ?_⟩
    exact ⟨rfl, D, rfl, rfl, hE, b, hk, k (.bl b) H (Fz.refl H) S (Sh.bl b)⟩
/-- as vSeq, kept by simp: a loop stands first -/
def vSeqL (f g : M Fl) : M Fl := vSeq f g
theorem wp_seqL {E : Ex → Prop} {ρ : Ev} {f g : M Fl} {qf : Fl → Ev → Prop} (J : Ev → Prop) (h1 : Wp E f ρ fun fl ρ1 => match fl with
    | .nx => J ρ1
    | x => qf x ρ1) (h2 : ∀ ρ1, J ρ1 → Wp E g ρ1 qf) : Wp E (vSeqL f g) ρ qf := by
  unfold vSeqL
  rw [wp_seq]
  refine h1.mono fun fl ρ1 h => ?_
  cases fl with
  | nx => exact h2 ρ1 h
  | _ => exact h
/-! ### index, count -/
def dListCount : D → List D → Option D
  | .list xs, [y] => if gd y && gdAll xs then some (.int ((xs.countP fun z => PyData.eqv z y : Nat) : Int)) else none
  | _, _ => none
theorem m_list_count (hu : X.A.units + 64 < cLine) : MtR X "list.count" (rM (zx X) dListCount) := by
  intro pins s σ H x xs v us Q I rx rs ⟨d, ds, r, rp, sh, e, q⟩
  unfold dListCount at e
  split at e
  · split at e
    · rename_i ys y hg
      cases e
      obtain ⟨z, rfl, sy⟩ := sh_one sh
      simp only [gd, gdAll, Bool.and_eq_true, decide_eq_true_eq] at hg
      obtain ⟨a, vs, rfl, hl, sv⟩ := rp.lst
      cases rx
      obtain ⟨u, rfl, ru⟩ := vals1 rs
      obtain ⟨hz, its, n, rv, hlen, e0⟩ := inv_lst I hl
      obtain ⟨as, hr⟩ := Sh.readsAll I _ _ _ sv rv
      obtain ⟨bs, hx⟩ := Sh.reads I _ _ _ sy ru
      exact PySem.SeqAt.count_list_data (vs := its.toArray) ⟨_, e0, rfl, n, rfl⟩ (by simpa using hr) hx hg.2.1 hg.1.1 (by omega) ⟨.int _, H, I.tok _, ⟨_, rfl⟩, q _ H (fun _ _ h => h) (nr_sh rfl (.int _))⟩
    · cases e
  · cases e
def dListIndex : D → List D → Option D
  | .list xs, [y] => if gd y && gdAll xs then (SeqAt.dataPlace xs y).map fun j => .int (j : Nat) else none
  | _, _ => none
theorem m_list_index (hu : X.A.units + 64 < cLine) : MtR X "list.index" (rM (zx X) dListIndex) := by
  intro pins s σ H x xs v us Q I rx rs ⟨d, ds, r, rp, sh, e, q⟩
  unfold dListIndex at e
  split at e
  · split at e
    · rename_i ys y hg
      cases hp : SeqAt.dataPlace ys y with
      | none => rw [hp] at e; cases e
      | some j =>
        rw [hp] at e
        cases e
        obtain ⟨z, rfl, sy⟩ := sh_one sh
        simp only [gd, gdAll, Bool.and_eq_true, decide_eq_true_eq] at hg
        obtain ⟨a, vs, rfl, hl, sv⟩ := rp.lst
        cases rx
        obtain ⟨u, rfl, ru⟩ := vals1 rs
        obtain ⟨hz, its, n, rv, hlen, e0⟩ := inv_lst I hl
        obtain ⟨as, hr⟩ := Sh.readsAll I _ _ _ sv rv
        obtain ⟨bs, hx⟩ := Sh.reads I _ _ _ sy ru
        have hr' : ReadsAll s.heap its.toArray.toList ys as := by simpa using hr
        obtain ⟨hj, hit, hno⟩ := PySem.SeqAt.hit_at hr' hg.2.1 hp
        have hsl := sizeLine_eq
        have hj2 : j < its.length := by simpa using hj
        exact call_meets PySem.F.slot_list_index ⟨_, e0, rfl⟩ PySem.F.entry_list_index (PySem.F.args_list_index_2 _ _) (SeqAt.list_indexAt a its.toArray n none #[] u (fun y' => PyData.eqv (SeqAt.readOf s.heap y') y) j hj (by omega) hit hno) ⟨e0, SeqAt.items_plain hr' hx hg.2.1 hg.1.1 (by omega), .int (j : Nat), H, I.tok _, ⟨_, rfl⟩, q _ H (fun _ _ h => h) (nr_sh rfl (.int _))⟩
    · cases e
  · cases e
/-- of a tuple of whole numbers -/
def intsL : List D → Option (List Int)
  | [] => some []
  | .int i :: r => (intsL r).map (i :: ·)
  | _ => none
def dTupleIndex : D → List D → Option D
  | .tuple xs, [.int k] => (match intsL xs with
    | some ns => if k ∈ ns then some (.int (ns.idxOf k : Nat)) else none
    | none => none)
  | _, _ => none
theorem ints_sh {Z : Zx} {H : Hp} : ∀ {ds : List D} {ns : List Int} {vs : List V}, intsL ds = some ns → ShAll Z H vs ds → vs = ns.map V.int
  | [], ns, vs, h, s => by cases h; cases s; rfl
  | d :: ds, ns, vs, h, s => by
    cases s with
    | cons s1 s2 =>
      unfold intsL at h
      split at h
      · rename_i e; cases e
      · rename_i i r e
        cases e
        cases hr : intsL ds with
        | none => rw [hr] at h; cases h
        | some ms =>
          rw [hr] at h
          cases h
          cases s1
          rw [ints_sh hr s2]
          rfl
      · cases h
theorem m_tuple_index (hu : X.A.units + 64 < cLine) : MtR X "tuple.index" (rM (zx X) dTupleIndex) := by
  intro pins s σ H x xs v us Q I rx rs ⟨d, ds, r, rp, sh, e, q⟩
  unfold dTupleIndex at e
  split at e
  · split at e
    · rename_i ys k _ ns hn
      split at e
      · rename_i hk
        cases e
        obtain ⟨z, rfl, sy⟩ := sh_one sh
        cases sy
        obtain ⟨a, vs, rfl, hl, sv⟩ := rp.tup
        cases rx
        obtain ⟨u, rfl, ru⟩ := vals1 rs
        obtain ⟨t, rfl⟩ := ru
        obtain rfl := ints_sh hn sv
        obtain ⟨its, rv, pl, hz⟩ := I.tuple hl.sq
        exact PySem.SeqAt.tuple_index_ints pl (ints_of_vals rv) hk ⟨.int (ns.idxOf k : Nat), H, I.tok _, ⟨_, rfl⟩, q _ H (fun _ _ h => h) (nr_sh rfl (.int _))⟩
      · cases e
    · cases e
  · cases e
end
end Cv
end
section
/-! Plain tools for mirrors: lambdas, comprehensions that pick. -/
namespace Cv
open PySem L2
section
variable {E : Ex → Prop} {ρ : Ev}
theorem wp_kind {kt : D → Option D} {ks : Ex → Option D} {fb : M D} {q : D → Ev → Prop} : Wp E (vKind kt ks fb) ρ q = Wp (fun e => Wl (ks e) fun r => q r ρ) fb (hid ρ) (fun d _ => Wl (kt d) fun r => q r ρ) := by
  unfold vKind Wp
  dsimp only
  cases hb : fb (hid ρ) with
  | none => simp [hb]
  | some r =>
    cases r with
    | ok d ρ' => cases hk : kt d <;> simp [hk, Wl]
    | ex e => cases hk : ks e <;> simp [hk, Wl]
theorem hid_nil : hid [] = [] := rfl
theorem hid_cons {o : Option Sl} {r : Ev} : hid (o :: r) = hidO o :: hid r := rfl
theorem hidO_sh {d : D} : hidO (some ⟨false, d⟩) = some ⟨false, d⟩ := rfl
theorem hidO_ow {d : D} : hidO (some ⟨true, d⟩) = none := rfl
theorem hidO_none : hidO none = none := rfl
theorem rngD_map (n : Nat) : rngD 0 n = ((List.range n).map fun k : Nat => (k : Int)).map PyData.int := by
  unfold rngD
  simp [List.map_map, Function.comp_def]
theorem lc_pick {α : Type} {vs : List Nat} {g : D → M Unit} {t : M Bool} {f : M D} {key : α → D} {qs : List D → Ev → Prop} (p : α → Bool) (val : α → D) (ok : Ev → Prop) (xs : List α) (hl : xs.length ≤ 100000) (h0 : ok ρ)
    (step : ∀ x ∈ xs, ∀ ρ, ok ρ → Wp E (g (key x)) (wipeE ρ vs) fun _ ρ1 => Wp E t ρ1 fun c ρ2 => (c = false → p x = false ∧ ok ρ2) ∧ (c = true → Wp E f ρ2 fun y ρ3 => p x = true ∧ y = val x ∧ ok ρ3))
    (post : ∀ ρ', ok ρ' → qs ((xs.filter p).map val) ρ') : Wp E (lcL vs g t f (xs.map key) []) ρ qs := by
  refine wp_lcL (fun ys acc ρ => ok ρ ∧ ∃ us ws : List α, ys = ws.map key ∧ xs = us ++ ws ∧ acc = (us.filter p).map val) ?_ ?_ _ _ _ ⟨h0, [], xs, rfl, rfl, rfl⟩
  · rintro x r acc ρ ⟨ho, us, ws, hx, hu, rfl⟩
    obtain ⟨v, ws', rfl, rfl, rfl⟩ := cons_map hx
    refine (step v (by rw [hu]; simp) ρ ho).mono fun _ ρ1 h1 => h1.mono fun c ρ2 h2 => ⟨fun hc => ?_, fun hc => (h2.2 hc).mono fun y ρ3 h3 => ?_⟩
    · obtain ⟨e, ho2⟩ := h2.1 hc
      exact ⟨ho2, us ++ [v], ws', rfl, by simp [hu], by simp [e]⟩
    · obtain ⟨e, rfl, ho3⟩ := h3
      have := congrArg List.length hu
      simp at this
      have hf := List.length_filter_le p us
      exact ⟨by rw [sizeLine_eq, List.length_map]; omega, ho3, us ++ [v], ws', rfl, by simp [hu], by simp [e]⟩
  · rintro acc ρ ⟨ho, us, ws, hx, hu, rfl⟩
    obtain rfl := nil_map hx
    rw [List.append_nil] at hu
    rw [← hu]
    exact post ρ ho
/-- no condition -/
theorem lc_each {α : Type} {vs : List Nat} {g : D → M Unit} {f : M D} {key : α → D} {qs : List D → Ev → Prop} (val : α → D) (ok : Ev → Prop) (xs : List α) (hl : xs.length ≤ 100000) (h0 : ok ρ)
    (step : ∀ x ∈ xs, ∀ ρ, ok ρ → Wp E (g (key x)) (wipeE ρ vs) fun _ ρ1 => Wp E f ρ1 fun y ρ3 => y = val x ∧ ok ρ3) (post : ∀ ρ', ok ρ' → qs (xs.map val) ρ') : Wp E (lcL vs g (ret true) f (xs.map key) []) ρ qs := by
  refine lc_pick (fun _ => true) val ok xs hl h0 (fun x hx ρ ho => (step x hx ρ ho).mono fun _ ρ1 h1 => by rw [wp_ret]; exact ⟨(fun z => absurd z (by decide)), fun _ => h1.mono fun y ρ3 h3 => ⟨rfl, h3⟩⟩) fun ρ' ho => ?_
  rw [List.filter_eq_self.2 (fun _ _ => rfl)]
  exact post ρ' ho
end
end Cv
end
section
/-! More of the language: isinstance with two types, xs[::-1], dict.get, calls. -/
namespace Cv
open PySem L2
open PySem.Spec PyProof.Rows
section
variable {X : Cx} {G : Gh}
/-! isinstance(x, (T1, T2)) -/
def tyN : D → String
  | .none => "NoneType"
  | .bool _ => "bool"
  | .int _ => "int"
  | .str _ => "str"
  | .list _ => "list"
  | .tuple _ => "tuple"
  | .dict _ => "dict"
theorem kit_reads {K : PySem.W.Frag} {h : Heap} {v : Value} {d : D} {as : List Addr} (r : Reads h v d as) : ∃ P : Heap → Prop, PySem.W.KitX K v (.type (tyN d)) P ∧ P h ∧ v ≠ .builtin "__main__.__loader__#opaque" := by
  cases r with
  | none => exact ⟨_, PySem.W.kitx_none, True.intro, fun z => nomatch z⟩
  | bool b => exact ⟨_, PySem.W.kitx_bool, True.intro, fun z => nomatch z⟩
  | int n t => exact ⟨_, PySem.W.kitx_int, True.intro, fun z => nomatch z⟩
  | str x t => exact ⟨_, PySem.W.kitx_str, True.intro, fun z => nomatch z⟩
  | list h1 h2 h3 h4 => exact ⟨_, PySem.W.kitx_list, ⟨_, h1, h2⟩, fun z => nomatch z⟩
  | tuple h1 h2 h3 h4 => exact ⟨_, PySem.W.kitx_tuple, ⟨_, h1, h2⟩, fun z => nomatch z⟩
  | dict h1 h2 h3 h4 h5 => exact ⟨_, PySem.W.kitx_dict, ⟨_, h1, h2⟩, fun z => nomatch z⟩
def rIsT (X : Cx) (ts : List String) (g : D → Bool) : List V → Hp → VK → Prop := fun xs H Q => ∃ x d tp, xs = [x, .ref tp] ∧ Rp (zx X) H x d ∧ H tp = some (.tup (ts.map V.ty)) ∧ Q (.bl (g d)) H
theorem vals_ty : ∀ {ts : List String} {us : List Value}, Vals (ts.map V.ty) us → us = ts.map Value.type
  | [], _, .nil => rfl
  | t :: ts, _, .cons r h => by rw [vals_ty h, show _ = Value.type t from r]; rfl
theorem c_isT {ts : List String} {g : D → Bool} (hk : ∀ d, PySem.W.kitAny X.K (.type (tyN d)) (ts.map Value.type) = some (g d)) : CallR X (.builtin "isinstance") (rIsT X ts g) := by
  intro pins s σ H xs us Q I r ⟨x, d, tp, e, hx, hT, q⟩
  subst e
  obtain ⟨u1, u2, rfl, r1, r2⟩ := vals2 r
  cases (show u2 = Value.ref tp from r2)
  obtain ⟨as, ra⟩ := hx.reads I r1
  obtain ⟨P, Z, p, hx⟩ := kit_reads (K := X.K) ra
  obtain ⟨_, its, rv, o, h1, h2, n, h3⟩ := (show ObjOk X.prog X.w H s.heap tp (.tup (ts.map V.ty)) from I.hok tp _ hT)
  have e3 := vals_ty rv
  subst e3
  obtain ⟨oc, od, dt, sl⟩ := o
  simp only at h2 h3
  subst h2 h3
  exact PySem.W.kia_tup Z I.kIn p h1 (hk d) hx fun tk => ⟨.bl (g d), H, I.tok tk, rfl, q⟩
theorem vo_isT {ts : List String} {g : D → Bool} {a : Expr} {es : List Expr} {fa : M D} {k1 : Nat} {p1 p2 pos : Pos} (hk : ∀ d, PySem.W.kitAny X.K (.type (tyN d)) (ts.map Value.type) = some (g d)) (hg : Gl X "isinstance") (hm : X.mg "isinstance" = none) (hes : ∀ Q : List V → Hp → Prop, ∀ σ H, Q (ts.map V.ty) H → ∃ t : TA, PA X es t ∧ t σ H Q) (ha : VB X G a fa) : True := trivial
end
end Cv
end
section
namespace Cv
open PySem L2
def top (i : Nat) : Stmt := PySem.Challenge.pw_coverdues_k06_ways_home.main.body.getD i (.Pass ⟨0, 0, 0, 0⟩)
abbrev s_is_whole : Stmt := top 24
abbrev s_is_rising : Stmt := top 25
abbrev s_is_way : Stmt := top 26
abbrev s_are_joined : Stmt := top 27
abbrev s_is_net : Stmt := top 28
abbrev s_need_net : Stmt := top 29
abbrev s_need_yard : Stmt := top 30
abbrev s_is_mark : Stmt := top 31
abbrev s_need_mark : Stmt := top 32
abbrev s_links : Stmt := top 34
abbrev s_paths_from : Stmt := top 35
abbrev s_home_path : Stmt := top 36
abbrev s_way_home : Stmt := top 37
abbrev s__law_box : Stmt := top 39
abbrev s__law_more : Stmt := top 40
abbrev s__law_take : Stmt := top 41
abbrev s__law_kind : Stmt := top 42
abbrev s__law_net : Stmt := top 43
abbrev s__law_paths : Stmt := top 44
abbrev s_law : Stmt := top 45
abbrev N_is_whole : List Str := ["thing", "low", "high"]
abbrev P_is_whole : List Str := ["thing", "low", "high"]
theorem sc_is_whole : FnScope N_is_whole P_is_whole (defScope s_is_whole) := ⟨rfl, rfl, rfl, by decide +kernel, rfl, by decide +kernel, by decide +kernel⟩
abbrev N_is_rising : List Str := ["things", "one", "other"]
abbrev P_is_rising : List Str := ["things"]
theorem sc_is_rising : FnScope N_is_rising P_is_rising (defScope s_is_rising) := ⟨rfl, rfl, rfl, by decide +kernel, rfl, by decide +kernel, by decide +kernel⟩
abbrev N_is_way : List Str := ["thing", "count"]
abbrev P_is_way : List Str := ["thing", "count"]
theorem sc_is_way : FnScope N_is_way P_is_way (defScope s_is_way) := ⟨rfl, rfl, rfl, by decide +kernel, rfl, by decide +kernel, by decide +kernel⟩
abbrev N_are_joined : List Str := ["count", "ways", "found", "spot", "one", "other", "line", "far", "yard"]
abbrev P_are_joined : List Str := ["count", "ways"]
theorem sc_are_joined : FnScope N_are_joined P_are_joined (defScope s_are_joined) := ⟨rfl, rfl, rfl, by decide +kernel, rfl, by decide +kernel, by decide +kernel⟩
abbrev N_is_net : List Str := ["thing", "yards", "ways", "line", "one"]
abbrev P_is_net : List Str := ["thing"]
theorem sc_is_net : FnScope N_is_net P_is_net (defScope s_is_net) := ⟨rfl, rfl, rfl, by decide +kernel, rfl, by decide +kernel, by decide +kernel⟩
abbrev N_need_net : List Str := ["net"]
abbrev P_need_net : List Str := ["net"]
theorem sc_need_net : FnScope N_need_net P_need_net (defScope s_need_net) := ⟨rfl, rfl, rfl, by decide +kernel, rfl, by decide +kernel, by decide +kernel⟩
abbrev N_need_yard : List Str := ["net", "yard"]
abbrev P_need_yard : List Str := ["net", "yard"]
theorem sc_need_yard : FnScope N_need_yard P_need_yard (defScope s_need_yard) := ⟨rfl, rfl, rfl, by decide +kernel, rfl, by decide +kernel, by decide +kernel⟩
abbrev N_is_mark : List Str := ["net", "thing"]
abbrev P_is_mark : List Str := ["net", "thing"]
theorem sc_is_mark : FnScope N_is_mark P_is_mark (defScope s_is_mark) := ⟨rfl, rfl, rfl, by decide +kernel, rfl, by decide +kernel, by decide +kernel⟩
abbrev N_need_mark : List Str := ["net", "line"]
abbrev P_need_mark : List Str := ["net", "line"]
theorem sc_need_mark : FnScope N_need_mark P_need_mark (defScope s_need_mark) := ⟨rfl, rfl, rfl, by decide +kernel, rfl, by decide +kernel, by decide +kernel⟩
abbrev N_links : List Str := ["net", "found", "one", "other", "line", "far", "pair"]
abbrev P_links : List Str := ["net"]
theorem sc_links : FnScope N_links P_links (defScope s_links) := ⟨rfl, rfl, rfl, by decide +kernel, rfl, by decide +kernel, by decide +kernel⟩
abbrev N_paths_from : List Str := ["net", "yard", "known", "found", "waits", "far", "path", "pair"]
abbrev P_paths_from : List Str := ["net", "yard"]
theorem sc_paths_from : FnScope N_paths_from P_paths_from (defScope s_paths_from) := ⟨rfl, rfl, rfl, by decide +kernel, rfl, by decide +kernel, by decide +kernel⟩
abbrev N_home_path : List Str := ["net", "yard", "line", "found", "spot"]
abbrev P_home_path : List Str := ["net", "yard", "line"]
theorem sc_home_path : FnScope N_home_path P_home_path (defScope s_home_path) := ⟨rfl, rfl, rfl, by decide +kernel, rfl, by decide +kernel, by decide +kernel⟩
abbrev N_way_home : List Str := ["net", "yard", "line"]
abbrev P_way_home : List Str := ["net", "yard", "line"]
theorem sc_way_home : FnScope N_way_home P_way_home (defScope s_way_home) := ⟨rfl, rfl, rfl, by decide +kernel, rfl, by decide +kernel, by decide +kernel⟩
abbrev N__law_box : List Str := ["_law_script", "_law_k", "_law_here", "_law_number", "_law_j", "_law_piece"]
abbrev P__law_box : List Str := ["_law_script", "_law_k"]
theorem sc__law_box : FnScope N__law_box P__law_box (defScope s__law_box) := ⟨rfl, rfl, rfl, by decide +kernel, rfl, by decide +kernel, by decide +kernel⟩
abbrev N__law_more : List Str := ["_law_box_here", "_law_number", "_law_j"]
abbrev P__law_more : List Str := ["_law_box_here"]
theorem sc__law_more : FnScope N__law_more P__law_more (defScope s__law_more) := ⟨rfl, rfl, rfl, by decide +kernel, rfl, by decide +kernel, by decide +kernel⟩
abbrev N__law_take : List Str := ["_law_box_here", "_law_count", "_law_rest_of", "_law_digit"]
abbrev P__law_take : List Str := ["_law_box_here", "_law_count"]
theorem sc__law_take : FnScope N__law_take P__law_take (defScope s__law_take) := ⟨rfl, rfl, rfl, by decide +kernel, rfl, by decide +kernel, by decide +kernel⟩
abbrev N__law_kind : List Str := ["_law_call", "e", "_law_some", "_law_words"]
abbrev P__law_kind : List Str := ["_law_call"]
theorem sc__law_kind : FnScope N__law_kind P__law_kind (defScope s__law_kind) := ⟨rfl, rfl, rfl, by decide +kernel, rfl, by decide +kernel, by decide +kernel⟩
abbrev N__law_net : List Str := ["_law_box_here", "_law_most", "_law_count", "_law_some", "_law_yards", "_law_far", "_law_found", "_law_yard", "_law_turn"]
abbrev P__law_net : List Str := ["_law_box_here", "_law_most"]
theorem sc__law_net : FnScope N__law_net P__law_net (defScope s__law_net) := ⟨rfl, rfl, rfl, by decide +kernel, rfl, by decide +kernel, by decide +kernel⟩
abbrev N__law_paths : List Str := ["_law_net_here", "_law_begin", "_law_found", "_law_fresh", "_law_one", "_law_other", "_law_line", "_law_far", "_law_here", "_law_there", "_law_way"]
abbrev P__law_paths : List Str := ["_law_net_here", "_law_begin"]
theorem sc__law_paths : FnScope N__law_paths P__law_paths (defScope s__law_paths) := ⟨rfl, rfl, rfl, by decide +kernel, rfl, by decide +kernel, by decide +kernel⟩
abbrev N_law : List Str := ["_law_script", "_law_k", "_law_box_here", "_law_net_here", "_law_count", "_law_yard", "_law_found", "_law_line", "_law_some", "_law_bad", "_law_there"]
abbrev P_law : List Str := ["_law_script"]
theorem sc_law : FnScope N_law P_law (defScope s_law) := ⟨rfl, rfl, rfl, by decide +kernel, rfl, by decide +kernel, by decide +kernel⟩
structure Ad where
  is_whole : Addr
  fd_is_whole : FuncData
  is_rising : Addr
  fd_is_rising : FuncData
  is_way : Addr
  fd_is_way : FuncData
  are_joined : Addr
  fd_are_joined : FuncData
  is_net : Addr
  fd_is_net : FuncData
  need_net : Addr
  fd_need_net : FuncData
  need_yard : Addr
  fd_need_yard : FuncData
  is_mark : Addr
  fd_is_mark : FuncData
  need_mark : Addr
  fd_need_mark : FuncData
  links : Addr
  fd_links : FuncData
  paths_from : Addr
  fd_paths_from : FuncData
  home_path : Addr
  fd_home_path : FuncData
  way_home : Addr
  fd_way_home : FuncData
  _law_box : Addr
  fd__law_box : FuncData
  _law_more : Addr
  fd__law_more : FuncData
  _law_take : Addr
  fd__law_take : FuncData
  _law_kind : Addr
  fd__law_kind : FuncData
  _law_net : Addr
  fd__law_net : FuncData
  _law_paths : Addr
  fd__law_paths : FuncData
  law : Addr
  fd_law : FuncData
  CoverError : Addr
  NoNet : Addr
  NoYard : Addr
  NoMark : Addr
  NoPage : Addr
  NoCover : Addr
  NoDay : Addr
  NoTariff : Addr
  NoBalance : Addr
  NoStray : Addr
  NoTrip : Addr
  NoPrice : Addr
  NoLine : Addr
  Gone : Addr
  Nothing : Addr
  Clash : Addr
  NoText : Addr
  TooMany : Addr
structure Txt (K : PySem.W.Frag) (mg : Str → Option Value) (A : Ad) : Prop where
  g_is_whole : mg "is_whole" = some (.ref A.is_whole)
  F_is_whole : Fun K "is_whole" "is_whole" s_is_whole A.is_whole A.fd_is_whole
  B_is_whole : Binds K A.fd_is_whole P_is_whole []
  g_is_rising : mg "is_rising" = some (.ref A.is_rising)
  F_is_rising : Fun K "is_rising" "is_rising" s_is_rising A.is_rising A.fd_is_rising
  B_is_rising : Binds K A.fd_is_rising P_is_rising []
  g_is_way : mg "is_way" = some (.ref A.is_way)
  F_is_way : Fun K "is_way" "is_way" s_is_way A.is_way A.fd_is_way
  B_is_way : Binds K A.fd_is_way P_is_way []
  g_are_joined : mg "are_joined" = some (.ref A.are_joined)
  F_are_joined : Fun K "are_joined" "are_joined" s_are_joined A.are_joined A.fd_are_joined
  B_are_joined : Binds K A.fd_are_joined P_are_joined []
  g_is_net : mg "is_net" = some (.ref A.is_net)
  F_is_net : Fun K "is_net" "is_net" s_is_net A.is_net A.fd_is_net
  B_is_net : Binds K A.fd_is_net P_is_net []
  g_need_net : mg "need_net" = some (.ref A.need_net)
  F_need_net : Fun K "need_net" "need_net" s_need_net A.need_net A.fd_need_net
  B_need_net : Binds K A.fd_need_net P_need_net []
  g_need_yard : mg "need_yard" = some (.ref A.need_yard)
  F_need_yard : Fun K "need_yard" "need_yard" s_need_yard A.need_yard A.fd_need_yard
  B_need_yard : Binds K A.fd_need_yard P_need_yard []
  g_is_mark : mg "is_mark" = some (.ref A.is_mark)
  F_is_mark : Fun K "is_mark" "is_mark" s_is_mark A.is_mark A.fd_is_mark
  B_is_mark : Binds K A.fd_is_mark P_is_mark []
  g_need_mark : mg "need_mark" = some (.ref A.need_mark)
  F_need_mark : Fun K "need_mark" "need_mark" s_need_mark A.need_mark A.fd_need_mark
  B_need_mark : Binds K A.fd_need_mark P_need_mark []
  g_links : mg "links" = some (.ref A.links)
  F_links : Fun K "links" "links" s_links A.links A.fd_links
  B_links : Binds K A.fd_links P_links []
  g_paths_from : mg "paths_from" = some (.ref A.paths_from)
  F_paths_from : Fun K "paths_from" "paths_from" s_paths_from A.paths_from A.fd_paths_from
  B_paths_from : Binds K A.fd_paths_from P_paths_from []
  g_home_path : mg "home_path" = some (.ref A.home_path)
  F_home_path : Fun K "home_path" "home_path" s_home_path A.home_path A.fd_home_path
  B_home_path : Binds K A.fd_home_path P_home_path []
  g_way_home : mg "way_home" = some (.ref A.way_home)
  F_way_home : Fun K "way_home" "way_home" s_way_home A.way_home A.fd_way_home
  B_way_home : Binds K A.fd_way_home P_way_home []
  g__law_box : mg "_law_box" = some (.ref A._law_box)
  F__law_box : Fun K "_law_box" "_law_box" s__law_box A._law_box A.fd__law_box
  B__law_box : Binds K A.fd__law_box P__law_box []
  g__law_more : mg "_law_more" = some (.ref A._law_more)
  F__law_more : Fun K "_law_more" "_law_more" s__law_more A._law_more A.fd__law_more
  B__law_more : Binds K A.fd__law_more P__law_more []
  g__law_take : mg "_law_take" = some (.ref A._law_take)
  F__law_take : Fun K "_law_take" "_law_take" s__law_take A._law_take A.fd__law_take
  B__law_take : Binds K A.fd__law_take P__law_take []
  g__law_kind : mg "_law_kind" = some (.ref A._law_kind)
  F__law_kind : Fun K "_law_kind" "_law_kind" s__law_kind A._law_kind A.fd__law_kind
  B__law_kind : Binds K A.fd__law_kind P__law_kind []
  g__law_net : mg "_law_net" = some (.ref A._law_net)
  F__law_net : Fun K "_law_net" "_law_net" s__law_net A._law_net A.fd__law_net
  B__law_net : Binds K A.fd__law_net P__law_net []
  g__law_paths : mg "_law_paths" = some (.ref A._law_paths)
  F__law_paths : Fun K "_law_paths" "_law_paths" s__law_paths A._law_paths A.fd__law_paths
  B__law_paths : Binds K A.fd__law_paths P__law_paths []
  g_law : mg "law" = some (.ref A.law)
  F_law : Fun K "law" "law" s_law A.law A.fd_law
  B_law : Binds K A.fd_law P_law []
  b_ValueError : mg "ValueError" = none
  b_abs : mg "abs" = none
  b_all : mg "all" = none
  b_bool : mg "bool" = none
  b_divmod : mg "divmod" = none
  b_int : mg "int" = none
  b_isinstance : mg "isinstance" = none
  b_len : mg "len" = none
  b_max : mg "max" = none
  b_min : mg "min" = none
  b_range : mg "range" = none
  b_repr : mg "repr" = none
  b_sorted : mg "sorted" = none
  b_tuple : mg "tuple" = none
  b_zip : mg "zip" = none
  c_LAST_LINE : ∃ t, mg "LAST_LINE" = some (.int 5 t)
  c_MOST_YARDS : ∃ t, mg "MOST_YARDS" = some (.int 10 t)
  c_MOST_WAYS : ∃ t, mg "MOST_WAYS" = some (.int 24 t)
  c_MOST_MILES : ∃ t, mg "MOST_MILES" = some (.int 99 t)
  g_CoverError : mg "CoverError" = some (.ref A.CoverError)
  g_NoNet : mg "NoNet" = some (.ref A.NoNet)
  x_NoNet : ExcK K A.NoNet
  r_NoNet : PySem.W.excIn K A.NoNet [.type "ValueError", .type "Exception", .type "BaseException", .type "object"] "ValueError.__new__" = true
  g_NoYard : mg "NoYard" = some (.ref A.NoYard)
  x_NoYard : ExcK K A.NoYard
  r_NoYard : PySem.W.excIn K A.NoYard [.type "ValueError", .type "Exception", .type "BaseException", .type "object"] "ValueError.__new__" = true
  g_NoMark : mg "NoMark" = some (.ref A.NoMark)
  x_NoMark : ExcK K A.NoMark
  r_NoMark : PySem.W.excIn K A.NoMark [.type "ValueError", .type "Exception", .type "BaseException", .type "object"] "ValueError.__new__" = true
  g_NoPage : mg "NoPage" = some (.ref A.NoPage)
  g_NoCover : mg "NoCover" = some (.ref A.NoCover)
  g_NoDay : mg "NoDay" = some (.ref A.NoDay)
  g_NoTariff : mg "NoTariff" = some (.ref A.NoTariff)
  g_NoBalance : mg "NoBalance" = some (.ref A.NoBalance)
  g_NoStray : mg "NoStray" = some (.ref A.NoStray)
  g_NoTrip : mg "NoTrip" = some (.ref A.NoTrip)
  g_NoPrice : mg "NoPrice" = some (.ref A.NoPrice)
  g_NoLine : mg "NoLine" = some (.ref A.NoLine)
  g_Gone : mg "Gone" = some (.ref A.Gone)
  g_Nothing : mg "Nothing" = some (.ref A.Nothing)
  g_Clash : mg "Clash" = some (.ref A.Clash)
  g_NoText : mg "NoText" = some (.ref A.NoText)
  g_TooMany : mg "TooMany" = some (.ref A.TooMany)
  k_NoMark_NoNet : PySem.W.kitOne K (.ref A.NoMark) (.ref A.NoNet) = some false
  k_NoMark_NoYard : PySem.W.kitOne K (.ref A.NoMark) (.ref A.NoYard) = some false
  k_NoMark_NoMark : PySem.W.kitOne K (.ref A.NoMark) (.ref A.NoMark) = some true
  k_NoMark_NoPage : PySem.W.kitOne K (.ref A.NoMark) (.ref A.NoPage) = some false
  k_NoMark_NoCover : PySem.W.kitOne K (.ref A.NoMark) (.ref A.NoCover) = some false
  k_NoMark_NoDay : PySem.W.kitOne K (.ref A.NoMark) (.ref A.NoDay) = some false
  k_NoMark_NoTariff : PySem.W.kitOne K (.ref A.NoMark) (.ref A.NoTariff) = some false
  k_NoMark_NoBalance : PySem.W.kitOne K (.ref A.NoMark) (.ref A.NoBalance) = some false
  k_NoMark_NoStray : PySem.W.kitOne K (.ref A.NoMark) (.ref A.NoStray) = some false
  k_NoMark_NoTrip : PySem.W.kitOne K (.ref A.NoMark) (.ref A.NoTrip) = some false
  k_NoMark_NoPrice : PySem.W.kitOne K (.ref A.NoMark) (.ref A.NoPrice) = some false
  k_NoMark_NoLine : PySem.W.kitOne K (.ref A.NoMark) (.ref A.NoLine) = some false
  k_NoMark_Gone : PySem.W.kitOne K (.ref A.NoMark) (.ref A.Gone) = some false
  k_NoMark_Nothing : PySem.W.kitOne K (.ref A.NoMark) (.ref A.Nothing) = some false
  k_NoMark_Clash : PySem.W.kitOne K (.ref A.NoMark) (.ref A.Clash) = some false
  k_NoMark_NoText : PySem.W.kitOne K (.ref A.NoMark) (.ref A.NoText) = some false
  k_NoMark_TooMany : PySem.W.kitOne K (.ref A.NoMark) (.ref A.TooMany) = some false
  v_NoMark : PySem.W.kitOne K (.ref A.NoMark) (.type "ValueError") = some true
  m_NoMark : PySem.W.exmOne K (.ref A.NoMark) (.ref A.CoverError) = some true
  k_NoNet_NoNet : PySem.W.kitOne K (.ref A.NoNet) (.ref A.NoNet) = some true
  k_NoNet_NoYard : PySem.W.kitOne K (.ref A.NoNet) (.ref A.NoYard) = some false
  k_NoNet_NoMark : PySem.W.kitOne K (.ref A.NoNet) (.ref A.NoMark) = some false
  k_NoNet_NoPage : PySem.W.kitOne K (.ref A.NoNet) (.ref A.NoPage) = some false
  k_NoNet_NoCover : PySem.W.kitOne K (.ref A.NoNet) (.ref A.NoCover) = some false
  k_NoNet_NoDay : PySem.W.kitOne K (.ref A.NoNet) (.ref A.NoDay) = some false
  k_NoNet_NoTariff : PySem.W.kitOne K (.ref A.NoNet) (.ref A.NoTariff) = some false
  k_NoNet_NoBalance : PySem.W.kitOne K (.ref A.NoNet) (.ref A.NoBalance) = some false
  k_NoNet_NoStray : PySem.W.kitOne K (.ref A.NoNet) (.ref A.NoStray) = some false
  k_NoNet_NoTrip : PySem.W.kitOne K (.ref A.NoNet) (.ref A.NoTrip) = some false
  k_NoNet_NoPrice : PySem.W.kitOne K (.ref A.NoNet) (.ref A.NoPrice) = some false
  k_NoNet_NoLine : PySem.W.kitOne K (.ref A.NoNet) (.ref A.NoLine) = some false
  k_NoNet_Gone : PySem.W.kitOne K (.ref A.NoNet) (.ref A.Gone) = some false
  k_NoNet_Nothing : PySem.W.kitOne K (.ref A.NoNet) (.ref A.Nothing) = some false
  k_NoNet_Clash : PySem.W.kitOne K (.ref A.NoNet) (.ref A.Clash) = some false
  k_NoNet_NoText : PySem.W.kitOne K (.ref A.NoNet) (.ref A.NoText) = some false
  k_NoNet_TooMany : PySem.W.kitOne K (.ref A.NoNet) (.ref A.TooMany) = some false
  v_NoNet : PySem.W.kitOne K (.ref A.NoNet) (.type "ValueError") = some true
  m_NoNet : PySem.W.exmOne K (.ref A.NoNet) (.ref A.CoverError) = some true
  k_NoYard_NoNet : PySem.W.kitOne K (.ref A.NoYard) (.ref A.NoNet) = some false
  k_NoYard_NoYard : PySem.W.kitOne K (.ref A.NoYard) (.ref A.NoYard) = some true
  k_NoYard_NoMark : PySem.W.kitOne K (.ref A.NoYard) (.ref A.NoMark) = some false
  k_NoYard_NoPage : PySem.W.kitOne K (.ref A.NoYard) (.ref A.NoPage) = some false
  k_NoYard_NoCover : PySem.W.kitOne K (.ref A.NoYard) (.ref A.NoCover) = some false
  k_NoYard_NoDay : PySem.W.kitOne K (.ref A.NoYard) (.ref A.NoDay) = some false
  k_NoYard_NoTariff : PySem.W.kitOne K (.ref A.NoYard) (.ref A.NoTariff) = some false
  k_NoYard_NoBalance : PySem.W.kitOne K (.ref A.NoYard) (.ref A.NoBalance) = some false
  k_NoYard_NoStray : PySem.W.kitOne K (.ref A.NoYard) (.ref A.NoStray) = some false
  k_NoYard_NoTrip : PySem.W.kitOne K (.ref A.NoYard) (.ref A.NoTrip) = some false
  k_NoYard_NoPrice : PySem.W.kitOne K (.ref A.NoYard) (.ref A.NoPrice) = some false
  k_NoYard_NoLine : PySem.W.kitOne K (.ref A.NoYard) (.ref A.NoLine) = some false
  k_NoYard_Gone : PySem.W.kitOne K (.ref A.NoYard) (.ref A.Gone) = some false
  k_NoYard_Nothing : PySem.W.kitOne K (.ref A.NoYard) (.ref A.Nothing) = some false
  k_NoYard_Clash : PySem.W.kitOne K (.ref A.NoYard) (.ref A.Clash) = some false
  k_NoYard_NoText : PySem.W.kitOne K (.ref A.NoYard) (.ref A.NoText) = some false
  k_NoYard_TooMany : PySem.W.kitOne K (.ref A.NoYard) (.ref A.TooMany) = some false
  v_NoYard : PySem.W.kitOne K (.ref A.NoYard) (.type "ValueError") = some true
  m_NoYard : PySem.W.exmOne K (.ref A.NoYard) (.ref A.CoverError) = some true
def clF (A : Ad) : String → Addr
  | "CoverError" => A.CoverError
  | "NoNet" => A.NoNet
  | "NoYard" => A.NoYard
  | "NoMark" => A.NoMark
  | "NoPage" => A.NoPage
  | "NoCover" => A.NoCover
  | "NoDay" => A.NoDay
  | "NoTariff" => A.NoTariff
  | "NoBalance" => A.NoBalance
  | "NoStray" => A.NoStray
  | "NoTrip" => A.NoTrip
  | "NoPrice" => A.NoPrice
  | "NoLine" => A.NoLine
  | "Gone" => A.Gone
  | "Nothing" => A.Nothing
  | "Clash" => A.Clash
  | "NoText" => A.NoText
  | "TooMany" => A.TooMany
  | _ => 0
abbrev clA (A : Ad) (Tb : List (Addr × Str)) : Cl := ⟨clF A, Tb⟩
end Cv
end
section
namespace Cv
open PySem L2
variable {P : Program} {w : World} {K : PySem.W.Frag} {mg : Str → Option Value} {base : Heap} {A : Ad} {Tb : List (Addr × Str)}
def b_is_whole : M Fl := (vRet (vAnd (vIs PyData.isInt (vVar 0)) (vAnd (vNot (vIs PyData.isBool (vVar 0))) (vChain dLe dLe (vVar 1) (vVar 0) (vVar 2)))))
def m_is_whole : List D → Option Rf := runF 3 [] 3 b_is_whole
theorem ok_is_whole (T : Txt K mg A) : FnOk P w K mg base (L2.CX P w) 1 A.is_whole A.fd_is_whole P_is_whole (spV ⟨P, w, K⟩ (clA A Tb) 3 [] false m_is_whole) :=
  def_okX (k := 0) T.F_is_whole sc_is_whole rfl (by decide) rfl fun cdv A' outer s H vs E hr =>
    (vss_one (vs_ret (ve_and (ve_frz (vo_is (x := "") c_is_int (by rfl) T.b_isinstance (by rfl) T.b_int (by decide +kernel) (vb_of (ve_var 0)))) (ve_and (ve_frz (vo_not (ve_frz (vo_is (x := "") c_is_bool (by rfl) T.b_isinstance (by rfl) T.b_bool (by decide +kernel) (vb_of (ve_var 0)))))) (ve_one (ve_frz (vo_chain (o_le hr.units) (o_le hr.units) (ve_var 1) (ve_var 0) (vb_of (ve_var 2)))))))))
def b_is_rising : M Fl := (vRet (vC1 dAll (vLc (vZip (vVar 0) (vSl (vVar 0) (vPart (ret (.int 1))) vNoPart)) [1, 2] (vGTup 2 (vGCons (vSetSh 1) (vGCons (vSetSh 2) vGNil))) vYes (vOp dLt (vVar 1) (vVar 2)))))
def m_is_rising : List D → Option Rf := runF 1 [] 3 b_is_rising
theorem ok_is_rising (T : Txt K mg A) : FnOk P w K mg base (L2.CX P w) 1 A.is_rising A.fd_is_rising P_is_rising (spV ⟨P, w, K⟩ (clA A Tb) 1 [] false m_is_rising) :=
  def_okX (k := 0) T.F_is_rising sc_is_rising rfl (by decide) rfl fun cdv A' outer s H vs E hr =>
    (vss_one (vs_ret (ve_frz (vo_b1 (c_all rfl) (by rfl) T.b_all (by decide +kernel) (vb_of (ve_frz (vo_lc (rel := Up) (own := [("one", 1), ("other", 2)]) (t := vYes) rfl sc_is_rising.nd (vi_zip (by rfl) T.b_zip (ve_var 0) (ve_frz (vo_sl (ve_var 0) (vp_some (ve_frz vo_int)) vp_none))) (blkOk_by (own := [("one", 1), ("other", 2)]) (N := N_is_rising) (sc := defScope s_is_rising) (by decide +kernel)) (nfxs (fx := []) rfl rfl) (fun _ _ _ _ _ _ => (vg_tup (n := 2) rfl (vgs_cons (vg_name (vs := [1, 2]) (i := 1) sc_is_rising.nd rfl (Or.inl rfl) (nfx (fx := []) rfl rfl) (by decide)) (vgs_cons (vg_name (vs := [1, 2]) (i := 2) sc_is_rising.nd rfl (Or.inl rfl) (nfx (fx := []) rfl rfl) (by decide)) vgs_nil)))) (fun _ _ _ _ _ _ => vts_nil) (fun _ _ _ _ _ _ => (ve_frz (vo_cmp (o_lt hr.units) (ve_var 1) (vb_of (ve_var 2)) (nomark _)))))))))))
def b_is_way : M Fl := (vSeq (vIf (vOrT (vNotT (vT (vIs PyData.isTuple (vVar 0)))) (vOrT (vT (vOp dNe (vC1 dLen (vVar 0)) (ret (.int 4)))) (vNotT (vT (vCall m_is_whole (vCons (vOp dIx (vVar 0) (ret (.int 1))) (vCons (ret (.int 0)) (vCons (vOp dSub (vVar 1) (ret (.int 1))) vNil))))))))
      (vRet (ret (.bool false)))
      (ret .nx))
    (vSeq (vIf (vOrT (vNotT (vT (vCall m_is_whole (vCons (vOp dIx (vVar 0) (ret (.int 0))) (vCons (ret (.int 0)) (vCons (vOp dSub (vOp dIx (vVar 0) (ret (.int 1))) (ret (.int 1))) vNil)))))) (vNotT (vT (vCall m_is_whole (vCons (vOp dIx (vVar 0) (ret (.int 2))) (vCons (ret (.int 0)) (vCons (ret (.int 5)) vNil)))))))
      (vRet (ret (.bool false)))
      (ret .nx))
    (vRet (vCall m_is_whole (vCons (vOp dIx (vVar 0) (ret (.int 3))) (vCons (ret (.int 1)) (vCons (ret (.int 99)) vNil)))))))
def m_is_way : List D → Option Rf := runF 2 [] 2 b_is_way
theorem ok_is_way (T : Txt K mg A) : FnOk P w K mg base (L2.CX P w) 2 A.is_way A.fd_is_way P_is_way (spV ⟨P, w, K⟩ (clA A Tb) 2 [] false m_is_way) :=
  def_okX (k := 1) T.F_is_way sc_is_way rfl (by decide) rfl fun cdv A' outer s H vs E hr =>
    (vss_cons (vs_if (vt_w (vw_or (vt_not (vt_val (ve_frz (vo_is (x := "") c_is_tuple (by rfl) T.b_isinstance (by rfl) T.b_tuple (by decide +kernel) (vb_of (ve_var 0)))))) (vw_or (vt_cmp (o_ne hr.units) (ve_frz (vo_b1 c_len (by rfl) T.b_len (by decide +kernel) (vb_of (ve_var 0)))) (vb_of (ve_frz vo_int)) (nomark _)) (vw_or1 (vt_not (vt_val (ve_call (ok_is_whole T) (hr.mono (by decide)) (by rfl) T.g_is_whole T.F_is_whole.kp T.B_is_whole (passes_call (takes_of rfl rfl rfl rfl) (fun _ _ _ _ h => h)) runF_len (va_cons (ve_ix hr.units (ve_var 0) (vb_of (ve_frz vo_int)) (fun _ _ => rfl)) (va_cons (ve_frz vo_int) (va_cons (ve_frz (vo_op o_sub (ve_var 1) (vb_of (ve_frz vo_int)))) va_nil))))))))))
      (vss_one (vs_ret (ve_frz vo_bl)))
      vss_nil)
    (vss_cons (vs_if (vt_w (vw_or (vt_not (vt_val (ve_call (ok_is_whole T) (hr.mono (by decide)) (by rfl) T.g_is_whole T.F_is_whole.kp T.B_is_whole (passes_call (takes_of rfl rfl rfl rfl) (fun _ _ _ _ h => h)) runF_len (va_cons (ve_ix hr.units (ve_var 0) (vb_of (ve_frz vo_int)) (fun _ _ => rfl)) (va_cons (ve_frz vo_int) (va_cons (ve_frz (vo_op o_sub (ve_ix hr.units (ve_var 0) (vb_of (ve_frz vo_int)) (fun _ _ => rfl)) (vb_of (ve_frz vo_int)))) va_nil)))))) (vw_or1 (vt_not (vt_val (ve_call (ok_is_whole T) (hr.mono (by decide)) (by rfl) T.g_is_whole T.F_is_whole.kp T.B_is_whole (passes_call (takes_of rfl rfl rfl rfl) (fun _ _ _ _ h => h)) runF_len (va_cons (ve_ix hr.units (ve_var 0) (vb_of (ve_frz vo_int)) (fun _ _ => rfl)) (va_cons (ve_frz vo_int) (va_cons (ve_frz (vo_glI (by rfl) T.c_LAST_LINE)) va_nil)))))))))
      (vss_one (vs_ret (ve_frz vo_bl)))
      vss_nil)
    (vss_one (vs_ret (ve_call (ok_is_whole T) (hr.mono (by decide)) (by rfl) T.g_is_whole T.F_is_whole.kp T.B_is_whole (passes_call (takes_of rfl rfl rfl rfl) (fun _ _ _ _ h => h)) runF_len (va_cons (ve_ix hr.units (ve_var 0) (vb_of (ve_frz vo_int)) (fun _ _ => rfl)) (va_cons (ve_frz vo_int) (va_cons (ve_frz (vo_glI (by rfl) T.c_MOST_MILES)) va_nil))))))))
def b_are_joined : M Fl := (vSeq (vSetO 2 (vLst (vCons (ret (.int 0)) vNil)))
    (vSeq (vSetO 3 (ret (.int 0)))
    (vSeq (vWhile (vT (vOp dLt (vVar 3) (vC1 dLen (vGet 2))))
      (vSeq (vFor (vItT (vVar 1)) (vGTup 4 (vGCons (vSetSh 4) (vGCons (vSetSh 5) (vGCons (vSetSh 6) (vGCons (vSetSh 7) vGNil)))))
        (vIf (vT (vOp dIn (vOpN dIx 2 (vVar 3)) (vTup (vCons (vVar 4) (vCons (vVar 5) vNil)))))
          (vDrop (vMW "list" dExtend 2 (vCons (vLc (vItT (vTup (vCons (vVar 4) (vCons (vVar 5) vNil)))) [8] (vSetSh 8) (vT (vOp dNotIn (vVar 8) (vGet 2))) (vVar 8)) vNil)))
          (ret .nx)))
      (vSetO 3 (vOp dAdd (vVar 3) (ret (.int 1))))))
    (vRet (vOp dEq (vC1 dLen (vGet 2)) (vVar 0))))))
def m_are_joined : List D → Option Rf := runF 2 [] 9 b_are_joined
theorem ok_are_joined (T : Txt K mg A) : FnOk P w K mg base (L2.CX P w) 1 A.are_joined A.fd_are_joined P_are_joined (spV ⟨P, w, K⟩ (clA A Tb) 2 [] false m_are_joined) :=
  def_okX (k := 0) T.F_are_joined sc_are_joined rfl (by decide) rfl fun cdv A' outer s H vs E hr =>
    (vss_cons (vs_setO (i := 2) sc_are_joined.nd rfl (Or.inr rfl) (vo_lst (va_cons (ve_frz vo_int) va_nil)) (nfx (fx := []) rfl rfl))
    (vss_cons (vs_setO (i := 3) sc_are_joined.nd rfl (Or.inl rfl) vo_int (nfx (fx := []) rfl rfl))
    (vss_cons (vs_while (passes_of rfl) (vt_cmp (o_lt hr.units) (ve_var 3) (vb_of (ve_frz (vo_b1 c_len (by rfl) T.b_len (by decide +kernel) (vb_var 2)))) (nomark _))
      (vss_cons (vs_for (rel := Sh) (passes_of rfl) rfl (vi_tup (ve_var 1)) (vg_weak (vg_tup (n := 4) rfl (vgs_cons (vg_name (vs := [4, 5, 6, 7]) (i := 4) sc_are_joined.nd rfl (Or.inl rfl) (nfx (fx := []) rfl rfl) (by decide)) (vgs_cons (vg_name (vs := [4, 5, 6, 7]) (i := 5) sc_are_joined.nd rfl (Or.inl rfl) (nfx (fx := []) rfl rfl) (by decide)) (vgs_cons (vg_name (vs := [4, 5, 6, 7]) (i := 6) sc_are_joined.nd rfl (Or.inl rfl) (nfx (fx := []) rfl rfl) (by decide)) (vgs_cons (vg_name (vs := [4, 5, 6, 7]) (i := 7) sc_are_joined.nd rfl (Or.inl rfl) (nfx (fx := []) rfl rfl) (by decide)) vgs_nil))))))
        (vss_one (vs_if (vt_cmp (o_in hr.units) (ve_ixN 2 hr.units (vb_of (ve_var 3)) (fun _ _ => rfl)) (vb_of (ve_frz (vo_tup (va_cons (ve_var 4) (va_cons (ve_var 5) va_nil))))) (by rfl))
          (vss_one (vs_exprE (ve_mw 2 PySem.F.plainAttrs_list PySem.F.slot_list_extend PySem.F.type_list_extend m_extend (va_cons (ve_frz (vo_lc (rel := Sh) (own := [("yard", 8)]) (t := (vT (vOp dNotIn (vVar 8) (vGet 2)))) rfl sc_are_joined.nd (vi_tup (ve_frz (vo_tup (va_cons (ve_var 4) (va_cons (ve_var 5) va_nil))))) (blkOk_by (own := [("yard", 8)]) (N := N_are_joined) (sc := defScope s_are_joined) (by decide +kernel)) (nfxs (fx := []) rfl rfl) (fun _ _ _ _ _ _ => (vg_name (vs := [8]) (i := 8) sc_are_joined.nd rfl (Or.inl rfl) (nfx (fx := []) rfl rfl) (by decide))) (fun _ _ _ _ _ _ => (vts_one (vt_cmp (o_notin hr.units) (ve_var 8) (vb_var 2) (by rfl)))) (fun _ _ _ _ _ _ => (ve_var 8)))) va_nil))))
          vss_nil)))
      (vss_one (vs_setO (i := 3) sc_are_joined.nd rfl (Or.inl rfl) (vo_op o_add (ve_var 3) (vb_of (ve_frz vo_int))) (nfx (fx := []) rfl rfl)))))
    (vss_one (vs_ret (ve_frz (vo_cmp (o_eq hr.units) (ve_frz (vo_b1 c_len (by rfl) T.b_len (by decide +kernel) (vb_var 2))) (vb_of (ve_var 0)) (nomark _))))))))
def b_is_net : M Fl := (vSeq (vIf (vOrT (vNotT (vT (vIs PyData.isTuple (vVar 0)))) (vT (vOp dNe (vC1 dLen (vVar 0)) (ret (.int 2)))))
      (vRet (ret (.bool false)))
      (ret .nx))
    (vSeq (vAsg (vVar 0) (vGTup 2 (vGCons (vSetSh 1) (vGCons (vSetSh 2) vGNil))))
    (vSeq (vIf (vOrT (vNotT (vT (vIs PyData.isTuple (vVar 1)))) (vNotT (vT (vChain dLe dLe (ret (.int 1)) (vC1 dLen (vVar 1)) (ret (.int 10))))))
      (vRet (ret (.bool false)))
      (ret .nx))
    (vSeq (vIf (vNotT (vT (vC1 dAll (vLc (vItT (vVar 1)) [3] (vSetSh 3) vYes (vCall m_is_whole (vCons (vVar 3) (vCons (ret (.int 0)) (vCons (ret (.int 5)) vNil))))))))
      (vRet (ret (.bool false)))
      (ret .nx))
    (vSeq (vIf (vOrT (vNotT (vT (vIs PyData.isTuple (vVar 2)))) (vOrT (vT (vOp dGt (vC1 dLen (vVar 2)) (ret (.int 24)))) (vNotT (vT (vC1 dAll (vLc (vItT (vVar 2)) [4] (vSetSh 4) vYes (vCall m_is_way (vCons (vVar 4) (vCons (vC1 dLen (vVar 1)) vNil)))))))))
      (vRet (ret (.bool false)))
      (ret .nx))
    (vRet (vAnd (vCall m_is_rising (vCons (vVar 2) vNil)) (vCall m_are_joined (vCons (vC1 dLen (vVar 1)) (vCons (vVar 2) vNil))))))))))
def m_is_net : List D → Option Rf := runF 1 [] 5 b_is_net
theorem ok_is_net (T : Txt K mg A) : FnOk P w K mg base (L2.CX P w) 3 A.is_net A.fd_is_net P_is_net (spV ⟨P, w, K⟩ (clA A Tb) 1 [] false m_is_net) :=
  def_okX (k := 2) T.F_is_net sc_is_net rfl (by decide) rfl fun cdv A' outer s H vs E hr =>
    (vss_cons (vs_if (vt_w (vw_or (vt_not (vt_val (ve_frz (vo_is (x := "") c_is_tuple (by rfl) T.b_isinstance (by rfl) T.b_tuple (by decide +kernel) (vb_of (ve_var 0)))))) (vw_or1 (vt_cmp (o_ne hr.units) (ve_frz (vo_b1 c_len (by rfl) T.b_len (by decide +kernel) (vb_of (ve_var 0)))) (vb_of (ve_frz vo_int)) (nomark _)))))
      (vss_one (vs_ret (ve_frz vo_bl)))
      vss_nil)
    (vss_cons (vs_asg (ve_var 0) (vg_weak (vg_tup (n := 2) rfl (vgs_cons (vg_name (vs := [1, 2]) (i := 1) sc_is_net.nd rfl (Or.inr rfl) (nfx (fx := []) rfl rfl) (by decide)) (vgs_cons (vg_name (vs := [1, 2]) (i := 2) sc_is_net.nd rfl (Or.inl rfl) (nfx (fx := []) rfl rfl) (by decide)) vgs_nil)))))
    (vss_cons (vs_if (vt_w (vw_or (vt_not (vt_val (ve_frz (vo_is (x := "") c_is_tuple (by rfl) T.b_isinstance (by rfl) T.b_tuple (by decide +kernel) (vb_of (ve_var 1)))))) (vw_or1 (vt_not (vt_chain (o_le hr.units) (o_le hr.units) (ve_frz vo_int) (ve_frz (vo_b1 c_len (by rfl) T.b_len (by decide +kernel) (vb_of (ve_var 1)))) (vb_of (ve_frz (vo_glI (by rfl) T.c_MOST_YARDS))))))))
      (vss_one (vs_ret (ve_frz vo_bl)))
      vss_nil)
    (vss_cons (vs_if (vt_not (vt_val (ve_frz (vo_b1 (c_all rfl) (by rfl) T.b_all (by decide +kernel) (vb_of (ve_frz (vo_lc (rel := Sh) (own := [("line", 3)]) (t := vYes) rfl sc_is_net.nd (vi_tup (ve_var 1)) (blkOk_by (own := [("line", 3)]) (N := N_is_net) (sc := defScope s_is_net) (by decide +kernel)) (nfxs (fx := []) rfl rfl) (fun _ _ _ _ _ _ => (vg_name (vs := [3]) (i := 3) sc_is_net.nd rfl (Or.inl rfl) (nfx (fx := []) rfl rfl) (by decide))) (fun _ _ _ _ _ _ => vts_nil) (fun _ _ _ _ _ _ => (ve_call (ok_is_whole T) (hr.mono (by decide)) (by rfl) T.g_is_whole T.F_is_whole.kp T.B_is_whole passF runF_len (va_cons (ve_var 3) (va_cons (ve_frz vo_int) (va_cons (ve_frz (vo_glI (by rfl) T.c_LAST_LINE)) va_nil))))))))))))
      (vss_one (vs_ret (ve_frz vo_bl)))
      vss_nil)
    (vss_cons (vs_if (vt_w (vw_or (vt_not (vt_val (ve_frz (vo_is (x := "") c_is_tuple (by rfl) T.b_isinstance (by rfl) T.b_tuple (by decide +kernel) (vb_of (ve_var 2)))))) (vw_or (vt_cmp (o_gt hr.units) (ve_frz (vo_b1 c_len (by rfl) T.b_len (by decide +kernel) (vb_of (ve_var 2)))) (vb_of (ve_frz (vo_glI (by rfl) T.c_MOST_WAYS))) (nomark _)) (vw_or1 (vt_not (vt_val (ve_frz (vo_b1 (c_all rfl) (by rfl) T.b_all (by decide +kernel) (vb_of (ve_frz (vo_lc (rel := Sh) (own := [("one", 4)]) (t := vYes) rfl sc_is_net.nd (vi_tup (ve_var 2)) (blkOk_by (own := [("one", 4)]) (N := N_is_net) (sc := defScope s_is_net) (by decide +kernel)) (nfxs (fx := []) rfl rfl) (fun _ _ _ _ _ _ => (vg_name (vs := [4]) (i := 4) sc_is_net.nd rfl (Or.inl rfl) (nfx (fx := []) rfl rfl) (by decide))) (fun _ _ _ _ _ _ => vts_nil) (fun _ _ _ _ _ _ => (ve_call (ok_is_way T) (hr.mono (by decide)) (by rfl) T.g_is_way T.F_is_way.kp T.B_is_way passF runF_len (va_cons (ve_var 4) (va_cons (ve_frz (vo_b1 c_len (by rfl) T.b_len (by decide +kernel) (vb_of (ve_var 1)))) va_nil)))))))))))))))
      (vss_one (vs_ret (ve_frz vo_bl)))
      vss_nil)
    (vss_one (vs_ret (ve_and (ve_call (ok_is_rising T) (hr.mono (by decide)) (by rfl) T.g_is_rising T.F_is_rising.kp T.B_is_rising (passes_call (takes_of rfl rfl rfl rfl) (fun _ _ _ _ h => h)) runF_len (va_cons (ve_var 2) va_nil)) (ve_one (ve_call (ok_are_joined T) (hr.mono (by decide)) (by rfl) T.g_are_joined T.F_are_joined.kp T.B_are_joined (passes_call (takes_of rfl rfl rfl rfl) (fun _ _ _ _ h => h)) runF_len (va_cons (ve_frz (vo_b1 c_len (by rfl) T.b_len (by decide +kernel) (vb_of (ve_var 1)))) (va_cons (ve_var 2) va_nil))))))))))))
def b_need_net : M Fl := (vIf (vNotT (vT (vCall m_is_net (vCons (vVar 0) vNil))))
      (vRaise "NoNet")
      (ret .nx))
def m_need_net : List D → Option Rf := runF 1 [] 1 b_need_net
theorem ok_need_net (T : Txt K mg A) : FnOk P w K mg base (L2.CX P w) 4 A.need_net A.fd_need_net P_need_net (spV ⟨P, w, K⟩ (clA A Tb) 1 [] false m_need_net) :=
  def_okX (k := 3) T.F_need_net sc_need_net rfl (by decide) rfl fun cdv A' outer s H vs E hr =>
    (vss_one (vs_if (vt_not (vt_val (ve_call (ok_is_net T) (hr.mono (by decide)) (by rfl) T.g_is_net T.F_is_net.kp T.B_is_net (passes_call (takes_of rfl rfl rfl rfl) (fun _ _ _ _ h => h)) runF_len (va_cons (ve_var 0) va_nil))))
      (vss_one (vs_raise (ps_raise rfl (takes_of rfl rfl rfl rfl) (pmk_own PySem.F.excBase_ValueError T.r_NoNet T.g_NoNet T.x_NoNet.kp (raises_own T.x_NoNet.bs T.x_NoNet.ty) (by rfl))) rfl))
      vss_nil))
def b_need_yard : M Fl := (vIf (vNotT (vT (vCall m_is_whole (vCons (vVar 1) (vCons (ret (.int 0)) (vCons (vOp dSub (vC1 dLen (vOp dIx (vVar 0) (ret (.int 0)))) (ret (.int 1))) vNil))))))
      (vRaise "NoYard")
      (ret .nx))
def m_need_yard : List D → Option Rf := runF 2 [] 2 b_need_yard
theorem ok_need_yard (T : Txt K mg A) : FnOk P w K mg base (L2.CX P w) 2 A.need_yard A.fd_need_yard P_need_yard (spV ⟨P, w, K⟩ (clA A Tb) 2 [] false m_need_yard) :=
  def_okX (k := 1) T.F_need_yard sc_need_yard rfl (by decide) rfl fun cdv A' outer s H vs E hr =>
    (vss_one (vs_if (vt_not (vt_val (ve_call (ok_is_whole T) (hr.mono (by decide)) (by rfl) T.g_is_whole T.F_is_whole.kp T.B_is_whole (passes_call (takes_of rfl rfl rfl rfl) (fun _ _ _ _ h => h)) runF_len (va_cons (ve_var 1) (va_cons (ve_frz vo_int) (va_cons (ve_frz (vo_op o_sub (ve_frz (vo_b1 c_len (by rfl) T.b_len (by decide +kernel) (vb_of (ve_ix hr.units (ve_var 0) (vb_of (ve_frz vo_int)) (fun _ _ => rfl))))) (vb_of (ve_frz vo_int)))) va_nil))))))
      (vss_one (vs_raise (ps_raise rfl (takes_of rfl rfl rfl rfl) (pmk_own PySem.F.excBase_ValueError T.r_NoYard T.g_NoYard T.x_NoYard.kp (raises_own T.x_NoYard.bs T.x_NoYard.ty) (by rfl))) rfl))
      vss_nil))
def b_is_mark : M Fl := (vRet (vAnd (vCall m_is_whole (vCons (vVar 1) (vCons (ret (.int 0)) (vCons (ret (.int 5)) vNil)))) (vOp dIn (vVar 1) (vOp dIx (vVar 0) (ret (.int 0))))))
def m_is_mark : List D → Option Rf := runF 2 [] 2 b_is_mark
theorem ok_is_mark (T : Txt K mg A) : FnOk P w K mg base (L2.CX P w) 2 A.is_mark A.fd_is_mark P_is_mark (spV ⟨P, w, K⟩ (clA A Tb) 2 [] false m_is_mark) :=
  def_okX (k := 1) T.F_is_mark sc_is_mark rfl (by decide) rfl fun cdv A' outer s H vs E hr =>
    (vss_one (vs_ret (ve_and (ve_call (ok_is_whole T) (hr.mono (by decide)) (by rfl) T.g_is_whole T.F_is_whole.kp T.B_is_whole (passes_call (takes_of rfl rfl rfl rfl) (fun _ _ _ _ h => h)) runF_len (va_cons (ve_var 1) (va_cons (ve_frz vo_int) (va_cons (ve_frz (vo_glI (by rfl) T.c_LAST_LINE)) va_nil)))) (ve_one (ve_frz (vo_cmp (o_in hr.units) (ve_var 1) (vb_of (ve_ix hr.units (ve_var 0) (vb_of (ve_frz vo_int)) (fun _ _ => rfl))) (by rfl)))))))
def b_need_mark : M Fl := (vIf (vNotT (vT (vCall m_is_mark (vCons (vVar 0) (vCons (vVar 1) vNil)))))
      (vRaise "NoMark")
      (ret .nx))
def m_need_mark : List D → Option Rf := runF 2 [] 2 b_need_mark
theorem ok_need_mark (T : Txt K mg A) : FnOk P w K mg base (L2.CX P w) 3 A.need_mark A.fd_need_mark P_need_mark (spV ⟨P, w, K⟩ (clA A Tb) 2 [] false m_need_mark) :=
  def_okX (k := 2) T.F_need_mark sc_need_mark rfl (by decide) rfl fun cdv A' outer s H vs E hr =>
    (vss_one (vs_if (vt_not (vt_val (ve_call (ok_is_mark T) (hr.mono (by decide)) (by rfl) T.g_is_mark T.F_is_mark.kp T.B_is_mark (passes_call (takes_of rfl rfl rfl rfl) (fun _ _ _ _ h => h)) runF_len (va_cons (ve_var 0) (va_cons (ve_var 1) va_nil)))))
      (vss_one (vs_raise (ps_raise rfl (takes_of rfl rfl rfl rfl) (pmk_own PySem.F.excBase_ValueError T.r_NoMark T.g_NoMark T.x_NoMark.kp (raises_own T.x_NoMark.bs T.x_NoMark.ty) (by rfl))) rfl))
      vss_nil))
def b_links : M Fl := (vSeq (vSetO 1 vDict0)
    (vSeq (vFor (vItT (vOp dIx (vVar 0) (ret (.int 1)))) (vGTup 4 (vGCons (vSetSh 2) (vGCons (vSetSh 3) (vGCons (vSetSh 4) (vGCons (vSetSh 5) vGNil)))))
      (vFor (vItT (vTup (vCons (vTup (vCons (vVar 2) (vCons (vVar 3) vNil))) (vCons (vTup (vCons (vVar 3) (vCons (vVar 2) vNil))) vNil)))) (vSetSh 6)
        (vIf (vOrT (vT (vOp dNotIn (vVar 6) (vGet 1))) (vT (vOp dLt (vTup (vCons (vVar 5) (vCons (vVar 4) vNil))) (vOpN dIx 1 (vVar 6)))))
          (vPut 1 (vVar 6) (vTup (vCons (vVar 5) (vCons (vVar 4) vNil))))
          (ret .nx))))
    (vRet (vVar 1))))
def m_links : List D → Option Rf := runF 1 [] 7 b_links
theorem ok_links (T : Txt K mg A) : FnOk P w K mg base (L2.CX P w) 1 A.links A.fd_links P_links (spV ⟨P, w, K⟩ (clA A Tb) 1 [] false m_links) :=
  def_okX (k := 0) T.F_links sc_links rfl (by decide) rfl fun cdv A' outer s H vs E hr =>
    (vss_cons (vs_setO (i := 1) sc_links.nd rfl (Or.inl rfl) vo_dict0 (nfx (fx := []) rfl rfl))
    (vss_cons (vs_for (rel := Sh) (passes_of rfl) rfl (vi_tup (ve_ix hr.units (ve_var 0) (vb_of (ve_frz vo_int)) (fun _ _ => rfl))) (vg_weak (vg_tup (n := 4) rfl (vgs_cons (vg_name (vs := [2, 3, 4, 5]) (i := 2) sc_links.nd rfl (Or.inl rfl) (nfx (fx := []) rfl rfl) (by decide)) (vgs_cons (vg_name (vs := [2, 3, 4, 5]) (i := 3) sc_links.nd rfl (Or.inl rfl) (nfx (fx := []) rfl rfl) (by decide)) (vgs_cons (vg_name (vs := [2, 3, 4, 5]) (i := 4) sc_links.nd rfl (Or.inl rfl) (nfx (fx := []) rfl rfl) (by decide)) (vgs_cons (vg_name (vs := [2, 3, 4, 5]) (i := 5) sc_links.nd rfl (Or.inl rfl) (nfx (fx := []) rfl rfl) (by decide)) vgs_nil))))))
      (vss_one (vs_for (rel := Sh) (passes_of rfl) rfl (vi_tup (ve_frz (vo_tup (va_cons (ve_frz (vo_tup (va_cons (ve_var 2) (va_cons (ve_var 3) va_nil)))) (va_cons (ve_frz (vo_tup (va_cons (ve_var 3) (va_cons (ve_var 2) va_nil)))) va_nil))))) (vg_name (vs := [6]) (i := 6) sc_links.nd rfl (Or.inl rfl) (nfx (fx := []) rfl rfl) (by decide))
        (vss_one (vs_if (vt_w (vw_or (vt_cmp (o_notin hr.units) (ve_var 6) (vb_var 1) (by rfl)) (vw_or1 (vt_cmp (o_lt hr.units) (ve_frz (vo_tup (va_cons (ve_var 5) (va_cons (ve_var 4) va_nil)))) (vb_of (ve_ixN 1 hr.units (vb_of (ve_var 6)) (fun _ _ => rfl))) (nomark _)))))
          (vss_one (vs_put 1 hr.units (ve_frz (vo_tup (va_cons (ve_var 5) (va_cons (ve_var 4) va_nil)))) (vb_of (ve_var 6))))
          vss_nil)))))
    (vss_one (vs_ret (ve_var 1)))))
def b_paths_from : M Fl := (vSeq (vSet 2 (vCall m_links (vCons (vVar 0) vNil)))
    (vSeq (vSetO 3 vDict0)
    (vSeq (vSetO 4 (vLst (vCons (vTup (vCons (ret (.int 0)) (vCons (vTup (vCons (vVar 1) vNil)) vNil))) vNil)))
    (vSeq (vWhile (vT (vOpN dNe 4 (vLst vNil)))
      (vSeq (vAsg (vC1 dMinD (vGet 4)) (vGTup 2 (vGCons (vSetSh 5) (vGCons (vSetSh 6) vGNil))))
      (vSeq (vDrop (vMW "list" dRemove 4 (vCons (vTup (vCons (vVar 5) (vCons (vVar 6) vNil))) vNil)))
      (vIf (vT (vOp dNotIn (vOp dIx (vVar 6) (vNeg (ret (.int 1)))) (vGet 3)))
        (vSeq (vPut 3 (vOp dIx (vVar 6) (vNeg (ret (.int 1)))) (vTup (vCons (vVar 5) (vCons (vVar 6) vNil))))
        (vFor (vItK (vVar 2)) (vSetSh 7)
          (vIf (vAndT (vT (vOp dEq (vOp dIx (vVar 7) (ret (.int 0))) (vOp dIx (vVar 6) (vNeg (ret (.int 1)))))) (vT (vOp dNotIn (vOp dIx (vVar 7) (ret (.int 1))) (vGet 3))))
            (vDrop (vMW "list" dAppend 4 (vCons (vTup (vCons (vOp dAdd (vVar 5) (vOp dIx (vOp dIx (vVar 2) (vVar 7)) (ret (.int 0)))) (vCons (vOp dAdd (vVar 6) (vTup (vCons (vOp dIx (vVar 7) (ret (.int 1))) vNil))) vNil))) vNil)))
            (ret .nx))))
        (ret .nx)))))
    (vRet (vVar 3))))))
def m_paths_from : List D → Option Rf := runF 2 [] 8 b_paths_from
theorem ok_paths_from (T : Txt K mg A) : FnOk P w K mg base (L2.CX P w) 2 A.paths_from A.fd_paths_from P_paths_from (spV ⟨P, w, K⟩ (clA A Tb) 2 [] false m_paths_from) :=
  def_okX (k := 1) T.F_paths_from sc_paths_from rfl (by decide) rfl fun cdv A' outer s H vs E hr =>
    (vss_cons (vs_set (i := 2) sc_paths_from.nd rfl (Or.inl rfl) (ve_call (ok_links T) (hr.mono (by decide)) (by rfl) T.g_links T.F_links.kp T.B_links (passes_call (takes_of rfl rfl rfl rfl) (fun _ _ _ _ h => h)) runF_len (va_cons (ve_var 0) va_nil)) (nfx (fx := []) rfl rfl))
    (vss_cons (vs_setO (i := 3) sc_paths_from.nd rfl (Or.inl rfl) vo_dict0 (nfx (fx := []) rfl rfl))
    (vss_cons (vs_setO (i := 4) sc_paths_from.nd rfl (Or.inl rfl) (vo_lst (va_cons (ve_frz (vo_tup (va_cons (ve_frz vo_int) (va_cons (ve_frz (vo_tup (va_cons (ve_var 1) va_nil))) va_nil)))) va_nil)) (nfx (fx := []) rfl rfl))
    (vss_cons (vs_while (passes_of rfl) (vt_cmpN 4 (o_ne hr.units) (vb_of (ve_frz (vo_lst va_nil))) (nomark _))
      (vss_cons (vs_asg (ve_b1S (c_minD rfl hr.units) (by rfl) T.b_min (by decide +kernel) (vb_var 4)) (vg_weak (vg_tup (n := 2) rfl (vgs_cons (vg_name (vs := [5, 6]) (i := 5) sc_paths_from.nd rfl (Or.inl rfl) (nfx (fx := []) rfl rfl) (by decide)) (vgs_cons (vg_name (vs := [5, 6]) (i := 6) sc_paths_from.nd rfl (Or.inl rfl) (nfx (fx := []) rfl rfl) (by decide)) vgs_nil)))))
      (vss_cons (vs_exprE (ve_mw 4 PySem.F.plainAttrs_list PySem.F.slot_list_remove PySem.F.type_list_remove (m_remove hr.units) (va_cons (ve_frz (vo_tup (va_cons (ve_var 5) (va_cons (ve_var 6) va_nil)))) va_nil)))
      (vss_one (vs_if (vt_cmp (o_notin hr.units) (ve_ix hr.units (ve_var 6) (vb_of (ve_frz (vo_neg (ve_frz vo_int)))) (fun _ _ => rfl)) (vb_var 3) (by rfl))
        (vss_cons (vs_put 3 hr.units (ve_frz (vo_tup (va_cons (ve_var 5) (va_cons (ve_var 6) va_nil)))) (vb_of (ve_ix hr.units (ve_var 6) (vb_of (ve_frz (vo_neg (ve_frz vo_int)))) (fun _ _ => rfl))))
        (vss_one (vs_for (rel := Sh) (passes_of rfl) rfl (vi_keys (ve_var 2)) (vg_name (vs := [7]) (i := 7) sc_paths_from.nd rfl (Or.inl rfl) (nfx (fx := []) rfl rfl) (by decide))
          (vss_one (vs_if (vt_w (vw_and (vt_cmp (o_eq hr.units) (ve_ix hr.units (ve_var 7) (vb_of (ve_frz vo_int)) (fun _ _ => rfl)) (vb_of (ve_ix hr.units (ve_var 6) (vb_of (ve_frz (vo_neg (ve_frz vo_int)))) (fun _ _ => rfl))) (nomark _)) (vw_and1 (vt_cmp (o_notin hr.units) (ve_ix hr.units (ve_var 7) (vb_of (ve_frz vo_int)) (fun _ _ => rfl)) (vb_var 3) (by rfl)))))
            (vss_one (vs_exprE (ve_mw 4 PySem.F.plainAttrs_list PySem.F.slot_list_append PySem.F.type_list_append m_append (va_cons (ve_frz (vo_tup (va_cons (ve_frz (vo_op o_add (ve_var 5) (vb_of (ve_ix hr.units (ve_ix hr.units (ve_var 2) (vb_of (ve_var 7)) (fun _ _ => rfl)) (vb_of (ve_frz vo_int)) (fun _ _ => rfl))))) (va_cons (ve_frz (vo_op o_add (ve_var 6) (vb_of (ve_frz (vo_tup (va_cons (ve_ix hr.units (ve_var 7) (vb_of (ve_frz vo_int)) (fun _ _ => rfl)) va_nil)))))) va_nil)))) va_nil))))
            vss_nil)))))
        vss_nil)))))
    (vss_one (vs_ret (ve_var 3)))))))
def b_home_path : M Fl := (vSeq (vSet 3 (vCall m_paths_from (vCons (vVar 0) (vCons (vVar 1) vNil))))
    (vRet (vC1 dMinD (vLc (vItK (vVar 3)) [4] (vSetSh 4) (vT (vOp dEq (vOp dIx (vOp dIx (vVar 0) (ret (.int 0))) (vVar 4)) (vVar 2))) (vOp dIx (vVar 3) (vVar 4))))))
def m_home_path : List D → Option Rf := runF 3 [] 5 b_home_path
theorem ok_home_path (T : Txt K mg A) : FnOk P w K mg base (L2.CX P w) 3 A.home_path A.fd_home_path P_home_path (spV ⟨P, w, K⟩ (clA A Tb) 3 [] false m_home_path) :=
  def_okX (k := 2) T.F_home_path sc_home_path rfl (by decide) rfl fun cdv A' outer s H vs E hr =>
    (vss_cons (vs_set (i := 3) sc_home_path.nd rfl (Or.inr rfl) (ve_call (ok_paths_from T) (hr.mono (by decide)) (by rfl) T.g_paths_from T.F_paths_from.kp T.B_paths_from (passes_call (takes_of rfl rfl rfl rfl) (fun _ _ _ _ h => h)) runF_len (va_cons (ve_var 0) (va_cons (ve_var 1) va_nil))) (nfx (fx := []) rfl rfl))
    (vss_one (vs_ret (ve_b1S (c_minD rfl hr.units) (by rfl) T.b_min (by decide +kernel) (vb_of (ve_frz (vo_lc (rel := Sh) (own := [("spot", 4)]) (t := (vT (vOp dEq (vOp dIx (vOp dIx (vVar 0) (ret (.int 0))) (vVar 4)) (vVar 2)))) rfl sc_home_path.nd (vi_keys (ve_var 3)) (blkOk_by (own := [("spot", 4)]) (N := N_home_path) (sc := defScope s_home_path) (by decide +kernel)) (nfxs (fx := []) rfl rfl) (fun _ _ _ _ _ _ => (vg_name (vs := [4]) (i := 4) sc_home_path.nd rfl (Or.inl rfl) (nfx (fx := []) rfl rfl) (by decide))) (fun _ _ _ _ _ _ => (vts_one (vt_cmp (o_eq hr.units) (ve_ix hr.units (ve_ix hr.units (ve_var 0) (vb_of (ve_frz vo_int)) (fun _ _ => rfl)) (vb_of (ve_var 4)) (fun _ _ => rfl)) (vb_of (ve_var 2)) (nomark _)))) (fun _ _ _ _ _ _ => (ve_ix hr.units (ve_var 3) (vb_of (ve_var 4)) (fun _ _ => rfl))))))))))
def b_way_home : M Fl := (vSeq (vDrop (vCall m_need_net (vCons (vVar 0) vNil)))
    (vSeq (vDrop (vCall m_need_yard (vCons (vVar 0) (vCons (vVar 1) vNil))))
    (vSeq (vDrop (vCall m_need_mark (vCons (vVar 0) (vCons (vVar 2) vNil))))
    (vRet (vOp dIx (vCall m_home_path (vCons (vVar 0) (vCons (vVar 1) (vCons (vVar 2) vNil)))) (ret (.int 1)))))))
def m_way_home : List D → Option Rf := runF 3 [] 3 b_way_home
theorem ok_way_home (T : Txt K mg A) : FnOk P w K mg base (L2.CX P w) 5 A.way_home A.fd_way_home P_way_home (spV ⟨P, w, K⟩ (clA A Tb) 3 [] false m_way_home) :=
  def_okX (k := 4) T.F_way_home sc_way_home rfl (by decide) rfl fun cdv A' outer s H vs E hr =>
    (vss_cons (vs_exprE (ve_call (ok_need_net T) (hr.mono (by decide)) (by rfl) T.g_need_net T.F_need_net.kp T.B_need_net (passes_call (takes_of rfl rfl rfl rfl) (fun _ _ _ _ h => h)) runF_len (va_cons (ve_var 0) va_nil)))
    (vss_cons (vs_exprE (ve_call (ok_need_yard T) (hr.mono (by decide)) (by rfl) T.g_need_yard T.F_need_yard.kp T.B_need_yard (passes_call (takes_of rfl rfl rfl rfl) (fun _ _ _ _ h => h)) runF_len (va_cons (ve_var 0) (va_cons (ve_var 1) va_nil))))
    (vss_cons (vs_exprE (ve_call (ok_need_mark T) (hr.mono (by decide)) (by rfl) T.g_need_mark T.F_need_mark.kp T.B_need_mark (passes_call (takes_of rfl rfl rfl rfl) (fun _ _ _ _ h => h)) runF_len (va_cons (ve_var 0) (va_cons (ve_var 2) va_nil))))
    (vss_one (vs_ret (ve_ix hr.units (ve_call (ok_home_path T) (hr.mono (by decide)) (by rfl) T.g_home_path T.F_home_path.kp T.B_home_path (passes_call (takes_of rfl rfl rfl rfl) (fun _ _ _ _ h => h)) runF_len (va_cons (ve_var 0) (va_cons (ve_var 1) (va_cons (ve_var 2) va_nil)))) (vb_of (ve_frz vo_int)) (fun _ _ => rfl)))))))
def b__law_box : M Fl := (vSeq (vSetO 2 (vOp dAdd (vOp dMul (ret (.int 7919)) (vVar 1)) (ret (.int 13))))
    (vSeq (vIf (vT (vOp dLt (vVar 1) (vC1 dLen (vVar 0))))
      (vSet 2 (vOp dIx (vVar 0) (vVar 1)))
      (ret .nx))
    (vSeq (vIf (vT (vOp dEq (vOp dMod (vVar 2) (ret (.int 2))) (ret (.int 0))))
      (vRet (vLst (vCons (vOp dFdiv (vVar 2) (ret (.int 2))) (vCons (vOp dMod (vC1 dAbs (vVar 2)) (ret (.int 2147483647))) vNil))))
      (ret .nx))
    (vSeq (vSetO 3 (ret (.int 0)))
    (vSeq (vFor (vRng1 (ret (.int 16))) (vSetSh 4)
      (vSeq (vSetO 5 (vOp dMod (vOp dAdd (vOp dAdd (vOp dMul (vOp dMod (vVar 2) (ret (.int 2147483647))) (ret (.int 48271))) (vOp dMul (ret (.int 7919)) (vVar 4))) (ret (.int 1))) (ret (.int 2147483647))))
      (vSeq (vSetO 5 (vOp dMod (vOp dMul (vVar 5) (vVar 5)) (ret (.int 2147483629))))
      (vSetO 3 (vOp dAdd (vOp dMul (vVar 3) (ret (.int 2147483647))) (vOp dMod (vOp dMul (vVar 5) (vOp dAdd (vVar 5) (ret (.int 13)))) (ret (.int 2147483647))))))))
    (vRet (vLst (vCons (vVar 3) (vCons (vOp dMod (vC1 dAbs (vVar 2)) (ret (.int 2147483647))) vNil)))))))))
def m__law_box : List D → Option Rf := runF 2 [] 6 b__law_box
theorem ok__law_box (T : Txt K mg A) : FnOk P w K mg base (L2.CX P w) 1 A._law_box A.fd__law_box P__law_box (spV ⟨P, w, K⟩ (clA A Tb) 2 [] true m__law_box) :=
  def_okX (k := 0) T.F__law_box sc__law_box rfl (by decide) rfl fun cdv A' outer s H vs E hr =>
    (vss_cons (vs_setO (i := 2) sc__law_box.nd rfl (Or.inl rfl) (vo_op o_add (ve_frz (vo_op o_mul (ve_frz vo_int) (vb_of (ve_var 1)))) (vb_of (ve_frz vo_int))) (nfx (fx := []) rfl rfl))
    (vss_cons (vs_if (vt_cmp (o_lt hr.units) (ve_var 1) (vb_of (ve_frz (vo_b1 c_len (by rfl) T.b_len (by decide +kernel) (vb_of (ve_var 0))))) (nomark _))
      (vss_one (vs_set (i := 2) sc__law_box.nd rfl (Or.inl rfl) (ve_ix hr.units (ve_var 0) (vb_of (ve_var 1)) (fun _ _ => rfl)) (nfx (fx := []) rfl rfl)))
      vss_nil)
    (vss_cons (vs_if (vt_cmp (o_eq hr.units) (ve_frz (vo_op o_mod (ve_var 2) (vb_of (ve_frz vo_int)))) (vb_of (ve_frz vo_int)) (nomark _))
      (vss_one (vs_retO (vo_lst (va_cons (ve_frz (vo_op o_fdiv (ve_var 2) (vb_of (ve_frz vo_int)))) (va_cons (ve_frz (vo_op o_mod (ve_frz (vo_b1 c_abs (by rfl) T.b_abs (by decide +kernel) (vb_of (ve_var 2)))) (vb_of (ve_frz vo_int)))) va_nil)))))
      vss_nil)
    (vss_cons (vs_setO (i := 3) sc__law_box.nd rfl (Or.inl rfl) vo_int (nfx (fx := []) rfl rfl))
    (vss_cons (vs_for (rel := Sh) (passes_of rfl) rfl (vi_rng1 (by rfl) T.b_range (ve_frz vo_int)) (vg_name (vs := [4]) (i := 4) sc__law_box.nd rfl (Or.inl rfl) (nfx (fx := []) rfl rfl) (by decide))
      (vss_cons (vs_setO (i := 5) sc__law_box.nd rfl (Or.inl rfl) (vo_op o_mod (ve_frz (vo_op o_add (ve_frz (vo_op o_add (ve_frz (vo_op o_mul (ve_frz (vo_op o_mod (ve_var 2) (vb_of (ve_frz vo_int)))) (vb_of (ve_frz vo_int)))) (vb_of (ve_frz (vo_op o_mul (ve_frz vo_int) (vb_of (ve_var 4))))))) (vb_of (ve_frz vo_int)))) (vb_of (ve_frz vo_int))) (nfx (fx := []) rfl rfl))
      (vss_cons (vs_setO (i := 5) sc__law_box.nd rfl (Or.inl rfl) (vo_op o_mod (ve_frz (vo_op o_mul (ve_var 5) (vb_of (ve_var 5)))) (vb_of (ve_frz vo_int))) (nfx (fx := []) rfl rfl))
      (vss_one (vs_setO (i := 3) sc__law_box.nd rfl (Or.inl rfl) (vo_op o_add (ve_frz (vo_op o_mul (ve_var 3) (vb_of (ve_frz vo_int)))) (vb_of (ve_frz (vo_op o_mod (ve_frz (vo_op o_mul (ve_var 5) (vb_of (ve_frz (vo_op o_add (ve_var 5) (vb_of (ve_frz vo_int))))))) (vb_of (ve_frz vo_int)))))) (nfx (fx := []) rfl rfl))))))
    (vss_one (vs_retO (vo_lst (va_cons (ve_var 3) (va_cons (ve_frz (vo_op o_mod (ve_frz (vo_b1 c_abs (by rfl) T.b_abs (by decide +kernel) (vb_of (ve_var 2)))) (vb_of (ve_frz vo_int)))) va_nil))))))))))
def b__law_more : M Fl := (vSeq (vSetO 1 (ret (.int 0)))
    (vSeq (vFor (vRng1 (ret (.int 12))) (vSetSh 2)
      (vSeq (vPut 0 (ret (.int 1)) (vOp dMod (vOp dAdd (vOp dMul (vOpN dIx 0 (ret (.int 1))) (ret (.int 48271))) (ret (.int 30269))) (ret (.int 2147483647))))
      (vSetO 1 (vOp dAdd (vOp dMul (vVar 1) (ret (.int 65521))) (vOp dMod (vOp dFdiv (vOpN dIx 0 (ret (.int 1))) (ret (.int 7))) (ret (.int 65521)))))))
    (vRet (vVar 1))))
def m__law_more : List D → Option Rf := runF 1 [0] 3 b__law_more
theorem ok__law_more (T : Txt K mg A) : FnOk P w K mg base (L2.CX P w) 1 A._law_more A.fd__law_more P__law_more (spV ⟨P, w, K⟩ (clA A Tb) 1 [0] false m__law_more) :=
  def_okX (k := 0) T.F__law_more sc__law_more rfl (by decide) rfl fun cdv A' outer s H vs E hr =>
    (vss_cons (vs_setO (i := 1) sc__law_more.nd rfl (Or.inl rfl) vo_int (nfx (fx := [0]) rfl rfl))
    (vss_cons (vs_for (rel := Sh) (passes_of rfl) rfl (vi_rng1 (by rfl) T.b_range (ve_frz vo_int)) (vg_name (vs := [2]) (i := 2) sc__law_more.nd rfl (Or.inl rfl) (nfx (fx := [0]) rfl rfl) (by decide))
      (vss_cons (vs_put 0 hr.units (ve_frz (vo_op o_mod (ve_frz (vo_op o_add (ve_frz (vo_op o_mul (ve_ixN 0 hr.units (vb_of (ve_frz vo_int)) (fun _ _ => rfl)) (vb_of (ve_frz vo_int)))) (vb_of (ve_frz vo_int)))) (vb_of (ve_frz vo_int)))) (vb_of (ve_frz vo_int)))
      (vss_one (vs_setO (i := 1) sc__law_more.nd rfl (Or.inl rfl) (vo_op o_add (ve_frz (vo_op o_mul (ve_var 1) (vb_of (ve_frz vo_int)))) (vb_of (ve_frz (vo_op o_mod (ve_frz (vo_op o_fdiv (ve_ixN 0 hr.units (vb_of (ve_frz vo_int)) (fun _ _ => rfl)) (vb_of (ve_frz vo_int)))) (vb_of (ve_frz vo_int)))))) (nfx (fx := [0]) rfl rfl)))))
    (vss_one (vs_ret (ve_var 1)))))
def b__law_take : M Fl := (vSeq (vIf (vT (vChain dLe dLt (ret (.int 0)) (vOpN dIx 0 (ret (.int 0))) (vVar 1)))
      (vPut 0 (ret (.int 0)) (vOp dAdd (vOpN dIx 0 (ret (.int 0))) (vOp dMul (vVar 1) (vCallQ m__law_more 0 0 (vHere 0 vNil)))))
      (ret .nx))
    (vSeq (vAsg (vCN dDivmod (vCons (vOpN dIx 0 (ret (.int 0))) (vCons (vVar 1) vNil))) (vGTup 2 (vGCons (vSetSh 2) (vGCons (vSetSh 3) vGNil))))
    (vSeq (vPut 0 (ret (.int 0)) (vVar 2))
    (vRet (vVar 3)))))
def m__law_take : List D → Option Rf := runF 2 [0] 4 b__law_take
theorem ok__law_take (T : Txt K mg A) : FnOk P w K mg base (L2.CX P w) 2 A._law_take A.fd__law_take P__law_take (spV ⟨P, w, K⟩ (clA A Tb) 2 [0] false m__law_take) :=
  def_okX (k := 1) T.F__law_take sc__law_take rfl (by decide) rfl fun cdv A' outer s H vs E hr =>
    (vss_cons (vs_if (vt_chain (o_le hr.units) (o_lt hr.units) (ve_frz vo_int) (ve_ixN 0 hr.units (vb_of (ve_frz vo_int)) (fun _ _ => rfl)) (vb_of (ve_var 1)))
      (vss_one (vs_put 0 hr.units (ve_frz (vo_op o_add (ve_ixN 0 hr.units (vb_of (ve_frz vo_int)) (fun _ _ => rfl)) (vb_of (ve_frz (vo_op o_mul (ve_var 1) (vb_of (ve_callQ (ok__law_more T) (hr.mono (by decide)) (by rfl) T.g__law_more T.F__law_more.kp T.B__law_more (passes_call (takes_of rfl rfl rfl rfl) (fun _ _ _ _ h => h)) runF_len (vq_here 0 va_nil)))))))) (vb_of (ve_frz vo_int))))
      vss_nil)
    (vss_cons (vs_asg (ve_frz (vo_bN c_divmod (by rfl) T.b_divmod (by decide +kernel) (va_cons (ve_ixN 0 hr.units (vb_of (ve_frz vo_int)) (fun _ _ => rfl)) (va_cons (ve_var 1) va_nil)))) (vg_weak (vg_tup (n := 2) rfl (vgs_cons (vg_name (vs := [2, 3]) (i := 2) sc__law_take.nd rfl (Or.inl rfl) (nfx (fx := [0]) rfl rfl) (by decide)) (vgs_cons (vg_name (vs := [2, 3]) (i := 3) sc__law_take.nd rfl (Or.inl rfl) (nfx (fx := [0]) rfl rfl) (by decide)) vgs_nil)))))
    (vss_cons (vs_put 0 hr.units (ve_var 2) (vb_of (ve_frz vo_int)))
    (vss_one (vs_ret (ve_var 3))))))
def cs_raised : List String := ["NoMark", "NoNet", "NoYard"]
theorem exc_c (T : Txt K mg A) {c : String} (hc : c ∈ cs_raised) : ExcC K (clA A Tb c) := by
  simp only [cs_raised, List.mem_cons, List.not_mem_nil, or_false] at hc
  rcases hc with rfl | rfl | rfl
  · exact T.x_NoMark.ec
  · exact T.x_NoNet.ec
  · exact T.x_NoYard.ec
theorem exm_c (T : Txt K mg A) : ∀ c ∈ cs_raised, PySem.W.exmOne K (.ref (clA A Tb c)) (.ref A.CoverError) = some true := by
  intro c hc
  simp only [cs_raised, List.mem_cons, List.not_mem_nil, or_false] at hc
  rcases hc with rfl | rfl | rfl
  · exact T.m_NoMark
  · exact T.m_NoNet
  · exact T.m_NoYard
theorem kit_NoNet (T : Txt K mg A) {c : String} (hc : c ∈ cs_raised) : PySem.W.kitOne K (.ref (clA A Tb c)) (.ref A.NoNet) = some (c == "NoNet") := by
  simp only [cs_raised, List.mem_cons, List.not_mem_nil, or_false] at hc
  rcases hc with rfl | rfl | rfl
  · exact T.k_NoMark_NoNet
  · exact T.k_NoNet_NoNet
  · exact T.k_NoYard_NoNet
theorem kit_NoYard (T : Txt K mg A) {c : String} (hc : c ∈ cs_raised) : PySem.W.kitOne K (.ref (clA A Tb c)) (.ref A.NoYard) = some (c == "NoYard") := by
  simp only [cs_raised, List.mem_cons, List.not_mem_nil, or_false] at hc
  rcases hc with rfl | rfl | rfl
  · exact T.k_NoMark_NoYard
  · exact T.k_NoNet_NoYard
  · exact T.k_NoYard_NoYard
theorem kit_NoMark (T : Txt K mg A) {c : String} (hc : c ∈ cs_raised) : PySem.W.kitOne K (.ref (clA A Tb c)) (.ref A.NoMark) = some (c == "NoMark") := by
  simp only [cs_raised, List.mem_cons, List.not_mem_nil, or_false] at hc
  rcases hc with rfl | rfl | rfl
  · exact T.k_NoMark_NoMark
  · exact T.k_NoNet_NoMark
  · exact T.k_NoYard_NoMark
theorem kit_NoPage (T : Txt K mg A) {c : String} (hc : c ∈ cs_raised) : PySem.W.kitOne K (.ref (clA A Tb c)) (.ref A.NoPage) = some (c == "NoPage") := by
  simp only [cs_raised, List.mem_cons, List.not_mem_nil, or_false] at hc
  rcases hc with rfl | rfl | rfl
  · exact T.k_NoMark_NoPage
  · exact T.k_NoNet_NoPage
  · exact T.k_NoYard_NoPage
theorem kit_NoCover (T : Txt K mg A) {c : String} (hc : c ∈ cs_raised) : PySem.W.kitOne K (.ref (clA A Tb c)) (.ref A.NoCover) = some (c == "NoCover") := by
  simp only [cs_raised, List.mem_cons, List.not_mem_nil, or_false] at hc
  rcases hc with rfl | rfl | rfl
  · exact T.k_NoMark_NoCover
  · exact T.k_NoNet_NoCover
  · exact T.k_NoYard_NoCover
theorem kit_NoDay (T : Txt K mg A) {c : String} (hc : c ∈ cs_raised) : PySem.W.kitOne K (.ref (clA A Tb c)) (.ref A.NoDay) = some (c == "NoDay") := by
  simp only [cs_raised, List.mem_cons, List.not_mem_nil, or_false] at hc
  rcases hc with rfl | rfl | rfl
  · exact T.k_NoMark_NoDay
  · exact T.k_NoNet_NoDay
  · exact T.k_NoYard_NoDay
theorem kit_NoTariff (T : Txt K mg A) {c : String} (hc : c ∈ cs_raised) : PySem.W.kitOne K (.ref (clA A Tb c)) (.ref A.NoTariff) = some (c == "NoTariff") := by
  simp only [cs_raised, List.mem_cons, List.not_mem_nil, or_false] at hc
  rcases hc with rfl | rfl | rfl
  · exact T.k_NoMark_NoTariff
  · exact T.k_NoNet_NoTariff
  · exact T.k_NoYard_NoTariff
theorem kit_NoBalance (T : Txt K mg A) {c : String} (hc : c ∈ cs_raised) : PySem.W.kitOne K (.ref (clA A Tb c)) (.ref A.NoBalance) = some (c == "NoBalance") := by
  simp only [cs_raised, List.mem_cons, List.not_mem_nil, or_false] at hc
  rcases hc with rfl | rfl | rfl
  · exact T.k_NoMark_NoBalance
  · exact T.k_NoNet_NoBalance
  · exact T.k_NoYard_NoBalance
theorem kit_NoStray (T : Txt K mg A) {c : String} (hc : c ∈ cs_raised) : PySem.W.kitOne K (.ref (clA A Tb c)) (.ref A.NoStray) = some (c == "NoStray") := by
  simp only [cs_raised, List.mem_cons, List.not_mem_nil, or_false] at hc
  rcases hc with rfl | rfl | rfl
  · exact T.k_NoMark_NoStray
  · exact T.k_NoNet_NoStray
  · exact T.k_NoYard_NoStray
theorem kit_NoTrip (T : Txt K mg A) {c : String} (hc : c ∈ cs_raised) : PySem.W.kitOne K (.ref (clA A Tb c)) (.ref A.NoTrip) = some (c == "NoTrip") := by
  simp only [cs_raised, List.mem_cons, List.not_mem_nil, or_false] at hc
  rcases hc with rfl | rfl | rfl
  · exact T.k_NoMark_NoTrip
  · exact T.k_NoNet_NoTrip
  · exact T.k_NoYard_NoTrip
theorem kit_NoPrice (T : Txt K mg A) {c : String} (hc : c ∈ cs_raised) : PySem.W.kitOne K (.ref (clA A Tb c)) (.ref A.NoPrice) = some (c == "NoPrice") := by
  simp only [cs_raised, List.mem_cons, List.not_mem_nil, or_false] at hc
  rcases hc with rfl | rfl | rfl
  · exact T.k_NoMark_NoPrice
  · exact T.k_NoNet_NoPrice
  · exact T.k_NoYard_NoPrice
theorem kit_NoLine (T : Txt K mg A) {c : String} (hc : c ∈ cs_raised) : PySem.W.kitOne K (.ref (clA A Tb c)) (.ref A.NoLine) = some (c == "NoLine") := by
  simp only [cs_raised, List.mem_cons, List.not_mem_nil, or_false] at hc
  rcases hc with rfl | rfl | rfl
  · exact T.k_NoMark_NoLine
  · exact T.k_NoNet_NoLine
  · exact T.k_NoYard_NoLine
theorem kit_Gone (T : Txt K mg A) {c : String} (hc : c ∈ cs_raised) : PySem.W.kitOne K (.ref (clA A Tb c)) (.ref A.Gone) = some (c == "Gone") := by
  simp only [cs_raised, List.mem_cons, List.not_mem_nil, or_false] at hc
  rcases hc with rfl | rfl | rfl
  · exact T.k_NoMark_Gone
  · exact T.k_NoNet_Gone
  · exact T.k_NoYard_Gone
theorem kit_Nothing (T : Txt K mg A) {c : String} (hc : c ∈ cs_raised) : PySem.W.kitOne K (.ref (clA A Tb c)) (.ref A.Nothing) = some (c == "Nothing") := by
  simp only [cs_raised, List.mem_cons, List.not_mem_nil, or_false] at hc
  rcases hc with rfl | rfl | rfl
  · exact T.k_NoMark_Nothing
  · exact T.k_NoNet_Nothing
  · exact T.k_NoYard_Nothing
theorem kit_Clash (T : Txt K mg A) {c : String} (hc : c ∈ cs_raised) : PySem.W.kitOne K (.ref (clA A Tb c)) (.ref A.Clash) = some (c == "Clash") := by
  simp only [cs_raised, List.mem_cons, List.not_mem_nil, or_false] at hc
  rcases hc with rfl | rfl | rfl
  · exact T.k_NoMark_Clash
  · exact T.k_NoNet_Clash
  · exact T.k_NoYard_Clash
theorem kit_NoText (T : Txt K mg A) {c : String} (hc : c ∈ cs_raised) : PySem.W.kitOne K (.ref (clA A Tb c)) (.ref A.NoText) = some (c == "NoText") := by
  simp only [cs_raised, List.mem_cons, List.not_mem_nil, or_false] at hc
  rcases hc with rfl | rfl | rfl
  · exact T.k_NoMark_NoText
  · exact T.k_NoNet_NoText
  · exact T.k_NoYard_NoText
theorem kit_TooMany (T : Txt K mg A) {c : String} (hc : c ∈ cs_raised) : PySem.W.kitOne K (.ref (clA A Tb c)) (.ref A.TooMany) = some (c == "TooMany") := by
  simp only [cs_raised, List.mem_cons, List.not_mem_nil, or_false] at hc
  rcases hc with rfl | rfl | rfl
  · exact T.k_NoMark_TooMany
  · exact T.k_NoNet_TooMany
  · exact T.k_NoYard_TooMany
theorem kit_ValueError (T : Txt K mg A) {c : String} (hc : c ∈ cs_raised) : PySem.W.kitOne K (.ref (clA A Tb c)) (.type "ValueError") = some true := by
  simp only [cs_raised, List.mem_cons, List.not_mem_nil, or_false] at hc
  rcases hc with rfl | rfl | rfl
  · exact T.v_NoMark
  · exact T.v_NoNet
  · exact T.v_NoYard
def bs__law_kind (c : String) : M Fl := (vSeq (vSetO 2 (vLst (vCons (ret (.bool (c == "NoNet"))) (vCons (ret (.bool (c == "NoYard"))) (vCons (ret (.bool (c == "NoMark"))) (vCons (ret (.bool (c == "NoPage"))) vNil))))))
    (vSeq (vSetO 2 (vOp dAdd (vVar 2) (vLst (vCons (ret (.bool (c == "NoCover"))) (vCons (ret (.bool (c == "NoDay"))) (vCons (ret (.bool (c == "NoTariff"))) vNil))))))
    (vSeq (vSetO 2 (vOp dAdd (vVar 2) (vLst (vCons (ret (.bool (c == "NoBalance"))) (vCons (ret (.bool (c == "NoStray"))) (vCons (ret (.bool (c == "NoTrip"))) vNil))))))
    (vSeq (vSetO 2 (vOp dAdd (vVar 2) (vLst (vCons (ret (.bool (c == "NoPrice"))) (vCons (ret (.bool (c == "NoLine"))) (vCons (ret (.bool (c == "Gone"))) (vCons (ret (.bool (c == "Nothing"))) vNil)))))))
    (vSeq (vSetO 2 (vOp dAdd (vVar 2) (vLst (vCons (ret (.bool (c == "Clash"))) (vCons (ret (.bool (c == "NoText"))) (vCons (ret (.bool (c == "TooMany"))) vNil))))))
    (vSeq (vIf (vOrT (vNotT (vT (ret (.bool true)))) (vT (vOp dNe (vM "list" dListCount (vVar 2) (vCons (ret (.bool true)) vNil)) (ret (.int 1)))))
      (vRet (ret (.str "other")))
      (ret .nx))
    (vSeq (vIf (vT (vOp dIx (vVar 2) (ret (.int 14))))
      (fun _ => none)
      (ret .nx))
    (vSeq (vSetO 3 (vLst (vCons (ret (.str "net")) (vCons (ret (.str "yard")) (vCons (ret (.str "mark")) (vCons (ret (.str "page")) (vCons (ret (.str "cover")) (vCons (ret (.str "day")) (vCons (ret (.str "tariff")) (vCons (ret (.str "balance")) (vCons (ret (.str "stray")) (vCons (ret (.str "trip")) (vCons (ret (.str "price")) vNil)))))))))))))
    (vRet (vOp dIx (vOp dAdd (vVar 3) (vLst (vCons (ret (.str "line")) (vCons (ret (.str "gone")) (vCons (ret (.str "nothing")) (vCons (ret (.str "clash")) (vCons (ret (.str "text")) (vCons (ret (.str "many")) vNil)))))))) (vM "list" dListIndex (vVar 2) (vCons (ret (.bool true)) vNil))))))))))))
def kt__law_kind : D → Option D := fun _ => some (.str "told")
def ks__law_kind : Ex → Option D := ksOf cs_raised 4 bs__law_kind
theorem gives__law_kind {X : Cx} (T : Txt X.K X.mg A) (hrX : Room 1 X.A) {q : Str} {cdv : Value} : LamX.GivesTo X N__law_kind "_law_kind" (defScope s__law_kind) A._law_kind cdv (defBody s__law_kind) "_law_call" q (TTk (zx X) (clA A Tb) kt__law_kind ks__law_kind) :=
  gives_kind (i := 1) (CE := A.CoverError) rfl sc__law_kind.nd rfl (by decide) rfl (fun s H => ⟨by rfl, rfl, .inl T.g_CoverError⟩) (fun _ => rfl) (exm_c T) fun s H c a oe pn H' hc hz hf =>
    have hr : Room 0 (X.A.deeper (PyProof.Rows.envOfC "_law_kind" (defScope s__law_kind) s.heap.objs.size A._law_kind cdv)) := hrX.deeper _
    (vss_cons (vs_setO (i := 2) sc__law_kind.nd rfl (Or.inl rfl) (vo_lst (va_cons (ve_frz (vo_isE (i := 1) hz hf (exc_c T hc) (List.mem_singleton.2 rfl) rfl (kit_NoNet T hc) (by rfl) T.b_isinstance rfl (Or.inl rfl) (by rfl) T.g_NoNet)) (va_cons (ve_frz (vo_isE (i := 1) hz hf (exc_c T hc) (List.mem_singleton.2 rfl) rfl (kit_NoYard T hc) (by rfl) T.b_isinstance rfl (Or.inl rfl) (by rfl) T.g_NoYard)) (va_cons (ve_frz (vo_isE (i := 1) hz hf (exc_c T hc) (List.mem_singleton.2 rfl) rfl (kit_NoMark T hc) (by rfl) T.b_isinstance rfl (Or.inl rfl) (by rfl) T.g_NoMark)) (va_cons (ve_frz (vo_isE (i := 1) hz hf (exc_c T hc) (List.mem_singleton.2 rfl) rfl (kit_NoPage T hc) (by rfl) T.b_isinstance rfl (Or.inl rfl) (by rfl) T.g_NoPage)) va_nil))))) (nfx (fx := [1]) rfl rfl))
    (vss_cons (vs_setO (i := 2) sc__law_kind.nd rfl (Or.inl rfl) (vo_op o_add (ve_var 2) (vb_of (ve_frz (vo_lst (va_cons (ve_frz (vo_isE (i := 1) hz hf (exc_c T hc) (List.mem_singleton.2 rfl) rfl (kit_NoCover T hc) (by rfl) T.b_isinstance rfl (Or.inl rfl) (by rfl) T.g_NoCover)) (va_cons (ve_frz (vo_isE (i := 1) hz hf (exc_c T hc) (List.mem_singleton.2 rfl) rfl (kit_NoDay T hc) (by rfl) T.b_isinstance rfl (Or.inl rfl) (by rfl) T.g_NoDay)) (va_cons (ve_frz (vo_isE (i := 1) hz hf (exc_c T hc) (List.mem_singleton.2 rfl) rfl (kit_NoTariff T hc) (by rfl) T.b_isinstance rfl (Or.inl rfl) (by rfl) T.g_NoTariff)) va_nil))))))) (nfx (fx := [1]) rfl rfl))
    (vss_cons (vs_setO (i := 2) sc__law_kind.nd rfl (Or.inl rfl) (vo_op o_add (ve_var 2) (vb_of (ve_frz (vo_lst (va_cons (ve_frz (vo_isE (i := 1) hz hf (exc_c T hc) (List.mem_singleton.2 rfl) rfl (kit_NoBalance T hc) (by rfl) T.b_isinstance rfl (Or.inl rfl) (by rfl) T.g_NoBalance)) (va_cons (ve_frz (vo_isE (i := 1) hz hf (exc_c T hc) (List.mem_singleton.2 rfl) rfl (kit_NoStray T hc) (by rfl) T.b_isinstance rfl (Or.inl rfl) (by rfl) T.g_NoStray)) (va_cons (ve_frz (vo_isE (i := 1) hz hf (exc_c T hc) (List.mem_singleton.2 rfl) rfl (kit_NoTrip T hc) (by rfl) T.b_isinstance rfl (Or.inl rfl) (by rfl) T.g_NoTrip)) va_nil))))))) (nfx (fx := [1]) rfl rfl))
    (vss_cons (vs_setO (i := 2) sc__law_kind.nd rfl (Or.inl rfl) (vo_op o_add (ve_var 2) (vb_of (ve_frz (vo_lst (va_cons (ve_frz (vo_isE (i := 1) hz hf (exc_c T hc) (List.mem_singleton.2 rfl) rfl (kit_NoPrice T hc) (by rfl) T.b_isinstance rfl (Or.inl rfl) (by rfl) T.g_NoPrice)) (va_cons (ve_frz (vo_isE (i := 1) hz hf (exc_c T hc) (List.mem_singleton.2 rfl) rfl (kit_NoLine T hc) (by rfl) T.b_isinstance rfl (Or.inl rfl) (by rfl) T.g_NoLine)) (va_cons (ve_frz (vo_isE (i := 1) hz hf (exc_c T hc) (List.mem_singleton.2 rfl) rfl (kit_Gone T hc) (by rfl) T.b_isinstance rfl (Or.inl rfl) (by rfl) T.g_Gone)) (va_cons (ve_frz (vo_isE (i := 1) hz hf (exc_c T hc) (List.mem_singleton.2 rfl) rfl (kit_Nothing T hc) (by rfl) T.b_isinstance rfl (Or.inl rfl) (by rfl) T.g_Nothing)) va_nil)))))))) (nfx (fx := [1]) rfl rfl))
    (vss_cons (vs_setO (i := 2) sc__law_kind.nd rfl (Or.inl rfl) (vo_op o_add (ve_var 2) (vb_of (ve_frz (vo_lst (va_cons (ve_frz (vo_isE (i := 1) hz hf (exc_c T hc) (List.mem_singleton.2 rfl) rfl (kit_Clash T hc) (by rfl) T.b_isinstance rfl (Or.inl rfl) (by rfl) T.g_Clash)) (va_cons (ve_frz (vo_isE (i := 1) hz hf (exc_c T hc) (List.mem_singleton.2 rfl) rfl (kit_NoText T hc) (by rfl) T.b_isinstance rfl (Or.inl rfl) (by rfl) T.g_NoText)) (va_cons (ve_frz (vo_isE (i := 1) hz hf (exc_c T hc) (List.mem_singleton.2 rfl) rfl (kit_TooMany T hc) (by rfl) T.b_isinstance rfl (Or.inl rfl) (by rfl) T.g_TooMany)) va_nil))))))) (nfx (fx := [1]) rfl rfl))
    (vss_cons (vs_if (vt_w (vw_or (vt_not (vt_val (ve_frz (vo_isV (i := 1) hz hf (exc_c T hc) (List.mem_singleton.2 rfl) rfl (kit_ValueError T hc) (by rfl) T.b_isinstance rfl (Or.inl rfl) (by rfl) T.b_ValueError)))) (vw_or1 (vt_cmp (o_ne hr.units) (ve_frz (vo_m PySem.F.plainAttrs_list PySem.F.slot_list_count PySem.F.type_list_count (m_list_count hr.units) (ve_var 2) (va_cons (ve_frz vo_bl) va_nil))) (vb_of (ve_frz vo_int)) (nomark _)))))
      (vss_one (vs_ret (ve_frz vo_str)))
      vss_nil)
    (vss_cons (vs_if (vt_val (ve_ix hr.units (ve_var 2) (vb_of (ve_frz vo_int)) (fun _ _ => rfl)))
      (vss_one vs_never)
      vss_nil)
    (vss_cons (vs_setO (i := 3) sc__law_kind.nd rfl (Or.inl rfl) (vo_lst (va_cons (ve_frz vo_str) (va_cons (ve_frz vo_str) (va_cons (ve_frz vo_str) (va_cons (ve_frz vo_str) (va_cons (ve_frz vo_str) (va_cons (ve_frz vo_str) (va_cons (ve_frz vo_str) (va_cons (ve_frz vo_str) (va_cons (ve_frz vo_str) (va_cons (ve_frz vo_str) (va_cons (ve_frz vo_str) va_nil)))))))))))) (nfx (fx := [1]) rfl rfl))
    (vss_one (vs_ret (ve_ix hr.units (ve_frz (vo_op o_add (ve_var 3) (vb_of (ve_frz (vo_lst (va_cons (ve_frz vo_str) (va_cons (ve_frz vo_str) (va_cons (ve_frz vo_str) (va_cons (ve_frz vo_str) (va_cons (ve_frz vo_str) (va_cons (ve_frz vo_str) va_nil))))))))))) (vb_of (ve_frz (vo_m PySem.F.plainAttrs_list PySem.F.slot_list_index PySem.F.type_list_index (m_list_index hr.units) (ve_var 2) (va_cons (ve_frz vo_bl) va_nil)))) (fun _ _ => rfl))))))))))))
def b__law_net : M Fl := (vSeq (vSetO 2 (vOp dAdd (ret (.int 1)) (vCallQ m__law_take 0 0 (vHere 0 (vCons (vVar 1) vNil)))))
    (vSeq (vSetO 3 (vLc (vRng1 (vOp dAdd (ret (.int 1)) (vCallQ m__law_take 0 0 (vHere 0 (vCons (ret (.int 3)) vNil))))) [8] (vSetSh 8) vYes (vCallQ m__law_take 0 0 (vHere 0 (vCons (ret (.int 6)) vNil)))))
    (vSeq (vSetO 4 (vC1 dTuple (vLc (vRng1 (vVar 2)) [7] (vSetSh 7) vYes (vOp dIx (vVar 3) (vCallQ m__law_take 0 0 (vHere 0 (vCons (vC1 dLen (vVar 3)) vNil)))))))
    (vSeq (vSet 5 (vOp dIx (vLst (vCons (ret (.int 5)) (vCons (ret (.int 9)) (vCons (ret (.int 99)) vNil)))) (vCallQ m__law_take 0 0 (vHere 0 (vCons (ret (.int 3)) vNil)))))
    (vSeq (vSetO 6 vDict0)
    (vSeq (vFor (vRng2 (ret (.int 1)) (vVar 2)) (vSetSh 7)
      (vPut 6 (vTup (vCons (vCallQ m__law_take 0 0 (vHere 0 (vCons (vVar 7) vNil))) (vCons (vVar 7) (vCons (vCallQ m__law_take 0 0 (vHere 0 (vCons (ret (.int 6)) vNil))) (vCons (vOp dAdd (ret (.int 1)) (vCallQ m__law_take 0 0 (vHere 0 (vCons (vVar 5) vNil)))) vNil))))) (ret (.bool true))))
    (vSeq (vFor (vRng1 (vOp dMul (vCallQ m__law_take 0 0 (vHere 0 (vCons (vOp dIx (vLst (vCons (ret (.int 3)) (vCons (ret (.int 16)) vNil))) (vCallQ m__law_take 0 0 (vHere 0 (vCons (ret (.int 2)) vNil)))) vNil))) (vC1 dInt (vOp dGt (vVar 2) (ret (.int 1)))))) (vSetSh 8)
      (vSeq (vSetO 7 (vOp dAdd (ret (.int 1)) (vCallQ m__law_take 0 0 (vHere 0 (vCons (vOp dSub (vVar 2) (ret (.int 1))) vNil)))))
      (vPut 6 (vTup (vCons (vCallQ m__law_take 0 0 (vHere 0 (vCons (vVar 7) vNil))) (vCons (vVar 7) (vCons (vCallQ m__law_take 0 0 (vHere 0 (vCons (ret (.int 6)) vNil))) (vCons (vOp dAdd (ret (.int 1)) (vCallQ m__law_take 0 0 (vHere 0 (vCons (vVar 5) vNil)))) vNil))))) (ret (.bool true)))))
    (vRet (vTup (vCons (vVar 4) (vCons (vC1 dTuple (vC1 dSorted (vGet 6))) vNil)))))))))))
def m__law_net : List D → Option Rf := runF 2 [0] 9 b__law_net
theorem ok__law_net (T : Txt K mg A) : FnOk P w K mg base (L2.CX P w) 3 A._law_net A.fd__law_net P__law_net (spV ⟨P, w, K⟩ (clA A Tb) 2 [0] false m__law_net) :=
  def_okX (k := 2) T.F__law_net sc__law_net rfl (by decide) rfl fun cdv A' outer s H vs E hr =>
    (vss_cons (vs_setO (i := 2) sc__law_net.nd rfl (Or.inl rfl) (vo_op o_add (ve_frz vo_int) (vb_of (ve_callQ (ok__law_take T) (hr.mono (by decide)) (by rfl) T.g__law_take T.F__law_take.kp T.B__law_take (passes_call (takes_of rfl rfl rfl rfl) (fun _ _ _ _ h => h)) runF_len (vq_here 0 (va_cons (ve_var 1) va_nil))))) (nfx (fx := [0]) rfl rfl))
    (vss_cons (vs_setO (i := 3) sc__law_net.nd rfl (Or.inr rfl) (vo_lc (rel := Sh) (own := [("_law_turn", 8)]) (t := vYes) rfl sc__law_net.nd (vi_rng1 (by rfl) T.b_range (ve_frz (vo_op o_add (ve_frz vo_int) (vb_of (ve_callQ (ok__law_take T) (hr.mono (by decide)) (by rfl) T.g__law_take T.F__law_take.kp T.B__law_take (passes_call (takes_of rfl rfl rfl rfl) (fun _ _ _ _ h => h)) runF_len (vq_here 0 (va_cons (ve_frz vo_int) va_nil))))))) (blkOk_by (own := [("_law_turn", 8)]) (N := N__law_net) (sc := defScope s__law_net) (by decide +kernel)) (nfxs (fx := [0]) rfl rfl) (fun _ _ _ _ _ _ => (vg_name (vs := [8]) (i := 8) sc__law_net.nd rfl (Or.inl rfl) (nfx (fx := [0]) rfl rfl) (by decide))) (fun _ _ _ _ _ _ => vts_nil) (fun _ _ _ _ _ _ => (ve_callQ (ok__law_take T) (hr.mono (by decide)) (by rfl) T.g__law_take T.F__law_take.kp T.B__law_take passF runF_len (vq_here 0 (va_cons (ve_frz vo_int) va_nil))))) (nfx (fx := [0]) rfl rfl))
    (vss_cons (vs_setO (i := 4) sc__law_net.nd rfl (Or.inl rfl) (vo_t1 c_tuple (by rfl) T.b_tuple (by decide +kernel) (vb_of (ve_frz (vo_lc (rel := Sh) (own := [("_law_yard", 7)]) (t := vYes) rfl sc__law_net.nd (vi_rng1 (by rfl) T.b_range (ve_var 2)) (blkOk_by (own := [("_law_yard", 7)]) (N := N__law_net) (sc := defScope s__law_net) (by decide +kernel)) (nfxs (fx := [0]) rfl rfl) (fun _ _ _ _ _ _ => (vg_name (vs := [7]) (i := 7) sc__law_net.nd rfl (Or.inl rfl) (nfx (fx := [0]) rfl rfl) (by decide))) (fun _ _ _ _ _ _ => vts_nil) (fun _ _ _ _ _ _ => (ve_ix hr.units (ve_var 3) (vb_of (ve_callQ (ok__law_take T) (hr.mono (by decide)) (by rfl) T.g__law_take T.F__law_take.kp T.B__law_take passF runF_len (vq_here 0 (va_cons (ve_frz (vo_b1 c_len (by rfl) T.b_len (by decide +kernel) (vb_of (ve_var 3)))) va_nil)))) (fun _ _ => rfl))))))) (nfx (fx := [0]) rfl rfl))
    (vss_cons (vs_set (i := 5) sc__law_net.nd rfl (Or.inl rfl) (ve_ix hr.units (ve_frz (vo_lst (va_cons (ve_frz vo_int) (va_cons (ve_frz vo_int) (va_cons (ve_frz vo_int) va_nil))))) (vb_of (ve_callQ (ok__law_take T) (hr.mono (by decide)) (by rfl) T.g__law_take T.F__law_take.kp T.B__law_take (passes_call (takes_of rfl rfl rfl rfl) (fun _ _ _ _ h => h)) runF_len (vq_here 0 (va_cons (ve_frz vo_int) va_nil)))) (fun _ _ => rfl)) (nfx (fx := [0]) rfl rfl))
    (vss_cons (vs_setO (i := 6) sc__law_net.nd rfl (Or.inl rfl) vo_dict0 (nfx (fx := [0]) rfl rfl))
    (vss_cons (vs_for (rel := Sh) (passes_of rfl) rfl (vi_rng2 (by rfl) T.b_range (ve_frz vo_int) (ve_var 2)) (vg_name (vs := [7]) (i := 7) sc__law_net.nd rfl (Or.inl rfl) (nfx (fx := [0]) rfl rfl) (by decide))
      (vss_one (vs_put 6 hr.units (ve_frz vo_bl) (vb_of (ve_frz (vo_tup (va_cons (ve_callQ (ok__law_take T) (hr.mono (by decide)) (by rfl) T.g__law_take T.F__law_take.kp T.B__law_take (passes_call (takes_of rfl rfl rfl rfl) (fun _ _ _ _ h => h)) runF_len (vq_here 0 (va_cons (ve_var 7) va_nil))) (va_cons (ve_var 7) (va_cons (ve_callQ (ok__law_take T) (hr.mono (by decide)) (by rfl) T.g__law_take T.F__law_take.kp T.B__law_take (passes_call (takes_of rfl rfl rfl rfl) (fun _ _ _ _ h => h)) runF_len (vq_here 0 (va_cons (ve_frz vo_int) va_nil))) (va_cons (ve_frz (vo_op o_add (ve_frz vo_int) (vb_of (ve_callQ (ok__law_take T) (hr.mono (by decide)) (by rfl) T.g__law_take T.F__law_take.kp T.B__law_take (passes_call (takes_of rfl rfl rfl rfl) (fun _ _ _ _ h => h)) runF_len (vq_here 0 (va_cons (ve_var 5) va_nil)))))) va_nil))))))))))
    (vss_cons (vs_for (rel := Sh) (passes_of rfl) rfl (vi_rng1 (by rfl) T.b_range (ve_frz (vo_op o_mul (ve_callQ (ok__law_take T) (hr.mono (by decide)) (by rfl) T.g__law_take T.F__law_take.kp T.B__law_take (passes_call (takes_of rfl rfl rfl rfl) (fun _ _ _ _ h => h)) runF_len (vq_here 0 (va_cons (ve_ix hr.units (ve_frz (vo_lst (va_cons (ve_frz vo_int) (va_cons (ve_frz vo_int) va_nil)))) (vb_of (ve_callQ (ok__law_take T) (hr.mono (by decide)) (by rfl) T.g__law_take T.F__law_take.kp T.B__law_take (passes_call (takes_of rfl rfl rfl rfl) (fun _ _ _ _ h => h)) runF_len (vq_here 0 (va_cons (ve_frz vo_int) va_nil)))) (fun _ _ => rfl)) va_nil))) (vb_of (ve_frz (vo_t1 c_int (by rfl) T.b_int (by decide +kernel) (vb_of (ve_frz (vo_cmp (o_gt hr.units) (ve_var 2) (vb_of (ve_frz vo_int)) (nomark _)))))))))) (vg_name (vs := [8]) (i := 8) sc__law_net.nd rfl (Or.inl rfl) (nfx (fx := [0]) rfl rfl) (by decide))
      (vss_cons (vs_setO (i := 7) sc__law_net.nd rfl (Or.inl rfl) (vo_op o_add (ve_frz vo_int) (vb_of (ve_callQ (ok__law_take T) (hr.mono (by decide)) (by rfl) T.g__law_take T.F__law_take.kp T.B__law_take (passes_call (takes_of rfl rfl rfl rfl) (fun _ _ _ _ h => h)) runF_len (vq_here 0 (va_cons (ve_frz (vo_op o_sub (ve_var 2) (vb_of (ve_frz vo_int)))) va_nil))))) (nfx (fx := [0]) rfl rfl))
      (vss_one (vs_put 6 hr.units (ve_frz vo_bl) (vb_of (ve_frz (vo_tup (va_cons (ve_callQ (ok__law_take T) (hr.mono (by decide)) (by rfl) T.g__law_take T.F__law_take.kp T.B__law_take (passes_call (takes_of rfl rfl rfl rfl) (fun _ _ _ _ h => h)) runF_len (vq_here 0 (va_cons (ve_var 7) va_nil))) (va_cons (ve_var 7) (va_cons (ve_callQ (ok__law_take T) (hr.mono (by decide)) (by rfl) T.g__law_take T.F__law_take.kp T.B__law_take (passes_call (takes_of rfl rfl rfl rfl) (fun _ _ _ _ h => h)) runF_len (vq_here 0 (va_cons (ve_frz vo_int) va_nil))) (va_cons (ve_frz (vo_op o_add (ve_frz vo_int) (vb_of (ve_callQ (ok__law_take T) (hr.mono (by decide)) (by rfl) T.g__law_take T.F__law_take.kp T.B__law_take (passes_call (takes_of rfl rfl rfl rfl) (fun _ _ _ _ h => h)) runF_len (vq_here 0 (va_cons (ve_var 5) va_nil)))))) va_nil)))))))))))
    (vss_one (vs_ret (ve_frz (vo_tup (va_cons (ve_var 4) (va_cons (ve_frz (vo_t1 c_tuple (by rfl) T.b_tuple (by decide +kernel) (vb_of (ve_frz (vo_b1 (c_sorted rfl hr.units) (by rfl) T.b_sorted (by decide +kernel) (vb_var 6)))))) va_nil)))))))))))))
def b__law_paths : M Fl := (vSeq (vParF 2 3 (vDisp1 (vVar 1) (vTup (vCons (ret (.int 0)) (vCons (vTup (vCons (vVar 1) vNil)) vNil)))) (ret (.bool true)))
    (vSeq (vWhile (vT (vVar 3))
      (vSeq (vSetO 3 (ret (.bool false)))
      (vFor (vItT (vOp dIx (vVar 0) (ret (.int 1)))) (vGTup 4 (vGCons (vSetSh 4) (vGCons (vSetSh 5) (vGCons (vSetSh 6) (vGCons (vSetSh 7) vGNil)))))
        (vFor (vItL (vLst (vCons (vTup (vCons (vVar 4) (vCons (vVar 5) vNil))) (vCons (vTup (vCons (vVar 5) (vCons (vVar 4) vNil))) vNil)))) (vGTup 2 (vGCons (vSetSh 8) (vGCons (vSetSh 9) vGNil)))
          (vIf (vT (vOp dIn (vVar 8) (vGet 2)))
            (vSeq (vSetO 10 (vTup (vCons (vOp dAdd (vOp dIx (vOpN dIx 2 (vVar 8)) (ret (.int 0))) (vVar 7)) (vCons (vOp dAdd (vOp dIx (vOpN dIx 2 (vVar 8)) (ret (.int 1))) (vTup (vCons (vVar 9) vNil))) vNil))))
            (vIf (vOrT (vT (vOp dNotIn (vVar 9) (vGet 2))) (vT (vOp dLt (vVar 10) (vOpN dIx 2 (vVar 9)))))
              (vSeq (vPut 2 (vVar 9) (vVar 10))
              (vSetO 3 (ret (.bool true))))
              (ret .nx)))
            (ret .nx))))))
    (vRet (vVar 2))))
def m__law_paths : List D → Option Rf := runF 2 [] 11 b__law_paths
theorem ok__law_paths (T : Txt K mg A) : FnOk P w K mg base (L2.CX P w) 1 A._law_paths A.fd__law_paths P__law_paths (spV ⟨P, w, K⟩ (clA A Tb) 2 [] false m__law_paths) :=
  def_okX (k := 0) T.F__law_paths sc__law_paths rfl (by decide) rfl fun cdv A' outer s H vs E hr =>
    (vss_cons (vs_parF (i := 2) (j := 3) rfl sc__law_paths.nd rfl rfl (by decide) rfl rfl (vo_disp1 (fun _ => (ve_var 1)) (fun _ => (ve_frz (vo_tup (va_cons (ve_frz vo_int) (va_cons (ve_frz (vo_tup (va_cons (ve_var 1) va_nil))) va_nil)))))) (fun _ => (ve_frz vo_bl)) (nfx (fx := []) rfl rfl) (nfx (fx := []) rfl rfl) (by rfl))
    (vss_cons (vs_while (passes_of rfl) (vt_val (ve_var 3))
      (vss_cons (vs_setO (i := 3) sc__law_paths.nd rfl (Or.inl rfl) vo_bl (nfx (fx := []) rfl rfl))
      (vss_one (vs_for (rel := Sh) (passes_of rfl) rfl (vi_tup (ve_ix hr.units (ve_var 0) (vb_of (ve_frz vo_int)) (fun _ _ => rfl))) (vg_weak (vg_tup (n := 4) rfl (vgs_cons (vg_name (vs := [4, 5, 6, 7]) (i := 4) sc__law_paths.nd rfl (Or.inl rfl) (nfx (fx := []) rfl rfl) (by decide)) (vgs_cons (vg_name (vs := [4, 5, 6, 7]) (i := 5) sc__law_paths.nd rfl (Or.inl rfl) (nfx (fx := []) rfl rfl) (by decide)) (vgs_cons (vg_name (vs := [4, 5, 6, 7]) (i := 6) sc__law_paths.nd rfl (Or.inl rfl) (nfx (fx := []) rfl rfl) (by decide)) (vgs_cons (vg_name (vs := [4, 5, 6, 7]) (i := 7) sc__law_paths.nd rfl (Or.inl rfl) (nfx (fx := []) rfl rfl) (by decide)) vgs_nil))))))
        (vss_one (vs_for (rel := Sh) (passes_of rfl) rfl (vi_list (ve_frz (vo_lst (va_cons (ve_frz (vo_tup (va_cons (ve_var 4) (va_cons (ve_var 5) va_nil)))) (va_cons (ve_frz (vo_tup (va_cons (ve_var 5) (va_cons (ve_var 4) va_nil)))) va_nil))))) (vg_weak (vg_tup (n := 2) rfl (vgs_cons (vg_name (vs := [8, 9]) (i := 8) sc__law_paths.nd rfl (Or.inl rfl) (nfx (fx := []) rfl rfl) (by decide)) (vgs_cons (vg_name (vs := [8, 9]) (i := 9) sc__law_paths.nd rfl (Or.inl rfl) (nfx (fx := []) rfl rfl) (by decide)) vgs_nil))))
          (vss_one (vs_if (vt_cmp (o_in hr.units) (ve_var 8) (vb_var 2) (by rfl))
            (vss_cons (vs_setO (i := 10) sc__law_paths.nd rfl (Or.inl rfl) (vo_tup (va_cons (ve_frz (vo_op o_add (ve_ix hr.units (ve_ixN 2 hr.units (vb_of (ve_var 8)) (fun _ _ => rfl)) (vb_of (ve_frz vo_int)) (fun _ _ => rfl)) (vb_of (ve_var 7)))) (va_cons (ve_frz (vo_op o_add (ve_ix hr.units (ve_ixN 2 hr.units (vb_of (ve_var 8)) (fun _ _ => rfl)) (vb_of (ve_frz vo_int)) (fun _ _ => rfl)) (vb_of (ve_frz (vo_tup (va_cons (ve_var 9) va_nil)))))) va_nil))) (nfx (fx := []) rfl rfl))
            (vss_one (vs_if (vt_w (vw_or (vt_cmp (o_notin hr.units) (ve_var 9) (vb_var 2) (by rfl)) (vw_or1 (vt_cmp (o_lt hr.units) (ve_var 10) (vb_of (ve_ixN 2 hr.units (vb_of (ve_var 9)) (fun _ _ => rfl))) (nomark _)))))
              (vss_cons (vs_put 2 hr.units (ve_var 10) (vb_of (ve_var 9)))
              (vss_one (vs_setO (i := 3) sc__law_paths.nd rfl (Or.inl rfl) vo_bl (nfx (fx := []) rfl rfl))))
              vss_nil)))
            vss_nil))))))))
    (vss_one (vs_ret (ve_var 2)))))
def b_law : M Fl := (vSeqL (vFor (vRng1 (vCN dMax2 (vCons (ret (.int 1)) (vCons (vCN dMin2 (vCons (vC1 dLen (vVar 0)) (vCons (ret (.int 3)) vNil))) vNil)))) (vSetSh 1)
      (vSeq (vSetO 2 (vCall m__law_box (vCons (vVar 0) (vCons (vVar 1) vNil))))
      (vSeq (vSet 3 (vCallQ m__law_net 0 2 (vHere 2 (vCons (vOp dIx (vLst (vCons (ret (.int 4)) (vCons (ret (.int 10)) vNil))) (vCallQ m__law_take 0 2 (vHere 2 (vCons (ret (.int 2)) vNil)))) vNil))))
      (vSeq (vSetO 4 (vC1 dLen (vOp dIx (vVar 3) (ret (.int 0)))))
      (vSeqL (vFor (vRng1 (vVar 4)) (vSetSh 5)
        (vSeq (vSet 6 (vCall m__law_paths (vCons (vVar 3) (vCons (vVar 5) vNil))))
        (vSeqL (vFor (vRng1 (ret (.int 6))) (vSetSh 7)
          (vSeq (vSetO 8 (vLc (vRng1 (vVar 4)) [10] (vSetSh 10) (vT (vOp dEq (vOp dIx (vOp dIx (vVar 3) (ret (.int 0))) (vVar 10)) (vVar 7))) (vOp dIx (vVar 6) (vVar 10))))
          (vIf (vT (vOp dEq (vVar 8) (vLst vNil)))
            (vIf (vT (vOp dNe (vKind kt__law_kind ks__law_kind (vCall m_way_home (vCons (vVar 3) (vCons (vVar 5) (vCons (vVar 7) vNil))))) (ret (.str "mark"))))
              (vRet (ret (.bool false)))
              (ret .nx))
            (vIf (vT (vOp dNe (vC1 dRepr (vCall m_way_home (vCons (vVar 3) (vCons (vVar 5) (vCons (vVar 7) vNil))))) (vC1 dRepr (vOp dIx (vC1 dMinD (vVar 8)) (ret (.int 1))))))
              (vRet (ret (.bool false)))
              (ret .nx)))))
        (vIf (vT (vOp dNe (vCall m_way_home (vCons (vVar 3) (vCons (vVar 5) (vCons (vOp dIx (vOp dIx (vVar 3) (ret (.int 0))) (vVar 5)) vNil)))) (vTup (vCons (vVar 5) vNil))))
          (vRet (ret (.bool false)))
          (ret .nx)))))
      (vFor (vItL (vLst (vCons (vNeg (ret (.int 1))) (vCons (ret (.int 6)) (vCons (ret (.bool true)) (vCons (ret .none) (vCons (ret (.str "0")) (vCons (vOp dPow (ret (.int 10)) (ret (.int 19))) vNil)))))))) (vSetSh 9)
        (vSeq (vIf (vT (vOp dNe (vKind kt__law_kind ks__law_kind (vCall m_way_home (vCons (vVar 3) (vCons (ret (.int 0)) (vCons (vVar 9) vNil))))) (ret (.str "mark"))))
          (vRet (ret (.bool false)))
          (ret .nx))
        (vIf (vT (vOp dNe (vKind kt__law_kind ks__law_kind (vCall m_way_home (vCons (vVar 3) (vCons (vVar 4) (vCons (vVar 9) vNil))))) (ret (.str "yard"))))
          (vRet (ret (.bool false)))
          (ret .nx)))))))))
    (vRet (ret (.bool true))))
def m_law : List D → Option Rf := runF 1 [] 11 b_law
theorem ok_law (T : Txt K mg A) {c Pt : Addr} (hcv : A.fd_law.code = .ref c) (TB : LamX.TabB base mg c Pt) (hmT : (Pt, ((PyProof.Rows.envOfC "law" (defScope s_law) 0 0 .none).qual ++ "<lambda>")) ∈ Tb) (hu : ∀ p ∈ Tb, p.1 = Pt → p.2 = ((PyProof.Rows.envOfC "law" (defScope s_law) 0 0 .none).qual ++ "<lambda>")) : FnG P w K mg base (L2.CX P w) 8 A.law A.fd_law P_law (spV ⟨P, w, K⟩ (clA A Tb) 1 [] false m_law) := by
  obtain ⟨_, _, _, _, _, _, cd__law_kind, _, _, e__law_kind, lk__law_kind, hc__law_kind⟩ := T.F__law_kind.ex
  have bK__law_kind := T.B__law_kind
  rw [e__law_kind] at lk__law_kind bK__law_kind
  exact def_okGC (k := 7) T.F_law sc_law rfl (by decide) rfl fun cdv hcd A' outer s H vs E hr hG =>
    (vss_cons (vs_for (rel := Sh) (passes_of rfl) rfl (vi_rng1 (by rfl) T.b_range (ve_frz (vo_bN (c_max2 rfl) (by rfl) T.b_max (by decide +kernel) (va_cons (ve_frz vo_int) (va_cons (ve_frz (vo_bN (c_min2 rfl) (by rfl) T.b_min (by decide +kernel) (va_cons (ve_frz (vo_b1 c_len (by rfl) T.b_len (by decide +kernel) (vb_of (ve_var 0)))) (va_cons (ve_frz vo_int) va_nil)))) va_nil))))) (vg_name (vs := [1]) (i := 1) sc_law.nd rfl (Or.inl rfl) (nfx (fx := []) rfl rfl) (by decide))
      (vss_cons (vs_setO (i := 2) sc_law.nd rfl (Or.inl rfl) (vo_call (ok__law_box T) (hr.mono (by decide)) (by rfl) T.g__law_box T.F__law_box.kp T.B__law_box (passes_call (takes_of rfl rfl rfl rfl) (fun _ _ _ _ h => h)) runF_len (va_cons (ve_var 0) (va_cons (ve_var 1) va_nil))) (nfx (fx := []) rfl rfl))
      (vss_cons (vs_set (i := 3) sc_law.nd rfl (Or.inr rfl) (ve_callQ (ok__law_net T) (hr.mono (by decide)) (by rfl) T.g__law_net T.F__law_net.kp T.B__law_net (passes_call (takes_of rfl rfl rfl rfl) (fun _ _ _ _ h => h)) runF_len (vq_here 2 (va_cons (ve_ix hr.units (ve_frz (vo_lst (va_cons (ve_frz vo_int) (va_cons (ve_frz vo_int) va_nil)))) (vb_of (ve_callQ (ok__law_take T) (hr.mono (by decide)) (by rfl) T.g__law_take T.F__law_take.kp T.B__law_take (passes_call (takes_of rfl rfl rfl rfl) (fun _ _ _ _ h => h)) runF_len (vq_here 2 (va_cons (ve_frz vo_int) va_nil)))) (fun _ _ => rfl)) va_nil))) (nfx (fx := []) rfl rfl))
      (vss_cons (vs_setO (i := 4) sc_law.nd rfl (Or.inr rfl) (vo_b1 c_len (by rfl) T.b_len (by decide +kernel) (vb_of (ve_ix hr.units (ve_var 3) (vb_of (ve_frz vo_int)) (fun _ _ => rfl)))) (nfx (fx := []) rfl rfl))
      (vss_cons (vs_for (rel := Sh) (passes_of rfl) rfl (vi_rng1 (by rfl) T.b_range (ve_var 4)) (vg_name (vs := [5]) (i := 5) sc_law.nd rfl (Or.inr rfl) (nfx (fx := []) rfl rfl) (by decide))
        (vss_cons (vs_set (i := 6) sc_law.nd rfl (Or.inr rfl) (ve_call (ok__law_paths T) (hr.mono (by decide)) (by rfl) T.g__law_paths T.F__law_paths.kp T.B__law_paths (passes_call (takes_of rfl rfl rfl rfl) (fun _ _ _ _ h => h)) runF_len (va_cons (ve_var 3) (va_cons (ve_var 5) va_nil))) (nfx (fx := []) rfl rfl))
        (vss_cons (vs_for (rel := Sh) (passes_of rfl) rfl (vi_rng1 (by rfl) T.b_range (ve_frz vo_int)) (vg_name (vs := [7]) (i := 7) sc_law.nd rfl (Or.inr rfl) (nfx (fx := []) rfl rfl) (by decide))
          (vss_cons (vs_setLc (i := 8) (rel := Sh) (own := [("_law_there", 10)]) (t := (vT (vOp dEq (vOp dIx (vOp dIx (vVar 3) (ret (.int 0))) (vVar 10)) (vVar 7)))) rfl sc_law.nd rfl rfl (sw_true rfl rfl rfl (by decide +kernel)) (vi_rng1 (by rfl) T.b_range (ve_var 4)) (blkOk_by (own := [("_law_there", 10)]) (N := N_law) (sc := defScope s_law) (by decide +kernel)) (nfxs (fx := []) rfl rfl) (nfx (fx := []) rfl rfl) (fun _ _ _ _ _ _ => (vg_name (vs := [10]) (i := 10) sc_law.nd rfl (Or.inl rfl) (nfx (fx := []) rfl rfl) (by decide))) (fun _ _ _ _ _ _ => (vts_one (vt_cmp (o_eq hr.units) (ve_ix hr.units (ve_ix hr.units (ve_var 3) (vb_of (ve_frz vo_int)) (fun _ _ => rfl)) (vb_of (ve_var 10)) (fun _ _ => rfl)) (vb_of (ve_var 7)) (nomark _)))) (fun _ _ _ _ _ _ => (ve_ix hr.units (ve_var 6) (vb_of (ve_var 10)) (fun _ _ => rfl))))
          (vss_one (vs_if (vt_cmp (o_eq hr.units) (ve_var 8) (vb_of (ve_frz (vo_lst va_nil))) (nomark _))
            (vss_one (vs_if (vt_cmp (o_ne hr.units) (ve_kind (T := Tb) (kt := kt__law_kind) (ks := ks__law_kind) (k := 5) rfl rfl (by rfl) T.g__law_kind T.F__law_kind.kp lk__law_kind hc__law_kind bK__law_kind sc__law_kind rfl (Or.inl rfl) (gives__law_kind T (hr.mono (by decide))) rfl TB (hcd.symm.trans hcv) hmT hu (hr.mono (by decide)) (LamX.lamS_by (by show LamX.lamSB (defScope s_law) _ = true; decide +kernel)) rfl (fun _ _ _ _ _ => rfl) (fun _ _ _ _ _ _ _ hr _ => (ve_call (ok_way_home T) (hr.mono (by decide)) (by rfl) T.g_way_home T.F_way_home.kp T.B_way_home (passes_call (takes_of rfl rfl rfl rfl) (fun _ _ _ _ h => h)) runF_len (va_cons (ve_var 3) (va_cons (ve_var 5) (va_cons (ve_var 7) va_nil)))))) (vb_of (ve_frz vo_str)) (nomark _))
              (vss_one (vs_ret (ve_frz vo_bl)))
              vss_nil))
            (vss_one (vs_if (vt_cmp (o_ne hr.units) (ve_frz (vo_b1 (c_repr hG hr.units) (by rfl) T.b_repr (by decide +kernel) (vb_of (ve_call (ok_way_home T) (hr.mono (by decide)) (by rfl) T.g_way_home T.F_way_home.kp T.B_way_home (passes_call (takes_of rfl rfl rfl rfl) (fun _ _ _ _ h => h)) runF_len (va_cons (ve_var 3) (va_cons (ve_var 5) (va_cons (ve_var 7) va_nil))))))) (vb_of (ve_frz (vo_b1 (c_repr hG hr.units) (by rfl) T.b_repr (by decide +kernel) (vb_of (ve_ix hr.units (ve_b1S (c_minD rfl hr.units) (by rfl) T.b_min (by decide +kernel) (vb_of (ve_var 8))) (vb_of (ve_frz vo_int)) (fun _ _ => rfl)))))) (nomark _))
              (vss_one (vs_ret (ve_frz vo_bl)))
              vss_nil))))))
        (vss_one (vs_if (vt_cmp (o_ne hr.units) (ve_call (ok_way_home T) (hr.mono (by decide)) (by rfl) T.g_way_home T.F_way_home.kp T.B_way_home (passes_call (takes_of rfl rfl rfl rfl) (fun _ _ _ _ h => h)) runF_len (va_cons (ve_var 3) (va_cons (ve_var 5) (va_cons (ve_ix hr.units (ve_ix hr.units (ve_var 3) (vb_of (ve_frz vo_int)) (fun _ _ => rfl)) (vb_of (ve_var 5)) (fun _ _ => rfl)) va_nil)))) (vb_of (ve_frz (vo_tup (va_cons (ve_var 5) va_nil)))) (nomark _))
          (vss_one (vs_ret (ve_frz vo_bl)))
          vss_nil)))))
      (vss_one (vs_for (rel := Sh) (passes_of rfl) rfl (vi_list (ve_frz (vo_lst (va_cons (ve_frz (vo_neg (ve_frz vo_int))) (va_cons (ve_frz vo_int) (va_cons (ve_frz vo_bl) (va_cons (ve_frz vo_non) (va_cons (ve_frz vo_str) (va_cons (ve_frz (vo_op o_pow (ve_frz vo_int) (vb_of (ve_frz vo_int)))) va_nil))))))))) (vg_name (vs := [9]) (i := 9) sc_law.nd rfl (Or.inr rfl) (nfx (fx := []) rfl rfl) (by decide))
        (vss_cons (vs_if (vt_cmp (o_ne hr.units) (ve_kind (T := Tb) (kt := kt__law_kind) (ks := ks__law_kind) (k := 5) rfl rfl (by rfl) T.g__law_kind T.F__law_kind.kp lk__law_kind hc__law_kind bK__law_kind sc__law_kind rfl (Or.inl rfl) (gives__law_kind T (hr.mono (by decide))) rfl TB (hcd.symm.trans hcv) hmT hu (hr.mono (by decide)) (LamX.lamS_by (by show LamX.lamSB (defScope s_law) _ = true; decide +kernel)) rfl (fun _ _ _ _ _ => rfl) (fun _ _ _ _ _ _ _ hr _ => (ve_call (ok_way_home T) (hr.mono (by decide)) (by rfl) T.g_way_home T.F_way_home.kp T.B_way_home (passes_call (takes_of rfl rfl rfl rfl) (fun _ _ _ _ h => h)) runF_len (va_cons (ve_var 3) (va_cons (ve_frz vo_int) (va_cons (ve_var 9) va_nil)))))) (vb_of (ve_frz vo_str)) (nomark _))
          (vss_one (vs_ret (ve_frz vo_bl)))
          vss_nil)
        (vss_one (vs_if (vt_cmp (o_ne hr.units) (ve_kind (T := Tb) (kt := kt__law_kind) (ks := ks__law_kind) (k := 5) rfl rfl (by rfl) T.g__law_kind T.F__law_kind.kp lk__law_kind hc__law_kind bK__law_kind sc__law_kind rfl (Or.inl rfl) (gives__law_kind T (hr.mono (by decide))) rfl TB (hcd.symm.trans hcv) hmT hu (hr.mono (by decide)) (LamX.lamS_by (by show LamX.lamSB (defScope s_law) _ = true; decide +kernel)) rfl (fun _ _ _ _ _ => rfl) (fun _ _ _ _ _ _ _ hr _ => (ve_call (ok_way_home T) (hr.mono (by decide)) (by rfl) T.g_way_home T.F_way_home.kp T.B_way_home (passes_call (takes_of rfl rfl rfl rfl) (fun _ _ _ _ h => h)) runF_len (va_cons (ve_var 3) (va_cons (ve_var 4) (va_cons (ve_var 9) va_nil)))))) (vb_of (ve_frz vo_str)) (nomark _))
          (vss_one (vs_ret (ve_frz vo_bl)))
          vss_nil))))))))))
    (vss_one (vs_ret (ve_frz vo_bl))))
end Cv
end
section
namespace Cv
open PySem L2
local macro_rules
  | `(tactic| simp_arith) => `(tactic| try simp only [fw_run, wp_ret, wp_bnd, wp_no, wp_lft, wl_some, wl_none, wl_if, wo_some, wp_var, wp_get, wp_getO, wp_putO, wp_setSh, wp_setOw, wp_op, wp_opN, wp_T, wp_chain, wp_and, wp_or, wp_not, wp_notT, wp_andT, wp_orT, wp_if, wp_nil, wp_cons, wp_tup, wp_lst, wp_c1, wp_cN, wp_seq, wp_drop, wp_rt, wp_rtN, wp_set, wp_setO, wp_asg, wp_gtup, wp_gcons, wp_gnil, wp_par, wp_parE, wp_put, wp_for0, wp_itL, wp_itT, wp_itK, wp_rng1, wp_rng2, wp_zip, wp_zipT, wp_call, wp_callF, wp_kind, hid_nil, hid_cons, hidO_sh, hidO_ow, hidO_none, wp_here, wp_callQ, wp_raise, wp_lc0, vRetNone, vYes, vDict0, wl_add, wl_addT, wl_addL, wl_sub, wl_mul, wl_mulL, wl_mod, wl_fdiv, wl_divmod, wl_lt, wl_gt, wl_le, wl_ge, wl_eq, wl_ne, wl_lenL, wl_lenT, wl_lenD, wl_ixL, wl_ixT, wl_setL, wl_abs, wl_max2, wl_min2, wl_intB, wl_tupL, ent, entL, outsOf, noOwn, wipeE, backE, isC_list, isC_dict, isC_tup, isC_int, isC_bool, isC_str, isC_none, isC_tI, isC_dOf, wl_setI, wl_ixI, wl_inI, wl_niI, wp_is, wp_mw, wp_neg, wp_sl, wp_part, wp_noPart, wr_append, wr_extend, ty_list, wl_neg, wl_sl1T, wl_sl1L, wl_all, wl_any, isInt_int, isBool_int, isTuple_tup, isTuple_tI, wl_lenI, wl_ixtI, wl_inL, wl_niL, wl_inT, wl_inT2, wl_ltT, wl_lt2, Option.map_some, Bool.not_not, wl_set4, wl_set2, wl_ix2, wl_ni2, List.all_cons, List.all_nil, List.length_cons, List.length_nil, Nat.reduceAdd, Nat.reduceSub, Nat.reduceLeDiff, List.contains_cons, List.contains_nil, List.replicate, List.cons_append, List.nil_append, List.append_nil, if_true, if_false, ↓reduceIte, true_and, and_true, true_implies, false_implies, implies_true, reduceCtorEq, List.getElem?_cons_zero, List.getElem?_cons_succ, List.getElem?_nil, List.set_cons_zero, List.set_cons_succ, Option.join_some, Option.join_none, Option.isSome_some, atI_0, atI_1, atI_2, atI_3, atI_4, ixN_0, ixN_1, List.take_zero, List.drop_zero, List.take_succ_cons, List.drop_succ_cons, Bool.or_false, Bool.or_true, Bool.true_or, Bool.false_or, Bool.and_true, Bool.and_false, Bool.true_and, Bool.false_and, Bool.not_true, Bool.not_false, Bool.false_eq_true, Bool.not_eq_true', Bool.not_eq_false', Bool.not_eq_eq_eq_not, decide_eq_true_eq, decide_eq_false_iff_not, decide_true, decide_false, Nat.reduceBEq, beq_self_eq_true, Int.reduceLT, Int.reduceLE, Int.reduceNeg, Int.reducePow, Int.reduceToNat, Int.not_lt])
local macro_rules
  | `(tactic| simp_arith [$xs,*] $[$l]?) => `(tactic| simp only [fw_run, wp_ret, wp_bnd, wp_no, wp_lft, wl_some, wl_none, wl_if, wo_some, wp_var, wp_get, wp_getO, wp_putO, wp_setSh, wp_setOw, wp_op, wp_opN, wp_T, wp_chain, wp_and, wp_or, wp_not, wp_notT, wp_andT, wp_orT, wp_if, wp_nil, wp_cons, wp_tup, wp_lst, wp_c1, wp_cN, wp_seq, wp_drop, wp_rt, wp_rtN, wp_set, wp_setO, wp_asg, wp_gtup, wp_gcons, wp_gnil, wp_par, wp_parE, wp_put, wp_for0, wp_itL, wp_itT, wp_itK, wp_rng1, wp_rng2, wp_zip, wp_zipT, wp_call, wp_callF, wp_kind, hid_nil, hid_cons, hidO_sh, hidO_ow, hidO_none, wp_here, wp_callQ, wp_raise, wp_lc0, vRetNone, vYes, vDict0, wl_add, wl_addT, wl_addL, wl_sub, wl_mul, wl_mulL, wl_mod, wl_fdiv, wl_divmod, wl_lt, wl_gt, wl_le, wl_ge, wl_eq, wl_ne, wl_lenL, wl_lenT, wl_lenD, wl_ixL, wl_ixT, wl_setL, wl_abs, wl_max2, wl_min2, wl_intB, wl_tupL, ent, entL, outsOf, noOwn, wipeE, backE, isC_list, isC_dict, isC_tup, isC_int, isC_bool, isC_str, isC_none, isC_tI, isC_dOf, wl_setI, wl_ixI, wl_inI, wl_niI, wp_is, wp_mw, wp_neg, wp_sl, wp_part, wp_noPart, wr_append, wr_extend, ty_list, wl_neg, wl_sl1T, wl_sl1L, wl_all, wl_any, isInt_int, isBool_int, isTuple_tup, isTuple_tI, wl_lenI, wl_ixtI, wl_inL, wl_niL, wl_inT, wl_inT2, wl_ltT, wl_lt2, Option.map_some, Bool.not_not, wl_set4, wl_set2, wl_ix2, wl_ni2, List.all_cons, List.all_nil, List.length_cons, List.length_nil, Nat.reduceAdd, Nat.reduceSub, Nat.reduceLeDiff, List.contains_cons, List.contains_nil, List.replicate, List.cons_append, List.nil_append, List.append_nil, if_true, if_false, ↓reduceIte, true_and, and_true, true_implies, false_implies, implies_true, reduceCtorEq, List.getElem?_cons_zero, List.getElem?_cons_succ, List.getElem?_nil, List.set_cons_zero, List.set_cons_succ, Option.join_some, Option.join_none, Option.isSome_some, atI_0, atI_1, atI_2, atI_3, atI_4, ixN_0, ixN_1, List.take_zero, List.drop_zero, List.take_succ_cons, List.drop_succ_cons, Bool.or_false, Bool.or_true, Bool.true_or, Bool.false_or, Bool.and_true, Bool.and_false, Bool.true_and, Bool.false_and, Bool.not_true, Bool.not_false, Bool.false_eq_true, Bool.not_eq_true', Bool.not_eq_false', Bool.not_eq_eq_eq_not, decide_eq_true_eq, decide_eq_false_iff_not, decide_true, decide_false, Nat.reduceBEq, beq_self_eq_true, Int.reduceLT, Int.reduceLE, Int.reduceNeg, Int.reducePow, Int.reduceToNat, Int.not_lt, $xs,*] $[$l]?)
/-! family A: the box of digits -/
theorem mul_r {i j : Int} (h1 : -(2 ^ 64) < j) (h2 : j < 2 ^ 64) : CMul i j := .inr ⟨h1, h2⟩
theorem mul_l {i j : Int} (h1 : -(2 ^ 64) < i) (h2 : i < 2 ^ 64) : CMul i j := .inl ⟨h1, h2⟩
theorem mem_rngD {lo : Int} {n : Nat} {d : D} (h : d ∈ rngD lo n) : ∃ k : Nat, k < n ∧ d = .int (lo + k) := by
  obtain ⟨k, hk, rfl⟩ := List.mem_map.1 h
  exact ⟨k, List.mem_range.1 hk, rfl⟩
abbrev bx (n s : Int) : D := .list [.int n, .int s]
theorem more_ok {E : Ex → Prop} {n s : Int} {q : D → List D → Prop} (h : ∀ m s', 0 ≤ m → q (.int m) [bx n s']) : Fw E m__law_more [bx n s] q := by
  unfold m__law_more b__law_more
  simp_arith []
  refine wp_for (fun xs ρ => ∃ oj m s, ρ = [some ⟨true, bx n s⟩, some ⟨false, .int m⟩, oj] ∧ 0 ≤ m) ?_ ?_ _ _ ⟨_, _, _, rfl, Int.le_refl 0⟩
  · rintro x r ρ ⟨oj, m, s, rfl, hm⟩
    simp_arith []
    refine ⟨mul_r (by decide) (by decide), mul_r (by decide) (by decide), by decide, _, _, _, rfl, by omega⟩
  · rintro ρ ⟨oj, m, s, rfl, hm⟩
    simp_arith []
    exact h _ _ hm

theorem take_ok {E : Ex → Prop} {n s c : Int} {q : D → List D → Prop} (h0 : 0 < c) (h1 : c < 2 ^ 64) (h : ∀ x n' s', 0 ≤ x → x < c → q (.int x) [bx n' s']) : Fw E m__law_take [bx n s, .int c] q := by
  have hl : c.natAbs.log2 < 9000 := by
    have : c.natAbs < 2 ^ 64 := by omega
    rcases Nat.eq_zero_or_pos c.natAbs with h | h
    · rw [h]; decide
    · have := (Nat.log2_lt (by omega)).2 this
      omega
  unfold m__law_take b__law_take
  simp_arith []
  have fin : ∀ n' s', q (.int (n' % c)) [bx (n' / c) s'] := fun n' s' => h _ _ _ (Int.emod_nonneg _ (by omega)) (Int.emod_lt_of_pos _ h0)
  refine ⟨fun _ => ⟨fun _ => more_ok fun m s' hm => ?_, fun _ => ⟨⟨h0, hl⟩, fin _ _⟩⟩, fun _ => ⟨⟨h0, hl⟩, fin _ _⟩⟩
  simp_arith []
  exact ⟨mul_l (by omega) h1, ⟨h0, hl⟩, fin _ _⟩
theorem box_ok {E : Ex → Prop} {ns : List Int} {k : Nat} {q : D → List D → Prop} (hk : k < 3) (h : ∀ n s, q (bx n s) []) : Fw E m__law_box [.list (ns.map .int), .int k] q := by
  have loop : ∀ (u : Int) (q' : Fl → Ev → Prop) (a b : D) (oa ob : Option Sl), (∀ m oj op, q' .nx [some ⟨false, a⟩, some ⟨false, b⟩, some ⟨false, .int u⟩, some ⟨false, .int m⟩, oj, op]) → Wp E (vForL (vSetSh 4) ((vSeq (vSetO 5 (vOp dMod (vOp dAdd (vOp dAdd (vOp dMul (vOp dMod (vVar 2) (ret (.int 2147483647))) (ret (.int 48271))) (vOp dMul (ret (.int 7919)) (vVar 4))) (ret (.int 1))) (ret (.int 2147483647))))
    (vSeq (vSetO 5 (vOp dMod (vOp dMul (vVar 5) (vVar 5)) (ret (.int 2147483629))))
    (vSetO 3 (vOp dAdd (vOp dMul (vVar 3) (ret (.int 2147483647))) (vOp dMod (vOp dMul (vVar 5) (vOp dAdd (vVar 5) (ret (.int 13)))) (ret (.int 2147483647)))))))) (rngD 0 16)) [some ⟨false, a⟩, some ⟨false, b⟩, some ⟨false, .int u⟩, some ⟨false, .int 0⟩, oa, ob] q' := by
    intro u q' a b oa ob hq
    refine wp_for (fun xs ρ => (∀ x ∈ xs, ∃ k : Nat, k < 16 ∧ x = .int (0 + k)) ∧ ∃ m oj op, ρ = [some ⟨false, a⟩, some ⟨false, b⟩, some ⟨false, .int u⟩, some ⟨false, .int m⟩, oj, op]) ?_ ?_ _ _ ⟨fun x hx => mem_rngD hx, _, _, _, rfl⟩
    · rintro x r ρ ⟨hx, m, oj, op, rfl⟩
      obtain ⟨k, hk, rfl⟩ := hx x (by simp)
      simp_arith []
      refine ⟨mul_r (by decide) (by decide), mul_l (by decide) (by decide), mul_l (by omega) (by omega), mul_r (by decide) (by decide), mul_l (by omega) (by omega), fun x hm => hx x (by simp [hm]), _, _, _, rfl⟩
    · rintro ρ ⟨_, m, oj, op, rfl⟩
      exact hq _ _ _
  have fin : ∀ (u : Int), (u % 2 = 0 → (Int.natAbs 2).log2 < 9000 ∧ q (.list [.int (u / 2), .int ((if u < 0 then -u else u) % 2147483647)]) []) := fun u _ => ⟨by decide, h _ _⟩
  unfold m__law_box b__law_box
  simp_arith []
  refine ⟨mul_l (by decide) (by decide), fun hl => ?_, fun hl => ⟨fin _, fun _ => ?_⟩⟩
  · have hl2 : k < (ns.map PyData.int).length := by omega
    rw [atI_n, List.getElem?_map, List.getElem?_eq_getElem (by simpa using hl2)]
    simp_arith [Option.map_some]
    refine ⟨fin _, fun _ => loop _ _ _ _ _ _ fun m oj op => ?_⟩
    simp_arith []
    exact h _ _
  · generalize (7919 * (k : Int) + 13) = u
    refine loop u _ _ _ _ _ fun m oj op => ?_
    simp_arith []
    exact h _ _

end Cv
end
section
namespace Cv
open PySem L2
local macro_rules
  | `(tactic| simp_arith) => `(tactic| try simp only [fw_run, wp_ret, wp_bnd, wp_no, wp_lft, wl_some, wl_none, wl_if, wo_some, wp_var, wp_get, wp_getO, wp_putO, wp_setSh, wp_setOw, wp_op, wp_opN, wp_T, wp_chain, wp_and, wp_or, wp_not, wp_notT, wp_andT, wp_orT, wp_if, wp_nil, wp_cons, wp_tup, wp_lst, wp_c1, wp_cN, wp_seq, wp_drop, wp_rt, wp_rtN, wp_set, wp_setO, wp_asg, wp_gtup, wp_gcons, wp_gnil, wp_par, wp_parE, wp_put, wp_for0, wp_itL, wp_itT, wp_itK, wp_rng1, wp_rng2, wp_zip, wp_zipT, wp_call, wp_callF, wp_kind, hid_nil, hid_cons, hidO_sh, hidO_ow, hidO_none, wp_here, wp_callQ, wp_raise, wp_lc0, vRetNone, vYes, vDict0, wl_add, wl_addT, wl_addL, wl_sub, wl_mul, wl_mulL, wl_mod, wl_fdiv, wl_divmod, wl_lt, wl_gt, wl_le, wl_ge, wl_eq, wl_ne, wl_lenL, wl_lenT, wl_lenD, wl_ixL, wl_ixT, wl_setL, wl_abs, wl_max2, wl_min2, wl_intB, wl_tupL, ent, entL, outsOf, noOwn, wipeE, backE, isC_list, isC_dict, isC_tup, isC_int, isC_bool, isC_str, isC_none, isC_tI, isC_dOf, wl_setI, wl_ixI, wl_inI, wl_niI, wp_is, wp_mw, wp_neg, wp_sl, wp_part, wp_noPart, wr_append, wr_extend, ty_list, wl_neg, wl_sl1T, wl_sl1L, wl_all, wl_any, isInt_int, isBool_int, isTuple_tup, isTuple_tI, wl_lenI, wl_ixtI, wl_inL, wl_niL, wl_inT, wl_inT2, wl_ltT, wl_lt2, Option.map_some, Bool.not_not, wl_set4, wl_set2, wl_ix2, wl_ni2, List.all_cons, List.all_nil, List.length_cons, List.length_nil, Nat.reduceAdd, Nat.reduceSub, Nat.reduceLeDiff, List.contains_cons, List.contains_nil, List.replicate, List.cons_append, List.nil_append, List.append_nil, if_true, if_false, ↓reduceIte, true_and, and_true, true_implies, false_implies, implies_true, reduceCtorEq, List.getElem?_cons_zero, List.getElem?_cons_succ, List.getElem?_nil, List.set_cons_zero, List.set_cons_succ, Option.join_some, Option.join_none, Option.isSome_some, atI_0, atI_1, atI_2, atI_3, atI_4, ixN_0, ixN_1, List.take_zero, List.drop_zero, List.take_succ_cons, List.drop_succ_cons, Bool.or_false, Bool.or_true, Bool.true_or, Bool.false_or, Bool.and_true, Bool.and_false, Bool.true_and, Bool.false_and, Bool.not_true, Bool.not_false, Bool.false_eq_true, Bool.not_eq_true', Bool.not_eq_false', Bool.not_eq_eq_eq_not, decide_eq_true_eq, decide_eq_false_iff_not, decide_true, decide_false, Nat.reduceBEq, beq_self_eq_true, Int.reduceLT, Int.reduceLE, Int.reduceNeg, Int.reducePow, Int.reduceToNat, Int.not_lt])
local macro_rules
  | `(tactic| simp_arith [$xs,*] $[$l]?) => `(tactic| simp only [fw_run, wp_ret, wp_bnd, wp_no, wp_lft, wl_some, wl_none, wl_if, wo_some, wp_var, wp_get, wp_getO, wp_putO, wp_setSh, wp_setOw, wp_op, wp_opN, wp_T, wp_chain, wp_and, wp_or, wp_not, wp_notT, wp_andT, wp_orT, wp_if, wp_nil, wp_cons, wp_tup, wp_lst, wp_c1, wp_cN, wp_seq, wp_drop, wp_rt, wp_rtN, wp_set, wp_setO, wp_asg, wp_gtup, wp_gcons, wp_gnil, wp_par, wp_parE, wp_put, wp_for0, wp_itL, wp_itT, wp_itK, wp_rng1, wp_rng2, wp_zip, wp_zipT, wp_call, wp_callF, wp_kind, hid_nil, hid_cons, hidO_sh, hidO_ow, hidO_none, wp_here, wp_callQ, wp_raise, wp_lc0, vRetNone, vYes, vDict0, wl_add, wl_addT, wl_addL, wl_sub, wl_mul, wl_mulL, wl_mod, wl_fdiv, wl_divmod, wl_lt, wl_gt, wl_le, wl_ge, wl_eq, wl_ne, wl_lenL, wl_lenT, wl_lenD, wl_ixL, wl_ixT, wl_setL, wl_abs, wl_max2, wl_min2, wl_intB, wl_tupL, ent, entL, outsOf, noOwn, wipeE, backE, isC_list, isC_dict, isC_tup, isC_int, isC_bool, isC_str, isC_none, isC_tI, isC_dOf, wl_setI, wl_ixI, wl_inI, wl_niI, wp_is, wp_mw, wp_neg, wp_sl, wp_part, wp_noPart, wr_append, wr_extend, ty_list, wl_neg, wl_sl1T, wl_sl1L, wl_all, wl_any, isInt_int, isBool_int, isTuple_tup, isTuple_tI, wl_lenI, wl_ixtI, wl_inL, wl_niL, wl_inT, wl_inT2, wl_ltT, wl_lt2, Option.map_some, Bool.not_not, wl_set4, wl_set2, wl_ix2, wl_ni2, List.all_cons, List.all_nil, List.length_cons, List.length_nil, Nat.reduceAdd, Nat.reduceSub, Nat.reduceLeDiff, List.contains_cons, List.contains_nil, List.replicate, List.cons_append, List.nil_append, List.append_nil, if_true, if_false, ↓reduceIte, true_and, and_true, true_implies, false_implies, implies_true, reduceCtorEq, List.getElem?_cons_zero, List.getElem?_cons_succ, List.getElem?_nil, List.set_cons_zero, List.set_cons_succ, Option.join_some, Option.join_none, Option.isSome_some, atI_0, atI_1, atI_2, atI_3, atI_4, ixN_0, ixN_1, List.take_zero, List.drop_zero, List.take_succ_cons, List.drop_succ_cons, Bool.or_false, Bool.or_true, Bool.true_or, Bool.false_or, Bool.and_true, Bool.and_false, Bool.true_and, Bool.false_and, Bool.not_true, Bool.not_false, Bool.false_eq_true, Bool.not_eq_true', Bool.not_eq_false', Bool.not_eq_eq_eq_not, decide_eq_true_eq, decide_eq_false_iff_not, decide_true, decide_false, Nat.reduceBEq, beq_self_eq_true, Int.reduceLT, Int.reduceLE, Int.reduceNeg, Int.reducePow, Int.reduceToNat, Int.not_lt, $xs,*] $[$l]?)
/-! family A: the net -/
structure NetOk (ys : List Int) (ws : List (List Int)) : Prop where
  one : 1 ≤ ys.length
  ten : ys.length ≤ 10
  yd : ∀ y ∈ ys, 0 ≤ y ∧ y ≤ 5
  few : ws.length ≤ 24
  way : ∀ x ∈ ws, WayOk ys.length x
  ris : risesB ws = true
  jo : Joined ys.length ws
def netD (ys : List Int) (ws : List (List Int)) : D := .tuple [tI ys, .tuple (ws.map tI)]
/-- the dict of ways on the way -/
structure DWs (n : Nat) (kvs : List (List Int × D)) (c : Nat) : Prop where
  nd : (kvs.map (·.1)).Nodup
  ok : ∀ x ∈ kvs.map (·.1), WayOk n x
  le : kvs.length ≤ c
theorem DWs.put {n : Nat} {kvs : List (List Int × D)} {c : Nat} {x : List Int} {v : D} (h : DWs n kvs c) (hx : WayOk n x) : DWs n (pK kvs x v) (c + 1) := by
  have hk := keys_pK kvs x v
  have hl : (pK kvs x v).length = ((pK kvs x v).map (·.1)).length := by simp
  cases hg : (gK kvs x).isSome with
  | true =>
    rw [hg, if_pos rfl] at hk
    exact ⟨by rw [hk]; exact h.nd, by rw [hk]; exact h.ok, by rw [hl, hk, List.length_map]; exact Nat.le_succ_of_le h.le⟩
  | false =>
    rw [hg, if_neg (by simp)] at hk
    have hn : x ∉ kvs.map (·.1) := fun hm => by rw [gK_mem.2 hm] at hg; cases hg
    refine ⟨?_, ?_, ?_⟩
    · rw [hk, List.nodup_append]
      refine ⟨h.nd, by simp, fun a ha b hb e => ?_⟩
      simp at hb
      subst hb
      subst e
      exact hn ha
    · rw [hk]
      intro y hy
      rcases List.mem_append.1 hy with hy | hy
      · exact h.ok y hy
      · simp at hy
        rw [hy]
        exact hx
    · rw [hl, hk, List.length_append, List.length_map]
      have := h.le
      simp
      omega
theorem mem_pK {kvs : List (List Int × D)} {x y : List Int} {v : D} : y ∈ (pK kvs x v).map (·.1) ↔ y = x ∨ y ∈ kvs.map (·.1) := by
  rw [keys_pK]
  cases hg : (gK kvs x).isSome with
  | true =>
    rw [if_pos rfl]
    have := gK_mem.1 hg
    constructor
    · exact .inr
    · rintro (rfl | h)
      · exact this
      · exact h
  | false => simp [or_comm]
theorem DWs.net {n : Nat} {kvs : List (List Int × D)} {c : Nat} (h : DWs n kvs c) (hj : Joined n (kvs.map (·.1))) : (srt (kvs.map (·.1))).length ≤ c ∧ (∀ x ∈ srt (kvs.map (·.1)), WayOk n x) ∧ risesB (srt (kvs.map (·.1))) = true ∧ Joined n (srt (kvs.map (·.1))) := by
  have hp := srt_perm (kvs.map (·.1))
  refine ⟨by rw [hp.length_eq, List.length_map]; exact h.le, fun x hx => h.ok x (hp.mem_iff.1 hx), rises_srt (hp.nodup_iff.2 h.nd) (srt_sorted _), fun k h1 h2 => ?_⟩
  obtain ⟨x, hx, e⟩ := hj k h1 h2
  exact ⟨x, hp.mem_iff.2 hx, e⟩
theorem rng_drop {lo : Int} {n i : Nat} {x : D} {r : List D} (h : x :: r = (rngD lo n).drop i) : i < n ∧ x = .int (lo + i) ∧ r = (rngD lo n).drop (i + 1) := by
  have hl : i < (rngD lo n).length := by
    have := congrArg List.length h
    simp at this
    omega
  rw [List.drop_eq_getElem_cons hl] at h
  injection h with h1 h2
  refine ⟨by simpa [rngD] using hl, ?_, h2⟩
  rw [h1]
  simp [rngD]
theorem net_ok {E : Ex → Prop} {n s c : Int} {q : D → List D → Prop} (hc : 0 < c) (hc2 : c ≤ 10) (h : ∀ ys ws n s, NetOk ys ws → (ys.length : Int) ≤ c → q (netD ys ws) [bx n s]) : Fw E m__law_net [bx n s, .int c] q := by
  unfold m__law_net b__law_net
  simp_arith []
  refine take_ok hc (by omega) fun c1 n1 s1 hc1 hc1' => ?_
  simp_arith []
  refine take_ok (by decide) (by decide) fun c2 n2 s2 hc2 hc2' => ?_
  simp_arith []
  refine ⟨by omega, ?_⟩
  refine wp_lcL (fun xs acc ρ => ∃ n s o8 as, ρ = [some ⟨true, bx n s⟩, some ⟨false, .int c⟩, some ⟨false, .int (1 + c1)⟩, none, none, none, none, none, o8] ∧ acc = as.map .int ∧ (∀ a ∈ as, 0 ≤ a ∧ a ≤ 5) ∧ as.length + xs.length = (1 + c2).toNat) ?_ ?_ _ _ _ ⟨_, _, _, [], rfl, rfl, by simp, by simp [rngD]⟩
  · rintro x r acc ρ ⟨n, s, o8, as, rfl, rfl, ha, hl⟩
    simp_arith []
    refine take_ok (by decide) (by decide) fun d n' s' hd hd' => ?_
    simp_arith []
    refine ⟨by rw [sizeLine_eq, List.length_map]; simp at hl; omega, _, _, _, as ++ [d], rfl, by simp, fun a hm => ?_, by simp at hl ⊢; omega⟩
    rcases List.mem_append.1 hm with hm | hm
    · exact ha a hm
    · simp at hm; omega
  · rintro acc ρ ⟨n3, s3, o8, as, rfl, rfl, ha, hl⟩
    simp_arith []
    refine ⟨by omega, ?_⟩
    refine wp_lcL (fun xs acc ρ => ∃ n s o7 o3 ys, ρ = [some ⟨true, bx n s⟩, some ⟨false, .int c⟩, some ⟨false, .int (1 + c1)⟩, some ⟨o3, .list (as.map .int)⟩, none, none, none, o7, none] ∧ acc = ys.map .int ∧ (∀ a ∈ ys, 0 ≤ a ∧ a ≤ 5) ∧ ys.length + xs.length = (1 + c1).toNat) ?_ ?_ _ _ _ ⟨_, _, _, _, [], rfl, rfl, by simp, by simp [rngD]⟩
    · rintro x r acc ρ ⟨n, s, o7, o3, ys, rfl, rfl, hy, hyl⟩
      have go : ∀ (p : D → List D → Prop), (∀ (j : Nat) (hj : j < as.length) n s, p (.int j) [bx n s]) → Fw (fun _ => False) m__law_take [bx n s, .int (as.map PyData.int).length] p := by
        intro p hp
        rw [List.length_map]
        refine take_ok (by simp at hl; omega) (by simp at hl; omega) fun d n' s' hd hd' => ?_
        obtain ⟨j, rfl⟩ : ∃ j : Nat, d = j := ⟨d.toNat, by omega⟩
        exact hp j (by omega) _ _
      have fin : ∀ (j : Nat) (hj : j < as.length) (p : D → Prop), p (.int as[j]) → Wl (L2.atI (as.map PyData.int) (j : Int)) p := by
        intro j hj p hp
        rw [atI_n, List.getElem?_map, List.getElem?_eq_getElem hj]
        exact hp
      cases o3
      all_goals
        simp_arith []
        refine go _ fun j hj n' s' => ?_
        simp_arith []
        refine fin j hj _ ?_
        refine ⟨by rw [sizeLine_eq, List.length_map]; simp at hyl; omega, _, _, _, _, ys ++ [as[j]], rfl, by simp, fun a hm => ?_, by simp at hyl ⊢; omega⟩
        rcases List.mem_append.1 hm with hm | hm
        · exact hy a hm
        · simp at hm
          rw [hm]
          exact ha _ (by simp)
    · rintro acc ρ ⟨n4, s4, o7, o3, ys, rfl, rfl, hy, hyl⟩
      simp_arith []
      refine take_ok (by decide) (by decide) fun c3 n5 s5 hc3 hc3' => ?_
      have far : ∀ (p : D → Prop), (∀ f : Int, 1 ≤ f → f ≤ 99 → p (.int f)) → Wl (L2.atI [PyData.int 5, PyData.int 9, PyData.int 99] c3) p := by
        intro p hp
        have : c3 = 0 ∨ c3 = 1 ∨ c3 = 2 := by omega
        rcases this with rfl | rfl | rfl
        · exact hp 5 (by decide) (by decide)
        · exact hp 9 (by decide) (by decide)
        · exact hp 99 (by decide) (by decide)
      simp_arith []
      refine far _ fun f hf1 hf2 => ?_
      refine ⟨by omega, ?_⟩
      obtain ⟨m, hm⟩ : ∃ m : Nat, (1 + c1 : Int) = m := ⟨(1 + c1).toNat, by omega⟩
      rw [hm] at hyl ⊢
      have hm10 : m ≤ 10 := by omega
      have hys : ys.length = m := by simpa using hyl
      have hs : (m : Int) - 1 = ((m - 1 : Nat) : Int) := by omega
      rw [hs, Int.toNat_natCast]
      refine wp_for (fun xs ρ => ∃ n s o7 kvs, ρ = [some ⟨true, bx n s⟩, some ⟨false, .int c⟩, some ⟨false, .int m⟩, some ⟨o3, .list (as.map .int)⟩, some ⟨false, .tuple (ys.map .int)⟩, some ⟨false, .int f⟩, some ⟨true, dOf tI kvs⟩, o7, none] ∧ ∃ i : Nat, xs = (rngD 1 (m - 1)).drop i ∧ i ≤ m - 1 ∧ DWs m kvs i ∧ Joined (i + 1) (kvs.map (·.1))) ?_ ?_ _ _ ⟨_, _, _, [], rfl, 0, by simp, by omega, ⟨by simp, by simp, by simp⟩, fun k h1 h2 => by omega⟩
      · rintro x r ρ ⟨n, s, o7, kvs, rfl, i, hx, hi, hD, hJ⟩
        obtain ⟨hi2, rfl, hr⟩ := rng_drop hx
        simp_arith
        refine take_ok (by omega) (by omega) fun a n6 s6 ha1 ha2 => ?_
        simp_arith
        refine take_ok (by decide) (by decide) fun l n7 s7 hl1 hl2 => ?_
        simp_arith
        refine take_ok (by omega) (by omega) fun g n8 s8 hg1 hg2 => ?_
        simp_arith
        have hle := hD.le
        refine ⟨by rw [sizeLine_eq]; omega, _, _, _, _, rfl, i + 1, hr, by omega, hD.put ⟨a, 1 + i, l, 1 + g, rfl, by omega, by omega, by omega, by omega, by omega, by omega, by omega⟩, fun k h1 h2 => ?_⟩
        by_cases hk : k = 1 + i
        · exact ⟨_, mem_pK.2 (.inl rfl), a, l, 1 + g, by rw [hk]⟩
        · obtain ⟨x, hx, e⟩ := hJ k h1 (by omega)
          exact ⟨x, mem_pK.2 (.inr hx), e⟩
      · rintro ρ ⟨n6, s6, o7, kvs, rfl, i, hx, hi, hD, hJ⟩
        have hi2 : i = m - 1 := by
          have := congrArg List.length hx
          simp [rngD] at this
          omega
        have hJ2 : Joined m (kvs.map (·.1)) := fun k h1 h2 => hJ k h1 (by omega)
        simp_arith
        refine take_ok (by decide) (by decide) fun c4 n7 s7 hc4 hc4' => ?_
        have two : ∀ (p : D → Prop), (∀ f : Int, 1 ≤ f → f ≤ 16 → p (.int f)) → Wl (L2.atI [PyData.int 3, PyData.int 16] c4) p := by
          intro p hp
          have : c4 = 0 ∨ c4 = 1 := by omega
          rcases this with rfl | rfl
          · exact hp 3 (by decide) (by decide)
          · exact hp 16 (by decide) (by decide)
        simp_arith
        refine two _ fun t ht1 ht2 => ?_
        simp_arith
        refine take_ok (by omega) (by omega) fun c5 n8 s8 hc5 hc5' => ?_
        simp_arith
        obtain ⟨k5, hk5, hk15, hkn⟩ : ∃ k : Nat, (c5 * if (1 : Int) < m then 1 else 0) = k ∧ k ≤ 15 ∧ (k ≠ 0 → 2 ≤ m) := by
          by_cases hz : 1 < m
          · exact ⟨c5.toNat, by rw [if_pos (by omega)]; omega, by omega, fun _ => hz⟩
          · exact ⟨0, by rw [if_neg (by omega)]; omega, by omega, fun z => absurd rfl z⟩
        rw [hk5, Int.toNat_natCast]
        refine ⟨mul_l (by omega) (by omega), by omega, ?_⟩
        refine wp_for (fun xs ρ => ∃ n s o7 o8 kvs, ρ = [some ⟨true, bx n s⟩, some ⟨false, .int c⟩, some ⟨false, .int m⟩, some ⟨o3, .list (as.map .int)⟩, some ⟨false, .tuple (ys.map .int)⟩, some ⟨false, .int f⟩, some ⟨true, dOf tI kvs⟩, o7, o8] ∧ ∃ i : Nat, xs = (rngD 0 k5).drop i ∧ i ≤ k5 ∧ DWs m kvs (m - 1 + i) ∧ Joined m (kvs.map (·.1))) ?_ ?_ _ _ ⟨_, _, _, _, _, rfl, 0, by simp, by omega, ⟨hD.nd, hD.ok, by have := hD.le; omega⟩, hJ2⟩
        · rintro x r ρ ⟨n, s, o7, o8, kvs, rfl, i, hx, hi, hD, hJ⟩
          obtain ⟨hi2, rfl, hr⟩ := rng_drop hx
          have hm2 := hkn (by omega)
          simp_arith
          refine take_ok (by omega) (by omega) fun z n6 s6 hz1 hz2 => ?_
          simp_arith
          refine take_ok (by omega) (by omega) fun a n6 s6 ha1 ha2 => ?_
          simp_arith
          refine take_ok (by decide) (by decide) fun l n7 s7 hl1 hl2 => ?_
          simp_arith
          refine take_ok (by omega) (by omega) fun g n8 s8 hg1 hg2 => ?_
          simp_arith
          have hle := hD.le
          refine ⟨by rw [sizeLine_eq]; omega, _, _, _, _, _, rfl, i + 1, hr, by omega, hD.put ⟨a, 1 + z, l, 1 + g, rfl, by omega, by omega, by omega, by omega, by omega, by omega, by omega⟩, fun k h1 h2 => ?_⟩
          obtain ⟨x, hx, e⟩ := hJ k h1 (by omega)
          exact ⟨x, mem_pK.2 (.inr hx), e⟩
        · rintro ρ ⟨n9, s9, o7, o8, kvs, rfl, i, hx, hi, hD, hJ⟩
          have hle := hD.le
          obtain ⟨q1, q2, q3, q4⟩ := hD.net hJ
          have hsd : ∀ (p : D → Prop), p (.list ((srt (kvs.map (·.1))).map tI)) → Wl (dSorted (dOf tI kvs)) p := fun p hp => by
            rw [wl_sortD (fun x hx => ?_) (by omega)]
            · exact hp
            · obtain ⟨a, b, l, f, e, _⟩ := hD.ok x hx
              rw [e]
              simp
          simp_arith
          refine hsd _ ?_
          simp_arith
          refine h ys _ _ _ ⟨by omega, by omega, hy, by omega, by rw [hys]; exact q2, q3, by rw [hys]; exact q4⟩ (by omega)

end Cv
end
section
namespace Cv
open PySem L2
local macro_rules
  | `(tactic| simp_arith) => `(tactic| try simp only [fw_run, wp_ret, wp_bnd, wp_no, wp_lft, wl_some, wl_none, wl_if, wo_some, wp_var, wp_get, wp_getO, wp_putO, wp_setSh, wp_setOw, wp_op, wp_opN, wp_T, wp_chain, wp_and, wp_or, wp_not, wp_notT, wp_andT, wp_orT, wp_if, wp_nil, wp_cons, wp_tup, wp_lst, wp_c1, wp_cN, wp_seq, wp_drop, wp_rt, wp_rtN, wp_set, wp_setO, wp_asg, wp_gtup, wp_gcons, wp_gnil, wp_par, wp_parE, wp_put, wp_for0, wp_itL, wp_itT, wp_itK, wp_rng1, wp_rng2, wp_zip, wp_zipT, wp_call, wp_callF, wp_kind, hid_nil, hid_cons, hidO_sh, hidO_ow, hidO_none, wp_here, wp_callQ, wp_raise, wp_lc0, vRetNone, vYes, vDict0, wl_add, wl_addT, wl_addL, wl_sub, wl_mul, wl_mulL, wl_mod, wl_fdiv, wl_divmod, wl_lt, wl_gt, wl_le, wl_ge, wl_eq, wl_ne, wl_lenL, wl_lenT, wl_lenD, wl_ixL, wl_ixT, wl_setL, wl_abs, wl_max2, wl_min2, wl_intB, wl_tupL, ent, entL, outsOf, noOwn, wipeE, backE, isC_list, isC_dict, isC_tup, isC_int, isC_bool, isC_str, isC_none, isC_tI, isC_dOf, wl_setI, wl_ixI, wl_inI, wl_niI, wp_is, wp_mw, wp_neg, wp_sl, wp_part, wp_noPart, wr_append, wr_extend, ty_list, wl_neg, wl_sl1T, wl_sl1L, wl_all, wl_any, isInt_int, isBool_int, isTuple_tup, isTuple_tI, wl_lenI, wl_ixtI, wl_inL, wl_niL, wl_inT, wl_inT2, wl_ltT, wl_lt2, Option.map_some, Bool.not_not, wl_set4, wl_set2, wl_ix2, wl_ni2, List.all_cons, List.all_nil, List.length_cons, List.length_nil, Nat.reduceAdd, Nat.reduceSub, Nat.reduceLeDiff, List.contains_cons, List.contains_nil, List.replicate, List.cons_append, List.nil_append, List.append_nil, if_true, if_false, ↓reduceIte, true_and, and_true, true_implies, false_implies, implies_true, reduceCtorEq, List.getElem?_cons_zero, List.getElem?_cons_succ, List.getElem?_nil, List.set_cons_zero, List.set_cons_succ, Option.join_some, Option.join_none, Option.isSome_some, atI_0, atI_1, atI_2, atI_3, atI_4, ixN_0, ixN_1, List.take_zero, List.drop_zero, List.take_succ_cons, List.drop_succ_cons, Bool.or_false, Bool.or_true, Bool.true_or, Bool.false_or, Bool.and_true, Bool.and_false, Bool.true_and, Bool.false_and, Bool.not_true, Bool.not_false, Bool.false_eq_true, Bool.not_eq_true', Bool.not_eq_false', Bool.not_eq_eq_eq_not, decide_eq_true_eq, decide_eq_false_iff_not, decide_true, decide_false, Nat.reduceBEq, beq_self_eq_true, Int.reduceLT, Int.reduceLE, Int.reduceNeg, Int.reducePow, Int.reduceToNat, Int.not_lt])
local macro_rules
  | `(tactic| simp_arith [$xs,*] $[$l]?) => `(tactic| simp only [fw_run, wp_ret, wp_bnd, wp_no, wp_lft, wl_some, wl_none, wl_if, wo_some, wp_var, wp_get, wp_getO, wp_putO, wp_setSh, wp_setOw, wp_op, wp_opN, wp_T, wp_chain, wp_and, wp_or, wp_not, wp_notT, wp_andT, wp_orT, wp_if, wp_nil, wp_cons, wp_tup, wp_lst, wp_c1, wp_cN, wp_seq, wp_drop, wp_rt, wp_rtN, wp_set, wp_setO, wp_asg, wp_gtup, wp_gcons, wp_gnil, wp_par, wp_parE, wp_put, wp_for0, wp_itL, wp_itT, wp_itK, wp_rng1, wp_rng2, wp_zip, wp_zipT, wp_call, wp_callF, wp_kind, hid_nil, hid_cons, hidO_sh, hidO_ow, hidO_none, wp_here, wp_callQ, wp_raise, wp_lc0, vRetNone, vYes, vDict0, wl_add, wl_addT, wl_addL, wl_sub, wl_mul, wl_mulL, wl_mod, wl_fdiv, wl_divmod, wl_lt, wl_gt, wl_le, wl_ge, wl_eq, wl_ne, wl_lenL, wl_lenT, wl_lenD, wl_ixL, wl_ixT, wl_setL, wl_abs, wl_max2, wl_min2, wl_intB, wl_tupL, ent, entL, outsOf, noOwn, wipeE, backE, isC_list, isC_dict, isC_tup, isC_int, isC_bool, isC_str, isC_none, isC_tI, isC_dOf, wl_setI, wl_ixI, wl_inI, wl_niI, wp_is, wp_mw, wp_neg, wp_sl, wp_part, wp_noPart, wr_append, wr_extend, ty_list, wl_neg, wl_sl1T, wl_sl1L, wl_all, wl_any, isInt_int, isBool_int, isTuple_tup, isTuple_tI, wl_lenI, wl_ixtI, wl_inL, wl_niL, wl_inT, wl_inT2, wl_ltT, wl_lt2, Option.map_some, Bool.not_not, wl_set4, wl_set2, wl_ix2, wl_ni2, List.all_cons, List.all_nil, List.length_cons, List.length_nil, Nat.reduceAdd, Nat.reduceSub, Nat.reduceLeDiff, List.contains_cons, List.contains_nil, List.replicate, List.cons_append, List.nil_append, List.append_nil, if_true, if_false, ↓reduceIte, true_and, and_true, true_implies, false_implies, implies_true, reduceCtorEq, List.getElem?_cons_zero, List.getElem?_cons_succ, List.getElem?_nil, List.set_cons_zero, List.set_cons_succ, Option.join_some, Option.join_none, Option.isSome_some, atI_0, atI_1, atI_2, atI_3, atI_4, ixN_0, ixN_1, List.take_zero, List.drop_zero, List.take_succ_cons, List.drop_succ_cons, Bool.or_false, Bool.or_true, Bool.true_or, Bool.false_or, Bool.and_true, Bool.and_false, Bool.true_and, Bool.false_and, Bool.not_true, Bool.not_false, Bool.false_eq_true, Bool.not_eq_true', Bool.not_eq_false', Bool.not_eq_eq_eq_not, decide_eq_true_eq, decide_eq_false_iff_not, decide_true, decide_false, Nat.reduceBEq, beq_self_eq_true, Int.reduceLT, Int.reduceLE, Int.reduceNeg, Int.reducePow, Int.reduceToNat, Int.not_lt, $xs,*] $[$l]?)
/-! nets known -/
theorem whole_ok {E : Ex → Prop} {i lo hi : Int} {q : D → List D → Prop} (h : q (.bool (decide (lo ≤ i ∧ i ≤ hi))) []) : Fw E m_is_whole [.int i, .int lo, .int hi] q := by
  unfold m_is_whole b_is_whole
  simp_arith
  refine ⟨fun h1 => ?_, fun h1 => ?_⟩
  · have : (!decide (hi < i)) = decide (lo ≤ i ∧ i ≤ hi) := by
      rw [Bool.eq_iff_iff]
      simp
      omega
    rw [this]
    exact h
  · have : decide (lo ≤ i ∧ i ≤ hi) = false := by
      simp
      omega
    rw [← this]
    exact h
theorem way_ok {E : Ex → Prop} {n : Nat} {x : List Int} {q : D → List D → Prop} (hx : WayOk n x) (h : q (.bool true) []) : Fw E m_is_way [tI x, .int n] q := by
  obtain ⟨a, b, l, f, rfl, h1, h2, h3, h4, h5, h6, h7⟩ := hx
  have w : ∀ (i lo hi : Int) (q : D → List D → Prop), lo ≤ i → i ≤ hi → q (.bool true) [] → Fw E m_is_whole [.int i, .int lo, .int hi] q := fun i lo hi q ha hb hq => whole_ok (by rw [decide_eq_true (⟨ha, hb⟩ : lo ≤ i ∧ i ≤ hi)]; exact hq)
  unfold m_is_way b_is_way
  simp_arith
  refine ⟨fun z => absurd rfl z, fun _ => w _ _ _ _ (by omega) (by omega) ⟨fun z => absurd z (by decide), fun _ => w _ _ _ _ (by omega) (by omega) ⟨fun z => absurd z (by decide), fun _ => w _ _ _ _ (by omega) (by omega) ⟨fun z => absurd z (by decide), fun _ => w _ _ _ _ (by omega) (by omega) h⟩⟩⟩⟩
theorem lexes_rise : ∀ ws : List (List Int), risesB ws = true → ∀ d ∈ zipD (ws.map tI) (ws.map tI).tail, ∃ x y, d = .tuple [tI x, tI y] ∧ HT.lexLt x y = true
  | [], _, d, hd => by simp [zipD] at hd
  | [_], _, d, hd => by simp [zipD] at hd
  | x :: y :: r, h, d, hd => by
    rw [risesB, Bool.and_eq_true] at h
    simp only [zipD, List.map_cons, List.tail_cons, List.zipWith_cons_cons, List.mem_cons] at hd
    rcases hd with rfl | hd
    · exact ⟨x, y, rfl, h.1⟩
    · exact lexes_rise (y :: r) h.2 d (by simpa [zipD] using hd)
theorem rising_ok {E : Ex → Prop} {ws : List (List Int)} {q : D → List D → Prop} (hl : ws.length ≤ 1000) (hr : risesB ws = true) (h : q (.bool true) []) : Fw E m_is_rising [.tuple (ws.map tI)] q := by
  unfold m_is_rising b_is_rising
  simp_arith
  refine wp_lcL (fun xs acc ρ => (∃ o1 o2, ρ = [some ⟨false, .tuple (ws.map tI)⟩, o1, o2]) ∧ (∀ d ∈ xs, ∃ x y, d = .tuple [tI x, tI y] ∧ HT.lexLt x y = true) ∧ acc.length + xs.length ≤ 1000 ∧ ∃ bs : List Bool, acc = bs.map .bool ∧ bs.all id = true) ?_ ?_ _ _ _ ⟨⟨_, _, rfl⟩, lexes_rise ws hr, by simp [zipD]; omega, [], rfl, rfl⟩
  · rintro x r acc ρ ⟨⟨o1, o2, rfl⟩, hx, hl, bs, rfl, hb⟩
    obtain ⟨u, v, rfl, huv⟩ := hx x (by simp)
    simp_arith
    refine ⟨by rw [sizeLine_eq]; simp at hl ⊢; omega, ⟨_, _, rfl⟩, fun d hd => hx d (by simp [hd]), by simp at hl ⊢; omega, bs ++ [true], by simp [huv], by simp [hb]⟩
  · rintro acc ρ ⟨⟨o1, o2, rfl⟩, _, _, bs, rfl, hb⟩
    simp_arith
    rw [hb]
    exact h
/-- of the ways ws those that touch the yard y have both ends found -/
def SeenW (ws : List (List Int)) (y : Int) (fs : List Int) : Prop := ∀ a b l f : Int, [a, b, l, f] ∈ ws → y = a ∨ y = b → a ∈ fs ∧ b ∈ fs
theorem joined_ok {E : Ex → Prop} {n : Nat} {ws : List (List Int)} {q : D → List D → Prop} (hn : 1 ≤ n) (hn2 : n ≤ 10) (hw : ∀ x ∈ ws, WayOk n x) (hj : Joined n ws) (h : q (.bool true) []) : Fw E m_are_joined [.int n, .tuple (ws.map tI)] q := by
  unfold m_are_joined b_are_joined
  simp_arith
  refine wp_while (fun m ρ => ∃ (fs : List Int) (sp : Nat) (o4 o5 o6 o7 : Option Sl), ρ = [some ⟨false, .int n⟩, some ⟨false, .tuple (ws.map tI)⟩, some ⟨true, .list (fs.map .int)⟩, some ⟨false, .int sp⟩, o4, o5, o6, o7, none] ∧ m = n - sp ∧ Fnd n fs ∧ (0 : Int) ∈ fs ∧ sp ≤ fs.length ∧
      (∀ i, i < sp → ∀ y, fs[i]? = some y → SeenW ws y fs)) ?_ n ⟨[0], 0, none, none, none, none, rfl, by omega, ⟨by simp, by simp; omega⟩, by simp, by simp, fun i hi => by omega⟩ (by omega)
  rintro m ρ ⟨fs, sp, o4, o5, o6, o7, rfl, rfl, hF, h0, hsp, hseen⟩
  simp_arith
  refine ⟨fun hge => ?_, fun hlt => ?_⟩
  · rw [List.length_map] at hge ⊢
    have hsl : sp = fs.length := by omega
    have hall : fs.length = n := all_found hn hw hj hF h0 fun x hx a b l f e hab => by
      rw [e] at hx
      rcases hab with hab | hab
      · obtain ⟨i, hi, ei⟩ := List.getElem_of_mem hab
        exact hseen i (by omega) a (by rw [← ei]; simp [hi]) a b l f hx (.inl rfl)
      · obtain ⟨i, hi, ei⟩ := List.getElem_of_mem hab
        exact hseen i (by omega) b (by rw [← ei]; simp [hi]) a b l f hx (.inr rfl)
    have : decide ((fs.length : Int) = n) = true := by simp [hall]
    rw [this]
    exact h
  · rw [List.length_map] at hlt
    have hlt2 : sp < fs.length := by omega
    obtain ⟨y, hy⟩ : ∃ y, fs[sp]? = some y := ⟨fs[sp], by simp [hlt2]⟩
    refine wp_for (fun xs ρ => ∃ (fs' : List Int) (us vs : List (List Int)) (o4 o5 o6 o7 : Option Sl), ρ = [some ⟨false, .int n⟩, some ⟨false, .tuple (ws.map tI)⟩, some ⟨true, .list (fs'.map .int)⟩, some ⟨false, .int sp⟩, o4, o5, o6, o7, none] ∧ xs = vs.map tI ∧ ws = us ++ vs ∧ Fnd n fs' ∧ fs <+: fs' ∧ SeenW us y fs') ?_ ?_ _ _ ⟨fs, [], ws, _, _, _, _, rfl, rfl, rfl, hF, List.prefix_refl _, fun a b l f hm => by cases hm⟩
    · rintro x r ρ ⟨fs', us, vs, u4, u5, u6, u7, rfl, hx, hu, hF', hpre, hs'⟩
      obtain ⟨v, vs', rfl⟩ : ∃ v vs', vs = v :: vs' := by
        cases vs with
        | nil => cases hx
        | cons v vs' => exact ⟨v, vs', rfl⟩
      injection hx with hx1 hx2
      subst hx1
      subst hx2
      obtain ⟨a, b, ln, f, rfl, k1, k2, k3, k4, k5, k6, k7⟩ := hw v (by rw [hu]; simp)
      have hy' : fs'[sp]? = some y := by
        obtain ⟨r, rfl⟩ := hpre
        rw [List.getElem?_append_left hlt2]
        exact hy
      have hat : L2.atI (fs'.map PyData.int) (sp : Int) = some (.int y) := by
        rw [atI_n]
        simp [hy']
      have ht : tI [a, b, ln, f] = .tuple [.int a, .int b, .int ln, .int f] := rfl
      rw [ht]
      simp_arith [hat]
      have hnext : ∀ fs2, (∀ z ∈ fs', z ∈ fs2) → (y = a ∨ y = b → a ∈ fs2 ∧ b ∈ fs2) → SeenW (us ++ [[a, b, ln, f]]) y fs2 := by
        intro fs2 hsub hab a' b' l' f' hm ht'
        rcases List.mem_append.1 hm with hm | hm
        · obtain ⟨z1, z2⟩ := hs' a' b' l' f' hm ht'
          exact ⟨hsub _ z1, hsub _ z2⟩
        · simp at hm
          obtain ⟨rfl, rfl, rfl, rfl⟩ := hm
          exact hab ht'
      refine ⟨fun hyab => ?_, fun hyab => ⟨fs', us ++ [[a, b, ln, f]], vs', _, _, _, _, rfl, rfl, by simp [hu], hF', hpre, hnext _ (fun z hz => hz) fun z => absurd z hyab⟩⟩
      refine wp_lcL (fun xs acc ρ => ∃ (us vs : List Int) (o8 : Option Sl), ρ = [some ⟨false, .int n⟩, some ⟨false, .tuple (ws.map tI)⟩, some ⟨true, .list (fs'.map .int)⟩, some ⟨false, .int sp⟩, some ⟨false, .int a⟩, some ⟨false, .int b⟩, some ⟨false, .int ln⟩, some ⟨false, .int f⟩, o8] ∧ xs = vs.map .int ∧ [a, b] = us ++ vs ∧ acc = (us.filter fun y => !decide (y ∈ fs')).map .int) ?_ ?_ _ _ _ ⟨[], [a, b], none, rfl, rfl, rfl, rfl⟩
      · rintro x r acc ρ ⟨us, vs, o8, rfl, hx, hab2, rfl⟩
        obtain ⟨v, vs', rfl⟩ : ∃ v vs', vs = v :: vs' := by
          cases vs with
          | nil => cases hx
          | cons v vs' => exact ⟨v, vs', rfl⟩
        injection hx with hx1 hx2
        subst hx1
        subst hx2
        simp_arith
        refine ⟨fun hin => ⟨us ++ [v], vs', _, rfl, rfl, by simp [hab2], by simp [hin]⟩, fun hnin => ⟨?_, us ++ [v], vs', _, rfl, rfl, by simp [hab2], by simp [hnin]⟩⟩
        rw [sizeLine_eq, List.length_map]
        have h1 := List.length_filter_le (fun y => !decide (y ∈ fs')) us
        have h2 := congrArg List.length hab2
        simp at h2
        omega
      · rintro acc ρ ⟨us2, vs2, o8, rfl, hx, hab2, rfl⟩
        have hv2 : vs2 = [] := by
          cases vs2 with
          | nil => rfl
          | cons _ _ => cases hx
        subst hv2
        rw [List.append_nil] at hab2
        subst hab2
        have hFe := hF'.ext (show a ≠ b by omega) ⟨k1, by omega⟩ ⟨by omega, k3⟩
        have hle := hFe.len
        simp_arith
        rw [← List.length_append, ← List.map_append]
        exact ⟨by rw [List.length_map, sizeLine_eq]; exact Nat.le_trans hle (by omega), ext fs' a b, us ++ [[a, b, ln, f]], vs', _, _, _, _, rfl, rfl, by simp [hu], hFe, List.IsPrefix.trans hpre (List.prefix_append _ _), hnext _ (fun z hz => List.mem_append.2 (.inl hz)) fun _ => ext_has⟩
    · rintro ρ ⟨fs', us, vs, u4, u5, u6, u7, rfl, hx, hu, hF', hpre, hs'⟩
      have hv2 : vs = [] := by
        cases vs with
        | nil => rfl
        | cons _ _ => cases hx
      subst hv2
      rw [List.append_nil] at hu
      subst hu
      have hle := hpre.length_le
      have hle2 := hF'.len
      simp_arith
      refine ⟨n - (sp + 1), by omega, fs', sp + 1, _, _, _, _, rfl, rfl, hF', hpre.subset h0, by omega, fun i hi z hz => ?_⟩
      obtain ⟨r, rfl⟩ := hpre
      by_cases his : i < sp
      · rw [List.getElem?_append_left (by omega)] at hz
        have hh := hseen i his z hz
        exact fun a b l f e ht => let ⟨z1, z2⟩ := hh a b l f e ht; ⟨List.mem_append.mpr (.inl z1), List.mem_append.mpr (.inl z2)⟩
      · have : i = sp := by omega
        subst this
        rw [List.getElem?_append_left (by omega), hy] at hz
        cases hz
        exact hs'
theorem all_lc {E : Ex → Prop} {α : Type} {vs : List Nat} {g : D → M Unit} {f : M D} {qs : List D → Ev → Prop} {key : α → D} (xs : List α) (ok : Ev → Prop) (ρ : Ev) (h0 : ok ρ) (hl : xs.length ≤ 1000) (step : ∀ x ∈ xs, ∀ ρ, ok ρ → ∀ q : D → Ev → Prop, (∀ ρ', ok ρ' → q (.bool true) ρ') → Wp E (g (key x)) (wipeE ρ vs) fun _ ρ1 => Wp E f ρ1 q)
    (post : ∀ (bs : List Bool) ρ', ok ρ' → bs.all id = true → qs (bs.map .bool) ρ') : Wp E (lcL vs g (ret true) f (xs.map key) []) ρ qs := by
  refine wp_lcL (fun ys acc ρ => ok ρ ∧ ∃ (us vs : List α) (bs : List Bool), ys = vs.map key ∧ xs = us ++ vs ∧ acc = bs.map .bool ∧ bs.all id = true ∧ bs.length = us.length) ?_ ?_ _ _ _ ⟨h0, [], xs, [], rfl, rfl, rfl, rfl, rfl⟩
  · rintro x r acc ρ ⟨ho, us, vs, bs, hx, hu, rfl, hb, hbl⟩
    obtain ⟨v, vs', rfl⟩ : ∃ v vs', vs = v :: vs' := by
      cases vs with
      | nil => cases hx
      | cons v vs' => exact ⟨v, vs', rfl⟩
    injection hx with hx1 hx2
    subst hx1
    subst hx2
    refine (step v (by rw [hu]; simp) ρ ho _ ?_).mono fun _ ρ1 h1 => by rw [wp_ret]; exact ⟨fun z => absurd z (by decide), fun _ => h1⟩
    intro ρ' ho'
    have := congrArg List.length hu
    simp at this
    exact ⟨by rw [sizeLine_eq, List.length_map]; omega, ho', us ++ [v], vs', bs ++ [true], rfl, by simp [hu], by simp, by simp [hb], by simp [hbl]⟩
  · rintro acc ρ ⟨ho, us, vs, bs, hx, hu, rfl, hb, hbl⟩
    exact post bs ρ ho hb
theorem net_known {E : Ex → Prop} {ys : List Int} {ws : List (List Int)} {q : D → List D → Prop} (N : NetOk ys ws) (h : q (.bool true) []) : Fw E m_is_net [netD ys ws] q := by
  have hn : netD ys ws = .tuple [.tuple (ys.map .int), .tuple (ws.map tI)] := rfl
  have l1 := N.one
  have l2 := N.ten
  have l3 := N.few
  rw [hn]
  unfold m_is_net b_is_net
  simp_arith
  refine ⟨fun z => absurd rfl z, fun _ => ⟨fun _ => ⟨fun z => ?_, fun _ => ?_⟩, fun z => ?_⟩⟩
  · simp at z; omega
  · refine all_lc (key := PyData.int) ys (fun ρ => ∃ o3, ρ = [some ⟨false, .tuple [.tuple (ys.map .int), .tuple (ws.map tI)]⟩, some ⟨false, .tuple (ys.map .int)⟩, some ⟨false, .tuple (ws.map tI)⟩, o3, none]) _ ⟨_, rfl⟩ (by omega) ?_ ?_
    · rintro y hy ρ ⟨o3, rfl⟩ q' hq
      simp_arith
      exact whole_ok (by rw [decide_eq_true (N.yd y hy)]; exact hq _ ⟨_, rfl⟩)
    · rintro bs ρ ⟨o3, rfl⟩ hb
      simp_arith [hb]
      rw [List.length_map]
      refine ⟨fun z => ?_, fun _ => ?_⟩
      · omega
      · refine all_lc (key := tI) ws (fun ρ => ∃ o4, ρ = [some ⟨false, .tuple [.tuple (ys.map .int), .tuple (ws.map tI)]⟩, some ⟨false, .tuple (ys.map .int)⟩, some ⟨false, .tuple (ws.map tI)⟩, none, o4]) _ ⟨_, rfl⟩ (by omega) ?_ ?_
        · rintro y hy ρ ⟨o4, rfl⟩ q' hq
          simp_arith [List.length_map]
          exact way_ok (N.way y hy) (hq _ ⟨_, rfl⟩)
        · rintro bs ρ ⟨o3, rfl⟩ hb
          simp_arith [hb, List.length_map]
          refine rising_ok (by omega) N.ris ?_
          simp_arith
          exact joined_ok l1 l2 N.way N.jo h
  · simp at z; omega
theorem need_net_ok {E : Ex → Prop} {ys : List Int} {ws : List (List Int)} {q : D → List D → Prop} (N : NetOk ys ws) (h : q .none []) : Fw E m_need_net [netD ys ws] q := by
  unfold m_need_net b_need_net
  simp_arith
  refine net_known N ?_
  simp_arith
  exact h
theorem need_yard_ok {E : Ex → Prop} {ys : List Int} {ws : List (List Int)} {y : Int} {q : D → List D → Prop} (h1 : 0 ≤ y) (h2 : y < ys.length) (h : q .none []) : Fw E m_need_yard [netD ys ws, .int y] q := by
  unfold m_need_yard b_need_yard netD
  simp_arith
  refine whole_ok ?_
  rw [decide_eq_true (show 0 ≤ y ∧ y ≤ (ys.length : Int) - 1 from ⟨h1, by omega⟩)]
  simp_arith
  exact h

end Cv
end
section
namespace Cv
open PySem L2
local macro_rules
  | `(tactic| simp_arith) => `(tactic| try simp only [fw_run, wp_ret, wp_bnd, wp_no, wp_lft, wl_some, wl_none, wl_if, wo_some, wp_var, wp_get, wp_getO, wp_putO, wp_setSh, wp_setOw, wp_op, wp_opN, wp_T, wp_chain, wp_and, wp_or, wp_not, wp_notT, wp_andT, wp_orT, wp_if, wp_nil, wp_cons, wp_tup, wp_lst, wp_c1, wp_cN, wp_seq, wp_drop, wp_rt, wp_rtN, wp_set, wp_setO, wp_asg, wp_gtup, wp_gcons, wp_gnil, wp_par, wp_parE, wp_put, wp_for0, wp_itL, wp_itT, wp_itK, wp_rng1, wp_rng2, wp_zip, wp_zipT, wp_call, wp_callF, wp_kind, hid_nil, hid_cons, hidO_sh, hidO_ow, hidO_none, wp_here, wp_callQ, wp_raise, wp_lc0, vRetNone, vYes, vDict0, wl_add, wl_addT, wl_addL, wl_sub, wl_mul, wl_mulL, wl_mod, wl_fdiv, wl_divmod, wl_lt, wl_gt, wl_le, wl_ge, wl_eq, wl_ne, wl_lenL, wl_lenT, wl_lenD, wl_ixL, wl_ixT, wl_setL, wl_abs, wl_max2, wl_min2, wl_intB, wl_tupL, ent, entL, outsOf, noOwn, wipeE, backE, isC_list, isC_dict, isC_tup, isC_int, isC_bool, isC_str, isC_none, isC_tI, isC_dOf, wl_setI, wl_ixI, wl_inI, wl_niI, wp_is, wp_mw, wp_neg, wp_sl, wp_part, wp_noPart, wr_append, wr_extend, ty_list, wl_neg, wl_sl1T, wl_sl1L, wl_all, wl_any, isInt_int, isBool_int, isTuple_tup, isTuple_tI, wl_lenI, wl_ixtI, wl_inL, wl_niL, wl_inT, wl_inT2, wl_ltT, wl_lt2, Option.map_some, Bool.not_not, wl_set4, wl_set2, wl_ix2, wl_ni2, List.all_cons, List.all_nil, List.length_cons, List.length_nil, Nat.reduceAdd, Nat.reduceSub, Nat.reduceLeDiff, List.contains_cons, List.contains_nil, List.replicate, List.cons_append, List.nil_append, List.append_nil, if_true, if_false, ↓reduceIte, true_and, and_true, true_implies, false_implies, implies_true, reduceCtorEq, List.getElem?_cons_zero, List.getElem?_cons_succ, List.getElem?_nil, List.set_cons_zero, List.set_cons_succ, Option.join_some, Option.join_none, Option.isSome_some, atI_0, atI_1, atI_2, atI_3, atI_4, ixN_0, ixN_1, List.take_zero, List.drop_zero, List.take_succ_cons, List.drop_succ_cons, Bool.or_false, Bool.or_true, Bool.true_or, Bool.false_or, Bool.and_true, Bool.and_false, Bool.true_and, Bool.false_and, Bool.not_true, Bool.not_false, Bool.false_eq_true, Bool.not_eq_true', Bool.not_eq_false', Bool.not_eq_eq_eq_not, decide_eq_true_eq, decide_eq_false_iff_not, decide_true, decide_false, Nat.reduceBEq, beq_self_eq_true, Int.reduceLT, Int.reduceLE, Int.reduceNeg, Int.reducePow, Int.reduceToNat, Int.not_lt])
local macro_rules
  | `(tactic| simp_arith [$xs,*] $[$l]?) => `(tactic| simp only [fw_run, wp_ret, wp_bnd, wp_no, wp_lft, wl_some, wl_none, wl_if, wo_some, wp_var, wp_get, wp_getO, wp_putO, wp_setSh, wp_setOw, wp_op, wp_opN, wp_T, wp_chain, wp_and, wp_or, wp_not, wp_notT, wp_andT, wp_orT, wp_if, wp_nil, wp_cons, wp_tup, wp_lst, wp_c1, wp_cN, wp_seq, wp_drop, wp_rt, wp_rtN, wp_set, wp_setO, wp_asg, wp_gtup, wp_gcons, wp_gnil, wp_par, wp_parE, wp_put, wp_for0, wp_itL, wp_itT, wp_itK, wp_rng1, wp_rng2, wp_zip, wp_zipT, wp_call, wp_callF, wp_kind, hid_nil, hid_cons, hidO_sh, hidO_ow, hidO_none, wp_here, wp_callQ, wp_raise, wp_lc0, vRetNone, vYes, vDict0, wl_add, wl_addT, wl_addL, wl_sub, wl_mul, wl_mulL, wl_mod, wl_fdiv, wl_divmod, wl_lt, wl_gt, wl_le, wl_ge, wl_eq, wl_ne, wl_lenL, wl_lenT, wl_lenD, wl_ixL, wl_ixT, wl_setL, wl_abs, wl_max2, wl_min2, wl_intB, wl_tupL, ent, entL, outsOf, noOwn, wipeE, backE, isC_list, isC_dict, isC_tup, isC_int, isC_bool, isC_str, isC_none, isC_tI, isC_dOf, wl_setI, wl_ixI, wl_inI, wl_niI, wp_is, wp_mw, wp_neg, wp_sl, wp_part, wp_noPart, wr_append, wr_extend, ty_list, wl_neg, wl_sl1T, wl_sl1L, wl_all, wl_any, isInt_int, isBool_int, isTuple_tup, isTuple_tI, wl_lenI, wl_ixtI, wl_inL, wl_niL, wl_inT, wl_inT2, wl_ltT, wl_lt2, Option.map_some, Bool.not_not, wl_set4, wl_set2, wl_ix2, wl_ni2, List.all_cons, List.all_nil, List.length_cons, List.length_nil, Nat.reduceAdd, Nat.reduceSub, Nat.reduceLeDiff, List.contains_cons, List.contains_nil, List.replicate, List.cons_append, List.nil_append, List.append_nil, if_true, if_false, ↓reduceIte, true_and, and_true, true_implies, false_implies, implies_true, reduceCtorEq, List.getElem?_cons_zero, List.getElem?_cons_succ, List.getElem?_nil, List.set_cons_zero, List.set_cons_succ, Option.join_some, Option.join_none, Option.isSome_some, atI_0, atI_1, atI_2, atI_3, atI_4, ixN_0, ixN_1, List.take_zero, List.drop_zero, List.take_succ_cons, List.drop_succ_cons, Bool.or_false, Bool.or_true, Bool.true_or, Bool.false_or, Bool.and_true, Bool.and_false, Bool.true_and, Bool.false_and, Bool.not_true, Bool.not_false, Bool.false_eq_true, Bool.not_eq_true', Bool.not_eq_false', Bool.not_eq_eq_eq_not, decide_eq_true_eq, decide_eq_false_iff_not, decide_true, decide_false, Nat.reduceBEq, beq_self_eq_true, Int.reduceLT, Int.reduceLE, Int.reduceNeg, Int.reducePow, Int.reduceToNat, Int.not_lt, $xs,*] $[$l]?)
/-! links -/
structure LinkD (kvs : List (List Int × D)) (G : Lnk) : Prop where
  key : ∀ p ∈ kvs, ∃ a b f l : Int, p = ([a, b], .tuple [.int f, .int l])
  val : ∀ a b, gK kvs [a, b] = (G a b).map fun x => .tuple [.int x.1, .int x.2]
theorem mem_pKv {κ : Type} [DecidableEq κ] {kvs : List (κ × D)} {a : κ} {v : D} {p : κ × D} (h : p ∈ pK kvs a v) : p = (a, v) ∨ p ∈ kvs := by
  unfold pK at h
  split at h
  · obtain ⟨q, hq, e⟩ := List.mem_map.1 h
    split at e
    · rename_i hc
      rw [← e, hc]
      exact .inl rfl
    · rw [← e]
      exact .inr hq
  · rcases List.mem_append.1 h with h | h
    · exact .inr h
    · simp at h
      exact .inl h
theorem len_pK {κ : Type} [DecidableEq κ] (kvs : List (κ × D)) (a : κ) (v : D) : (pK kvs a v).length ≤ kvs.length + 1 := by
  unfold pK
  split <;> simp
theorem LinkD.put {kvs : List (List Int × D)} {G : Lnk} (h : LinkD kvs G) (a b f l : Int) : LinkD (pK kvs [a, b] (.tuple [.int f, .int l])) (putG G a b (f, l)) := by
  refine ⟨fun p hp => ?_, fun a' b' => ?_⟩
  · rcases mem_pKv hp with rfl | hp
    · exact ⟨a, b, f, l, rfl⟩
    · exact h.key p hp
  · rw [gK_pK]
    unfold putG
    by_cases e : a' = a ∧ b' = b
    · rw [if_pos e, if_pos (by rw [e.1, e.2])]
      rfl
    · rw [if_neg e, if_neg (fun z => by injection z with z1 z2; injection z2 with z2; exact e ⟨z1.symm, z2.symm⟩)]
      exact h.val a' b'
theorem links_ok {E : Ex → Prop} {ys : List Int} {ws : List (List Int)} {q : D → List D → Prop} (hl : ws.length ≤ 24) (hw : ∀ x ∈ ws, WayOk ys.length x) (h : ∀ kvs G, LinkD kvs G → LinkS (dirs ws) G → kvs.length ≤ 48 → q (dOf tI kvs) []) : Fw E m_links [netD ys ws] q := by
  have body : ∀ (t : D) (a0 b0 l f a b : Int) (kvs : List (List Int × D)) (G : Lnk) (S : List (Int × Int × Int × Int)) (qf : Fl → Ev → Prop), LinkD kvs G → LinkS S G → kvs.length ≤ 100 → (∀ kvs' G', LinkD kvs' G' → LinkS (S ++ [(a, b, f, l)]) G' → kvs'.length ≤ kvs.length + 1 → qf .nx [some ⟨false, t⟩, some ⟨true, dOf tI kvs'⟩, some ⟨false, .int a0⟩, some ⟨false, .int b0⟩, some ⟨false, .int l⟩, some ⟨false, .int f⟩, some ⟨false, .tuple [.int a, .int b]⟩]) →
      Wp E ((vIf (vOrT (vT (vOp dNotIn (vVar 6) (vGet 1))) (vT (vOp dLt (vTup (vCons (vVar 5) (vCons (vVar 4) vNil))) (vOpN dIx 1 (vVar 6)))))
      (vPut 1 (vVar 6) (vTup (vCons (vVar 5) (vCons (vVar 4) vNil))))
      (ret .nx))) [some ⟨false, t⟩, some ⟨true, dOf tI kvs⟩, some ⟨false, .int a0⟩, some ⟨false, .int b0⟩, some ⟨false, .int l⟩, some ⟨false, .int f⟩, some ⟨false, .tuple [.int a, .int b]⟩] qf := by
    intro t a0 b0 l f a b kvs G S qf hL hS hk hq
    have hz : kvs.length < sizeLine := by rw [sizeLine_eq]; omega
    simp_arith [hL.val]
    cases hg : G a b with
    | none =>
      simp_arith [Option.map_none, Option.isSome_none]
      exact ⟨hz, hq _ _ (hL.put a b f l) (hS.put fun g k e => by rw [hg] at e; cases e) (len_pK _ _ _)⟩
    | some gk =>
      rcases gk with ⟨g, k⟩
      simp_arith []
      refine ⟨fun hlt => ⟨hz, hq _ _ (hL.put a b f l) (hS.put fun g' k' e => ?_) (len_pK _ _ _)⟩, fun hlt => hq _ _ hL (hS.pass hg hlt) (Nat.le_succ _)⟩
      rw [hg] at e
      cases e
      exact hlt
  unfold m_links b_links netD
  simp_arith
  refine wp_for (fun xs ρ => ∃ (us vs : List (List Int)) (kvs : List (List Int × D)) (G : Lnk) (o2 o3 o4 o5 o6 : Option Sl), ρ = [some ⟨false, .tuple [tI ys, .tuple (ws.map tI)]⟩, some ⟨true, dOf tI kvs⟩, o2, o3, o4, o5, o6] ∧ xs = vs.map tI ∧ ws = us ++ vs ∧ LinkD kvs G ∧ LinkS (dirs us) G ∧ kvs.length ≤ 2 * us.length) ?_ ?_ _ _ ⟨[], ws, [], _, _, _, _, _, _, rfl, rfl, rfl, ⟨by simp, fun a b => rfl⟩, LinkS.nil, by simp⟩
  · rintro x r ρ ⟨us, vs, kvs, G, o2, o3, o4, o5, o6, rfl, hx, hu, hL, hS, hkl⟩
    obtain ⟨v, vs', rfl, rfl, rfl⟩ := cons_map hx
    obtain ⟨a, b, l, f, rfl, k1⟩ := hw v (by rw [hu]; simp)
    have hul := congrArg List.length hu
    simp at hul
    have ht : tI [a, b, l, f] = .tuple [.int a, .int b, .int l, .int f] := rfl
    rw [ht]
    simp_arith
    have hd : dirs (us ++ [[a, b, l, f]]) = dirs us ++ [(a, b, f, l)] ++ [(b, a, f, l)] := by simp [dirs, dir2]
    rw [wp_forC, wp_setSh]
    refine body _ a b l f a b kvs G _ _ hL hS (by omega) fun kvs1 G1 hL1 hS1 hk1 => ?_
    show Wp E (vForL _ _ _) _ _
    rw [wp_forC, wp_setSh]
    refine body _ a b l f b a kvs1 G1 _ _ hL1 hS1 (by omega) fun kvs2 G2 hL2 hS2 hk2 => ?_
    rw [wp_forN]
    exact ⟨us ++ [[a, b, l, f]], vs', kvs2, G2, _, _, _, _, _, rfl, rfl, by simp [hu], hL2, by rw [hd]; exact hS2, by simp; omega⟩
  · rintro ρ ⟨us, vs, kvs, G, o2, o3, o4, o5, o6, rfl, hx, hu, hL, hS, hkl⟩
    obtain rfl := nil_map hx
    rw [List.append_nil] at hu
    subst hu
    simp_arith
    exact h kvs G hL hS (by omega)

end Cv
end
section
namespace Cv
open PySem L2
local macro_rules
  | `(tactic| simp_arith) => `(tactic| try simp only [fw_run, wp_ret, wp_bnd, wp_no, wp_lft, wl_some, wl_none, wl_if, wo_some, wp_var, wp_get, wp_getO, wp_putO, wp_setSh, wp_setOw, wp_op, wp_opN, wp_T, wp_chain, wp_and, wp_or, wp_not, wp_notT, wp_andT, wp_orT, wp_if, wp_nil, wp_cons, wp_tup, wp_lst, wp_c1, wp_cN, wp_seq, wp_drop, wp_rt, wp_rtN, wp_set, wp_setO, wp_asg, wp_gtup, wp_gcons, wp_gnil, wp_par, wp_parE, wp_put, wp_for0, wp_itL, wp_itT, wp_itK, wp_rng1, wp_rng2, wp_zip, wp_zipT, wp_call, wp_callF, wp_kind, hid_nil, hid_cons, hidO_sh, hidO_ow, hidO_none, wp_here, wp_callQ, wp_raise, wp_lc0, vRetNone, vYes, vDict0, wl_add, wl_addT, wl_addL, wl_sub, wl_mul, wl_mulL, wl_mod, wl_fdiv, wl_divmod, wl_lt, wl_gt, wl_le, wl_ge, wl_eq, wl_ne, wl_lenL, wl_lenT, wl_lenD, wl_ixL, wl_ixT, wl_setL, wl_abs, wl_max2, wl_min2, wl_intB, wl_tupL, ent, entL, outsOf, noOwn, wipeE, backE, isC_list, isC_dict, isC_tup, isC_int, isC_bool, isC_str, isC_none, isC_tI, isC_dOf, wl_setI, wl_ixI, wl_inI, wl_niI, wp_is, wp_mw, wp_neg, wp_sl, wp_part, wp_noPart, wr_append, wr_extend, ty_list, wl_neg, wl_sl1T, wl_sl1L, wl_all, wl_any, isInt_int, isBool_int, isTuple_tup, isTuple_tI, wl_lenI, wl_ixtI, wl_inL, wl_niL, wl_inT, wl_inT2, wl_ltT, wl_lt2, Option.map_some, Bool.not_not, wl_set4, wl_set2, wl_ix2, wl_ni2, List.all_cons, List.all_nil, List.length_cons, List.length_nil, Nat.reduceAdd, Nat.reduceSub, Nat.reduceLeDiff, List.contains_cons, List.contains_nil, List.replicate, List.cons_append, List.nil_append, List.append_nil, if_true, if_false, ↓reduceIte, true_and, and_true, true_implies, false_implies, implies_true, reduceCtorEq, List.getElem?_cons_zero, List.getElem?_cons_succ, List.getElem?_nil, List.set_cons_zero, List.set_cons_succ, Option.join_some, Option.join_none, Option.isSome_some, atI_0, atI_1, atI_2, atI_3, atI_4, ixN_0, ixN_1, List.take_zero, List.drop_zero, List.take_succ_cons, List.drop_succ_cons, Bool.or_false, Bool.or_true, Bool.true_or, Bool.false_or, Bool.and_true, Bool.and_false, Bool.true_and, Bool.false_and, Bool.not_true, Bool.not_false, Bool.false_eq_true, Bool.not_eq_true', Bool.not_eq_false', Bool.not_eq_eq_eq_not, decide_eq_true_eq, decide_eq_false_iff_not, decide_true, decide_false, Nat.reduceBEq, beq_self_eq_true, Int.reduceLT, Int.reduceLE, Int.reduceNeg, Int.reducePow, Int.reduceToNat, Int.not_lt])
local macro_rules
  | `(tactic| simp_arith [$xs,*] $[$l]?) => `(tactic| simp only [fw_run, wp_ret, wp_bnd, wp_no, wp_lft, wl_some, wl_none, wl_if, wo_some, wp_var, wp_get, wp_getO, wp_putO, wp_setSh, wp_setOw, wp_op, wp_opN, wp_T, wp_chain, wp_and, wp_or, wp_not, wp_notT, wp_andT, wp_orT, wp_if, wp_nil, wp_cons, wp_tup, wp_lst, wp_c1, wp_cN, wp_seq, wp_drop, wp_rt, wp_rtN, wp_set, wp_setO, wp_asg, wp_gtup, wp_gcons, wp_gnil, wp_par, wp_parE, wp_put, wp_for0, wp_itL, wp_itT, wp_itK, wp_rng1, wp_rng2, wp_zip, wp_zipT, wp_call, wp_callF, wp_kind, hid_nil, hid_cons, hidO_sh, hidO_ow, hidO_none, wp_here, wp_callQ, wp_raise, wp_lc0, vRetNone, vYes, vDict0, wl_add, wl_addT, wl_addL, wl_sub, wl_mul, wl_mulL, wl_mod, wl_fdiv, wl_divmod, wl_lt, wl_gt, wl_le, wl_ge, wl_eq, wl_ne, wl_lenL, wl_lenT, wl_lenD, wl_ixL, wl_ixT, wl_setL, wl_abs, wl_max2, wl_min2, wl_intB, wl_tupL, ent, entL, outsOf, noOwn, wipeE, backE, isC_list, isC_dict, isC_tup, isC_int, isC_bool, isC_str, isC_none, isC_tI, isC_dOf, wl_setI, wl_ixI, wl_inI, wl_niI, wp_is, wp_mw, wp_neg, wp_sl, wp_part, wp_noPart, wr_append, wr_extend, ty_list, wl_neg, wl_sl1T, wl_sl1L, wl_all, wl_any, isInt_int, isBool_int, isTuple_tup, isTuple_tI, wl_lenI, wl_ixtI, wl_inL, wl_niL, wl_inT, wl_inT2, wl_ltT, wl_lt2, Option.map_some, Bool.not_not, wl_set4, wl_set2, wl_ix2, wl_ni2, List.all_cons, List.all_nil, List.length_cons, List.length_nil, Nat.reduceAdd, Nat.reduceSub, Nat.reduceLeDiff, List.contains_cons, List.contains_nil, List.replicate, List.cons_append, List.nil_append, List.append_nil, if_true, if_false, ↓reduceIte, true_and, and_true, true_implies, false_implies, implies_true, reduceCtorEq, List.getElem?_cons_zero, List.getElem?_cons_succ, List.getElem?_nil, List.set_cons_zero, List.set_cons_succ, Option.join_some, Option.join_none, Option.isSome_some, atI_0, atI_1, atI_2, atI_3, atI_4, ixN_0, ixN_1, List.take_zero, List.drop_zero, List.take_succ_cons, List.drop_succ_cons, Bool.or_false, Bool.or_true, Bool.true_or, Bool.false_or, Bool.and_true, Bool.and_false, Bool.true_and, Bool.false_and, Bool.not_true, Bool.not_false, Bool.false_eq_true, Bool.not_eq_true', Bool.not_eq_false', Bool.not_eq_eq_eq_not, decide_eq_true_eq, decide_eq_false_iff_not, decide_true, decide_false, Nat.reduceBEq, beq_self_eq_true, Int.reduceLT, Int.reduceLE, Int.reduceNeg, Int.reducePow, Int.reduceToNat, Int.not_lt, $xs,*] $[$l]?)
/-! nearest paths of the program -/
theorem gd_pDs (xs : List Pth) : gd (.list (xs.map pD)) = true := by
  have h1 := pDs_depth xs
  have h2 : (PyData.list (xs.map pD)).plain = true := by rw [PyData.plain]; exact pDs_plain xs
  have h3 : (PyData.list (xs.map pD)).depth ≤ 40 := by
    rw [PyData.depth]
    omega
  simp only [gd, h2, Bool.true_and, decide_eq_true_eq]
  exact h3
theorem wl_neP {xs : List Pth} {p : D → Prop} : Wl (dNe (.list (xs.map pD)) (.list [])) p = p (.bool (!decide (xs = []))) := by
  have h0 := gd_pDs xs
  have h1 := gd_pDs []
  have e : dEqB (.list (xs.map pD)) (.list []) = some (decide (xs = [])) := by
    simp only [dEqB, h0, show gd (.list []) = true from h1, Bool.and_self, if_true]
    cases xs <;> simp [PyData.eqv, PyData.eqvAll]
  simp only [dNe, e, Option.map_some, wl_some]
theorem wl_minP {x : Pth} {xs : List Pth} {p : D → Prop} : Wl (dMinD (.list ((x :: xs).map pD))) p = p (pD (minP x xs)) := by
  have h : minOk ((x :: xs).map pD) = true := by
    have h1 : allAlike ((x :: xs).map pD) = true := by
      unfold allAlike
      simp only [List.all_eq_true, List.mem_map]
      rintro _ ⟨a, _, rfl⟩ _ ⟨b, _, rfl⟩
      exact pD_alike a b
    have h2 : ((x :: xs).map pD).all (fun d => !isN d) = true := by
      simp only [List.all_eq_true, List.mem_map]
      rintro _ ⟨a, _, rfl⟩
      rfl
    have h3 := pDs_plain (x :: xs)
    have h4 := pDs_depth (x :: xs)
    unfold minOk
    simp only [h1, h2, h3, Bool.true_and, decide_eq_true_eq]
    omega
  have e : dMinD (.list ((x :: xs).map pD)) = some (pD (minP x xs)) := by
    simp only [List.map_cons] at h ⊢
    simp only [dMinD, h, if_true, pD_min]
  rw [e, wl_some]
theorem wr_remP {x : Pth} {xs : List Pth} {p2 : D → D → Prop} (hx : x ∈ xs) (h : ∀ j : Nat, xs[j]? = some x → p2 .none (.list ((xs.eraseIdx j).map pD))) : Wr (dRemove (.list (xs.map pD)) [pD x]) p2 := by
  have hs : (PySem.SeqAt.dataPlace (xs.map pD) (pD x)).isSome = true := by
    unfold PySem.SeqAt.dataPlace
    rw [List.findIdx?_isSome, List.any_eq_true]
    exact ⟨pD x, List.mem_map.2 ⟨x, hx, rfl⟩, by rw [pD_eqv]; simp⟩
  obtain ⟨j, hj⟩ := Option.isSome_iff_exists.1 hs
  have e : (xs.map pD).eraseIdx j = (xs.eraseIdx j).map pD := by
    apply List.ext_getElem?
    intro i
    simp only [List.getElem?_eraseIdx, List.getElem?_map]
    split <;> rfl
  have g1 : gd (pD x) = true := by
    have := pD_depth x
    simp only [gd, pD_plain, Bool.true_and, decide_eq_true_eq]
    omega
  have g2 : gdAll (xs.map pD) = true := by
    have := pDs_depth xs
    simp only [gdAll, pDs_plain, Bool.true_and, decide_eq_true_eq]
    omega
  have e2 : dRemove (.list (xs.map pD)) [pD x] = some (.none, .list ((xs.eraseIdx j).map pD)) := by
    simp only [dRemove, g1, g2, hj, e, Bool.and_self, if_true]
  rw [e2]
  refine h j ?_
  obtain ⟨h1, h2, _⟩ := List.findIdx?_eq_some_iff_getElem.mp hj
  rw [List.getElem_map, pD_eqv] at h2
  rw [List.getElem?_eq_getElem (by simpa using h1)]
  simpa using h2
theorem at_last {l : List Int} {v : Int} (h : l.getLast? = some v) : L2.atI (l.map PyData.int) (-1) = some (.int v) := by
  obtain ⟨l, rfl⟩ : ∃ r, l = r ++ [v] := by
    obtain ⟨hn, e⟩ := List.getLast?_eq_some_iff.1 h
    exact ⟨hn, e⟩
  rw [List.map_append]
  exact atI_last _ _
theorem wp_gtupP {E : Ex → Prop} {n : Nat} {gs : List D → M Unit} {x : Pth} {ρ : Ev} {q : Unit → Ev → Prop} : Wp E (vGTup n gs (pD x)) ρ q = Wp E (vGTup n gs (.tuple [.int x.1, .tuple (x.2.map .int)])) ρ q := rfl
def FdD (kf : List (Int × D)) (F : Int → Option Pth) : Prop := ∀ v, gK kf v = (F v).map pD
theorem FdD.put {kf : List (Int × D)} {F : Int → Option Pth} (h : FdD kf F) (v : Int) (x : Pth) : FdD (pK kf v (pD x)) (fun z => if z = v then some x else F z) := by
  intro z
  rw [gK_pK]
  by_cases e : z = v
  · simp [e]
  · simp [e, fun z : v = z => e z.symm, h z, Ne.symm e]
theorem FdD.is {kf : List (Int × D)} {F : Int → Option Pth} (h : FdD kf F) (v : Int) : (gK kf v).isSome = (F v).isSome := by
  rw [h v]
  cases F v <;> rfl
theorem paths_okL {E : Ex → Prop} {ys : List Int} {ws : List (List Int)} {y : Int} {q : D → List D → Prop} (N : NetOk ys ws) (hy0 : 0 ≤ y) (hyn : y < ys.length) (h : ∀ (kf : List (Int × D)) F, kf.length ≤ 10 → FdD kf F → (∀ v : Int, 0 ≤ v → v < ys.length → ∃ x, F v = some x ∧ Best ws y v x) → (∀ v x, F v = some x → Best ws y v x) → q (dOf PyData.int kf) []) : Fw E m_paths_from [netD ys ws, .int y] q := by
  have hs : (0 : Int) ≤ y ∧ y < ys.length := ⟨hy0, hyn⟩
  have hpos := edg_pos N.way
  have hn10 := N.ten
  unfold m_paths_from b_paths_from
  simp_arith
  refine links_ok N.few N.way fun kvs G hL hS hkl => ?_
  simp_arith
  refine wp_while (fun m ρ => ∃ (o5 o6 o7 : Option Sl) (kf : List (Int × D)) (F : Int → Option Pth) (xs : List Pth) (ks : List Int), ρ = [some ⟨false, netD ys ws⟩, some ⟨false, .int y⟩, some ⟨false, dOf tI kvs⟩, some ⟨true, dOf PyData.int kf⟩, some ⟨true, .list (xs.map pD)⟩, o5, o6, o7] ∧ FdD kf F ∧
      Dij ws y F xs ∧ Fnd ys.length ks ∧ (∀ v, F v ≠ none ↔ v ∈ ks) ∧ kf.length ≤ ks.length ∧ m = (ys.length - ks.length) * 49 + xs.length ∧ m ≤ 500 ∧ ∀ z ∈ xs, z.2.length ≤ ks.length + 1) ?_ (ys.length * 49 + 1)
      ⟨none, none, none, [], fun _ => none, [(0, [y])], [], rfl, fun _ => rfl, Dij.start, ⟨List.nodup_nil, fun x hx => by cases hx⟩, fun v => by simp, by simp, by simp, by omega, by simp⟩ (by omega)
  rintro m ρ ⟨o5, o6, o7, kf, F, xs, ks, rfl, hFd, hDj, hks, hF, hkf, rfl, hm, hlen⟩
  simp_arith [wl_neP]
  refine ⟨fun hnil => ?_, fun hne => ?_⟩
  · subst hnil
    refine h kf F (by have := hks.len; omega) hFd (fun v hv0 hvn => ?_) hDj.best
    obtain ⟨x, hx⟩ := reach_all N.way N.jo hs ⟨hv0, hvn⟩
    cases hv : F v with
    | none =>
      obtain ⟨w', hw', _⟩ := hDj.waits hpos hx hv
      cases hw'
    | some z => exact ⟨z, rfl, hDj.best v z hv⟩
  · cases xs with
    | nil => exact absurd rfl hne
    | cons x0 xr =>
      have hmem := minP_mem x0 xr
      have hle := minP_le x0 xr
      rw [wl_minP]
      generalize hmn : minP x0 xr = mn at hmem hle
      obtain ⟨v, hv⟩ := hDj.walk mn hmem
      have hvin := wk_in N.way hs hv
      have hlast := at_last hv.last
      simp_arith [wp_gtupP]
      refine wr_remP hmem fun j hj => ?_
      have hjl : j < (x0 :: xr).length := (List.getElem?_eq_some_iff.1 hj).1
      have hxl : ((x0 :: xr).eraseIdx j).length = xr.length := by
        rw [List.length_eraseIdx, if_pos hjl]
        simp
      have hsub : ∀ z ∈ (x0 :: xr).eraseIdx j, z ∈ x0 :: xr := fun z hz => List.mem_of_mem_eraseIdx hz
      have hkeep : ∀ z ∈ x0 :: xr, z ≠ mn → z ∈ (x0 :: xr).eraseIdx j := fun z hz hne => by
        obtain ⟨i', hi', e'⟩ := List.getElem_of_mem hz
        have hij : i' ≠ j := fun q => by
          subst q
          rw [List.getElem?_eq_getElem hi', e'] at hj
          exact hne (by simpa using hj)
        exact List.mem_eraseIdx_iff_getElem.2 ⟨i', hi', hij, e'⟩
      simp_arith [hlast, hFd.is]
      refine ⟨fun hFn => ?_, fun hFs => ?_⟩
      rotate_left
      · refine ⟨_, ?_, _, _, _, kf, F, (x0 :: xr).eraseIdx j, ks, rfl, hFd, hDj.drop hv (fun z => by rw [z] at hFs; cases hFs) hsub hkeep, hks, hF, hkf, rfl, ?_, fun z hz => hlen z (hsub z hz)⟩
        · rw [hxl]; omega
        · rw [hxl]; simp at hm; omega
      · have hFv : F v = none := by
          cases hz : F v with
          | none => rfl
          | some _ => rw [hz] at hFn; cases hFn
        have hkn10 := hks.len
        refine ⟨by rw [sizeLine_eq]; omega, ?_⟩
        have hbest := hDj.least hpos hmem hle hv hFv
        have hmlen := hlen mn hmem
        have hvk : v ∉ ks := fun z => (hF v).2 z hFv
        have hks2 := hks.add hvin hvk
        have hkn2 := hks2.len
        simp at hkn2
        have hFd2 := hFd.put v mn
        show Wp E (vForL _ _ ((kvs.map fun p => (tI p.1, p.2)).map (·.1))) _ _
        have hkk : ((kvs.map fun p => (tI p.1, p.2)).map (·.1)) = kvs.map fun p => tI p.1 := by simp
        rw [hkk]
        refine wp_for (fun zs ρ => ∃ (o7 : Option Sl) (us vs : List (List Int × D)) (xs' : List Pth), ρ = [some ⟨false, netD ys ws⟩, some ⟨false, .int y⟩, some ⟨false, dOf tI kvs⟩, some ⟨true, dOf PyData.int (pK kf v (pD mn))⟩, some ⟨true, .list (xs'.map pD)⟩, some ⟨false, .int mn.1⟩, some ⟨false, .tuple (mn.2.map .int)⟩, o7] ∧ zs = vs.map (fun p => tI p.1) ∧ kvs = us ++ vs ∧
            (∀ z ∈ xs', z ∈ (x0 :: xr).eraseIdx j ∨ ((∃ u, Wk ws y u z) ∧ z.2.length ≤ ks.length + 2)) ∧ (∀ z ∈ (x0 :: xr).eraseIdx j, z ∈ xs') ∧ (∀ p ∈ us, ∀ b g k, p.1 = [v, b] → G v b = some (g, k) → F b = none → b ≠ v → extP mn g b ∈ xs') ∧ xs'.length ≤ xr.length + us.length) ?_ ?_ _ _
          ⟨_, [], kvs, _, rfl, rfl, rfl, fun z hz => .inl hz, fun z hz => hz, fun p hp => (by cases hp), by rw [hxl]; simp⟩
        · rintro x r ρ ⟨o7, us, vs, xs', rfl, hx, hu, hz1, hz2, hz3, hz4⟩
          obtain ⟨⟨ke, va⟩, vs', rfl, rfl, rfl⟩ := cons_map hx
          obtain ⟨a', b', g, l, e⟩ := hL.key (ke, va) (by rw [hu]; simp)
          injection e with e1 e2
          subst e1
          have hul := congrArg List.length hu
          simp at hul
          have ht : tI [a', b'] = .tuple [.int a', .int b'] := rfl
          obtain ⟨gk, hG⟩ : ∃ gk, G a' b' = some gk := by
            have h1 := hL.val a' b'
            have h2 : (gK kvs [a', b']).isSome = true := gK_mem.2 (by rw [hu]; simp)
            rw [h1] at h2
            cases hz : G a' b' with
            | none => rw [hz] at h2; cases h2
            | some gk => exact ⟨gk, rfl⟩
          rcases gk with ⟨g', l'⟩
          have nxt : ∀ (xs2 : List Pth), (∀ z ∈ xs', z ∈ xs2) → (a' = v → F b' = none → b' ≠ v → extP mn g' b' ∈ xs2) → ∀ p ∈ us ++ [([a', b'], va)], ∀ b g k, p.1 = [v, b] → G v b = some (g, k) → F b = none → b ≠ v → extP mn g b ∈ xs2 := by
            intro xs2 hs2 hn2 p hp b g2 k2 e1 e2 e3 e4
            rcases List.mem_append.1 hp with hp | hp
            · exact hs2 _ (hz3 p hp b g2 k2 e1 e2 e3 e4)
            · simp at hp
              subst hp
              simp at e1
              obtain ⟨rfl, rfl⟩ := e1
              rw [hG] at e2
              simp at e2
              rw [← e2.1]
              exact hn2 rfl e3 e4
          show Wp E (vSetSh 7 (tI [a', b'])) _ _
          rw [ht]
          simp_arith [hlast, hFd2.is, hL.val, hG]
          refine ⟨fun hav => ⟨fun hFb => ?_, fun hFb => ?_⟩, fun hav => ?_⟩
          · subst hav
            have hb' : b' ≠ a' ∧ F b' = none := by
              by_cases e : b' = a'
              · rw [if_pos e] at hFb; cases hFb
              · rw [if_neg e] at hFb
                refine ⟨e, ?_⟩
                cases hz : F b' with
                | none => rfl
                | some _ => rw [hz] at hFb; cases hFb
            refine ⟨by rw [sizeLine_eq, List.length_map]; omega, by rw [sizeLine_eq, List.length_map]; simp at hm; omega, some ⟨false, .tuple [.int a', .int b']⟩, us ++ [([a', b'], va)], vs', xs' ++ [extP mn g' b'], ?_, rfl, by simp [hu], ?_, fun z hz => List.mem_append.2 (.inl (hz2 z hz)), nxt _ (fun z hz => List.mem_append.2 (.inl hz)) (fun _ _ _ => by simp), by simp; omega⟩
            · simp [extP, pD]
            · intro z hz
              rcases List.mem_append.1 hz with hz | hz
              · exact hz1 z hz
              · simp at hz
                subst hz
                refine .inr ⟨⟨b', .step hv (linkS_edg hS hG)⟩, ?_⟩
                simp [extP]
                omega
          · exact ⟨_, us ++ [([a', b'], va)], vs', xs', rfl, rfl, by simp [hu], hz1, hz2, nxt _ (fun z hz => hz) (fun e1 e2 e3 => by rw [if_neg e3, e2] at hFb; exact absurd hFb (by simp)), by simp; omega⟩
          · exact ⟨_, us ++ [([a', b'], va)], vs', xs', rfl, rfl, by simp [hu], hz1, hz2, nxt _ (fun z hz => hz) (fun e1 => absurd e1 hav), by simp; omega⟩
        · rintro ρ ⟨o7, us, vs, xs', rfl, hx, hu, hz1, hz2, hz3, hz4⟩
          obtain rfl := nil_map hx
          rw [List.append_nil] at hu
          subst hu
          refine ⟨_, ?_, _, _, _, _, _, xs', v :: ks, rfl, hFd2, hDj.settle hbest (fun z hz => (hz1 z hz).imp (hsub z) (fun z => z.1)) (fun z hz hne => hz2 z (hkeep z hz hne)) (fun z f he hFz hzv => ?_), hks2, fun u => ?_, ?_, rfl, ?_, fun z hz => ?_⟩
          · simp; omega
          · obtain ⟨g, k, hg, hgf⟩ := linkS_le hS he
            have hin : [v, z] ∈ kvs.map (·.1) := gK_mem.1 (by rw [hL.val, hg]; rfl)
            obtain ⟨p, hp, hpe⟩ := List.mem_map.1 hin
            exact ⟨extP mn g z, hz3 p hp z g k hpe hg hFz hzv, .step hv (linkS_edg hS hg), ext_far hgf⟩
          · by_cases e : u = v
            · simp [e]
            · simp [e, ← hF u]
          · have := len_pK kf v (pD mn)
            simp; omega
          · simp at hm ⊢; omega
          · rcases hz1 z hz with hz | hz
            · have := hlen z (hsub z hz)
              simp; omega
            · simp; exact hz.2
theorem paths_ok {E : Ex → Prop} {ys : List Int} {ws : List (List Int)} {y : Int} {q : D → List D → Prop} (N : NetOk ys ws) (hy0 : 0 ≤ y) (hyn : y < ys.length) (h : ∀ kf F, FdD kf F → (∀ v : Int, 0 ≤ v → v < ys.length → ∃ x, F v = some x ∧ Best ws y v x) → (∀ v x, F v = some x → Best ws y v x) → q (dOf PyData.int kf) []) : Fw E m_paths_from [netD ys ws, .int y] q :=
  paths_okL N hy0 hyn fun kf F _ => h kf F

end Cv
end
section
namespace Cv
open PySem L2
local macro_rules
  | `(tactic| simp_arith) => `(tactic| try simp only [fw_run, wp_ret, wp_bnd, wp_no, wp_lft, wl_some, wl_none, wl_if, wo_some, wp_var, wp_get, wp_getO, wp_putO, wp_setSh, wp_setOw, wp_op, wp_opN, wp_T, wp_chain, wp_and, wp_or, wp_not, wp_notT, wp_andT, wp_orT, wp_if, wp_nil, wp_cons, wp_tup, wp_lst, wp_c1, wp_cN, wp_seq, wp_drop, wp_rt, wp_rtN, wp_set, wp_setO, wp_asg, wp_gtup, wp_gcons, wp_gnil, wp_par, wp_parE, wp_put, wp_for0, wp_itL, wp_itT, wp_itK, wp_rng1, wp_rng2, wp_zip, wp_zipT, wp_call, wp_callF, wp_kind, hid_nil, hid_cons, hidO_sh, hidO_ow, hidO_none, wp_here, wp_callQ, wp_raise, wp_lc0, vRetNone, vYes, vDict0, wl_add, wl_addT, wl_addL, wl_sub, wl_mul, wl_mulL, wl_mod, wl_fdiv, wl_divmod, wl_lt, wl_gt, wl_le, wl_ge, wl_eq, wl_ne, wl_lenL, wl_lenT, wl_lenD, wl_ixL, wl_ixT, wl_setL, wl_abs, wl_max2, wl_min2, wl_intB, wl_tupL, ent, entL, outsOf, noOwn, wipeE, backE, isC_list, isC_dict, isC_tup, isC_int, isC_bool, isC_str, isC_none, isC_tI, isC_dOf, wl_setI, wl_ixI, wl_inI, wl_niI, wp_is, wp_mw, wp_neg, wp_sl, wp_part, wp_noPart, wr_append, wr_extend, ty_list, wl_neg, wl_sl1T, wl_sl1L, wl_all, wl_any, isInt_int, isBool_int, isTuple_tup, isTuple_tI, wl_lenI, wl_ixtI, wl_inL, wl_niL, wl_inT, wl_inT2, wl_ltT, wl_lt2, Option.map_some, Bool.not_not, wl_set4, wl_set2, wl_ix2, wl_ni2, List.all_cons, List.all_nil, List.length_cons, List.length_nil, Nat.reduceAdd, Nat.reduceSub, Nat.reduceLeDiff, List.contains_cons, List.contains_nil, List.replicate, List.cons_append, List.nil_append, List.append_nil, if_true, if_false, ↓reduceIte, true_and, and_true, true_implies, false_implies, implies_true, reduceCtorEq, List.getElem?_cons_zero, List.getElem?_cons_succ, List.getElem?_nil, List.set_cons_zero, List.set_cons_succ, Option.join_some, Option.join_none, Option.isSome_some, atI_0, atI_1, atI_2, atI_3, atI_4, ixN_0, ixN_1, List.take_zero, List.drop_zero, List.take_succ_cons, List.drop_succ_cons, Bool.or_false, Bool.or_true, Bool.true_or, Bool.false_or, Bool.and_true, Bool.and_false, Bool.true_and, Bool.false_and, Bool.not_true, Bool.not_false, Bool.false_eq_true, Bool.not_eq_true', Bool.not_eq_false', Bool.not_eq_eq_eq_not, decide_eq_true_eq, decide_eq_false_iff_not, decide_true, decide_false, Nat.reduceBEq, beq_self_eq_true, Int.reduceLT, Int.reduceLE, Int.reduceNeg, Int.reducePow, Int.reduceToNat, Int.not_lt])
local macro_rules
  | `(tactic| simp_arith [$xs,*] $[$l]?) => `(tactic| simp only [fw_run, wp_ret, wp_bnd, wp_no, wp_lft, wl_some, wl_none, wl_if, wo_some, wp_var, wp_get, wp_getO, wp_putO, wp_setSh, wp_setOw, wp_op, wp_opN, wp_T, wp_chain, wp_and, wp_or, wp_not, wp_notT, wp_andT, wp_orT, wp_if, wp_nil, wp_cons, wp_tup, wp_lst, wp_c1, wp_cN, wp_seq, wp_drop, wp_rt, wp_rtN, wp_set, wp_setO, wp_asg, wp_gtup, wp_gcons, wp_gnil, wp_par, wp_parE, wp_put, wp_for0, wp_itL, wp_itT, wp_itK, wp_rng1, wp_rng2, wp_zip, wp_zipT, wp_call, wp_callF, wp_kind, hid_nil, hid_cons, hidO_sh, hidO_ow, hidO_none, wp_here, wp_callQ, wp_raise, wp_lc0, vRetNone, vYes, vDict0, wl_add, wl_addT, wl_addL, wl_sub, wl_mul, wl_mulL, wl_mod, wl_fdiv, wl_divmod, wl_lt, wl_gt, wl_le, wl_ge, wl_eq, wl_ne, wl_lenL, wl_lenT, wl_lenD, wl_ixL, wl_ixT, wl_setL, wl_abs, wl_max2, wl_min2, wl_intB, wl_tupL, ent, entL, outsOf, noOwn, wipeE, backE, isC_list, isC_dict, isC_tup, isC_int, isC_bool, isC_str, isC_none, isC_tI, isC_dOf, wl_setI, wl_ixI, wl_inI, wl_niI, wp_is, wp_mw, wp_neg, wp_sl, wp_part, wp_noPart, wr_append, wr_extend, ty_list, wl_neg, wl_sl1T, wl_sl1L, wl_all, wl_any, isInt_int, isBool_int, isTuple_tup, isTuple_tI, wl_lenI, wl_ixtI, wl_inL, wl_niL, wl_inT, wl_inT2, wl_ltT, wl_lt2, Option.map_some, Bool.not_not, wl_set4, wl_set2, wl_ix2, wl_ni2, List.all_cons, List.all_nil, List.length_cons, List.length_nil, Nat.reduceAdd, Nat.reduceSub, Nat.reduceLeDiff, List.contains_cons, List.contains_nil, List.replicate, List.cons_append, List.nil_append, List.append_nil, if_true, if_false, ↓reduceIte, true_and, and_true, true_implies, false_implies, implies_true, reduceCtorEq, List.getElem?_cons_zero, List.getElem?_cons_succ, List.getElem?_nil, List.set_cons_zero, List.set_cons_succ, Option.join_some, Option.join_none, Option.isSome_some, atI_0, atI_1, atI_2, atI_3, atI_4, ixN_0, ixN_1, List.take_zero, List.drop_zero, List.take_succ_cons, List.drop_succ_cons, Bool.or_false, Bool.or_true, Bool.true_or, Bool.false_or, Bool.and_true, Bool.and_false, Bool.true_and, Bool.false_and, Bool.not_true, Bool.not_false, Bool.false_eq_true, Bool.not_eq_true', Bool.not_eq_false', Bool.not_eq_eq_eq_not, decide_eq_true_eq, decide_eq_false_iff_not, decide_true, decide_false, Nat.reduceBEq, beq_self_eq_true, Int.reduceLT, Int.reduceLE, Int.reduceNeg, Int.reducePow, Int.reduceToNat, Int.not_lt, $xs,*] $[$l]?)
/-! the law's paths: rounds of bettering -/
theorem wl_ltPD {x y : Pth} {p : D → Prop} : Wl (dLt (pD x) (pD y)) p = p (.bool (ltP x y)) := by
  have e : dLtB (pD x) (pD y) = some (ltP x y) := by
    have h1 : gd (pD x) = true := by
      have := pD_depth x
      simp only [gd, pD_plain, Bool.true_and, decide_eq_true_eq]
      omega
    have h2 := pD_alike x y
    have h3 : isN (pD x) = false := rfl
    have h4 := pD_lt x y
    unfold pD at *
    simp only [dLtB, h1, h2, h3, h4, Bool.not_false, Bool.and_true, if_true]
  simp only [dLt, e, Option.map_some, wl_some]
theorem keyOf_int {i : Int} : keyOf (.int i) = some (.inl i) := rfl
theorem wp_parF {E : Ex → Prop} {i j : Nat} {fa fb : M D} {ρ : Ev} {qf : Fl → Ev → Prop} : Wp E (vParF i j fa fb) ρ qf = Wp E fa ρ fun x ρ1 => isC x = true ∧ Wp (fun _ => False) fb ρ1 fun y ρ2 => qf .nx ((ρ2.set i (some ⟨isC x, x⟩)).set j (some ⟨false, y⟩)) := by
  simp only [vParF, wp_bnd]
  congr 1
  funext x ρ1
  cases h : isC x with
  | false => simp [wp_no]
  | true =>
    simp only [if_true, true_and]
    unfold Wp
    cases hf : fb ρ1 with
    | none => simp [hf]
    | some r => cases r with
      | ok y ρ2 => simp [hf, bnd, vSetOw, vSetSh, ret, h]
      | ex e => simp [hf]
theorem wp_disp1 {E : Ex → Prop} {fk fv : M D} {ρ : Ev} {qd : D → Ev → Prop} (h : Wp (fun _ => False) fk ρ (fun k ρ1 => Wp (fun _ => False) fv ρ1 fun v ρ2 => (keyOf k).isSome = true ∧ qd (.dict [(k, v)]) ρ2)) : Wp E (vDisp1 fk fv) ρ qd := by
  unfold vDisp1 Wp
  unfold Wp at h
  unfold bnd
  cases hk : fk ρ with
  | none => rw [hk] at h; exact h.elim
  | some r => cases r with
    | ex e => rw [hk] at h; exact h.elim
    | ok k ρ1 =>
      rw [hk] at h
      dsimp only at h
      cases hv : fv ρ1 with
      | none => rw [hv] at h; exact h.elim
      | some r => cases r with
        | ex e => rw [hv] at h; exact h.elim
        | ok v ρ2 =>
          rw [hv] at h
          obtain ⟨h1, h2⟩ := h
          cases hko : keyOf k with
          | none => rw [hko] at h1; cases h1
          | some _ => simpa [hk, hv, hko, ret] using h2
theorem lpaths_ok {E : Ex → Prop} {ys : List Int} {ws : List (List Int)} {y : Int} {q : D → List D → Prop} (N : NetOk ys ws) (hy0 : 0 ≤ y) (hyn : y < ys.length) (h : ∀ kf F, FdD kf F → (∀ v : Int, 0 ≤ v → v < ys.length → ∃ x, F v = some x ∧ Best ws y v x) → q (dOf PyData.int kf) []) : Fw E m__law_paths [netD ys ws, .int y] q := by
  have hs : (0 : Int) ≤ y ∧ y < ys.length := ⟨hy0, hyn⟩
  have hpos := edg_pos N.way
  have hn10 := N.ten
  have body : ∀ (b : Bool) (L : Nat) (a0 b0 l0 f0 u v : Int) (kf : List (Int × D)) (F0 F : Int → Option Pth) (S : List (Int × Int × Int × Int)) (o10 : Option Sl) (qf : Fl → Ev → Prop), FdD kf F → Rnd ws y F0 F S b → Edg ws u v f0 → kf.length ≤ L → (∀ v x, F v = some x → x.2.length ≤ L) → L ≤ 100000 →
      (∀ kf' F' b' o10', FdD kf' F' → Rnd ws y F0 F' (S ++ [(u, v, f0, l0)]) b' → kf'.length ≤ L + 1 → (∀ v x, F' v = some x → x.2.length ≤ L + 1) → (∀ r, 1782 ≤ r → Walks ws y F0 → BF ws y r F0 → b = false → b' = false) → qf .nx [some ⟨false, netD ys ws⟩, some ⟨false, .int y⟩, some ⟨true, dOf PyData.int kf'⟩, some ⟨false, .bool b'⟩, some ⟨false, .int a0⟩, some ⟨false, .int b0⟩, some ⟨false, .int l0⟩, some ⟨false, .int f0⟩, some ⟨false, .int u⟩, some ⟨false, .int v⟩, o10']) →
      Wp E ((vIf (vT (vOp dIn (vVar 8) (vGet 2)))
      (vSeq (vSetO 10 (vTup (vCons (vOp dAdd (vOp dIx (vOpN dIx 2 (vVar 8)) (ret (.int 0))) (vVar 7)) (vCons (vOp dAdd (vOp dIx (vOpN dIx 2 (vVar 8)) (ret (.int 1))) (vTup (vCons (vVar 9) vNil))) vNil))))
      (vIf (vOrT (vT (vOp dNotIn (vVar 9) (vGet 2))) (vT (vOp dLt (vVar 10) (vOpN dIx 2 (vVar 9)))))
        (vSeq (vPut 2 (vVar 9) (vVar 10))
        (vSetO 3 (ret (.bool true))))
        (ret .nx)))
      (ret .nx))) [some ⟨false, netD ys ws⟩, some ⟨false, .int y⟩, some ⟨true, dOf PyData.int kf⟩, some ⟨false, .bool b⟩, some ⟨false, .int a0⟩, some ⟨false, .int b0⟩, some ⟨false, .int l0⟩, some ⟨false, .int f0⟩, some ⟨false, .int u⟩, some ⟨false, .int v⟩, o10] qf := by
    intro b L a0 b0 l0 f0 u v kf F0 F S o10 qf hFd R he hkf hlen hL hq
    have up : ∀ v x, F v = some x → x.2.length ≤ L + 1 := fun v x hx => Nat.le_succ_of_le (hlen v x hx)
    cases hu : F u with
    | none =>
      simp_arith [hFd.is, hu, Option.isSome_none]
      exact hq _ _ _ _ hFd (R.none hu) (by omega) up fun _ _ _ _ h => h
    | some x =>
      have hxl := hlen u x hu
      have hx1 : Wl (dIx (pD x) (.int 0)) = fun p => p (.int x.1) := rfl
      have hx2 : Wl (dIx (pD x) (.int 1)) = fun p => p (.tuple (x.2.map .int)) := rfl
      have hpw : (.tuple [.int (x.1 + f0), .tuple (x.2.map .int ++ [.int v])] : D) = pD (extP x f0 v) := by simp [pD, extP]
      have hput : (∀ z, F v = some z → ltP (extP x f0 v) z = true) → kf.length < sizeLine ∧ qf .nx [some ⟨false, netD ys ws⟩, some ⟨false, .int y⟩, some ⟨true, dOf PyData.int (pK kf v (pD (extP x f0 v)))⟩, some ⟨false, .bool true⟩, some ⟨false, .int a0⟩, some ⟨false, .int b0⟩, some ⟨false, .int l0⟩, some ⟨false, .int f0⟩, some ⟨false, .int u⟩, some ⟨false, .int v⟩, some ⟨false, pD (extP x f0 v)⟩] := by
        intro hlt
        refine ⟨by rw [sizeLine_eq]; omega, hq _ _ _ _ (hFd.put v _) (R.put hu he hlt) (Nat.le_trans (len_pK _ _ _) (by omega)) (fun z w hw => ?_) fun r hr hW hB hb => ?_⟩
        · by_cases e : z = v
          · simp only [if_pos e] at hw
            injection hw with hw
            rw [← hw]
            simp [extP]
            omega
          · simp only [if_neg e] at hw
            exact up z w hw
        · exfalso
          have e := R.same hb
          subst e
          have hwk : Wk ws y v (extP x f0 v) := .step (R.walks _ _ hu) he
          obtain ⟨z, hz, hl⟩ := bf_far hpos R.walks hB hr (fun v' y' hy' => reach_far hn10 N.way N.jo hs (wk_in N.way hs hy')) v _ hwk
          have := hlt z hz
          unfold leP at hl
          rw [hl] at this
          cases this
      simp_arith [hFd.is, hFd u, hu, hx1, hx2]
      refine ⟨by rw [sizeLine_eq, List.length_map]; omega, ?_⟩
      rw [hFd v]
      cases hv : F v with
      | none =>
        simp_arith [Option.isSome_none, Option.map_none, hpw]
        exact hput fun z hz => by rw [hv] at hz; cases hz
      | some z =>
        simp_arith [wl_ltPD, hpw]
        refine ⟨fun hlt => hput fun z' hz' => ?_, fun hlt => hq _ _ _ _ hFd (R.pass hu hv hlt) (by omega) up fun _ _ _ _ h => h⟩
        rw [hv] at hz'
        injection hz' with e
        rw [← e]
        exact hlt
  have round : ∀ (r : Nat) (kf : List (Int × D)) (F : Int → Option Pth) (o4 o5 o6 o7 o8 o9 o10 : Option Sl) (qf : Fl → Ev → Prop), FdD kf F → Walks ws y F → BF ws y r F → r ≤ 1800 → kf.length ≤ 1 + 48 * r → (∀ v x, F v = some x → x.2.length ≤ 1 + 48 * r) →
      (∀ kf' F' b' o4 o5 o6 o7 o8 o9 o10, FdD kf' F' → Rnd ws y F F' (dirs ws) b' → kf'.length ≤ 1 + 48 * (r + 1) → (∀ v x, F' v = some x → x.2.length ≤ 1 + 48 * (r + 1)) → (1782 ≤ r → b' = false) → qf .nx [some ⟨false, netD ys ws⟩, some ⟨false, .int y⟩, some ⟨true, dOf PyData.int kf'⟩, some ⟨false, .bool b'⟩, o4, o5, o6, o7, o8, o9, o10]) →
      Wp E (vForL (vGTup 4 (vGCons (vSetSh 4) (vGCons (vSetSh 5) (vGCons (vSetSh 6) (vGCons (vSetSh 7) vGNil))))) ((vFor (vItL (vLst (vCons (vTup (vCons (vVar 4) (vCons (vVar 5) vNil))) (vCons (vTup (vCons (vVar 5) (vCons (vVar 4) vNil))) vNil)))) (vGTup 2 (vGCons (vSetSh 8) (vGCons (vSetSh 9) vGNil)))
      (vIf (vT (vOp dIn (vVar 8) (vGet 2)))
        (vSeq (vSetO 10 (vTup (vCons (vOp dAdd (vOp dIx (vOpN dIx 2 (vVar 8)) (ret (.int 0))) (vVar 7)) (vCons (vOp dAdd (vOp dIx (vOpN dIx 2 (vVar 8)) (ret (.int 1))) (vTup (vCons (vVar 9) vNil))) vNil))))
        (vIf (vOrT (vT (vOp dNotIn (vVar 9) (vGet 2))) (vT (vOp dLt (vVar 10) (vOpN dIx 2 (vVar 9)))))
          (vSeq (vPut 2 (vVar 9) (vVar 10))
          (vSetO 3 (ret (.bool true))))
          (ret .nx)))
        (ret .nx)))) (ws.map tI)) [some ⟨false, netD ys ws⟩, some ⟨false, .int y⟩, some ⟨true, dOf PyData.int kf⟩, some ⟨false, .bool false⟩, o4, o5, o6, o7, o8, o9, o10] qf := by
    intro r kf F o4 o5 o6 o7 o8 o9 o10 qf hFd hW hB hr hkf hlen hq
    refine wp_for (fun xs ρ => ∃ (us vs : List (List Int)) (kf' : List (Int × D)) (F' : Int → Option Pth) (b' : Bool) (o4 o5 o6 o7 o8 o9 o10 : Option Sl), ρ = [some ⟨false, netD ys ws⟩, some ⟨false, .int y⟩, some ⟨true, dOf PyData.int kf'⟩, some ⟨false, .bool b'⟩, o4, o5, o6, o7, o8, o9, o10] ∧ xs = vs.map tI ∧ ws = us ++ vs ∧ FdD kf' F' ∧ Rnd ws y F F' (dirs us) b' ∧ kf'.length ≤ 1 + 48 * r + 2 * us.length ∧ (∀ v x, F' v = some x → x.2.length ≤ 1 + 48 * r + 2 * us.length) ∧ (1782 ≤ r → b' = false)) ?_ ?_ _ _
      ⟨[], ws, kf, F, false, _, _, _, _, _, _, _, rfl, rfl, rfl, hFd, Rnd.start hW, by simpa using hkf, by simpa using hlen, fun _ => rfl⟩
    · rintro x t ρ ⟨us, vs, kf', F', b', o4, o5, o6, o7, o8, o9, o10, rfl, hx, hu, hFd', R, hk', hl', hb'⟩
      obtain ⟨w, vs', rfl, rfl, rfl⟩ := cons_map hx
      have hwm : w ∈ ws := by rw [hu]; simp
      obtain ⟨a, b, l, f, rfl, k1⟩ := N.way w hwm
      have hul := congrArg List.length hu
      simp at hul
      have hfew := N.few
      have ht : tI [a, b, l, f] = .tuple [.int a, .int b, .int l, .int f] := rfl
      have hd : dirs (us ++ [[a, b, l, f]]) = dirs us ++ [(a, b, f, l)] ++ [(b, a, f, l)] := by simp [dirs, dir2]
      rw [ht]
      simp_arith
      rw [wp_forC]
      simp only [wp_gtup, wp_gcons, wp_gnil, wp_setSh, List.length_cons, List.length_nil, Nat.reduceAdd, true_and, List.set_cons_zero, List.set_cons_succ]
      refine body b' (1 + 48 * r + 2 * us.length) a b l f a b kf' F F' _ _ _ hFd' R ⟨l, .inl hwm⟩ hk' hl' (by omega) fun kf1 F1 b1 p10 hFd1 R1 hk1 hl1 hb1 => ?_
      show Wp E (vForL _ _ _) _ _
      rw [wp_forC]
      simp only [wp_gtup, wp_gcons, wp_gnil, wp_setSh, List.length_cons, List.length_nil, Nat.reduceAdd, true_and, List.set_cons_zero, List.set_cons_succ]
      refine body b1 (1 + 48 * r + 2 * us.length + 1) a b l f b a kf1 F F1 _ _ _ hFd1 R1 ⟨l, .inr hwm⟩ hk1 hl1 (by omega) fun kf2 F2 b2 q10 hFd2 R2 hk2 hl2 hb2 => ?_
      rw [wp_forN]
      exact ⟨us ++ [[a, b, l, f]], vs', kf2, F2, b2, _, _, _, _, _, _, _, rfl, rfl, by simp [hu], hFd2, by rw [hd]; exact R2, by simp; omega, fun v x hx => by have := hl2 v x hx; simp; omega, fun hr => hb2 r hr hW hB (hb1 r hr hW hB (hb' hr))⟩
    · rintro ρ ⟨us, vs, kf', F', b', o4, o5, o6, o7, o8, o9, o10, rfl, hx, hu, hFd', R, hk', hl', hb'⟩
      obtain rfl := nil_map hx
      rw [List.append_nil] at hu
      subst hu
      have hfew := N.few
      exact hq kf' F' b' _ _ _ _ _ _ _ hFd' R (by omega) (fun v x hx => by have := hl' v x hx; omega) hb'
  unfold m__law_paths b__law_paths
  simp_arith [wp_parF]
  refine wp_disp1 ?_
  simp_arith [keyOf_int]
  refine wp_while (fun m ρ => ∃ (r : Nat) (kf : List (Int × D)) (F : Int → Option Pth) (b : Bool) (o4 o5 o6 o7 o8 o9 o10 : Option Sl), ρ = [some ⟨false, netD ys ws⟩, some ⟨false, .int y⟩, some ⟨true, dOf PyData.int kf⟩, some ⟨false, .bool b⟩, o4, o5, o6, o7, o8, o9, o10] ∧ FdD kf F ∧ (b = true → Walks ws y F ∧ BF ws y r F ∧ r ≤ 1783 ∧ kf.length ≤ 1 + 48 * r ∧ (∀ v x, F v = some x → x.2.length ≤ 1 + 48 * r) ∧ m = 1800 - r) ∧ (b = false → m = 0 ∧ ∀ v : Int, 0 ≤ v → v < ys.length → ∃ x, F v = some x ∧ Best ws y v x)) ?_ 1800
    ⟨0, [(y, pD (0, [y]))], fun v => if v = y then some (0, [y]) else none, true, _, _, _, _, _, _, _, rfl, fun v => ?_, fun _ => ⟨fun v x hx => ?_, bf0, by omega, by simp, fun v x hx => ?_, rfl⟩, fun z => by cases z⟩ (by omega)
  · rintro m ρ ⟨r, kf, F, b, o4, o5, o6, o7, o8, o9, o10, rfl, hFd, h1, h2⟩
    have hn : netD ys ws = .tuple [tI ys, .tuple (ws.map tI)] := rfl
    simp_arith
    refine ⟨fun hb => ?_, fun hb => ?_⟩
    · exact h kf F hFd (h2 hb).2
    · obtain ⟨hW, hB, hr, hk, hl, hm⟩ := h1 hb
      have hix : Wl (dIx (netD ys ws) (.int 1)) = fun p => p (.tuple (ws.map tI)) := rfl
      simp_arith [hix]
      refine round r kf F _ _ _ _ _ _ _ _ hFd hW hB (by omega) hk hl fun kf' F' b' p4 p5 p6 p7 p8 p9 p10 hFd' R hk' hl' hb' => ?_
      cases b' with
      | false => exact ⟨0, by omega, r + 1, kf', F', false, _, _, _, _, _, _, _, rfl, hFd', fun z => (by cases z), fun _ => ⟨rfl, fun v hv0 hvn => by
          obtain ⟨g1, g2⟩ := R.best hpos hB
          obtain ⟨x, hx⟩ := reach_all N.way N.jo hs ⟨hv0, hvn⟩
          obtain ⟨z, hz⟩ := g2 v x hx
          exact ⟨z, hz, g1 v z hz⟩⟩⟩
      | true =>
        have hr2 : r < 1782 := by
          by_cases z : 1782 ≤ r
          · cases hb' z
          · omega
        exact ⟨1800 - (r + 1), by omega, r + 1, kf', F', true, _, _, _, _, _, _, _, rfl, hFd', fun _ => ⟨R.walks, R.bf hpos hW hB, by omega, hk', hl', rfl⟩, fun z => by cases z⟩
  · by_cases e : v = y
    · simp [gK, e]
    · simp [gK, e, fun z : y = v => e z.symm, Ne.symm e]
  · by_cases e : v = y
    · simp [e] at hx
      rw [← hx, e]
      exact .nil
    · simp [e] at hx
  · by_cases e : v = y
    · simp [e] at hx
      rw [← hx]
      simp
    · simp [e] at hx

end Cv
end
section
namespace Cv
open PySem L2
local macro_rules
  | `(tactic| simp_arith) => `(tactic| try simp only [fw_run, wp_ret, wp_bnd, wp_no, wp_lft, wl_some, wl_none, wl_if, wo_some, wp_var, wp_get, wp_getO, wp_putO, wp_setSh, wp_setOw, wp_op, wp_opN, wp_T, wp_chain, wp_and, wp_or, wp_not, wp_notT, wp_andT, wp_orT, wp_if, wp_nil, wp_cons, wp_tup, wp_lst, wp_c1, wp_cN, wp_seq, wp_drop, wp_rt, wp_rtN, wp_set, wp_setO, wp_asg, wp_gtup, wp_gcons, wp_gnil, wp_par, wp_parE, wp_put, wp_for0, wp_itL, wp_itT, wp_itK, wp_rng1, wp_rng2, wp_zip, wp_zipT, wp_call, wp_callF, wp_kind, hid_nil, hid_cons, hidO_sh, hidO_ow, hidO_none, wp_here, wp_callQ, wp_raise, wp_lc0, vRetNone, vYes, vDict0, wl_add, wl_addT, wl_addL, wl_sub, wl_mul, wl_mulL, wl_mod, wl_fdiv, wl_divmod, wl_lt, wl_gt, wl_le, wl_ge, wl_eq, wl_ne, wl_lenL, wl_lenT, wl_lenD, wl_ixL, wl_ixT, wl_setL, wl_abs, wl_max2, wl_min2, wl_intB, wl_tupL, ent, entL, outsOf, noOwn, wipeE, backE, isC_list, isC_dict, isC_tup, isC_int, isC_bool, isC_str, isC_none, isC_tI, isC_dOf, wl_setI, wl_ixI, wl_inI, wl_niI, wp_is, wp_mw, wp_neg, wp_sl, wp_part, wp_noPart, wr_append, wr_extend, ty_list, wl_neg, wl_sl1T, wl_sl1L, wl_all, wl_any, isInt_int, isBool_int, isTuple_tup, isTuple_tI, wl_lenI, wl_ixtI, wl_inL, wl_niL, wl_inT, wl_inT2, wl_ltT, wl_lt2, Option.map_some, Bool.not_not, wl_set4, wl_set2, wl_ix2, wl_ni2, List.all_cons, List.all_nil, List.length_cons, List.length_nil, Nat.reduceAdd, Nat.reduceSub, Nat.reduceLeDiff, List.contains_cons, List.contains_nil, List.replicate, List.cons_append, List.nil_append, List.append_nil, if_true, if_false, ↓reduceIte, true_and, and_true, true_implies, false_implies, implies_true, reduceCtorEq, List.getElem?_cons_zero, List.getElem?_cons_succ, List.getElem?_nil, List.set_cons_zero, List.set_cons_succ, Option.join_some, Option.join_none, Option.isSome_some, atI_0, atI_1, atI_2, atI_3, atI_4, ixN_0, ixN_1, List.take_zero, List.drop_zero, List.take_succ_cons, List.drop_succ_cons, Bool.or_false, Bool.or_true, Bool.true_or, Bool.false_or, Bool.and_true, Bool.and_false, Bool.true_and, Bool.false_and, Bool.not_true, Bool.not_false, Bool.false_eq_true, Bool.not_eq_true', Bool.not_eq_false', Bool.not_eq_eq_eq_not, decide_eq_true_eq, decide_eq_false_iff_not, decide_true, decide_false, Nat.reduceBEq, beq_self_eq_true, Int.reduceLT, Int.reduceLE, Int.reduceNeg, Int.reducePow, Int.reduceToNat, Int.not_lt])
local macro_rules
  | `(tactic| simp_arith [$xs,*] $[$l]?) => `(tactic| simp only [fw_run, wp_ret, wp_bnd, wp_no, wp_lft, wl_some, wl_none, wl_if, wo_some, wp_var, wp_get, wp_getO, wp_putO, wp_setSh, wp_setOw, wp_op, wp_opN, wp_T, wp_chain, wp_and, wp_or, wp_not, wp_notT, wp_andT, wp_orT, wp_if, wp_nil, wp_cons, wp_tup, wp_lst, wp_c1, wp_cN, wp_seq, wp_drop, wp_rt, wp_rtN, wp_set, wp_setO, wp_asg, wp_gtup, wp_gcons, wp_gnil, wp_par, wp_parE, wp_put, wp_for0, wp_itL, wp_itT, wp_itK, wp_rng1, wp_rng2, wp_zip, wp_zipT, wp_call, wp_callF, wp_kind, hid_nil, hid_cons, hidO_sh, hidO_ow, hidO_none, wp_here, wp_callQ, wp_raise, wp_lc0, vRetNone, vYes, vDict0, wl_add, wl_addT, wl_addL, wl_sub, wl_mul, wl_mulL, wl_mod, wl_fdiv, wl_divmod, wl_lt, wl_gt, wl_le, wl_ge, wl_eq, wl_ne, wl_lenL, wl_lenT, wl_lenD, wl_ixL, wl_ixT, wl_setL, wl_abs, wl_max2, wl_min2, wl_intB, wl_tupL, ent, entL, outsOf, noOwn, wipeE, backE, isC_list, isC_dict, isC_tup, isC_int, isC_bool, isC_str, isC_none, isC_tI, isC_dOf, wl_setI, wl_ixI, wl_inI, wl_niI, wp_is, wp_mw, wp_neg, wp_sl, wp_part, wp_noPart, wr_append, wr_extend, ty_list, wl_neg, wl_sl1T, wl_sl1L, wl_all, wl_any, isInt_int, isBool_int, isTuple_tup, isTuple_tI, wl_lenI, wl_ixtI, wl_inL, wl_niL, wl_inT, wl_inT2, wl_ltT, wl_lt2, Option.map_some, Bool.not_not, wl_set4, wl_set2, wl_ix2, wl_ni2, List.all_cons, List.all_nil, List.length_cons, List.length_nil, Nat.reduceAdd, Nat.reduceSub, Nat.reduceLeDiff, List.contains_cons, List.contains_nil, List.replicate, List.cons_append, List.nil_append, List.append_nil, if_true, if_false, ↓reduceIte, true_and, and_true, true_implies, false_implies, implies_true, reduceCtorEq, List.getElem?_cons_zero, List.getElem?_cons_succ, List.getElem?_nil, List.set_cons_zero, List.set_cons_succ, Option.join_some, Option.join_none, Option.isSome_some, atI_0, atI_1, atI_2, atI_3, atI_4, ixN_0, ixN_1, List.take_zero, List.drop_zero, List.take_succ_cons, List.drop_succ_cons, Bool.or_false, Bool.or_true, Bool.true_or, Bool.false_or, Bool.and_true, Bool.and_false, Bool.true_and, Bool.false_and, Bool.not_true, Bool.not_false, Bool.false_eq_true, Bool.not_eq_true', Bool.not_eq_false', Bool.not_eq_eq_eq_not, decide_eq_true_eq, decide_eq_false_iff_not, decide_true, decide_false, Nat.reduceBEq, beq_self_eq_true, Int.reduceLT, Int.reduceLE, Int.reduceNeg, Int.reducePow, Int.reduceToNat, Int.not_lt, $xs,*] $[$l]?)
/-! marks, ways home -/
/-- what is no whole number -/
def oddD : D → Bool
  | .int _ => false
  | _ => true
theorem whole_odd {E : Ex → Prop} {d : D} {lo hi : Int} {q : D → List D → Prop} (hd : oddD d = true) (h : q (.bool false) []) : Fw E m_is_whole [d, .int lo, .int hi] q := by
  unfold m_is_whole b_is_whole
  cases d with
  | int i => cases hd
  | bool b => simp_arith [PyData.isInt, PyData.isBool]; exact h
  | none => simp_arith [PyData.isInt, PyData.isBool]; exact h
  | str s => simp_arith [PyData.isInt, PyData.isBool]; exact h
  | list s => simp_arith [PyData.isInt, PyData.isBool]; exact h
  | tuple s => simp_arith [PyData.isInt, PyData.isBool]; exact h
  | dict s => simp_arith [PyData.isInt, PyData.isBool]; exact h
def markB (ys : List Int) : D → Bool
  | .int i => decide (0 ≤ i ∧ i ≤ 5) && decide (i ∈ ys)
  | _ => false
theorem mark_ok {E : Ex → Prop} {ys : List Int} {ws : List (List Int)} {d : D} {q : D → List D → Prop} (h : q (.bool (markB ys d)) []) : Fw E m_is_mark [netD ys ws, d] q := by
  unfold m_is_mark b_is_mark
  have hl0 : Wl (dIx (netD ys ws) (.int 0)) = fun p => p (.tuple (ys.map .int)) := rfl
  simp_arith []
  cases d with
  | int i =>
    refine whole_ok ?_
    by_cases hi : 0 ≤ i ∧ i ≤ 5
    · simp_arith [decide_eq_true hi, hl0]
      simp only [markB, decide_eq_true hi, Bool.true_and] at h
      exact h
    · simp_arith [decide_eq_false hi]
      simp only [markB, decide_eq_false hi, Bool.false_and] at h
      exact h
  | bool b => refine whole_odd rfl ?_; simp_arith []; exact h
  | none => refine whole_odd rfl ?_; simp_arith []; exact h
  | str s => refine whole_odd rfl ?_; simp_arith []; exact h
  | list s => refine whole_odd rfl ?_; simp_arith []; exact h
  | tuple s => refine whole_odd rfl ?_; simp_arith []; exact h
  | dict s => refine whole_odd rfl ?_; simp_arith []; exact h
theorem need_mark_ok {E : Ex → Prop} {ys : List Int} {ws : List (List Int)} {d : D} {q : D → List D → Prop} (h1 : markB ys d = true → q .none []) (h2 : markB ys d = false → E ⟨"NoMark", []⟩) : Fw E m_need_mark [netD ys ws, d] q := by
  unfold m_need_mark b_need_mark
  simp_arith
  refine mark_ok ?_
  cases hm : markB ys d with
  | true => simp_arith []; exact h1 hm
  | false => simp_arith []; exact h2 hm
theorem need_yard_no {E : Ex → Prop} {ys : List Int} {ws : List (List Int)} {q : D → List D → Prop} (y : Int) (hy : ¬ (0 ≤ y ∧ y < ys.length)) (h : E ⟨"NoYard", []⟩) : Fw E m_need_yard [netD ys ws, .int y] q := by
  unfold m_need_yard b_need_yard netD
  simp_arith
  refine whole_ok ?_
  rw [decide_eq_false (show ¬ (0 ≤ y ∧ y ≤ (ys.length : Int) - 1) from fun z => hy ⟨z.1, by omega⟩)]
  simp_arith
  exact h
theorem need_yard_odd {E : Ex → Prop} {ys : List Int} {ws : List (List Int)} {d : D} {q : D → List D → Prop} (hd : oddD d = true) (h : E ⟨"NoYard", []⟩) : Fw E m_need_yard [netD ys ws, d] q := by
  unfold m_need_yard b_need_yard netD
  simp_arith
  refine whole_odd hd ?_
  simp_arith
  exact h
/-- the least of the nearest paths to a line's yards -/
structure HomeB (ys : List Int) (ws : List (List Int)) (y line : Int) (x : Pth) : Prop where
  at_ : ∃ v : Nat, ys[v]? = some line ∧ Best ws y v x
  le : ∀ (v : Nat) x', ys[v]? = some line → Best ws y v x' → leP x x'
theorem HomeB.uniq {ys : List Int} {ws : List (List Int)} {y line : Int} {x z : Pth} (h1 : HomeB ys ws y line x) (h2 : HomeB ys ws y line z) : x = z := by
  obtain ⟨v, hv, bv⟩ := h1.at_
  obtain ⟨u, hu, bu⟩ := h2.at_
  exact leP_anti (h1.le u z hu bu) (h2.le v x hv bv)
theorem picks {ks : List Int} {F : Int → Option Pth} (h : ∀ k ∈ ks, ∃ x, F k = some x) : ks.map (fun k => ((F k).map pD).getD .none) = (ks.filterMap F).map pD := by
  induction ks with
  | nil => rfl
  | cons k r ih =>
    obtain ⟨x, hx⟩ := h k (by simp)
    simp [hx, ih (fun k hk => h k (by simp [hk]))]
def atB (ys : List Int) (line k : Int) : Bool := decide (ys[k.toNat]? = some line)
/-- of the picked ones the least is the way home -/
theorem home_min {ys : List Int} {ws : List (List Int)} {y line : Int} {ks : List Int} {F : Int → Option Pth} (hk : ∀ k ∈ ks, 0 ≤ k ∧ k < ys.length) (hb : ∀ k ∈ ks, ∀ x, F k = some x → Best ws y k x) (hall : ∀ v : Nat, v < ys.length → (v : Int) ∈ ks ∧ ∃ x, F v = some x) :
    (((ks.filter (atB ys line)).filterMap F = [] ∧ line ∉ ys)) ∨ ∃ x xs, (ks.filter (atB ys line)).filterMap F = x :: xs ∧ HomeB ys ws y line (minP x xs) := by
  have mem : ∀ x, x ∈ (ks.filter (atB ys line)).filterMap F ↔ ∃ k ∈ ks, ys[k.toNat]? = some line ∧ F k = some x := fun x => by
    simp [List.mem_filterMap, List.mem_filter, atB, and_assoc]
  cases hL : (ks.filter (atB ys line)).filterMap F with
  | nil =>
    refine .inl ⟨rfl, fun hm => ?_⟩
    obtain ⟨i, hi, e⟩ := List.getElem_of_mem hm
    obtain ⟨h1, x, h2⟩ := hall i hi
    have : x ∈ (ks.filter (atB ys line)).filterMap F := (mem x).2 ⟨i, h1, by simp [List.getElem?_eq_getElem hi, e], h2⟩
    rw [hL] at this
    cases this
  | cons x xs =>
    refine .inr ⟨x, xs, rfl, ?_, fun v x' hv bv => ?_⟩
    · have hm := minP_mem x xs
      rw [← hL] at hm
      obtain ⟨k, h1, h2, h3⟩ := (mem _).1 hm
      refine ⟨k.toNat, h2, ?_⟩
      rw [Int.toNat_of_nonneg (hk k h1).1]
      exact hb k h1 _ h3
    · have hvl : v < ys.length := (List.getElem?_eq_some_iff.1 hv).1
      obtain ⟨h1, z, h2⟩ := hall v hvl
      have hz : z = x' := (hb v h1 z h2).uniq bv
      subst hz
      refine minP_le x xs z ?_
      rw [← hL]
      exact (mem z).2 ⟨v, h1, by simpa using hv, h2⟩
theorem gK_key {kf : List (Int × D)} {v : Int} : (gK kf v).isSome = true → v ∈ kf.map (·.1) := by
  induction kf with
  | nil => intro h; simp [gK] at h
  | cons p r ih =>
    intro h
    by_cases e : p.1 = v
    · simp [e]
    · simp [gK, e] at h
      simp only [List.map_cons, List.mem_cons]
      exact .inr (ih (by simpa [gK] using h))
theorem key_gK {kf : List (Int × D)} {v : Int} : v ∈ kf.map (·.1) → (gK kf v).isSome = true := by
  induction kf with
  | nil => intro h; simp at h
  | cons p r ih =>
    intro h
    by_cases e : p.1 = v
    · simp [gK, e]
    · simp only [List.map_cons, List.mem_cons] at h
      have := ih (h.resolve_left (fun z => e z.symm))
      simpa [gK, e] using this
theorem atI_ys {ys : List Int} {k : Int} (h0 : 0 ≤ k) : L2.atI ys k = ys[k.toNat]? := by
  obtain ⟨n, rfl⟩ := Int.eq_ofNat_of_zero_le h0
  rw [Int.toNat_natCast]
  exact atI_n
theorem home_ok {E : Ex → Prop} {ys : List Int} {ws : List (List Int)} {y line : Int} {q : D → List D → Prop} (N : NetOk ys ws) (hy0 : 0 ≤ y) (hyn : y < ys.length) (hm : line ∈ ys) (h : ∀ x, HomeB ys ws y line x → q (pD x) []) : Fw E m_home_path [netD ys ws, .int y, .int line] q := by
  unfold m_home_path b_home_path
  simp_arith
  refine paths_okL N hy0 hyn fun kf F hkl hFd hall hbest => ?_
  have hl0 : Wl (dIx (netD ys ws) (.int 0)) = fun p => p (tI ys) := rfl
  have hkeys : (kf.map fun p => (PyData.int p.1, p.2)).map (·.1) = (kf.map (·.1)).map PyData.int := by simp [List.map_map, Function.comp_def]
  have hdo : dOf PyData.int kf = .dict (kf.map fun p => (PyData.int p.1, p.2)) := rfl
  have hin : ∀ k : Int, k ∈ kf.map (·.1) → (0 ≤ k ∧ k < ys.length) ∧ ∃ x, F k = some x := fun k hk => by
    have hs := key_gK hk
    rw [hFd.is] at hs
    obtain ⟨x, hx⟩ := Option.isSome_iff_exists.1 hs
    exact ⟨wk_in N.way ⟨hy0, hyn⟩ (hbest k x hx).1, x, hx⟩
  simp_arith
  rw [hdo]
  simp_arith
  rw [← hdo, hkeys]
  refine lc_pick (key := PyData.int) (atB ys line) (fun k => ((F k).map pD).getD .none) (fun ρ => ∃ o, ρ = [some ⟨false, netD ys ws⟩, some ⟨false, .int y⟩, some ⟨false, .int line⟩, some ⟨false, dOf PyData.int kf⟩, o]) (kf.map (·.1)) (by rw [List.length_map]; omega) ⟨_, rfl⟩ ?_ ?_
  · rintro k hk ρ ⟨o, rfl⟩
    obtain ⟨⟨h0, h1⟩, x, hx⟩ := hin k hk
    have hkn : k.toNat < ys.length := by omega
    simp_arith [hl0, atI_ys h0, List.getElem?_eq_getElem hkn, hFd k, hx, Option.getD_some, atB]
    refine ⟨fun hne => ⟨by simpa using hne, _, rfl⟩, fun he => ⟨by simpa using he, _, rfl⟩⟩
  · rintro ρ ⟨o, rfl⟩
    rw [picks (fun k hk => (hin k (List.mem_filter.1 hk).1).2)]
    rcases home_min (ys := ys) (ws := ws) (y := y) (line := line) (ks := kf.map (·.1)) (F := F) (fun k hk => (hin k hk).1) (fun k _ x hx => hbest k x hx) (fun v hv => by
      obtain ⟨x, hx, _⟩ := hall v (by omega) (by omega)
      exact ⟨gK_key (by rw [hFd.is, hx]; rfl), x, hx⟩) with ⟨_, hn⟩ | ⟨x, xs, hL, hH⟩
    · exact (hn hm).elim
    · rw [hL]
      simp_arith [wl_minP]
      exact h _ hH
theorem wayhome_ok {E : Ex → Prop} {ys : List Int} {ws : List (List Int)} {y : Int} {d : D} {q : D → List D → Prop} (N : NetOk ys ws) (hy0 : 0 ≤ y) (hyn : y < ys.length) (h : ∀ line x, d = .int line → line ∈ ys → HomeB ys ws y line x → q (tI x.2) []) (h2 : markB ys d = false → E ⟨"NoMark", []⟩) : Fw E m_way_home [netD ys ws, .int y, d] q := by
  unfold m_way_home b_way_home
  simp_arith
  refine need_net_ok N ?_
  simp_arith
  refine need_yard_ok hy0 hyn ?_
  simp_arith
  refine need_mark_ok (fun hmk => ?_) h2
  simp_arith
  cases d with
  | int line =>
    have hm : line ∈ ys := by
      simp only [markB, Bool.and_eq_true, decide_eq_true_eq] at hmk
      exact hmk.2
    refine home_ok N hy0 hyn hm fun x hH => ?_
    have hx2 : Wl (dIx (pD x) (.int 1)) = fun p => p (tI x.2) := rfl
    simp_arith [hx2]
    exact h line x rfl hm hH
  | _ => cases hmk
theorem wayhome_no {E : Ex → Prop} {ys : List Int} {ws : List (List Int)} {y : Int} {d : D} {q : D → List D → Prop} (N : NetOk ys ws) (hy : ¬ (0 ≤ y ∧ y < ys.length)) (h : E ⟨"NoYard", []⟩) : Fw E m_way_home [netD ys ws, .int y, d] q := by
  unfold m_way_home b_way_home
  simp_arith
  refine need_net_ok N ?_
  simp_arith
  exact need_yard_no y hy h
/-- at a yard of the line itself -/
theorem HomeB.here {ys : List Int} {ws : List (List Int)} {y : Nat} {line : Int} (N : NetOk ys ws) (hy : ys[y]? = some line) : HomeB ys ws y line (0, [(y : Int)]) := by
  have hpos := edg_pos N.way
  have least : ∀ v x, Wk ws y v x → leP (0, [(y : Int)]) x := fun v x hx => by
    cases hx with
    | nil => exact leP_refl _
    | step hw e =>
      have h1 := hpos _ _ _ e
      have h2 := hw.len hpos
      have h3 := List.length_pos_iff.2 hw.ne
      unfold leP ltP extP
      rw [if_neg (by simp only; omega)]
      simp only [decide_eq_false_iff_not]
      omega
  exact ⟨⟨y, hy, .nil, least y⟩, fun v x' _ hb => least v x' hb.1⟩

end Cv
end
section
namespace Cv
open PySem L2
local macro_rules
  | `(tactic| simp_arith) => `(tactic| try simp only [fw_run, wp_ret, wp_bnd, wp_no, wp_lft, wl_some, wl_none, wl_if, wo_some, wp_var, wp_get, wp_getO, wp_putO, wp_setSh, wp_setOw, wp_op, wp_opN, wp_T, wp_chain, wp_and, wp_or, wp_not, wp_notT, wp_andT, wp_orT, wp_if, wp_nil, wp_cons, wp_tup, wp_lst, wp_c1, wp_cN, wp_seq, wp_drop, wp_rt, wp_rtN, wp_set, wp_setO, wp_asg, wp_gtup, wp_gcons, wp_gnil, wp_par, wp_parE, wp_put, wp_for0, wp_itL, wp_itT, wp_itK, wp_rng1, wp_rng2, wp_zip, wp_zipT, wp_call, wp_callF, wp_kind, hid_nil, hid_cons, hidO_sh, hidO_ow, hidO_none, wp_here, wp_callQ, wp_raise, wp_lc0, vRetNone, vYes, vDict0, wl_add, wl_addT, wl_addL, wl_sub, wl_mul, wl_mulL, wl_mod, wl_fdiv, wl_divmod, wl_lt, wl_gt, wl_le, wl_ge, wl_eq, wl_ne, wl_lenL, wl_lenT, wl_lenD, wl_ixL, wl_ixT, wl_setL, wl_abs, wl_max2, wl_min2, wl_intB, wl_tupL, ent, entL, outsOf, noOwn, wipeE, backE, isC_list, isC_dict, isC_tup, isC_int, isC_bool, isC_str, isC_none, isC_tI, isC_dOf, wl_setI, wl_ixI, wl_inI, wl_niI, wp_is, wp_mw, wp_neg, wp_sl, wp_part, wp_noPart, wr_append, wr_extend, ty_list, wl_neg, wl_sl1T, wl_sl1L, wl_all, wl_any, isInt_int, isBool_int, isTuple_tup, isTuple_tI, wl_lenI, wl_ixtI, wl_inL, wl_niL, wl_inT, wl_inT2, wl_ltT, wl_lt2, Option.map_some, Bool.not_not, wl_set4, wl_set2, wl_ix2, wl_ni2, List.all_cons, List.all_nil, List.length_cons, List.length_nil, Nat.reduceAdd, Nat.reduceSub, Nat.reduceLeDiff, List.contains_cons, List.contains_nil, List.replicate, List.cons_append, List.nil_append, List.append_nil, if_true, if_false, ↓reduceIte, true_and, and_true, true_implies, false_implies, implies_true, reduceCtorEq, List.getElem?_cons_zero, List.getElem?_cons_succ, List.getElem?_nil, List.set_cons_zero, List.set_cons_succ, Option.join_some, Option.join_none, Option.isSome_some, atI_0, atI_1, atI_2, atI_3, atI_4, ixN_0, ixN_1, List.take_zero, List.drop_zero, List.take_succ_cons, List.drop_succ_cons, Bool.or_false, Bool.or_true, Bool.true_or, Bool.false_or, Bool.and_true, Bool.and_false, Bool.true_and, Bool.false_and, Bool.not_true, Bool.not_false, Bool.false_eq_true, Bool.not_eq_true', Bool.not_eq_false', Bool.not_eq_eq_eq_not, decide_eq_true_eq, decide_eq_false_iff_not, decide_true, decide_false, Nat.reduceBEq, beq_self_eq_true, Int.reduceLT, Int.reduceLE, Int.reduceNeg, Int.reducePow, Int.reduceToNat, Int.not_lt])
local macro_rules
  | `(tactic| simp_arith [$xs,*] $[$l]?) => `(tactic| simp only [fw_run, wp_ret, wp_bnd, wp_no, wp_lft, wl_some, wl_none, wl_if, wo_some, wp_var, wp_get, wp_getO, wp_putO, wp_setSh, wp_setOw, wp_op, wp_opN, wp_T, wp_chain, wp_and, wp_or, wp_not, wp_notT, wp_andT, wp_orT, wp_if, wp_nil, wp_cons, wp_tup, wp_lst, wp_c1, wp_cN, wp_seq, wp_drop, wp_rt, wp_rtN, wp_set, wp_setO, wp_asg, wp_gtup, wp_gcons, wp_gnil, wp_par, wp_parE, wp_put, wp_for0, wp_itL, wp_itT, wp_itK, wp_rng1, wp_rng2, wp_zip, wp_zipT, wp_call, wp_callF, wp_kind, hid_nil, hid_cons, hidO_sh, hidO_ow, hidO_none, wp_here, wp_callQ, wp_raise, wp_lc0, vRetNone, vYes, vDict0, wl_add, wl_addT, wl_addL, wl_sub, wl_mul, wl_mulL, wl_mod, wl_fdiv, wl_divmod, wl_lt, wl_gt, wl_le, wl_ge, wl_eq, wl_ne, wl_lenL, wl_lenT, wl_lenD, wl_ixL, wl_ixT, wl_setL, wl_abs, wl_max2, wl_min2, wl_intB, wl_tupL, ent, entL, outsOf, noOwn, wipeE, backE, isC_list, isC_dict, isC_tup, isC_int, isC_bool, isC_str, isC_none, isC_tI, isC_dOf, wl_setI, wl_ixI, wl_inI, wl_niI, wp_is, wp_mw, wp_neg, wp_sl, wp_part, wp_noPart, wr_append, wr_extend, ty_list, wl_neg, wl_sl1T, wl_sl1L, wl_all, wl_any, isInt_int, isBool_int, isTuple_tup, isTuple_tI, wl_lenI, wl_ixtI, wl_inL, wl_niL, wl_inT, wl_inT2, wl_ltT, wl_lt2, Option.map_some, Bool.not_not, wl_set4, wl_set2, wl_ix2, wl_ni2, List.all_cons, List.all_nil, List.length_cons, List.length_nil, Nat.reduceAdd, Nat.reduceSub, Nat.reduceLeDiff, List.contains_cons, List.contains_nil, List.replicate, List.cons_append, List.nil_append, List.append_nil, if_true, if_false, ↓reduceIte, true_and, and_true, true_implies, false_implies, implies_true, reduceCtorEq, List.getElem?_cons_zero, List.getElem?_cons_succ, List.getElem?_nil, List.set_cons_zero, List.set_cons_succ, Option.join_some, Option.join_none, Option.isSome_some, atI_0, atI_1, atI_2, atI_3, atI_4, ixN_0, ixN_1, List.take_zero, List.drop_zero, List.take_succ_cons, List.drop_succ_cons, Bool.or_false, Bool.or_true, Bool.true_or, Bool.false_or, Bool.and_true, Bool.and_false, Bool.true_and, Bool.false_and, Bool.not_true, Bool.not_false, Bool.false_eq_true, Bool.not_eq_true', Bool.not_eq_false', Bool.not_eq_eq_eq_not, decide_eq_true_eq, decide_eq_false_iff_not, decide_true, decide_false, Nat.reduceBEq, beq_self_eq_true, Int.reduceLT, Int.reduceLE, Int.reduceNeg, Int.reducePow, Int.reduceToNat, Int.not_lt, $xs,*] $[$l]?)
/-! k06: the law -/
theorem shown_ints : ∀ xs : List Int, (∀ v ∈ xs, 0 ≤ v ∧ v < 10 ^ 18) → PyData.showableAll (xs.map .int) = true ∧ PyData.hasDictAll (xs.map .int) = false ∧ ((PyData.shownAll (xs.map .int)).map (·.length)).sum ≤ 18 * xs.length ∧ (PyData.shownAll (xs.map .int)).length = xs.length
  | [], _ => by simp [PyData.showableAll, PyData.hasDictAll, PyData.shownAll]
  | v :: r, h => by
    obtain ⟨h1, h2, h3, h4⟩ := shown_ints r (fun v hv => h v (by simp [hv]))
    obtain ⟨a, b⟩ := h v (by simp)
    have hb : v.natAbs.log2 < 1920 := by
      rcases Nat.eq_zero_or_pos v.natAbs with hz | hz
      · rw [hz]; decide
      · have : v.natAbs < 2 ^ 64 := by omega
        have := (Nat.log2_lt (by omega)).2 this
        omega
    have hl := PyProof.Rows.toString_length_le a (k := 18) (by decide) b
    refine ⟨?_, ?_, ?_, ?_⟩
    · simp [PyData.showableAll, PyData.showable, hb, h1]
    · simp [PyData.hasDictAll, PyData.hasDict, h2]
    · simp only [List.map_cons, PyData.shownAll, PyData.shown, List.sum_cons, List.length_cons]
      have : (PySem.Str.ofString (toString v)).length ≤ 18 := hl
      show (PySem.Str.ofString (toString v)).length + _ ≤ _
      omega
    · simp [PyData.shownAll, h4]
theorem wl_reprT {xs : List Int} {p : D → Prop} (hl : xs.length ≤ 3000) (h : ∀ v ∈ xs, 0 ≤ v ∧ v < 10 ^ 18) : Wl (dRepr (tI xs)) p = p (.str (tI xs).shown) := by
  obtain ⟨h1, h2, h3, h4⟩ := shown_ints xs h
  have e : dRepr (tI xs) = some (.str (tI xs).shown) := by
    have g1 : (tI xs).showable = true := by unfold tI; rw [PyData.showable]; exact h1
    have g2 : (tI xs).hasDict = false := by unfold tI; rw [PyData.hasDict]; exact h2
    have g3 := depth_tI xs
    have g4 : (tI xs).shown.length ≤ sizeLine := by
      unfold tI
      rw [PyData.shown, sizeLine_eq]
      have := tupleText_len_le (PyData.shownAll (xs.map .int))
      omega
    unfold tI at *
    simp only [dRepr, g1, g2, g4, Bool.not_false, Bool.and_self, decide_true, Bool.true_and, Bool.and_true]
    rw [if_pos (by simp; omega)]
  rw [e, wl_some]
theorem wl_neS {x : Str} {p : D → Prop} : Wl (dNe (.str x) (.str x)) p = p (.bool false) := by
  simp [dNe, dEqB, Wl]
theorem best_len {ys : List Int} {ws : List (List Int)} (N : NetOk ys ws) {s v : Int} (hs : 0 ≤ s ∧ s < ys.length) {x : Pth} (hb : Best ws s v x) : x.2.length ≤ 2000 := by
  have hpos := edg_pos N.way
  obtain ⟨z, hz, hl⟩ := reach_far N.ten N.way N.jo hs (wk_in N.way hs hb.1)
  have h1 := hb.2 z hz
  have h2 := hb.1.len hpos
  have h3 : x.1 ≤ z.1 := by
    unfold leP ltP at h1
    by_cases e : z.1 = x.1
    · omega
    · rw [if_neg e] at h1
      simp at h1
      omega
  omega
theorem wk_yards {n : Nat} {ws : List (List Int)} (hw : ∀ x ∈ ws, WayOk n x) {s : Int} (hs : 0 ≤ s ∧ s < n) {v : Int} {x : Pth} (h : Wk ws s v x) : ∀ u ∈ x.2, 0 ≤ u ∧ u < n := by
  induction h with
  | nil => intro u hu; simp at hu; subst hu; exact hs
  | step h e ih =>
    intro u hu
    simp only [extP, List.mem_append, List.mem_singleton] at hu
    rcases hu with hu | rfl
    · exact ih u hu
    · exact (edg_in hw e).2.1
theorem ks_mark : ks__law_kind ⟨"NoMark", []⟩ = some (.str "mark") := by rfl
theorem ks_yard : ks__law_kind ⟨"NoYard", []⟩ = some (.str "yard") := by rfl
theorem ks_net : ks__law_kind ⟨"NoNet", []⟩ = some (.str "net") := by rfl
theorem wl_eqP {xs : List Pth} {p : D → Prop} : Wl (dEq (.list (xs.map pD)) (.list [])) p = p (.bool (decide (xs = []))) := by
  have h0 := gd_pDs xs
  have h1 := gd_pDs []
  have e : dEqB (.list (xs.map pD)) (.list []) = some (decide (xs = [])) := by
    simp only [dEqB, h0, show gd (.list []) = true from h1, Bool.and_self, if_true]
    cases xs <;> simp [PyData.eqv, PyData.eqvAll]
  simp only [dEq, e, Option.map_some, wl_some]
theorem wl_neT {xs ys : List Int} {p : D → Prop} : Wl (dNe (tI xs) (tI ys)) p = p (.bool (!decide (xs = ys))) := by
  have e : dEqB (tI xs) (tI ys) = some (decide (xs = ys)) := by
    have h := eqv_tI xs ys
    have g1 := gd_tI xs
    have g2 := gd_tI ys
    unfold tI at h g1 g2 ⊢
    simp only [dEqB, g1, g2, Bool.and_self, if_true, h]
  simp only [dNe, e, Option.map_some, wl_some]
theorem law_told (ns : List Int) : m_law [.list (ns.map .int)] = some (.ret (.bool true) []) := by
  refine Fw.told ?_
  unfold m_law b_law
  simp_arith
  refine (wp_seqL (fun _ => True) ?_ fun ρ _ => ?_)
  rotate_left
  · simp_arith
  simp_arith
  generalize hc : (if (if (3 : Int) < ((ns.map PyData.int).length : Int) then 3 else ((ns.map PyData.int).length : Int)) > 1 then if (3 : Int) < ((ns.map PyData.int).length : Int) then 3 else ((ns.map PyData.int).length : Int) else 1) = c
  have hc3 : 0 ≤ c ∧ c ≤ 3 := by
    rw [← hc]
    split
    · split <;> omega
    · omega
  refine ⟨by omega, ?_⟩
  refine (wp_for (fun xs ρ => ∃ (o1 o2 o3 o4 o5 o6 o7 o8 o9 : Option Sl) (i : Nat), ρ = [some ⟨false, .list (ns.map .int)⟩, o1, o2, o3, o4, o5, o6, o7, o8, o9, none] ∧ xs = (rngD 0 c.toNat).drop i) ?_ ?_ _ _ ⟨_, _, _, _, _, _, _, _, _, 0, rfl, by simp⟩)
  rotate_left
  · rintro ρ ⟨o1, o2, o3, o4, o5, o6, o7, o8, o9, i, rfl, _⟩
    trivial
  · rintro x r ρ ⟨o1, o2, o3, o4, o5, o6, o7, o8, o9, i, rfl, hx⟩
    obtain ⟨hi2, rfl, hr⟩ := rng_drop hx
    have h0 : (0 : Int) + i = i := by omega
    rw [h0]
    simp_arith
    refine (box_ok (by omega) fun n1 s1 => ?_)
    simp_arith
    refine (take_ok (by decide) (by decide) fun t n2 s2 ht1 ht2 => ?_)
    have two : ∀ (p : D → Prop), (∀ f : Int, 0 < f → f ≤ 10 → p (.int f)) → Wl (L2.atI [PyData.int 4, PyData.int 10] t) p := by
      intro p hp
      have : t = 0 ∨ t = 1 := by omega
      rcases this with rfl | rfl
      · exact hp 4 (by decide) (by decide)
      · exact hp 10 (by decide) (by decide)
    simp_arith
    refine (two _ fun m hm1 hm2 => ?_)
    simp_arith
    refine (net_ok hm1 hm2 fun ys ws n3 s3 N _ => ?_)
    have hl0 : Wl (dIx (netD ys ws) (.int 0)) = fun p => p (tI ys) := rfl
    have hn10 := N.ten
    have h1 := N.one
    simp_arith [hl0]
    refine (wp_seqL (fun ρ => ∃ o5 o6 o7 o8 o9 : Option Sl, ρ = [some ⟨false, .list (ns.map .int)⟩, some ⟨false, .int i⟩, some ⟨true, bx n3 s3⟩, some ⟨false, netD ys ws⟩, some ⟨false, .int ys.length⟩, o5, o6, o7, o8, o9, none]) ?_ ?_)
    · simp_arith
      refine ⟨by omega, ?_⟩
      rw [Int.toNat_natCast]
      refine (wp_for (fun xs ρ => ∃ (o5 o6 o7 o8 o9 : Option Sl) (j : Nat), ρ = [some ⟨false, .list (ns.map .int)⟩, some ⟨false, .int i⟩, some ⟨true, bx n3 s3⟩, some ⟨false, netD ys ws⟩, some ⟨false, .int ys.length⟩, o5, o6, o7, o8, o9, none] ∧ xs = (rngD 0 ys.length).drop j) ?_ ?_ _ _ ⟨_, _, _, _, _, 0, rfl, by simp⟩)
      rotate_left
      · rintro ρ ⟨o5, o6, o7, o8, o9, j, rfl, _⟩
        exact ⟨_, _, _, _, _, rfl⟩
      rintro x r2 ρ ⟨o5, o6, o7, o8, o9, j, rfl, hx2⟩
      obtain ⟨hj2, rfl, hr2⟩ := rng_drop hx2
      have h0 : (0 : Int) + j = j := by omega
      rw [h0]
      simp_arith
      refine (lpaths_ok N (by omega) (by omega) fun kf F hFd hall => ?_)
      simp_arith
      refine (wp_seqL (fun ρ => ∃ o7 o8 o9 : Option Sl, ρ = [some ⟨false, .list (ns.map .int)⟩, some ⟨false, .int i⟩, some ⟨true, bx n3 s3⟩, some ⟨false, netD ys ws⟩, some ⟨false, .int ys.length⟩, some ⟨false, .int j⟩, some ⟨false, dOf PyData.int kf⟩, o7, o8, o9, none]) ?_ ?_)
      · simp_arith
        refine (wp_for (fun xs ρ => ∃ (o7 o8 : Option Sl) (k : Nat), ρ = [some ⟨false, .list (ns.map .int)⟩, some ⟨false, .int i⟩, some ⟨true, bx n3 s3⟩, some ⟨false, netD ys ws⟩, some ⟨false, .int ys.length⟩, some ⟨false, .int j⟩, some ⟨false, dOf PyData.int kf⟩, o7, o8, o9, none] ∧ xs = (rngD 0 6).drop k) ?_ ?_ _ _ ⟨_, _, 0, rfl, by simp⟩)
        rotate_left
        · rintro ρ ⟨o7, o8, k, rfl, _⟩
          exact ⟨_, _, _, rfl⟩
        rintro x r3 ρ ⟨o7, o8, k, rfl, hx3⟩
        obtain ⟨hk2, rfl, hr3⟩ := rng_drop hx3
        have h0 : (0 : Int) + k = k := by omega
        rw [h0]
        simp_arith
        refine ⟨by omega, ?_⟩
        rw [Int.toNat_natCast, rngD_map]
        have hF2 : ∀ v : Nat, v < ys.length → ∃ x, F v = some x ∧ Best ws j v x := fun v hv => hall v (by omega) (by omega)
        refine lc_pick (key := PyData.int) (atB ys k) (fun k => ((F k).map pD).getD .none) (fun ρ => ∃ o, ρ = [some ⟨false, .list (ns.map .int)⟩, some ⟨false, .int i⟩, some ⟨true, bx n3 s3⟩, some ⟨false, netD ys ws⟩, some ⟨false, .int ys.length⟩, some ⟨false, .int j⟩, some ⟨false, dOf PyData.int kf⟩, some ⟨false, .int k⟩, o8, o9, o]) _ (by simp; omega) ⟨_, rfl⟩ ?_ ?_
        · rintro v hv ρ ⟨o, rfl⟩
          obtain ⟨v, hv2, rfl⟩ := List.mem_map.1 hv
          rw [List.mem_range] at hv2
          obtain ⟨x, hx, _⟩ := hF2 v hv2
          simp_arith [hl0, atI_ys (Int.natCast_nonneg v), Int.toNat_natCast, List.getElem?_eq_getElem hv2, hFd v, hx, Option.getD_some, atB]
          refine ⟨fun hne => ⟨by simpa using hne, _, rfl⟩, fun he => ⟨by simpa using he, _, rfl⟩⟩
        · rintro ρ ⟨o, rfl⟩
          have hks : ∀ v : Int, v ∈ (List.range ys.length).map (fun k : Nat => (k : Int)) → (0 ≤ v ∧ v < ys.length) ∧ ∃ x, F v = some x ∧ Best ws j v x := fun v hv => by
            obtain ⟨v, hv2, rfl⟩ := List.mem_map.1 hv
            rw [List.mem_range] at hv2
            exact ⟨by omega, hF2 v hv2⟩
          rw [picks (fun v hv => let ⟨_, x, hx, _⟩ := hks v (List.mem_filter.1 hv).1; ⟨x, hx⟩)]
          rcases home_min (ys := ys) (ws := ws) (y := j) (line := k) (ks := (List.range ys.length).map (fun k : Nat => (k : Int))) (F := F) (fun v hv => (hks v hv).1) (fun v hv x hx => by
              obtain ⟨_, x', hx', hb⟩ := hks v hv
              rw [hx] at hx'
              cases hx'
              exact hb) (fun v hv => ⟨List.mem_map.2 ⟨v, List.mem_range.2 hv, rfl⟩, let ⟨x, hx, _⟩ := hF2 v hv; ⟨x, hx⟩⟩) with ⟨hL, hn⟩ | ⟨x, xs, hL, hH⟩
          · rw [hL]
            simp_arith [wl_eqP]
            refine (wayhome_ok N (by omega) (by omega) (fun line x e hm _ => ?_) fun _ => ?_)
            · injection e with e
              exact (hn (e ▸ hm)).elim
            · simp_arith [ks_mark, wl_neS]
              exact ⟨_, _, k + 1, rfl, hr3⟩
          · rw [hL]
            simp_arith [wl_eqP]
            obtain ⟨v, hv, hb⟩ := hH.at_
            have hlen := best_len N ⟨by omega, by omega⟩ hb
            have hyd := wk_yards N.way (s := j) ⟨by omega, by omega⟩ hb.1
            refine (wayhome_ok N (by omega) (by omega) (fun line z e hm hH2 => ?_) fun hmk => ?_)
            · injection e with e
              subst e
              have hz := hH2.uniq hH
              subst hz
              have hr1 : ∀ p, Wl (dRepr (tI (minP x xs).2)) p = p (.str (tI (minP x xs).2).shown) := fun p => wl_reprT (by omega) (fun u hu => by have := hyd u hu; omega)
              have hx2 : Wl (dIx (pD (minP x xs)) (.int 1)) = fun p => p (tI (minP x xs).2) := rfl
              simp_arith [hr1, wl_minP, hx2, wl_neS]
              exact ⟨_, _, k + 1, rfl, hr3⟩
            · have h5 := N.yd k (List.mem_of_getElem? hv)
              simp [markB, List.mem_of_getElem? hv] at hmk
              omega
      · rintro ρ ⟨o7, o8, o9, rfl⟩
        simp_arith [hl0, atI_ys (Int.natCast_nonneg j), Int.toNat_natCast, List.getElem?_eq_getElem hj2]
        refine (wayhome_ok N (by omega) (by omega) (fun line x e hm hH => ?_) fun hmk => ?_)
        · injection e with e
          have hx := hH.uniq (HomeB.here N (by rw [List.getElem?_eq_getElem hj2, e]))
          subst hx
          have ht : (PyData.tuple [PyData.int j]) = tI [(j : Int)] := rfl
          simp_arith [ht, wl_neT]
          exact ⟨_, _, _, _, _, j + 1, rfl, hr2⟩
        · have h5 := N.yd ys[j] (List.getElem_mem hj2)
          simp [markB] at hmk
          omega
    · rintro ρ ⟨o5, o6, o7, o8, o9, rfl⟩
      have hpw : ∀ p : D → Prop, Wl (dPow (.int 10) (.int 19)) p = p (.int (10 ^ 19)) := fun p => rfl
      simp_arith [hpw]
      refine (wp_for (fun xs ρ => ∃ (o5 o6 o7 o8 o9 : Option Sl), ρ = [some ⟨false, .list (ns.map .int)⟩, some ⟨false, .int i⟩, some ⟨true, bx n3 s3⟩, some ⟨false, netD ys ws⟩, some ⟨false, .int ys.length⟩, o5, o6, o7, o8, o9, none] ∧ ∀ d ∈ xs, markB ys d = false) ?_ ?_ _ _ ⟨_, _, _, _, _, rfl, ?_⟩)
      · rintro d r2 ρ ⟨o5, o6, o7, o8, o9, rfl, hd⟩
        simp_arith
        refine (wayhome_ok N (by decide) (by omega) (fun line x e hm _ => ?_) fun _ => ?_)
        · have := hd d (by simp)
          subst e
          have h5 := N.yd line hm
          simp [markB, hm] at this
          omega
        · simp_arith [ks_mark, wl_neS]
          refine wayhome_no N (by omega) ?_
          simp_arith [ks_yard, wl_neS]
          exact ⟨_, _, _, _, _, rfl, fun d' h' => hd d' (by simp [h'])⟩
      · rintro ρ ⟨o5, o6, o7, o8, o9, rfl, _⟩
        exact ⟨_, _, _, _, _, _, _, _, _, i + 1, rfl, hr⟩
      · simp [markB]

end Cv
end
section
namespace Cv
open PySem L2
variable {P : Program} {w : World} {K : PySem.W.Frag} {mg : Str → Option Value} {base : Heap} {A : Ad}
/-! ### what the top has left -/
theorem all_mk {h : Heap} {fa : Addr} {f_is_whole : Addr} {od_is_whole an_is_whole : Option Addr} {sl_is_whole : Array (Option Value)} {oc_is_whole kV_is_whole dc_is_whole pm_is_whole ct_is_whole : Value} {cd_is_whole : Value}
    {f_is_rising : Addr} {od_is_rising an_is_rising : Option Addr} {sl_is_rising : Array (Option Value)} {oc_is_rising kV_is_rising dc_is_rising pm_is_rising ct_is_rising : Value} {cd_is_rising : Value}
    {f_is_way : Addr} {od_is_way an_is_way : Option Addr} {sl_is_way : Array (Option Value)} {oc_is_way kV_is_way dc_is_way pm_is_way ct_is_way : Value} {cd_is_way : Value}
    {f_are_joined : Addr} {od_are_joined an_are_joined : Option Addr} {sl_are_joined : Array (Option Value)} {oc_are_joined kV_are_joined dc_are_joined pm_are_joined ct_are_joined : Value} {cd_are_joined : Value}
    {f_is_net : Addr} {od_is_net an_is_net : Option Addr} {sl_is_net : Array (Option Value)} {oc_is_net kV_is_net dc_is_net pm_is_net ct_is_net : Value} {cd_is_net : Value}
    {f_need_net : Addr} {od_need_net an_need_net : Option Addr} {sl_need_net : Array (Option Value)} {oc_need_net kV_need_net dc_need_net pm_need_net ct_need_net : Value} {cd_need_net : Value}
    {f_need_yard : Addr} {od_need_yard an_need_yard : Option Addr} {sl_need_yard : Array (Option Value)} {oc_need_yard kV_need_yard dc_need_yard pm_need_yard ct_need_yard : Value} {cd_need_yard : Value}
    {f_is_mark : Addr} {od_is_mark an_is_mark : Option Addr} {sl_is_mark : Array (Option Value)} {oc_is_mark kV_is_mark dc_is_mark pm_is_mark ct_is_mark : Value} {cd_is_mark : Value}
    {f_need_mark : Addr} {od_need_mark an_need_mark : Option Addr} {sl_need_mark : Array (Option Value)} {oc_need_mark kV_need_mark dc_need_mark pm_need_mark ct_need_mark : Value} {cd_need_mark : Value}
    {f_links : Addr} {od_links an_links : Option Addr} {sl_links : Array (Option Value)} {oc_links kV_links dc_links pm_links ct_links : Value} {cd_links : Value}
    {f_paths_from : Addr} {od_paths_from an_paths_from : Option Addr} {sl_paths_from : Array (Option Value)} {oc_paths_from kV_paths_from dc_paths_from pm_paths_from ct_paths_from : Value} {cd_paths_from : Value}
    {f_home_path : Addr} {od_home_path an_home_path : Option Addr} {sl_home_path : Array (Option Value)} {oc_home_path kV_home_path dc_home_path pm_home_path ct_home_path : Value} {cd_home_path : Value}
    {f_way_home : Addr} {od_way_home an_way_home : Option Addr} {sl_way_home : Array (Option Value)} {oc_way_home kV_way_home dc_way_home pm_way_home ct_way_home : Value} {cd_way_home : Value}
    {f__law_box : Addr} {od__law_box an__law_box : Option Addr} {sl__law_box : Array (Option Value)} {oc__law_box kV__law_box dc__law_box pm__law_box ct__law_box : Value} {cd__law_box : Value}
    {f__law_more : Addr} {od__law_more an__law_more : Option Addr} {sl__law_more : Array (Option Value)} {oc__law_more kV__law_more dc__law_more pm__law_more ct__law_more : Value} {cd__law_more : Value}
    {f__law_take : Addr} {od__law_take an__law_take : Option Addr} {sl__law_take : Array (Option Value)} {oc__law_take kV__law_take dc__law_take pm__law_take ct__law_take : Value} {cd__law_take : Value}
    {f__law_kind : Addr} {od__law_kind an__law_kind : Option Addr} {sl__law_kind : Array (Option Value)} {oc__law_kind kV__law_kind dc__law_kind pm__law_kind ct__law_kind : Value} {cd__law_kind : Value}
    {f__law_net : Addr} {od__law_net an__law_net : Option Addr} {sl__law_net : Array (Option Value)} {oc__law_net kV__law_net dc__law_net pm__law_net ct__law_net : Value} {cd__law_net : Value}
    {f__law_paths : Addr} {od__law_paths an__law_paths : Option Addr} {sl__law_paths : Array (Option Value)} {oc__law_paths kV__law_paths dc__law_paths pm__law_paths ct__law_paths : Value} {cd__law_paths : Value}
    {f_law : Addr} {od_law an_law : Option Addr} {sl_law : Array (Option Value)} {oc_law kV_law dc_law pm_law ct_law : Value} {cc_law : Addr}
    {t_LAST_LINE : Tok}
    {t_MOST_YARDS : Tok}
    {t_MOST_WAYS : Tok}
    {t_MOST_MILES : Tok}
    {f_CoverError : Addr}
    {f_NoNet : Addr}
    {f_NoYard : Addr}
    {f_NoMark : Addr}
    {f_NoPage : Addr}
    {f_NoCover : Addr}
    {f_NoDay : Addr}
    {f_NoTariff : Addr}
    {f_NoBalance : Addr}
    {f_NoStray : Addr}
    {f_NoTrip : Addr}
    {f_NoPrice : Addr}
    {f_NoLine : Addr}
    {f_Gone : Addr}
    {f_Nothing : Addr}
    {f_Clash : Addr}
    {f_NoText : Addr}
    {f_TooMany : Addr}
    (X : K.In h) (G : h.Ns mainGlobals mg) (hfa : mg "law" = some (.ref fa))
    (a_is_whole : PySem.W.nsIn K mainGlobals "is_whole" = some (some (.ref f_is_whole)))
    (l_is_whole : K.lookup f_is_whole = some ⟨oc_is_whole, od_is_whole, .func (PySem.W.fnOf "is_whole" "is_whole" (defArgs s_is_whole) (defBody s_is_whole) (defScope s_is_whole) .none kV_is_whole dc_is_whole pm_is_whole an_is_whole cd_is_whole ct_is_whole), sl_is_whole⟩)
    (c_is_whole : PySem.W.codeIn K cd_is_whole "is_whole" = true)
    (k_is_whole : PySem.W.keepIn K (.ref f_is_whole) = true)
    (a_is_rising : PySem.W.nsIn K mainGlobals "is_rising" = some (some (.ref f_is_rising)))
    (l_is_rising : K.lookup f_is_rising = some ⟨oc_is_rising, od_is_rising, .func (PySem.W.fnOf "is_rising" "is_rising" (defArgs s_is_rising) (defBody s_is_rising) (defScope s_is_rising) .none kV_is_rising dc_is_rising pm_is_rising an_is_rising cd_is_rising ct_is_rising), sl_is_rising⟩)
    (c_is_rising : PySem.W.codeIn K cd_is_rising "is_rising" = true)
    (k_is_rising : PySem.W.keepIn K (.ref f_is_rising) = true)
    (a_is_way : PySem.W.nsIn K mainGlobals "is_way" = some (some (.ref f_is_way)))
    (l_is_way : K.lookup f_is_way = some ⟨oc_is_way, od_is_way, .func (PySem.W.fnOf "is_way" "is_way" (defArgs s_is_way) (defBody s_is_way) (defScope s_is_way) .none kV_is_way dc_is_way pm_is_way an_is_way cd_is_way ct_is_way), sl_is_way⟩)
    (c_is_way : PySem.W.codeIn K cd_is_way "is_way" = true)
    (k_is_way : PySem.W.keepIn K (.ref f_is_way) = true)
    (a_are_joined : PySem.W.nsIn K mainGlobals "are_joined" = some (some (.ref f_are_joined)))
    (l_are_joined : K.lookup f_are_joined = some ⟨oc_are_joined, od_are_joined, .func (PySem.W.fnOf "are_joined" "are_joined" (defArgs s_are_joined) (defBody s_are_joined) (defScope s_are_joined) .none kV_are_joined dc_are_joined pm_are_joined an_are_joined cd_are_joined ct_are_joined), sl_are_joined⟩)
    (c_are_joined : PySem.W.codeIn K cd_are_joined "are_joined" = true)
    (k_are_joined : PySem.W.keepIn K (.ref f_are_joined) = true)
    (a_is_net : PySem.W.nsIn K mainGlobals "is_net" = some (some (.ref f_is_net)))
    (l_is_net : K.lookup f_is_net = some ⟨oc_is_net, od_is_net, .func (PySem.W.fnOf "is_net" "is_net" (defArgs s_is_net) (defBody s_is_net) (defScope s_is_net) .none kV_is_net dc_is_net pm_is_net an_is_net cd_is_net ct_is_net), sl_is_net⟩)
    (c_is_net : PySem.W.codeIn K cd_is_net "is_net" = true)
    (k_is_net : PySem.W.keepIn K (.ref f_is_net) = true)
    (a_need_net : PySem.W.nsIn K mainGlobals "need_net" = some (some (.ref f_need_net)))
    (l_need_net : K.lookup f_need_net = some ⟨oc_need_net, od_need_net, .func (PySem.W.fnOf "need_net" "need_net" (defArgs s_need_net) (defBody s_need_net) (defScope s_need_net) .none kV_need_net dc_need_net pm_need_net an_need_net cd_need_net ct_need_net), sl_need_net⟩)
    (c_need_net : PySem.W.codeIn K cd_need_net "need_net" = true)
    (k_need_net : PySem.W.keepIn K (.ref f_need_net) = true)
    (a_need_yard : PySem.W.nsIn K mainGlobals "need_yard" = some (some (.ref f_need_yard)))
    (l_need_yard : K.lookup f_need_yard = some ⟨oc_need_yard, od_need_yard, .func (PySem.W.fnOf "need_yard" "need_yard" (defArgs s_need_yard) (defBody s_need_yard) (defScope s_need_yard) .none kV_need_yard dc_need_yard pm_need_yard an_need_yard cd_need_yard ct_need_yard), sl_need_yard⟩)
    (c_need_yard : PySem.W.codeIn K cd_need_yard "need_yard" = true)
    (k_need_yard : PySem.W.keepIn K (.ref f_need_yard) = true)
    (a_is_mark : PySem.W.nsIn K mainGlobals "is_mark" = some (some (.ref f_is_mark)))
    (l_is_mark : K.lookup f_is_mark = some ⟨oc_is_mark, od_is_mark, .func (PySem.W.fnOf "is_mark" "is_mark" (defArgs s_is_mark) (defBody s_is_mark) (defScope s_is_mark) .none kV_is_mark dc_is_mark pm_is_mark an_is_mark cd_is_mark ct_is_mark), sl_is_mark⟩)
    (c_is_mark : PySem.W.codeIn K cd_is_mark "is_mark" = true)
    (k_is_mark : PySem.W.keepIn K (.ref f_is_mark) = true)
    (a_need_mark : PySem.W.nsIn K mainGlobals "need_mark" = some (some (.ref f_need_mark)))
    (l_need_mark : K.lookup f_need_mark = some ⟨oc_need_mark, od_need_mark, .func (PySem.W.fnOf "need_mark" "need_mark" (defArgs s_need_mark) (defBody s_need_mark) (defScope s_need_mark) .none kV_need_mark dc_need_mark pm_need_mark an_need_mark cd_need_mark ct_need_mark), sl_need_mark⟩)
    (c_need_mark : PySem.W.codeIn K cd_need_mark "need_mark" = true)
    (k_need_mark : PySem.W.keepIn K (.ref f_need_mark) = true)
    (a_links : PySem.W.nsIn K mainGlobals "links" = some (some (.ref f_links)))
    (l_links : K.lookup f_links = some ⟨oc_links, od_links, .func (PySem.W.fnOf "links" "links" (defArgs s_links) (defBody s_links) (defScope s_links) .none kV_links dc_links pm_links an_links cd_links ct_links), sl_links⟩)
    (c_links : PySem.W.codeIn K cd_links "links" = true)
    (k_links : PySem.W.keepIn K (.ref f_links) = true)
    (a_paths_from : PySem.W.nsIn K mainGlobals "paths_from" = some (some (.ref f_paths_from)))
    (l_paths_from : K.lookup f_paths_from = some ⟨oc_paths_from, od_paths_from, .func (PySem.W.fnOf "paths_from" "paths_from" (defArgs s_paths_from) (defBody s_paths_from) (defScope s_paths_from) .none kV_paths_from dc_paths_from pm_paths_from an_paths_from cd_paths_from ct_paths_from), sl_paths_from⟩)
    (c_paths_from : PySem.W.codeIn K cd_paths_from "paths_from" = true)
    (k_paths_from : PySem.W.keepIn K (.ref f_paths_from) = true)
    (a_home_path : PySem.W.nsIn K mainGlobals "home_path" = some (some (.ref f_home_path)))
    (l_home_path : K.lookup f_home_path = some ⟨oc_home_path, od_home_path, .func (PySem.W.fnOf "home_path" "home_path" (defArgs s_home_path) (defBody s_home_path) (defScope s_home_path) .none kV_home_path dc_home_path pm_home_path an_home_path cd_home_path ct_home_path), sl_home_path⟩)
    (c_home_path : PySem.W.codeIn K cd_home_path "home_path" = true)
    (k_home_path : PySem.W.keepIn K (.ref f_home_path) = true)
    (a_way_home : PySem.W.nsIn K mainGlobals "way_home" = some (some (.ref f_way_home)))
    (l_way_home : K.lookup f_way_home = some ⟨oc_way_home, od_way_home, .func (PySem.W.fnOf "way_home" "way_home" (defArgs s_way_home) (defBody s_way_home) (defScope s_way_home) .none kV_way_home dc_way_home pm_way_home an_way_home cd_way_home ct_way_home), sl_way_home⟩)
    (c_way_home : PySem.W.codeIn K cd_way_home "way_home" = true)
    (k_way_home : PySem.W.keepIn K (.ref f_way_home) = true)
    (a__law_box : PySem.W.nsIn K mainGlobals "_law_box" = some (some (.ref f__law_box)))
    (l__law_box : K.lookup f__law_box = some ⟨oc__law_box, od__law_box, .func (PySem.W.fnOf "_law_box" "_law_box" (defArgs s__law_box) (defBody s__law_box) (defScope s__law_box) .none kV__law_box dc__law_box pm__law_box an__law_box cd__law_box ct__law_box), sl__law_box⟩)
    (c__law_box : PySem.W.codeIn K cd__law_box "_law_box" = true)
    (k__law_box : PySem.W.keepIn K (.ref f__law_box) = true)
    (a__law_more : PySem.W.nsIn K mainGlobals "_law_more" = some (some (.ref f__law_more)))
    (l__law_more : K.lookup f__law_more = some ⟨oc__law_more, od__law_more, .func (PySem.W.fnOf "_law_more" "_law_more" (defArgs s__law_more) (defBody s__law_more) (defScope s__law_more) .none kV__law_more dc__law_more pm__law_more an__law_more cd__law_more ct__law_more), sl__law_more⟩)
    (c__law_more : PySem.W.codeIn K cd__law_more "_law_more" = true)
    (k__law_more : PySem.W.keepIn K (.ref f__law_more) = true)
    (a__law_take : PySem.W.nsIn K mainGlobals "_law_take" = some (some (.ref f__law_take)))
    (l__law_take : K.lookup f__law_take = some ⟨oc__law_take, od__law_take, .func (PySem.W.fnOf "_law_take" "_law_take" (defArgs s__law_take) (defBody s__law_take) (defScope s__law_take) .none kV__law_take dc__law_take pm__law_take an__law_take cd__law_take ct__law_take), sl__law_take⟩)
    (c__law_take : PySem.W.codeIn K cd__law_take "_law_take" = true)
    (k__law_take : PySem.W.keepIn K (.ref f__law_take) = true)
    (a__law_kind : PySem.W.nsIn K mainGlobals "_law_kind" = some (some (.ref f__law_kind)))
    (l__law_kind : K.lookup f__law_kind = some ⟨oc__law_kind, od__law_kind, .func (PySem.W.fnOf "_law_kind" "_law_kind" (defArgs s__law_kind) (defBody s__law_kind) (defScope s__law_kind) .none kV__law_kind dc__law_kind pm__law_kind an__law_kind cd__law_kind ct__law_kind), sl__law_kind⟩)
    (c__law_kind : PySem.W.codeIn K cd__law_kind "_law_kind" = true)
    (k__law_kind : PySem.W.keepIn K (.ref f__law_kind) = true)
    (a__law_net : PySem.W.nsIn K mainGlobals "_law_net" = some (some (.ref f__law_net)))
    (l__law_net : K.lookup f__law_net = some ⟨oc__law_net, od__law_net, .func (PySem.W.fnOf "_law_net" "_law_net" (defArgs s__law_net) (defBody s__law_net) (defScope s__law_net) .none kV__law_net dc__law_net pm__law_net an__law_net cd__law_net ct__law_net), sl__law_net⟩)
    (c__law_net : PySem.W.codeIn K cd__law_net "_law_net" = true)
    (k__law_net : PySem.W.keepIn K (.ref f__law_net) = true)
    (a__law_paths : PySem.W.nsIn K mainGlobals "_law_paths" = some (some (.ref f__law_paths)))
    (l__law_paths : K.lookup f__law_paths = some ⟨oc__law_paths, od__law_paths, .func (PySem.W.fnOf "_law_paths" "_law_paths" (defArgs s__law_paths) (defBody s__law_paths) (defScope s__law_paths) .none kV__law_paths dc__law_paths pm__law_paths an__law_paths cd__law_paths ct__law_paths), sl__law_paths⟩)
    (c__law_paths : PySem.W.codeIn K cd__law_paths "_law_paths" = true)
    (k__law_paths : PySem.W.keepIn K (.ref f__law_paths) = true)
    (a_law : PySem.W.nsIn K mainGlobals "law" = some (some (.ref f_law)))
    (l_law : K.lookup f_law = some ⟨oc_law, od_law, .func (PySem.W.fnOf "law" "law" (defArgs s_law) (defBody s_law) (defScope s_law) .none kV_law dc_law pm_law an_law (.ref cc_law) ct_law), sl_law⟩)
    (c_law : PySem.W.codeIn K (.ref cc_law) "law" = true)
    (k_law : PySem.W.keepIn K (.ref f_law) = true)
    (z_ValueError : PySem.W.nsIn K mainGlobals "ValueError" = some none)
    (z_abs : PySem.W.nsIn K mainGlobals "abs" = some none)
    (z_all : PySem.W.nsIn K mainGlobals "all" = some none)
    (z_bool : PySem.W.nsIn K mainGlobals "bool" = some none)
    (z_divmod : PySem.W.nsIn K mainGlobals "divmod" = some none)
    (z_int : PySem.W.nsIn K mainGlobals "int" = some none)
    (z_isinstance : PySem.W.nsIn K mainGlobals "isinstance" = some none)
    (z_len : PySem.W.nsIn K mainGlobals "len" = some none)
    (z_max : PySem.W.nsIn K mainGlobals "max" = some none)
    (z_min : PySem.W.nsIn K mainGlobals "min" = some none)
    (z_range : PySem.W.nsIn K mainGlobals "range" = some none)
    (z_repr : PySem.W.nsIn K mainGlobals "repr" = some none)
    (z_sorted : PySem.W.nsIn K mainGlobals "sorted" = some none)
    (z_tuple : PySem.W.nsIn K mainGlobals "tuple" = some none)
    (z_zip : PySem.W.nsIn K mainGlobals "zip" = some none)
    (n_LAST_LINE : PySem.W.nsIn K mainGlobals "LAST_LINE" = some (some (.int 5 t_LAST_LINE)))
    (n_MOST_YARDS : PySem.W.nsIn K mainGlobals "MOST_YARDS" = some (some (.int 10 t_MOST_YARDS)))
    (n_MOST_WAYS : PySem.W.nsIn K mainGlobals "MOST_WAYS" = some (some (.int 24 t_MOST_WAYS)))
    (n_MOST_MILES : PySem.W.nsIn K mainGlobals "MOST_MILES" = some (some (.int 99 t_MOST_MILES)))
    (a_CoverError : PySem.W.nsIn K mainGlobals "CoverError" = some (some (.ref f_CoverError)))
    (a_NoNet : PySem.W.nsIn K mainGlobals "NoNet" = some (some (.ref f_NoNet)))
    (a_NoYard : PySem.W.nsIn K mainGlobals "NoYard" = some (some (.ref f_NoYard)))
    (a_NoMark : PySem.W.nsIn K mainGlobals "NoMark" = some (some (.ref f_NoMark)))
    (a_NoPage : PySem.W.nsIn K mainGlobals "NoPage" = some (some (.ref f_NoPage)))
    (a_NoCover : PySem.W.nsIn K mainGlobals "NoCover" = some (some (.ref f_NoCover)))
    (a_NoDay : PySem.W.nsIn K mainGlobals "NoDay" = some (some (.ref f_NoDay)))
    (a_NoTariff : PySem.W.nsIn K mainGlobals "NoTariff" = some (some (.ref f_NoTariff)))
    (a_NoBalance : PySem.W.nsIn K mainGlobals "NoBalance" = some (some (.ref f_NoBalance)))
    (a_NoStray : PySem.W.nsIn K mainGlobals "NoStray" = some (some (.ref f_NoStray)))
    (a_NoTrip : PySem.W.nsIn K mainGlobals "NoTrip" = some (some (.ref f_NoTrip)))
    (a_NoPrice : PySem.W.nsIn K mainGlobals "NoPrice" = some (some (.ref f_NoPrice)))
    (a_NoLine : PySem.W.nsIn K mainGlobals "NoLine" = some (some (.ref f_NoLine)))
    (a_Gone : PySem.W.nsIn K mainGlobals "Gone" = some (some (.ref f_Gone)))
    (a_Nothing : PySem.W.nsIn K mainGlobals "Nothing" = some (some (.ref f_Nothing)))
    (a_Clash : PySem.W.nsIn K mainGlobals "Clash" = some (some (.ref f_Clash)))
    (a_NoText : PySem.W.nsIn K mainGlobals "NoText" = some (some (.ref f_NoText)))
    (a_TooMany : PySem.W.nsIn K mainGlobals "TooMany" = some (some (.ref f_TooMany)))
    (xkp_NoMark : PySem.W.keepIn K (.ref f_NoMark) = true)
    (xbs_NoMark : PySem.W.subIn K (.ref f_NoMark) (.type "BaseException") = some true)
    (xty_NoMark : PySem.W.typeIn K (.ref f_NoMark) = some (.type "type"))
    (xis_NoMark : PySem.W.isClsIn K f_NoMark = true)
    (xhg_NoMark : PySem.W.findIn K (.ref f_NoMark) "__getattribute__" = some (some (.builtin "BaseException.__getattribute__")))
    (xhk_NoMark : PySem.W.findIn K (.ref f_NoMark) "__getattr__" = some none)
    (xhd_NoMark : PySem.W.hasDictIn K f_NoMark = true)
    (xha_NoMark : PySem.W.findIn K (.ref f_NoMark) "__class__" = some (some (.builtin "object.__class__")))
    (xhn_NoMark : PySem.W.specialIn K (.builtin "object.__class__") "__get__" = some (some (.builtin "getset_descriptor.__get__")))
    (xht_NoMark : PySem.W.takesIn K (.builtin "object.__class__") = some true)
    (xhm_NoMark : PySem.W.mroIn K f_NoMark (.type "object") = some true)
    (r_NoMark : PySem.W.excIn K f_NoMark [.type "ValueError", .type "Exception", .type "BaseException", .type "object"] "ValueError.__new__" = true)
    (k_NoMark_NoNet : PySem.W.kitOne K (.ref f_NoMark) (.ref f_NoNet) = some false)
    (k_NoMark_NoYard : PySem.W.kitOne K (.ref f_NoMark) (.ref f_NoYard) = some false)
    (k_NoMark_NoMark : PySem.W.kitOne K (.ref f_NoMark) (.ref f_NoMark) = some true)
    (k_NoMark_NoPage : PySem.W.kitOne K (.ref f_NoMark) (.ref f_NoPage) = some false)
    (k_NoMark_NoCover : PySem.W.kitOne K (.ref f_NoMark) (.ref f_NoCover) = some false)
    (k_NoMark_NoDay : PySem.W.kitOne K (.ref f_NoMark) (.ref f_NoDay) = some false)
    (k_NoMark_NoTariff : PySem.W.kitOne K (.ref f_NoMark) (.ref f_NoTariff) = some false)
    (k_NoMark_NoBalance : PySem.W.kitOne K (.ref f_NoMark) (.ref f_NoBalance) = some false)
    (k_NoMark_NoStray : PySem.W.kitOne K (.ref f_NoMark) (.ref f_NoStray) = some false)
    (k_NoMark_NoTrip : PySem.W.kitOne K (.ref f_NoMark) (.ref f_NoTrip) = some false)
    (k_NoMark_NoPrice : PySem.W.kitOne K (.ref f_NoMark) (.ref f_NoPrice) = some false)
    (k_NoMark_NoLine : PySem.W.kitOne K (.ref f_NoMark) (.ref f_NoLine) = some false)
    (k_NoMark_Gone : PySem.W.kitOne K (.ref f_NoMark) (.ref f_Gone) = some false)
    (k_NoMark_Nothing : PySem.W.kitOne K (.ref f_NoMark) (.ref f_Nothing) = some false)
    (k_NoMark_Clash : PySem.W.kitOne K (.ref f_NoMark) (.ref f_Clash) = some false)
    (k_NoMark_NoText : PySem.W.kitOne K (.ref f_NoMark) (.ref f_NoText) = some false)
    (k_NoMark_TooMany : PySem.W.kitOne K (.ref f_NoMark) (.ref f_TooMany) = some false)
    (v_NoMark : PySem.W.kitOne K (.ref f_NoMark) (.type "ValueError") = some true)
    (m_NoMark : PySem.W.exmOne K (.ref f_NoMark) (.ref f_CoverError) = some true)
    (xkp_NoNet : PySem.W.keepIn K (.ref f_NoNet) = true)
    (xbs_NoNet : PySem.W.subIn K (.ref f_NoNet) (.type "BaseException") = some true)
    (xty_NoNet : PySem.W.typeIn K (.ref f_NoNet) = some (.type "type"))
    (xis_NoNet : PySem.W.isClsIn K f_NoNet = true)
    (xhg_NoNet : PySem.W.findIn K (.ref f_NoNet) "__getattribute__" = some (some (.builtin "BaseException.__getattribute__")))
    (xhk_NoNet : PySem.W.findIn K (.ref f_NoNet) "__getattr__" = some none)
    (xhd_NoNet : PySem.W.hasDictIn K f_NoNet = true)
    (xha_NoNet : PySem.W.findIn K (.ref f_NoNet) "__class__" = some (some (.builtin "object.__class__")))
    (xhn_NoNet : PySem.W.specialIn K (.builtin "object.__class__") "__get__" = some (some (.builtin "getset_descriptor.__get__")))
    (xht_NoNet : PySem.W.takesIn K (.builtin "object.__class__") = some true)
    (xhm_NoNet : PySem.W.mroIn K f_NoNet (.type "object") = some true)
    (r_NoNet : PySem.W.excIn K f_NoNet [.type "ValueError", .type "Exception", .type "BaseException", .type "object"] "ValueError.__new__" = true)
    (k_NoNet_NoNet : PySem.W.kitOne K (.ref f_NoNet) (.ref f_NoNet) = some true)
    (k_NoNet_NoYard : PySem.W.kitOne K (.ref f_NoNet) (.ref f_NoYard) = some false)
    (k_NoNet_NoMark : PySem.W.kitOne K (.ref f_NoNet) (.ref f_NoMark) = some false)
    (k_NoNet_NoPage : PySem.W.kitOne K (.ref f_NoNet) (.ref f_NoPage) = some false)
    (k_NoNet_NoCover : PySem.W.kitOne K (.ref f_NoNet) (.ref f_NoCover) = some false)
    (k_NoNet_NoDay : PySem.W.kitOne K (.ref f_NoNet) (.ref f_NoDay) = some false)
    (k_NoNet_NoTariff : PySem.W.kitOne K (.ref f_NoNet) (.ref f_NoTariff) = some false)
    (k_NoNet_NoBalance : PySem.W.kitOne K (.ref f_NoNet) (.ref f_NoBalance) = some false)
    (k_NoNet_NoStray : PySem.W.kitOne K (.ref f_NoNet) (.ref f_NoStray) = some false)
    (k_NoNet_NoTrip : PySem.W.kitOne K (.ref f_NoNet) (.ref f_NoTrip) = some false)
    (k_NoNet_NoPrice : PySem.W.kitOne K (.ref f_NoNet) (.ref f_NoPrice) = some false)
    (k_NoNet_NoLine : PySem.W.kitOne K (.ref f_NoNet) (.ref f_NoLine) = some false)
    (k_NoNet_Gone : PySem.W.kitOne K (.ref f_NoNet) (.ref f_Gone) = some false)
    (k_NoNet_Nothing : PySem.W.kitOne K (.ref f_NoNet) (.ref f_Nothing) = some false)
    (k_NoNet_Clash : PySem.W.kitOne K (.ref f_NoNet) (.ref f_Clash) = some false)
    (k_NoNet_NoText : PySem.W.kitOne K (.ref f_NoNet) (.ref f_NoText) = some false)
    (k_NoNet_TooMany : PySem.W.kitOne K (.ref f_NoNet) (.ref f_TooMany) = some false)
    (v_NoNet : PySem.W.kitOne K (.ref f_NoNet) (.type "ValueError") = some true)
    (m_NoNet : PySem.W.exmOne K (.ref f_NoNet) (.ref f_CoverError) = some true)
    (xkp_NoYard : PySem.W.keepIn K (.ref f_NoYard) = true)
    (xbs_NoYard : PySem.W.subIn K (.ref f_NoYard) (.type "BaseException") = some true)
    (xty_NoYard : PySem.W.typeIn K (.ref f_NoYard) = some (.type "type"))
    (xis_NoYard : PySem.W.isClsIn K f_NoYard = true)
    (xhg_NoYard : PySem.W.findIn K (.ref f_NoYard) "__getattribute__" = some (some (.builtin "BaseException.__getattribute__")))
    (xhk_NoYard : PySem.W.findIn K (.ref f_NoYard) "__getattr__" = some none)
    (xhd_NoYard : PySem.W.hasDictIn K f_NoYard = true)
    (xha_NoYard : PySem.W.findIn K (.ref f_NoYard) "__class__" = some (some (.builtin "object.__class__")))
    (xhn_NoYard : PySem.W.specialIn K (.builtin "object.__class__") "__get__" = some (some (.builtin "getset_descriptor.__get__")))
    (xht_NoYard : PySem.W.takesIn K (.builtin "object.__class__") = some true)
    (xhm_NoYard : PySem.W.mroIn K f_NoYard (.type "object") = some true)
    (r_NoYard : PySem.W.excIn K f_NoYard [.type "ValueError", .type "Exception", .type "BaseException", .type "object"] "ValueError.__new__" = true)
    (k_NoYard_NoNet : PySem.W.kitOne K (.ref f_NoYard) (.ref f_NoNet) = some false)
    (k_NoYard_NoYard : PySem.W.kitOne K (.ref f_NoYard) (.ref f_NoYard) = some true)
    (k_NoYard_NoMark : PySem.W.kitOne K (.ref f_NoYard) (.ref f_NoMark) = some false)
    (k_NoYard_NoPage : PySem.W.kitOne K (.ref f_NoYard) (.ref f_NoPage) = some false)
    (k_NoYard_NoCover : PySem.W.kitOne K (.ref f_NoYard) (.ref f_NoCover) = some false)
    (k_NoYard_NoDay : PySem.W.kitOne K (.ref f_NoYard) (.ref f_NoDay) = some false)
    (k_NoYard_NoTariff : PySem.W.kitOne K (.ref f_NoYard) (.ref f_NoTariff) = some false)
    (k_NoYard_NoBalance : PySem.W.kitOne K (.ref f_NoYard) (.ref f_NoBalance) = some false)
    (k_NoYard_NoStray : PySem.W.kitOne K (.ref f_NoYard) (.ref f_NoStray) = some false)
    (k_NoYard_NoTrip : PySem.W.kitOne K (.ref f_NoYard) (.ref f_NoTrip) = some false)
    (k_NoYard_NoPrice : PySem.W.kitOne K (.ref f_NoYard) (.ref f_NoPrice) = some false)
    (k_NoYard_NoLine : PySem.W.kitOne K (.ref f_NoYard) (.ref f_NoLine) = some false)
    (k_NoYard_Gone : PySem.W.kitOne K (.ref f_NoYard) (.ref f_Gone) = some false)
    (k_NoYard_Nothing : PySem.W.kitOne K (.ref f_NoYard) (.ref f_Nothing) = some false)
    (k_NoYard_Clash : PySem.W.kitOne K (.ref f_NoYard) (.ref f_Clash) = some false)
    (k_NoYard_NoText : PySem.W.kitOne K (.ref f_NoYard) (.ref f_NoText) = some false)
    (k_NoYard_TooMany : PySem.W.kitOne K (.ref f_NoYard) (.ref f_TooMany) = some false)
    (v_NoYard : PySem.W.kitOne K (.ref f_NoYard) (.type "ValueError") = some true)
    (m_NoYard : PySem.W.exmOne K (.ref f_NoYard) (.ref f_CoverError) = some true) :
    ∃ A : Ad, Txt K mg A ∧ fa = A.law ∧ (A.fd_law.code = .ref cc_law) ∧ ∀ (s : Shared) (u : Value), BindsTo s A.fd_law ⟨[u], []⟩ [("_law_script", u)] := by
  have e := hfa.symm.trans (PySem.W.mg_of X G a_law)
  injection e with e
  injection e with e
  refine ⟨⟨f_is_whole, PySem.W.fnOf "is_whole" "is_whole" (defArgs s_is_whole) (defBody s_is_whole) (defScope s_is_whole) .none kV_is_whole dc_is_whole pm_is_whole an_is_whole cd_is_whole ct_is_whole,
    f_is_rising, PySem.W.fnOf "is_rising" "is_rising" (defArgs s_is_rising) (defBody s_is_rising) (defScope s_is_rising) .none kV_is_rising dc_is_rising pm_is_rising an_is_rising cd_is_rising ct_is_rising,
    f_is_way, PySem.W.fnOf "is_way" "is_way" (defArgs s_is_way) (defBody s_is_way) (defScope s_is_way) .none kV_is_way dc_is_way pm_is_way an_is_way cd_is_way ct_is_way,
    f_are_joined, PySem.W.fnOf "are_joined" "are_joined" (defArgs s_are_joined) (defBody s_are_joined) (defScope s_are_joined) .none kV_are_joined dc_are_joined pm_are_joined an_are_joined cd_are_joined ct_are_joined,
    f_is_net, PySem.W.fnOf "is_net" "is_net" (defArgs s_is_net) (defBody s_is_net) (defScope s_is_net) .none kV_is_net dc_is_net pm_is_net an_is_net cd_is_net ct_is_net,
    f_need_net, PySem.W.fnOf "need_net" "need_net" (defArgs s_need_net) (defBody s_need_net) (defScope s_need_net) .none kV_need_net dc_need_net pm_need_net an_need_net cd_need_net ct_need_net,
    f_need_yard, PySem.W.fnOf "need_yard" "need_yard" (defArgs s_need_yard) (defBody s_need_yard) (defScope s_need_yard) .none kV_need_yard dc_need_yard pm_need_yard an_need_yard cd_need_yard ct_need_yard,
    f_is_mark, PySem.W.fnOf "is_mark" "is_mark" (defArgs s_is_mark) (defBody s_is_mark) (defScope s_is_mark) .none kV_is_mark dc_is_mark pm_is_mark an_is_mark cd_is_mark ct_is_mark,
    f_need_mark, PySem.W.fnOf "need_mark" "need_mark" (defArgs s_need_mark) (defBody s_need_mark) (defScope s_need_mark) .none kV_need_mark dc_need_mark pm_need_mark an_need_mark cd_need_mark ct_need_mark,
    f_links, PySem.W.fnOf "links" "links" (defArgs s_links) (defBody s_links) (defScope s_links) .none kV_links dc_links pm_links an_links cd_links ct_links,
    f_paths_from, PySem.W.fnOf "paths_from" "paths_from" (defArgs s_paths_from) (defBody s_paths_from) (defScope s_paths_from) .none kV_paths_from dc_paths_from pm_paths_from an_paths_from cd_paths_from ct_paths_from,
    f_home_path, PySem.W.fnOf "home_path" "home_path" (defArgs s_home_path) (defBody s_home_path) (defScope s_home_path) .none kV_home_path dc_home_path pm_home_path an_home_path cd_home_path ct_home_path,
    f_way_home, PySem.W.fnOf "way_home" "way_home" (defArgs s_way_home) (defBody s_way_home) (defScope s_way_home) .none kV_way_home dc_way_home pm_way_home an_way_home cd_way_home ct_way_home,
    f__law_box, PySem.W.fnOf "_law_box" "_law_box" (defArgs s__law_box) (defBody s__law_box) (defScope s__law_box) .none kV__law_box dc__law_box pm__law_box an__law_box cd__law_box ct__law_box,
    f__law_more, PySem.W.fnOf "_law_more" "_law_more" (defArgs s__law_more) (defBody s__law_more) (defScope s__law_more) .none kV__law_more dc__law_more pm__law_more an__law_more cd__law_more ct__law_more,
    f__law_take, PySem.W.fnOf "_law_take" "_law_take" (defArgs s__law_take) (defBody s__law_take) (defScope s__law_take) .none kV__law_take dc__law_take pm__law_take an__law_take cd__law_take ct__law_take,
    f__law_kind, PySem.W.fnOf "_law_kind" "_law_kind" (defArgs s__law_kind) (defBody s__law_kind) (defScope s__law_kind) .none kV__law_kind dc__law_kind pm__law_kind an__law_kind cd__law_kind ct__law_kind,
    f__law_net, PySem.W.fnOf "_law_net" "_law_net" (defArgs s__law_net) (defBody s__law_net) (defScope s__law_net) .none kV__law_net dc__law_net pm__law_net an__law_net cd__law_net ct__law_net,
    f__law_paths, PySem.W.fnOf "_law_paths" "_law_paths" (defArgs s__law_paths) (defBody s__law_paths) (defScope s__law_paths) .none kV__law_paths dc__law_paths pm__law_paths an__law_paths cd__law_paths ct__law_paths,
    f_law, PySem.W.fnOf "law" "law" (defArgs s_law) (defBody s_law) (defScope s_law) .none kV_law dc_law pm_law an_law (.ref cc_law) ct_law,
    f_CoverError,
    f_NoNet,
    f_NoYard,
    f_NoMark,
    f_NoPage,
    f_NoCover,
    f_NoDay,
    f_NoTariff,
    f_NoBalance,
    f_NoStray,
    f_NoTrip,
    f_NoPrice,
    f_NoLine,
    f_Gone,
    f_Nothing,
    f_Clash,
    f_NoText,
    f_TooMany⟩, ?_, e, rfl, fun s u => .of_eq rfl⟩
  exact ⟨PySem.W.mg_of X G a_is_whole,
    fun_mk l_is_whole c_is_whole k_is_whole,
    (fun_mk (st := s_is_whole) l_is_whole c_is_whole k_is_whole).binds (ps := P_is_whole) fun _ _ _ _ _ _ us hl => match us, hl with | [_, _, _], _ => rfl,
    PySem.W.mg_of X G a_is_rising,
    fun_mk l_is_rising c_is_rising k_is_rising,
    (fun_mk (st := s_is_rising) l_is_rising c_is_rising k_is_rising).binds (ps := P_is_rising) fun _ _ _ _ _ _ us hl => match us, hl with | [_], _ => rfl,
    PySem.W.mg_of X G a_is_way,
    fun_mk l_is_way c_is_way k_is_way,
    (fun_mk (st := s_is_way) l_is_way c_is_way k_is_way).binds (ps := P_is_way) fun _ _ _ _ _ _ us hl => match us, hl with | [_, _], _ => rfl,
    PySem.W.mg_of X G a_are_joined,
    fun_mk l_are_joined c_are_joined k_are_joined,
    (fun_mk (st := s_are_joined) l_are_joined c_are_joined k_are_joined).binds (ps := P_are_joined) fun _ _ _ _ _ _ us hl => match us, hl with | [_, _], _ => rfl,
    PySem.W.mg_of X G a_is_net,
    fun_mk l_is_net c_is_net k_is_net,
    (fun_mk (st := s_is_net) l_is_net c_is_net k_is_net).binds (ps := P_is_net) fun _ _ _ _ _ _ us hl => match us, hl with | [_], _ => rfl,
    PySem.W.mg_of X G a_need_net,
    fun_mk l_need_net c_need_net k_need_net,
    (fun_mk (st := s_need_net) l_need_net c_need_net k_need_net).binds (ps := P_need_net) fun _ _ _ _ _ _ us hl => match us, hl with | [_], _ => rfl,
    PySem.W.mg_of X G a_need_yard,
    fun_mk l_need_yard c_need_yard k_need_yard,
    (fun_mk (st := s_need_yard) l_need_yard c_need_yard k_need_yard).binds (ps := P_need_yard) fun _ _ _ _ _ _ us hl => match us, hl with | [_, _], _ => rfl,
    PySem.W.mg_of X G a_is_mark,
    fun_mk l_is_mark c_is_mark k_is_mark,
    (fun_mk (st := s_is_mark) l_is_mark c_is_mark k_is_mark).binds (ps := P_is_mark) fun _ _ _ _ _ _ us hl => match us, hl with | [_, _], _ => rfl,
    PySem.W.mg_of X G a_need_mark,
    fun_mk l_need_mark c_need_mark k_need_mark,
    (fun_mk (st := s_need_mark) l_need_mark c_need_mark k_need_mark).binds (ps := P_need_mark) fun _ _ _ _ _ _ us hl => match us, hl with | [_, _], _ => rfl,
    PySem.W.mg_of X G a_links,
    fun_mk l_links c_links k_links,
    (fun_mk (st := s_links) l_links c_links k_links).binds (ps := P_links) fun _ _ _ _ _ _ us hl => match us, hl with | [_], _ => rfl,
    PySem.W.mg_of X G a_paths_from,
    fun_mk l_paths_from c_paths_from k_paths_from,
    (fun_mk (st := s_paths_from) l_paths_from c_paths_from k_paths_from).binds (ps := P_paths_from) fun _ _ _ _ _ _ us hl => match us, hl with | [_, _], _ => rfl,
    PySem.W.mg_of X G a_home_path,
    fun_mk l_home_path c_home_path k_home_path,
    (fun_mk (st := s_home_path) l_home_path c_home_path k_home_path).binds (ps := P_home_path) fun _ _ _ _ _ _ us hl => match us, hl with | [_, _, _], _ => rfl,
    PySem.W.mg_of X G a_way_home,
    fun_mk l_way_home c_way_home k_way_home,
    (fun_mk (st := s_way_home) l_way_home c_way_home k_way_home).binds (ps := P_way_home) fun _ _ _ _ _ _ us hl => match us, hl with | [_, _, _], _ => rfl,
    PySem.W.mg_of X G a__law_box,
    fun_mk l__law_box c__law_box k__law_box,
    (fun_mk (st := s__law_box) l__law_box c__law_box k__law_box).binds (ps := P__law_box) fun _ _ _ _ _ _ us hl => match us, hl with | [_, _], _ => rfl,
    PySem.W.mg_of X G a__law_more,
    fun_mk l__law_more c__law_more k__law_more,
    (fun_mk (st := s__law_more) l__law_more c__law_more k__law_more).binds (ps := P__law_more) fun _ _ _ _ _ _ us hl => match us, hl with | [_], _ => rfl,
    PySem.W.mg_of X G a__law_take,
    fun_mk l__law_take c__law_take k__law_take,
    (fun_mk (st := s__law_take) l__law_take c__law_take k__law_take).binds (ps := P__law_take) fun _ _ _ _ _ _ us hl => match us, hl with | [_, _], _ => rfl,
    PySem.W.mg_of X G a__law_kind,
    fun_mk l__law_kind c__law_kind k__law_kind,
    (fun_mk (st := s__law_kind) l__law_kind c__law_kind k__law_kind).binds (ps := P__law_kind) fun _ _ _ _ _ _ us hl => match us, hl with | [_], _ => rfl,
    PySem.W.mg_of X G a__law_net,
    fun_mk l__law_net c__law_net k__law_net,
    (fun_mk (st := s__law_net) l__law_net c__law_net k__law_net).binds (ps := P__law_net) fun _ _ _ _ _ _ us hl => match us, hl with | [_, _], _ => rfl,
    PySem.W.mg_of X G a__law_paths,
    fun_mk l__law_paths c__law_paths k__law_paths,
    (fun_mk (st := s__law_paths) l__law_paths c__law_paths k__law_paths).binds (ps := P__law_paths) fun _ _ _ _ _ _ us hl => match us, hl with | [_, _], _ => rfl,
    PySem.W.mg_of X G a_law,
    fun_mk l_law c_law k_law,
    (fun_mk (st := s_law) l_law c_law k_law).binds (ps := P_law) fun _ _ _ _ _ _ us hl => match us, hl with | [_], _ => rfl,
    PySem.W.mg_none_of X G z_ValueError,
    PySem.W.mg_none_of X G z_abs,
    PySem.W.mg_none_of X G z_all,
    PySem.W.mg_none_of X G z_bool,
    PySem.W.mg_none_of X G z_divmod,
    PySem.W.mg_none_of X G z_int,
    PySem.W.mg_none_of X G z_isinstance,
    PySem.W.mg_none_of X G z_len,
    PySem.W.mg_none_of X G z_max,
    PySem.W.mg_none_of X G z_min,
    PySem.W.mg_none_of X G z_range,
    PySem.W.mg_none_of X G z_repr,
    PySem.W.mg_none_of X G z_sorted,
    PySem.W.mg_none_of X G z_tuple,
    PySem.W.mg_none_of X G z_zip,
    ⟨_, PySem.W.mg_of X G n_LAST_LINE⟩,
    ⟨_, PySem.W.mg_of X G n_MOST_YARDS⟩,
    ⟨_, PySem.W.mg_of X G n_MOST_WAYS⟩,
    ⟨_, PySem.W.mg_of X G n_MOST_MILES⟩,
    PySem.W.mg_of X G a_CoverError,
    PySem.W.mg_of X G a_NoNet,
    ⟨xkp_NoNet, xbs_NoNet, xty_NoNet, xis_NoNet, ⟨xhg_NoNet, xhk_NoNet, xbs_NoNet, xhd_NoNet, xha_NoNet, xhn_NoNet, xht_NoNet, xhm_NoNet⟩⟩,
    r_NoNet,
    PySem.W.mg_of X G a_NoYard,
    ⟨xkp_NoYard, xbs_NoYard, xty_NoYard, xis_NoYard, ⟨xhg_NoYard, xhk_NoYard, xbs_NoYard, xhd_NoYard, xha_NoYard, xhn_NoYard, xht_NoYard, xhm_NoYard⟩⟩,
    r_NoYard,
    PySem.W.mg_of X G a_NoMark,
    ⟨xkp_NoMark, xbs_NoMark, xty_NoMark, xis_NoMark, ⟨xhg_NoMark, xhk_NoMark, xbs_NoMark, xhd_NoMark, xha_NoMark, xhn_NoMark, xht_NoMark, xhm_NoMark⟩⟩,
    r_NoMark,
    PySem.W.mg_of X G a_NoPage,
    PySem.W.mg_of X G a_NoCover,
    PySem.W.mg_of X G a_NoDay,
    PySem.W.mg_of X G a_NoTariff,
    PySem.W.mg_of X G a_NoBalance,
    PySem.W.mg_of X G a_NoStray,
    PySem.W.mg_of X G a_NoTrip,
    PySem.W.mg_of X G a_NoPrice,
    PySem.W.mg_of X G a_NoLine,
    PySem.W.mg_of X G a_Gone,
    PySem.W.mg_of X G a_Nothing,
    PySem.W.mg_of X G a_Clash,
    PySem.W.mg_of X G a_NoText,
    PySem.W.mg_of X G a_TooMany,
    k_NoMark_NoNet,
    k_NoMark_NoYard,
    k_NoMark_NoMark,
    k_NoMark_NoPage,
    k_NoMark_NoCover,
    k_NoMark_NoDay,
    k_NoMark_NoTariff,
    k_NoMark_NoBalance,
    k_NoMark_NoStray,
    k_NoMark_NoTrip,
    k_NoMark_NoPrice,
    k_NoMark_NoLine,
    k_NoMark_Gone,
    k_NoMark_Nothing,
    k_NoMark_Clash,
    k_NoMark_NoText,
    k_NoMark_TooMany,
    v_NoMark,
    m_NoMark,
    k_NoNet_NoNet,
    k_NoNet_NoYard,
    k_NoNet_NoMark,
    k_NoNet_NoPage,
    k_NoNet_NoCover,
    k_NoNet_NoDay,
    k_NoNet_NoTariff,
    k_NoNet_NoBalance,
    k_NoNet_NoStray,
    k_NoNet_NoTrip,
    k_NoNet_NoPrice,
    k_NoNet_NoLine,
    k_NoNet_Gone,
    k_NoNet_Nothing,
    k_NoNet_Clash,
    k_NoNet_NoText,
    k_NoNet_TooMany,
    v_NoNet,
    m_NoNet,
    k_NoYard_NoNet,
    k_NoYard_NoYard,
    k_NoYard_NoMark,
    k_NoYard_NoPage,
    k_NoYard_NoCover,
    k_NoYard_NoDay,
    k_NoYard_NoTariff,
    k_NoYard_NoBalance,
    k_NoYard_NoStray,
    k_NoYard_NoTrip,
    k_NoYard_NoPrice,
    k_NoYard_NoLine,
    k_NoYard_Gone,
    k_NoYard_Nothing,
    k_NoYard_Clash,
    k_NoYard_NoText,
    k_NoYard_TooMany,
    v_NoYard,
    m_NoYard⟩

theorem all_lawG {l : PySem.W.OpenLaw} {h : Heap} {fa cc_law Pt_law : Addr} (X : K.In h) (hA : ∃ A : Ad, Txt K mg A ∧ fa = A.law ∧ (A.fd_law.code = .ref cc_law) ∧ ∀ (s : Shared) (u : Value), BindsTo s A.fd_law ⟨[u], []⟩ [("_law_script", u)])
    (hP_law : h.get? Pt_law = some tabO) (nP_law : K.lookup Pt_law = none) (hC_law : PySem.W.codeHdIn K cc_law Pt_law = true) : LawG l w K 8 "_law_script" m_law mg fa h := by
  obtain ⟨A, T, rfl, hcv_law, hb⟩ := hA
  refine ⟨A.fd_law, clA A [(Pt_law, ((PyProof.Rows.envOfC "law" (defScope s_law) 0 0 .none).qual ++ "<lambda>"))], [(cc_law, Pt_law)], hb, ?_, ?_, ?_, ?_, ?_⟩
  · intro p hp
    simp only [List.mem_cons, List.not_mem_nil, or_false] at hp
    rcases hp with rfl
    · exact hP_law
  · intro p hp
    simp only [List.mem_cons, List.not_mem_nil, or_false] at hp
    rcases hp with rfl
    · exact nP_law
  · intro p hp
    simp only [List.mem_cons, List.not_mem_nil, or_false] at hp
    rcases hp with rfl
    · exact PySem.W.codeHd_of_K X hC_law
  · intro p hp
    simp only [List.mem_cons, List.not_mem_nil, or_false] at hp
    rcases hp with rfl
    · exact ⟨(cc_law, Pt_law), by simp, rfl⟩
  · intro base _ _ hT
    exact ok_law T hcv_law (hT _ (List.mem_singleton.2 rfl)) (List.mem_singleton.2 rfl) (fun p hp _ => by rw [List.mem_singleton.1 hp])
end Cv
end
section
open PySem PySem.W PyProof.Rows
set_option maxRecDepth 100000 in
set_option maxHeartbeats 0 in
theorem PySem.Challenge.cw_coverdues_k06_ways_home_holds : PySem.Challenge.rw_coverdues_k06_ways_home.Holds := by
  w_on; o_law; k_head; (case hw => w_witness2)
  k_fill
  refine Cv.walk_ofG (l := PySem.Challenge.rw_coverdues_k06_ways_home) (k := 8) (x := "_law_script") (mf := Cv.m_law) rfl (by decide) rfl ⟨rfl, by decide, by decide⟩ (fun w h Y => (by first | exact kIn_of Y | exact km_in_of Y)) ?F (fun ns _ _ => Cv.law_told ns)
  case F =>
    intro w mg fa h Y KX G hmg
    have hTs := km_tabs_of Y
    refine' Cv.all_lawG KX (Cv.all_mk KX G hmg ?a_is_whole ?l_is_whole ?c_is_whole ?k_is_whole ?a_is_rising ?l_is_rising ?c_is_rising ?k_is_rising ?a_is_way ?l_is_way ?c_is_way ?k_is_way ?a_are_joined ?l_are_joined ?c_are_joined ?k_are_joined ?a_is_net ?l_is_net ?c_is_net ?k_is_net ?a_need_net ?l_need_net ?c_need_net ?k_need_net ?a_need_yard ?l_need_yard ?c_need_yard ?k_need_yard ?a_is_mark ?l_is_mark ?c_is_mark ?k_is_mark ?a_need_mark ?l_need_mark ?c_need_mark ?k_need_mark ?a_links ?l_links ?c_links ?k_links ?a_paths_from ?l_paths_from ?c_paths_from ?k_paths_from ?a_home_path ?l_home_path ?c_home_path ?k_home_path ?a_way_home ?l_way_home ?c_way_home ?k_way_home ?a__law_box ?l__law_box ?c__law_box ?k__law_box ?a__law_more ?l__law_more ?c__law_more ?k__law_more ?a__law_take ?l__law_take ?c__law_take ?k__law_take ?a__law_kind ?l__law_kind ?c__law_kind ?k__law_kind ?a__law_net ?l__law_net ?c__law_net ?k__law_net ?a__law_paths ?l__law_paths ?c__law_paths ?k__law_paths ?a_law ?l_law ?c_law ?k_law ?z_ValueError ?z_abs ?z_all ?z_bool ?z_divmod ?z_int ?z_isinstance ?z_len ?z_max ?z_min ?z_range ?z_repr ?z_sorted ?z_tuple ?z_zip ?n_LAST_LINE ?n_MOST_YARDS ?n_MOST_WAYS ?n_MOST_MILES ?a_CoverError ?a_NoNet ?a_NoYard ?a_NoMark ?a_NoPage ?a_NoCover ?a_NoDay ?a_NoTariff ?a_NoBalance ?a_NoStray ?a_NoTrip ?a_NoPrice ?a_NoLine ?a_Gone ?a_Nothing ?a_Clash ?a_NoText ?a_TooMany ?xkp_NoMark ?xbs_NoMark ?xty_NoMark ?xis_NoMark ?xhg_NoMark ?xhk_NoMark ?xhd_NoMark ?xha_NoMark ?xhn_NoMark ?xht_NoMark ?xhm_NoMark ?r_NoMark ?k_NoMark_NoNet ?k_NoMark_NoYard ?k_NoMark_NoMark ?k_NoMark_NoPage ?k_NoMark_NoCover ?k_NoMark_NoDay ?k_NoMark_NoTariff ?k_NoMark_NoBalance ?k_NoMark_NoStray ?k_NoMark_NoTrip ?k_NoMark_NoPrice ?k_NoMark_NoLine ?k_NoMark_Gone ?k_NoMark_Nothing ?k_NoMark_Clash ?k_NoMark_NoText ?k_NoMark_TooMany ?v_NoMark ?m_NoMark ?xkp_NoNet ?xbs_NoNet ?xty_NoNet ?xis_NoNet ?xhg_NoNet ?xhk_NoNet ?xhd_NoNet ?xha_NoNet ?xhn_NoNet ?xht_NoNet ?xhm_NoNet ?r_NoNet ?k_NoNet_NoNet ?k_NoNet_NoYard ?k_NoNet_NoMark ?k_NoNet_NoPage ?k_NoNet_NoCover ?k_NoNet_NoDay ?k_NoNet_NoTariff ?k_NoNet_NoBalance ?k_NoNet_NoStray ?k_NoNet_NoTrip ?k_NoNet_NoPrice ?k_NoNet_NoLine ?k_NoNet_Gone ?k_NoNet_Nothing ?k_NoNet_Clash ?k_NoNet_NoText ?k_NoNet_TooMany ?v_NoNet ?m_NoNet ?xkp_NoYard ?xbs_NoYard ?xty_NoYard ?xis_NoYard ?xhg_NoYard ?xhk_NoYard ?xhd_NoYard ?xha_NoYard ?xhn_NoYard ?xht_NoYard ?xhm_NoYard ?r_NoYard ?k_NoYard_NoNet ?k_NoYard_NoYard ?k_NoYard_NoMark ?k_NoYard_NoPage ?k_NoYard_NoCover ?k_NoYard_NoDay ?k_NoYard_NoTariff ?k_NoYard_NoBalance ?k_NoYard_NoStray ?k_NoYard_NoTrip ?k_NoYard_NoPrice ?k_NoYard_NoLine ?k_NoYard_Gone ?k_NoYard_Nothing ?k_NoYard_Clash ?k_NoYard_NoText ?k_NoYard_TooMany ?v_NoYard ?m_NoYard) (hTs _ List.mem_cons_self) ?nP_law ?hC_law
    (case a_is_whole => k_is); (case l_is_whole => k_is); (case c_is_whole => k_is); (case k_is_whole => k_is)
    (case a_is_rising => k_is); (case l_is_rising => k_is); (case c_is_rising => k_is); (case k_is_rising => k_is)
    (case a_is_way => k_is); (case l_is_way => k_is); (case c_is_way => k_is); (case k_is_way => k_is)
    (case a_are_joined => k_is); (case l_are_joined => k_is); (case c_are_joined => k_is); (case k_are_joined => k_is)
    (case a_is_net => k_is); (case l_is_net => k_is); (case c_is_net => k_is); (case k_is_net => k_is)
    (case a_need_net => k_is); (case l_need_net => k_is); (case c_need_net => k_is); (case k_need_net => k_is)
    (case a_need_yard => k_is); (case l_need_yard => k_is); (case c_need_yard => k_is); (case k_need_yard => k_is)
    (case a_is_mark => k_is); (case l_is_mark => k_is); (case c_is_mark => k_is); (case k_is_mark => k_is)
    (case a_need_mark => k_is); (case l_need_mark => k_is); (case c_need_mark => k_is); (case k_need_mark => k_is)
    (case a_links => k_is); (case l_links => k_is); (case c_links => k_is); (case k_links => k_is)
    (case a_paths_from => k_is); (case l_paths_from => k_is); (case c_paths_from => k_is); (case k_paths_from => k_is)
    (case a_home_path => k_is); (case l_home_path => k_is); (case c_home_path => k_is); (case k_home_path => k_is)
    (case a_way_home => k_is); (case l_way_home => k_is); (case c_way_home => k_is); (case k_way_home => k_is)
    (case a__law_box => k_is); (case l__law_box => k_is); (case c__law_box => k_is); (case k__law_box => k_is)
    (case a__law_more => k_is); (case l__law_more => k_is); (case c__law_more => k_is); (case k__law_more => k_is)
    (case a__law_take => k_is); (case l__law_take => k_is); (case c__law_take => k_is); (case k__law_take => k_is)
    (case a__law_kind => k_is); (case l__law_kind => k_is); (case c__law_kind => k_is); (case k__law_kind => k_is)
    (case a__law_net => k_is); (case l__law_net => k_is); (case c__law_net => k_is); (case k__law_net => k_is)
    (case a__law_paths => k_is); (case l__law_paths => k_is); (case c__law_paths => k_is); (case k__law_paths => k_is)
    (case a_law => k_is); (case l_law => k_is); (case c_law => k_is); (case k_law => k_is)
    (case z_ValueError => k_is); (case z_abs => k_is); (case z_all => k_is); (case z_bool => k_is)
    (case z_divmod => k_is); (case z_int => k_is); (case z_isinstance => k_is); (case z_len => k_is)
    (case z_max => k_is); (case z_min => k_is); (case z_range => k_is); (case z_repr => k_is)
    (case z_sorted => k_is); (case z_tuple => k_is); (case z_zip => k_is); (case n_LAST_LINE => k_is)
    (case n_MOST_YARDS => k_is); (case n_MOST_WAYS => k_is); (case n_MOST_MILES => k_is); (case a_CoverError => k_is)
    (case a_NoNet => k_is); (case a_NoYard => k_is); (case a_NoMark => k_is); (case a_NoPage => k_is)
    (case a_NoCover => k_is); (case a_NoDay => k_is); (case a_NoTariff => k_is); (case a_NoBalance => k_is)
    (case a_NoStray => k_is); (case a_NoTrip => k_is); (case a_NoPrice => k_is); (case a_NoLine => k_is)
    (case a_Gone => k_is); (case a_Nothing => k_is); (case a_Clash => k_is); (case a_NoText => k_is)
    (case a_TooMany => k_is); (case xkp_NoMark => k_is); (case xbs_NoMark => k_is); (case xty_NoMark => k_is)
    (case xis_NoMark => k_is); (case xhg_NoMark => k_is); (case xhk_NoMark => k_is); (case xhd_NoMark => k_is)
    (case xha_NoMark => k_is); (case xhn_NoMark => k_is); (case xht_NoMark => k_is); (case xhm_NoMark => k_is)
    (case r_NoMark => k_exc); (case k_NoMark_NoNet => kernel_rfl); (case k_NoMark_NoYard => kernel_rfl); (case k_NoMark_NoMark => kernel_rfl)
    (case k_NoMark_NoPage => kernel_rfl); (case k_NoMark_NoCover => kernel_rfl); (case k_NoMark_NoDay => kernel_rfl); (case k_NoMark_NoTariff => kernel_rfl)
    (case k_NoMark_NoBalance => kernel_rfl); (case k_NoMark_NoStray => kernel_rfl); (case k_NoMark_NoTrip => kernel_rfl); (case k_NoMark_NoPrice => kernel_rfl)
    (case k_NoMark_NoLine => kernel_rfl); (case k_NoMark_Gone => kernel_rfl); (case k_NoMark_Nothing => kernel_rfl); (case k_NoMark_Clash => kernel_rfl)
    (case k_NoMark_NoText => kernel_rfl); (case k_NoMark_TooMany => kernel_rfl); (case v_NoMark => kernel_rfl); (case m_NoMark => kernel_rfl)
    (case xkp_NoNet => k_is); (case xbs_NoNet => k_is); (case xty_NoNet => k_is); (case xis_NoNet => k_is)
    (case xhg_NoNet => k_is); (case xhk_NoNet => k_is); (case xhd_NoNet => k_is); (case xha_NoNet => k_is)
    (case xhn_NoNet => k_is); (case xht_NoNet => k_is); (case xhm_NoNet => k_is); (case r_NoNet => k_exc)
    (case k_NoNet_NoNet => kernel_rfl); (case k_NoNet_NoYard => kernel_rfl); (case k_NoNet_NoMark => kernel_rfl); (case k_NoNet_NoPage => kernel_rfl)
    (case k_NoNet_NoCover => kernel_rfl); (case k_NoNet_NoDay => kernel_rfl); (case k_NoNet_NoTariff => kernel_rfl); (case k_NoNet_NoBalance => kernel_rfl)
    (case k_NoNet_NoStray => kernel_rfl); (case k_NoNet_NoTrip => kernel_rfl); (case k_NoNet_NoPrice => kernel_rfl); (case k_NoNet_NoLine => kernel_rfl)
    (case k_NoNet_Gone => kernel_rfl); (case k_NoNet_Nothing => kernel_rfl); (case k_NoNet_Clash => kernel_rfl); (case k_NoNet_NoText => kernel_rfl)
    (case k_NoNet_TooMany => kernel_rfl); (case v_NoNet => kernel_rfl); (case m_NoNet => kernel_rfl); (case xkp_NoYard => k_is)
    (case xbs_NoYard => k_is); (case xty_NoYard => k_is); (case xis_NoYard => k_is); (case xhg_NoYard => k_is)
    (case xhk_NoYard => k_is); (case xhd_NoYard => k_is); (case xha_NoYard => k_is); (case xhn_NoYard => k_is)
    (case xht_NoYard => k_is); (case xhm_NoYard => k_is); (case r_NoYard => k_exc); (case k_NoYard_NoNet => kernel_rfl)
    (case k_NoYard_NoYard => kernel_rfl); (case k_NoYard_NoMark => kernel_rfl); (case k_NoYard_NoPage => kernel_rfl); (case k_NoYard_NoCover => kernel_rfl)
    (case k_NoYard_NoDay => kernel_rfl); (case k_NoYard_NoTariff => kernel_rfl); (case k_NoYard_NoBalance => kernel_rfl); (case k_NoYard_NoStray => kernel_rfl)
    (case k_NoYard_NoTrip => kernel_rfl); (case k_NoYard_NoPrice => kernel_rfl); (case k_NoYard_NoLine => kernel_rfl); (case k_NoYard_Gone => kernel_rfl)
    (case k_NoYard_Nothing => kernel_rfl); (case k_NoYard_Clash => kernel_rfl); (case k_NoYard_NoText => kernel_rfl); (case k_NoYard_TooMany => kernel_rfl)
    (case v_NoYard => kernel_rfl); (case m_NoYard => kernel_rfl); (case nP_law => kernel_rfl); (case hC_law => kernel_rfl)
end
