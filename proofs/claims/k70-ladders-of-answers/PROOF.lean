import PyProof.Rows.All
import Wide.All
import OpenK.AllK
import Wide.FinOn
import HandS.ForMost
import HandS.Wide
import HandS.Walk
import HandS.Deep
import HandS.IsInst
import HandS.Steps
import HandS.Star
import HandS.SortInts
import PyProof.Rows.SortKeyStr
import HandS.Exc
import HandS.ExcInit
import HandS.ExcField
import HandS.ClsMeth
import HandS.ExcOwn
import HandS.WordsExc
import KE.KExcInit
import HandS.ExcIs
import HandS.Defaults
import HandS.Nested
import KE.KSuper
import HandS.OwnEq
import KE.KOpsOwn
import KE.KCallOwn
import HandS.Base
import HandS.Call
import HandS.Ends
import HandS.More
import HandS.Words
import HandS.Head0
import HandS.Head1
import HandS.Head2
import HandS.HeadEnd
import HandS.HeadHook1
import HandS.HeadHook2
import HandS.HeadNt
import HandS.Property
import KE.KNest
import KE.KNestM
import HandS.HeadHook3
import HandS.HeadHook4
import HandS.HeadWalk
import HandS.Zip0
import PyProof.Draws
import PyProof.EnumMake
import HandS.OwnIter
import HandS.IterNext
import HandS.DictSub
import HandS.Finally
import HandS.ListItems
import PyProof.StrBlock2
import KE.KDictList
import KE.KStateDown
import PySem.Challenge.RW_trackedreads_k70_ladders_of_answers
set_option Elab.async false
set_option linter.all false
set_option maxRecDepth 100000
set_option maxHeartbeats 4000000
namespace Tr
open PySem PySem.Spec PyProof.Rows L2
section
variable {X : Cx}

theorem K_nox (X : Cx) : X.nox.K = X.K := rfl
theorem K_cxOf {P : Program} {w : World} {K : PySem.W.Frag} {mg : Str → Option Value} {base : Heap} {CX : CXT} {N : List Str} {qual : Str} {scope : Scope} {f : Addr} {cd : Value} {A : Around} {outer : List Env} {s : Shared} {H : Hp} {E : XK} :
    (cxOf CX P w K mg base N qual scope f cd A outer s H E).K = K := rfl

theorem opImp {f : Value → Value → Sem Value} {r r' : R2} (h : OpR X f r) (i : ∀ x y H Q, r' x y H Q → r x y H Q) : OpR X f r' :=
  fun pins s σ H x y v u Q I rx ry q => h pins s σ H x y v u Q I rx ry (i x y H Q q)
theorem callImp {f : Value} {r r' : List V → Hp → VK → Prop} (h : CallR X f r) (i : ∀ xs H Q, r' xs H Q → r xs H Q) : CallR X f r' :=
  fun pins s σ H xs us Q I rx q => h pins s σ H xs us Q I rx (i xs H Q q)
theorem ixImp {r r' : R2} (h : IxR X r) (i : ∀ x y H Q, r' x y H Q → r x y H Q) : IxR X r' :=
  fun value slice pins s σ H x y v u Q I rx ry q hs => h value slice pins s σ H x y v u Q I rx ry (i x y H Q q) hs
theorem slImp {r r' : V → Option Int → Option Int → Hp → VK → Prop} (h : SlR X r) (i : ∀ x lo hi H Q, r' x lo hi H Q → r x lo hi H Q) : SlR X r' :=
  fun pins s σ H x v vl vu lo hi sl Q I rx hs pl pu q => h pins s σ H x v vl vu lo hi sl Q I rx hs pl pu (i x lo hi H Q q)
theorem mtImp {id : String} {r r' : V → List V → Hp → VK → Prop} (h : MtR X id r) (i : ∀ x xs H Q, r' x xs H Q → r x xs H Q) : MtR X id r' :=
  fun pins s σ H x xs v us Q I rx rs q => h pins s σ H x xs v us Q I rx rs (i x xs H Q q)
/-- an expression that is never reached -/
def tFalse : TE := fun _ _ _ => False
theorem pe_never {e : Expr} : PE X e tFalse := ⟨fun _ _ _ _ _ _ h => h.elim⟩
def tFalseT : TT := fun _ _ _ => False
theorem pt_never {e : Expr} : PT X e tFalseT := ⟨fun _ _ _ _ _ _ h => h.elim⟩
def sFalse : TS := fun _ _ _ => False
theorem ps_nev {st : Stmt} : PS X st sFalse := ⟨fun _ _ _ _ _ _ h => h.elim⟩
theorem pss_nev {st : List Stmt} : PSs X st sFalse := ⟨fun _ _ _ _ _ _ h => h.elim⟩

def rEqU (K : PySem.W.Frag) : R2 := fun x y H Q => if scal x y = true then Q (.bl (decide (x = y))) H else
  match y with
  | .ref q => match H q with
    | some (.lst []) => (match x with
      | .ref p => (match H p with
        | some (.lst xs) => Q (.bl xs.isEmpty) H
        | _ => False)
      | _ => False)
    | _ => rEqD K x y H Q
  | _ => rEqD K x y H Q
def rNeU (K : PySem.W.Frag) : R2 := fun x y H Q => if scal x y = true then Q (.bl (!decide (x = y))) H else
  match y with
  | .ref q => match H q with
    | some (.lst []) => (match x with
      | .ref p => (match H p with
        | some (.lst xs) => Q (.bl (!xs.isEmpty)) H
        | _ => False)
      | _ => False)
    | _ => rNeD K x y H Q
  | _ => rNeD K x y H Q
theorem isE_of {xs : List V} {its : List Value} (r : Vals xs its) : xs.isEmpty = its.isEmpty := by cases r <;> rfl
theorem eq_nil {pins : List (Addr × Obj)} {σ : L2.St} {H : Hp} {s : Shared} {p q : Addr} {xs : List V} {Q : Value → Shared → Prop} (I : Inv X pins σ H s) (hp : H p = some (.lst xs)) (hq : H q = some (.lst [])) (hu : X.A.units + 64 < cLine)
    (h : Q (.bool xs.isEmpty) s) : wpAny (model X.prog X.w) X.A (compareOp .Eq (.ref p) (.ref q)) Q X.xe s := by
  obtain ⟨its, r, pl, hz⟩ := I.list (SqL.of hp)
  obtain ⟨it2, r2, pl2, hz2⟩ := I.list (SqL.of hq)
  cases r2
  cases its with
  | nil =>
    cases r
    exact SeqAt.eq_listAt (e := fun _ => true) pl.isList pl2.isList rfl (by omega) (fun j h1 _ => absurd h1 (by simp)) (by simpa using h)
  | cons a l =>
    cases r
    exact SeqAt.eq_list_lengthsAt pl.isList pl2.isList (by simp) (by omega) h
theorem uEq (K : PySem.W.Frag) (hu : X.A.units + 64 < cLine) (hK : X.K = K := by rfl) : OpR X (compareOp .Eq) (rEqU K) := by
  subst hK
  intro pins s σ H x y v u Q I rx ry h
  unfold rEqU at h
  by_cases c : scal x y = true
  · rw [if_pos c] at h
    exact op_eq pins s σ H x y v u Q I rx ry ⟨c, h⟩
  · rw [if_neg c] at h
    split at h
    · split at h
      · rename_i q hq
        split at h
        · split at h
          · rename_i p xs hp
            cases rx
            cases ry
            exact eq_nil I hp hq hu ⟨.bl _, H, I, rfl, h⟩
          · exact h.elim
        · exact h.elim
      · exact op_eqD hu pins s σ H x _ v u Q I rx ry h
    · exact op_eqD hu pins s σ H x y v u Q I rx ry h

theorem ne_nil {pins : List (Addr × Obj)} {σ : L2.St} {H : Hp} {s : Shared} {p q : Addr} {xs : List V} {Q : Value → Shared → Prop} (I : Inv X pins σ H s) (hp : H p = some (.lst xs)) (hq : H q = some (.lst [])) (hu : X.A.units + 64 < cLine)
    (h : Q (.bool (!xs.isEmpty)) s) : wpAny (model X.prog X.w) X.A (compareOp .NotEq (.ref p) (.ref q)) Q X.xe s := by
  obtain ⟨its, r, pl, hz⟩ := I.list (SqL.of hp)
  obtain ⟨it2, r2, pl2, hz2⟩ := I.list (SqL.of hq)
  cases r2
  cases its with
  | nil =>
    cases r
    exact SeqAt.RcNeAt.lists (e := fun _ => true) pl.isList pl2.isList rfl (by omega) (fun j h1 _ => absurd h1 (by simp)) _ _ _ _ (by simpa using h)
  | cons a l =>
    cases r
    exact SeqAt.RcNeAt.lists_lengths pl.isList pl2.isList (by simp) (by omega) _ _ _ _ h
theorem uNe (K : PySem.W.Frag) (hu : X.A.units + 64 < cLine) (hK : X.K = K := by rfl) : OpR X (compareOp .NotEq) (rNeU K) := by
  subst hK
  intro pins s σ H x y v u Q I rx ry h
  unfold rNeU at h
  by_cases c : scal x y = true
  · rw [if_pos c] at h
    exact op_ne pins s σ H x y v u Q I rx ry ⟨c, h⟩
  · rw [if_neg c] at h
    split at h
    · split at h
      · rename_i q hq
        split at h
        · split at h
          · rename_i p xs hp
            cases rx
            cases ry
            exact ne_nil I hp hq hu ⟨.bl _, H, I, rfl, h⟩
          · exact h.elim
        · exact h.elim
      · exact op_neD hu pins s σ H x _ v u Q I rx ry h
    · exact op_neD hu pins s σ H x y v u Q I rx ry h

def rAddU : R2 := fun x y H Q => match x with
  | .int i => (match y with | .int j => Q (.int (i + j)) H | _ => False)
  | .str a => (match y with | .str b => a.length + b.length ≤ sizeLine ∧ Q (.str (a ++ b)) H | _ => False)
  | .ref p => (match y with
    | .ref q => (match H p with
      | some (.lst xs) => (match H q with
        | some (.lst ys) => xs.length + ys.length ≤ sizeLine ∧ ∀ r, H r = none → Q (.ref r) (upd H r (.lst (xs ++ ys)))
        | _ => False)
      | _ => False)
    | _ => False)
  | _ => False
theorem uAdd : OpR X (binaryOp .Add) rAddU := by
  intro pins s σ H x y v u Q I rx ry h
  unfold rAddU at h
  split at h
  · split at h
    · exact op_add pins s σ H _ _ v u Q I rx ry ⟨_, _, rfl, rfl, h⟩
    · exact h.elim
  · split at h
    · exact op_add_str pins s σ H _ _ v u Q I rx ry ⟨_, _, rfl, rfl, h.1, h.2⟩
    · exact h.elim
  · split at h
    · split at h
      · rename_i hp
        split at h
        · rename_i hq
          exact op_cat pins s σ H _ _ v u Q I rx ry ⟨_, _, _, _, rfl, rfl, hp, hq, h.1, h.2⟩
        · exact h.elim
      · exact h.elim
    · exact h.elim
  · exact h.elim
def repS (a : Str) (k : Nat) : Str := ⟨(List.replicate k a.cps.toList).flatten.toArray⟩
def rMulU : R2 := fun x y H Q => match x with
  | .int i => (match y with | .int j => CMulW i j ∧ Q (.int (i * j)) H | _ => False)
  | .ref p => (match y with
    | .int k => (match H p with
      | some (.lst xs) => -(2 ^ 63) ≤ k ∧ k < 2 ^ 63 ∧ xs.length * k.toNat ≤ sizeLine ∧ ∀ r, H r = none → Q (.ref r) (upd H r (.lst (List.replicate k.toNat xs).flatten))
      | _ => False)
    | _ => False)
  | _ => False
theorem uMul : OpR X (binaryOp .Mult) rMulU := by
  intro pins s σ H x y v u Q I rx ry h
  unfold rMulU at h
  split at h
  · split at h
    · exact op_mulW pins s σ H _ _ v u Q I rx ry ⟨_, _, rfl, rfl, h.1, h.2⟩
    · exact h.elim
  · split at h
    · split at h
      · rename_i hp
        exact op_rep pins s σ H _ _ v u Q I rx ry ⟨_, _, _, rfl, rfl, hp, h.1, h.2.1, h.2.2.1, h.2.2.2⟩
      · exact h.elim
    · exact h.elim
  · exact h.elim

def rIxU : R2 := fun x y H Q => match x with
  | .ref p => (match y with
    | .int i => (match H p with
      | some (.lst xs) => ∃ v, atI xs i = some v ∧ Q v H
      | some (.tup xs) => ∃ v, atI xs i = some v ∧ Q v H
      | _ => False)
    | _ => False)
  | .str z => (match y with
    | .int i => z.length ≤ sizeLine ∧ ∃ c, atI z.cps.toList i = some c ∧ Q (.str ⟨#[c]⟩) H
    | _ => False)
  | _ => False
theorem uIx : IxR X rIxU := by
  intro value slice pins s σ H x y v u Q I rx ry h hs
  unfold rIxU at h
  split at h
  · split at h
    · split at h
      · rename_i hp
        obtain ⟨z, hz, q⟩ := h
        exact ix_list value slice pins s σ H _ _ v u Q I rx ry ⟨_, _, _, z, rfl, rfl, SqL.of hp, hz, q⟩ hs
      · rename_i hp
        obtain ⟨z, hz, q⟩ := h
        exact ix_tup value slice pins s σ H _ _ v u Q I rx ry ⟨_, _, _, z, rfl, rfl, SqT.of hp, hz, q⟩ hs
      · exact h.elim
    · exact h.elim
  · split at h
    · obtain ⟨hl, c, hc, q⟩ := h
      exact ix_str value slice pins s σ H _ _ v u Q I rx ry ⟨_, _, c, rfl, rfl, hl, hc, q⟩ hs
    · exact h.elim
  · exact h.elim
def rGetD : R2 := fun x y H Q => match x with
  | .ref a => (match H a with
    | some (.dK kvs) => (match y with
      | .int i => ∃ v, valV kvs (Sum.inl i) = some v ∧ Q v H
      | .str z => ∃ v, valV kvs (Sum.inr z) = some v ∧ Q v H
      | _ => False)
    | _ => False)
  | _ => False
theorem rGetD.to {x y : V} {H : Hp} {Q : VK} (h : rGetD x y H Q) : ∃ a v, x = .ref a ∧ DGet H a y (some v) ∧ Q v H := by
  unfold rGetD at h
  split at h
  · split at h
    · rename_i hp
      split at h
      · obtain ⟨v, e, q⟩ := h
        exact ⟨_, v, rfl, .inl ⟨_, Sum.inl _, .inl hp, rfl, e.symm⟩, q⟩
      · obtain ⟨v, e, q⟩ := h
        exact ⟨_, v, rfl, .inl ⟨_, Sum.inr _, .inl hp, rfl, e.symm⟩, q⟩
      · exact h.elim
    · exact h.elim
  · exact h.elim

def rSlU : V → Option Int → Option Int → Hp → VK → Prop := fun x lo hi H Q => match x with
  | .ref p => (match H p with
    | some (.lst xs) => ∀ r, H r = none → Q (.ref r) (upd H r (.lst (cutV xs lo hi)))
    | some (.tup xs) => ¬ (HT.sIx xs.length 0 lo = 0 ∧ HT.sIx xs.length xs.length hi = xs.length) ∧ ∀ r, H r = none → Q (.ref r) (upd H r (.tup (cutV xs lo hi)))
    | _ => False)
  | .str z => z.length ≤ sizeLine ∧ Q (.str (cutS z lo hi)) H
  | _ => False
theorem uSl : SlR X rSlU := by
  intro pins s σ H x v vl vu lo hi sl Q I rx hs pl pu h
  unfold rSlU at h
  split at h
  · split at h
    · rename_i hp
      exact sl_list pins s σ H _ v vl vu lo hi sl Q I rx hs pl pu ⟨_, _, rfl, SqL.of hp, h⟩
    · rename_i hp
      exact sl_tup pins s σ H _ v vl vu lo hi sl Q I rx hs pl pu ⟨_, _, rfl, SqT.of hp, h.1, h.2⟩
    · exact h.elim
  · exact sl_str pins s σ H _ v vl vu lo hi sl Q I rx hs pl pu ⟨_, rfl, h.1, h.2⟩
  · exact h.elim

def rInU (K : PySem.W.Frag) (neg : Bool) : R2 := fun x y H Q => match y with
  | .ref p => (match H p with
    | some (.lst xs) => flatV x = true ∧ xs.all flatV = true ∧ Q (.bl (if neg then !inV x xs else inV x xs)) H
    | some (.tup xs) => flatV x = true ∧ xs.all flatV = true ∧ Q (.bl (if neg then !inV x xs else inV x xs)) H
    | _ => rIn K neg x y H Q)
  | .str z => (match x with
    | .str w => ∃ c, w = ⟨#[c]⟩ ∧ Q (.bl (if neg then !decide (c ∈ z.cps.toList) else decide (c ∈ z.cps.toList))) H
    | _ => False)
  | _ => False
theorem uIn (K : PySem.W.Frag) (hK : X.K = K := by rfl) : OpR X (compareOp .In) (rInU K false) := by
  subst hK
  intro pins s σ H x y v u Q I rx ry h
  unfold rInU at h
  split at h
  · split at h
    · rename_i hp
      exact op_in_seq pins s σ H x _ v u Q I rx ry ⟨_, _, rfl, .inl (SqL.of hp), h.1, h.2.1, h.2.2⟩
    · rename_i hp
      exact op_in_seq pins s σ H x _ v u Q I rx ry ⟨_, _, rfl, .inr (SqT.of hp), h.1, h.2.1, h.2.2⟩
    · exact op_in_seq pins s σ H x _ v u Q I rx ry h
  · split at h
    · obtain ⟨c, rfl, h⟩ := h
      exact op_in_sign pins s σ H _ _ v u Q I rx ry ⟨c, _, rfl, rfl, h⟩
    · exact h.elim
  · exact h.elim
theorem uNotIn (K : PySem.W.Frag) (hK : X.K = K := by rfl) : OpR X (compareOp .NotIn) (rInU K true) := by
  subst hK
  intro pins s σ H x y v u Q I rx ry h
  unfold rInU at h
  split at h
  · split at h
    · rename_i hp
      exact op_notIn_seq pins s σ H x _ v u Q I rx ry ⟨_, _, rfl, .inl (SqL.of hp), h.1, h.2.1, h.2.2⟩
    · rename_i hp
      exact op_notIn_seq pins s σ H x _ v u Q I rx ry ⟨_, _, rfl, .inr (SqT.of hp), h.1, h.2.1, h.2.2⟩
    · exact op_notIn_seq pins s σ H x _ v u Q I rx ry h
  · split at h
    · obtain ⟨c, rfl, h⟩ := h
      exact op_notIn_sign pins s σ H _ _ v u Q I rx ry ⟨c, _, rfl, rfl, h⟩
    · exact h.elim
  · exact h.elim

def rLenU : List V → Hp → VK → Prop := fun xs H Q => match xs with
  | [.str z] => z.length ≤ sizeLine ∧ Q (.int z.length) H
  | [.ref p] => (match H p with
    | some (.lst ys) => Q (.int ys.length) H
    | some (.tup ys) => Q (.int ys.length) H
    | some (.dK kvs) => Q (.int kvs.length) H
    | _ => False)
  | _ => False
theorem uLen : CallR X (.builtin "len") rLenU := by
  intro pins s σ H xs us Q I r h
  unfold rLenU at h
  split at h
  · exact call_len_str pins s σ H _ us Q I r ⟨_, rfl, h.1, h.2⟩
  · split at h
    · rename_i hp
      exact call_len_seq pins s σ H _ us Q I r ⟨_, _, rfl, .inl (SqL.of hp), h⟩
    · rename_i hp
      exact call_len_seq pins s σ H _ us Q I r ⟨_, _, rfl, .inr (SqT.of hp), h⟩
    · rename_i hp
      exact call_lenD pins s σ H _ us Q I r ⟨_, _, rfl, hp, h⟩
    · exact h.elim
  · exact h.elim
def rListU : List V → Hp → VK → Prop := fun xs H Q => match xs with
  | [.ref p] => (match H p with
    | some (.lst ys) => ∀ l, H l = none → Q (.ref l) (upd H l (.lst ys))
    | some (.tup ys) => ∀ l, H l = none → Q (.ref l) (upd H l (.lst ys))
    | _ => False)
  | _ => False
theorem uList : CallR X (.type "list") rListU := by
  intro pins s σ H xs us Q I r h
  unfold rListU at h
  split at h
  · split at h
    · rename_i hp
      exact call_list_of pins s σ H _ us Q I r ⟨_, _, rfl, .inl (SqL.of hp), h⟩
    · rename_i hp
      exact call_list_of pins s σ H _ us Q I r ⟨_, _, rfl, .inr (SqT.of hp), h⟩
    · exact h.elim
  · exact h.elim
def rTupleU : List V → Hp → VK → Prop := fun xs H Q => match xs with
  | [.ref p] => (match H p with
    | some (.lst ys) => ∀ l, H l = none → Q (.ref l) (upd H l (.tup ys))
    | some (.tup ys) => Q (.ref p) H
    | _ => False)
  | _ => False
theorem uTuple : CallR X (.type "tuple") rTupleU := by
  intro pins s σ H xs us Q I r h
  unfold rTupleU at h
  split at h
  · split at h
    · rename_i hp
      exact call_tuple_of pins s σ H _ us Q I r ⟨_, _, rfl, .inl ⟨SqL.of hp, h⟩⟩
    · rename_i hp
      exact call_tuple_of pins s σ H _ us Q I r ⟨_, _, rfl, .inr ⟨SqT.of hp, h⟩⟩
    · exact h.elim
  · exact h.elim
/-- int(n), int(flag), int(text) -/
def rIntU : List V → Hp → VK → Prop := fun xs H Q => match xs with
  | [.int i] => Q (.int i) H
  | [.bl k] => Q (.int (if k then 1 else 0)) H
  | [.str a] => ∃ n, PySem.intText? a = some n ∧ a.length ≤ 640 ∧ Q (.int n) H
  | _ => False
theorem uInt : CallR X (.type "int") rIntU := by
  intro pins s σ H xs us Q I r h
  unfold rIntU at h
  split at h
  · exact call_int1 pins s σ H _ us Q I r (.inl ⟨_, rfl, h⟩)
  · exact call_int1 pins s σ H _ us Q I r (.inr ⟨_, rfl, h⟩)
  · obtain ⟨n, e, l, q⟩ := h
    exact call_int_str pins s σ H _ us Q I r ⟨_, n, rfl, e, l, q⟩
  · exact h.elim
def rAppU : V → List V → Hp → VK → Prop := fun x xs H Q => match x with
  | .ref l => (match H l with
    | some (.lst ys) => (match xs with | [v] => ys.length < sizeLine ∧ Q .non (upd H l (.lst (ys ++ [v]))) | _ => False)
    | _ => False)
  | _ => False
theorem uAppend : MtR X "list.append" rAppU := by
  intro pins s σ H x xs v us Q I rx rs h
  unfold rAppU at h
  split at h
  · split at h
    · rename_i hp
      split at h
      · exact mt_append pins s σ H _ _ v us Q I rx rs ⟨_, _, _, rfl, rfl, hp, h.1, h.2⟩
      · exact h.elim
    · exact h.elim
  · exact h.elim
end
end Tr
namespace Tr
open PySem PySem.Spec PyProof.Rows L2
theorem bt_len : bootBuiltins "len" = some (.builtin "len") := by decide +kernel
theorem bt_abs : bootBuiltins "abs" = some (.builtin "abs") := by decide +kernel
theorem bt_all : bootBuiltins "all" = some (.builtin "all") := by decide +kernel
theorem bt_any : bootBuiltins "any" = some (.builtin "any") := by decide +kernel
theorem bt_max : bootBuiltins "max" = some (.builtin "max") := by decide +kernel
theorem bt_min : bootBuiltins "min" = some (.builtin "min") := by decide +kernel
theorem bt_isinstance : bootBuiltins "isinstance" = some (.builtin "isinstance") := by decide +kernel
theorem bt_sorted : bootBuiltins "sorted" = some (.builtin "sorted") := by decide +kernel
theorem bt_int : bootBuiltins "int" = some (.type "int") := by decide +kernel
theorem bt_list : bootBuiltins "list" = some (.type "list") := by decide +kernel
theorem bt_tuple : bootBuiltins "tuple" = some (.type "tuple") := by decide +kernel
theorem bt_str : bootBuiltins "str" = some (.type "str") := by decide +kernel
theorem bt_bool : bootBuiltins "bool" = some (.type "bool") := by decide +kernel
theorem bt_dict : bootBuiltins "dict" = some (.type "dict") := by decide +kernel
theorem bt_set : bootBuiltins "set" = some (.type "set") := by decide +kernel
/-- Same, further -/
theorem Same.new {H : Hp} {p : Addr} {o : HO} (h : H p = none) : Same H (upd H p o) := fun b u e => by
  rw [upd_ne (ne_of_none e h)]
  exact e
theorem Same.mut {H H' : Hp} {p : Addr} {o : HO} (e : Same H H') (h : H p = none) : Same H (upd H' p o) := fun b u q => by
  rw [upd_ne (ne_of_none q h)]
  exact e b u q
/-- all but what H did not know is as it was; the converse of Same.free -/
theorem Same.none {H H' : Hp} (e : Same H H') {p : Addr} (h : H' p = none) : H p = none := e.free h
end Tr

namespace Tr
open PySem PySem.Spec PyProof.Rows L2
section
variable {X : Cx}
theorem pe_gI {x : Str} {n : Int} {t : Tok} {pos : Pos} (hg : Gl X x) (hm : X.mg x = some (.int n t)) (hd : (x == ("__debug__" : Str)) = false := by decide) : PE X (.Name x pos) (tC (.int n)) := pe_glob hg hm ⟨t, rfl⟩ hd
theorem pe_gS {x : Str} {n : Str} {t : Tok} {pos : Pos} (hg : Gl X x) (hm : X.mg x = some (.str n t)) (hd : (x == ("__debug__" : Str)) = false := by decide) : PE X (.Name x pos) (tC (.str n)) := pe_glob hg hm ⟨t, rfl⟩ hd
theorem pe_gR {x : Str} {n : Addr} {pos : Pos} (hg : Gl X x) (hm : X.mg x = some (.ref n)) (hd : (x == ("__debug__" : Str)) = false := by decide) : PE X (.Name x pos) (tC (.ref n)) := pe_glob (v := .ref n) hg hm rfl hd
structure FldOk (K : PySem.W.Frag) (C : Addr) (f : Str) : Prop where
  cl : Cls K C
  no : NoAttr K C f
def tFldU (K : PySem.W.Frag) (ta : TE) (f : Str) : TE := fun σ H Q => ta σ H fun x H1 => match x with
  | .ref a => (match H1 a with
    | some (.ins C dx fs) => FldOk K C f ∧ ∃ v, fs.lookup f = some v ∧ Q v H1
    | _ => False)
  | _ => False
theorem peImp {e : Expr} {t t' : TE} (h : PE X e t) (i : ∀ σ H Q, t' σ H Q → t σ H Q) : PE X e t' := ⟨fun pins s σ H Q I q => h.run pins s σ H Q I (i σ H Q q)⟩
theorem psImp {e : Stmt} {t t' : TS} (h : PS X e t) (i : ∀ D σ H, t' D σ H → t D σ H) : PS X e t' := ⟨fun pins s σ H D I q => h.run pins s σ H D I (i D σ H q)⟩
theorem pe_fldU {e : Expr} {f : Str} {pos : Pos} {ta : TE} (K : PySem.W.Frag) (ha : PE X e ta) (hb : attributeBase e f X.env (eval e X.env) = eval e X.env := by rfl) (hK : X.K = K := by rfl) : PE X (.Attribute e f pos) (tFldU K ta f) := by
  subst hK
  refine ⟨fun pins s σ H Q I h => ?_⟩
  refine attr_of hb (thn (ha.run pins s σ H _ I h) fun u s1 ⟨x, H1, I1, rx, q⟩ => ?_)
  dsimp only at q
  split at q
  · split at q
    · rename_i ea
      obtain ⟨c, v, l, q⟩ := q
      cases rx
      exact getattr_ok I1 ea c.cl c.no l fun u' s2 I2 ru => ⟨v, H1, I2, ru, q⟩
    · exact q.elim
  · exact q.elim
/-- o.f = e -/
def sFldU (K : PySem.W.Frag) (ta tv : TE) (f : Str) : TS := fun D σ H => tv σ H fun y H1 => ta σ H1 fun x H2 => match x with
  | .ref a => (match H2 a with
    | some (.ins C dx fs) => FldOk K C f ∧ fs.length < 1000 ∧ D.nx σ (upd H2 a (.ins C dx (putF f y fs)))
    | _ => False)
  | _ => False
theorem ps_fldU {o value : Expr} {f : Str} {pos pos' : Pos} {ta tv : TE} (K : PySem.W.Frag) (ha : PE X o ta) (hv : PE X value tv) (hs : swapsWith value (some (.Attribute o f pos')) pos.line X.env = pure false := by rfl) (hK : X.K = K := by rfl) :
    PS X (.Assign [.Attribute o f pos'] value pos) (sFldU K ta tv f) := by
  subst hK
  refine ⟨fun pins s σ H D I h => ?_⟩
  refine plainObj_wpAny_Assign_Attribute (thn (hv.run pins s σ H _ I h) fun u s1 ⟨y, H1, I1, ry, q⟩ => thn (ha.run pins s1 σ H1 _ I1 q) fun ov s2 ⟨x, H2, I2, rx, q2⟩ => ?_) hs
  dsimp only at q2
  split at q2
  · split at q2
    · rename_i ea
      obtain ⟨c, l, q2⟩ := q2
      cases rx
      exact setattr_ok I2 ea c.cl c.no l ry fun s3 I3 => ⟨σ, _, I3, q2⟩
    · exact q2.elim
  · exact q2.elim
/-- (a, b, ..) = e, a tuple that stands in H -/
def gTupU (n : Nat) (t : TGs) : TG := fun v σ H Q => match v with
  | .ref a => (match H a with
    | some (.tup xs) => xs.length = n ∧ t xs σ H Q
    | _ => False)
  | _ => False
theorem pg_tupU {es : List Expr} {k : Nat} {t : TGs} {n : Nat} {pos : Pos} (hc : X.calm = true) (h : PGs X es t)
    (hn : (assignEach es X.env).length = n := by rfl) (hst : (assignEach es X.env).findIdx? (·.1) = none := by rfl) : PG X (.Tuple es k pos) (gTupU n t) := by
  refine ⟨fun pins s σ H v u Q I r hw => ?_⟩
  unfold gTupU at hw
  split at hw
  · split at hw
    · rename_i ea
      exact (pg_tup hc h hn hst).run pins s σ H _ u Q I r ⟨_, _, rfl, SqT.of ea, hw.1, hw.2⟩
    · exact hw.elim
  · exact hw.elim
/-- xs[i] = v, xs[i] op= v -/
def rSetU : V → V → V → Hp → (Hp → Prop) → Prop := fun o i v H Q => match o with
  | .ref p => (match H p with
    | some (.lst xs) => (match i with
      | .int k => ∃ j, ixN xs.length k = some j ∧ Q (upd H p (.lst (xs.set j v)))
      | _ => False)
    | _ => False)
  | _ => False
theorem set_listU : PSet X rSetU := by
  intro pins s σ H o i v ov iv u Q I ro ri rv h
  unfold rSetU at h
  split at h
  · split at h
    · rename_i hp
      split at h
      · obtain ⟨j, hj, q⟩ := h
        exact set_list pins s σ H _ _ v ov iv u Q I ro ri rv ⟨_, _, _, j, rfl, rfl, hp, hj, q⟩
      · exact h.elim
    · exact h.elim
  · exact h.elim
def rGetU : V → V → Hp → VK → Prop := fun o i H Q => match o with
  | .ref p => (match H p with
    | some (.lst xs) => (match i with
      | .int k => ∃ v, atI xs k = some v ∧ Q v H
      | _ => False)
    | _ => False)
  | _ => False
theorem get_listU : PGet X rGetU := by
  intro pins s σ H x y v u Q I rx ry h
  unfold rGetU at h
  split at h
  · split at h
    · rename_i hp
      split at h
      · obtain ⟨z, he, q⟩ := h
        cases rx
        obtain ⟨t, rfl⟩ := ry
        obtain ⟨its, r, pl, hz⟩ := I.list (SqL.of hp)
        obtain ⟨j, h1, h2, h3, h4, h5⟩ := atI_get he
        obtain ⟨w, ew, rw'⟩ := r.get h2
        have hl := r.length
        have hn := line63
        have fin : EP X pins σ Q w s := ⟨z, H, I, rw', q⟩
        rename_i i
        by_cases h0 : 0 ≤ i
        · have hj : i.toNat = j := by
            rw [seqIndex_of h0 h5] at h1
            exact Option.some.inj h1
          exact wpAny_getItem_list pl.isList h0 (by omega) (by rw [hj]; simpa using ew) fin
        · have hj : (i + (its.toArray.size : Int)).toNat = j := by
            rw [seqIndex_neg (by omega) h4] at h1
            rw [List.size_toArray, ← hl]
            exact Option.some.inj h1
          exact wpAny_getItem_list_neg pl.isList (by omega) (by rw [List.size_toArray] <;> omega) (by omega) (by rw [hj]; simpa using ew) fin
      · exact h.elim
    · exact h.elim
  · exact h.elim
end
end Tr
namespace Tr
open PySem PySem.Spec PyProof.Rows L2
theorem lc_fm {α : Type} (xs : List α) (h : α → Option V) {J : It} {n : Nat} {G : Hp → Prop} {Y : Nat → Hp → V → Hp → Prop} (w : Walk J n G Y) (hn : n = xs.length) (hz : xs.length ≤ sizeLine) {g : TG} {tt : TT} {te : TE} {vs : List Nat} {σ : L2.St} {H1 : Hp} {D : Addr} {Qd : Hp → Prop} (hD : H1 D = none)
    (hG : ∀ H, Same H1 H → G H)
    (hs : ∀ (i : Nat) (a : α) (x : V) (H H' : Hp) (R : VK) (R0 : Hp → Prop), xs[i]? = some a → Same H1 H → Y i H x H' → (∀ v, h a = some v → ∀ H4, Same H H4 → R v H4) → (h a = none → ∀ H3, Same H H3 → R0 H3) →
      g x (wipe σ vs) H' fun σ2 H2 => wipe σ2 vs = wipe σ vs ∧ tt σ2 H2 fun b H3 => if b = true then te σ2 H3 R else R0 H3)
    (hd : ∀ H, Same H1 H → H D = some (.lst (xs.filterMap h)) → Qd H) :
    ∃ W : Nat → Nat → Hp → Prop, (∃ m, W 0 m (upd H1 D (.lst []))) ∧ ∀ i m H, W i m H →
      (J.stop i H ∧ Qd H) ∨ (J.go i H ∧ ∃ Nx : Hp → Prop, (∀ H', Nx H' → ∃ m', m' < m ∧ W (i + 1) m' H') ∧ ∀ x H', J.yld i H x H' → g x (wipe σ vs) H' fun σ2 H2 => wipe σ2 vs = wipe σ vs ∧ tt σ2 H2 fun b H3 =>
        if b = true then te σ2 H3 fun y H4 => ∃ acc, H4 D = some (.lst acc) ∧ acc.length < sizeLine ∧ Nx (upd H4 D (.lst (acc ++ [y]))) else Nx H3) := by
  subst hn
  refine lc_it w (fun i H => Same H1 H ∧ H D = some (.lst ((xs.take i).filterMap h))) ⟨Same.new hD, by rw [upd_same]; simp⟩ (fun i H _ p => hG H p.1) ?_ (fun H p => hd H p.1 (by rw [p.2, List.take_length]))
  intro i x H H' hi p y
  obtain ⟨a, ha⟩ : ∃ a, xs[i]? = some a := ⟨xs[i], List.getElem?_eq_getElem hi⟩
  have et : xs.take (i + 1) = xs.take i ++ [a] := by
    rw [List.take_succ, ha]
    rfl
  have hlen : ((xs.take i).filterMap h).length < sizeLine := by
    refine Nat.lt_of_le_of_lt (List.length_filterMap_le _ _) ?_
    rw [List.length_take]
    omega
  refine hs i a x H H' _ _ ha p.1 y (fun v hv H4 s4 => ?_) (fun hv H3 s3 => ?_)
  · refine ⟨_, s4 _ _ p.2, hlen, Same.mut (p.1.trans s4) hD, ?_⟩
    rw [upd_same, et, List.filterMap_append]
    simp [hv]
  · refine ⟨p.1.trans s3, ?_⟩
    rw [s3 _ _ p.2, et, List.filterMap_append]
    simp [hv]
/-- any, all of a list of truth values that stands in H -/
def rAllU : List V → Hp → VK → Prop := fun xs H Q => match xs with
  | [.ref p] => (match H p with
    | some (.lst ys) => ∃ bs : List Bool, ys = bs.map V.bl ∧ Q (.bl (bs.all id)) H
    | _ => False)
  | _ => False
def rAnyU : List V → Hp → VK → Prop := fun xs H Q => match xs with
  | [.ref p] => (match H p with
    | some (.lst ys) => ∃ bs : List Bool, ys = bs.map V.bl ∧ Q (.bl (bs.any id)) H
    | _ => False)
  | _ => False
section
variable {X : Cx}
theorem uAll (hc : X.calm = true) : CallR X (.builtin "all") rAllU := by
  intro pins s σ H xs us Q I r h
  unfold rAllU at h
  split at h
  · split at h
    · rename_i hp
      obtain ⟨bs, rfl, q⟩ := h
      exact cr_all hc pins s σ H _ us Q I r ⟨_, bs, rfl, SqL.of hp, q⟩
    · exact h.elim
  · exact h.elim
theorem uAny (hc : X.calm = true) : CallR X (.builtin "any") rAnyU := by
  intro pins s σ H xs us Q I r h
  unfold rAnyU at h
  split at h
  · split at h
    · rename_i hp
      obtain ⟨bs, rfl, q⟩ := h
      exact cr_any hc pins s σ H _ us Q I r ⟨_, bs, rfl, SqL.of hp, q⟩
    · exact h.elim
  · exact h.elim
/-- x in T, T a written tuple of the module -/
def rInW (p : Addr) (xs : List V) : R2 := fun x y H Q => y = .ref p ∧ flatV x = true ∧ Q (.bl (inV x xs)) H
theorem uInW {p : Addr} {xs : List V} (hw : ∀ H, SqT X.K H p xs) (hf : xs.all flatV = true) : OpR X (compareOp .In) (rInW p xs) := by
  intro pins s σ H x y v u Q I rx ry h
  obtain ⟨rfl, fx, q⟩ := h
  exact op_in_seq pins s σ H x _ v u Q I rx ry ⟨_, xs, rfl, .inr (hw H), fx, hf, q⟩
end
theorem inV_strs (t : Str) : ∀ l : List Str, inV (.str t) (l.map V.str) = l.contains t
  | [] => rfl
  | b :: l => by
    have ih := inV_strs t l
    unfold inV at ih ⊢
    rw [List.map_cons, List.any_cons, ih, List.contains_cons]
    congr 1
    show (b == t) = (t == b)
    exact Bool.eq_iff_iff.mpr ⟨fun h => by simpa using (by simpa using h : b = t).symm, fun h => by simpa using (by simpa using h : t = b).symm⟩
theorem flat_strs (l : List Str) : (l.map V.str).all flatV = true := by
  induction l with
  | nil => rfl
  | cons a l ih => exact ih
theorem atI_0 {α : Type} (x : α) (l : List α) : atI (x :: l) 0 = some x := atI_nat (j := 0) rfl
theorem atI_1 {α : Type} (x y : α) (l : List α) : atI (x :: y :: l) 1 = some y := atI_nat (j := 1) rfl
theorem atI_2 {α : Type} (x y z : α) (l : List α) : atI (x :: y :: z :: l) 2 = some z := atI_nat (j := 2) rfl
theorem atI_3 {α : Type} (x y z w : α) (l : List α) : atI (x :: y :: z :: w :: l) 3 = some w := atI_nat (j := 3) rfl
end Tr
set_option maxHeartbeats 4000000
namespace Tr
open PySem PySem.Spec PyProof.Rows L2
section
variable {σ : L2.St} {H : Hp} {Q : VK} {D : Ends} {t u : TS} {c d : TT} {ta tb te tv : TE} {tg : TG} {i j : Nat} {v x y : V} {K : PySem.W.Frag}
variable {na : L2.St → Hp → Prop} {rt : VK} {bk ct : L2.St → Hp → Prop}
theorem s_seq (h : t ⟨u ⟨na, rt, bk, ct⟩, rt, bk, ct⟩ σ H) : tSeq t u ⟨na, rt, bk, ct⟩ σ H := h
theorem s_next (h : na σ H) : tNext ⟨na, rt, bk, ct⟩ σ H := h
theorem s_if (h : c σ H fun b H1 => if b = true then t D σ H1 else u D σ H1) : tIfS c t u D σ H := h
theorem s_ret (h : te σ H rt) : tRet te ⟨na, rt, bk, ct⟩ σ H := h
theorem s_retN (h : rt .non H) : tRetN ⟨na, rt, bk, ct⟩ σ H := h
theorem s_drop (h : te σ H fun _ H1 => na σ H1) : tDrop te ⟨na, rt, bk, ct⟩ σ H := h
theorem s_asg (h : te σ H fun x H1 => tg x σ H1 na) : tAsg te tg ⟨na, rt, bk, ct⟩ σ H := h
theorem s_brk (h : bk σ H) : tBreak ⟨na, rt, bk, ct⟩ σ H := h
theorem s_cont (h : ct σ H) : tCont ⟨na, rt, bk, ct⟩ σ H := h
theorem s_gname {R : L2.St → Hp → Prop} (h : R (σ.set i (some v)) H) : gName i v σ H R := h
theorem s_var (h : σ[i]? = some (some v)) (q : Q v H) : tVar i σ H Q := ⟨v, h, q⟩
theorem s_c (q : Q v H) : tC v σ H Q := q
theorem s_op {r : R2} (h : ta σ H fun x H1 => tb σ H1 fun y H2 => r x y H2 Q) : tOp r ta tb σ H Q := h
theorem s_un {r : V → Hp → VK → Prop} (h : ta σ H fun x H1 => r x H1 Q) : tUn r ta σ H Q := h
theorem s_neg {n : Int} (q : Q (.int (-n)) H) : rU (fun i => .int (-i)) (.int n) H Q := ⟨n, rfl, q⟩
theorem s_test {R : Bool → Hp → Prop} (h : te σ H fun x H' => ∃ k, x = .bl k ∧ R k H') : tTest te σ H R := h
theorem s_tb {R : Bool → Hp → Prop} (h : te σ H fun x H' => ∃ k, x = .bl k ∧ R k H') : tB te σ H R := h
theorem s_bl {R : Bool → Prop} {b : Bool} (h : R b) : ∃ k, V.bl b = .bl k ∧ R k := ⟨b, rfl, h⟩
theorem s_not {R : Bool → Hp → Prop} (h : c σ H fun b H1 => R (!b) H1) : tNot c σ H R := h
theorem s_and {R : Bool → Hp → Prop} (h : c σ H fun b H1 => if b = true then d σ H1 R else R false H1) : tAnd c d σ H R := h
theorem s_or {R : Bool → Hp → Prop} (h : c σ H fun b H1 => if b = true then R true H1 else d σ H1 R) : tOr c d σ H R := h
theorem s_yes {R : Bool → Hp → Prop} (h : R true H) : tYes σ H R := h
theorem s_ifx (h : c σ H fun b H1 => if b = true then ta σ H1 Q else tb σ H1 Q) : tIf c ta tb σ H Q := h
theorem s_andV (h : ta σ H fun x H1 => ∃ c, x = .bl c ∧ if c = true then tb σ H1 Q else Q (.bl false) H1) : tAndV ta tb σ H Q := h
theorem s_orV (h : ta σ H fun x H1 => ∃ c, x = .bl c ∧ if c = true then Q (.bl true) H1 else tb σ H1 Q) : tOrV ta tb σ H Q := h
theorem s_notV (h : ta σ H fun x H1 => ∃ c, x = .bl c ∧ Q (.bl (!c)) H1) : tNotV ta σ H Q := h
theorem s_chain {r r' : R2} {tc : TE} (h : ta σ H fun x H1 => tb σ H1 fun y H2 => r x y H2 fun z H3 => ∃ k, z = .bl k ∧ (if k = true then tc σ H3 fun w' H4 => r' y w' H4 Q else Q (.bl false) H3)) : tChain r r' ta tb tc σ H Q := h
theorem s_nil {R : List V → Hp → Prop} (h : R [] H) : tNil σ H R := h
theorem s_cons {tr : TA} {R : List V → Hp → Prop} (h : te σ H fun x H1 => tr σ H1 fun xs H2 => R (x :: xs) H2) : tCons te tr σ H R := h
theorem s_lst {tr : TA} (h : tr σ H fun xs H1 => xs.length ≤ sizeLine ∧ ∀ p, H1 p = none → Q (.ref p) (upd H1 p (.lst xs))) : tLst tr σ H Q := h
theorem s_tup {tr : TA} (h : tr σ H fun xs H1 => xs.length ≤ sizeLine ∧ ∀ p, H1 p = none → Q (.ref p) (upd H1 p (.tup xs))) : tTup tr σ H Q := h
theorem s_cb {r : List V → Hp → VK → Prop} {tr : TA} (h : tr σ H fun vs H1 => r vs H1 Q) : tCB r tr σ H Q := h
theorem s_call {sp : Sp} {E : XK} {tr : TA} (h : tr σ H fun vs H1 => sp vs H1 Q E) : tCall sp [] E tr σ H Q := by
  show tr σ H fun vs H1 => sp (vs ++ []) H1 Q E
  have e : (fun vs H1 => sp (vs ++ []) H1 Q E) = fun vs H1 => sp vs H1 Q E := by funext vs H1; rw [List.append_nil]
  rw [e]
  exact h
def mRecv (C : Addr) (m : Str) (R : V → Hp → Prop) (x : V) (H1 : Hp) : Prop := ∃ a dx fs, x = .ref a ∧ H1 a = some (.ins C dx fs) ∧ fs.lookup m = none ∧ R x H1
theorem s_meth {C : Addr} {m : Str} {sp : Sp} {E : XK} {tr : TA} (h : ta σ H fun x H1 => mRecv C m (fun x H1 => tr σ H1 fun vs H2 => sp (x :: vs) H2 Q E) x H1) : tMeth C m sp [] E ta tr σ H Q := by
  have e : (fun x H1 => ∃ a dx fs, x = V.ref a ∧ H1 a = some (.ins C dx fs) ∧ fs.lookup m = none ∧ tr σ H1 fun vs H2 => sp (x :: (vs ++ [])) H2 Q E) = fun x H1 => mRecv C m (fun x H1 => tr σ H1 fun vs H2 => sp (x :: vs) H2 Q E) x H1 := by
    funext x H1
    simp only [List.append_nil, mRecv]
  show ta σ H fun x H1 => ∃ a dx fs, x = V.ref a ∧ H1 a = some (.ins C dx fs) ∧ fs.lookup m = none ∧ tr σ H1 fun vs H2 => sp (x :: (vs ++ [])) H2 Q E
  rw [e]
  exact h
/-- the receiver is known -/
theorem s_recv {C a dx : Addr} {m : Str} {fs : List (Str × V)} {R : V → Hp → Prop} (h1 : H a = some (.ins C dx fs)) (h2 : fs.lookup m = none) (q : R (.ref a) H) : mRecv C m R (.ref a) H := ⟨a, dx, fs, rfl, h1, h2, q⟩
theorem s_make {C : Addr} {sp : Sp} {E : XK} {tr : TA} (h : tr σ H fun vs H1 => ∀ x dx, H1 x = none → H1 dx = none → dx ≠ x → sp (.ref x :: vs) (upd (upd H1 dx (.own x)) x (.ins C dx [])) (fun v H2 => v = .non ∧ Q (.ref x) H2) E) : tMake C sp [] E tr σ H Q := by
  have e : (fun vs H1 => ∀ x dx, H1 x = none → H1 dx = none → dx ≠ x → sp (.ref x :: (vs ++ [])) (upd (upd H1 dx (.own x)) x (.ins C dx [])) (fun v H2 => v = .non ∧ Q (.ref x) H2) E) = fun vs H1 => ∀ x dx, H1 x = none → H1 dx = none → dx ≠ x → sp (.ref x :: vs) (upd (upd H1 dx (.own x)) x (.ins C dx [])) (fun v H2 => v = .non ∧ Q (.ref x) H2) E := by
    funext vs H1
    simp only [List.append_nil]
  show tr σ H fun vs H1 => ∀ x dx, H1 x = none → H1 dx = none → dx ≠ x → sp (.ref x :: (vs ++ [])) (upd (upd H1 dx (.own x)) x (.ins C dx [])) (fun v H2 => v = .non ∧ Q (.ref x) H2) E
  rw [e]
  exact h
theorem s_I0 {g : Int → Int → V} {n m : Int} (q : Q (g n m) H) : rI0 g (.int n) (.int m) H Q := ⟨n, m, rfl, rfl, q⟩
theorem s_I {C : Int → Int → Prop} {g : Int → Int → V} {n m : Int} (hc : C n m) (q : Q (g n m) H) : rI C g (.int n) (.int m) H Q := ⟨n, m, rfl, rfl, hc, q⟩
theorem s_eqS (hs : scal x y = true) (q : Q (.bl (decide (x = y))) H) : rEqU K x y H Q := by unfold rEqU; rw [if_pos hs]; exact q
theorem s_neS (hs : scal x y = true) (q : Q (.bl (!decide (x = y))) H) : rNeU K x y H Q := by unfold rNeU; rw [if_pos hs]; exact q
theorem s_eqNil {p q' : Addr} {xs : List V} (hp : H p = some (.lst xs)) (hq : H q' = some (.lst [])) (q : Q (.bl xs.isEmpty) H) : rEqU K (.ref p) (.ref q') H Q := by
  unfold rEqU; rw [if_neg (by simp [scal])]; simp only [hp, hq]; exact q
theorem s_neNil {p q' : Addr} {xs : List V} (hp : H p = some (.lst xs)) (hq : H q' = some (.lst [])) (q : Q (.bl (!xs.isEmpty)) H) : rNeU K (.ref p) (.ref q') H Q := by
  unfold rNeU; rw [if_neg (by simp [scal])]; simp only [hp, hq]; exact q
theorem s_isN {b : Bool} (hb : decide (x = .non) = b) (q : Q (.bl b) H) : rIsN x .non H Q := ⟨rfl, by rw [hb]; exact q⟩
theorem s_notN {b : Bool} (hb : decide (x = .non) = b) (q : Q (.bl (!b)) H) : rNotN x .non H Q := ⟨rfl, by rw [hb]; exact q⟩
theorem s_addI {n m : Int} (q : Q (.int (n + m)) H) : rAddU (.int n) (.int m) H Q := q
theorem s_addS {a b : Str} (hl : a.length + b.length ≤ sizeLine) (q : Q (.str (a ++ b)) H) : rAddU (.str a) (.str b) H Q := ⟨hl, q⟩
theorem s_addL {p r : Addr} {xs ys : List V} (hp : H p = some (.lst xs)) (hq : H r = some (.lst ys)) (hl : xs.length + ys.length ≤ sizeLine) (q : ∀ z, H z = none → Q (.ref z) (upd H z (.lst (xs ++ ys)))) : rAddU (.ref p) (.ref r) H Q := by
  simp only [rAddU, hp, hq]
  exact ⟨hl, q⟩
theorem s_mulI {n m : Int} (hc : CMulW n m) (q : Q (.int (n * m)) H) : rMulU (.int n) (.int m) H Q := ⟨hc, q⟩
theorem s_mulL {p : Addr} {xs : List V} {k : Int} (hp : H p = some (.lst xs)) (h1 : -(2 ^ 63) ≤ k) (h2 : k < 2 ^ 63) (h3 : xs.length * k.toNat ≤ sizeLine) (q : ∀ z, H z = none → Q (.ref z) (upd H z (.lst (List.replicate k.toNat xs).flatten))) : rMulU (.ref p) (.int k) H Q := by
  simp only [rMulU, hp]
  exact ⟨h1, h2, h3, q⟩
theorem s_ixL {p : Addr} {xs : List V} {n : Int} (hp : H p = some (.lst xs)) (ha : atI xs n = some v) (q : Q v H) : rIxU (.ref p) (.int n) H Q := by
  simp only [rIxU, hp]
  exact ⟨v, ha, q⟩
theorem s_ixT {p : Addr} {xs : List V} {n : Int} (hp : H p = some (.tup xs)) (ha : atI xs n = some v) (q : Q v H) : rIxU (.ref p) (.int n) H Q := by
  simp only [rIxU, hp]
  exact ⟨v, ha, q⟩
theorem s_ixS {z : Str} {n : Int} {k : Nat} (hz : z.length ≤ sizeLine) (ha : atI z.cps.toList n = some k) (q : Q (.str ⟨#[k]⟩) H) : rIxU (.str z) (.int n) H Q := ⟨hz, k, ha, q⟩
theorem s_sl {r : V → Option Int → Option Int → Hp → VK → Prop} {tl th : TO} (h : te σ H fun x H1 => tl σ H1 fun l H2 => th σ H2 fun u H3 => r x l u H3 Q) : tSl r te tl th σ H Q := h
theorem s_po0 {R : Option Int → Hp → Prop} (h : R none H) : tNoPart σ H R := h
theorem s_po1 {R : Option Int → Hp → Prop} (h : te σ H fun x H1 => ∃ i, x = .int i ∧ R (some i) H1) : tPart te σ H R := h
theorem s_int {R : Int → Prop} {n : Int} (h : R n) : ∃ i, V.int n = .int i ∧ R i := ⟨n, rfl, h⟩
theorem s_slL {p : Addr} {xs : List V} {lo hi : Option Int} (hp : H p = some (.lst xs)) (q : ∀ z, H z = none → Q (.ref z) (upd H z (.lst (cutV xs lo hi)))) : rSlU (.ref p) lo hi H Q := by
  simp only [rSlU, hp]
  exact q
theorem s_slS {z : Str} {lo hi : Option Int} (hz : z.length ≤ sizeLine) (q : Q (.str (cutS z lo hi)) H) : rSlU (.str z) lo hi H Q := ⟨hz, q⟩
theorem s_inL {p : Addr} {xs : List V} {neg : Bool} (hp : H p = some (.lst xs)) (h1 : flatV x = true) (h2 : xs.all flatV = true) (q : Q (.bl (if neg then !inV x xs else inV x xs)) H) : rInU K neg x (.ref p) H Q := by
  simp only [rInU, hp]
  exact ⟨h1, h2, q⟩
theorem s_inT {p : Addr} {xs : List V} {neg : Bool} (hp : H p = some (.tup xs)) (h1 : flatV x = true) (h2 : xs.all flatV = true) (q : Q (.bl (if neg then !inV x xs else inV x xs)) H) : rInU K neg x (.ref p) H Q := by
  simp only [rInU, hp]
  exact ⟨h1, h2, q⟩
/-- a text in a list of texts -/
theorem s_inS {p : Addr} {z : Str} {l : List Str} (hp : H p = some (.lst (l.map V.str))) (q : Q (.bl (l.contains z)) H) : rInU K false (.str z) (.ref p) H Q := s_inL hp rfl (flat_strs _) (by rw [inV_strs]; exact q)
theorem s_ninS {p : Addr} {z : Str} {l : List Str} (hp : H p = some (.lst (l.map V.str))) (q : Q (.bl (!l.contains z)) H) : rInU K true (.str z) (.ref p) H Q := s_inL hp rfl (flat_strs _) (by rw [inV_strs]; exact q)
theorem s_inW {p : Addr} {z : Str} {l : List Str} (q : Q (.bl (l.contains z)) H) : rInW p (l.map V.str) (.str z) (.ref p) H Q := ⟨rfl, rfl, by rw [inV_strs]; exact q⟩
theorem s_lenS {z : Str} (hz : z.length ≤ sizeLine) (q : Q (.int z.length) H) : rLenU [.str z] H Q := ⟨hz, q⟩
theorem s_lenL {p : Addr} {xs : List V} (hp : H p = some (.lst xs)) (q : Q (.int xs.length) H) : rLenU [.ref p] H Q := by
  simp only [rLenU, hp]
  exact q
theorem s_lenT {p : Addr} {xs : List V} (hp : H p = some (.tup xs)) (q : Q (.int xs.length) H) : rLenU [.ref p] H Q := by
  simp only [rLenU, hp]
  exact q
theorem s_intI {n : Int} (q : Q (.int n) H) : rIntU [.int n] H Q := q
theorem s_intB {b : Bool} (q : Q (.int (if b then 1 else 0)) H) : rIntU [.bl b] H Q := q
theorem s_intS {z : Str} {n : Int} (h1 : PySem.intText? z = some n) (h2 : z.length ≤ 640) (q : Q (.int n) H) : rIntU [.str z] H Q := ⟨n, h1, h2, q⟩
theorem s_listL {p : Addr} {xs : List V} (hp : H p = some (.lst xs)) (q : ∀ z, H z = none → Q (.ref z) (upd H z (.lst xs))) : rListU [.ref p] H Q := by
  simp only [rListU, hp]
  exact q
theorem s_listT {p : Addr} {xs : List V} (hp : H p = some (.tup xs)) (q : ∀ z, H z = none → Q (.ref z) (upd H z (.lst xs))) : rListU [.ref p] H Q := by
  simp only [rListU, hp]
  exact q
theorem s_tupleL {p : Addr} {xs : List V} (hp : H p = some (.lst xs)) (q : ∀ z, H z = none → Q (.ref z) (upd H z (.tup xs))) : rTupleU [.ref p] H Q := by
  simp only [rTupleU, hp]
  exact q
theorem s_tupleT {p : Addr} {xs : List V} (hp : H p = some (.tup xs)) (q : Q (.ref p) H) : rTupleU [.ref p] H Q := by
  simp only [rTupleU, hp]
  exact q
theorem s_bm {T : String} {r : V → List V → Hp → VK → Prop} {tr : TA} (h : ta σ H fun x H1 => tyV K T x H1 ∧ tr σ H1 fun xs H2 => r x xs H2 Q) : tBM K T r ta tr σ H Q := h
theorem s_bm0 {T : String} {r : V → List V → Hp → VK → Prop} (h : ta σ H fun x H1 => tyV K T x H1 ∧ r x [] H1 Q) : tBM0 K T r ta σ H Q := h
theorem s_tyL {p : Addr} {xs : List V} {R : Prop} (hp : H p = some (.lst xs)) (h : R) : tyV K "list" (.ref p) H ∧ R := ⟨.inl ⟨rfl, _, SqL.of hp⟩, h⟩
theorem s_app {p : Addr} {xs : List V} (hp : H p = some (.lst xs)) (hl : xs.length < sizeLine) (q : Q .non (upd H p (.lst (xs ++ [v])))) : rAppU (.ref p) [v] H Q := by
  simp only [rAppU, hp]
  exact ⟨hl, q⟩
theorem s_fld {a C dx : Addr} {fs : List (Str × V)} {f : Str} (hp : H a = some (.ins C dx fs)) (hc : FldOk K C f) (hl : fs.lookup f = some v) (q : Q v H) : (fun x H1 => (match x with
  | V.ref a => (match H1 a with
    | some (HO.ins C dx fs) => FldOk K C f ∧ ∃ v, fs.lookup f = some v ∧ Q v H1
    | _ => False)
  | _ => False)) (V.ref a) H := by
  simp only [hp]
  exact ⟨hc, v, hl, q⟩
end
end Tr
namespace Tr
open PySem PySem.Spec PyProof.Rows L2
theorem get_same {H H' : Hp} {a : Addr} {o : HO} (S : Same H H') (h : H a = some o) : H' a = some o := S a o h
theorem upd_none {H : Hp} {a z : Addr} {o : HO} (h : upd H a o z = none) : z ≠ a ∧ H z = none := by
  by_cases e : z = a
  · rw [e, upd_same] at h
    cases h
  · rw [upd_ne e] at h
    exact ⟨e, h⟩
theorem sz_le {n : Nat} (h : n ≤ 100000) : n ≤ sizeLine := Nat.le_trans h (by decide)
theorem sz_lt {n : Nat} (h : n < 100000) : n < sizeLine := Nat.lt_of_lt_of_le h (by decide)
theorem ifT {b : Bool} {A B : Prop} (e : b = true) (h : A) : if b = true then A else B := by rw [if_pos e]; exact h
theorem ifF {b : Bool} {A B : Prop} (e : b = false) (h : B) : if b = true then A else B := by rw [if_neg (by rw [e]; decide)]; exact h
theorem ifB {b : Bool} {A B : Prop} (h1 : b = true → A) (h2 : b = false → B) : if b = true then A else B := by
  cases b
  · exact ifF rfl (h2 rfl)
  · exact ifT rfl (h1 rfl)
end Tr
namespace Tr
open PySem PySem.Spec PyProof.Rows L2
section
variable {σ : L2.St} {H : Hp} {Q : VK} {D : Ends} {ta tb te tv : TE} {v x y : V} {K : PySem.W.Frag}
theorem s_m1 {r : V → List V → Hp → VK → Prop} (h : ta σ H fun x H1 => (∃ a, x = .str a) ∧ te σ H1 fun y H2 => r x [y] H2 Q) : tM1 r ta te σ H Q := h
theorem s_isS {z : Str} {R : Prop} (h : R) : (∃ a, V.str z = .str a) ∧ R := ⟨⟨z, rfl⟩, h⟩
theorem s_isiSS {z : Str} (q : Q (.bl true) H) : rIsi K [.str z, .ty "str"] H Q := ⟨_, _, _, _, true, rfl, .ty _, .base (.str z), kit_ty (by decide +kernel), q⟩
theorem s_isiLT {p tp : Addr} {xs : List V} (hp : H p = some (.lst xs)) (ht : H tp = some (.tup [.ty "list", .ty "tuple"])) (q : Q (.bl true) H) : rIsiT K [.ref p, .ref tp] H Q :=
  ⟨_, tp, _, .type "list", [.type "list", .type "tuple"], true, rfl, ht, .cons (.ty _) (.cons (.ty _) .nil), .base (.lst hp), by rfl, q⟩
theorem s_split {z b : Str} (h1 : (b.length == 0) = false) (h2 : z.length + 2 ≤ sizeLine) (q : ∀ p, H p = none → Q (.ref p) (upd H p (.lst ((Txt.split z b).map V.str)))) :
    ∃ a b', V.str z = V.str a ∧ [V.str b] = [V.str b'] ∧ (b'.length == 0) = false ∧ a.length + 2 ≤ sizeLine ∧ rNewStrs (Txt.split a b') H Q := ⟨z, b, rfl, rfl, h1, h2, q⟩
end
end Tr
namespace Tr
open PySem L2
theorem s_sz {n : Nat} {R : Prop} (h : n ≤ 1000) (q : R) : n ≤ sizeLine ∧ R := ⟨Nat.le_trans h (by decide), q⟩
end Tr
namespace Tr
open PySem PySem.Spec PyProof.Rows L2
section
variable {σ : L2.St} {H : Hp} {Q : VK} {D : Ends} {K : PySem.W.Frag}
/-- for i, x in enumerate(xs) -/
theorem s_forEnum {p : Addr} {xs : List V} {g : TG} {tb : TS} {te : TE} {na : L2.St → Hp → Prop} {rt : VK} {bk ct : L2.St → Hp → Prop} (h1 : te σ H fun v H1 => v = .ref p ∧ H1 = H) (hm : ∀ Q : VK, (te σ H fun v H1 => v = .ref p ∧ H1 = H) → Q (.ref p) H → te σ H Q) (hp : H p = some (.lst xs)) (Pv : Nat → L2.St → Hp → Prop) (h0 : Pv 0 σ H)
    (hG : ∀ i σ H, i ≤ xs.length → Pv i σ H → H p = some (.lst xs))
    (hs : ∀ i x T σ H, xs[i]? = some x → Pv i σ H → H T = none → g (.ref T) σ (upd H T (.tup [.int (i : Nat), x])) fun σ2 H2 => tb ⟨Pv (i + 1), rt, na, Pv (i + 1)⟩ σ2 H2)
    (hd : ∀ σ H, Pv xs.length σ H → na σ H) : tFor (iEnum K (tCons te tNil)) g tb ⟨na, rt, bk, ct⟩ σ H := by
  refine hm _ h1 ⟨p, xs, rfl, SqL.of hp, ?_⟩
  refine for_it (D := ⟨na, rt, bk, ct⟩) (walk_enum (xs := xs)) Pv h0 (fun i σ H hi pv => SqL.of (hG i σ H hi pv)) ?_ hd
  rintro i x σ H H' hi pv ⟨T, x1, y1, rfl, hT, rfl, e1, e2⟩
  cases e1
  exact hs i y1 T σ H e2 pv hT
theorem s_forEnumV {p : Addr} {xs : List V} {g : TG} {tb : TS} {j : Nat} {na : L2.St → Hp → Prop} {rt : VK} {bk ct : L2.St → Hp → Prop} (hv : σ[j]? = some (some (.ref p))) (hp : H p = some (.lst xs)) (Pv : Nat → L2.St → Hp → Prop) (h0 : Pv 0 σ H)
    (hG : ∀ i σ H, i ≤ xs.length → Pv i σ H → H p = some (.lst xs))
    (hs : ∀ i x T σ H, xs[i]? = some x → Pv i σ H → H T = none → g (.ref T) σ (upd H T (.tup [.int (i : Nat), x])) fun σ2 H2 => tb ⟨Pv (i + 1), rt, na, Pv (i + 1)⟩ σ2 H2)
    (hd : ∀ σ H, Pv xs.length σ H → na σ H) : tFor (iEnum K (tCons (tVar j) tNil)) g tb ⟨na, rt, bk, ct⟩ σ H :=
  s_forEnum ⟨_, hv, rfl, rfl⟩ (fun Q _ q => ⟨_, hv, q⟩) hp Pv h0 hG hs hd
/-- for x in xs, xs what te gives, a list that stands in H -/
theorem s_forList {p : Addr} {xs : List V} {g : TG} {tb : TS} {te : TE} {na : L2.St → Hp → Prop} {rt : VK} {bk ct : L2.St → Hp → Prop} (Pv : Nat → L2.St → Hp → Prop) (h0 : Pv 0 σ H) (hp : H p = some (.lst xs))
    (hG : ∀ i σ H, i ≤ xs.length → Pv i σ H → H p = some (.lst xs))
    (hs : ∀ i x σ H, xs[i]? = some x → Pv i σ H → g x σ H fun σ2 H2 => tb ⟨Pv (i + 1), rt, na, Pv (i + 1)⟩ σ2 H2)
    (hd : ∀ σ H, Pv xs.length σ H → na σ H) :
    ∃ W : Nat → Nat → L2.St → Hp → Prop, (∃ m, W 0 m σ H) ∧ ∀ i m σ H, W i m σ H →
      ((Itl K p).stop i H ∧ na σ H) ∨ ((Itl K p).go i H ∧ ∃ N : L2.St → Hp → Prop, (∀ σ' H', N σ' H' → ∃ m', m' < m ∧ W (i + 1) m' σ' H') ∧ ∀ x H', (Itl K p).yld i H x H' → g x σ H' fun σ2 H2 => tb ⟨N, rt, na, N⟩ σ2 H2) :=
  for_list (K := K) (D := ⟨na, rt, bk, ct⟩) Pv h0 (fun i σ H hi pv => SqL.of (hG i σ H hi pv)) hs hd
theorem s_gtup2 {T : Addr} {x y : V} {i j n : Nat} {R : L2.St → Hp → Prop} (hT : H T = some (.tup [x, y])) (hn : 2 = n) (q : R ((σ.set i (some x)).set j (some y)) H) : gTupU n (gCons (gName i) (gCons (gName j) gNil)) (.ref T) σ H R := by
  subst hn
  simp only [gTupU, hT]
  exact ⟨rfl, _, _, rfl, _, _, rfl, rfl, q⟩
theorem s_gtup3 {T : Addr} {x y z : V} {i j k n : Nat} {R : L2.St → Hp → Prop} (hT : H T = some (.tup [x, y, z])) (hn : 3 = n) (q : R (((σ.set i (some x)).set j (some y)).set k (some z)) H) : gTupU n (gCons (gName i) (gCons (gName j) (gCons (gName k) gNil))) (.ref T) σ H R := by
  subst hn
  simp only [gTupU, hT]
  exact ⟨rfl, _, _, rfl, _, _, rfl, _, _, rfl, rfl, q⟩
end
end Tr
namespace Tr
open PySem PySem.Spec PyProof.Rows L2
section
variable {H : Hp} {Q : VK} {K : PySem.W.Frag}
/-- a text in a written tuple of texts that was just laid -/
theorem s_inTS {p : Addr} {z : Str} {l : List Str} (hp : H p = some (.tup (l.map V.str))) (q : Q (.bl (l.contains z)) H) : rInU K false (.str z) (.ref p) H Q := s_inT hp rfl (flat_strs _) (by rw [inV_strs]; exact q)
theorem s_ninTS {p : Addr} {z : Str} {l : List Str} (hp : H p = some (.tup (l.map V.str))) (q : Q (.bl (!l.contains z)) H) : rInU K true (.str z) (.ref p) H Q := s_inT hp rfl (flat_strs _) (by rw [inV_strs]; exact q)
theorem contains2 (z a b : Str) : [a, b].contains z = decide (z = a ∨ z = b) := by simp [List.contains_cons, Bool.decide_or]
theorem dec_str (a b : Str) : decide (V.str a = V.str b) = decide (a = b) := decide_eq_decide.mpr ⟨fun e => by injection e, fun e => by rw [e]⟩
theorem dec_int (a b : Int) : decide (V.int a = V.int b) = decide (a = b) := decide_eq_decide.mpr ⟨fun e => by injection e, fun e => by rw [e]⟩
theorem split_at {α : Type} {l : List α} {i : Nat} {z : α} (h : l[i]? = some z) : l = l.take i ++ z :: l.drop (i + 1) := by
  obtain ⟨hi, e⟩ := List.getElem?_eq_some_iff.mp h
  have e2 := List.drop_eq_getElem_cons hi
  rw [e] at e2
  rw [← e2, List.take_append_drop]
theorem str_at {l : List Str} {i : Nat} {x : V} (hx : (l.map V.str)[i]? = some x) : ∃ z, l[i]? = some z ∧ x = .str z := by
  rw [List.getElem?_map] at hx
  cases e : l[i]? with
  | none => rw [e] at hx; cases hx
  | some z => rw [e] at hx; exact ⟨z, rfl, (Option.some.inj hx).symm⟩
end
end Tr
namespace Tr
open PySem PySem.Spec PyProof.Rows L2
section
variable {σ : L2.St} {H : Hp} {Q : VK} {K : PySem.W.Frag} {ta tv : TE} {f : Str} {v : V} {na : L2.St → Hp → Prop} {rt : VK} {bk ct : L2.St → Hp → Prop}
def mFld (K : PySem.W.Frag) (f : Str) (x : V) (H1 : Hp) (Q : VK) : Prop := match x with
  | .ref a => (match H1 a with
    | some (.ins C dx fs) => FldOk K C f ∧ ∃ v, fs.lookup f = some v ∧ Q v H1
    | _ => False)
  | _ => False
theorem s_fldU (h : ta σ H fun x H1 => mFld K f x H1 Q) : tFldU K ta f σ H Q := h
theorem s_fldM {a C dx : Addr} {fs : List (Str × V)} (hp : H a = some (.ins C dx fs)) (hc : FldOk K C f) (hl : fs.lookup f = some v) (q : Q v H) : mFld K f (.ref a) H Q := by
  simp only [mFld, hp]
  exact ⟨hc, v, hl, q⟩
def mSet (K : PySem.W.Frag) (f : Str) (x y : V) (H2 : Hp) (R : Hp → Prop) : Prop := match x with
  | .ref a => (match H2 a with
    | some (.ins C dx fs) => FldOk K C f ∧ fs.length < 1000 ∧ R (upd H2 a (.ins C dx (putF f y fs)))
    | _ => False)
  | _ => False
theorem s_sfldU (h : tv σ H fun y H1 => ta σ H1 fun x H2 => mSet K f x y H2 fun H3 => na σ H3) : sFldU K ta tv f ⟨na, rt, bk, ct⟩ σ H := h
theorem s_setM {a C dx : Addr} {fs fs' : List (Str × V)} {y : V} {R : Hp → Prop} (hp : H a = some (.ins C dx fs)) (hc : FldOk K C f) (hl : fs.length < 1000) (he : putF f y fs = fs') (q : R (upd H a (.ins C dx fs'))) : mSet K f (.ref a) y H R := by
  simp only [mSet, hp]
  exact ⟨hc, hl, by rw [he]; exact q⟩
end
end Tr
set_option maxHeartbeats 1000000
namespace Tr
open PySem PySem.Spec PyProof.Rows L2
section
variable {X : Cx}
def PPt (X : Cx) (p : Pattern) (r : Str → Bool) : Prop := ∀ (pins : List (Addr × Obj)) (s : Shared) (σ : L2.St) (H : Hp) (z : Str) (u : Value) (Q : Option (List (Str × Value)) → Shared → Prop), Inv X pins σ H s → RelV (.str z) u →
  (∀ s', Inv X pins σ H s' → Q (if r z = true then some [] else none) s') → wpAny (model X.prog X.w) X.A (matchPattern p X.env u) Q X.xe s
theorem ppt_val {w : Str} {k : Nat} {p1 p2 : Pos} : PPt X (.MatchValue (.Constant (.str w) k p1) p2) (fun z => decide (z = w)) := by
  intro pins s σ H z u Q I ru hq
  refine wpAny_matchPattern_Value ?_
  refine thn ((pe_str (X := X)).run pins s σ H (fun v H1 => v = .str w ∧ H1 = H) I ⟨rfl, rfl⟩) fun x s1 hx => ?_
  obtain ⟨v, H1, I1, rx, rfl, rfl⟩ := hx
  refine thn (op_eq pins s1 σ _ (.str z) (.str w) u x (fun v H1 => v = .bl (decide (V.str z = V.str w)) ∧ H1 = _) I1 ru rx ⟨rfl, rfl, rfl⟩) fun c s2 hc => ?_
  obtain ⟨v, H2, I2, rc, rfl, rfl⟩ := hc
  have ec : c = Value.bool (decide (V.str z = V.str w)) := rc
  subst ec
  refine wpAny_truthy_bool ?_
  have := hq s2 I2
  rw [dec_str]
  by_cases e : z = w
  · simpa [e] using this
  · simpa [e] using this
def PFs (X : Cx) (ps : List Pattern) (r : Str → Bool) : Prop := ∀ (pins : List (Addr × Obj)) (s : Shared) (σ : L2.St) (H : Hp) (z : Str) (u : Value) (Q : Option (List (Str × Value)) → Shared → Prop), Inv X pins σ H s → RelV (.str z) u →
  (∀ s', Inv X pins σ H s' → Q (if r z = true then some [] else none) s') → wpAny (model X.prog X.w) X.A (matchFirst ps X.env u) Q X.xe s
theorem pfs_nil : PFs X [] (fun _ => false) := by
  intro pins s σ H z u Q I ru hq
  exact wpAny_matchFirst_nil (hq s I)
theorem pfs_cons {p : Pattern} {ps : List Pattern} {r r' : Str → Bool} (h : PPt X p r) (h' : PFs X ps r') : PFs X (p :: ps) (fun z => r z || r' z) := by
  intro pins s σ H z u Q I ru hq
  refine wpAny_matchFirst_cons (h pins s σ H z u _ I ru fun s' I' => ?_)
  cases e : r z with
  | true =>
    rw [if_pos rfl]
    simpa [e] using hq s' I'
  | false =>
    rw [if_neg (by decide)]
    refine h' pins s' σ H z u Q I' ru fun s2 I2 => ?_
    simpa [e] using hq s2 I2
theorem ppt_or {ps : List Pattern} {r : Str → Bool} {pos : Pos} (h : PFs X ps r) (hn : (namesOfAll (ps.take 1)) = [] := by rfl) : PPt X (.MatchOr ps pos) r := by
  intro pins s σ H z u Q I ru hq
  refine wpAny_matchPattern_Or (h pins s σ H z u _ I ru fun s' I' => ?_)
  have := hq s' I'
  cases e : r z with
  | true =>
    rw [if_pos rfl]
    rw [e, if_pos rfl] at this
    simpa [hn] using this
  | false =>
    rw [if_neg (by decide)]
    rw [e, if_neg (by decide)] at this
    exact this
abbrev TM := Str → TS
structure PM (X : Cx) (cs : List MatchCase) (t : TM) : Prop where
  run : ∀ (first : Bool) (pins : List (Addr × Obj)) (s : Shared) (σ : L2.St) (H : Hp) (D : Ends) (z : Str) (u : Value), Inv X pins σ H s → RelV (.str z) u → t z D σ H → wpAny (model X.prog X.w) X.A (matchCases cs X.env u first) (SP X pins D) X.xe s
def mNil : TM := fun _ D σ H => D.nx σ H
theorem pm_nil : PM X [] mNil := ⟨fun _ _ s σ H D z u I _ h => wpAny_matchCases_nil ⟨σ, H, I, h⟩⟩
def mCons (r : Str → Bool) (t : TS) (m : TM) : TM := fun z D σ H => if r z = true then t D σ H else m z D σ H
theorem pm_cons {p : Pattern} {body : List Stmt} {rest : List MatchCase} {r : Str → Bool} {t : TS} {m : TM} (hp : PPt X p r) (hb : PSs X body t) (hr : PM X rest m) : PM X (⟨p, none, body⟩ :: rest) (mCons r t m) := by
  refine ⟨fun first pins s σ H D z u I ru h => ?_⟩
  refine wpAny_matchCases_cons (hp pins s σ H z u _ I ru fun s' I' => ?_)
  unfold mCons at h
  cases e : r z with
  | true =>
    rw [e, if_pos rfl] at h
    rw [if_pos rfl]
    exact wpAny_assignInOrder_none (hb.run pins s' σ H D I' h)
  | false =>
    rw [e, if_neg (by decide)] at h
    rw [if_neg (by decide)]
    exact hr.run false pins s' σ H D z u I' ru h
def mAny (t : TS) : TM := fun _ D σ H => t D σ H
theorem pm_any {body : List Stmt} {rest : List MatchCase} {t : TS} {pos : Pos} (hb : PSs X body t) : PM X (⟨.MatchAs none none pos, none, body⟩ :: rest) (mAny t) := by
  refine ⟨fun first pins s σ H D z u I ru h => ?_⟩
  refine wpAny_matchCases_cons (wpAny_matchPattern_Capture ?_)
  exact wpAny_assignInOrder_none (hb.run pins s σ H D I h)
theorem pm_one {body : List Stmt} {rest : List MatchCase} {w : Str} {k : Nat} {p1 p2 : Pos} {t : TS} {m : TM} (hb : PSs X body t) (hr : PM X rest m) : PM X (⟨.MatchValue (.Constant (.str w) k p1) p2, none, body⟩ :: rest) (mCons (fun z => decide (z = w)) t m) :=
  pm_cons ppt_val hb hr
theorem pm_or2 {body : List Stmt} {rest : List MatchCase} {w1 w2 : Str} {k1 k2 : Nat} {p1 p2 p3 p4 pos : Pos} {t : TS} {m : TM} (hb : PSs X body t) (hr : PM X rest m) :
    PM X (⟨.MatchOr [.MatchValue (.Constant (.str w1) k1 p1) p2, .MatchValue (.Constant (.str w2) k2 p3) p4] pos, none, body⟩ :: rest) (mCons (fun z => decide (z = w1) || (decide (z = w2) || false)) t m) :=
  pm_cons (ppt_or (pfs_cons ppt_val (pfs_cons ppt_val pfs_nil))) hb hr
theorem pm_or3 {body : List Stmt} {rest : List MatchCase} {w1 w2 w3 : Str} {k1 k2 k3 : Nat} {p1 p2 p3 p4 p5 p6 pos : Pos} {t : TS} {m : TM} (hb : PSs X body t) (hr : PM X rest m) :
    PM X (⟨.MatchOr [.MatchValue (.Constant (.str w1) k1 p1) p2, .MatchValue (.Constant (.str w2) k2 p3) p4, .MatchValue (.Constant (.str w3) k3 p5) p6] pos, none, body⟩ :: rest) (mCons (fun z => decide (z = w1) || (decide (z = w2) || (decide (z = w3) || false))) t m) :=
  pm_cons (ppt_or (pfs_cons ppt_val (pfs_cons ppt_val (pfs_cons ppt_val pfs_nil)))) hb hr
theorem pm_or4 {body : List Stmt} {rest : List MatchCase} {w1 w2 w3 w4 : Str} {k1 k2 k3 k4 : Nat} {p1 p2 p3 p4 p5 p6 p7 p8 pos : Pos} {t : TS} {m : TM} (hb : PSs X body t) (hr : PM X rest m) :
    PM X (⟨.MatchOr [.MatchValue (.Constant (.str w1) k1 p1) p2, .MatchValue (.Constant (.str w2) k2 p3) p4, .MatchValue (.Constant (.str w3) k3 p5) p6, .MatchValue (.Constant (.str w4) k4 p7) p8] pos, none, body⟩ :: rest) (mCons (fun z => decide (z = w1) || (decide (z = w2) || (decide (z = w3) || (decide (z = w4) || false)))) t m) :=
  pm_cons (ppt_or (pfs_cons ppt_val (pfs_cons ppt_val (pfs_cons ppt_val (pfs_cons ppt_val pfs_nil))))) hb hr
def sMatch (te : TE) (m : TM) : TS := fun D σ H => te σ H fun v H1 => match v with | .str z => m z D σ H1 | _ => False
theorem ps_match {e : Expr} {cs : List MatchCase} {te : TE} {m : TM} {pos : Pos} (he : PE X e te) (hm : PM X cs m) : PS X (.Match e cs pos) (sMatch te m) := by
  refine ⟨fun pins s σ H D I h => ?_⟩
  refine wpAny_Match (thn (he.run pins s σ H _ I h) fun u s1 hu => ?_)
  obtain ⟨v, H1, I1, rv, q⟩ := hu
  split at q
  · exact hm.run true pins s1 σ H1 D _ u I1 rv q
  · exact q.elim

theorem s_match {σ : L2.St} {H : Hp} {te : TE} {m : TM} {D : Ends} (h : te σ H fun v H1 => match v with | .str z => m z D σ H1 | _ => False) : sMatch te m D σ H := h
theorem s_mT {r : Str → Bool} {t : TS} {m : TM} {z : Str} {D : Ends} {σ : L2.St} {H : Hp} (e : r z = true) (h : t D σ H) : mCons r t m z D σ H := by unfold mCons; rw [if_pos e]; exact h
theorem s_mF {r : Str → Bool} {t : TS} {m : TM} {z : Str} {D : Ends} {σ : L2.St} {H : Hp} (e : r z = false) (h : m z D σ H) : mCons r t m z D σ H := by unfold mCons; rw [if_neg (by rw [e]; decide)]; exact h
def rPopU : V → List V → Hp → VK → Prop := fun x xs H Q => match x with
  | .ref l => (match H l with
    | some (.lst ys) => ∃ y, ys[ys.length - 1]? = some y ∧ xs = [] ∧ Q y (upd H l (.lst ys.dropLast))
    | _ => False)
  | _ => False
theorem uPop : MtR X "list.pop" rPopU := by
  intro pins s σ H x xs v us Q I rx rs h
  unfold rPopU at h
  split at h
  · split at h
    · rename_i hp
      obtain ⟨y, hy, rfl, q⟩ := h
      exact mt_pop pins s σ H _ _ v us Q I rx rs ⟨_, _, y, rfl, rfl, hp, hy, q⟩
    · exact h.elim
  · exact h.elim
theorem s_pop {H : Hp} {Q : VK} {l : Addr} {ys : List V} {y : V} (hp : H l = some (.lst ys)) (hy : ys[ys.length - 1]? = some y) (q : Q y (upd H l (.lst ys.dropLast))) : rPopU (.ref l) [] H Q := by
  simp only [rPopU, hp]
  exact ⟨y, hy, trivial, q⟩
def rExtU : V → List V → Hp → VK → Prop := fun x xs H Q => match x with
  | .ref l => (match xs with
    | [.ref b] => (match H l with
      | some (.lst ys) => (match H b with
        | some (.lst zs) => ys.length + zs.length ≤ sizeLine ∧ l ≠ b ∧ Q .non (upd H l (.lst (ys ++ zs)))
        | _ => False)
      | _ => False)
    | _ => False)
  | _ => False
theorem uExtend : MtR X "list.extend" rExtU := by
  intro pins s σ H x xs v us Q I rx rs h
  unfold rExtU at h
  split at h
  · split at h
    · split at h
      · rename_i hp
        split at h
        · rename_i hb
          exact mt_extend pins s σ H _ _ v us Q I rx rs ⟨_, _, _, _, rfl, rfl, hp, hb, h.1, h.2.2⟩
        · exact h.elim
      · exact h.elim
    · exact h.elim
  · exact h.elim
theorem s_ext {H : Hp} {Q : VK} {l b : Addr} {ys zs : List V} (hp : H l = some (.lst ys)) (hb : H b = some (.lst zs)) (hl : ys.length + zs.length ≤ sizeLine) (ne : l ≠ b) (q : Q .non (upd H l (.lst (ys ++ zs)))) : rExtU (.ref l) [.ref b] H Q := by
  simp only [rExtU, hp, hb]
  exact ⟨hl, ne, q⟩

theorem s_starT {σ : L2.St} {H : Hp} {K : PySem.W.Frag} {te : TE} {t : TA} {Q : List V → Hp → Prop} (h : te σ H fun y H1 => ∃ a xs, y = .ref a ∧ (SqT K H1 a xs ∨ SqL K H1 a xs) ∧ t σ H1 fun vs H2 => Q (xs ++ vs) H2) : StX.tStar K te t σ H Q := h
theorem s_starM {H : Hp} {K : PySem.W.Frag} {p : Addr} {xs : List V} {R : List V → Prop} (hp : H p = some (.tup xs)) (h : R xs) : ∃ a ys, V.ref p = .ref a ∧ (SqT K H a ys ∨ SqL K H a ys) ∧ R ys := ⟨p, xs, rfl, .inl (SqT.of hp), h⟩
end
end Tr
namespace Tr
open PySem PySem.Spec PyProof.Rows L2
section
variable {σ : L2.St} {H : Hp} {Q : VK} {K : PySem.W.Frag}
def LcGo (g : TG) (tt : TT) (te : TE) (vs : List Nat) (σ : L2.St) (Q : VK) (J : It) (H1 : Hp) : Prop := ∀ D, H1 D = none → ∃ W : Nat → Nat → Hp → Prop, (∃ m, W 0 m (upd H1 D (.lst []))) ∧ ∀ i m H, W i m H →
  (J.stop i H ∧ Q (.ref D) H) ∨ (J.go i H ∧ ∃ Nx : Hp → Prop, (∀ H', Nx H' → ∃ m', m' < m ∧ W (i + 1) m' H') ∧ ∀ x H', J.yld i H x H' → g x (wipe σ vs) H' fun σ2 H2 => wipe σ2 vs = wipe σ vs ∧ tt σ2 H2 fun b H3 =>
    if b = true then te σ2 H3 fun y H4 => ∃ acc, H4 D = some (.lst acc) ∧ acc.length < sizeLine ∧ Nx (upd H4 D (.lst (acc ++ [y]))) else Nx H3)
theorem s_lc {wi : TI} {g : TG} {tt : TT} {te : TE} {vs : List Nat} (h : wi σ H (LcGo g tt te vs σ Q)) : tLc wi g tt te vs σ H Q := h
def mList (K : PySem.W.Frag) (R : It → Hp → Prop) (x : V) (H1 : Hp) : Prop := ∃ a, x = .ref a ∧ (∃ xs, SqL K H1 a xs) ∧ R (Itl K a) H1
theorem s_ilist {tl : TE} {R : It → Hp → Prop} (h : tl σ H fun x H1 => mList K R x H1) : iList K tl σ H R := h
theorem s_lcM {α : Type} (ys : List α) (h : α → Option V) {p : Addr} {xs : List V} {g : TG} {tt : TT} {te : TE} {vs : List Nat} (hp : H p = some (.lst xs)) (hx : xs.length = ys.length) (hz : ys.length ≤ 100000)
    (hs : ∀ (i : Nat) (a : α) (x : V) (H2 : Hp) (R : VK) (R0 : Hp → Prop), ys[i]? = some a → xs[i]? = some x → Same H H2 → (∀ v, h a = some v → ∀ H4, Same H2 H4 → R v H4) → (h a = none → ∀ H3, Same H2 H3 → R0 H3) →
      g x (wipe σ vs) H2 fun σ2 H3 => wipe σ2 vs = wipe σ vs ∧ tt σ2 H3 fun b H4 => if b = true then te σ2 H4 R else R0 H4)
    (hd : ∀ D H', Same H H' → H D = none → H' D = some (.lst (ys.filterMap h)) → Q (.ref D) H') : mList K (LcGo g tt te vs σ Q) (.ref p) H := by
  refine ⟨p, rfl, ⟨xs, SqL.of hp⟩, fun D hD => ?_⟩
  refine lc_fm ys h (walk_list (xs := xs)) hx (sz_le hz) hD (fun H' s' => SqL.of (s' _ _ hp)) ?_ (fun H' s' hD' => hd D H' s' hD hD')
  rintro i b x H2 H' R R0 hb s2 ⟨rfl, hxx⟩ k1 k2
  exact hs i b x H' R R0 hb hxx s2 k1 k2
def ForGo (g : TG) (tb : TS) (D : Ends) (σ : L2.St) (J : It) (H1 : Hp) : Prop := ∃ W : Nat → Nat → L2.St → Hp → Prop, (∃ m, W 0 m σ H1) ∧ ∀ i m σ H, W i m σ H →
  (J.stop i H ∧ D.nx σ H) ∨ (J.go i H ∧ ∃ N : L2.St → Hp → Prop, (∀ σ' H', N σ' H' → ∃ m', m' < m ∧ W (i + 1) m' σ' H') ∧ ∀ x H', J.yld i H x H' → g x σ H' fun σ2 H2 => tb { D with nx := N, ct := N, bk := D.nx } σ2 H2)
theorem s_for {wi : TI} {g : TG} {tb : TS} {D : Ends} (h : wi σ H (ForGo g tb D σ)) : tFor wi g tb D σ H := h
theorem s_forL {p : Addr} {xs : List V} {g : TG} {tb : TS} {na : L2.St → Hp → Prop} {rt : VK} {bk ct : L2.St → Hp → Prop} (hp : H p = some (.lst xs)) (Pv : Nat → L2.St → Hp → Prop) (h0 : Pv 0 σ H)
    (hG : ∀ i σ H, i ≤ xs.length → Pv i σ H → H p = some (.lst xs))
    (hs : ∀ i x σ H, xs[i]? = some x → Pv i σ H → g x σ H fun σ2 H2 => tb ⟨Pv (i + 1), rt, na, Pv (i + 1)⟩ σ2 H2)
    (hd : ∀ σ H, Pv xs.length σ H → na σ H) : mList K (ForGo g tb ⟨na, rt, bk, ct⟩ σ) (.ref p) H :=
  ⟨p, rfl, ⟨xs, SqL.of hp⟩, for_list (K := K) (D := ⟨na, rt, bk, ct⟩) Pv h0 (fun i σ H hi pv => SqL.of (hG i σ H hi pv)) hs hd⟩
def mRng (R : It → Hp → Prop) (vs : List V) (H1 : Hp) : Prop := ∃ j : Int, vs = [.int j] ∧ -(2 ^ 62) ≤ j ∧ j < 2 ^ 62 ∧ R (Itr 0 j.toNat) H1
theorem s_irng {ta : TA} {R : It → Hp → Prop} (h : ta σ H fun vs H1 => mRng R vs H1) : iRng1 ta σ H R := h
theorem s_forR {n : Int} {g : TG} {tb : TS} {na : L2.St → Hp → Prop} {rt : VK} {bk ct : L2.St → Hp → Prop} (h0 : 0 ≤ n) (h1 : n ≤ 1000000) (Pv : Nat → L2.St → Hp → Prop) (p0 : Pv 0 σ H)
    (hs : ∀ (i : Nat) σ H, (i : Int) < n → Pv i σ H → g (.int (i : Int)) σ H fun σ2 H2 => tb ⟨Pv (i + 1), rt, na, Pv (i + 1)⟩ σ2 H2)
    (hd : ∀ σ H, Pv n.toNat σ H → na σ H) : mRng (ForGo g tb ⟨na, rt, bk, ct⟩ σ) [.int n] H := by
  refine ⟨n, rfl, by omega, by omega, for_range (lo := 0) (n := n.toNat) (D := ⟨na, rt, bk, ct⟩) Pv p0 (fun i σ H hi pv => ?_) hd⟩
  have e : (0 : Int) + (i : Int) = (i : Int) := Int.zero_add _
  rw [e]
  exact hs i σ H (by omega) pv
theorem s_lcR {n : Int} (h : Nat → Option V) {g : TG} {tt : TT} {te : TE} {vs : List Nat} (h0 : 0 ≤ n) (h1 : n ≤ 100000)
    (hs : ∀ (i : Nat) (H2 : Hp) (R : VK) (R0 : Hp → Prop), (i : Int) < n → Same H H2 → (∀ v, h i = some v → ∀ H4, Same H2 H4 → R v H4) → (h i = none → ∀ H3, Same H2 H3 → R0 H3) →
      g (.int (i : Int)) (wipe σ vs) H2 fun σ2 H3 => wipe σ2 vs = wipe σ vs ∧ tt σ2 H3 fun b H4 => if b = true then te σ2 H4 R else R0 H4)
    (hd : ∀ D H', Same H H' → H D = none → H' D = some (.lst ((List.range n.toNat).filterMap h)) → Q (.ref D) H') : mRng (LcGo g tt te vs σ Q) [.int n] H := by
  refine ⟨n, rfl, by omega, by omega, fun D hD => ?_⟩
  refine lc_fm (List.range n.toNat) h walk_range (by simp) (sz_le (by simp; omega)) hD (fun _ _ => trivial) ?_ (fun H' s' hD' => hd D H' s' hD hD')
  rintro i b x H2 H' R R0 hb s2 ⟨rfl, rfl⟩ k1 k2
  have hi : i < n.toNat := by
    have := (List.getElem?_eq_some_iff.mp hb).1
    simpa using this
  have eb : b = i := by
    have := (List.getElem?_eq_some_iff.mp hb).2
    simpa using this.symm
  subst eb
  have e : (0 : Int) + (b : Int) = (b : Int) := Int.zero_add _
  show g (V.int (0 + (b : Int))) (wipe σ vs) H' _
  rw [e]
  exact hs b H' R R0 (by omega) s2 k1 k2
end
theorem fm_some {α : Type} (f : α → V) : ∀ l : List α, l.filterMap (fun x => some (f x)) = l.map f
  | [] => rfl
  | x :: l => by simp [fm_some f l]
theorem s_any {H : Hp} {Q : VK} {p : Addr} {bs : List Bool} (hp : H p = some (.lst (bs.map V.bl))) (q : Q (.bl (bs.any id)) H) : rAnyU [.ref p] H Q := by
  simp only [rAnyU, hp]
  exact ⟨bs, rfl, q⟩
theorem s_all {H : Hp} {Q : VK} {p : Addr} {bs : List Bool} (hp : H p = some (.lst (bs.map V.bl))) (q : Q (.bl (bs.all id)) H) : rAllU [.ref p] H Q := by
  simp only [rAllU, hp]
  exact ⟨bs, rfl, q⟩
end Tr
set_option maxHeartbeats 1000000
namespace Tr
open PySem PySem.Spec PyProof.Rows L2
section
variable {σ : L2.St} {H : Hp} {Q : VK} {K : PySem.W.Frag}
/-- all that is no list stays -/
def KeepN (H H' : Hp) : Prop := ∀ x o, H x = some o → (∀ l, o ≠ .lst l) → H' x = some o
theorem KeepN.same {H H' : Hp} (s : Same H H') : KeepN H H' := fun x o h _ => s _ _ h
theorem KeepN.mut {H : Hp} {p : Addr} {l : List V} {o : HO} (hp : H p = some (.lst l)) : KeepN H (upd H p o) := fun x o' h hn => by
  rw [upd_ne (by rintro rfl; rw [hp] at h; exact hn l (Option.some.inj h).symm)]
  exact h
theorem KeepN.trans {H H' H'' : Hp} (a : KeepN H H') (b : KeepN H' H'') : KeepN H H'' := fun x o h hn => b _ _ (a _ _ h hn) hn
theorem s_lcE {α : Type} (ys : List α) (E : α → V → Hp → Prop) (hE : ∀ b v H H', E b v H → KeepN H H' → E b v H') {p : Addr} {xs : List V} {g : TG} {te : TE} {vs : List Nat} (hp : H p = some (.lst xs)) (hx : xs.length = ys.length) (hz : ys.length ≤ 100000)
    (hs : ∀ (i : Nat) (b : α) (x : V) (H2 : Hp) (R : VK), ys[i]? = some b → xs[i]? = some x → Same H H2 → (∀ v H4, Same H2 H4 → E b v H4 → R v H4) →
      g x (wipe σ vs) H2 fun σ2 H3 => wipe σ2 vs = wipe σ vs ∧ te σ2 H3 R)
    (hd : ∀ D us H', Same H H' → H D = none → H' D = some (.lst us) → us.length = ys.length → (∀ (i : Nat) (b : α) (v : V), ys[i]? = some b → us[i]? = some v → E b v H') → Q (.ref D) H') : mList K (LcGo g tYes te vs σ Q) (.ref p) H := by
  refine ⟨p, rfl, ⟨xs, SqL.of hp⟩, fun D hD => ?_⟩
  refine lc_it (walk_list (xs := xs)) (fun i H' => Same H H' ∧ ∃ us, H' D = some (.lst us) ∧ us.length = i ∧ ∀ (j : Nat) (b : α) (v : V), ys[j]? = some b → us[j]? = some v → E b v H') ⟨Same.new hD, [], upd_same, rfl, fun j b v _ h => by simp at h⟩ (fun i H' _ pv => SqL.of (pv.1 _ _ hp)) ?_ ?_
  · rintro i x H2 H' hi ⟨s2, us, hD2, hl, he⟩ ⟨rfl, hxx⟩
    obtain ⟨b, hb⟩ : ∃ b, ys[i]? = some b := ⟨_, List.getElem?_eq_getElem (by rw [← hx]; exact hi)⟩
    have := hs i b x H' (fun y H4 => ∃ acc, H4 D = some (.lst acc) ∧ acc.length < sizeLine ∧ (Same H (upd H4 D (.lst (acc ++ [y]))) ∧ ∃ us, upd H4 D (.lst (acc ++ [y])) D = some (.lst us) ∧ us.length = i + 1 ∧ ∀ (j : Nat) (b : α) (v : V), ys[j]? = some b → us[j]? = some v → E b v (upd H4 D (.lst (acc ++ [y]))))) hb hxx s2 ?_
    · have e : ∀ (a b : L2.St → Hp → Prop), (∀ σ H, a σ H = b σ H) → a = b := fun a b h => by funext σ H; exact h σ H
      have e2 : (fun σ2 H3 => wipe σ2 vs = wipe σ vs ∧ te σ2 H3 (fun y H4 => ∃ acc, H4 D = some (.lst acc) ∧ acc.length < sizeLine ∧ (Same H (upd H4 D (.lst (acc ++ [y]))) ∧ ∃ us, upd H4 D (.lst (acc ++ [y])) D = some (.lst us) ∧ us.length = i + 1 ∧ ∀ (j : Nat) (b : α) (v : V), ys[j]? = some b → us[j]? = some v → E b v (upd H4 D (.lst (acc ++ [y])))))) =
        (fun σ2 H3 => wipe σ2 vs = wipe σ vs ∧ tYes σ2 H3 fun b' H3 => if b' = true then te σ2 H3 (fun y H4 => ∃ acc, H4 D = some (.lst acc) ∧ acc.length < sizeLine ∧ (Same H (upd H4 D (.lst (acc ++ [y]))) ∧ ∃ us, upd H4 D (.lst (acc ++ [y])) D = some (.lst us) ∧ us.length = i + 1 ∧ ∀ (j : Nat) (b : α) (v : V), ys[j]? = some b → us[j]? = some v → E b v (upd H4 D (.lst (acc ++ [y]))))) else (Same H H3 ∧ ∃ us, H3 D = some (.lst us) ∧ us.length = i + 1 ∧ ∀ (j : Nat) (b : α) (v : V), ys[j]? = some b → us[j]? = some v → E b v H3)) := rfl
      rw [e2] at this
      exact this
    · intro v H4 s4 hv
      have hD4 := s4 _ _ hD2
      have k4 : KeepN H4 (upd H4 D (.lst (us ++ [v]))) := KeepN.mut hD4
      refine ⟨us, hD4, by rw [hl]; exact sz_lt (by omega), Same.mut (s2.trans s4) hD, us ++ [v], upd_same, by rw [List.length_append, hl]; rfl, fun j c u hc hu => ?_⟩
      by_cases hj : j < us.length
      · rw [List.getElem?_append_left hj] at hu
        exact hE _ _ _ _ (hE _ _ _ _ (he j c u hc hu) (KeepN.same s4)) k4
      · have hji : j = i := by
          have := (List.getElem?_eq_some_iff.mp hu).1
          simp at this
          omega
        subst hji
        rw [hb] at hc
        cases hc
        rw [← hl] at hu
        simp at hu
        subst hu
        exact hE _ _ _ _ hv k4
  · rintro H' ⟨s', us, h1, h2, h3⟩
    exact hd D us H' s' hD h1 (by rw [h2, hx]) h3
end
theorem s_dnewK {σ : L2.St} {H : Hp} {Q : VK} (h : ∀ p, H p = none → Q (.ref p) (upd H p (.dK []))) : tDNewK σ H Q := h
theorem nodup_ix {ad : List Addr} (nd : ad.Nodup) {i j : Nat} (hi : i < ad.length) (hj : j < ad.length) (e : ad[i] = ad[j]) : i = j := by
  rw [List.nodup_iff_pairwise_ne, List.pairwise_iff_getElem] at nd
  rcases Nat.lt_trichotomy i j with h | h | h
  · exact absurd e (nd i j hi hj h)
  · exact h
  · exact absurd e.symm (nd j i hj hi h)
def HasAll (H : Hp) (ad : List Addr) (os : List HO) : Prop := ad.length = os.length ∧ ∀ (i : Nat) (y : Addr) (o : HO), ad[i]? = some y → os[i]? = some o → H y = some o
theorem HasAll.at {H : Hp} {ad : List Addr} {os : List HO} (h : HasAll H ad os) (i : Nat) {y : Addr} {o : HO} (h1 : ad[i]? = some y) (h2 : os[i]? = some o) : H y = some o := h.2 i y o h1 h2
theorem HasAll.put {H : Hp} {ad : List Addr} {os : List HO} (h : HasAll H ad os) (nd : ad.Nodup) {j : Nat} {y : Addr} {o : HO} (hj : ad[j]? = some y) : HasAll (upd H y o) ad (os.set j o) := by
  refine ⟨by rw [List.length_set]; exact h.1, fun i z u h1 h2 => ?_⟩
  obtain ⟨hi, hi2⟩ := List.getElem?_eq_some_iff.mp h1
  obtain ⟨hj1, hj2⟩ := List.getElem?_eq_some_iff.mp hj
  by_cases e : i = j
  · subst e
    rw [hj] at h1
    cases h1
    rw [List.getElem?_set_self (by rw [← h.1]; exact hi)] at h2
    cases h2
    exact upd_same
  · rw [List.getElem?_set_ne (Ne.symm e)] at h2
    rw [upd_ne]
    · exact h.2 i z u h1 h2
    · rintro rfl
      exact e (nodup_ix nd hi hj1 (by rw [hi2, hj2]))
theorem HasAll.keep {H H' : Hp} {ad : List Addr} {os : List HO} (h : HasAll H ad os) (f : ∀ x o, H x = some o → x ∈ ad → H' x = some o) : HasAll H' ad os := ⟨h.1, fun i y o h1 h2 => f _ _ (h.2 i y o h1 h2) (List.mem_of_getElem? h1)⟩
/-- tuples stay -/
def KeepT (H H' : Hp) : Prop := ∀ x vs, H x = some (.tup vs) → H' x = some (.tup vs)
theorem KeepT.same {H H' : Hp} (s : Same H H') : KeepT H H' := fun x vs h => s _ _ h
theorem KeepT.trans {H H' H'' : Hp} (a : KeepT H H') (b : KeepT H' H'') : KeepT H H'' := fun x vs h => b _ _ (a _ _ h)
theorem KeepT.upd {H : Hp} {y : Addr} {o o' : HO} (h : H y = some o) (hn : ∀ vs, o ≠ .tup vs) : KeepT H (upd H y o') := fun x vs hx => by
  rw [upd_ne (by rintro rfl; rw [h] at hx; exact hn vs (Option.some.inj hx))]
  exact hx
/-- tuples with these items -/
def TupsAt (H : Hp) (xs : List Addr) (ys : List (List V)) : Prop := xs.length = ys.length ∧ ∀ (i : Nat) (x : Addr) (y : List V), xs[i]? = some x → ys[i]? = some y → H x = some (.tup y)
theorem TupsAt.keep {H H' : Hp} {xs : List Addr} {ys : List (List V)} (h : TupsAt H xs ys) (k : KeepT H H') : TupsAt H' xs ys := ⟨h.1, fun i x y h1 h2 => k _ _ (h.2 i x y h1 h2)⟩
theorem TupsAt.snoc {H : Hp} {xs : List Addr} {ys : List (List V)} (h : TupsAt H xs ys) {x : Addr} {y : List V} (hx : H x = some (.tup y)) : TupsAt H (xs ++ [x]) (ys ++ [y]) := by
  refine ⟨by rw [List.length_append, List.length_append, h.1]; rfl, fun i z u h1 h2 => ?_⟩
  by_cases hi : i < xs.length
  · rw [List.getElem?_append_left hi] at h1
    rw [List.getElem?_append_left (by rw [← h.1]; exact hi)] at h2
    exact h.2 i z u h1 h2
  · have e : i = xs.length := by
      have := (List.getElem?_eq_some_iff.mp h1).1
      simp at this
      omega
    subst e
    rw [h.1] at h2
    simp at h1 h2
    subst h1 h2
    exact hx
end Tr
set_option maxHeartbeats 1000000
namespace SrtO
open PySem PyProof.Rows Srt
section
variable {prog : Program} {w : World} {A : Around} {E : Value → Shared → Prop} {s : Shared}
def sv : Value → PySem.Str
  | .str i _ => i
  | _ => ⟨#[]⟩
def ltSv (v u : Value) : Bool := decide ((sv v).cps.toList < (sv u).cps.toList)
theorem swo_str : Swo ltSv := by
  refine ⟨fun x y h => ?_, fun x y z h1 h2 => ?_⟩
  · have a := of_decide_eq_true (p := (sv x).cps.toList < (sv y).cps.toList) h
    exact decide_eq_false (p := (sv y).cps.toList < (sv x).cps.toList) fun b => List.lt_irrefl _ (List.lt_trans a b)
  · have a := of_decide_eq_false (p := (sv y).cps.toList < (sv x).cps.toList) h1
    have b := of_decide_eq_false (p := (sv z).cps.toList < (sv y).cps.toList) h2
    refine decide_eq_false (p := (sv z).cps.toList < (sv x).cps.toList) fun c => ?_
    have a' : (sv x).cps.toList ≤ (sv y).cps.toList := List.not_lt.mp a
    have b' : (sv y).cps.toList ≤ (sv z).cps.toList := List.not_lt.mp b
    exact List.not_lt.mpr (List.le_trans a' b') c
theorem strs_mem : ∀ {vs : List Value} {ns : List PySem.Str}, StrsAre vs ns → ∀ v ∈ vs, ∃ i t, v = Value.str i t
  | _, _, .nil, v, h => absurd h (by simp)
  | _, _, .cons n t r, v, h => by
    rcases List.mem_cons.mp h with e | h
    · exact ⟨n, t, e⟩
    · exact strs_mem r v h
theorem strs_sv : ∀ {vs : List Value}, (∀ v ∈ vs, ∃ i t, v = Value.str i t) → StrsAre vs (vs.map sv)
  | [], _ => .nil
  | v :: vs, h => by
    obtain ⟨i, t, e⟩ := h v List.mem_cons_self
    subst e
    exact .cons i t (strs_sv fun u hu => h u (List.mem_cons_of_mem _ hu))
theorem sv_strs : ∀ {vs : List Value} {ns : List PySem.Str}, StrsAre vs ns → vs.map sv = ns
  | _, _, .nil => rfl
  | _, _, .cons n t r => congrArg (n :: ·) (sv_strs r)
theorem str_cmp {vs : List Value} {ns : List PySem.Str} (hI : StrsAre vs ns) : Cmp prog w A s oneType' (fun p => p.1 ∈ vs) (lt2 ltSv) := by
  intro p q hm hm'
  obtain ⟨a, t, e⟩ := strs_mem hI _ hm
  obtain ⟨b, u, e'⟩ := strs_mem hI _ hm'
  show wpAny (model prog w) A (keyLt' oneType' p.1 q.1) (fun r s' => s' = s ∧ r = ltSv p.1 q.1) (fun _ _ => False) s
  rw [e, e', keyLt'_oneType]
  exact oneLt_str ⟨rfl, rfl⟩
theorem strs_sortable {a : Addr} {vs : List Value} {ns : List PySem.Str} (hI : StrsAre vs ns) (h2 : 2 ≤ vs.length) : SortableO prog w A s a vs ltSv := by
  intro h' _
  refine ⟨oneType', fun Q E hq => ?_, str_cmp hI⟩
  match vs, hI, h2 with
  | v1 :: v2 :: rest, hI, _ =>
    rw [keyKind_strs hI]
    exact wpAny_pure hq
  | [], _, h => exact absurd h (by decide)
  | [v], _, h => exact absurd h (by simp)
theorem strs_out {vs out : List Value} {ns : List PySem.Str} (hI : StrsAre vs ns) (hs : Srtd ltSv out) (hb : Stb ltSv out vs) : StrsAre out (out.map sv) ∧ (out.map sv).Perm ns ∧ (out.map sv).Pairwise (fun x y => x.cps.toList ≤ y.cps.toList) := by
  refine ⟨strs_sv fun v hv => strs_mem hI v (hb.perm.mem_iff.mp hv), ?_, ?_⟩
  · have q := hb.perm.map sv
    rw [sv_strs hI] at q
    exact q
  · exact List.pairwise_map.mpr (hs.imp fun {x y} h => List.not_lt.mp (of_decide_eq_false (p := (sv y).cps.toList < (sv x).cps.toList) h))
end
end SrtO
namespace L2
open PySem PySem.Spec PyProof.Rows
/-- sorted(xs), texts, any number of them -/
def rSortedA (K : PySem.W.Frag) : List V → Hp → VK → Prop := fun vs H Q => ∃ (a : Addr) (ns : List Str), vs = [V.ref a] ∧ SqL K H a (ns.map V.str) ∧
  ∀ (ns' : List Str) (p : Addr), ns'.Perm ns → ns'.Pairwise (fun x y => x.cps.toList ≤ y.cps.toList) → H p = none → Q (.ref p) (upd H p (.lst (ns'.map V.str)))
section
variable {X : Cx}
theorem cr_sortedA : CallR X (.builtin "sorted") (rSortedA X.K) := by
  intro pins s σ H vs us Q I r h
  obtain ⟨a, ns, rfl, hs, q⟩ := h
  obtain ⟨its, rv, hl, hz⟩ := I.list hs
  rw [Vals.ref1 r]
  have hi := rv.strs
  refine SrtO.sorted_ord SrtO.swo_str hl.isList (by rw [← rv.length]; exact hz) (fun h2 h₁ a' _ _ => SrtO.strs_sortable hi h2) fun out h1 h2 => ?_
  obtain ⟨k1, k2, k3⟩ := SrtO.strs_out hi h1 h2
  obtain ⟨ep, he'⟩ := PyProof.Rows.sortedAll_at s.heap its out.toArray
  have hlen : ((out.map SrtO.sv).map V.str).length ≤ sizeLine := by
    rw [List.length_map, k2.length_eq]
    rw [List.length_map] at hz
    exact hz
  exact ⟨.ref _, upd H (s.heap.objs.size + 1) (.lst ((out.map SrtO.sv).map V.str)), I.laid (t' := s.toks) (fun _ _ => PyProof.Rows.sortedAll_old) (Nat.le_succ _) ⟨hlen, out, ep, vals_of_strs k1, he'⟩, rfl, q _ _ k2 k3 (I.hok.fresh (Nat.le_succ _))⟩
end
end L2
set_option maxHeartbeats 1000000
namespace L2
open PySem PySem.Spec PyProof.Rows
section
variable {X : Cx} {o e : Expr} {es : List Expr} {to te : TE} {ta : TA} {f : Str} {p p' p1 p2 pos : Pos}
/-- B.__init__(self, ..), B an own class over ValueError without own __init__ -/
theorem pe_ownInit {pl : Sem Bool} {x : Str} {B : Addr} (hg : Gl X x) (hm : X.mg x = some (.ref B)) (r : ClX.CRead X.K B (.type "type")) (vV : PySem.W.findCls X.K (.ref B) (.type "type") "__init__" = some (.val (.builtin "ValueError.__init__"))) (ha : PA X (e :: es) ta)
    (hdb : (x == ("__debug__" : Str)) = false := by decide)
    (hc : eval (.Call (.Attribute (.Name x p1) "__init__" p2) (e :: es) [] pos) X.env = (do
      let ov ← eval (.Name x p1) X.env
      standAt p2.atName
      let (f, first) ← holding [ov] (getMethod ov "__init__" pl)
      callWith pos f first (backTo pos (starEach (e :: es) X.env)) (backToKw pos (keywordEach [] X.env))) := by rfl)
    (he : starEach (e :: es) X.env = (false, eval e X.env) :: starEach es X.env := by rfl) (hpl : (backTo pos (starEach es X.env)).any (·.1) = false := by rfl) :
    PE X (.Call (.Attribute (.Name x p1) "__init__" p2) (e :: es) [] pos) (tVeI X.K ta) := by
  refine ⟨fun pins s σ H Q I h => ?_⟩
  refine PySem.W.methodCall_KW (ld_glob I hg hm ?_ hdb) hc
  refine PySem.W.method_cls I.kIn r.ga (PySem.W.cls_value I.kIn r.rd vV (by decide +kernel) ?_)
  show wpAny _ _ (callWith pos (Value.builtin "ValueError.__init__") [] (backTo pos (starEach (e :: es) X.env)) []) _ _ _
  refine PyProof.Rows.callWith_method1 (thn (ha.run pos pins _ σ H _ (I.tok _) h) fun us s1 ⟨vs, H1, I1, r1, a, C, ws, ev, hl, T, ea, q⟩ => ?_) he hpl
  subst ev
  cases r1 with
  | @cons _ u0 _ ur ra rw' =>
    obtain rfl : u0 = Value.ref a := ra
    have hlen : ur.length ≤ sizeLine := by
      rw [← Paired.length rw', sizeLine_eq]
      omega
    exact oinit_ok T I1 ea hlen fun s' J => ⟨.non, H1, J, rfl, q⟩
end
/-- at a: an exception of the class cls, its dict d -/
def xo (a : Addr) (cls : Value) (d : Option Addr) : HO := .ext fun h => ∃ oe vs, h.get? a = some oe ∧ Zc cls d oe ∧ oe.data = .fields vs
theorem xo_own {e x : Addr} {c : Value} {d : Option Addr} : xo e c d ≠ .own x := fun z => by
  have z' : HO.ext _ = HO.own x := z
  cases z'
theorem xo_lst {e : Addr} {c : Value} {d : Option Addr} {l : List V} : xo e c d ≠ .lst l := fun z => by
  have z' : HO.ext _ = HO.lst l := z
  cases z'
theorem xo_ok {P : Program} {w : World} {H : Hp} {h : Heap} {a : Addr} {cls : Value} {d : Option Addr} {oe : Obj} {vs : Array Value} (he : h.get? a = some oe) (hz : Zc cls d oe) (hd : oe.data = .fields vs) : ObjOk P w H h a (xo a cls d) :=
  ⟨⟨oe, vs, he, hz, hd⟩, ⟨_, he⟩, fun h1 h2 z k => by
    obtain ⟨o, u, q1, q2, q3⟩ := z
    exact ⟨o, u, k _ q1, q2, q3⟩⟩
theorem xo_at {P : Program} {w : World} {H : Hp} {h : Heap} {a : Addr} {cls : Value} {d : Option Addr} (hok : HOk P w H h) (he : H a = some (xo a cls d)) : ∃ oe vs, h.get? a = some oe ∧ Zc cls d oe ∧ oe.data = .fields vs := by
  have x : ObjOk P w H h a (.ext fun h => ∃ oe vs, h.get? a = some oe ∧ Zc cls d oe ∧ oe.data = .fields vs) := hok a _ he
  exact x.1
section
variable {X : Cx} {pins : List (Addr × Obj)} {σ : St} {H : Hp} {s : Shared}
theorem Inv.track {a : Addr} {oe : Obj} {cls : Value} {d : Option Addr} {vs : Array Value} (I : Inv X ((a, oe) :: pins) σ H s) (hz : Zc cls d oe) (hd : oe.data = .fields vs) (n0 : X.s_0.heap.get? a = none) (np : ∀ p ∈ X.pn ++ pins, p.1 ≠ a) :
    Inv X pins σ (upd H a (xo a cls d)) s := by
  obtain ⟨ha, hn, nL, nF, _⟩ := I.pin (a, oe) (List.mem_append_right _ List.mem_cons_self)
  have ha' : s.heap.get? a = some oe := ha
  have hn' : H a = none := hn
  have ne : ∀ {b : Addr} {u : HO}, H b = some u → b ≠ a := fun {b u} q z => by
    rw [z, hn'] at q
    cases q
  refine ⟨I.ok, I.os, I.bare, ⟨I.base.keep, I.base.slot, fun b o q n hx => ?_, I.base.there, fun b xs q => ?_, fun b o u q => ?_, fun b ps q => ?_⟩, I.loc, I.cell, ?_, fun x c e => ?_, fun p hp => ?_, fun b o q => ?_, I.len⟩
  · rw [upd_ne (by rintro rfl; rw [n0] at q; cases q)]
    exact I.base.free b o q n hx
  · have := I.base.tups b xs q
    rw [upd_ne (ne this)]
    exact this
  · have := I.base.frzs b o u q
    rw [upd_ne (ne this)]
    exact this
  · obtain ⟨more, this⟩ := I.base.tbls b ps q
    exact ⟨more, by rw [upd_ne (ne this)]; exact this⟩
  · rw [upd_ne (Ne.symm nL)]
    exact I.free
  · have hca : c ≠ a := by
      rintro rfl
      obtain ⟨v, oc, h1, h2⟩ := I.cell x c e
      rw [ha'] at h1
      cases h1
      rw [hd] at h2
      first | cases h2 | (cases h2.1) | (cases h2.2)
    rw [upd_ne hca]
    exact I.freeC x c e
  · have hp' : p ∈ X.pn ++ ((a, oe) :: pins) := by
      rcases List.mem_append.mp hp with h | h
      · exact List.mem_append_left _ h
      · exact List.mem_append_right _ (List.mem_cons_of_mem _ h)
    obtain ⟨q1, q2, q3⟩ := I.pin p hp'
    exact ⟨q1, by rw [upd_ne (np p hp)]; exact q2, q3⟩
  · by_cases hb : b = a
    · subst hb
      rw [upd_same] at q
      cases q
      exact xo_ok ha' hz hd
    · rw [upd_ne hb] at q
      exact (I.hok b o q).stay (fun c v hc z => z) (fun c hc => by rw [upd_ne (ne hc)]; exact hc) (fun c xs hc => by rw [upd_ne (ne hc)]; exact hc)
end
/-- what the clause 'except x as n' wishes of the one kind of exception that the body lets out: caught, bound to slot i, kept at its place -/
def wKeep (K : PySem.W.Frag) (c : Value) (i : Nat) (ts : Addr → Value → Option Addr → TS) (D : Ends) : WX := fun cls d σ H =>
  PySem.W.exmOne K cls c = some true ∧ ∀ a, H a = none → ts a cls d ⟨fun σ' H' => D.nx (σ'.set i none) (upd H' a (xo a cls d)), fun _ _ => False, fun _ _ => False, fun _ _ => False⟩ (σ.set i (some (.ref a))) H
section
variable {X : Cx} {x n : Str} {c : Value} {i : Nat} {body suite : List Stmt} {b₀ : Stmt} {np pos pos' : Pos} {tb : WX → TS} {ts : Addr → Value → Option Addr → TS}
/-- what the body of a try leaves is what the try leaves -/
theorem SP.ofTry {pins : List (Addr × Obj)} {xe : Value → Shared → Prop} {D : Ends} (ok : X.Ok) : ∀ {f : Flow} {s1 : Shared}, SP (X.tr (X.pn ++ pins) xe) [] D f s1 → SP X pins D f s1
  | .next, _, ⟨σ', H', J, q⟩ => ⟨σ', H', J.ofTry ok, q⟩
  | .brk, _, ⟨σ', H', J, q⟩ => ⟨σ', H', J.ofTry ok, q⟩
  | .cont, _, ⟨σ', H', J, q⟩ => ⟨σ', H', J.ofTry ok, q⟩
  | .ret _, _, ⟨v, σ', H', J, r, q⟩ => ⟨v, σ', H', J.ofTry ok, r, q⟩
/-- the suite of the clause, begun with the exception landed at a; behind it the exception is tracked -/
theorem suite_keep {pins : List (Addr × Obj)} {σ : St} {H : Hp} {s : Shared} {D : Ends} {a : Addr} {oe : Obj} {vs : Array Value} {cls : Value} {d : Option Addr} (ok : X.Ok) (hN : X.N.Nodup) (hi : X.N[i]? = some n) (hln : X.env.kindOf n = some .local)
    (hsu : PSs (X.suite a ((a, oe) :: (X.pn ++ pins))) (b₀ :: suite) (ts a cls d)) (S : Inv (X.suite a ((a, oe) :: (X.pn ++ pins))) [] (σ.set i (some (.ref a))) H s) (hz : Zc cls d oe) (hd : oe.data = .fields vs) (n0 : X.s_0.heap.get? a = none) (np' : ∀ p ∈ X.pn ++ pins, p.1 ≠ a)
    (h : ts a cls d ⟨fun σ' H' => D.nx (σ'.set i none) (upd H' a (xo a cls d)), fun _ _ => False, fun _ _ => False, fun _ _ => False⟩ (σ.set i (some (.ref a))) H) :
    wpAny (model X.prog X.w) (X.A.mark (some (.ref a))) (execs (b₀ :: suite) X.env) (fun f s6 => wpAny (model X.prog X.w) X.A (do bindName X.env n .none; unbindBehindTheSuite X.env n pos') (fun _ s7 => SP X pins D f s7) X.xe s6) (fun _ _ => False) s := by
  refine wpAny_mono (hsu.run [] s _ H _ S h) (fun f s6 hsp => ?_) (fun _ _ z => z)
  match f, hsp with
  | .next, ⟨σ6, H6, S6, q6⟩ =>
    have P6 : Inv X ((a, oe) :: pins) σ6 H6 s6 := (S6.unsuite ok).pins_of fun p hp => S6.pin p (List.mem_append_left _ (by
      rcases List.mem_cons.mp hp with e | e
      · rw [e]; exact List.mem_cons_self
      · exact List.mem_cons_of_mem _ (List.mem_append_right _ e)))
    exact gone_ok P6 hN hi hln fun s7 I7 => ⟨_, _, I7.track hz hd n0 np', q6⟩
  | .brk, ⟨_, _, _, q6⟩ => exact q6.elim
  | .cont, ⟨_, _, _, q6⟩ => exact q6.elim
  | .ret _, ⟨_, _, _, _, _, q6⟩ => exact q6.elim
/-- try: body, except x as n: suite, where every exception of the body is caught -/
theorem ps_try_keep (hs : X.stack = X.env :: X.outer) (hf : X.env.frame = some X.env.locals) (hN : X.N.Nodup) (hi : X.N[i]? = some n) (hln : X.env.kindOf n = some .local) (hc : Names X x c) (hex : X.ex = [])
    (hb : ∀ (W : WX) (pn : List (Addr × Obj)) (xe : Value → Shared → Prop), Takes (X.tr pn xe) W → PassesOwn (model X.prog X.w) X.A X.env xe → PSs (X.tr pn xe) body (tb W))
    (hsu : ∀ (a : Addr) (oe : Obj) (cls : Value) (d : Option Addr) (pn : List (Addr × Obj)), Zc cls d oe → (∃ vs, oe.data = .fields vs) → PSs (X.suite a ((a, oe) :: pn)) (b₀ :: suite) (ts a cls d)) :
    PS X (.Try body [.ExceptHandler (some (.Name x np)) (some n) (b₀ :: suite) pos'] [] [] pos) (fun D σ H => tb (wKeep X.K c i ts D) D σ H) := by
  refine ⟨fun pins s σ H D I h => wpAny_Try_except ?_⟩
  have ok := I.ok
  have body := hb (wKeep X.K c i ts D) (X.pn ++ pins) (fun e s₁ => wpAny (model X.prog X.w) X.A (noteFrame e X.env) (fun _ s₂ => wpAny (model X.prog X.w) X.A (setFlight e none) (fun _ s₃ =>
    wpAny (model X.prog X.w) X.A (handleBy e X.env [.ExceptHandler (some (.Name x np)) (some n) (b₀ :: suite) pos']) (SP X pins D) X.xe s₃) X.xe s₂) X.xe s₁)
  refine wpAny_mono ((body ?_ PassesOwn.looking).run [] s σ H D (I.toTry _) h) ?_ (fun e s1 he => he)
  · rintro u s' ⟨a, B, sI, pins', σ', H', cls, d, rfl, J', nb, up, sky, na, os, ag, hyes, hts⟩
    have J : Inv X pins σ' H' sI := J'.ofTry ok
    rw [hs] at sky
    refine Sky.land Zc.steady (by rw [ok.frames, hs]) hf sky fun h3 fl up3 => ?_
    obtain ⟨oe, vs, he, hz, hd⟩ := fl.there
    have nfr : a ∉ frs (X.env :: X.outer) := fun hm => by
      obtain ⟨_, o, e1, e2⟩ := fl.2.2.1.mem hm
      rw [he] at e1
      cases e1
      exact e2 _ hd
    have nL : a ≠ X.env.locals := fun z => nfr (List.mem_filterMap.mpr ⟨X.env, List.mem_cons_self, by rw [hf, z]⟩)
    have nF : a ∉ X.fs := fun hm => let ⟨e, g1, g2⟩ := List.mem_filterMap.mp hm; nfr (List.mem_filterMap.mpr ⟨e, List.mem_cons_of_mem _ g1, g2⟩)
    have noI : sI.heap.get? a = none := by
      cases q : sI.heap.get? a with
      | none => rfl
      | some o => exact absurd ((nb a o q (by rw [hs]; exact nfr)).symm.trans fl.2.1) (by simp)
    have n0 : X.s_0.heap.get? a = none := by
      cases q : X.s_0.heap.get? a with
      | none => rfl
      | some o =>
        obtain ⟨o', e'⟩ := J.base.there a o q (by rw [hex]; simp)
        rw [noI] at e'
        cases e'
    have npn : ∀ p ∈ X.pn ++ pins, p.1 ≠ a := fun p hp z => by
      have := (J.pin p hp).1
      rw [z, noI] at this
      cases this
    have J3 : Inv X pins σ' H' { s' with heap := h3 } := J.landed nb fl.1 (up.trans up3) os ag
    refine wpAny_handleBy_cons (codeAny_handlers_test ?_) (by intro q; cases q)
    have L := PySem.W.exm_one (M := model X.prog X.w) J3.kIn (fun A Q E s k q => wpAny_typeOf_ref (k _ _ he) (by rw [hz.1]; exact q)) hyes
    have named : ∀ {Q : Value → Shared → Prop} {E : Value → Shared → Prop}, Q c { s' with heap := h3 } → wpAny (model X.prog X.w) (X.A.mark (some (.ref a))) (eval (.Name x np) X.env) Q E { s' with heap := h3 } := fun q => by
      have S := J3.suite he hd na nL nF
      obtain ⟨hg, hdbg, hm | ⟨hm, hv, hnn⟩⟩ := hc
      · exact ld_glob (X := X.suite a ((a, oe) :: (X.pn ++ pins))) S hg hm q hdbg
      · exact ld_blt (X := X.suite a ((a, oe) :: (X.pn ++ pins))) S hg hm hv q hnn hdbg
    refine named (L.here (codeAny_handlers_suite_as (HandSPX.lands_againZ fl fun h4 fl4 up4 => ?_)))
    obtain ⟨oe4, vs4, he4, hz4, hd4⟩ := fl4.there
    have J4 : Inv X pins σ' H' { s' with heap := h4 } := J.landed nb fl4.1 ((up.trans up3).trans up4) os ag
    refine store_ok (X := X.suite a ((a, oe4) :: (X.pn ++ pins))) (v := .ref a) (J4.suite he4 hd4 na nL nF) hN hi (.inl hln) rfl (fun s5 S5 => ?_) (.inr hln)
    exact wpAny_mono (suite_keep ok hN hi hln (hsu a oe4 cls d _ hz4 ⟨_, hd4⟩) S5 hz4 hd4 n0 npn (hts a na)) (fun _ _ z => z) fun _ _ z => z.elim
  · intro f s1 hsp
    have q := SP.ofTry ok hsp
    cases f with
    | next => exact wpAny_execs_nil q
    | brk => exact q
    | cont => exact q
    | ret u => exact q
/-- err.f, err a caught exception that stays at its place -/
def tXo (K : PySem.W.Frag) (f : Str) (te : TE) : TE := fun σ H Q => te σ H fun x H1 => ∃ (a C dd : Addr) (fs : List (Str × V)) (v : V), x = .ref a ∧ H1 a = some (xo a (.ref C) (some dd)) ∧ XfC K C ∧ PySem.W.findIn K (.ref C) f = some none ∧ H1 dd = some (.xd fs) ∧ fs.lookup f = some v ∧ Q v H1
theorem pe_xo {e : Expr} {te : TE} {pos : Pos} {f : Str} (he : PE X e te) (hb : attributeBase e f X.env (eval e X.env) = eval e X.env := by rfl) : PE X (.Attribute e f pos) (tXo X.K f te) := by
  refine ⟨fun pins s σ H Q I h => ?_⟩
  refine attr_of hb (thn (he.run pins s σ H _ I h) fun u s1 hh => ?_)
  obtain ⟨x, H1, I1, rx, a, C, dd, fs, v, ex, ea, T, hno, ed, l, q⟩ := hh
  subst ex
  obtain rfl : u = Value.ref a := rx
  obtain ⟨oe, vs, ha, hz, hd⟩ := xo_at I1.hok ea
  have hx : ObjOk X.prog X.w H1 s1.heap dd (.xd fs) := I1.hok dd _ ed
  obtain ⟨mA, hns, hr⟩ := hx
  obtain ⟨od, ho, hl⟩ := lookIn_ns hns
  obtain ⟨u, hu, ru⟩ := RelO.some_of (v := v) (o := mA f) (by rw [← l]; exact hr f)
  have J : PySem.W.InstAt s1.heap a oe C (some od) := ⟨ha, hz.1, by unfold PySem.W.notCls; rw [hd] <;> rfl, by rw [hz.2]; exact ho⟩
  exact HandSPX.exc_get I1.kIn J T.ga T.gg T.exC (PySem.W.findObj_own T.hdC hno rfl (by rw [hl, hu])) (handed_of ru) ⟨v, H1, I1.tok _, ru, q⟩
end
end L2
set_option maxHeartbeats 1000000
namespace L2
open PySem PySem.Spec PyProof.Rows
section
variable {X : Cx} {CX : CXT} {k : Nat} {f C : Addr} {fd : FuncData} {ps : List Str} {sp : Sp} {E : St → XK} {x : Str} {p pos : Pos} {e : Expr} {es : List Expr} {t : TA} {ds : List Value} {dvs : List V}
def tMakeS (C : Addr) (sp : Sp) (E : St → XK) (t : TA) : TE := fun σ H Q => t σ H fun vs H1 =>
  ∀ x dx, H1 x = none → H1 dx = none → dx ≠ x →
    sp (.ref x :: vs) (upd (upd H1 dx (.own x)) x (.ins C dx [])) (fun v H2 => v = .non ∧ Q (.ref x) H2) (E σ)
theorem pe_makeS (M : Mk X.K C f)
    (F : FnOk X.prog X.w X.K X.mg X.base CX k f fd ps sp) (hr : Room (k + 1) X.A)
    (hg : Gl X x) (hm : X.mg x = some (.ref C)) (hb : Binds X.K fd ps []) (hx : ∀ σ, PassesAt CX X σ (E σ)) (ha : PA X (e :: es) t)
    (hdb : (x == ("__debug__" : Str)) = false := by decide)
    (he : starEach (e :: es) X.env = (false, eval e X.env) :: starEach es X.env := by rfl)
    (hpl : (backTo pos (starEach es X.env)).any (·.1) = false := by rfl) :
    PE X (.Call (.Name x p) (e :: es) [] pos) (tMakeS C sp E t) := by
  constructor
  intro pins s σ H Q I h
  refine wpAny_Call_Name_kw (ld_glob I hg hm ?_ hdb)
  refine PySem.W.callWith_K (h₀ := X.base) I.ok.mod.kin M.kp (thn (ha.run pos pins s σ H _ I h) fun us s1 hh => ?_) he hpl
  obtain ⟨vs, H1, I1, r, q⟩ := hh
  refine ⟨I1.kIn, ?_⟩
  show wpAny _ _ (call (.ref C) us) _ _ _
  generalize hn : s1.heap.objs.size = n
  have f0 : H1 n = none := by rw [← hn]; exact I1.hok.fresh (Nat.le_refl _)
  have f1 : H1 (n + 1) = none := by rw [← hn]; exact I1.hok.fresh (Nat.le_succ _)
  have hq := q (n + 1) n f1 f0 (Nat.ne_of_lt (Nat.lt_succ_self _))
  have I2 := Inv.made (C := C) I1
  rw [hn] at I2
  have r2 : Vals (V.ref (n + 1) :: vs) (Value.ref (n + 1) :: us) := .cons rfl r
  have hl : (Value.ref (n + 1) :: us ++ []).length = ps.length := by
    have z := r2.length
    rw [F.len _ _ _ _ hq] at z
    rw [List.append_nil]
    exact z.symm
  have b := hb _ (Value.ref (n + 1) :: us) I2.kIn hl
  rw [List.append_nil] at b
  have run := F.run _ X.stack _ _ ⟨Value.ref (n + 1) :: us, []⟩ (Value.ref (n + 1) :: us) _ _ (E σ) (hr.make C us []) (I2.env0.make C us []) b r2 hq
  refine wpAny_call (make_map (f := f) I1.kIn M.makes M.init (beq_iff_eq.mp M.fn) (codeAny_mono (by rw [hn]; exact run) fun r s' hq' => ?_))
  cases r with
  | error er => exact hx σ pins _ _ er s' I2 hq'
  | ok fl =>
    cases fl with
    | next => exact False.elim hq'
    | brk => exact False.elim hq'
    | cont => exact False.elim hq'
    | ret u =>
      obtain ⟨v, H', I3, rv, ev, q3⟩ := I2.after hq'
      cases ev
      rw [hn]
      exact ⟨rv, ⟨V.ref (n + 1), H', I3, rfl, q3⟩⟩
end
end L2
set_option maxHeartbeats 4000000
namespace PySem
namespace OXB
open Builtin Builtin.ObjectAttr PySem.W PySem.Calls PyProof.Rows PySem.HandSPX
/-- own classes, then the base's mro -/
def refsT (bm : List Value) : List Value → Bool
  | .ref _ :: r => refsT bm r
  | l => l == bm
theorem refsT_cases {bm : List Value} : ∀ l : List Value, refsT bm l = true → (∃ c r, l = .ref c :: r ∧ refsT bm r = true) ∨ l = bm
  | [], e => .inr (beq_iff_eq.mp e)
  | .ref c :: r, e => .inl ⟨c, r, rfl, e⟩
  | .none :: _, e => .inr (beq_iff_eq.mp e)
  | .ellipsis :: _, e => .inr (beq_iff_eq.mp e)
  | .notImplemented :: _, e => .inr (beq_iff_eq.mp e)
  | .bool _ :: _, e => .inr (beq_iff_eq.mp e)
  | .int _ _ :: _, e => .inr (beq_iff_eq.mp e)
  | .float _ _ :: _, e => .inr (beq_iff_eq.mp e)
  | .str _ _ :: _, e => .inr (beq_iff_eq.mp e)
  | .bytes _ _ :: _, e => .inr (beq_iff_eq.mp e)
  | .type _ :: _, e => .inr (beq_iff_eq.mp e)
  | .builtin _ :: _, e => .inr (beq_iff_eq.mp e)
structure XB where
  B : String
  newId : String
  initId : String
  bm : List Value
/-- what is so of the base -/
structure XB.Ok (b : XB) : Prop where
  F : ExcBaseFacts b.B b.newId b.initId b.bm
  pass : ∀ self, refuseLoop self "__setattr__" b.bm = pure ()
  obj : b.bm.contains (.type "object") = true
  ne : b.bm.isEmpty = false
def xbV : XB := ⟨"ValueError", "ValueError.__new__", "ValueError.__init__", [.type "ValueError", .type "Exception", .type "BaseException", .type "object"]⟩
def xbR : XB := ⟨"RuntimeError", "RuntimeError.__new__", "RuntimeError.__init__", [.type "RuntimeError", .type "Exception", .type "BaseException", .type "object"]⟩
theorem xbV_ok : xbV.Ok := ⟨F.excBase_ValueError, fun self => F.store_ValueError.passes self, by decide +kernel, rfl⟩
theorem xbR_ok : xbR.Ok := ⟨F.excBase_RuntimeError, fun self => F.store_RuntimeError.passes self, by decide +kernel, rfl⟩
theorem refsT_pass {b : XB} (O : b.Ok) (self : Value) : ∀ l : List Value, refsT b.bm l = true → refuseLoop self "__setattr__" l = pure () := by
  intro l
  induction l with
  | nil =>
    intro e
    have e' : ([] : List Value) = b.bm := beq_iff_eq.mp e
    rw [e']
    exact O.pass self
  | cons a r ih =>
    intro e
    rcases refsT_cases (a :: r) e with ⟨c, r', q, h⟩ | q
    · obtain ⟨rfl, rfl⟩ := List.cons.inj q
      rw [refuseLoop_ref]; exact ih h
    · rw [q]; exact O.pass self
theorem refsT_contains {bm : List Value} (X : String) : ∀ l : List Value, refsT bm l = true → l.contains (.type X) = bm.contains (.type X) := by
  intro l
  induction l with
  | nil =>
    intro e
    have e' : ([] : List Value) = bm := beq_iff_eq.mp e
    rw [e']
  | cons a r ih =>
    intro e
    rcases refsT_cases (a :: r) e with ⟨c, r', q, h⟩ | q
    · obtain ⟨rfl, rfl⟩ := List.cons.inj q
      rw [List.contains_cons, ih h]; rfl
    · rw [q]
theorem refsT_ne {b : XB} (O : b.Ok) {l : List Value} (e : refsT b.bm l = true) : l.isEmpty = false := by
  cases l with
  | nil =>
    have e' : ([] : List Value) = b.bm := beq_iff_eq.mp e
    have := O.ne
    rw [← e'] at this
    exact this
  | cons _ _ => rfl
section
variable {M : Model} {A : Around} {E : Value → Shared → Prop} {h : Heap} {g : Array GenState} {d : Drawn} {t : Nat} {os : OsState}
variable {nm q : Str} {C N : Addr} {bs bm bmB : List Value} {hdct : Bool} {sn : List Str} {sub : List Value} {ab : Bool} {col : Option Bool} {dd : Option Addr} {k0 k1 k2 k3 k5 : Option Value} {B newId initId : String}
theorem check_new_ownK (F : ExcBaseFacts B newId initId bmB) (hT : ∀ X : String, bm.contains (.type X) = bmB.contains (.type X)) {rest : List Value} {kw : List (Str × Value)} {Q : Unit → Shared → Prop}
    (hC : h.get? C = some (excClassObj nm q C N bs bm hdct sn sub ab col dd k0 k1 k2 k3 k5 newId)) (hq : Q () ⟨h, g, d, t, os⟩) : wpAny M A (checkBuiltinCall newId ⟨.ref C :: rest, kw⟩) Q E ⟨h, g, d, t, os⟩ := by
  have hcont : (Value.ref C :: bm).contains (.type B) = true := by rw [List.contains_cons, hT, F.hasB, Bool.or_true]
  have hstar := F.noStar
  simp only [checkBuiltinCall, F.newKind, F.newSplit, F.newRow]
  repeat (first | refine wpAny_loadPart_at hC ?_ | (refine wpAny_isSubtype_exc hC ?_; rw [hcont]) | refine wpAny_staticBase_exc hC ?_ | refine wpAny_madeBy_exc hC ?_ | simp only [bne_self_eq_false, Bool.false_eq_true, if_false] | wp_step)
  exact hq
end
section
variable {prog : Program} {w : World} {A : Around} {E : Value → Shared → Prop} {R : Result → Shared → Prop} {h : Heap} {g : Array GenState} {d : Drawn} {t : Nat} {os : OsState}
variable {nm q : Str} {C N : Addr} {bs bm bmB : List Value} {hdct : Bool} {sn : List Str} {sub : List Value} {ab : Bool} {col : Option Bool} {dd : Option Addr} {k0 k1 k2 k3 k5 : Option Value} {B newId initId : String}
theorem new_ownK (F : ExcBaseFacts B newId initId bmB) (hT : ∀ X : String, bm.contains (.type X) = bmB.contains (.type X)) {rest : List Value} {kw : List (Str × Value)}
    (hC : h.get? C = some (excClassObj nm q C N bs bm hdct sn sub ab col dd k0 k1 k2 k3 k5 newId))
    (hq : R (.ok (.ret (.ref (h.objs.size + 1)))) ⟨(h.push { cls := .type "tuple", data := .seq rest.toArray }).push
      { cls := .ref C, data := .fields #[.ref h.objs.size, .none, .none, .none, .bool false, .none] }, g, d, t, os⟩) (hrest : rest.length ≤ sizeLine) :
    codeAny (model prog w) A (.builtin newId ⟨.ref C :: rest, kw⟩) R ⟨h, g, d, t, os⟩ := by
  have hends := F.ends
  have hcB : (Value.ref C :: bm).contains (.type B) = true := by rw [List.contains_cons, hT, F.hasB, Bool.or_true]
  have hcA : (Value.ref C :: bm).contains (.type "AttributeError") = false := by rw [List.contains_cons, hT, F.noAttr]; rfl
  have hcN : (Value.ref C :: bm).contains (.type "NameError") = false := by rw [List.contains_cons, hT, F.noName]; rfl
  refine codeAny_builtinAt F.entry ?_
  unfold Builtin.«BaseException.__new__»
  refine wpAt_bind ?_
  show wpAt _ _ _ (stack >>= _) _ _ _
  refine wpAt_bind (wpAt_stack fun p below => wpAt_of_wpAny ?_)
  wp_walk
  refine wpAt_of_wpAny ?_
  rw [F.owner]
  repeat (first | with_reducible refine wpAny_madeHere_exc F.canon hC ?_ | with_reducible refine wpAny_loadPart_at hC ?_ | (with_reducible refine wpAny_isSubtype_exc hC ?_; first | rw [hcB] | rw [hcA] | rw [hcN]) | wp_step)
  show R _ _
  rw [Heap.size_push]
  exact hq
theorem type_call_ownK (F : ExcBaseFacts B newId initId bmB) (hT : ∀ X : String, bm.contains (.type X) = bmB.contains (.type X)) {rest : List Value} {kw : List (Str × Value)} {fI : Addr} {Q : Fin → Shared → Prop}
    (hC : h.get? C = some (excClassObj nm q C N bs bm hdct sn sub ab col dd k0 k1 k2 k3 k5 newId))
    (hi : W.Looks (model prog w) h (typeLookup (.ref C) "__init__") (some (.ref fI))) (hb : ∀ self, W.Looks (model prog w) h (bindSpecial (.ref fI) self) (.ref fI, [self])) (hrest : rest.length ≤ sizeLine)
    (hq : codeAny (model prog w) A (.call (.ref fI) ⟨.ref (h.objs.size + 1) :: rest, kw⟩)
      (fun r s' => match r with | .ok (.ret v) => v = .none ∧ Q (.done (.ret (.ref (h.objs.size + 1)))) s' | .ok _ => False | .error e => E e s')
      ⟨(h.push (W.kdv_tup rest)).push (excO C h.objs.size), g, d, t, os⟩) :
    wpAny (model prog w) A (Builtin.«type.__call__» ⟨.ref C :: rest, kw⟩) Q E ⟨h, g, d, t, os⟩ := by
  repeat (first | with_reducible refine wpAny_loadPart_at hC ?_ | with_reducible refine wpAny_madeBy_exc hC ?_ | wp_step)
  refine codeAny_call_builtin_code (Code.quiet_builtin _ F.quiet) (check_new_ownK F hT hC ?_)
  refine new_ownK F hT hC ?_ hrest
  show wpAny _ _ _ _ _ _
  have k : ∀ b o, h.get? b = some o → ((h.push (W.kdv_tup rest)).push (excO C h.objs.size)).get? b = some o := fun b o e => Heap.get?_push_of_some _ (Heap.get?_push_of_some _ e)
  have hC₁ := k _ _ hC
  have hget : ((h.push (W.kdv_tup rest)).push (excO C h.objs.size)).get? (h.objs.size + 1) = some (excO C h.objs.size) := by heap_get
  have hcC : (Value.ref C :: bm).contains (.ref C) = true := by simp
  have i1 := hi.keeps k
  have b1 := (hb (.ref (h.objs.size + 1))).keeps k
  unfold isInstance
  repeat (first | with_reducible refine wpAny_loadPart_at hget ?_ | (with_reducible refine wpAny_isSubtype_exc hC₁ ?_; rw [hcC]) | wp_step)
  show wpAny _ _ (typeLookup (.ref C) _) _ _ _
  refine i1.at ?_
  refine wpAny_holding (wpAny_bind (b1.at ?_))
  refine wpAny_bind (wpAny_call (codeAny_mono hq fun r s' z => ?_))
  rcases r with e | (v | _ | _ | _) <;> first | exact z | exact z.elim | skip
  obtain ⟨rfl, z⟩ := z
  first
    | exact wpAny_pure (wpAny_pure z)
    | (wp_walk; exact z)
theorem call_ownK (F : ExcBaseFacts B newId initId bmB) (hT : ∀ X : String, bm.contains (.type X) = bmB.contains (.type X)) {rest : List Value} {kw : List (Str × Value)} {fI : Addr}
    (hC : h.get? C = some (excClassObj nm q C N bs bm hdct sn sub ab col dd k0 k1 k2 k3 k5 newId))
    (hi : W.Looks (model prog w) h (typeLookup (.ref C) "__init__") (some (.ref fI))) (hb : ∀ self, W.Looks (model prog w) h (bindSpecial (.ref fI) self) (.ref fI, [self])) (hrest : rest.length ≤ sizeLine)
    (hq : codeAny (model prog w) (A.under (.builtin "type.__call__" ⟨.ref C :: rest, kw⟩)) (.call (.ref fI) ⟨.ref (h.objs.size + 1) :: rest, kw⟩) (W.InitBack (h.objs.size + 1) R)
      ⟨(h.push (W.kdv_tup rest)).push (excO C h.objs.size), g, d, t, os⟩) :
    codeAny (model prog w) A (.call (.ref C) ⟨rest, kw⟩) R ⟨h, g, d, t, os⟩ := by
  have f1 := tc_lookup
  have f2 := tc_bind (.ref C)
  have hTy : (⟨h, g, d, t, os⟩ : Shared).TypeIs (.ref C) "type" := ⟨_, hC, rfl⟩
  refine codeAny_of_tree ?_
  show wpAny _ _ (callAny (.ref C) _) _ _ _
  repeat (any_goals (first | assumption | with_reducible refine wpAny_loadPart_at hC ?_ | wp_step))
  refine ⟨rfl, ?_⟩
  refine codeAny_call_builtin_at (Code.quiet_builtin _ (by decide +kernel)) entry_typeCall (wpAny_check_type_call_sub hC (type_call_ownK F hT hC hi hb hrest ?_))
  refine codeAny_mono hq fun r s' z => ?_
  rcases r with e | (v | _ | _ | _) <;> exact z
end
section
variable {prog : Program} {w : World} {A : Around} {E : Value → Shared → Prop} {R : Result → Shared → Prop} {hp : Heap} {g : Array GenState} {d : Drawn} {t : Nat} {os : OsState}
theorem exc_osaB {b : XB} (O : b.Ok) {K : W.Frag} {name : Str} {tk : Tok} {v : Value} {x C : Addr} {fv : Array Value} {cd : ClassData}
    (X : K.In hp) (hx : hp.get? x = some { cls := .ref C, data := .fields fv }) (hcd : W.clsIn K C = some cd) (hm : refsT b.bm cd.mro = true) (hh : cd.hasDict = true) (ha : W.findIn K (.ref C) name = some none)
    (hq : ∀ h' tk' dx, (∀ b o, b ≠ x → hp.get? b = some o → h'.get? b = some o) → hp.objs.size ≤ dx → dx ≠ x → h'.get? x = some { cls := .ref C, dict := some dx, data := .fields fv } →
      h'.Ns1 dx (fun y => if y = name then some v else none) → R (.ok (.ret .none)) ⟨h', g, d, tk', os⟩) :
    codeAny (model prog w) A (.call (.builtin "object.__setattr__") ⟨[.ref x, .str name tk, v], []⟩) R ⟨hp, g, d, t, os⟩ := by
  have I : W.InstAt hp x { cls := .ref C, data := .fields fv } C none := ⟨hx, rfl, rfl, trivial⟩
  have SF := F.store_object
  have ne := refsT_ne O hm
  have hob : cd.mro.contains (.type "object") = true := (refsT_contains "object" _ hm).trans O.obj
  have hxs : x ≠ hp.objs.size := Nat.ne_of_lt (Heap.lt_size hx)
  have sub : W.Looks (model prog w) hp (isInstance (.ref x) (.type "object")) true := I.type.andThen (W.looks_mroIn X (by unfold W.mroIn; rw [hcd, Option.bind_some, if_neg (by rw [ne]; decide), hob]))
  refine codeAny_call_builtin SF.slot.plain SF.entry (@W.check_slot (model prog w) _ _ ⟨hp, g, d, t, os⟩ "object.__setattr__" "object" "__setattr__" (.ref x) [.str name tk, v] [] _ SF.kind SF.split sub (SF.args (.ref x) (.str name tk) v) ?_)
  have hmr : W.Looks (model prog w) hp (mroOf (.ref C)) cd.mro := (W.looks_clsIn X hcd).andThen .now
  have L3 : W.Looks (model prog w) hp (storeTaker? none) none := .now
  have hcls : W.Looks (model prog w) hp (classData C) cd := W.looks_clsIn X hcd
  rw [W.osa_eq, refuse_eq]
  refine wpAny_bind (wpAny_bind (I.type.at (wpAny_bind (hmr.at ?_))))
  rw [refsT_pass O _ _ hm]
  refine wpAny_pure (wpAny_bind (I.type.at (wpAny_bind ((W.looks_findIn X ha).at (wpAny_bind (L3.at ?_))))))
  show wpAny _ _ (storeInOwnDict (.ref x) (.ref C) (.str name tk) name v false) _ _ _
  obtain ⟨nm, bs, mro, ns, qn, hd, sn, sb, ab, col, del⟩ := cd
  dsimp only at hh
  subst hh
  unfold storeInOwnDict ownDictForStores
  repeat (first | with_reducible refine store_in_new ?_ ?_ | with_reducible refine wpAny_loadPart_at hx ?_ | with_reducible refine hcls.at ?_ | wp_step)
  · exact ⟨_, #[], _, (Heap.get?_update_ne _ _ _ _ hxs.symm).trans (Heap.get?_push_at rfl rfl), rfl, fun e he => absurd he (by simp), fun _ => rfl⟩
  · intro h' tk' hn' hs
    have hx₁ : (hp.push { cls := .type "dict", data := .dict #[] }).get? x = some { cls := .ref C, data := .fields fv } := Heap.get?_push_of_some _ hx
    refine hq h' tk' hp.objs.size (fun b o hb ho => ?_) (Nat.le_refl _) hxs.symm ?_ hn'
    · exact (hs.2 b (Nat.ne_of_lt (Heap.lt_size ho))).trans ((Heap.get?_update_ne _ _ _ _ hb).trans (Heap.get?_push_of_some _ ho))
    · exact (hs.2 x hxs).trans (Heap.get?_update_self _ hx₁ rfl)
theorem osa_oldB {b : XB} (O : b.Ok) {K : W.Frag} {name : Str} {tk : Tok} {v : Value} {x C dx : Addr} {fv : Array Value} {cd : ClassData} {m0 : Str → Option Value} {nl : List Str}
    (X : K.In hp) (hx : hp.get? x = some { cls := .ref C, dict := some dx, data := .fields fv }) (hns : hp.Ns1 dx m0) (hw : Within m0 nl) (hz : nl.length ≤ 1000) (hcd : W.clsIn K C = some cd) (hm : refsT b.bm cd.mro = true) (hh : cd.hasDict = true)
    (ha : W.findIn K (.ref C) name = some none)
    (hq : ∀ h' tk', (∀ b o, b ≠ dx → hp.get? b = some o → h'.get? b = some o) → h'.Ns1 dx (fun y => if y = name then some v else m0 y) → R (.ok (.ret .none)) ⟨h', g, d, tk', os⟩) :
    codeAny (model prog w) A (.call (.builtin "object.__setattr__") ⟨[.ref x, .str name tk, v], []⟩) R ⟨hp, g, d, t, os⟩ := by
  obtain ⟨oD, esD, epD, hoD, hdD, _⟩ := hns.count hw
  have I : W.InstAt hp x { cls := .ref C, dict := some dx, data := .fields fv } C (some oD) := ⟨hx, rfl, rfl, hoD⟩
  have SF := F.store_object
  have ne := refsT_ne O hm
  have hob : cd.mro.contains (.type "object") = true := (refsT_contains "object" _ hm).trans O.obj
  have sub : W.Looks (model prog w) hp (isInstance (.ref x) (.type "object")) true := I.type.andThen (W.looks_mroIn X (by unfold W.mroIn; rw [hcd, Option.bind_some, if_neg (by rw [ne]; decide), hob]))
  refine codeAny_call_builtin SF.slot.plain SF.entry (@W.check_slot (model prog w) _ _ ⟨hp, g, d, t, os⟩ "object.__setattr__" "object" "__setattr__" (.ref x) [.str name tk, v] [] _ SF.kind SF.split sub (SF.args (.ref x) (.str name tk) v) ?_)
  have hmr : W.Looks (model prog w) hp (mroOf (.ref C)) cd.mro := (W.looks_clsIn X hcd).andThen .now
  have L3 : W.Looks (model prog w) hp (storeTaker? none) none := .now
  have hcls : W.Looks (model prog w) hp (classData C) cd := W.looks_clsIn X hcd
  rw [W.osa_eq, refuse_eq]
  refine wpAny_bind (wpAny_bind (I.type.at (wpAny_bind (hmr.at ?_))))
  rw [refsT_pass O _ _ hm]
  refine wpAny_pure (wpAny_bind (I.type.at (wpAny_bind ((W.looks_findIn X ha).at (wpAny_bind (L3.at ?_))))))
  show wpAny _ _ (storeInOwnDict (.ref x) (.ref C) (.str name tk) name v false) _ _ _
  obtain ⟨nm, bs, mro, ns, qn, hd, sn, sb, ab, col, del⟩ := cd
  dsimp only at hh
  subst hh
  unfold storeInOwnDict ownDictForStores
  repeat (first | with_reducible refine PySem.OEX.store_in_old hns hw hz ?_ | with_reducible refine wpAny_loadPart_at hx ?_ | with_reducible refine hcls.at ?_ | wp_step)
  intro h' tk' hn' hs
  exact hq h' tk' (fun b o hb ho => (hs.2 b hb).trans ho) hn'
end
end OXB
end PySem
set_option maxHeartbeats 4000000
namespace L2
open PySem PySem.Spec PyProof.Rows PySem.OXB
/-- what the written part says of the class -/
structure OexB (K : PySem.W.Frag) (C : Addr) (b : XB) : Prop where
  cls : ∃ nm q N bs bm sn sub ab col dd k0 k1 k2 k3 k5, K.lookup C = some (excClassObj nm q C N bs bm true sn sub ab col dd k0 k1 k2 k3 k5 b.newId) ∧ refsT b.bm bm = true
  sa : PySem.W.findIn K (.ref C) "__setattr__" = some (some (.builtin "object.__setattr__"))
  exC : PySem.W.subIn K (.ref C) (.type "BaseException") = some true
  tyC : PySem.W.typeIn K (.ref C) = some (.type "type")
  kC : PySem.W.keepIn K (.ref C) = true
section
variable {X : Cx} {pins : List (Addr × Obj)} {σ : St} {H : Hp} {s : Shared} {a C dx : Addr} {f : Str} {y : V} {u : Value} {fs : List (Str × V)} {Q : Unit → Shared → Prop} {E : Value → Shared → Prop} {A : Around} {b : XB}
/-- self.f = y, the first one -/
theorem ostB_new (O : b.Ok) (T : OexB X.K C b) (I : Inv X pins σ H s) (e : H a = some (exo a C none)) (hno : PySem.W.findIn X.K (.ref C) f = some none) (ry : RelV y u)
    (h : ∀ dx s', H dx = none → dx ≠ a → Inv X pins σ (upd (upd H dx (exd dx [(f, y)])) a (exo a C (some dx))) s' → Q () s') : wpAny (model X.prog X.w) A (setAttr (.ref a) f u) Q E s := by
  obtain ⟨nm, q, N, bs, bm, sn, sub, ab, col, dd, k0, k1, k2, k3, k5, hC, hbm⟩ := T.cls
  have hcl : PySem.W.clsIn X.K C = some { name := nm, bases := bs, mro := .ref C :: bm, ns := N, qualname := q, hasDict := true, slotNames := sn, subclasses := sub, abstract := ab, collection := col, hasDel := false } := by unfold PySem.W.clsIn; rw [hC] <;> rfl
  obtain ⟨t1, ho⟩ := exo_at I.hok e
  obtain ⟨hp, g, d, t, os⟩ := s
  refine PySem.W.set_plain I.kIn (ox := { cls := .ref C, dict := none, data := .fields #[.ref t1, .none, .none, .none, .bool false, .none] }) (od := none) ⟨ho, rfl, rfl, trivial⟩ T.sa ?_
  refine exc_osaB O I.kIn ho hcl (show refsT b.bm (.ref C :: bm) = true from hbm) rfl hno (fun h' tk' dx k dn dne hx hn => ?_)
  have hnd : H dx = none := I.hok.fresh dn
  have nd : ∀ {b : Addr} {o : Obj}, hp.get? b = some o → b ≠ dx := fun {b o} q => Nat.ne_of_lt (Nat.lt_of_lt_of_le (Heap.lt_size q) dn)
  have na : ∀ {b : Addr}, H b = none → b ≠ a := fun {b} n z => by
    rw [z, e] at n
    cases n
  have Un1 : Un X.fs [] H (upd (upd H dx (exd dx [(f, y)])) a (exo a C (some dx))) hp h' := {
    keep := fun b o q n _ _ => k b o (na n) q
    slot := fun b o q n _ _ => ⟨o.slots, k b o (na n) q⟩
    free := fun b o q n _ => by rw [upd_ne (na n), upd_ne (nd q)]; exact n
    there := fun b o q _ => by
      by_cases hb : b = a
      · exact ⟨_, by rw [hb]; exact hx⟩
      · exact ⟨o, k b o hb q⟩
    tups := fun b xs q => by rw [upd_ne (at_ne e q exo_tup), upd_ne (ne_of_none q hnd)]; exact q
    frzs := fun b o v q => by rw [upd_ne (at_ne e q exo_frz), upd_ne (ne_of_none q hnd)]; exact q
    tbls := fun b ps q => ⟨#[], by rw [upd_ne (at_ne e q exo_tbl), upd_ne (ne_of_none q hnd), q]; simp⟩ }
  refine h dx _ hnd dne (I.un (t' := tk') Un1 fun b o q => ?_)
  by_cases hb : b = a
  · subst hb
    rw [upd_same] at q
    cases q
    exact exo_ok hx
  · rw [upd_ne hb] at q
    by_cases hd : b = dx
    · subst hd
      rw [upd_same] at q
      cases q
      exact exd_ok hn (relO_put (fs := []) ry fun g => True.intro)
    · rw [upd_ne hd] at q
      exact (I.hok b o q).stay (fun c v hc z => k c v (by
          rcases hc with hc | hc
          · rw [hc]
            exact hb
          · exact at_ne e hc exo_own) z)
        (fun c hc => by rw [upd_ne (at_ne e hc exo_own), upd_ne (ne_of_none hc hnd)]; exact hc) (fun c xs hc => by rw [upd_ne (at_ne e hc exo_tup), upd_ne (ne_of_none hc hnd)]; exact hc)
/-- self.f = y, a further one -/
theorem ostB_old (O : b.Ok) (T : OexB X.K C b) (I : Inv X pins σ H s) (e : H a = some (exo a C (some dx))) (ed : H dx = some (exd dx fs)) (hl : fs.length ≤ 900) (hno : PySem.W.findIn X.K (.ref C) f = some none) (ry : RelV y u)
    (h : ∀ s', Inv X pins σ (upd H dx (exd dx ((f, y) :: fs))) s' → Q () s') : wpAny (model X.prog X.w) A (setAttr (.ref a) f u) Q E s := by
  obtain ⟨nm, q, N, bs, bm, sn, sub, ab, col, dd, k0, k1, k2, k3, k5, hC, hbm⟩ := T.cls
  have hcl : PySem.W.clsIn X.K C = some { name := nm, bases := bs, mro := .ref C :: bm, ns := N, qualname := q, hasDict := true, slotNames := sn, subclasses := sub, abstract := ab, collection := col, hasDel := false } := by unfold PySem.W.clsIn; rw [hC] <;> rfl
  obtain ⟨t1, ho⟩ := exo_at I.hok e
  obtain ⟨mA, hns, rel⟩ := exd_at I.hok ed
  have hw := within_of rel
  obtain ⟨hp, g, d, t, os⟩ := s
  obtain ⟨oD, _, _, hoD, _, _⟩ := hns.count hw
  refine PySem.W.set_plain I.kIn (ox := { cls := .ref C, dict := some dx, data := .fields #[.ref t1, .none, .none, .none, .bool false, .none] }) (od := some oD) ⟨ho, rfl, rfl, hoD⟩ T.sa ?_
  refine osa_oldB O I.kIn ho hns hw (by rw [List.length_map]; omega) hcl (show refsT b.bm (.ref C :: bm) = true from hbm) rfl hno (fun h' tk' k hn => ?_)
  have hd : ∃ o, h'.get? dx = some o := by
    obtain ⟨o, _, _, e', _⟩ := hn
    exact ⟨o, e'⟩
  exact h _ (I.write (t' := tk') (x := dx) (e := dx) (o := exd dx ((f, y) :: fs)) (by rw [ed]; exact True.intro) (.inl rfl) k hd (exd_ok hn (relO_put ry rel)))
/-- B.__init__(self, ..): nothing of it is told -/
theorem oinitB_ok {us : List Value} {Q : Value → Shared → Prop} (O : b.Ok) (T : OexB X.K C b) (I : Inv X pins σ H s) (e : H a = some (exo a C none)) (hl : us.length ≤ sizeLine) (h : ∀ s', Inv X pins σ H s' → Q .none s') :
    wpAny (model X.prog X.w) A (call (.builtin b.initId) (.ref a :: us)) Q E s := by
  obtain ⟨nm, q, N, bs, bm, sn, sub, ab, col, dd, k0, k1, k2, k3, k5, hC, hbm⟩ := T.cls
  obtain ⟨t1, ho⟩ := exo_at I.hok e
  obtain ⟨hp, g, d, t, os⟩ := s
  refine wpAny_call (PySem.HandSPX.init_base O.F (fun Y => refsT_contains Y bm hbm) (I.kIn _ _ hC) ho hl fun h' t2 k hx => ?_)
  have J := I.write (t' := t) (x := a) (e := a) (o := exo a C none) (by rw [e]; exact True.intro) (.inl rfl) k ⟨_, hx⟩ (exo_ok hx)
  have eu : upd H a (exo a C none) = H := by
    funext b
    by_cases hb : b = a
    · rw [hb, upd_same, e]
    · rw [upd_ne hb]
  rw [eu] at J
  exact h _ J
end
/-- B.__init__(self, ..) -/
def tVeB (K : PySem.W.Frag) (b : XB) (ta : TA) : TE := fun σ H Q => ta σ H fun vs H1 => ∃ (a C : Addr) (ws : List V), vs = .ref a :: ws ∧ ws.length ≤ 1000 ∧ OexB K C b ∧ H1 a = some (exo a C none) ∧ Q .non H1
/-- self.f = e -/
def tOsB (K : PySem.W.Frag) (b : XB) (f : Str) (to te : TE) : TS := fun D σ H => te σ H fun y H1 => to σ H1 fun x H2 => ∃ a C : Addr, x = .ref a ∧ OexB K C b ∧ PySem.W.findIn K (.ref C) f = some none ∧
  ((H2 a = some (exo a C none) ∧ ∀ dx, H2 dx = none → dx ≠ a → D.nx σ (upd (upd H2 dx (exd dx [(f, y)])) a (exo a C (some dx)))) ∨
    ∃ (dx : Addr) (fs : List (Str × V)), H2 a = some (exo a C (some dx)) ∧ H2 dx = some (exd dx fs) ∧ fs.length ≤ 900 ∧ D.nx σ (upd H2 dx (exd dx ((f, y) :: fs))))
/-- C(e, ..) as a value, C's own __init__ keeping sp -/
def tExV (C : Addr) (sp : Sp) (ta : TA) : TE := fun σ H Q => ta σ H fun vs H1 => vs.length ≤ 1000 ∧ ∀ a, H1 a = none → sp (.ref a :: vs) (upd H1 a (exo a C none)) (fun v H2 => v = .non ∧ Q (.ref a) H2) (fun _ _ _ => False)
def tExK (C : Addr) (m : Nat) (sp : Sp) (gV : List V → List V → List V) (tk : TA) : TE := fun σ H Q => tk σ H fun zs H1 => zs.length = m ∧ ∀ a, H1 a = none → sp (gV [.ref a] zs) (upd H1 a (exo a C none)) (fun v H2 => v = .non ∧ Q (.ref a) H2) (fun _ _ _ => False)
section
variable {X : Cx} {o e : Expr} {es : List Expr} {to te : TE} {ta tk : TA} {f : Str} {p p' p1 p2 pos : Pos} {b : XB}
theorem pe_ownInitB {pl : Sem Bool} {x : Str} {B : Addr} (O : b.Ok) (hg : Gl X x) (hm : X.mg x = some (.ref B)) (r : ClX.CRead X.K B (.type "type")) (vV : PySem.W.findCls X.K (.ref B) (.type "type") "__init__" = some (.val (.builtin b.initId))) (ha : PA X (e :: es) ta)
    (hbi : PySem.W.handedIn (.builtin b.initId) = true := by decide +kernel)
    (hdb : (x == ("__debug__" : Str)) = false := by decide)
    (hc : eval (.Call (.Attribute (.Name x p1) "__init__" p2) (e :: es) [] pos) X.env = (do
      let ov ← eval (.Name x p1) X.env
      standAt p2.atName
      let (f, first) ← holding [ov] (getMethod ov "__init__" pl)
      callWith pos f first (backTo pos (starEach (e :: es) X.env)) (backToKw pos (keywordEach [] X.env))) := by rfl)
    (he : starEach (e :: es) X.env = (false, eval e X.env) :: starEach es X.env := by rfl) (hpl : (backTo pos (starEach es X.env)).any (·.1) = false := by rfl) :
    PE X (.Call (.Attribute (.Name x p1) "__init__" p2) (e :: es) [] pos) (tVeB X.K b ta) := by
  refine ⟨fun pins s σ H Q I h => ?_⟩
  refine PySem.W.methodCall_KW (ld_glob I hg hm ?_ hdb) hc
  refine PySem.W.method_cls I.kIn r.ga (PySem.W.cls_value I.kIn r.rd vV hbi ?_)
  show wpAny _ _ (callWith pos (Value.builtin b.initId) [] (backTo pos (starEach (e :: es) X.env)) []) _ _ _
  refine PyProof.Rows.callWith_method1 (thn (ha.run pos pins _ σ H _ (I.tok _) h) fun us s1 ⟨vs, H1, I1, r1, a, C, ws, ev, hl, T, ea, q⟩ => ?_) he hpl
  subst ev
  cases r1 with
  | @cons _ u0 _ ur ra rw' =>
    obtain rfl : u0 = Value.ref a := ra
    have hlen : ur.length ≤ sizeLine := by
      rw [← Paired.length rw', sizeLine_eq]
      omega
    exact oinitB_ok O T I1 ea hlen fun s' J => ⟨.non, H1, J, rfl, q⟩
theorem typ_RE : typeOf (.type "RuntimeError") = pure (.type "type") := by kernel_rfl
theorem pe_reinit {pl : Sem Bool} (hg : Gl X "RuntimeError") (hm : X.mg "RuntimeError" = none) (vV : PySem.W.findCls X.K (.type "RuntimeError") (.type "type") "__init__" = some (.val (.builtin "RuntimeError.__init__"))) (ha : PA X (e :: es) ta)
    (hc : eval (.Call (.Attribute (.Name "RuntimeError" p1) "__init__" p2) (e :: es) [] pos) X.env = (do
      let ov ← eval (.Name "RuntimeError" p1) X.env
      standAt p2.atName
      let (f, first) ← holding [ov] (getMethod ov "__init__" pl)
      callWith pos f first (backTo pos (starEach (e :: es) X.env)) (backToKw pos (keywordEach [] X.env))) := by rfl)
    (he : starEach (e :: es) X.env = (false, eval e X.env) :: starEach es X.env := by rfl) (hpl : (backTo pos (starEach es X.env)).any (·.1) = false := by rfl) :
    PE X (.Call (.Attribute (.Name "RuntimeError" p1) "__init__" p2) (e :: es) [] pos) (tVeB X.K xbR ta) := by
  refine ⟨fun pins s σ H Q I h => ?_⟩
  refine PySem.W.methodCall_KW (ld_blt I hg hm PyProof.Rows.Boot.«RuntimeError» ?_ (by decide) (by decide)) hc
  obtain ⟨m, fr⟩ := I.fr
  refine PySem.W.method_type fr I.ok.mod.kin typ_RE (by decide +kernel) vV (by decide +kernel) ?_
  show wpAny _ _ (callWith pos (Value.builtin "RuntimeError.__init__") [] (backTo pos (starEach (e :: es) X.env)) []) _ _ _
  refine PyProof.Rows.callWith_method1 (thn (ha.run pos pins _ σ H _ (I.tok _) h) fun us s1 ⟨vs, H1, I1, r1, a, C, ws, ev, hl, T, ea, q⟩ => ?_) he hpl
  subst ev
  cases r1 with
  | @cons _ u0 _ ur ra rw' =>
    obtain rfl : u0 = Value.ref a := ra
    have hlen : ur.length ≤ sizeLine := by
      rw [← Paired.length rw', sizeLine_eq]
      omega
    exact oinitB_ok (b := xbR) xbR_ok T I1 ea hlen fun s' J => ⟨.non, H1, J, rfl, q⟩
theorem ps_ostB (O : b.Ok) (ho : PE X o to) (he : PE X e te) (hs : swapsWith e (some (.Attribute o f p')) pos.line X.env = pure false := by rfl) : PS X (.Assign [.Attribute o f p'] e pos) (tOsB X.K b f to te) := by
  refine ⟨fun pins s σ H D I h => ?_⟩
  refine plainObj_wpAny_Assign_Attribute (thn (he.run pins s σ H _ I h) fun v s1 ⟨y, H1, I1, r1, q1⟩ => thn (ho.run pins s1 σ H1 _ I1 q1) fun u s2 ⟨x, H2, I2, r2, a, C, ex, T, hno, q⟩ => ?_) hs
  subst ex
  obtain rfl : u = Value.ref a := r2
  rcases q with ⟨ea, q⟩ | ⟨dx, fs, ea, ed, hl, q⟩
  · exact ostB_new O T I2 ea hno r1 fun dx s' n ne J => ⟨σ, _, J, q dx n ne⟩
  · exact ostB_old O T I2 ea ed hl hno r1 fun s' J => ⟨σ, _, J, q⟩
/-- the call of the class -/
theorem run_exV {CX : CXT} {C fI : Addr} {k : Nat} {fd : FuncData} {ps : List Str} {sp : Sp} {pins : List (Addr × Obj)} {σ : St} {H1 : Hp} {s1 : Shared} {Q : VK} {us : List Value} {kw : List (Str × Value)} {args : Addr → List Value} {vals : Addr → List V}
    (O : b.Ok) (T : OexB X.K C b) (iC : PySem.W.findIn X.K (.ref C) "__init__" = some (some (.ref fI))) (tI : PySem.W.typeIn X.K (.ref fI) = some (.type "function"))
    (F1 : FnOk X.prog X.w X.K X.mg X.base CX k fI fd ps sp) (hr : Room (k + 1) X.A) (hx : Passes CX X (fun _ _ _ => False)) (I1 : Inv X pins σ H1 s1) (hus : us.length ≤ sizeLine)
    (hb : ∀ a (s : Shared), X.K.In s.heap → BindsTo s fd ⟨.ref a :: us, kw⟩ (ps.zip (args a))) (r2 : ∀ a, Vals (vals a) (args a))
    (q1 : ∀ a, H1 a = none → sp (vals a) (upd H1 a (exo a C none)) (fun v H2 => v = .non ∧ Q (.ref a) H2) (fun _ _ _ => False)) :
    wpAny (model X.prog X.w) X.A (call (.ref C) us kw) (EP X pins σ Q) X.xe s1 := by
  obtain ⟨nm, q, N, bs, bm, sn, sub, ab, col, dd, k0, k1, k2, k3, k5, hC, hbm⟩ := T.cls
  obtain ⟨hp, g, dr, tk, os⟩ := s1
  have hsz : hp.objs.size ≤ hp.objs.size + 1 := Nat.le_succ _
  have hn : H1 (hp.objs.size + 1) = none := I1.hok.fresh hsz
  have hq := q1 (hp.objs.size + 1) hn
  have kk : ∀ b o, hp.get? b = some o → ((hp.push (PySem.W.kdv_tup us)).push (PySem.HandSPX.excO C hp.objs.size)).get? b = some o := fun b o e => Heap.get?_push_of_some _ (Heap.get?_push_of_some _ e)
  have hget : ((hp.push (PySem.W.kdv_tup us)).push (PySem.HandSPX.excO C hp.objs.size)).get? (hp.objs.size + 1) = some (PySem.HandSPX.excO C hp.objs.size) := by heap_get
  have I2 : Inv X pins σ (upd H1 (hp.objs.size + 1) (exo (hp.objs.size + 1) C none)) ⟨(hp.push (PySem.W.kdv_tup us)).push (PySem.HandSPX.excO C hp.objs.size), g, dr, tk, os⟩ :=
    I1.laid (t' := tk) (a := hp.objs.size + 1) (o := exo (hp.objs.size + 1) C none) (h' := (hp.push (PySem.W.kdv_tup us)).push (PySem.HandSPX.excO C hp.objs.size)) kk hsz (exo_ok hget)
  refine wpAny_call (call_ownK O.F (fun Y => refsT_contains Y bm hbm) (I1.kIn _ _ hC) (PySem.W.looks_findIn I1.kIn iC) (fun self => PySem.W.bind_fn I1.kIn self tI) hus
    (codeAny_mono (F1.run _ X.stack _ _ ⟨Value.ref (hp.objs.size + 1) :: us, kw⟩ (args (hp.objs.size + 1)) _ _ (fun _ _ _ => False) (hr.make C us kw) (I2.env0.make C us kw) (hb _ _ I2.kIn) (r2 _) hq) fun r s' hq' => ?_))
  cases r with
  | error er => exact hx pins σ _ _ er s' I2 hq'
  | ok fl =>
    cases fl with
    | ret u =>
      obtain ⟨v, H', I3, rv, ev, q3⟩ := I2.after hq'
      subst ev
      exact ⟨rv, ⟨V.ref (hp.objs.size + 1), H', I3, rfl, q3⟩⟩
    | next => exact False.elim hq'
    | brk => exact False.elim hq'
    | cont => exact False.elim hq'
theorem pe_exV {CX : CXT} {x : Str} {C fI : Addr} {k : Nat} {fd : FuncData} {ps : List Str} {sp : Sp} (O : b.Ok) (T : OexB X.K C b) (iC : PySem.W.findIn X.K (.ref C) "__init__" = some (some (.ref fI))) (tI : PySem.W.typeIn X.K (.ref fI) = some (.type "function"))
    (F1 : FnOk X.prog X.w X.K X.mg X.base CX k fI fd ps sp) (hr : Room (k + 1) X.A) (hb : Binds X.K fd ps []) (hx : Passes CX X (fun _ _ _ => False)) (hg : Gl X x) (hm : X.mg x = some (.ref C)) (ha : PA X (e :: es) ta)
    (hdb : (x == ("__debug__" : Str)) = false := by decide) (he : starEach (e :: es) X.env = (false, eval e X.env) :: starEach es X.env := by rfl) (hpl : (backTo pos (starEach es X.env)).any (·.1) = false := by rfl) :
    PE X (.Call (.Name x p) (e :: es) [] pos) (tExV C sp ta) := by
  refine ⟨fun pins s σ H Q I h => ?_⟩
  refine wpAny_Call_Name_kw (ld_glob I hg hm ?_ hdb)
  refine PySem.W.callWith_K (h₀ := X.base) I.ok.mod.kin T.kC (thn (ha.run pos pins s σ H _ I h) fun us s1 ⟨vs, H1, I1, r1, hz, q1⟩ => ⟨I1.kIn, ?_⟩) he hpl
  show wpAny _ _ (call (.ref C) us) _ _ _
  have hus : us.length ≤ sizeLine := by
    rw [← Paired.length r1, sizeLine_eq]
    omega
  have hl : ∀ a, (Value.ref a :: us).length = ps.length := fun a => by
    have q := q1 s1.heap.objs.size (I1.hok.fresh (Nat.le_refl _))
    have e1 := F1.len _ _ _ _ q
    have e2 := Paired.length r1
    rw [List.length_cons] at e1 ⊢
    rw [← e2]
    exact e1
  refine run_exV (args := fun a => .ref a :: us) (vals := fun a => .ref a :: vs) O T iC tI F1 hr hx I1 hus (fun a s hK => ?_) (fun a => .cons rfl r1) q1
  have z := hb s (.ref a :: us) hK (by rw [List.append_nil]; exact hl a)
  rw [List.append_nil] at z
  exact z
theorem pe_exV0 {CX : CXT} {x : Str} {C fI : Addr} {k : Nat} {fd : FuncData} {ps : List Str} {sp : Sp} (O : b.Ok) (T : OexB X.K C b) (iC : PySem.W.findIn X.K (.ref C) "__init__" = some (some (.ref fI))) (tI : PySem.W.typeIn X.K (.ref fI) = some (.type "function"))
    (F1 : FnOk X.prog X.w X.K X.mg X.base CX k fI fd ps sp) (hr : Room (k + 1) X.A) (hb : Binds X.K fd ps []) (hx : Passes CX X (fun _ _ _ => False)) (hg : Gl X x) (hm : X.mg x = some (.ref C))
    (hdb : (x == ("__debug__" : Str)) = false := by decide) : PE X (.Call (.Name x p) [] [] pos) (tExV C sp tNil) := by
  refine ⟨fun pins s σ H Q I h => ?_⟩
  refine wpAny_Call_Name_kw (ld_glob I hg hm ?_ hdb)
  refine PySem.W.callWith_K0 I.kIn T.kC ?_
  obtain ⟨_, q1⟩ := (show ([] : List V).length ≤ 1000 ∧ ∀ a, H a = none → sp (.ref a :: []) (upd H a (exo a C none)) (fun v H2 => v = .non ∧ Q (.ref a) H2) (fun _ _ _ => False) from h)
  have hl : ∀ a, [Value.ref a].length = ps.length := fun a => by
    have q := q1 s.heap.objs.size (I.hok.fresh (Nat.le_refl _))
    have e := F1.len _ _ _ _ q
    exact e
  refine run_exV (us := []) (kw := []) (args := fun a => [.ref a]) (vals := fun a => [.ref a]) O T iC tI F1 hr hx I (Nat.zero_le _) (fun a s hK => ?_) (fun a => .cons rfl .nil) q1
  have z := hb s [.ref a] hK (by rw [List.append_nil]; exact hl a)
  rw [List.append_nil] at z
  exact z
theorem pe_exK {CX : CXT} {x : Str} {C fI : Addr} {k : Nat} {fd : FuncData} {ps ks : List Str} {sp : Sp} {kws : List Keyword} {g : List Value → List Value → List Value} {gV : List V → List V → List V} (O : b.Ok) (T : OexB X.K C b) (iC : PySem.W.findIn X.K (.ref C) "__init__" = some (some (.ref fI))) (tI : PySem.W.typeIn X.K (.ref fI) = some (.type "function"))
    (F1 : FnOk X.prog X.w X.K X.mg X.base CX k fI fd ps sp) (hr : Room (k + 1) X.A) (hb : KBn X.K fd ps 1 ks g gV) (hx : Passes CX X (fun _ _ _ => False)) (hg : Gl X x) (hm : X.mg x = some (.ref C)) (hkw : PK X kws tk)
    (hall : (backToKw pos (keywordEach kws X.env)).all (·.1.isSome) = true := by rfl) (hks : (backToKw pos (keywordEach kws X.env)).filterMap (·.1) = ks := by rfl) (hdb : (x == ("__debug__" : Str)) = false := by decide)
    (hpl : ((backTo pos (starEach [] X.env)).any (·.1) || (backToKw pos (keywordEach kws X.env)).any (·.1.isNone)) = false := by rfl) :
    PE X (.Call (.Name x p) [] kws pos) (tExK C ks.length sp gV tk) := by
  refine ⟨fun pins s σ H Q I h => ?_⟩
  refine wpAny_Call_Name_kw (ld_glob I hg hm ?_ hdb)
  refine PySem.W.callWith_KW0 (h₀ := X.base) I.ok.mod.kin T.kC hall ?_ hpl
  refine thn (hkw.run pos pins s σ H _ I h) fun ws s2 ⟨zs, H2, I2, rz, l2, q2⟩ => ⟨I2.kIn, ?_⟩
  rw [hks]
  exact run_exV (us := []) (kw := ks.zip ws) (args := fun a => g [.ref a] ws) (vals := fun a => gV [.ref a] zs) O T iC tI F1 hr hx I2 (Nat.zero_le _)
    (fun a s hK => hb.to s [.ref a] ws hK rfl (rz.length.symm.trans l2)) (fun a => hb.rel (.cons rfl .nil) rz) q2

/-- raise C(e, ..) -/
theorem pmk_oexB {CX : CXT} {x : Str} {C fI : Addr} {k : Nat} {fd : FuncData} {ps : List Str} {sp : Sp} {ds : List Value} {dvs : List V} (O : b.Ok) (T : OexB X.K C b) (iC : PySem.W.findIn X.K (.ref C) "__init__" = some (some (.ref fI))) (tI : PySem.W.typeIn X.K (.ref fI) = some (.type "function"))
    (F1 : FnOk X.prog X.w X.K X.mg X.base CX k fI fd ps sp) (hr : Room (k + 1) X.A) (hb : Binds X.K fd ps ds) (hd : Vals dvs ds) (hx : Passes CX X (fun _ _ _ => False)) (hg : Gl X x) (hm : X.mg x = some (.ref C)) (ha : PA X (e :: es) ta)
    (hdb : (x == ("__debug__" : Str)) = false := by decide) (he : starEach (e :: es) X.env = (false, eval e X.env) :: starEach es X.env := by rfl) (hpl : (backTo pos (starEach es X.env)).any (·.1) = false := by rfl) :
    PMk X (.Call (.Name x p) (e :: es) [] pos) (tMkO C sp dvs ta) := by
  intro pins s σ H Q I h
  obtain ⟨nm, q, N, bs, bm, sn, sub, ab, col, dd, k0, k1, k2, k3, k5, hC, hbm⟩ := T.cls
  refine wpAny_Call_Name_kw (ld_glob I hg hm ?_ hdb)
  refine PySem.W.callWith_K (h₀ := X.base) I.ok.mod.kin T.kC (thn (ha.run pos pins s σ H _ I h) fun us s1 ⟨vs, H1, I1, r1, hz, q1⟩ => ⟨I1.kIn, ?_⟩) he hpl
  show wpAny _ _ (call (.ref C) us) _ _ _
  obtain ⟨hp, g, dr, tk, os⟩ := s1
  have hsz : hp.objs.size ≤ hp.objs.size + 1 := Nat.le_succ _
  have hn : H1 (hp.objs.size + 1) = none := I1.hok.fresh hsz
  have hq := q1 (hp.objs.size + 1) hn
  have kk : ∀ b o, hp.get? b = some o → ((hp.push (PySem.W.kdv_tup us)).push (PySem.HandSPX.excO C hp.objs.size)).get? b = some o := fun b o e => Heap.get?_push_of_some _ (Heap.get?_push_of_some _ e)
  have hget : ((hp.push (PySem.W.kdv_tup us)).push (PySem.HandSPX.excO C hp.objs.size)).get? (hp.objs.size + 1) = some (PySem.HandSPX.excO C hp.objs.size) := by heap_get
  have I2 : Inv X pins σ (upd H1 (hp.objs.size + 1) (exo (hp.objs.size + 1) C none)) ⟨(hp.push (PySem.W.kdv_tup us)).push (PySem.HandSPX.excO C hp.objs.size), g, dr, tk, os⟩ :=
    I1.laid (t' := tk) (a := hp.objs.size + 1) (o := exo (hp.objs.size + 1) C none) (h' := (hp.push (PySem.W.kdv_tup us)).push (PySem.HandSPX.excO C hp.objs.size)) kk hsz (exo_ok hget)
  have r2 : Vals (V.ref (hp.objs.size + 1) :: (vs ++ dvs)) (Value.ref (hp.objs.size + 1) :: (us ++ ds)) := .cons rfl (r1.append hd)
  have hl : (Value.ref (hp.objs.size + 1) :: us ++ ds).length = ps.length := by
    have e := r2.length
    rw [F1.len _ _ _ _ hq] at e
    exact e.symm
  have hus : us.length ≤ sizeLine := by
    rw [← Paired.length r1, sizeLine_eq]
    omega
  refine wpAny_call (call_ownK O.F (fun Y => refsT_contains Y bm hbm) (I1.kIn _ _ hC) (PySem.W.looks_findIn I1.kIn iC) (fun self => PySem.W.bind_fn I1.kIn self tI) hus
    (codeAny_mono (F1.run _ X.stack _ _ ⟨Value.ref (hp.objs.size + 1) :: us, []⟩ (Value.ref (hp.objs.size + 1) :: (us ++ ds)) _ _ (fun _ _ _ => False) (hr.make C us []) (I2.env0.make C us []) (hb _ (Value.ref (hp.objs.size + 1) :: us) I2.kIn hl) r2 hq) fun r s' hq' => ?_))
  cases r with
  | error er => exact hx pins σ _ _ er s' I2 hq'
  | ok fl =>
    cases fl with
    | ret u =>
      obtain ⟨v, H2, os2, bare2, un2, hok2, rv, ev, d, fs, ea, ed, hd1, q2⟩ := hq'
      subst ev
      obtain ⟨h2, g2, d2, t2, os'⟩ := s'
      exact ⟨rv, mk_end (raises_own T.exC T.tyC) I1 hsz kk un2 hok2 os2 bare2 ea ed hd1 q2⟩
    | next => exact False.elim hq'
    | brk => exact False.elim hq'
    | cont => exact False.elim hq'
end
/-- at a stands an exception of the class at C, its dict at d -/
def isX (H : Hp) (a C : Addr) (d : Option Addr) : Prop := H a = some (exo a C d) ∨ H a = some (xo a (.ref C) d)
theorem isX_at {P : Program} {w : World} {H : Hp} {h : Heap} {a C : Addr} {d : Option Addr} (hok : HOk P w H h) (he : isX H a C d) : ∃ oe vs, h.get? a = some oe ∧ Zc (.ref C) d oe ∧ oe.data = .fields vs := by
  rcases he with he | he
  · obtain ⟨t1, e⟩ := exo_at hok he
    exact ⟨_, _, e, ⟨rfl, rfl⟩, rfl⟩
  · exact xo_at hok he
/-- err.f -/
def tXoB (K : PySem.W.Frag) (f : Str) (te : TE) : TE := fun σ H Q => te σ H fun x H1 => ∃ (a C dd : Addr) (fs : List (Str × V)) (v : V), x = .ref a ∧ isX H1 a C (some dd) ∧ XfC K C ∧ PySem.W.findIn K (.ref C) f = some none ∧ (H1 dd = some (.xd fs) ∨ H1 dd = some (exd dd fs)) ∧ fs.lookup f = some v ∧ Q v H1
section
variable {X : Cx}
theorem pe_xoB {e : Expr} {te : TE} {pos : Pos} {f : Str} (he : PE X e te) (hb : attributeBase e f X.env (eval e X.env) = eval e X.env := by rfl) : PE X (.Attribute e f pos) (tXoB X.K f te) := by
  refine ⟨fun pins s σ H Q I h => ?_⟩
  refine attr_of hb (thn (he.run pins s σ H _ I h) fun u s1 hh => ?_)
  obtain ⟨x, H1, I1, rx, a, C, dd, fs, v, ex, ea, T, hno, ed, l, q⟩ := hh
  subst ex
  obtain rfl : u = Value.ref a := rx
  obtain ⟨oe, vs, ha, hz, hd⟩ := isX_at I1.hok ea
  have hx : ∃ mA, s1.heap.Ns1 dd mA ∧ ∀ f, RelO (fs.lookup f) (mA f) := by
    rcases ed with ed | ed
    · exact I1.hok dd _ ed
    · exact exd_at I1.hok ed
  obtain ⟨mA, hns, hr⟩ := hx
  obtain ⟨od, ho, hl⟩ := lookIn_ns hns
  obtain ⟨u, hu, ru⟩ := RelO.some_of (v := v) (o := mA f) (by rw [← l]; exact hr f)
  have J : PySem.W.InstAt s1.heap a oe C (some od) := ⟨ha, hz.1, by unfold PySem.W.notCls; rw [hd] <;> rfl, by rw [hz.2]; exact ho⟩
  exact HandSPX.exc_get I1.kIn J T.ga T.gg T.exC (PySem.W.findObj_own T.hdC hno rfl (by rw [hl, hu])) (handed_of ru) ⟨v, H1, I1.tok _, ru, q⟩
end
end L2
namespace PySem.W
open PySem PySem.Spec PySem.Calls PyProof.Rows
section
variable {prog : Program} {w : World} {A : Around} {E : Value → Shared → Prop} {s : Shared} {K : Frag} {x D : Addr} {ox : Obj} {od : Option Obj}
theorem findObj_dataO {C : Addr} {name : Str} {a g : Value} (hc : (clsIn K C).isSome = true) (ha : findIn K (.ref C) name = some (some a)) (hg : specialIn K a "__get__" = some (some g)) (ht : takesIn K a = some true) : findObj K C od name = some (.bind g a) := by
  obtain ⟨cd, hc⟩ := Option.isSome_iff_exists.mp hc
  unfold findObj
  rw [hc, Option.bind_some, ha, Option.bind_some]
  simp [hg, ht]
theorem kin_classO {Q : Option Value → Shared → Prop} (hga : findIn K (.ref D) "__getattribute__" = some (some (.builtin "BaseException.__getattribute__"))) (hgt : findIn K (.ref D) "__getattr__" = some none) (hsub : subIn K (.ref D) (.type "BaseException") = some true)
    (hdct : hasDictIn K D = true) (ha : findIn K (.ref D) "__class__" = some (some (.builtin "object.__class__")))
    (hn : specialIn K (.builtin "object.__class__") "__get__" = some (some (.builtin "getset_descriptor.__get__"))) (htk : takesIn K (.builtin "object.__class__") = some true) (hm : mroIn K D (.type "object") = some true)
    (X : K.In s.heap) (I : InstAt s.heap x ox D od) (h : Q (some (.ref D)) { s with toks := s.toks + 1 }) : wpAny (model prog w) A (getAttr? (.ref x) "__class__") Q E s := by
  have hf : findObj K D od "__class__" = some (.bind (.builtin "getset_descriptor.__get__") (.builtin "object.__class__")) := findObj_dataO (by obtain ⟨cd, hc, _⟩ := any_some hdct; rw [hc]; rfl) ha hn htk
  obtain ⟨hp, g, d, t, os⟩ := s
  have L0 := I.type (M := model prog w)
  have L1 := looks_findIn (M := model prog w) X hga
  have L2 := looks_findIn (M := model prog w) X hgt
  have L3 := looks_find (M := model prog w) X I hf
  have sub : Looks (model prog w) hp (isInstance (.ref x) (.type "BaseException")) true := L0.andThen (looks_subIn X hsub)
  have hx0 : (false && onTheHeap (Value.builtin "BaseException.__getattribute__")) = false := rfl
  have hx2 : (Value.builtin "BaseException.__getattribute__" == Value.builtin "object.__getattribute__") = false := by decide +kernel
  have hx1 : (onTheHeap (Value.ref D) && Value.builtin "BaseException.__getattribute__" == Value.builtin "object.__getattribute__") = false := by rw [hx2]; rfl
  unfold getAttr? getAttrBy? getAttrBy
  refine wpAny_bind (wpAny_mkText (wpAny_bind (wpAny_attempt (wpAny_holding (wpAny_bind (L0.at (wpAny_bind (L1.at ?_))))))))
  show wpAny _ _ (if (onTheHeap (Value.ref D) && Value.builtin "BaseException.__getattribute__" == Value.builtin "object.__getattribute__") = true then _ else _) _ _ _
  rw [hx1, if_neg Bool.false_ne_true]
  unfold getAttrByItsOwn hookBefore
  refine wpAny_bind ?_
  rw [if_pos (show onTheHeap (Value.ref D) = true from rfl)]
  refine L2.at ?_
  refine wpAny_bind (wpAny_attempt (wpAny_holding ?_))
  unfold callGetattribute
  rw [hx0, if_neg Bool.false_ne_true]
  unfold boundAndCalled
  rw [PySem.F.excAttr_ValueError.ga.bind (.ref x)]
  refine wpAny_bind (wpAny_pure ?_)
  show wpAny _ _ (call (.builtin "BaseException.__getattribute__") [.ref x, .str "__class__" t]) _ _ _
  refine wpAny_call (codeAny_call_builtin PySem.F.excAttr_ValueError.ga.plain PySem.F.entry_bexc_ga ?_)
  refine @check_slot (model prog w) _ _ ⟨hp, g, d, t + 1, os⟩ "BaseException.__getattribute__" "BaseException" "__getattribute__" (.ref x) [.str "__class__" t] [] _ (by decide +kernel) (by decide +kernel) sub (PySem.F.args_bexc_ga (.ref x) (.str "__class__" t)) ?_
  unfold Builtin.«object.__getattribute__»
  refine wpAny_bind (wpAny_of_eq (a := ((Value.ref x : Value), [Value.str "__class__" t])) (by first | rfl | (simp only [slotArgs]; rfl)) ?_)
  refine wpAny_bind (wpAny_pure (wpAny_bind (L0.at (wpAny_bind (L3.at ?_)))))
  show wpAny _ _ (holding [Value.builtin "object.__class__"] (call (.builtin "getset_descriptor.__get__") [.builtin "object.__class__", .ref x, .ref D]) >>= ret) _ _ _
  refine wpAny_bind (wpAny_holding (wpAny_call (class_get (s := ⟨hp, g, d, t + 1, os⟩) (ox := ox) (od := od) X I hm ?_)))
  refine wpAny_pure ?_
  show wpAny _ _ (handedOut (.ref D)) _ _ _
  rw [handedOut_of (v := .ref D) rfl]
  first
    | exact wpAny_pure (wpAny_pure h)
    | exact wpAny_pure h
    | exact wpAny_pure (wpAny_bind (wpAny_pure (wpAny_pure h)))
theorem kitx_excO (hga : findIn K (.ref D) "__getattribute__" = some (some (.builtin "BaseException.__getattribute__"))) (hgt : findIn K (.ref D) "__getattr__" = some none) (hsub : subIn K (.ref D) (.type "BaseException") = some true) (hdct : hasDictIn K D = true) (ha : findIn K (.ref D) "__class__" = some (some (.builtin "object.__class__")))
    (hn : specialIn K (.builtin "object.__class__") "__get__" = some (some (.builtin "getset_descriptor.__get__"))) (htk : takesIn K (.builtin "object.__class__") = some true) (hm : mroIn K D (.type "object") = some true) :
    KitX K (.ref x) (.ref D) (fun h => ∃ ox od, InstAt h x ox D od) where
  ty := fun _ _ _ ⟨_, _, I⟩ => I.type
  it := fun _ _ X _ => by
    obtain ⟨cdD, hcD, _⟩ := any_some hdct
    unfold clsIn at hcD
    split at hcD
    · rename_i c' d' cd' sl' ho
      intro A' Q' E' s' k q
      unfold isType loadHead
      exact wpAny_bind (wpAny_loadPart (k _ _ (X _ _ ho)) (wpAny_pure q))
    · cases hcD
  ne := fun h tp dd its n sl X htp => by
    obtain ⟨cdD, hcD, _⟩ := any_some hdct
    refine Bool.eq_false_iff.mpr fun q => ?_
    have e : D = tp := Value.ref.inj (beq_iff_eq.mp q)
    subst e
    unfold clsIn at hcD
    split at hcD
    · rename_i c' d' cd' sl' ho
      have z := (X _ _ ho).symm.trans htp
      cases z
    · cases hcD
  ca := fun X ⟨ox, od, I⟩ k => kin_classO hga hgt hsub hdct ha hn htk hm X I k
end
end PySem.W
namespace L2
open PySem PySem.Spec PyProof.Rows PySem.OXB
/-- isinstance(e, c), e an exception that stands -/
def rIsX (K : PySem.W.Frag) : List V → Hp → VK → Prop := fun xs H Q => ∃ (a D : Addr) (d : Option Addr) (c : V) (cv : Value) (b : Bool), xs = [.ref a, c] ∧ isX H a D d ∧ (∀ dd, d = some dd → ∃ fs, H dd = some (.xd fs) ∨ H dd = some (exd dd fs)) ∧ ExcC K D ∧ (∀ u, RelV c u → u = cv) ∧ PySem.W.kitOne K (.ref D) cv = some b ∧ Q (.bl b) H
theorem call_isX {X : Cx} : CallR X (.builtin "isinstance") (rIsX X.K) := by
  intro pins s σ H xs us Q I r h
  obtain ⟨a, D, d, c, cv, b, rfl, ha, hdd, C, hcv, e, q⟩ := h
  cases r with
  | cons rx rr =>
    cases rr with
    | cons rt rr =>
      cases rr
      cases rx
      have ec := hcv _ rt
      subst ec
      obtain ⟨oe, vs, hget, hz, hv⟩ := isX_at I.hok ha
      have J : ∃ ox od, PySem.W.InstAt s.heap a ox D od := by
        cases d with
        | none => exact ⟨oe, none, hget, hz.1, by unfold PySem.W.notCls; rw [hv] <;> rfl, by rw [hz.2]; trivial⟩
        | some dd =>
          obtain ⟨fs, ed⟩ := hdd dd rfl
          have hx : ∃ mA, s.heap.Ns1 dd mA ∧ ∀ f, RelO (fs.lookup f) (mA f) := by
            rcases ed with ed | ed
            · exact I.hok dd _ ed
            · exact exd_at I.hok ed
          obtain ⟨mA, hns, _⟩ := hx
          obtain ⟨od, ho, _⟩ := lookIn_ns hns
          exact ⟨oe, some od, hget, hz.1, by unfold PySem.W.notCls; rw [hv] <;> rfl, by rw [hz.2]; exact ho⟩
      exact PySem.W.kia_one (PySem.W.kitx_excO C.hg C.hk C.hs C.hd C.ha C.hn C.ht C.hm) I.kIn J e (fun z => nomatch z) fun tk => ⟨.bl b, H, I.kept (t' := tk) fun _ _ z => z, rfl, q⟩
end L2
namespace L2
open PySem PySem.Spec PyProof.Rows NdefX ClX
abbrev supStmt (p0 p1 ap p2 p3 : Pos) (args : List Expr) : Stmt := .Expr (.Call (.Attribute (.Call (.Name "super" p0) [] [] p1) "__init__" ap) args [] p2) p3
/-- what is written of super() in a def of the class at D, whose code stands at cda, its cell of the class at cc -/
structure SupF (P : Program) (K : PySem.W.Frag) (mg : Str → Option Value) (D cc cda : Addr) : Prop where
  cell : ∃ ocl ocd csl, K.lookup cc = some ⟨ocl, ocd, .cell (some (.ref D)), csl⟩
  cls : ∃ cd, PySem.W.clsIn K D = some cd
  any : PySem.W.nsIn K PySem.cStatics "thirdparty.any" = some none
  code : ∃ (ccl : Value) (cdd : Option Addr) (vs : Array Value) (ccs : Array (Option Value)) (file : Str) (tf : Tok), K.lookup cda = some ⟨ccl, cdd, .fields vs, ccs⟩ ∧ vs[2]? = some (.str file tf) ∧ ((P.main.file : Str) == file) = true
  top : (P.main.scope.names.lookup ("super" : Str)).isSome = false
  mg : mg "super" = none
/-- an instance's class C: behind D the method is the def at f2 -/
structure SupC (K : PySem.W.Frag) (D C f2 : Addr) : Prop where
  sub : PySem.W.mroIn K C (.ref D) = some true
  at_ : PySem.W.ks_superIn K C D "__init__" = some (some (.ref f2))
  fn : PySem.W.typeIn K (.ref f2) = some (.type "function")
  fi : PySem.W.fnIn K f2 = true
theorem fn_sup {P : Program} {w : World} {K : PySem.W.Frag} {mg : Str → Option Value} {base : Heap} {k j : Nat} {f f2 D cc cda : Addr} {name qual : Str} {params : Arguments} {body : List Stmt} {scope : Scope} {dV kV doc pm ct oc : Value} {an od : Option Addr}
    {osl : Array (Option Value)} {N ps ps2 : List Str} {sp sp2 : Sp} {fd2 : FuncData} {p0 p1 ap p2 p3 : Pos} {a0 : Expr} {args : List Expr} {ar : Arg}
    (lk : K.lookup f = some ⟨oc, od, .func (PySem.W.ksFn name qual params (supStmt p0 p1 ap p2 p3 (a0 :: args) :: body) scope dV kV doc pm an (.ref cda) ct cc), osl⟩) (hcd : PySem.W.codeIn K (.ref cda) qual = true) (S : NScope N ps ["__class__"] scope)
    (har : (params.posonlyargs ++ params.args).head? = some ar) (h0 : ps[0]? = some ar.arg) (hsu : scope.names.lookup ("super" : Str) = some .globalImplicit) (SF : SupF P K mg D cc cda)
    (F2 : FnOk P w K mg base CX0 j f2 fd2 ps2 sp2) (hj : j ≤ k) (b2 : Binds K fd2 ps2 [])
    (len : ∀ vs H Q E, sp vs H Q E → vs.length = ps.length)
    (hbody : ∀ (A : Around) (outer : List Env) (s : Shared) (H : Hp) (vs : List V) (Q : VK) (E : XK), Room k (A.deeper (envF ⟨name, qual, params, supStmt p0 p1 ap p2 p3 (a0 :: args) :: body, scope, [("__class__", cc)], cda⟩ f s.heap.objs.size)) → sp vs H Q E →
      ∃ (ta : TA) (t : TS) (C x dx : Addr) (fs : List (Str × V)), PA (ncx CX0 P w K mg base N ⟨name, qual, params, supStmt p0 p1 ap p2 p3 (a0 :: args) :: body, scope, [("__class__", cc)], cda⟩ f A outer s H E) (a0 :: args) ta ∧
        PSs (ncx CX0 P w K mg base N ⟨name, qual, params, supStmt p0 p1 ap p2 p3 (a0 :: args) :: body, scope, [("__class__", cc)], cda⟩ f A outer s H E) body t ∧ vs[0]? = some (.ref x) ∧ H x = some (.ins C dx fs) ∧ SupC K D C f2 ∧
        ta (startF N vs [some (.ref D)]) H fun zs H1 => sp2 (.ref x :: zs) H1 (fun _ H2 => t { nx := fun _ H' => Q .non H', rt := Q } (startF N vs [some (.ref D)]) H2) E0)
    (hst : ∀ env, starEach (a0 :: args) env = (false, eval a0 env) :: starEach args env := by intro env; rfl) (hpl : ∀ env, (backTo p2 (starEach args env)).any (·.1) = false := by intro env; rfl)
    (he : ∀ env, ∃ pl : Sem Bool, eval (.Call (.Attribute (.Call (.Name "super" p0) [] [] p1) "__init__" ap) (a0 :: args) [] p2) env = (do
      let ov ← attributeBase (.Call (.Name "super" p0) [] [] p1) "__init__" env (eval (.Call (.Name "super" p0) [] [] p1) env)
      standAt ap.atName
      let (f, first) ← holding [ov] (getMethod ov "__init__" pl)
      callWith p2 f first (backTo p2 (starEach (a0 :: args) env)) []) := by intro env; exact ⟨_, rfl⟩)
    (hsw : ∀ env, swapsWith (.Call (.Attribute (.Call (.Name "super" p0) [] [] p1) "__init__" ap) (a0 :: args) [] p2) none p3.line env = pure false := by intro env; rfl) :
    FnOk P w K mg base CX0 (k + 1) f (PySem.W.ksFn name qual params (supStmt p0 p1 ap p2 p3 (a0 :: args) :: body) scope dV kV doc pm an (.ref cda) ct cc) ps sp := by
  refine ⟨len, fun A outer s H args' us vs Q E hr e0 hb r hsp => ?_⟩
  have hl := len _ _ _ _ hsp
  have KX : K.In s.heap := e0.mod.kin.keeps fun b o e => (e0.bs b o e).1
  have lim : s.heap.NoLimit := e0.mod.nolimit.keeps fun b o e => (e0.bs b o e).1
  obtain ⟨ocl, ocd, csl, hcell⟩ := SF.cell
  obtain ⟨cdD, hD⟩ := SF.cls
  obtain ⟨ccl, cdd, vsC, ccs, file, tf, hcode, hvs, hfile⟩ := SF.code
  have hbase : K.In base := e0.mod.kin
  have CA : CellsAt [(("__class__" : Str), cc)] ["__class__"] [some (V.ref D)] s.heap H := by
    refine ⟨rfl, fun y c e => ?_, fun x y c e1 e2 => ?_, fun i y e => ?_⟩
    · simp only [List.lookup] at e
      split at e
      · cases e
        exact ⟨(e0.bs _ _ (hbase _ _ hcell)).2, _, _, KX _ _ hcell, rfl⟩
      · cases e
    · simp only [List.lookup] at e1 e2
      split at e1
      · rename_i q1
        split at e2
        · rename_i q2
          rw [eq_of_beq q1, eq_of_beq q2]
        · cases e2
      · cases e1
    · cases i with
      | zero =>
        cases e
        refine ⟨cc, rfl, fun v hv => ?_⟩
        cases hv
        exact ⟨.ref D, rfl, _, KX _ _ hcell, rfl⟩
      | succ i => simp at e
  refine PySem.ks_codeAny_call_defAt hr.depth (KX _ _ lk) rfl lim (PySem.W.codeRec_of KX hcd) rfl hb S.nocell (fun ⟨n, _⟩ hy => S.par n (List.of_mem_zip hy).1) (fun h₁ hns kp => ?_) S.co S.gen S.kind
  obtain ⟨ta, t, C, x, dx, fs, hta, ht, hx0, hxH, SC, hgo⟩ := hbody A outer s H vs Q E (hr.deeper _) hsp
  have I : Inv (ncx CX0 P w K mg base N ⟨name, qual, params, supStmt p0 p1 ap p2 p3 (a0 :: args) :: body, scope, [("__class__", cc)], cda⟩ f A outer s H E) [] (startF N vs [some (.ref D)]) H { s with heap := h₁, toks := s.toks + (ps.zip us).length } := inv_startN S hr.hd e0 hl r CA hns kp
  have J := ins_get I.hok hxH
  obtain ⟨mA, O, _⟩ := J
  obtain ⟨oX, J, _⟩ := O.look
  have hps : ps.Nodup := by
    have q := S.nd.sublist (List.take_sublist (ps.length + 1) N)
    rw [show ps.length + 1 = ps.length + (["__class__"] : List Str).length from rfl, S.pre] at q
    exact (List.nodup_append.mp q).1
  have hux : us[0]? = some (.ref x) := by
    obtain ⟨u, hu, rv⟩ := r.get hx0
    rw [hu, show u = Value.ref x from rv]
  have hself : (ps.zip us).reverse.lookup ar.arg = some (.ref x) := zip_look hps h0 hux
  have hkself : scope.names.lookup ar.arg = some .local := S.par _ (List.mem_of_getElem? h0)
  have hkcls : scope.names.lookup ("__class__" : Str) = some .free := S.frk _ (by simp)
  have KI : K.In h₁ := I.kIn
  obtain ⟨oD, hD1, hD2⟩ : ∃ oD, h₁.get? D = some oD ∧ oD.data = .cls cdD := by
    unfold PySem.W.clsIn at hD
    split at hD
    · rename_i c d cd' sl ho
      cases hD
      exact ⟨_, KI _ _ ho, rfl⟩
    · cases hD
  obtain ⟨pl, he⟩ := he (envF ⟨name, qual, params, supStmt p0 p1 ap p2 p3 (a0 :: args) :: body, scope, [("__class__", cc)], cda⟩ f s.heap.objs.size)
  refine PySem.ks_wpAt_execs_cons (PySem.ks_wpAt_Expr_any (PySem.ks_wpAt_MethodCall (pl := pl) ?_ he) I.quiet (hsw _))
  refine PySem.ks_wpAt_super_base (cc := cda) hsu hkcls (by decide) rfl (KI _ _ lk) rfl har rfl (KI _ _ hcode) rfl hvs hfile SF.top ?_
  obtain ⟨mb, m1, m2⟩ := I.mod.blt
  refine PySem.W.ks_loadName_global S.kind hsu (Calls.loadGlobal_builtin (by exact I.mod.glob.keeps I.bk) SF.mg (by exact m1.keeps I.bk) ((m2 "super" (by decide)).trans (by decide +kernel)) ⟨rfl, ?_⟩)
  refine wpAny_loadName_free S.kind hkcls rfl ⟨_, KI _ _ hcell, rfl⟩ ?_
  refine wpAny_loadName_local S.kind hkself hns hself ?_
  refine PySem.ks_wpAny_isType_cls hD1 hD2 ⟨rfl, ?_⟩
  refine PySem.ks_wpAny_call_super hD1 hD2 J.at_ J.cls (fun c e => ?_) (PySem.W.looks_mroIn KI SC.sub) (fun h' e1 k1 => ?_)
  · have := J.no
    unfold PySem.W.notCls at this
    rw [e] at this
    exact Bool.noConfusion this
  have I1 := I.kept (t' := s.toks + (ps.zip us).length) k1
  have KI1 : K.In h' := I1.kIn
  cases hc : PySem.W.clsIn K C with
  | none => have q := SC.at_; unfold PySem.W.ks_superIn at q; rw [hc] at q; cases q
  | some cd =>
  have hm := SC.at_
  unfold PySem.W.ks_superIn at hm
  rw [hc] at hm
  obtain ⟨of, hof, hofc⟩ : ∃ of, h'.get? f2 = some of ∧ of.cls = .type "function" := by
    have ht' : (K.lookup f2).map (·.cls) = some (.type "function") := SC.fn
    cases z : K.lookup f2 with
    | none => rw [z] at ht'; cases ht'
    | some of => rw [z] at ht'; exact ⟨of, KI1 _ _ z, Option.some.inj ht'⟩
  refine PySem.ks_wpAny_getMethod_super e1 (PySem.W.looks_opaque KI1 SF.any) (l₀ := cd.mro) ?_ rfl KI1 hm hof hofc (PySem.W.ks_ne KI J hc) (by decide) ?_
  · exact fun A Q E s k q => wpAny_bind ((PySem.W.looks_clsIn KI1 hc) A _ E s k (wpAny_pure q))
  have I2 := met_new (g := f2) (C := x) I1
  refine callwith_cm I2 (base_none I1 (Nat.le_refl _)) SC.fi (thn (hta.run p2 _ _ _ _ _ I2 hgo) fun us2 s2 hh => ?_) (hst _) (hpl _)
  obtain ⟨zs, H2, I3, r3, q3⟩ := hh
  refine ⟨⟨pin_at I3, I3.kIn⟩, ?_⟩
  have hl2 : ((Value.ref x :: us2) ++ []).length = ps2.length := by rw [List.append_nil, List.length_cons, ← r3.length]; exact F2.len _ _ _ _ q3
  have hb2 := b2 s2 (Value.ref x :: us2) I3.kIn hl2
  rw [List.append_nil] at hb2
  refine wpAny_call (PySem.W.method_call (pin_at I3) (codeAny_mono (F2.run _ _ s2 H2 ⟨.ref x :: us2, []⟩ (.ref x :: us2) (.ref x :: zs) _ E0 ((hr.deeper _).mono hj) I3.env0 hb2 (.cons rfl r3) q3) fun rr s' hq => ?_))
  cases rr with
  | error e => exact absurd hq (by intro z; exact z)
  | ok fl =>
    cases fl with
    | next => exact False.elim hq
    | brk => exact False.elim hq
    | cont => exact False.elim hq
    | ret u =>
      obtain ⟨v, H4, I4, rv, q4⟩ := I3.after hq
      have I5 : Inv (ncx CX0 P w K mg base N ⟨name, qual, params, supStmt p0 p1 ap p2 p3 (a0 :: args) :: body, scope, [("__class__", cc)], cda⟩ f A outer s H E) [] (startF N vs [some (.ref D)]) H4 s' := I4.pins_of fun p hp => absurd (show p ∈ ([] : List (Addr × Obj)) from hp) (by simp)
      refine wpAt_of_wpAny (wpAny_mono (ht.run [] s' (startF N vs [some (.ref D)]) H4 _ I5 q4) (fun fl s3 hs => ?_) fun e s3 hs => hs)
      have fin : ∀ {σ' : L2.St} {H' : Hp} {v : V} {u : Value}, Inv (ncx CX0 P w K mg base N ⟨name, qual, params, supStmt p0 p1 ap p2 p3 (a0 :: args) :: body, scope, [("__class__", cc)], cda⟩ f A outer s H E) [] σ' H' s3 → L2.RelV v u → Q v H' → CE outer P w H s Q u s3 :=
        fun {σ' H' v u} J rv q => ⟨v, H', J.os, J.bare, J.base, J.hok, rv, q⟩
      cases fl with
      | ret u =>
        obtain ⟨v, σ', H', J, rv, q⟩ := hs
        exact fin J rv q
      | next =>
        obtain ⟨σ', H', J, q⟩ := hs
        exact fin (v := V.non) (u := Value.none) J rfl q
      | brk =>
        obtain ⟨_, _, _, q⟩ := hs
        exact False.elim q
      | cont =>
        obtain ⟨_, _, _, q⟩ := hs
        exact False.elim q
/-- such a def, told by its text -/
structure FunS (P : Program) (K : PySem.W.Frag) (mg : Str → Option Value) (D : Addr) (x qual : Str) (st : Stmt) (f : Addr) (fd : FuncData) : Prop where
  ex : ∃ (oc : Value) (od : Option Addr) (kV doc pm : Value) (an : Option Addr) (cda cc : Addr) (ct : Value) (osl : Array (Option Value)),
    fd = PySem.W.ksFn x qual (defArgs st) (defBody st) (defScope st) .none kV doc pm an (.ref cda) ct cc ∧ K.lookup f = some ⟨oc, od, .func fd, osl⟩ ∧ PySem.W.codeIn K (.ref cda) qual = true ∧ SupF P K mg D cc cda
theorem FunS.ok {P : Program} {w : World} {K : PySem.W.Frag} {mg : Str → Option Value} {base : Heap} {k j : Nat} {f f2 D : Addr} {x qual : Str} {st : Stmt} {fd fd2 : FuncData} {N ps ps2 : List Str} {sp sp2 : Sp} {p0 p1 ap p2 p3 : Pos} {a0 : Expr} {args : List Expr} {ar : Arg} {body : List Stmt}
    (F : FunS P K mg D x qual st f fd) (hb : defBody st = supStmt p0 p1 ap p2 p3 (a0 :: args) :: body) (S : NScope N ps ["__class__"] (defScope st)) (har : ((defArgs st).posonlyargs ++ (defArgs st).args).head? = some ar) (h0 : ps[0]? = some ar.arg)
    (hsu : (defScope st).names.lookup ("super" : Str) = some .globalImplicit) (F2 : FnOk P w K mg base CX0 j f2 fd2 ps2 sp2) (hj : j ≤ k) (b2 : Binds K fd2 ps2 [])
    (len : ∀ vs H Q E, sp vs H Q E → vs.length = ps.length)
    (hbody : ∀ (FF : NF) (A : Around) (outer : List Env) (s : Shared) (H : Hp) (vs : List V) (Q : VK) (E : XK), FF.scope = defScope st → Room k (A.deeper (envF FF f s.heap.objs.size)) → sp vs H Q E →
      ∃ (ta : TA) (t : TS) (C x dx : Addr) (fs : List (Str × V)), PA (ncx CX0 P w K mg base N FF f A outer s H E) (a0 :: args) ta ∧
        PSs (ncx CX0 P w K mg base N FF f A outer s H E) body t ∧ vs[0]? = some (.ref x) ∧ H x = some (.ins C dx fs) ∧ SupC K D C f2 ∧
        ta (startF N vs [some (.ref D)]) H fun zs H1 => sp2 (.ref x :: zs) H1 (fun _ H2 => t { nx := fun _ H' => Q .non H', rt := Q } (startF N vs [some (.ref D)]) H2) E0)
    (hst : ∀ env, starEach (a0 :: args) env = (false, eval a0 env) :: starEach args env := by intro env; rfl) (hpl : ∀ env, (backTo p2 (starEach args env)).any (·.1) = false := by intro env; rfl)
    (he : ∀ env, ∃ pl : Sem Bool, eval (.Call (.Attribute (.Call (.Name "super" p0) [] [] p1) "__init__" ap) (a0 :: args) [] p2) env = (do
      let ov ← attributeBase (.Call (.Name "super" p0) [] [] p1) "__init__" env (eval (.Call (.Name "super" p0) [] [] p1) env)
      standAt ap.atName
      let (f, first) ← holding [ov] (getMethod ov "__init__" pl)
      callWith p2 f first (backTo p2 (starEach (a0 :: args) env)) []) := by intro env; exact ⟨_, rfl⟩)
    (hsw : ∀ env, swapsWith (.Call (.Attribute (.Call (.Name "super" p0) [] [] p1) "__init__" ap) (a0 :: args) [] p2) none p3.line env = pure false := by intro env; rfl) : FnOk P w K mg base CX0 (k + 1) f fd ps sp := by
  obtain ⟨oc, od, kV, doc, pm, an, cda, cc, ct, osl, rfl, lk, hcd, SF⟩ := F.ex
  rw [hb] at lk ⊢
  exact fn_sup lk hcd S har h0 hsu SF F2 hj b2 len (fun A outer s H vs Q E hr hsp => hbody _ A outer s H vs Q E rfl hr hsp) hst hpl he hsw
theorem FunS.binds {P : Program} {K : PySem.W.Frag} {mg : Str → Option Value} {f D : Addr} {x qual : Str} {st : Stmt} {fd : FuncData} {ps : List Str} (F : FunS P K mg D x qual st f fd)
    (h : ∀ (kV doc pm : Value) (an : Option Addr) (cdv ct : Value) (cc : Addr) (us : List Value), us.length = ps.length → bindArgs (PySem.W.ksFn x qual (defArgs st) (defBody st) (defScope st) .none kV doc pm an cdv ct cc) ⟨us, []⟩ = pure (ps.zip us)) : Binds K fd ps [] := by
  obtain ⟨oc, od, kV, doc, pm, an, cda, cc, ct, osl, rfl, lk, hcd, SF⟩ := F.ex
  exact .all (h kV doc pm an (.ref cda) ct cc)
end L2
namespace L2
open PySem PySem.Spec PyProof.Rows
/-- an own special method -/
structure OwnM (K : PySem.W.Frag) (C : Addr) (m : Str) (f : Addr) : Prop where
  at_ : PySem.W.findIn K (.ref C) m = some (some (.ref f))
  fn : PySem.W.isFn K (.ref f) = true
  fi : PySem.W.fnIn K f = true
section
variable {X : Cx} {CX : CXT} {k : Nat} {f C : Addr} {fd : FuncData} {ps : List Str} {sp : Sp} {E : St → XK} {Ec : XK}
/-- the callee runs, somewhere below the running body, with a wish at the slots -/
theorem run_fnAt {pins : List (Addr × Obj)} {σ : L2.St} {H : Hp} {s : Shared} {Q : VK} {us : List Value} {vs : List V} {A : Around} (F : FnOk X.prog X.w X.K X.mg X.base CX k f fd ps sp) (hr : Room k A) (hA : A.frames = X.A.frames) (hb : Binds X.K fd ps []) (hx : PassesAt CX X σ Ec)
    (I : Inv X pins σ H s) (r : Vals vs us) (h : sp vs H Q Ec) : codeAny (model X.prog X.w) A (.call (.ref f) ⟨us, []⟩) (fun r s' => match r with | .error e => X.xe e s' | .ok fl => match fl with | .ret u => EP X pins σ Q u s' | _ => False) s := by
  have e0 : L2.Env0 X.prog X.w X.K X.mg X.base A X.stack s H := by
    have e := I.env0
    exact ⟨by rw [hA]; exact e.frames, e.mod, e.bs, e.bsz, e.funs, e.frf, e.hok, e.bare⟩
  have hl : (us ++ []).length = ps.length := by rw [List.append_nil, ← r.length]; exact F.len _ _ _ _ h
  have hb' := hb s us I.kIn hl
  rw [List.append_nil] at hb'
  refine codeAny_mono (F.run A X.stack s H ⟨us, []⟩ us vs Q Ec hr e0 hb' r h) fun r s' hq => ?_
  cases r with
  | error e => exact hx pins H s e s' I hq
  | ok fl =>
    cases fl with
    | ret u => exact I.after hq
    | next => exact False.elim hq
    | brk => exact False.elim hq
    | cont => exact False.elim hq
theorem call_fnAt {pins : List (Addr × Obj)} {σ : L2.St} {H : Hp} {s : Shared} {Q : VK} {us : List Value} {vs : List V} {A : Around} (F : FnOk X.prog X.w X.K X.mg X.base CX k f fd ps sp) (hr : Room k A) (hA : A.frames = X.A.frames) (hb : Binds X.K fd ps []) (hx : PassesAt CX X σ Ec)
    (I : Inv X pins σ H s) (r : Vals vs us) (h : sp vs H Q Ec) : wpAny (model X.prog X.w) A (call (.ref f) us) (EP X pins σ Q) X.xe s :=
  wpAny_call (codeAny_mono (run_fnAt F hr hA hb hx I r h) fun r s' hq => by
    cases r with
    | error e => exact hq
    | ok fl => cases fl <;> first | exact hq | exact False.elim hq)
def tGetX (C : Addr) (sp : Sp) (E : St → XK) (ta tb : TE) : TE := fun σ H Q => ta σ H fun x H1 => tb σ H1 fun y H2 => ∃ (a dx : Addr) (fs : List (Str × V)), x = .ref a ∧ H2 a = some (.ins C dx fs) ∧ sp [.ref a, y] H2 Q (E σ)
theorem pe_getX {a b : Expr} {ta tb : TE} {pos : Pos} (ha : PE X a ta) (hb : PE X b tb) (hs : PySem.W.findIn X.K (.ref C) "__getitem__" = some (some (.ref f))) (hf : PySem.W.fnIn X.K f = true) (hfn : PySem.W.isFn X.K (.ref f) = true)
    (F : FnOk X.prog X.w X.K X.mg X.base CX k f fd ps sp) (hr : Room k X.A.in1) (hbd : Binds X.K fd ps []) (hx : ∀ σ, PassesAt CX X σ (E σ)) (hA : X.A.in1.frames = X.A.frames := by rfl)
    (hsl : ∀ (x : Addr) (i : Value), subscripted b true (.ref x) i = runValue (.builtin "lifetime.subscript" ⟨[.ref x, i], []⟩) := by intros; with_unfolding_all rfl) : PE X (.Subscript a b pos) (tGetX C sp E ta tb) := by
  refine ⟨fun pins s σ H Q I h => Subscript_ (binT ha hb I h fun v u s2 x y H2 I2 rx ry q => ?_)⟩
  obtain ⟨o, dx, fs, rfl, ho, q⟩ := q
  cases (show v = Value.ref o from rx)
  obtain ⟨mA, O, _⟩ := ins_get I2.hok ho
  obtain ⟨od, J, _⟩ := O.look
  obtain ⟨m, hF⟩ := I2.fr
  exact PySem.W.sub_K hF I2.ok.mod.kin J hs hf hfn (call_fnAt (vs := [.ref o, y]) F hr hA hbd (hx σ) I2 (.cons rfl (.cons ry .nil)) q) (hsl _ _)
/-- .. by values -/
def rGetO (C : Addr) (sp : Sp) (Ec : XK) : V → V → Hp → VK → Prop := fun x y H Q => ∃ (a dx : Addr) (fs : List (Str × V)), x = .ref a ∧ H a = some (.ins C dx fs) ∧ sp [.ref a, y] H Q Ec
theorem get_own (hq : PySem.W.noSeq X.K C = true) (hs : PySem.W.findIn X.K (.ref C) "__getitem__" = some (some (.ref f))) (hfn : PySem.W.isFn X.K (.ref f) = true)
    (F : FnOk X.prog X.w X.K X.mg X.base CX k f fd ps sp) (hr : Room k X.A) (hbd : Binds X.K fd ps []) (hx : ∀ σ, PassesAt CX X σ Ec) : PGet X (rGetO C sp Ec) := by
  intro pins s σ H x y v u Q I rx ry h
  obtain ⟨o, dx, fs, rfl, ho, q⟩ := h
  cases (show v = Value.ref o from rx)
  obtain ⟨mA, O, _⟩ := ins_get I.hok ho
  obtain ⟨od, J, _⟩ := O.look
  obtain ⟨m, hF⟩ := I.fr
  exact PySem.W.getItem_K hF I.ok.mod.kin J hq hs hfn (call_fnAt (vs := [.ref o, y]) F hr rfl hbd (hx σ) I (.cons rfl (.cons ry .nil)) q)
theorem set_run {pins : List (Addr × Obj)} {σ : L2.St} {H : Hp} {s : Shared} {Q : Hp → Prop} {o dx : Addr} {fs : List (Str × V)} {y z : V} {iv u : Value} (hq : PySem.W.noSeq X.K C = true) (hs : PySem.W.findIn X.K (.ref C) "__setitem__" = some (some (.ref f))) (hfn : PySem.W.isFn X.K (.ref f) = true)
    (F : FnOk X.prog X.w X.K X.mg X.base CX k f fd ps sp) (hr : Room k X.A) (hbd : Binds X.K fd ps []) (hx : PassesAt CX X σ Ec) (I : Inv X pins σ H s) (ho : H o = some (.ins C dx fs)) (ry : RelV y iv) (rz : RelV z u) (q : sp [.ref o, y, z] H (fun _ H' => Q H') Ec) :
    wpAny (model X.prog X.w) X.A (setItem (.ref o) iv u) (fun _ s' => ∃ H', Inv X pins σ H' s' ∧ Q H') X.xe s := by
  obtain ⟨mA, O, _⟩ := ins_get I.hok ho
  obtain ⟨od, J, _⟩ := O.look
  obtain ⟨m, hF⟩ := I.fr
  refine PySem.W.ksp_setItem hF I.ok.mod.kin J hq hs hfn (wpAny_mono (call_fnAt (vs := [.ref o, y, z]) F hr rfl hbd hx I (.cons rfl (.cons ry (.cons rz .nil))) q) (fun r s' hq => ?_) fun _ _ e => e)
  obtain ⟨v, H', I', rv, q⟩ := hq
  exact ⟨H', I', q⟩
def rSetO (C : Addr) (sp : Sp) (Ec : XK) : TSet := fun x y z H Q => ∃ (a dx : Addr) (fs : List (Str × V)), x = .ref a ∧ H a = some (.ins C dx fs) ∧ sp [.ref a, y, z] H (fun _ H' => Q H') Ec
theorem set_own (hq : PySem.W.noSeq X.K C = true) (hs : PySem.W.findIn X.K (.ref C) "__setitem__" = some (some (.ref f))) (hfn : PySem.W.isFn X.K (.ref f) = true)
    (F : FnOk X.prog X.w X.K X.mg X.base CX k f fd ps sp) (hr : Room k X.A) (hbd : Binds X.K fd ps []) (hx : ∀ σ, PassesAt CX X σ Ec) : PSet X (rSetO C sp Ec) := by
  intro pins s σ H x y z v iv u Q I rx ry rz h
  obtain ⟨o, dx, fs, rfl, ho, q⟩ := h
  cases (show v = Value.ref o from rx)
  exact set_run hq hs hfn F hr hbd (hx σ) I ho ry rz q
def gSetX (C : Addr) (sp : Sp) (E : St → XK) (to ti : TE) : TG := fun v σ H Q => to σ H fun o H1 => ti σ H1 fun i H2 => ∃ (a dx : Addr) (fs : List (Str × V)), o = .ref a ∧ H2 a = some (.ins C dx fs) ∧ sp [.ref a, i, v] H2 (fun _ H' => Q σ H') (E σ)
theorem pg_setX {o i : Expr} {to ti : TE} {pos : Pos} (ho : PE X o to) (hi : PE X i ti) (hq : PySem.W.noSeq X.K C = true) (hs : PySem.W.findIn X.K (.ref C) "__setitem__" = some (some (.ref f))) (hfn : PySem.W.isFn X.K (.ref f) = true)
    (F : FnOk X.prog X.w X.K X.mg X.base CX k f fd ps sp) (hr : Room k X.A) (hbd : Binds X.K fd ps []) (hx : ∀ σ, PassesAt CX X σ (E σ))
    (ha : ∀ v, assign (.Subscript o i pos) X.env v = (do
      let ov ← holding [v] (eval o X.env)
      let iv ← holding [v, ov] (eval i X.env)
      standAt pos
      holding [v, ov, iv] (setItem ov iv v)
      release [v, ov, iv] []) := by intro _; rfl) : PG X (.Subscript o i pos) (gSetX C sp E to ti) := by
  refine ⟨fun pins s σ H v u Q I r h => ?_⟩
  rw [ha]
  refine wpAny_bind (wpAny_holding (thn (ho.run pins s σ H _ I h) fun ov s1 ⟨x, H1, I1, r1, q1⟩ => ?_))
  refine wpAny_bind (wpAny_holding (thn (hi.run pins s1 σ H1 _ I1 q1) fun iv s2 ⟨y, H2, I2, r2, q2⟩ => ?_))
  obtain ⟨o', dx, fs, rfl, ho', q⟩ := q2
  cases (show ov = Value.ref o' from r1)
  refine wpAny_bind (wpAny_standAt (wpAny_bind (wpAny_holding (thn (set_run (Q := fun H' => Q σ H') hq hs hfn F hr hbd (hx σ) I2 ho' r2 r q) fun _ s3 ⟨H3, I3, q3⟩ => ?_))))
  exact wpAny_release ⟨σ, H3, I3, q3⟩
def rIpO (C : Addr) (sp : Sp) (Ec : XK) : TIp := fun x y H Q => ∃ (a dx : Addr) (fs : List (Str × V)), x = .ref a ∧ H a = some (.ins C dx fs) ∧ sp [.ref a, y] H Q Ec
theorem cmp_back {pins : List (Addr × Obj)} {σ : L2.St} {Q : VK} {u : Value} {s' : Shared} (h : EP X pins σ Q u s') : PySem.W.CmpBack (EP X pins σ Q) u s' := by
  have h2 := h
  obtain ⟨v, H', I, r, q⟩ := h2
  cases u with
  | notImplemented =>
    exfalso
    cases v with
    | int i => obtain ⟨_, z⟩ := (show ∃ t, Value.notImplemented = Value.int i t from r); cases z
    | str i => obtain ⟨_, z⟩ := (show ∃ t, Value.notImplemented = Value.str i t from r); cases z
    | byt i => obtain ⟨_, z⟩ := (show ∃ t, Value.notImplemented = Value.bytes i t from r); cases z
    | flt i => obtain ⟨_, z⟩ := (show ∃ t, Value.notImplemented = Value.float i t from r); cases z
    | _ => cases r
  | _ => exact h
theorem ip_own {op : Operator} (hc : PySem.W.selfFirst X.K C = true) (hs : PySem.W.findIn X.K (.ref C) (dunderI op.info.2) = some (some (.ref f))) (hfn : PySem.W.isFn X.K (.ref f) = true)
    (F : FnOk X.prog X.w X.K X.mg X.base CX k f fd ps sp) (hr : Room k X.A) (hbd : Binds X.K fd ps []) (hx : ∀ σ, PassesAt CX X σ Ec) : PIp X op (rIpO C sp Ec) := by
  intro pins s σ H x y v u Q I rx ry h
  obtain ⟨o, dx, fs, rfl, ho, q⟩ := h
  cases (show v = Value.ref o from rx)
  obtain ⟨mA, O, _⟩ := ins_get I.hok ho
  obtain ⟨od, J, _⟩ := O.look
  obtain ⟨m, hF⟩ := I.fr
  exact PySem.W.ksp_inplace hF I.ok.mod.kin J hc hs hfn (wpAny_mono (call_fnAt (vs := [.ref o, y]) F hr rfl hbd (hx σ) I (.cons rfl (.cons ry .nil)) q) (fun r s' hq => cmp_back hq) fun _ _ e => e)
theorem ins_plain {P : Program} {w : World} {H : Hp} {h : Heap} {a C dx : Addr} {fs : List (Str × V)} (hok : HOk P w H h) (e : H a = some (.ins C dx fs)) : ∃ ox od, PySem.W.InstAt h a ox C od ∧ ox.data = .plain := by
  obtain ⟨mA, O, _⟩ := ins_get hok e
  obtain ⟨od, J, _⟩ := O.look
  exact ⟨_, _, J, rfl⟩
def tCallO (C : Addr) (sp : Sp) (E : St → XK) (te : TE) (t : TA) : TE := fun σ H Q => te σ H fun x H1 => ∃ (a dx : Addr) (fs : List (Str × V)), x = .ref a ∧ H1 a = some (.ins C dx fs) ∧ t σ H1 fun vs H2 => H2 a = some (.ins C dx fs) ∧ sp (.ref a :: vs) H2 Q (E σ)
/-- the callee of a call that is no attribute -/
def Callee (X : Cx) (e : Expr) (args : List Expr) (pos : Pos) : Prop := ∀ {Q : Value → Shared → Prop} {E : Value → Shared → Prop} {s : Shared}, wpAny (model X.prog X.w) X.A (eval e X.env) (fun f s₁ => wpAny (model X.prog X.w) X.A (callWith pos f [] (backTo pos (starEach args X.env)) []) Q E s₁) E s →
  wpAny (model X.prog X.w) X.A (eval (.Call e args [] pos) X.env) Q E s
theorem callee_name {x : Str} {p pos : Pos} {args : List Expr} : Callee X (.Name x p) args pos := fun h => wpAny_Call_Name_kw h
theorem pe_callO0 {e : Expr} {pos : Pos} {te : TE} (hc : Callee X e [] pos) (he : PE X e te) (hs : PySem.W.findIn X.K (.ref C) "__call__" = some (some (.ref f))) (hfn : PySem.W.isFn X.K (.ref f) = true) (hf : PySem.W.fnIn X.K f = true)
    (F : FnOk X.prog X.w X.K X.mg X.base CX k f fd ps sp) (hr : Room k X.A) (hbd : Binds X.K fd ps []) (hx : ∀ σ, PassesAt CX X σ (E σ)) : PE X (.Call e [] [] pos) (tCallO C sp E te tNil) := by
  refine ⟨fun pins s σ H Q I h => hc (thn (he.run pins s σ H _ I h) fun u s1 ⟨x, H1, I1, rx, q⟩ => ?_)⟩
  obtain ⟨o, dx, fs, rfl, ho, _, q⟩ := q
  cases (show u = Value.ref o from rx)
  obtain ⟨ox, od, J, hp⟩ := ins_plain I1.hok ho
  refine PySem.W.kco_callWith0 I1.kIn J hp hs ?_
  exact wpAny_call (codeAny_mono (PySem.W.kco_code I1.kIn J hp hs hfn hf (run_fnAt (vs := [.ref o]) F hr rfl hbd (hx σ) I1 (.cons rfl .nil) q)) fun r s' hq => by
    cases r with
    | error e => exact hq
    | ok fl => cases fl <;> first | exact hq | exact False.elim hq)
end
end L2
namespace L2
open PySem PySem.Spec PyProof.Rows NdefX LamX
/-- a known object of which nothing but the object itself is said -/
abbrev frzO (o : Obj) : HO := .frz o (.own 0)
def lendH (os : Addr → Option Obj) (H : Hp) : Hp := fun b => match os b with
  | some o => some (frzO o)
  | none => H b
def backH (os : Addr → Option Obj) (H : Hp) : Hp := fun b => match os b with
  | some _ => none
  | none => H b
theorem lend_some {os : Addr → Option Obj} {H : Hp} {b : Addr} {o : Obj} (h : os b = some o) : lendH os H b = some (frzO o) := by unfold lendH; rw [h]
theorem lend_none {os : Addr → Option Obj} {H : Hp} {b : Addr} (h : os b = none) : lendH os H b = H b := by unfold lendH; rw [h]
theorem back_some {os : Addr → Option Obj} {H : Hp} {b : Addr} {o : Obj} (h : os b = some o) : backH os H b = none := by unfold backH; rw [h]
theorem back_none {os : Addr → Option Obj} {H : Hp} {b : Addr} (h : os b = none) : backH os H b = H b := by unfold backH; rw [h]
theorem back_lend {os : Addr → Option Obj} {H : Hp} (h : ∀ c o, os c = some o → H c = none) : backH os (lendH os H) = H := by
  funext b
  cases e : os b with
  | none => rw [back_none e, lend_none e]
  | some o => rw [back_some e, h b o e]
theorem lend_back {os : Addr → Option Obj} {H : Hp} (h : ∀ c o, os c = some o → H c = some (frzO o)) : lendH os (backH os H) = H := by
  funext b
  cases e : os b with
  | none => rw [lend_none e, back_none e]
  | some o => rw [lend_some e, h b o e]
section
variable {P : Program} {w : World} {os : Addr → Option Obj} {H H' : Hp} {s s' : Shared} {fs : List Addr} {outer : List Env} {Q : VK} {u : Value}
/-- where the lent things lie -/
structure LentAt (os : Addr → Option Obj) (fs : List Addr) (H : Hp) (h : Heap) : Prop where
  obj : ∀ c o, os c = some o → h.get? c = some o
  free : ∀ c o, os c = some o → H c = none
  fr : ∀ c o, os c = some o → c ∉ fs
theorem HOk.lend {h : Heap} (ok : HOk P w H h) (l : LentAt os fs H h) : HOk P w (lendH os H) h := fun a o e => by
  cases q : os a with
  | some ob =>
    rw [lend_some q] at e
    cases e
    exact ⟨l.obj a ob q, ob, l.obj a ob q⟩
  | none =>
    rw [lend_none q] at e
    have st : ∀ b o, H b = some o → lendH os H b = some o := fun b o hb => by
      cases qb : os b with
      | none => rw [lend_none qb]; exact hb
      | some ob => rw [l.free b ob qb] at hb; cases hb
    exact (ok a o e).stay (fun b u _ z => z) (fun b z => st b _ z) fun b xs z => st b _ z
theorem HOk.back {h : Heap} (ok : HOk P w H h) (hf : ∀ c o, os c = some o → H c = some (frzO o)) : HOk P w (backH os H) h := fun a o e => by
  cases q : os a with
  | some ob => rw [back_some q] at e; cases e
  | none =>
    rw [back_none q] at e
    have st : ∀ b o, H b = some o → (∀ ob, o ≠ frzO ob) → backH os H b = some o := fun b o hb n => by
      cases qb : os b with
      | none => rw [back_none qb]; exact hb
      | some ob => rw [hf b ob qb] at hb; cases hb; exact absurd rfl (n ob)
    exact (ok a o e).stay (fun b u _ z => z) (fun b z => st b _ z (by intro ob z; cases z)) fun b xs z => st b _ z (by intro ob z; cases z)
/-- a call with lent things ends: they are taken back -/
theorem CE.back (l : LentAt os (frs outer) H s.heap) (h : CE outer P w (lendH os H) s (fun v H' => (∀ c o, os c = some o → H' c = some (frzO o)) → Q v (backH os H')) u s') : CE outer P w H s Q u s' := by
  obtain ⟨v, H1, os', bare, un, hok, r, q⟩ := h
  have hf : ∀ c o, os c = some o → H1 c = some (frzO o) := fun c o e => un.frzs c o _ (lend_some e)
  refine ⟨v, backH os H1, os', bare, ⟨fun b o e n nf nx => ?_, fun b o e n nf nx => ?_, fun b o e n nx => ?_, un.there, fun b xs e => ?_, fun b o u e => ?_, fun b ps e => ?_⟩, HOk.back hok hf, r, q hf⟩
  · cases qb : os b with
    | none => exact un.keep b o e (by rw [lend_none qb]; exact n) nf nx
    | some ob =>
      have e2 := l.obj b ob qb
      rw [e] at e2
      cases e2
      exact (hok b _ (hf b o qb)).1
  · cases qb : os b with
    | none => exact un.slot b o e (by rw [lend_none qb]; exact n) nf nx
    | some ob => exact absurd nf (l.fr b ob qb)
  · cases qb : os b with
    | none => rw [back_none qb]; exact un.free b o e (by rw [lend_none qb]; exact n) nx
    | some ob => exact back_some qb
  · cases qb : os b with
    | none => rw [back_none qb]; exact un.tups b xs (by rw [lend_none qb]; exact e)
    | some ob => rw [l.free b ob qb] at e; cases e
  · cases qb : os b with
    | none => rw [back_none qb]; exact un.frzs b o u (by rw [lend_none qb]; exact e)
    | some ob => rw [l.free b ob qb] at e; cases e
  · cases qb : os b with
    | none =>
      obtain ⟨more, z⟩ := un.tbls b ps (by rw [lend_none qb]; exact e)
      exact ⟨more, by rw [back_none qb]; exact z⟩
    | some ob => rw [l.free b ob qb] at e; cases e
/-- a call from a frame that has the things as its own: seen from where they are lent -/
theorem CE.lend (hf : ∀ c o, os c = some o → H c = some (frzO o)) (ok : HOk P w H s.heap) (nf : ∀ c o, os c = some o → c ∉ frs outer) (h : CE outer P w (backH os H) s (fun v H' => Q v (lendH os H')) u s') : CE outer P w H s Q u s' := by
  obtain ⟨v, H1, os', bare, un, hok, r, q⟩ := h
  have ob0 : ∀ c o, os c = some o → s.heap.get? c = some o := fun c o e => (ok c _ (hf c o e)).1
  have ob1 : ∀ c o, os c = some o → s'.heap.get? c = some o := fun c o e => un.keep c o (ob0 c o e) (back_some e) (nf c o e) (by simp)
  have fr1 : ∀ c o, os c = some o → H1 c = none := fun c o e => un.free c o (ob0 c o e) (back_some e) (by simp)
  refine ⟨v, lendH os H1, os', bare, ⟨fun b o e n nf nx => ?_, fun b o e n nf nx => ?_, fun b o e n nx => ?_, un.there, fun b xs e => ?_, fun b o u e => ?_, fun b ps e => ?_⟩, HOk.lend (fs := []) hok ⟨ob1, fr1, fun _ _ _ z => by cases z⟩, r, q⟩
  · cases qb : os b with
    | none => exact un.keep b o e (by rw [back_none qb]; exact n) nf nx
    | some ob => rw [hf b ob qb] at n; cases n
  · cases qb : os b with
    | none => exact un.slot b o e (by rw [back_none qb]; exact n) nf nx
    | some ob => rw [hf b ob qb] at n; cases n
  · cases qb : os b with
    | none => rw [lend_none qb]; exact un.free b o e (by rw [back_none qb]; exact n) nx
    | some ob => rw [hf b ob qb] at n; cases n
  · cases qb : os b with
    | none => rw [lend_none qb]; exact un.tups b xs (by rw [back_none qb]; exact e)
    | some ob => rw [hf b ob qb] at e; cases e
  · cases qb : os b with
    | none => rw [lend_none qb]; exact un.frzs b o u (by rw [back_none qb]; exact e)
    | some ob =>
      rw [hf b ob qb] at e
      cases e
      exact lend_some qb
  · cases qb : os b with
    | none =>
      obtain ⟨more, z⟩ := un.tbls b ps (by rw [back_none qb]; exact e)
      exact ⟨more, by rw [lend_none qb]; exact z⟩
    | some ob => rw [hf b ob qb] at e; cases e
end
structure LentO (X : Cx) (σ : St) (os : Addr → Option Obj) : Prop where
  all : ∀ y c, X.env.cells.lookup y = some c → ∃ o, os c = some o
  only : ∀ c o, os c = some o → ∃ y, X.env.cells.lookup y = some c
  val : ∀ (i : Nat) (y : Str) (c : Addr) (v : V), X.N[i]? = some y → σ[i]? = some (some v) → X.env.cells.lookup y = some c → (X.env.scope.names.lookup y = some .cell ∨ X.env.scope.names.lookup y = some .free) → ∃ o u, os c = some o ∧ o.data = .cell (some u) ∧ RelV v u
  old : ∀ c o, os c = some o → ∀ o0, X.s_0.heap.get? c = some o0 → X.H_0 c = none → c ∉ X.ex → o0 = o
section
variable {X : Cx} {pins : List (Addr × Obj)} {σ : St} {H : Hp} {s : Shared}
open Classical in
theorem lend_ex (I : Inv X pins σ H s) (hc : ∀ y c, X.env.cells.lookup y = some c → X.base.get? c = none ∧ c ∉ X.fs) :
    ∃ os, LentO X σ os ∧ LentAt os (frs X.stack) H s.heap ∧ Env0 X.prog X.w X.K X.mg X.base X.A X.stack s (lendH os H) := by
  let os : Addr → Option Obj := fun c => if (∃ y, X.env.cells.lookup y = some c) then s.heap.get? c else none
  have at_ : ∀ {y c}, X.env.cells.lookup y = some c → os c = s.heap.get? c := fun {y c} e => if_pos ⟨y, e⟩
  have of_ : ∀ {c o}, os c = some o → (∃ y, X.env.cells.lookup y = some c) ∧ s.heap.get? c = some o := fun {c o} e => by
    by_cases h : ∃ y, X.env.cells.lookup y = some c
    · exact ⟨h, by rw [← (show os c = s.heap.get? c from if_pos h)]; exact e⟩
    · rw [show os c = none from if_neg h] at e; cases e
  have LA : LentAt os (frs X.stack) H s.heap := ⟨fun c o e => (of_ e).2, fun c o e => by
    obtain ⟨⟨y, hy⟩, _⟩ := of_ e
    exact I.freeC y c hy, fun c o e hm => by
    obtain ⟨⟨y, hy⟩, _⟩ := of_ e
    rcases List.mem_cons.mp (I.stkSub c hm) with z | z
    · exact I.cne y c hy z
    · exact (hc y c hy).2 z⟩
  refine ⟨os, ⟨fun y c e => ?_, fun c o e => (of_ e).1, fun i y c v h1 h2 h3 h4 => ?_, fun c o e o0 e0 n0 nx => ?_⟩, LA, ?_⟩
  · obtain ⟨v, o, ho, _⟩ := I.cell y c e
    exact ⟨o, by rw [at_ e]; exact ho⟩
  · obtain ⟨m, hn, hl⟩ := I.loc
    obtain ⟨u, r, l⟩ := hl i y v h1 h2 (h4.elim (fun z => .inr (.inl z)) fun z => .inr (.inr z))
    rcases l with ⟨z, _⟩ | ⟨_, a', ha', o, ho, hd⟩
    · have z' : X.env.scope.names.lookup y = some .local := z
      rcases h4 with k | k <;> rw [k] at z' <;> cases z'
    · rw [h3] at ha'
      cases ha'
      exact ⟨o, u, by rw [at_ h3]; exact ho, hd, r⟩
  · obtain ⟨⟨y, hy⟩, e1⟩ := of_ e
    have := I.base.keep c o0 e0 n0 (hc y c hy).2 nx
    rw [e1] at this
    exact (Option.some.inj this).symm
  · have e := I.env0
    have nos : ∀ {b}, (∀ y, X.env.cells.lookup y ≠ some b) → os b = none := fun {b} h => if_neg fun ⟨y, hy⟩ => h y hy
    exact ⟨e.frames, e.mod, fun b o hb => ⟨(e.bs b o hb).1, by
      rw [lend_none (nos fun y hy => by rw [(hc y b hy).1] at hb; cases hb)]
      exact (e.bs b o hb).2⟩, e.bsz, e.funs, fun b hb => by
      cases q : os b with
      | none => rw [lend_none q]; exact e.frf b hb
      | some o => exact absurd hb (LA.fr b o q), HOk.lend e.hok LA, e.bare⟩
/-- what is asked of a call that is made with the running frame's cells lent -/
def lentS (X : Cx) (σ : St) (sp : Sp) (vs : List V) (H : Hp) (Q : VK) : Prop := ∀ os, LentO X σ os → (∀ c o, os c = some o → H c = none) → sp vs (lendH os H) (fun v H' => (∀ c o, os c = some o → H' c = some (frzO o)) → Q v (backH os H')) fun _ _ _ => False
/-- the cells of the running frame are its own -/
def OwnC (X : Cx) : Prop := ∀ y c, X.env.cells.lookup y = some c → X.base.get? c = none ∧ c ∉ X.fs
theorem own_cx (ok : X.Ok) (hf : ∀ x, X.fn x = true) : OwnC X := fun y c e => by
  have h := ok.cab y c (hf y) e
  exact ⟨Heap.get?_none_of_le (Nat.le_trans ok.bsz h), fun hb => by
    obtain ⟨_, o, ho, _⟩ := ok.funs.mem hb
    exact absurd (Nat.lt_of_lt_of_le (Heap.lt_size ho) h) (Nat.lt_irrefl _)⟩
variable {k : Nat} {f C : Addr} {fd : FuncData} {ps : List Str} {sp : Sp} {Q : VK}
theorem run_fnL {us : List Value} {vs : List V} (F : FnOk X.prog X.w X.K X.mg X.base CX0 k f fd ps sp) (hr : Room k X.A) (hb : Binds X.K fd ps []) (hc : X.Ok → OwnC X) (I : Inv X pins σ H s) (r : Vals vs us) (h : lentS X σ sp vs H Q) :
    codeAny (model X.prog X.w) X.A (.call (.ref f) ⟨us, []⟩) (fun r s' => match r with | .error e => X.xe e s' | .ok fl => match fl with | .ret u => EP X pins σ Q u s' | _ => False) s := by
  obtain ⟨os, lo, la, e0⟩ := lend_ex I (hc I.ok)
  have hs := h os lo la.free
  have hl : (us ++ []).length = ps.length := by rw [List.append_nil, ← r.length]; exact F.len _ _ _ _ hs
  have hb' := hb s us I.kIn hl
  rw [List.append_nil] at hb'
  refine codeAny_mono (F.run X.A X.stack s _ ⟨us, []⟩ us vs _ _ hr e0 hb' r hs) fun r s' hq => ?_
  cases r with
  | error e => exact False.elim hq
  | ok fl =>
    cases fl with
    | ret u => exact I.after (CE.back la hq)
    | next => exact False.elim hq
    | brk => exact False.elim hq
    | cont => exact False.elim hq
theorem call_fnL {us : List Value} {vs : List V} (F : FnOk X.prog X.w X.K X.mg X.base CX0 k f fd ps sp) (hr : Room k X.A) (hb : Binds X.K fd ps []) (hc : X.Ok → OwnC X) (I : Inv X pins σ H s) (r : Vals vs us) (h : lentS X σ sp vs H Q) :
    wpAny (model X.prog X.w) X.A (call (.ref f) us) (EP X pins σ Q) X.xe s :=
  wpAny_call (codeAny_mono (run_fnL F hr hb hc I r h) fun r s' hq => by
    cases r with
    | error e => exact hq
    | ok fl => cases fl <;> first | exact hq | exact False.elim hq)
variable {x : Str} {p pos apos : Pos} {o e : Expr} {es : List Expr} {ta te : TE} {t : TA} {m : Str}
/-- g(e, ..) with the cells lent -/
def tCallLent (X : Cx) (sp : Sp) (t : TA) : TE := fun σ H Q => t σ H fun vs H1 => lentS X σ sp vs H1 Q
theorem pe_callLent (F : FnOk X.prog X.w X.K X.mg X.base CX0 k f fd ps sp) (hr : Room k X.A) (hc : X.Ok → OwnC X) (hg : Gl X x) (hm : X.mg x = some (.ref f)) (hk : PySem.W.keepIn X.K (.ref f) = true) (hb : Binds X.K fd ps []) (ha : PA X (e :: es) t)
    (hdb : (x == ("__debug__" : Str)) = false := by decide) (he : starEach (e :: es) X.env = (false, eval e X.env) :: starEach es X.env := by rfl) (hpl : (backTo pos (starEach es X.env)).any (·.1) = false := by rfl) :
    PE X (.Call (.Name x p) (e :: es) [] pos) (tCallLent X sp t) := by
  refine ⟨fun pins s σ H Q I h => ?_⟩
  refine wpAny_Call_Name_kw (ld_glob I hg hm ?_ hdb)
  refine PySem.W.callWith_K (first := []) (h₀ := X.base) I.ok.mod.kin hk (thn (ha.run pos pins s σ H _ I h) fun us s2 ⟨vs, H2, I2, r, q2⟩ => ⟨I2.kIn, ?_⟩) he hpl
  exact call_fnL (us := us) (vs := vs) F hr hb hc I2 r q2
/-- o.m(e, ..) with the cells lent -/
def tMethL (X : Cx) (C : Addr) (m : Str) (sp : Sp) (ta : TE) (t : TA) : TE := fun σ H Q => ta σ H fun x H1 => ∃ a dx fs, x = .ref a ∧ H1 a = some (.ins C dx fs) ∧ fs.lookup m = none ∧ t σ H1 fun vs H2 => lentS X σ sp (x :: vs) H2 Q
theorem pe_methL {pl : Sem Bool} (he : PE X o ta) (c : Cls X.K C) (hm : Meth X.K C m f) (F : FnOk X.prog X.w X.K X.mg X.base CX0 k f fd ps sp) (hr : Room k X.A) (hc : X.Ok → OwnC X) (hb : Binds X.K fd ps []) (ha : PA X (e :: es) t)
    (hst : starEach (e :: es) X.env = (false, eval e X.env) :: starEach es X.env := by rfl) (hpl : (backTo pos (starEach es X.env)).any (·.1) = false := by rfl)
    (ht : eval (.Call (.Attribute o m apos) (e :: es) [] pos) X.env = (do
      let ov ← eval o X.env
      standAt apos.atName
      let (f, first) ← holding [ov] (getMethod ov m pl)
      callWith pos f first (backTo pos (starEach (e :: es) X.env)) (backToKw pos (keywordEach [] X.env))) := by rfl) :
    PE X (.Call (.Attribute o m apos) (e :: es) [] pos) (tMethL X C m sp ta t) := by
  refine ⟨fun pins s σ H Q I h => ?_⟩
  refine PySem.W.methodCall_KW (pl := pl) (thn (he.run pins s σ H _ I h) fun u s1 ⟨x, H1, I1, rx, a, dx, fs, ex, ea, l, q⟩ => ?_) ht
  subst ex
  obtain rfl : u = Value.ref a := rx
  refine getmeth_ok I1 ea c hm l ?_
  refine PySem.W.callWith_K (first := [.ref a]) (h₀ := X.base) I.ok.mod.kin hm.kp (thn (ha.run pos pins s1 σ H1 _ I1 q) fun us s2 ⟨vs, H2, I2, r, q2⟩ => ⟨I2.kIn, ?_⟩) hst hpl
  exact call_fnL (us := .ref a :: us) (vs := .ref a :: vs) F hr hb hc I2 (.cons rfl r) q2
theorem pe_meth0L {pl : Sem Bool} (he : PE X o ta) (c : Cls X.K C) (hm : Meth X.K C m f) (F : FnOk X.prog X.w X.K X.mg X.base CX0 k f fd ps sp) (hr : Room k X.A) (hc : X.Ok → OwnC X) (hb : Binds X.K fd ps [])
    (ht : eval (.Call (.Attribute o m apos) [] [] pos) X.env = (do
      let ov ← eval o X.env
      standAt apos.atName
      let (f, first) ← holding [ov] (getMethod ov m pl)
      callWith pos f first (backTo pos (starEach [] X.env)) (backToKw pos (keywordEach [] X.env))) := by rfl) :
    PE X (.Call (.Attribute o m apos) [] [] pos) (tMethL X C m sp ta tNil) := by
  refine ⟨fun pins s σ H Q I h => ?_⟩
  refine PySem.W.methodCall_KW (pl := pl) (thn (he.run pins s σ H _ I h) fun u s1 ⟨x, H1, I1, rx, a, dx, fs, ex, ea, l, q⟩ => ?_) ht
  subst ex
  obtain rfl : u = Value.ref a := rx
  refine getmeth_ok I1 ea c hm l ?_
  refine PySem.W.callWith_K0 (first := [.ref a]) I1.kIn hm.kp ?_
  exact call_fnL (us := [.ref a]) (vs := [.ref a]) F hr hb hc I1 (.cons rfl .nil) q
end
end L2
set_option maxHeartbeats 2000000
namespace L2
open PySem PySem.Spec PyProof.Rows NdefX LamX
section
variable {X : Cx} {pins : List (Addr × Obj)} {σ : St} {H : Hp} {s : Shared}
theorem inv_frz {o : Obj} {t' : Nat} (I : Inv X pins σ H s) (hfd : o.isFreed = false := by rfl) : Inv X pins σ (upd H s.heap.objs.size (frzO o)) { s with heap := s.heap.push o, toks := t' } := by
  have e : (s.heap.push o).get? s.heap.objs.size = some o := Heap.get?_push_size _ hfd
  exact I.laid (a := s.heap.objs.size) (fun b u e => Heap.get?_push_of_some _ e) (Nat.le_refl _) ⟨e, o, e⟩
theorem lam_makeF {T : List (Addr × Str)} {c P : Addr} {params : Arguments} {body : Expr} {scope : Scope} {pos : Pos} {E : Value → Shared → Prop} {Q : Value → Shared → Prop} (I : Inv X pins σ H s) (TB : TabB X.base X.mg c P) (hcode : X.env.code = .ref c)
    (hm : (P, X.env.qual ++ "<lambda>") ∈ T) (hu : ∀ p ∈ T, p.1 = P → p.2 = X.env.qual ++ "<lambda>") (hT : Tabs T H) (hdef : defaultsOf params X.env = ([], [])) (hfree : ∀ y ∈ scope.names, y.2 = .free → ∃ c, X.env.cells.lookup y.1 = some c)
    (h : ∀ (f c' : Addr) (pm ctv : Value) (H1 : Hp) (s' : Shared), Inv X pins σ H1 s' → ExtN H H1 → (∀ b, H1 b = Option.none → H b = Option.none) → Tabs T H1 → H f = none →
      H1 f = some (frzO (PySem.W.kla_obj "<lambda>" (X.env.qual ++ "<lambda>") params body scope (cloFrom X.env.cells scope.names []) pm c' ctv)) → H1 c' = some (CodeO c' (X.env.qual ++ "<lambda>")) → Q (.ref f) s') :
    wpAny (model X.prog X.w) X.A (eval (.Lambda params body scope pos) X.env) Q E s := by
  obtain ⟨ps, hP, ht, ha⟩ := hT _ hm
  refine PySem.W.kla_eval hdef ?_
  have bP : s.heap.BuiltinsAt X.mg P := TB.bm.keeps I.bk
  have hP' : s.heap.get? P = some { cls := .none, data := .fields ps } := I.hok P _ hP
  cases hc : codeAmong pos ps.toList with
  | none =>
    refine PySem.W.kla_makeFunction (mg := X.mg) (c := c) (P := P) (ps := ps) (closure_ok hfree) I.ok.glob (I.mod.glob.keeps I.bk) hcode (TB.code.keeps I.bk) hP' ht hc TB.gP bP fun c' ctv h' tk hx hge hlt hrec htb => ?_
    obtain ⟨c2, oc, vs, t, e2, hoc, hd, hv⟩ := hrec
    cases e2
    have nC : H c' = none := I.hok.fresh hge
    have I1 := inv_table (t' := tk) (more := #[rawInt pos.line, rawInt pos.col, .ref c']) (h' := h') I hP (fun b o hb e => hx b o hb e) htb hge ⟨oc, vs, t, hoc, hd, hv⟩
    have hE : ExtN H (upd (upd H P (.tbl (ps ++ #[rawInt pos.line, rawInt pos.col, .ref c']))) c' (CodeO c' (X.env.qual ++ "<lambda>"))) := fun b o e n => by
      rw [upd_ne (ne_of_none e nC), upd_ne (fun z => n ps (Option.some.inj (e.symm.trans (by rw [z]; exact hP))))]
      exact e
    have eL : (ps ++ #[rawInt pos.line, rawInt pos.col, .ref c']).toList = ps.toList ++ [rawInt pos.line, rawInt pos.col, .ref c'] := by simp
    have T1 : Tabs T (upd (upd H P (.tbl (ps ++ #[rawInt pos.line, rawInt pos.col, .ref c']))) c' (CodeO c' (X.env.qual ++ "<lambda>"))) := fun p hp => by
      by_cases hb : p.1 = P
      · rw [hu p hp hb, hb]
        refine ⟨_, by rw [upd_ne (ne_of_none hP nC), upd_same], by rw [eL]; exact PySem.TriplesOk_snoc _ _ _ _ ht, fun p' cv hcv => ?_⟩
        rw [eL] at hcv
        rcases among_app _ ht hcv with z | z
        · obtain ⟨c0, e1, e2⟩ := ha p' cv z
          exact ⟨c0, e1, hE _ _ e2 codeO_ne⟩
        · exact ⟨c', z, upd_same⟩
      · obtain ⟨ps', a1, a2, a3⟩ := hT p hp
        refine ⟨ps', by rw [upd_ne (ne_of_none a1 nC), upd_ne hb]; exact a1, a2, fun p' cv hcv => ?_⟩
        obtain ⟨c0, e1, e2⟩ := a3 p' cv hcv
        exact ⟨c0, e1, hE _ _ e2 codeO_ne⟩
    have nF := I1.hok.fresh (Nat.le_refl _)
    have I2 := inv_frz (t' := tk) (o := PySem.W.kla_obj "<lambda>" (X.env.qual ++ "<lambda>") params body scope (cloFrom X.env.cells scope.names []) ((X.mg "__name__").getD .none) c' ctv) I1
    refine h h'.objs.size c' _ ctv _ _ I2 (fun b o e n => ?_) (fun b e => upd_none (upd_none (upd_none e))) (T1.ext fun b o e => ?_) (I.hok.fresh (Nat.le_trans hge (Nat.le_of_lt hlt))) upd_same ?_
    · have e1 := hE b o e n
      exact (upd_ne (ne_of_none e1 nF)).trans e1
    · exact (upd_ne (ne_of_none e nF)).trans e
    · exact (upd_ne (Nat.ne_of_lt hlt)).trans upd_same
  | some cv =>
    obtain ⟨c', e, hco⟩ := ha pos cv hc
    subst e
    refine PySem.W.kla_makeFunctionHit (mg := X.mg) (c := c) (P := P) (ps := ps) (closure_ok hfree) I.ok.glob (I.mod.glob.keeps I.bk) hcode (TB.code.keeps I.bk) hP' ht hc bP fun ctv h' tk hx hsz => ?_
    have I1 : Inv X pins σ H { s with heap := h', toks := tk } := I.kept hx
    have nF : H h'.objs.size = none := I1.hok.fresh (Nat.le_refl _)
    have I2 := inv_frz (t' := tk) (o := PySem.W.kla_obj "<lambda>" (X.env.qual ++ "<lambda>") params body scope (cloFrom X.env.cells scope.names []) ((X.mg "__name__").getD .none) c' ctv) I1
    refine h h'.objs.size c' _ ctv _ _ I2 (fun b o e n => ?_) (fun b e => upd_none e) (hT.ext fun b o e => ?_) nF upd_same ?_
    · exact (upd_ne (ne_of_none e nF)).trans e
    · exact (upd_ne (ne_of_none e nF)).trans e
    · exact (upd_ne (ne_of_none hco nF)).trans hco
/-- a lambda as a value -/
def tLamF (X : Cx) (T : List (Addr × Str)) (params : Arguments) (body : Expr) (scope : Scope) : TE := fun σ H Q => Tabs T H ∧ ∀ (f c' : Addr) (pm ctv : Value) (H1 : Hp), ExtN H H1 → (∀ b, H1 b = Option.none → H b = Option.none) → Tabs T H1 → H f = none →
  H1 f = some (frzO (PySem.W.kla_obj "<lambda>" (X.env.qual ++ "<lambda>") params body scope (cloFrom X.env.cells scope.names []) pm c' ctv)) → H1 c' = some (CodeO c' (X.env.qual ++ "<lambda>")) → Q (.ref f) H1
theorem pe_lamF {T : List (Addr × Str)} {c P : Addr} {params : Arguments} {body : Expr} {scope : Scope} {pos : Pos} (TB : TabB X.base X.mg c P) (hcode : X.env.code = .ref c)
    (hm : (P, X.env.qual ++ "<lambda>") ∈ T) (hu : ∀ p ∈ T, p.1 = P → p.2 = X.env.qual ++ "<lambda>") (L : LamS X.env.scope scope) (hdef : defaultsOf params X.env = ([], []) := by rfl) : PE X (.Lambda params body scope pos) (tLamF X T params body scope) :=
  ⟨fun pins s σ H Q I h => lam_makeF I TB hcode hm hu h.1 hdef (L.has I.ok) fun f c' pm ctv H1 s' I1 e1 e2 e3 e4 e5 e6 => ⟨.ref f, H1, I1, rfl, h.2 f c' pm ctv H1 e1 e2 e3 e4 e5 e6⟩⟩
end
/-- the captured names' cells, known objects of H -/
structure CellsF (cl : List (Str × Addr)) (fr : List Str) (ws : List V) (os : Addr → Option Obj) (H : Hp) : Prop where
  len : ws.length = fr.length
  dom : ∀ y c, cl.lookup y = some c → ∃ o, os c = some o
  frz : ∀ c o, os c = some o → H c = some (frzO o) ∧ (∃ u, o.data = .cell u) ∧ ∃ y, cl.lookup y = some c
  inj : ∀ x y c, cl.lookup x = some c → cl.lookup y = some c → x = y
  has : ∀ (i : Nat) (y : Str), fr[i]? = some y → ∃ c, cl.lookup y = some c ∧ ∀ v, ws[i]? = some v → ∃ o u, os c = some o ∧ o.data = .cell (some u) ∧ RelV v u
section
variable {P : Program} {w : World} {K : PySem.W.Frag} {mg : Str → Option Value} {base : Heap} {N fr : List Str} {F : NF} {k : Nat} {params : Arguments} {body : Expr} {te : Cx → TE} {A : Around} {outer : List Env} {s : Shared} {H : Hp} {f : Addr} {pm ctv : Value} {Q : VK} {ws : List V} {os : Addr → Option Obj}
theorem Env0.back (e : Env0 P w K mg base A outer s H) (hf : ∀ c o, os c = some o → H c = some (frzO o)) : Env0 P w K mg base A outer s (backH os H) :=
  ⟨e.frames, e.mod, fun b o hb => ⟨(e.bs b o hb).1, by
    cases q : os b with
    | none => rw [back_none q]; exact (e.bs b o hb).2
    | some ob => exact back_some q⟩, e.bsz, e.funs, fun b hb => by
    cases q : os b with
    | none => rw [back_none q]; exact e.frf b hb
    | some ob => exact back_some q, HOk.back e.hok hf, e.bare⟩
theorem lam_run (S : NScope N [] fr F.scope) (hbind : ∀ pm ctv, bindArgs (PySem.W.kla_fn "<lambda>" F.qual params body F.scope F.cl pm (.ref F.c) ctv) ⟨[], []⟩ = pure [])
    (hbody : ∀ (f : Addr) (A : Around) (outer : List Env) (s : Shared) (H : Hp) (E : XK), Room k (A.deeper (envF F f s.heap.objs.size)) → OwnC (ncx CX0 P w K mg base N F f A outer s H E) → PE (ncx CX0 P w K mg base N F f A outer s H E) body (te (ncx CX0 P w K mg base N F f A outer s H E)))
    (hr : Room (k + 1) A) (e0 : Env0 P w K mg base A outer s H) (hf : H f = some (frzO (PySem.W.kla_obj "<lambda>" F.qual params body F.scope F.cl pm F.c ctv))) (hcd : H F.c = some (CodeO F.c F.qual)) (C : CellsF F.cl fr ws os H)
    (q : te (ncx CX0 P w K mg base N F f A outer s (backH os H) E0) (startF N [] (ws.map some)) (backH os H) fun v H' => Q v (lendH os H')) : codeAny (model P w) A (.call (.ref f) ⟨[], []⟩) (CR CX0 outer P w H s Q E0) s := by
  have lim : s.heap.NoLimit := e0.mod.nolimit.keeps fun b o e => (e0.bs b o e).1
  have hfr : ∀ c o, os c = some o → H c = some (frzO o) := fun c o e => (C.frz c o e).1
  have eB := e0.back hfr
  have ob0 : ∀ c o, os c = some o → s.heap.get? c = some o := fun c o e => (e0.hok c _ (hfr c o e)).1
  have nf : ∀ c o, os c = some o → c ∉ frs outer := fun c o e hb => by have := e0.frf c hb; rw [hfr c o e] at this; cases this
  have CA : CellsAt F.cl fr (ws.map some) s.heap (backH os H) := by
    refine ⟨by rw [List.length_map, C.len], fun y c e => ?_, C.inj, fun i y e => ?_⟩
    · obtain ⟨o, ho⟩ := C.dom y c e
      obtain ⟨_, ⟨u, hu⟩, _⟩ := C.frz c o ho
      exact ⟨back_some ho, u, o, ob0 c o ho, hu⟩
    · obtain ⟨c, hc, hv⟩ := C.has i y e
      refine ⟨c, hc, fun v ev => ?_⟩
      rw [List.getElem?_map] at ev
      cases ew : ws[i]? with
      | none => rw [ew] at ev; cases ev
      | some v' =>
        rw [ew] at ev
        cases ev
        obtain ⟨o, u, ho, hd, r⟩ := hv v ew
        exact ⟨u, r, o, ob0 c o ho, hd⟩
  have hobj := (e0.hok f _ hf).1
  have own : OwnC (ncx CX0 P w K mg base N F f A outer s (backH os H) E0) := fun y c hy => by
    obtain ⟨o, ho⟩ := C.dom y c hy
    refine ⟨?_, nf c o ho⟩
    show base.get? c = none
    cases hb : base.get? c with
    | none => rfl
    | some o' =>
      have := (e0.bs c o' hb).2
      rw [hfr c o ho] at this
      cases this
  have rc : codeAny (model P w) A (.call (.ref f) ⟨[], []⟩) (CR CX0 outer P w (backH os H) s (fun v H' => Q v (lendH os H')) E0) s := by
    refine PySem.W.kla_callFunE hr.depth hobj rfl S.co S.gen rfl (codeO_at e0.hok hcd) ?_
    rw [hbind pm ctv]
    refine wpAny_pure (wpAny_newFunctionEnv S.nocell (fun y hy => absurd hy (by simp)) (fun h₁ hns hsb => ⟨lim.fresh _ hsb, ?_⟩) S.kind)
    show codeAny _ _ (.expr body (envF F f s.heap.objs.size)) _ _
    have kp : ∀ b o, s.heap.get? b = some o → h₁.get? b = some o := fun b o e => hsb.extBut b o (Nat.ne_of_lt (Heap.lt_size e)) (Heap.get?_push_of_some _ e)
    have I : Inv (ncx CX0 P w K mg base N F f A outer s (backH os H) E0) [] (startF N [] (ws.map some)) (backH os H) { s with heap := h₁, toks := s.toks + (([] : List Str).zip ([] : List Value)).length } := inv_startN (ps := []) (us := []) (vs := []) S hr.hd eB rfl .nil CA hns kp
    refine PySem.W.kla_codeExpr (wpAny_mono ((hbody f A outer s (backH os H) E0 (hr.deeper _) own).run [] _ _ _ _ I q) (fun v s' hq => ?_) fun e s' hq => hq)
    obtain ⟨w', H', J', rv, q⟩ := hq
    exact ⟨w', H', J'.os, J'.bare, J'.base, J'.hok, rv, q⟩
  refine codeAny_mono rc fun r s' hq => ?_
  cases r with
  | error e => exact hq
  | ok fl =>
    cases fl with
    | ret u => exact CE.lend hfr e0.hok nf hq
    | next => exact hq
    | brk => exact hq
    | cont => exact hq
/-- «lambda: g(e, ..)», the values of the e's known: it promises what g does -/
theorem lam_call {sp : Sp} {vs : List V} {t : TA} (S : NScope N [] fr F.scope) (hbind : ∀ pm ctv, bindArgs (PySem.W.kla_fn "<lambda>" F.qual params body F.scope F.cl pm (.ref F.c) ctv) ⟨[], []⟩ = pure [])
    (hbody : ∀ (f : Addr) (A : Around) (outer : List Env) (s : Shared) (H : Hp) (E : XK), Room k (A.deeper (envF F f s.heap.objs.size)) → OwnC (ncx CX0 P w K mg base N F f A outer s H E) → PE (ncx CX0 P w K mg base N F f A outer s H E) body (tCallLent (ncx CX0 P w K mg base N F f A outer s H E) sp t))
    (hmono : ∀ (H : Hp) (Q Q' : VK), (∀ v H', Q v H' → Q' v H') → sp vs H Q E0 → sp vs H Q' E0)
    (hr : Room (k + 1) A) (e0 : Env0 P w K mg base A outer s H) (hf : H f = some (frzO (PySem.W.kla_obj "<lambda>" F.qual params body F.scope F.cl pm F.c ctv))) (hcd : H F.c = some (CodeO F.c F.qual)) (C : CellsF F.cl fr ws os H)
    (ht : ∀ (H : Hp) (Q : List V → Hp → Prop), Q vs H → t (startF N [] (ws.map some)) H Q) (q : sp vs H Q E0) : codeAny (model P w) A (.call (.ref f) ⟨[], []⟩) (CR CX0 outer P w H s Q E0) s := by
  have hfr : ∀ c o, os c = some o → H c = some (frzO o) := fun c o e => (C.frz c o e).1
  refine lam_run (te := fun X => tCallLent X sp t) S hbind hbody hr e0 hf hcd C ?_
  refine ht _ _ fun os' lo _ => ?_
  have eo : os' = os := by
    funext c
    cases q1 : os c with
    | none =>
      cases q2 : os' c with
      | none => rfl
      | some o' =>
        obtain ⟨y, hy⟩ := lo.only c o' q2
        obtain ⟨o, ho⟩ := C.dom y c hy
        rw [q1] at ho; cases ho
    | some o =>
      obtain ⟨h1, _, y, hy⟩ := C.frz c o q1
      obtain ⟨o', ho'⟩ := lo.all y c hy
      have := lo.old c o' ho' o (e0.hok c _ h1).1 (back_some q1) (by intro z; cases z)
      rw [ho', this]
  rw [eo, lend_back hfr]
  refine hmono _ _ _ (fun v H' hq hfr' => ?_) q
  show Q v (lendH os (backH os H'))
  rw [lend_back hfr']
  exact hq
end
/-- what is promised of the functions that stand in fields -/
structure WOk (P : Program) (w : World) (K : PySem.W.Frag) (mg : Str → Option Value) (base : Heap) (k : Nat) (wsp : Addr → Hp → VK → Prop) : Prop where
  fn : ∀ g H Q, wsp g H Q → ∃ (o : Obj) (fd : FuncData), H g = some (frzO o) ∧ o.cls = .type "function" ∧ o.data = .func fd
  mono : ∀ {g : Addr} {H : Hp} {Q Q' : VK}, (∀ v H', Q v H' → Q' v H') → wsp g H Q → wsp g H Q'
  run : ∀ (A : Around) (outer : List Env) (s : Shared) (H : Hp) (g : Addr) (Q : VK), Room k A → Env0 P w K mg base A outer s H → wsp g H Q → codeAny (model P w) A (.call (.ref g) ⟨[], []⟩) (CR CX0 outer P w H s Q E0) s
section
variable {X : Cx} {k : Nat} {C : Addr} {m : Str} {wsp : Addr → Hp → VK → Prop} {o : Expr} {ta : TE} {pos apos : Pos}
def tFCall (C : Addr) (m : Str) (wsp : Addr → Hp → VK → Prop) (ta : TE) : TE := fun σ H Q => ta σ H fun x H1 => ∃ a dx fs g, x = .ref a ∧ H1 a = some (.ins C dx fs) ∧ fs.lookup m = some (.ref g) ∧ wsp g H1 Q
theorem pe_fcall0 {pl : Sem Bool} (he : PE X o ta) (c : Cls X.K C) (hn : NoAttr X.K C m) (W : WOk X.prog X.w X.K X.mg X.base k wsp) (hr : Room k X.A)
    (ht : eval (.Call (.Attribute o m apos) [] [] pos) X.env = (do
      let ov ← eval o X.env
      standAt apos.atName
      let (f, first) ← holding [ov] (getMethod ov m pl)
      callWith pos f first (backTo pos (starEach [] X.env)) (backToKw pos (keywordEach [] X.env))) := by rfl) :
    PE X (.Call (.Attribute o m apos) [] [] pos) (tFCall C m wsp ta) := by
  refine ⟨fun pins s σ H Q I h => ?_⟩
  refine PySem.W.methodCall_KW (pl := pl) (thn (he.run pins s σ H _ I h) fun u s1 ⟨x, H1, I1, rx, a, dx, fs, g, ex, ea, l, q⟩ => ?_) ht
  subst ex
  obtain rfl : u = Value.ref a := rx
  obtain ⟨mA, O, _⟩ := ins_get I1.hok ea
  obtain ⟨od, J, _⟩ := O.look
  refine PySem.W.method_usual I1.kIn J (PySem.W.plainGet_of (c.get m)).1 (PySem.W.plainGet_of (c.get m)).2 hn rfl (getattr_ok I1 ea c hn l fun u2 s2 I2 r2 => ?_)
  obtain rfl : u2 = Value.ref g := r2
  obtain ⟨ob, fd, h1, h2, h3⟩ := W.fn g H1 Q q
  have hg := (I2.hok g _ h1).1
  obtain ⟨oc, od', dt, sl⟩ := ob
  cases h2
  cases h3
  refine PySem.W.callWith_F0 (first := []) ⟨_, _, _, _, hg⟩ ?_
  refine wpAny_call (codeAny_mono (W.run X.A X.stack s2 H1 g Q hr I2.env0 q) fun r s' hq => ?_)
  cases r with
  | error e => exact False.elim hq
  | ok fl =>
    cases fl with
    | ret u => exact I2.after hq
    | next => exact False.elim hq
    | brk => exact False.elim hq
    | cont => exact False.elim hq
end
end L2
set_option maxHeartbeats 2000000
namespace L2
open PySem PySem.Spec PyProof.Rows NdefX LamX
section
variable {X : Cx} {k : Nat} {C f : Addr} {fd : FuncData} {ps : List Str} {sp : Sp}
theorem callee_sub {o i : Expr} {p pos : Pos} {args : List Expr} : Callee X (.Subscript o i p) args pos := fun h => by
  have e : eval (.Call (.Subscript o i p) args [] pos) X.env = (do
    callWith pos (← eval (.Subscript o i p) X.env) [] (backTo pos (starEach args X.env)) (backToKw pos (keywordEach [] X.env))) := rfl
  rw [e]
  exact wpAny_bind h
/-- o() by its own __call__, the cells lent -/
def tCallOL (X : Cx) (C : Addr) (sp : Sp) (te : TE) : TE := fun σ H Q => te σ H fun x H1 => ∃ (a dx : Addr) (fs : List (Str × V)), x = .ref a ∧ H1 a = some (.ins C dx fs) ∧ lentS X σ sp [.ref a] H1 Q
theorem pe_callO0L {e : Expr} {pos : Pos} {te : TE} (hc : Callee X e [] pos) (he : PE X e te) (hs : PySem.W.findIn X.K (.ref C) "__call__" = some (some (.ref f))) (hfn : PySem.W.isFn X.K (.ref f) = true) (hf : PySem.W.fnIn X.K f = true)
    (F : FnOk X.prog X.w X.K X.mg X.base CX0 k f fd ps sp) (hr : Room k X.A) (ho : X.Ok → OwnC X) (hbd : Binds X.K fd ps []) : PE X (.Call e [] [] pos) (tCallOL X C sp te) := by
  refine ⟨fun pins s σ H Q I h => hc (thn (he.run pins s σ H _ I h) fun u s1 ⟨x, H1, I1, rx, q⟩ => ?_)⟩
  obtain ⟨o, dx, fs, rfl, hob, q⟩ := q
  cases (show u = Value.ref o from rx)
  obtain ⟨ox, od, J, hp⟩ := ins_plain I1.hok hob
  refine PySem.W.kco_callWith0 I1.kIn J hp hs ?_
  exact wpAny_call (codeAny_mono (PySem.W.kco_code I1.kIn J hp hs hfn hf (run_fnL (us := [.ref o]) (vs := [.ref o]) F hr hbd ho I1 (.cons rfl .nil) q)) fun r s' hq => by
    cases r with
    | error e => exact hq
    | ok fl => cases fl <;> first | exact hq | exact False.elim hq)
theorem s_callOL {te : TE} {σ : St} {H : Hp} {Q : VK} (h : te σ H fun x H1 => ∃ (a dx : Addr) (fs : List (Str × V)), x = .ref a ∧ H1 a = some (.ins C dx fs) ∧ lentS X σ sp [.ref a] H1 Q) : tCallOL X C sp te σ H Q := h
/-- lent: what is known stays -/
theorem lend_same {os : Addr → Option Obj} {H : Hp} (h : ∀ c o, os c = some o → H c = none) : ∀ x o, H x = some o → lendH os H x = some o := fun x o e => by
  cases q : os x with
  | none => rw [lend_none q]; exact e
  | some ob => rw [h x ob q] at e; cases e
/-- taken back: what is no lent thing stays -/
theorem back_keep {os : Addr → Option Obj} {H : Hp} (h : ∀ c o, os c = some o → H c = some (frzO o)) {x : Addr} {o : HO} (e : H x = some o) (n : ∀ ob, o ≠ frzO ob) : backH os H x = some o := by
  cases q : os x with
  | none => rw [back_none q]; exact e
  | some ob => rw [h x ob q] at e; cases e; exact absurd rfl (n ob)
theorem back_keep2 {os : Addr → Option Obj} {H : Hp} {x : Addr} {o : HO} (e : H x = some o) (n : os x = none) : backH os H x = some o := by
  rw [back_none n]; exact e
end
/-- a def whose code object is known -/
structure FunT (K : PySem.W.Frag) (x qual : Str) (st : Stmt) (f : Addr) (fd : FuncData) (c : Addr) : Prop where
  ex : ∃ (oc : Value) (od : Option Addr) (kV doc pm : Value) (an : Option Addr) (ct : Value) (osl : Array (Option Value)),
    fd = PySem.W.fnOf x qual (defArgs st) (defBody st) (defScope st) .none kV doc pm an (.ref c) ct ∧ K.lookup f = some ⟨oc, od, .func fd, osl⟩ ∧ PySem.W.codeIn K (.ref c) qual = true
  kp : PySem.W.keepIn K (.ref f) = true
section
variable {P : Program} {w : World} {K : PySem.W.Frag} {mg : Str → Option Value} {base : Heap}
theorem FunT.fn {x qual : Str} {st : Stmt} {f c : Addr} {fd : FuncData} (F : FunT K x qual st f fd c) : Fun K x qual st f fd := by
  obtain ⟨oc, od, kV, doc, pm, an, ct, osl, e, lk, hcd⟩ := F.ex
  exact ⟨⟨oc, od, kV, doc, pm, an, .ref c, ct, osl, e, lk, hcd⟩, F.kp⟩
theorem FunT.ok {x qual : Str} {st : Stmt} {f c : Addr} {fd : FuncData} {N ps : List Str} {k : Nat} {sp : Sp} (F : FunT K x qual st f fd c) (S : FnScope N ps (defScope st)) (len : ∀ vs H Q E, sp vs H Q E → vs.length = ps.length)
    (hbody : ∀ (A : Around) (outer : List Env) (s : Shared) (H : Hp) (vs : List V) (Q : VK) (E : XK), Room k (A.deeper (envOfC qual (defScope st) s.heap.objs.size f (.ref c))) → sp vs H Q E →
      ∃ t, PSs (cxOf CX0 P w K mg base N qual (defScope st) f (.ref c) A outer s H E).nox (defBody st) t ∧ t { nx := fun _ H' => Q .non H', rt := Q } (start N vs) H) : FnOk P w K mg base CX0 (k + 1) f fd ps sp := by
  obtain ⟨oc, od, kV, doc, pm, an, ct, osl, rfl, lk, hcd⟩ := F.ex
  refine fn_of lk hcd S len fun A outer s H vs Q E hr hsp => ?_
  obtain ⟨t, h, q⟩ := hbody A outer s H vs Q E hr hsp
  exact ⟨t, h.nox, q⟩
theorem fun_mkT {x qual : Str} {st : Stmt} {f c : Addr} {oc : Value} {od an : Option Addr} {osl : Array (Option Value)} {kV doc pm ct : Value} (l : K.lookup f = some ⟨oc, od, .func (PySem.W.fnOf x qual (defArgs st) (defBody st) (defScope st) .none kV doc pm an (.ref c) ct), osl⟩)
    (h : PySem.W.codeIn K (.ref c) qual = true) (k : PySem.W.keepIn K (.ref f) = true) : FunT K x qual st f (PySem.W.fnOf x qual (defArgs st) (defBody st) (defScope st) .none kV doc pm an (.ref c) ct) c := ⟨⟨oc, od, kV, doc, pm, an, ct, osl, rfl, l, h⟩, k⟩
/-- the cells of a def's frame are its own -/
theorem own_of {CX : CXT} {N : List Str} {q : Str} {sc : Scope} {f : Addr} {cd : Value} {A : Around} {outer : List Env} {s : Shared} {H : Hp} {E : XK} : (cxOf CX P w K mg base N q sc f cd A outer s H E).nox.Ok → OwnC (cxOf CX P w K mg base N q sc f cd A outer s H E).nox := fun ok => own_cx ok fun x => rfl
end
end L2
set_option maxHeartbeats 1000000
namespace Tr
open PySem PySem.Spec PyProof.Rows L2
def tkG (K : PySem.W.Frag) (x : Str) : Tok := match PySem.W.nsIn K mainGlobals x with
  | some (some (.int _ t)) => t
  | some (some (.str _ t)) => t
  | _ => 0
def tkC (K : PySem.W.Frag) (C : Addr) (x : Str) : Tok := match PySem.W.findIn K (.ref C) x with
  | some (some (.int _ t)) => t
  | some (some (.str _ t)) => t
  | _ => 0
/-- where a thing stands: a global's name, a class and its method; the def of a classmethod -/
def pl (p : Str × Option Str) (K : PySem.W.Frag) : Addr := He.fAd K p
def plc (C m : Str) (K : PySem.W.Frag) : Addr := He5.wf K (He.ga K C) "classmethod" m
def fdG (K : PySem.W.Frag) (p : Addr) : FuncData := match K.lookup p with
  | some ⟨_, _, .func fd, _⟩ => fd
  | _ => default
inductive Fx where
  | fa (f : He.Fa)
  | tup (x : Str) (vs : List Str)
  | noats (C : Str) (fs : List Str)
  | con (C f : Str) (i : Int)
  | cread (C : Str)
  | cinit (C : Str) (id : String)
  | cval (C f : Str) (i : Int)
  | oex (C : Str)
  | xf (C : Str)
  | init (C : Str)
  | oexb (C : Str) (b : PySem.OXB.XB)
  | excc (C : Str)
  | cinitT (T id : String)
  | kits (ns : List Str)
  | kitc (ns : List Str) (C : Str) (n : Nat)
  | kitt (ns : List Str) (T : String) (n : Nat) (ge : Bool)
  | kit (C D : Str) (b : Bool)
  | cm (C m : Str)
  | ins (C : Str)
  | kitn (C : Str) (Ts : List String)
  | own (C m : Str)
  | sf (C : Str)
  | nsq (C : Str)
  | propof (C f : Str)
  | supc (D C B : Str)
  | methP (D C m : Str)
  | kit1 (C : Str) (T : String) (b : Bool)
/-- a property's getter -/
def plp (C f : Str) (K : PySem.W.Frag) : Addr := match PySem.W.recIn K (He.ma K (He.ga K C) f) "property" with
  | some (.ref g :: _) => g
  | _ => 0
def propB (K : PySem.W.Frag) (C f : Str) : Bool := match PySem.W.recIn K (He.ma K (He.ga K C) f) "property" with
  | some (.ref _ :: _) => true
  | _ => false
def oexbB (K : PySem.W.Frag) (C : Addr) (b : PySem.OXB.XB) : Bool := (match K.lookup C with
  | some ⟨.type t, _, .cls cd, sl⟩ => (match cd.mro, sl.toList with
    | .ref C' :: bm, [_, _, _, _, some (.builtin n), _] => decide (t = "type") && (decide (C' = C) && (decide (n = b.newId) && (!cd.hasDel && (cd.hasDict && PySem.OXB.refsT b.bm bm))))
    | _, _ => false)
  | _ => false) && (He.eqO (PySem.W.findIn K (.ref C) "__setattr__") (some (some (.builtin "object.__setattr__"))) && (decide (PySem.W.subIn K (.ref C) (.type "BaseException") = some true) && (decide (PySem.W.typeIn K (.ref C) = some (.type "type")) && PySem.W.keepIn K (.ref C))))
def exccB (K : PySem.W.Frag) (C : Addr) : Bool := He.eqO (PySem.W.findIn K (.ref C) "__getattribute__") (some (some (.builtin "BaseException.__getattribute__"))) && (He.eqO (PySem.W.findIn K (.ref C) "__getattr__") (some none) && (decide (PySem.W.subIn K (.ref C) (.type "BaseException") = some true) && (PySem.W.hasDictIn K C &&
  (He.eqO (PySem.W.findIn K (.ref C) "__class__") (some (some (.builtin "object.__class__"))) && (He.eqO (PySem.W.specialIn K (.builtin "object.__class__") "__get__") (some (some (.builtin "getset_descriptor.__get__"))) && (decide (PySem.W.takesIn K (.builtin "object.__class__") = some true) && decide (PySem.W.mroIn K C (.type "object") = some true)))))))
def cinitTB (K : PySem.W.Frag) (T id : String) : Bool := match PySem.W.findCls K (.type T) (.type "type") "__init__" with
  | some (.val (.builtin s)) => decide (s = id)
  | _ => false
def oexB (K : PySem.W.Frag) (C : Addr) : Bool := (match K.lookup C with
  | some ⟨.type t, _, .cls cd, sl⟩ => (match cd.mro, sl.toList with
    | .ref C' :: bm, [_, _, _, _, some (.builtin n), _] => decide (t = "type") && (decide (C' = C) && (decide (n = "ValueError.__new__") && (!cd.hasDel && (cd.hasDict && PySem.HandSPX.refsVE bm))))
    | _, _ => false)
  | _ => false) && (He.eqO (PySem.W.findIn K (.ref C) "__setattr__") (some (some (.builtin "object.__setattr__"))) && (decide (PySem.W.subIn K (.ref C) (.type "BaseException") = some true) && (decide (PySem.W.typeIn K (.ref C) = some (.type "type")) && PySem.W.keepIn K (.ref C))))
def conB (K : PySem.W.Frag) (C : Addr) (f : Str) (i : Int) : Bool := match PySem.W.findIn K (.ref C) f with
  | some (some (.int j t)) => decide (j = i) && (He.eqO (PySem.W.specialIn K (.int j t) "__get__") (some none) && !(PySem.W.copiedNames.contains f))
  | _ => false
def tkV (K : PySem.W.Frag) (C : Addr) (x : Str) : Tok := match PySem.W.findCls K (.ref C) (.type "type") x with
  | some (.val (.int _ t)) => t
  | _ => 0
def cvalB (K : PySem.W.Frag) (C : Addr) (f : Str) (i : Int) : Bool := match PySem.W.findCls K (.ref C) (.type "type") f with
  | some (.val (.int j _)) => decide (j = i)
  | _ => false
def cinitB (K : PySem.W.Frag) (C : Addr) (id : String) : Bool := match PySem.W.findCls K (.ref C) (.type "type") "__init__" with
  | some (.val (.builtin s)) => decide (s = id)
  | _ => false
def Fx.ok (K : PySem.W.Frag) : Fx → Bool
  | .fa f => f.ok K
  | .tup x vs => He.tupB K x (vs.map He.Dv.str) && He.eqO (PySem.W.nsIn K mainGlobals x) (some (some (.ref (He.ga K x))))
  | .noats C fs => fs.all fun f => He.eqO (PySem.W.findIn K (.ref (He.ga K C)) f) (some none)
  | .con C f i => conB K (He.ga K C) f i
  | .cread C => PySem.W.readsIn K (He.ga K C) (.type "type") && He.eqO (PySem.W.specialIn K (.ref (He.ga K C)) "__getattribute__") (some (some (.builtin "type.__getattribute__")))
  | .cinit C id => cinitB K (He.ga K C) id
  | .cval C f i => cvalB K (He.ga K C) f i
  | .oex C => oexB K (He.ga K C)
  | .xf C => L2.xfB K (He.ga K C)
  | .init C => He.eqO (PySem.W.findIn K (.ref (He.ga K C)) "__init__") (some (some (.ref (He.ma K (He.ga K C) "__init__")))) && decide (PySem.W.typeIn K (.ref (He.ma K (He.ga K C) "__init__")) = some (.type "function"))
  | .oexb C b => oexbB K (He.ga K C) b
  | .excc C => exccB K (He.ga K C)
  | .cinitT T id => cinitTB K T id
  | .kits ns => (List.range ns.length).all fun i => (List.range ns.length).all fun j => decide (PySem.W.kitOne K (.ref (He.ga K (ns.getD i ""))) (.ref (He.ga K (ns.getD j ""))) = some (decide (i = j)))
  | .kitc ns C n => (List.range ns.length).all fun i => decide (PySem.W.kitOne K (.ref (He.ga K (ns.getD i ""))) (.ref (He.ga K C)) = some (decide (i < n)))
  | .kitt ns T n ge => (List.range ns.length).all fun i => decide (PySem.W.kitOne K (.ref (He.ga K (ns.getD i ""))) (.type T) = some (if ge then decide (n ≤ i) else decide (i < n)))
  | .kit C D b => decide (PySem.W.kitOne K (.ref (He.ga K C)) (.ref (He.ga K D)) = some b)
  | .ins C => He.eqO (PySem.W.findIn K (.ref (He.ga K C)) "__class__") (some (some (.builtin "object.__class__"))) && (He.eqO (PySem.W.specialIn K (.builtin "object.__class__") "__get__") (some (some (.builtin "getset_descriptor.__get__"))) && (decide (PySem.W.takesIn K (.builtin "object.__class__") = some true) && decide (PySem.W.mroIn K (He.ga K C) (.type "object") = some true)))
  | .own C m => He.eqO (PySem.W.findIn K (.ref (He.ga K C)) m) (some (some (.ref (He.ma K (He.ga K C) m)))) && (PySem.W.isFn K (.ref (He.ma K (He.ga K C) m)) && PySem.W.fnIn K (He.ma K (He.ga K C) m))
  | .sf C => PySem.W.selfFirst K (He.ga K C)
  | .nsq C => PySem.W.noSeq K (He.ga K C)
  | .propof C f => He.eqO (PySem.W.findIn K (.ref (He.ga K C)) f) (some (some (.ref (He.ma K (He.ga K C) f)))) && (He.eqO (PySem.W.specialIn K (.ref (He.ma K (He.ga K C) f)) "__get__") (some (some (.builtin "property.__get__"))) && (decide (PySem.W.takesIn K (.ref (He.ma K (He.ga K C) f)) = some true) && propB K C f))
  | .supc D C B => decide (PySem.W.mroIn K (He.ga K C) (.ref (He.ga K D)) = some true) && (He.eqO (PySem.W.ks_superIn K (He.ga K C) (He.ga K D) "__init__") (some (some (.ref (He.ma K (He.ga K B) "__init__")))) && (decide (PySem.W.typeIn K (.ref (He.ma K (He.ga K B) "__init__")) = some (.type "function")) && PySem.W.fnIn K (He.ma K (He.ga K B) "__init__")))
  | .methP D C m => decide (He.ma K (He.ga K C) m = He.ma K (He.ga K D) m) && (He.Fa.meth C m).ok K
  | .kit1 C T b => decide (PySem.W.kitOne K (.ref (He.ga K C)) (.type T) = some b)
  | .kitn C Ts => Ts.all fun T => decide (PySem.W.kitOne K (.type T) (.ref (He.ga K C)) = some false) && PySem.W.notFirst K (He.ga K C) (.type T)
  | .cm C m => He5.wrapB K (He.ga K C) "classmethod" "classmethod.__get__" m && PySem.W.fnIn K (He5.wf K (He.ga K C) "classmethod" m)
section
variable {K : PySem.W.Frag} {h : Heap} {mg : Str → Option Value}
theorem fx_int (X : K.In h) (G : h.Ns mainGlobals mg) {x : Str} {i : Int} (c : (Fx.fa (.int x i)).ok K = true) : mg x = some (.int i (tkG K x)) := by
  have c2 : (match PySem.W.nsIn K mainGlobals x with
    | some (some (.int j _)) => decide (j = i)
    | _ => false) = true := c
  unfold tkG
  split at c2
  · rename_i j t e
    have ej : j = i := of_decide_eq_true c2
    subst ej
    rw [e]
    exact PySem.W.mg_of X G e
  · cases c2
theorem fx_str (X : K.In h) (G : h.Ns mainGlobals mg) {x z : Str} (c : (Fx.fa (.str x z)).ok K = true) : mg x = some (.str z (tkG K x)) := by
  have c2 : (match PySem.W.nsIn K mainGlobals x with
    | some (some (.str y _)) => decide (y = z)
    | _ => false) = true := c
  unfold tkG
  split at c2
  · rename_i j t e
    have ej : j = z := of_decide_eq_true c2
    subst ej
    rw [e]
    exact PySem.W.mg_of X G e
  · cases c2
theorem fx_glo (X : K.In h) (G : h.Ns mainGlobals mg) {x : Str} (c : (Fx.fa (.glo x)).ok K = true) : mg x = some (.ref (He.ga K x)) := He.glo_ok X G c
theorem fx_free (X : K.In h) (G : h.Ns mainGlobals mg) {x : Str} (c : (Fx.fa (.free x)).ok K = true) : mg x = none := He.free_ok X G c
theorem fx_cls {x : Str} (c : (Fx.fa (.cls x)).ok K = true) : Cls K (He.ga K x) := He.cls_ok c
theorem fx_meth {x m : Str} (c : (Fx.fa (.meth x m)).ok K = true) : Meth K (He.ga K x) m (He.ma K (He.ga K x) m) := He.meth_ok c
theorem fx_mkr {x : Str} (c : (Fx.fa (.mkr x)).ok K = true) : Mk K (He.ga K x) (He.ma K (He.ga K x) "__init__") := He.mkr_ok c
theorem fx_exm {x y : Str} {b : Bool} (c : (Fx.fa (.exm x y b)).ok K = true) : PySem.W.exmOne K (.ref (He.ga K x)) (.ref (He.ga K y)) = some b := He.exm_ok c
theorem fx_tup {x : Str} {vs : List Str} (c : (Fx.tup x vs).ok K = true) (H : Hp) : SqT K H (He.ga K x) (vs.map V.str) := by
  have c1 := (He.ba c).1
  have e := He.tupB_ok c1 H
  rw [List.map_map] at e
  exact e
theorem fx_tupG (X : K.In h) (G : h.Ns mainGlobals mg) {x : Str} {vs : List Str} (c : (Fx.tup x vs).ok K = true) : mg x = some (.ref (He.ga K x)) := PySem.W.mg_of X G (He.eqO_ok (He.ba c).2)
theorem fx_noats {C : Str} {fs : List Str} (c : (Fx.noats C fs).ok K = true) (f : Str) (hf : f ∈ fs) : PySem.W.findIn K (.ref (He.ga K C)) f = some none := He.eqO_ok (List.all_eq_true.mp c f hf)
theorem fx_cval {C f : Str} {i : Int} (c : (Fx.cval C f i).ok K = true) : ClX.CVal K (He.ga K C) (.type "type") f (.int i) (.int i (tkV K (He.ga K C) f)) := by
  have c2 : cvalB K (He.ga K C) f i = true := c
  unfold cvalB at c2
  unfold tkV
  split at c2
  · rename_i j t e
    have ej : j = i := of_decide_eq_true c2
    subst ej
    exact ⟨e, ⟨t, rfl⟩⟩
  · cases c2
theorem fx_con {C f : Str} {i : Int} (c : (Fx.con C f i).ok K = true) : Con K (He.ga K C) f (.int i) (.int i (tkC K (He.ga K C) f)) := by
  have c2 : conB K (He.ga K C) f i = true := c
  unfold conB at c2
  unfold tkC
  split at c2
  · rename_i j t e
    obtain ⟨h1, h2⟩ := He.ba c2
    obtain ⟨h3, h4⟩ := He.ba h2
    have ej : j = i := of_decide_eq_true h1
    subst ej
    rw [e]
    exact ⟨e, ⟨t, rfl⟩, He.eqO_ok h3, by simpa using h4⟩
  · cases c2
theorem fx_cread {C : Str} (c : (Fx.cread C).ok K = true) : ClX.CRead K (He.ga K C) (.type "type") := ⟨(He.ba c).1, He.eqO_ok (He.ba c).2⟩
theorem fx_cinit {C : Str} {id : String} (c : (Fx.cinit C id).ok K = true) : PySem.W.findCls K (.ref (He.ga K C)) (.type "type") "__init__" = some (.val (.builtin id)) := by
  have c2 : cinitB K (He.ga K C) id = true := c
  unfold cinitB at c2
  split at c2
  · rename_i s e
    have es : s = id := of_decide_eq_true c2
    subst es
    exact e
  · cases c2
theorem fx_oex {C : Str} (c : (Fx.oex C).ok K = true) : OexC K (He.ga K C) := by
  have c2 : oexB K (He.ga K C) = true := c
  unfold oexB at c2
  obtain ⟨h1, h2⟩ := He.ba c2
  obtain ⟨h3, h4⟩ := He.ba h2
  obtain ⟨h5, h6⟩ := He.ba h4
  obtain ⟨h7, h8⟩ := He.ba h6
  refine ⟨?_, He.eqO_ok h3, of_decide_eq_true h5, of_decide_eq_true h7, h8⟩
  split at h1
  · rename_i t dd cd sl ho
    split at h1
    · rename_i C' bm k0 k1 k2 k3 n k5 hm hs
      obtain ⟨g1, g⟩ := He.ba h1
      obtain ⟨g2, g⟩ := He.ba g
      obtain ⟨g3, g⟩ := He.ba g
      obtain ⟨g4, g⟩ := He.ba g
      obtain ⟨g5, g6⟩ := He.ba g
      have e1 : t = "type" := of_decide_eq_true g1
      have e2 : C' = He.ga K C := of_decide_eq_true g2
      have e3 : n = "ValueError.__new__" := of_decide_eq_true g3
      have e4 : cd.hasDel = false := by simpa using g4
      subst e1 e2 e3
      obtain ⟨nm, bs, mro, ns, qn, hd, sn, sub, ab, col, del⟩ := cd
      have hm' : mro = .ref (He.ga K C) :: bm := hm
      have e4' : del = false := e4
      have e5 : hd = true := g5
      subst hm' e4' e5
      have hsl : sl = #[k0, k1, k2, k3, some (.builtin "ValueError.__new__"), k5] := by
        cases sl with
        | mk l =>
          have hl : l = [k0, k1, k2, k3, some (.builtin "ValueError.__new__"), k5] := hs
          rw [hl]
      subst hsl
      exact ⟨nm, qn, ns, bs, bm, sn, sub, ab, col, dd, k0, k1, k2, k3, k5, ho, g6⟩
    · cases h1
  · cases h1
theorem fx_oexb {C : Str} {b : PySem.OXB.XB} (c : (Fx.oexb C b).ok K = true) : OexB K (He.ga K C) b := by
  have c2 : oexbB K (He.ga K C) b = true := c
  unfold oexbB at c2
  obtain ⟨h1, h2⟩ := He.ba c2
  obtain ⟨h3, h4⟩ := He.ba h2
  obtain ⟨h5, h6⟩ := He.ba h4
  obtain ⟨h7, h8⟩ := He.ba h6
  refine ⟨?_, He.eqO_ok h3, of_decide_eq_true h5, of_decide_eq_true h7, h8⟩
  split at h1
  · rename_i t dd cd sl ho
    split at h1
    · rename_i C' bm k0 k1 k2 k3 n k5 hm hs
      obtain ⟨g1, g⟩ := He.ba h1
      obtain ⟨g2, g⟩ := He.ba g
      obtain ⟨g3, g⟩ := He.ba g
      obtain ⟨g4, g⟩ := He.ba g
      obtain ⟨g5, g6⟩ := He.ba g
      have e1 : t = "type" := of_decide_eq_true g1
      have e2 : C' = He.ga K C := of_decide_eq_true g2
      have e3 : n = b.newId := of_decide_eq_true g3
      have e4 : cd.hasDel = false := by simpa using g4
      subst e1 e2 e3
      obtain ⟨nm, bs, mro, ns, qn, hd, sn, sub, ab, col, del⟩ := cd
      have hm' : mro = .ref (He.ga K C) :: bm := hm
      have e4' : del = false := e4
      have e5 : hd = true := g5
      subst hm' e4' e5
      have hsl : sl = #[k0, k1, k2, k3, some (.builtin b.newId), k5] := by
        cases sl with
        | mk l =>
          have hl : l = [k0, k1, k2, k3, some (.builtin b.newId), k5] := hs
          rw [hl]
      subst hsl
      exact ⟨nm, qn, ns, bs, bm, sn, sub, ab, col, dd, k0, k1, k2, k3, k5, ho, g6⟩
    · cases h1
  · cases h1
theorem fx_excc {C : Str} (c : (Fx.excc C).ok K = true) : ExcC K (He.ga K C) := by
  have c2 : exccB K (He.ga K C) = true := c
  unfold exccB at c2
  obtain ⟨h1, c2⟩ := He.ba c2
  obtain ⟨h2, c2⟩ := He.ba c2
  obtain ⟨h3, c2⟩ := He.ba c2
  obtain ⟨h4, c2⟩ := He.ba c2
  obtain ⟨h5, c2⟩ := He.ba c2
  obtain ⟨h6, c2⟩ := He.ba c2
  obtain ⟨h7, h8⟩ := He.ba c2
  exact ⟨He.eqO_ok h1, He.eqO_ok h2, of_decide_eq_true h3, h4, He.eqO_ok h5, He.eqO_ok h6, of_decide_eq_true h7, of_decide_eq_true h8⟩
theorem fx_cinitT {T id : String} (c : (Fx.cinitT T id).ok K = true) : PySem.W.findCls K (.type T) (.type "type") "__init__" = some (.val (.builtin id)) := by
  have c2 : cinitTB K T id = true := c
  unfold cinitTB at c2
  split at c2
  · rename_i s e
    have es : s = id := of_decide_eq_true c2
    subst es
    exact e
  · cases c2
theorem fx_kits {ns : List Str} (c : (Fx.kits ns).ok K = true) (i : Nat) (hi : i < ns.length) (j : Nat) (hj : j < ns.length) : PySem.W.kitOne K (.ref (He.ga K (ns.getD i ""))) (.ref (He.ga K (ns.getD j ""))) = some (decide (i = j)) :=
  of_decide_eq_true (List.all_eq_true.mp (List.all_eq_true.mp c i (List.mem_range.mpr hi)) j (List.mem_range.mpr hj))
theorem fx_kitc {ns : List Str} {C : Str} {n : Nat} (c : (Fx.kitc ns C n).ok K = true) (i : Nat) (hi : i < ns.length) : PySem.W.kitOne K (.ref (He.ga K (ns.getD i ""))) (.ref (He.ga K C)) = some (decide (i < n)) :=
  of_decide_eq_true (List.all_eq_true.mp c i (List.mem_range.mpr hi))
theorem fx_kitt {ns : List Str} {T : String} {n : Nat} {ge : Bool} (c : (Fx.kitt ns T n ge).ok K = true) (i : Nat) (hi : i < ns.length) : PySem.W.kitOne K (.ref (He.ga K (ns.getD i ""))) (.type T) = some (if ge then decide (n ≤ i) else decide (i < n)) :=
  of_decide_eq_true (List.all_eq_true.mp c i (List.mem_range.mpr hi))
theorem fx_kit {C D : Str} {b : Bool} (c : (Fx.kit C D b).ok K = true) : PySem.W.kitOne K (.ref (He.ga K C)) (.ref (He.ga K D)) = some b := of_decide_eq_true c
theorem fx_cm {C m : Str} (c : (Fx.cm C m).ok K = true) : ClX.CMet K (He.ga K C) (.type "type") m (He.ma K (He.ga K C) m) (He5.wf K (He.ga K C) "classmethod" m) := He5.cmet_of (He.ba c).1 (He.ba c).2
theorem fx_ins1 {C : Str} (c : (Fx.ins C).ok K = true) : PySem.W.findIn K (.ref (He.ga K C)) "__class__" = some (some (.builtin "object.__class__")) := He.eqO_ok (He.ba c).1
theorem fx_ins2 {C : Str} (c : (Fx.ins C).ok K = true) : PySem.W.specialIn K (.builtin "object.__class__") "__get__" = some (some (.builtin "getset_descriptor.__get__")) := He.eqO_ok (He.ba (He.ba c).2).1
theorem fx_ins3 {C : Str} (c : (Fx.ins C).ok K = true) : PySem.W.takesIn K (.builtin "object.__class__") = some true := of_decide_eq_true (He.ba (He.ba (He.ba c).2).2).1
theorem fx_ins4 {C : Str} (c : (Fx.ins C).ok K = true) : PySem.W.mroIn K (He.ga K C) (.type "object") = some true := of_decide_eq_true (He.ba (He.ba (He.ba c).2).2).2
theorem fx_kitn {C : Str} {Ts : List String} (c : (Fx.kitn C Ts).ok K = true) (T : String) (hT : T ∈ Ts) : PySem.W.kitOne K (.type T) (.ref (He.ga K C)) = some false := of_decide_eq_true (He.ba (List.all_eq_true.mp c T hT)).1
theorem fx_notf {C : Str} {Ts : List String} (c : (Fx.kitn C Ts).ok K = true) (T : String) (hT : T ∈ Ts) : PySem.W.notFirst K (He.ga K C) (.type T) = true := (He.ba (List.all_eq_true.mp c T hT)).2
theorem fx_own {C m : Str} (c : (Fx.own C m).ok K = true) : OwnM K (He.ga K C) m (He.ma K (He.ga K C) m) := ⟨He.eqO_ok (He.ba c).1, (He.ba (He.ba c).2).1, (He.ba (He.ba c).2).2⟩
theorem fx_sf {C : Str} (c : (Fx.sf C).ok K = true) : PySem.W.selfFirst K (He.ga K C) = true := c
theorem fx_nsq {C : Str} (c : (Fx.nsq C).ok K = true) : PySem.W.noSeq K (He.ga K C) = true := c
theorem fx_propof {C f : Str} (c : (Fx.propof C f).ok K = true) : PropOf K (He.ga K C) f (He.ma K (He.ga K C) f) (plp C f K) := by
  obtain ⟨h1, c⟩ := He.ba c
  obtain ⟨h2, c⟩ := He.ba c
  obtain ⟨h3, h4⟩ := He.ba c
  refine ⟨He.eqO_ok h1, He.eqO_ok h2, of_decide_eq_true h3, ?_⟩
  unfold propB at h4
  unfold plp
  split at h4
  · rename_i g r e
    rw [e]
    exact ⟨r, rfl⟩
  · cases h4
theorem fx_methP {D C m : Str} (c : (Fx.methP D C m).ok K = true) : Meth K (He.ga K C) m (He.ma K (He.ga K D) m) := by
  obtain ⟨h1, h2⟩ := He.ba c
  rw [← of_decide_eq_true h1]
  exact He.meth_ok h2
theorem fx_supc {D C B : Str} (c : (Fx.supc D C B).ok K = true) : SupC K (He.ga K D) (He.ga K C) (He.ma K (He.ga K B) "__init__") := by
  obtain ⟨h1, c⟩ := He.ba c
  obtain ⟨h2, c⟩ := He.ba c
  obtain ⟨h3, h4⟩ := He.ba c
  exact ⟨of_decide_eq_true h1, He.eqO_ok h2, of_decide_eq_true h3, h4⟩
theorem fx_kit1 {C : Str} {T : String} {b : Bool} (c : (Fx.kit1 C T b).ok K = true) : PySem.W.kitOne K (.ref (He.ga K C)) (.type T) = some b := of_decide_eq_true c
theorem fx_xf {C : Str} (c : (Fx.xf C).ok K = true) : XfC K (He.ga K C) := xfB_ok c
theorem fx_init1 {C : Str} (c : (Fx.init C).ok K = true) : PySem.W.findIn K (.ref (He.ga K C)) "__init__" = some (some (.ref (He.ma K (He.ga K C) "__init__"))) := He.eqO_ok (He.ba c).1
theorem fx_init2 {C : Str} (c : (Fx.init C).ok K = true) : PySem.W.typeIn K (.ref (He.ma K (He.ga K C) "__init__")) = some (.type "function") := of_decide_eq_true (He.ba c).2
end
structure DefB where
  d : He5.DefA
  c : Option (Str × Str) := none
def fnS (K : PySem.W.Frag) (a : Addr) : He.FnW := match K.lookup a with
  | some ⟨_, _, .func fd, _⟩ => some (fd.name, fd.qualname, fd.params, fd.body, fd.scope, fd.globals, [], fd.builtins)
  | _ => none
def cellB (K : PySem.W.Frag) (cc D : Addr) : Bool := match K.lookup cc with
  | some ⟨_, _, .cell (some (.ref D')), _⟩ => decide (D' = D)
  | _ => false
def fileB (K : PySem.W.Frag) (cda : Addr) (file : Str) : Bool := match K.lookup cda with
  | some ⟨_, _, .fields vs, _⟩ => (match (vs[2]? : Option Value) with
    | some (Value.str f _) => decide (f = file)
    | _ => false)
  | _ => false
def clos (fd : FuncData) (K : PySem.W.Frag) (D : Addr) (qual file : Str) : Bool := match fd.closure, fd.code, fd.defaults with
  | [(x, cc)], .ref cda, .none => decide (x = "__class__") && (PySem.W.codeIn K (.ref cda) qual && (cellB K cc D && ((PySem.W.clsIn K D).isSome && (He.eqO (PySem.W.nsIn K PySem.cStatics "thirdparty.any") (some none) && fileB K cda file))))
  | _, _, _ => false
def supB (K : PySem.W.Frag) (f D : Addr) (qual file : Str) : Bool := match K.lookup f with
  | some ⟨_, _, .func fd, _⟩ => clos fd K D qual file
  | _ => false
def DefB.fn (K : PySem.W.Frag) (e : DefB) : He.FnW := match e.c with
  | none => He5.fnA K (e.d.at_ K)
  | some _ => fnS K (e.d.at_ K)
def DefB.ok (K : PySem.W.Frag) (e : DefB) : Bool := match e.c with
  | none => e.d.ok K
  | some (C, file) => supB K (e.d.at_ K) (He.ga K C) e.d.qual file
abbrev AlB : Type := Bool × List He.FnW
def obsB (fx : List Fx) (fn : List DefB) (K : PySem.W.Frag) : AlB := ((fx.all fun f => f.ok K) && fn.all fun d => d.ok K, fn.map fun d => d.fn K)
def valB (fn : List DefB) : AlB := (true, fn.map fun e => e.d.val)
def obsBG (n : Nat) (fx : List Fx) (fn : List DefB) (g : Addr → Option Obj) : AlB := obsB fx fn (He.frG g (cStatics :: He.asD g n))
def hookB (n : Nat) (fx : List Fx) (fn : List DefB) : PySem.W.Hook where
  α := AlB
  obs := fun s => obsBG n fx fn s.heap.get?
  val := fun _ => valB fn
  says := fun _ h => ∃ K : PySem.W.Frag, K.In h ∧ obsB fx fn K = valB fn
  of := fun _ _ e => ⟨_, He.frG_in, e⟩
  keeps := fun _ _ _ ⟨K, hK, c⟩ k => ⟨K, PySem.W.Frag.In.keeps hK k, c⟩
theorem obsBG_eq {n : Nat} {fx : List Fx} {fn : List DefB} {g : Addr → Option Obj} {s : Shared} (h : ∀ a, g a = s.heap.get? a) : obsBG n fx fn g = (hookB n fx fn).obs s := by
  have e : g = s.heap.get? := funext h
  rw [e]
  rfl
section
variable {fx : List Fx} {fn : List DefB} {K : PySem.W.Frag}
theorem says_fx (c : obsB fx fn K = valB fn) (i : Nat) {f : Fx} (hf : fx[i]? = some f) : f.ok K = true := by
  have c1 := (He.ba (show ((fx.all fun f => f.ok K) && fn.all fun d => d.ok K) = true from congrArg Prod.fst c)).1
  exact List.all_eq_true.mp c1 f (List.mem_of_getElem? hf)
theorem says_fn (c : obsB fx fn K = valB fn) (i : Nat) {d : DefB} (hd : fn[i]? = some d) : d.ok K = true ∧ d.fn K = d.d.val := by
  have c2 := (He.ba (show ((fx.all fun f => f.ok K) && fn.all fun d => d.ok K) = true from congrArg Prod.fst c)).2
  have e : fn.map (fun d => d.fn K) = fn.map (fun e => e.d.val) := congrArg Prod.snd c
  have e2 : (fn.map fun d => d.fn K)[i]? = (fn.map fun e => e.d.val)[i]? := by rw [e]
  rw [List.getElem?_map, List.getElem?_map, hd] at e2
  exact ⟨List.all_eq_true.mp c2 d (List.mem_of_getElem? hd), Option.some.inj e2⟩
/-- a def without defaults -/
def mkD (at_ : PySem.W.Frag → Addr) (x qual : Str) (st : Stmt) : DefB := ⟨⟨at_, x, qual, defArgs st, defBody st, defScope st, [], []⟩, none⟩
/-- a def of the class C whose body says super() -/
def mkS (at_ : PySem.W.Frag → Addr) (x qual : Str) (st : Stmt) (C file : Str) : DefB := ⟨⟨at_, x, qual, defArgs st, defBody st, defScope st, [], []⟩, some (C, file)⟩
theorem says_fun {x qual : Str} {st : Stmt} {p : PySem.W.Frag → Addr} (c : obsB fx fn K = valB fn) (i : Nat) (hd : fn[i]? = some (mkD p x qual st)) : Fun K x qual st (p K) (fdG K (p K)) := by
  obtain ⟨h1, h2⟩ := says_fn c i hd
  obtain ⟨fd, F⟩ := He5.DefA.funD h2 h1
  obtain ⟨oc, od, dV, kV, doc, pm, an, cdv, ct, osl, e1, e2, e3, e4, e5⟩ := F.ex
  have e0 : dV = .none := by
    rcases e4 with ⟨q1, q2⟩ | ⟨q1, _⟩
    · first | exact q1 | exact q2
    · exact absurd rfl q1
  subst e0
  have ef : fdG K (p K) = fd := by
    unfold fdG
    have e2' : K.lookup (p K) = some ⟨oc, od, .func fd, osl⟩ := e2
    rw [e2']
  rw [ef]
  exact ⟨⟨oc, od, kV, doc, pm, an, cdv, ct, osl, e1, e2, e3⟩, F.kp⟩
theorem says_funS {P : Program} {mg : Str → Option Value} {x qual C file : Str} {st : Stmt} {p : PySem.W.Frag → Addr} (c : obsB fx fn K = valB fn) (hP : P.main.file = file) (hT : (P.main.scope.names.lookup ("super" : Str)).isSome = false) (hm : mg "super" = none) (i : Nat) (hd : fn[i]? = some (mkS p x qual st C file)) : FunS P K mg (He.ga K C) x qual st (p K) (fdG K (p K)) := by
  obtain ⟨h1, h2⟩ := says_fn c i hd
  have g1 : supB K (p K) (He.ga K C) qual file = true := h1
  have g2 : fnS K (p K) = some (x, qual, defArgs st, .stmts (defBody st), defScope st, mainGlobals, [], builtinsNs) := h2
  unfold supB at g1
  unfold fnS at g2
  cases q : K.lookup (p K) with
  | none => rw [q] at g1; cases g1
  | some o =>
    obtain ⟨oc, od, dt, osl⟩ := o
    rw [q] at g1 g2
    cases dt with
    | func fd =>
      obtain ⟨n1, n2, n3, n4, n5, n6, n7, n8, n9, n10, n11, n12, n13, n14, n15⟩ := fd
      have g2' : (some (n1, n2, n3, n4, n5, n6, [], n15) : He.FnW) = some (x, qual, defArgs st, .stmts (defBody st), defScope st, mainGlobals, [], builtinsNs) := g2
      simp only [Option.some.injEq, Prod.mk.injEq] at g2'
      obtain ⟨r1, r2, r3, r4, r5, r6, _, r8⟩ := g2'
      subst r1 r2 r3 r4 r5 r6 r8
      have g3 : clos _ K (He.ga K C) _ file = true := g1
      unfold clos at g3
      split at g3
      · rename_i y cc cda u1 u2 u3
        obtain ⟨k1, g3⟩ := He.ba g3
        obtain ⟨k2, g3⟩ := He.ba g3
        obtain ⟨k3, g3⟩ := He.ba g3
        obtain ⟨k4, g3⟩ := He.ba g3
        obtain ⟨k5, k6⟩ := He.ba g3
        have e1 : y = "__class__" := of_decide_eq_true k1
        have v1 : n7 = [(y, cc)] := u1
        have v2 : n13 = .ref cda := u2
        have v3 : n8 = .none := u3
        subst e1 v1 v2 v3
        have ef : ∀ fd : FuncData, K.lookup (p K) = some ⟨oc, od, .func fd, osl⟩ → fdG K (p K) = fd := fun fd e => by
          unfold fdG
          rw [e]
        rw [ef _ q]
        refine ⟨oc, od, n9, n10, n11, n12, cda, cc, n14, osl, rfl, q, k2, ⟨?_, Option.isSome_iff_exists.mp k4, He.eqO_ok k5, ?_, hT, hm⟩⟩
        · unfold cellB at k3
          split at k3
          · rename_i t1 t2 D' t3 e
            have e4 : D' = He.ga K C := of_decide_eq_true k3
            subst e4
            exact ⟨_, _, _, e⟩
          · cases k3
        · unfold fileB at k6
          split at k6
          · rename_i t1 t2 vs t3 e
            split at k6
            · rename_i f tf e6
              have e7 : f = file := of_decide_eq_true k6
              subst e7
              exact ⟨_, _, _, _, _, _, e, e6, by rw [hP]; simp⟩
            · cases k6
          · cases k6
      · cases g3
    | _ => cases g1
end
end Tr
set_option maxHeartbeats 1000000
namespace Tr
open PySem PySem.Spec PyProof.Rows L2
/-- a def's code object, its table -/
def plcd (p : Str × Option Str) (K : PySem.W.Frag) : Addr := He.codeOf K p
def pltb (p : Str × Option Str) (K : PySem.W.Frag) : Addr := He.tabOf K (He.codeOf K p)
section
variable {K : PySem.W.Frag} {x qual : Str} {st : Stmt} {fd : FuncData} {p : Str × Option Str}
theorem fun_T (F : Fun K x qual st (pl p K) fd) : FunT K x qual st (pl p K) fd (plcd p K) := by
  obtain ⟨⟨oc, od, kV, doc, pm, an, cdv, ct, osl, e, lk, hcd⟩, kp⟩ := F
  obtain ⟨c, rfl⟩ := He.codeIn_ref hcd
  have e2 : plcd p K = c := He.codeOf_eq lk (by rw [e])
  rw [e2]
  exact ⟨⟨oc, od, kV, doc, pm, an, ct, osl, e, lk, hcd⟩, kp⟩
end
abbrev AlC : Type := AlB × Bool
def obsC (n : Nat) (fx : List Fx) (fn : List DefB) (tf : List He.Defn) (g : Addr → Option Obj) : AlC := (obsB fx fn (He.frT g (cStatics :: He.asD g n)), He.tabsB g tf (He.frT g (cStatics :: He.asD g n)))
structure SaysC (fx : List Fx) (fn : List DefB) (tf : List He.Defn) (h : Heap) (K : PySem.W.Frag) : Prop where
  b : obsB fx fn K = valB fn
  hd : ∀ p ∈ tf, PySem.W.codeHdIn K (He.cT K p).1 (He.cT K p).2 = true
  out : ∀ p ∈ tf, K.lookup (He.cT K p).2 = none
  empty : ∀ p ∈ tf, h.get? (He.cT K p).2 = some { cls := .none, data := .fields #[] }
theorem saysC_of {n : Nat} {fx : List Fx} {fn : List DefB} {tf : List He.Defn} {h : Heap} (e : obsC n fx fn tf h.get? = (valB fn, true)) : SaysC fx fn tf h (He.frT h.get? (cStatics :: He.asD h.get? n)) := by
  have e1 : obsB fx fn (He.frT h.get? (cStatics :: He.asD h.get? n)) = valB fn := congrArg (fun z : AlC => z.1) e
  have h2 : He.tabsB h.get? tf (He.frT h.get? (cStatics :: He.asD h.get? n)) = true := congrArg (fun z : AlC => z.2) e
  generalize he : cStatics :: He.asD h.get? n = as at e1 h2 ⊢
  have key : ∀ p ∈ tf, PySem.W.codeHdIn (He.frT h.get? as) (He.cT (He.frT h.get? as) p).1 (He.cT (He.frT h.get? as) p).2 = true ∧ ∃ o, h.get? (He.cT (He.frT h.get? as) p).2 = some o ∧ He.emptyTab o = true := fun p hp => by
    obtain ⟨h3, h4⟩ := He.ba (List.all_eq_true.mp h2 p hp)
    refine ⟨h3, ?_⟩
    cases q : h.get? (He.cT (He.frT h.get? as) p).2 with
    | none =>
      rw [q] at h4
      cases h4
    | some o =>
      rw [q] at h4
      exact ⟨o, rfl, h4⟩
  exact ⟨e1, fun p hp => (key p hp).1, fun p hp => by
    obtain ⟨_, o, q, z⟩ := key p hp
    exact He.frT_none q z, fun p hp => by
    obtain ⟨_, o, q, z⟩ := key p hp
    rw [q, He.emptyTab_eq z]⟩
def hookC (n : Nat) (fx : List Fx) (fn : List DefB) (tf : List He.Defn) : PySem.W.Hook where
  α := AlC
  obs := fun s => obsC n fx fn tf s.heap.get?
  val := fun _ => (valB fn, true)
  says := fun _ h => ∃ K : PySem.W.Frag, K.In h ∧ SaysC fx fn tf h K
  of := fun _ _ e => ⟨_, He.frT_in, saysC_of e⟩
  keeps := fun _ _ _ ⟨K, hK, c⟩ k => ⟨K, PySem.W.Frag.In.keeps hK k, ⟨c.b, c.hd, c.out, fun p hp => k _ _ (c.empty p hp)⟩⟩
theorem obsC_eq {n : Nat} {fx : List Fx} {fn : List DefB} {tf : List He.Defn} {g : Addr → Option Obj} {s : Shared} (h : ∀ a, g a = s.heap.get? a) : obsC n fx fn tf g = (hookC n fx fn tf).obs s := by
  have e : g = s.heap.get? := funext h
  rw [e]
  rfl
end Tr
set_option maxHeartbeats 0
namespace Tr
open PySem PySem.Spec PyProof.Rows L2
def top (i : Nat) : Stmt := PySem.Challenge.pw_trackedreads_k70_ladders_of_answers.main.body.getD i (.Pass ⟨0, 0, 0, 0⟩)
def fx9 : List Fx := [.fa (.free "len"),
  .fa (.free "iter"),
  .fa (.free "list"),
  .fa (.free "range"),
  .fa (.glo "Desk"),
  .fa (.glo "Cell"),
  .fa (.glo "Kept"),
  .fa (.glo "Frame"),
  .fa (.glo "Runner"),
  .fa (.cls "Cell"),
  .fa (.cls "Desk"),
  .fa (.cls "Kept"),
  .fa (.cls "Frame"),
  .noats "Cell" ["desk", "name", "now"],
  .noats "Desk" ["used_names", "cells", "readable", "effects", "log", "frames", "batches", "moved"],
  .noats "Kept" ["desk", "name", "work", "noted", "runs", "kept_worth", "has_worth"],
  .noats "Frame" ["owner", "is_answer", "is_hushed", "noted"],
  .fa (.free "super"),
  .supc "Cell" "Cell" "Thing",
  .fa (.mkr "Cell"),
  .own "Cell" "__call__",
  .propof "Cell" "value",
  .fa (.meth "Cell" "put"),
  .fa (.meth "Cell" "worth_now"),
  .fa (.mkr "Desk"),
  .fa (.meth "Desk" "check_placed"),
  .fa (.meth "Desk" "note"),
  .fa (.meth "Desk" "use_name"),
  .fa (.meth "Desk" "cell"),
  .fa (.meth "Desk" "settle"),
  .con "Desk" "MOST_RUNS" 100,
  .own "Desk" "__iter__",
  .own "Desk" "__len__",
  .fa (.meth "Desk" "kept"),
  .fa (.meth "Desk" "is_under_way"),
  .fa (.mkr "Frame"),
  .fa (.mkr "Kept"),
  .supc "Kept" "Kept" "Runner",
  .supc "Runner" "Kept" "Thing",
  .own "Kept" "__call__",
  .propof "Kept" "held",
  .fa (.meth "Kept" "worth_now"),
  .fa (.meth "Kept" "is_out_of_order"),
  .fa (.meth "Kept" "run_work"),
  .fa (.free "abs"),
  .fa (.free "int"),
  .fa (.glo "_law_bag"),
  .fa (.glo "_law_take"),
  .fa (.glo "_law_of"),
  .fa (.glo "_law_worth"),
  .own "Desk" "__setitem__",
  .nsq "Desk",
  .fa (.free "max"),
  .fa (.free "min"),
  .fa (.free "str"),
  .fa (.free "enumerate"),
  .fa (.glo "_law_work"),
  .fa (.glo "_law_kept"),
  .fa (.glo "_law_read"),
  .fa (.glo "_law_right"),
  .fa (.glo "law")]
def fn9 : List DefB := [mkD (pl ("Thing", some "__init__")) "__init__" "Thing.__init__" (inClass (top 10) 0),
  mkS (pl ("Cell", some "__init__")) "__init__" "Cell.__init__" (inClass (top 11) 0) "Cell" PySem.Challenge.pw_trackedreads_k70_ladders_of_answers.main.file,
  mkD (pl ("Cell", some "__call__")) "__call__" "Cell.__call__" (inClass (top 11) 1),
  mkD (plp "Cell" "value") "value" "Cell.value" (inClass (top 11) 2),
  mkD (pl ("Cell", some "put")) "put" "Cell.put" (inClass (top 11) 4),
  mkD (pl ("Cell", some "worth_now")) "worth_now" "Cell.worth_now" (inClass (top 11) 5),
  mkD (pl ("Desk", some "__init__")) "__init__" "Desk.__init__" (inClass (top 15) 1),
  mkD (pl ("Desk", some "check_placed")) "check_placed" "Desk.check_placed" (inClass (top 15) 2),
  mkD (pl ("Desk", some "note")) "note" "Desk.note" (inClass (top 15) 4),
  mkD (pl ("Desk", some "use_name")) "use_name" "Desk.use_name" (inClass (top 15) 5),
  mkD (pl ("Desk", some "cell")) "cell" "Desk.cell" (inClass (top 15) 6),
  mkD (pl ("Desk", some "settle")) "settle" "Desk.settle" (inClass (top 15) 9),
  mkD (pl ("Desk", some "__iter__")) "__iter__" "Desk.__iter__" (inClass (top 15) 16),
  mkD (pl ("Desk", some "__len__")) "__len__" "Desk.__len__" (inClass (top 15) 17),
  mkD (pl ("Desk", some "kept")) "kept" "Desk.kept" (inClass (top 15) 7),
  mkD (pl ("Desk", some "is_under_way")) "is_under_way" "Desk.is_under_way" (inClass (top 15) 3),
  mkD (pl ("Frame", some "__init__")) "__init__" "Frame.__init__" (inClass (top 9) 0),
  mkS (pl ("Kept", some "__init__")) "__init__" "Kept.__init__" (inClass (top 13) 0) "Kept" PySem.Challenge.pw_trackedreads_k70_ladders_of_answers.main.file,
  mkS (pl ("Runner", some "__init__")) "__init__" "Runner.__init__" (inClass (top 12) 0) "Runner" PySem.Challenge.pw_trackedreads_k70_ladders_of_answers.main.file,
  mkD (pl ("Kept", some "__call__")) "__call__" "Kept.__call__" (inClass (top 13) 1),
  mkD (plp "Kept" "held") "held" "Kept.held" (inClass (top 13) 2),
  mkD (pl ("Kept", some "worth_now")) "worth_now" "Kept.worth_now" (inClass (top 13) 3),
  mkD (pl ("Kept", some "is_out_of_order")) "is_out_of_order" "Runner.is_out_of_order" (inClass (top 12) 1),
  mkD (pl ("Kept", some "run_work")) "run_work" "Runner.run_work" (inClass (top 12) 2),
  mkD (pl ("_law_bag", none)) "_law_bag" "_law_bag" (top 17),
  mkD (pl ("_law_take", none)) "_law_take" "_law_take" (top 18),
  mkD (pl ("_law_of", none)) "_law_of" "_law_of" (top 19),
  mkD (pl ("_law_worth", none)) "_law_worth" "_law_worth" (top 20),
  mkD (pl ("Desk", some "__setitem__")) "__setitem__" "Desk.__setitem__" (inClass (top 15) 14),
  mkD (pl ("_law_work", none)) "_law_work" "_law_work" (top 21),
  mkD (pl ("_law_kept", none)) "_law_kept" "_law_kept" (top 22),
  mkD (pl ("_law_read", none)) "_law_read" "_law_read" (top 23),
  mkD (pl ("_law_right", none)) "_law_right" "_law_right" (top 24),
  mkD (pl ("law", none)) "law" "law" (top 25)]
abbrev R9 : PySem.W.OpenRow := PySem.W.OpenLaw.row PySem.Challenge.rw_trackedreads_k70_ladders_of_answers
def tf9 : List He.Defn := [("_law_kept", none)]
abbrev hk9 : PySem.W.Hook := hookC 6 fx9 fn9 tf9
def ob9 (s : PySem.W.SharedT) : AlC := obsC 6 fx9 fn9 tf9 (HandSHeadRun.getT s)
theorem ob9_eq (s : PySem.W.SharedT) : ob9 s = hk9.obs s.abs := obsC_eq (HandSHeadRun.getT_eq s)
theorem run9 (w : World) : HandSHeadRun.RunEq R9 (PySem.W.view R9.prog [25]) hk9 ob9 20000 ("_wall" :: "TrackedError" :: "NoName" :: "Taken" :: "TooLong" :: "Misplaced" :: "Busy" :: "Frame" :: "Thing" :: "Cell" :: "Runner" :: "Kept" :: "Effect" :: "Desk" :: "_law_bag" :: "_law_take" :: "_law_of" :: "_law_worth" :: "_law_work" :: "_law_kept" :: "_law_read" :: "_law_right" :: ([] : List Str)) w := by
  intro os
  kernel_rfl
end Tr
section
open PySem PySem.W PySem.Calls PyProof.Rows
theorem Tr.fileEq : (PySem.W.OpenLaw.row PySem.Challenge.rw_trackedreads_k70_ladders_of_answers).prog.main.file = PySem.Challenge.pw_trackedreads_k70_ladders_of_answers.main.file := by first | rfl | kernel_rfl
theorem Tr.topEq : ((PySem.W.OpenLaw.row PySem.Challenge.rw_trackedreads_k70_ladders_of_answers).prog.main.scope.names.lookup ("super" : PySem.Str)).isSome = false := by first | decide +kernel | kernel_rfl
theorem Tr.nameEq : (HandSHeadRun.topDef (PySem.W.OpenLaw.row PySem.Challenge.rw_trackedreads_k70_ladders_of_answers).prog 25).name = ("law" : PySem.Str) := by kernel_rfl
theorem Tr.headE (hc : PySem.W.WalkO (view (OpenLaw.row PySem.Challenge.rw_trackedreads_k70_ladders_of_answers).prog [25]) ("_wall" :: "TrackedError" :: "NoName" :: "Taken" :: "TooLong" :: "Misplaced" :: "Busy" :: "Frame" :: "Thing" :: "Cell" :: "Runner" :: "Kept" :: "Effect" :: "Desk" :: "_law_bag" :: "_law_take" :: "_law_of" :: "_law_worth" :: "_law_work" :: "_law_kept" :: "_law_read" :: "_law_right" :: ([] : List Str)) (XL (view (OpenLaw.row PySem.Challenge.rw_trackedreads_k70_ladders_of_answers).prog [25]) []) Tr.hk9.says (OpenLaw.row PySem.Challenge.rw_trackedreads_k70_ladders_of_answers).toRowW (HandSHeadRun.topDef (OpenLaw.row PySem.Challenge.rw_trackedreads_k70_ladders_of_answers).prog 25) [] fun f vs => PySem.call f vs) : PySem.Challenge.rw_trackedreads_k70_ladders_of_answers.Holds := by
  w_on; o_law
  refine HandSHeadRun.head_any (r := OpenLaw.row PySem.Challenge.rw_trackedreads_k70_ladders_of_answers) (q := view (OpenLaw.row PySem.Challenge.rw_trackedreads_k70_ladders_of_answers).prog [25]) (H := Tr.hk9) (ob := Tr.ob9) (M := 20000) (loose := ("_wall" :: "TrackedError" :: "NoName" :: "Taken" :: "TooLong" :: "Misplaced" :: "Busy" :: "Frame" :: "Thing" :: "Cell" :: "Runner" :: "Kept" :: "Effect" :: "Desk" :: "_law_bag" :: "_law_take" :: "_law_of" :: "_law_worth" :: "_law_work" :: "_law_kept" :: "_law_read" :: "_law_right" :: ([] : List Str))) (d := HandSHeadRun.topDef (OpenLaw.row PySem.Challenge.rw_trackedreads_k70_ladders_of_answers).prog 25) (kwd := []) Tr.ob9_eq
    (by kernel_rfl) (fun s => by kernel_rfl) Tr.run9 (by kernel_rfl) (by kernel_rfl) (by kernel_rfl) (by rfl) (by first | assumption | decide +kernel) (by decide +kernel) ⟨rfl, rfl, rfl, rfl, rfl, by decide +kernel⟩ ?hw hc
  case hw => w_witness2
end
set_option maxHeartbeats 2000000
namespace Tr
open PySem PySem.Spec PyProof.Rows L2
open AutoSeq1 (wpAny_loadPart')
/-- the iterator's object, the enumerate's -/
abbrev tio (l : Addr) : Obj := { cls := .type "tuple_iterator", data := .fields #[.ref l, .int 0 0] }
abbrev eno (n : Addr) : Obj := { cls := .type "enumerate", data := .fields #[.none, .bool false, .ref n, rawInt 0, .none, .none] }
theorem meets_enumT (l : Addr) (its : Array Value) (n : Nat) (dct : Option Addr) (sl : Array (Option Value)) :
    Meets (Builtin.«enumerate.__new__» ⟨[.type "enumerate", .ref l], []⟩)
      (fun _ R s => s.heap.get? l = some { cls := .type "tuple", dict := dct, data := .seq its n, slots := sl } ∧
        R (.ok (.ret (.ref (s.heap.push (tio l)).objs.size))) { s with heap := (s.heap.push (tio l)).push (eno s.heap.objs.size) }) :=
  .of_wp fun prog w A R s h => by
    obtain ⟨hp, g, d, tk, os⟩ := s
    obtain ⟨hl, h⟩ := h
    have hsub := PySem.sub_enumerate
    have hT : Heap.IsTuple (Shared.heap ⟨hp, g, d, tk, os⟩) l its := ⟨_, hl, rfl, n, rfl⟩
    wp_walk using wpAny_loadPart' hl
    refine PySem.wpAny_stack_any fun st => wpAny_pure ?_
    split
    case h_1 =>
      rename_i c _ _ _ _ _
      cases (c == Value.type "enumerate") <;> (wp_walk using wpAny_loadPart' hl, wpAny_pyIter_tuple hT; exact ⟨_, rfl, h⟩)
    case h_2 => wp_walk using wpAny_loadPart' hl, wpAny_pyIter_tuple hT; exact ⟨_, rfl, h⟩
theorem call_enumT {prog : Program} {w : World} {A : Around} {E : Value → Shared → Prop} {s : Shared} {l : Addr} {its : Array Value} {Q : Value → Shared → Prop} (hT : s.heap.IsTuple l its)
    (h : ∀ h', IsEnum h' (s.heap.objs.size + 1) s.heap.objs.size 0 .none → h'.IsTupleIter s.heap.objs.size l 0 → (∀ b o, s.heap.get? b = some o → h'.get? b = some o) → Q (.ref (s.heap.objs.size + 1)) { s with heap := h' }) :
    wpAny (model prog w) A (call (.type "enumerate") [.ref l]) Q E s := by
  obtain ⟨⟨c, dct, dt, sl⟩, hl, hc, n, hd⟩ := hT
  have hc' : c = .type "tuple" := hc
  have hd' : dt = .seq its n := hd
  subst hc' hd'
  refine callType_new F.called_enumerate (by decide) (F.typeCall_enumerate_1 _) (F.newCall_enumerate_1 _)
    (fun obj => F.args_object_init_2 obj _) F.entry_enumerate_new (meets_enumT l its n dct sl) ⟨hl, ?_⟩
  have hz : (s.heap.push (tio l)).objs.size = s.heap.objs.size + 1 := Heap.size_push ..
  show _ ∧ _
  rw [hz]
  have he : IsEnum ((s.heap.push (tio l)).push (eno s.heap.objs.size)) (s.heap.objs.size + 1) s.heap.objs.size 0 .none := by
    have z := Heap.get?_push_size (s.heap.push (tio l)) (o := eno s.heap.objs.size) rfl
    rw [hz] at z
    exact z
  refine ⟨⟨_, he, rfl⟩, h _ he ⟨_, Heap.get?_push_of_some _ (Heap.get?_push_size _ rfl), rfl, rfl⟩ fun b o x => ?_⟩
  exact Heap.get?_push_of_some _ (Heap.get?_push_of_some _ x)
theorem draws_tup {prog : Program} {w : World} {A : Around} (hh : A.handled = none) (it l : Addr) (hne : l ≠ it) (its : Array Value) :
    Draws prog w A it [it, l] its.size (fun i v => its[i]? = some v) (fun i h => h.IsTupleIter it l i ∧ h.IsTuple l its) where
  live := fun _ _ st => by
    obtain ⟨o, ho, _⟩ := st.1
    exact ⟨o, ho⟩
  frame := fun _ _ _ st hk => by
    obtain ⟨⟨o, ho, r⟩, ⟨o2, ho2, r2⟩⟩ := st
    exact ⟨⟨o, hk it (by simp) o ho, r⟩, ⟨o2, hk l (by simp) o2 ho2, r2⟩⟩
  item := fun i s Q E hi st hQ => by
    refine RZ.nextOf_tuple_item st.1 st.2 (x := its[i]) (by simp [hi]) fun h' hit' hs' => ?_
    obtain ⟨o2, ho2, r2⟩ := st.2
    exact hQ _ h' s.toks (by simp [hi]) ⟨hit', o2, (hs'.2 l hne).trans ho2, r2⟩ hs'
  done := fun s Q E st hE => RZ.nextOf_tuple_end hh st.1 st.2 (by simp) hE
/-- the tuple at a as it stands at each turn, each item in a new pair -/
def IteT (K : PySem.W.Frag) (a : Addr) : It :=
  ⟨fun i H => ∃ (xs : List V) (x : V), SqT K H a xs ∧ xs[i]? = some x,
   fun i H v H' => ∃ T x, v = .ref T ∧ H T = none ∧ H' = upd H T (.tup [.int (i : Nat), x]) ∧ ∀ xs, SqT K H a xs → xs[i]? = some x,
   fun i H => ∃ xs : List V, SqT K H a xs ∧ xs.length ≤ i⟩
theorem turn_enumT {P : Program} {w : World} {K : PySem.W.Frag} {elts : List Expr} {kk : Nat} {tpos : Pos} (a e it : Addr) (ha : a ≠ it) (hae : a ≠ e) :
    Turn P w K (.Tuple elts kk tpos) (IteT K a) [e, it] e (fun i h => (∃ old, IsEnum h e it ((i : Nat) : Int) old) ∧ h.IsTupleIter it a i ∧ e ≠ it) where
  mem := by simp
  obj := fun i h st b hb => by
    obtain ⟨⟨old, he⟩, ⟨o, ho, hc, hd⟩, _⟩ := st
    have e' : b = e ∨ b = it := by simpa using hb
    rcases e' with rfl | rfl
    · exact ⟨_, he, fun v q => nomatch q⟩
    · exact ⟨o, ho, fun v q => by rw [hd] at q; cases q⟩
  keep := fun i h h' st k => by
    obtain ⟨⟨old, he⟩, ⟨o, ho, r⟩, hne⟩ := st
    exact ⟨⟨old, k e (by simp) _ he⟩, ⟨o, k it (by simp) o ho, r⟩, hne⟩
  item := by
    intro X hP hw hK hc i pins s σ H E I hf st hg
    subst hP hw hK
    obtain ⟨⟨old, he⟩, hit, hne⟩ := st
    obtain ⟨xs, x, hq, hx⟩ := hg
    obtain ⟨its, rv, p, hz⟩ := I.tuple hq
    obtain ⟨u, hu, ru⟩ := rv.get hx
    have p' : s.heap.IsTuple a its.toArray := p
    have hel : e < s.heap.objs.size := Heap.lt_size he
    have hil : it < s.heap.objs.size := by obtain ⟨_, q, _⟩ := hit; exact Heap.lt_size q
    have hlt : i < its.toArray.size := by
      have := (List.getElem?_eq_some_iff.mp hu).1
      simpa using this
    have D := draws_tup (prog := X.prog) (w := X.w) (A := X.A.in1) (I.ok.hd hc) it a ha its.toArray
    refine wpAny_pyNext_enum_itemD D he ⟨hit, p'⟩ hlt hne (by simp [hne, Ne.symm hae]) fun y h' tk hy ho hst hT hsz hk => ?_
    have ey : y = u := by
      rw [List.getElem?_toArray, hu] at hy
      exact (Option.some.inj hy).symm
    subst ey
    refine ⟨_, rfl, wpAny_letOwnedTupleGo_enum (s := { s with heap := h', toks := tk + 1 }) ho fun h'' he' sb => ?_⟩
    have hT2 : h''.get? s.heap.objs.size = some { cls := .type "tuple", data := .seq #[.int i tk, y] } := (sb.2 _ (Nat.ne_of_gt hel)).trans hT
    have new : ObjOk X.prog X.w (upd H s.heap.objs.size (.tup [.int (i : Nat), x])) h'' s.heap.objs.size (.tup [.int (i : Nat), x]) :=
      ⟨by show 2 ≤ sizeLine; decide, [.int i tk, y], .cons ⟨_, rfl⟩ (.cons ru .nil), ⟨_, hT2, rfl, _, rfl⟩⟩
    have keep : ∀ b ob, b ∉ [e, it] → s.heap.get? b = some ob → h''.get? b = some ob := fun b ob hb q => by
      have b1 : b ≠ e := fun z => hb (by simp [z])
      have b2 : b ≠ it := fun z => hb (by simp [z])
      exact (sb.2 b b1).trans (hk b ob b1 b2 q)
    have I1 : Inv X pins σ (upd H s.heap.objs.size (.tup [.int (i : Nat), x])) { s with heap := h'', toks := tk + 1 } :=
      I.turnedNew (ch := [e, it]) keep hf (Nat.le_refl _) new
    have e1 : ((i + 1 : Nat) : Int) = (i : Int) + 1 := by omega
    obtain ⟨o2, ho2, r2⟩ := hst.1
    refine ⟨.ref s.heap.objs.size, _, I1, rfl, ⟨_, x, rfl, I.hok.fresh (Nat.le_refl _), rfl, fun ys hy => ?_⟩, ⟨⟨y, by rw [e1]; exact he'⟩, ⟨o2, (sb.2 it (Ne.symm hne)).trans ho2, r2⟩, hne⟩, fun b hb => ?_⟩
    · rw [I.tuple_inj hy hq]
      exact hx
    · have hb' : b < s.heap.objs.size := by
        have z : b = e ∨ b = it := by simpa using hb
        rcases z with rfl | rfl
        · exact hel
        · exact hil
      rw [upd_ne (Nat.ne_of_lt hb')]
      exact (hf b hb).1
  done := by
    intro X hP hw hK hc i pins s σ H E I hf st hg
    subst hP hw hK
    obtain ⟨⟨old, he⟩, hit, hne⟩ := st
    obtain ⟨xs, hq, hx⟩ := hg
    obtain ⟨its, rv, p, hz⟩ := I.tuple hq
    have p' : s.heap.IsTuple a its.toArray := p
    obtain ⟨f0, f1, f2, f3, f4, f5⟩ := hf it (by simp)
    have hl := rv.length
    have hT : s.TypeIs (.ref e) "enumerate" := ⟨_, he, rfl⟩
    unfold pyNext
    refine wpAny_bind (wpAny_attempt (wpAny_callSpecial?_slot (name := Str.ofString "__next__") hT F.slot_enumerate_next
      (wpAny_call_entry F.slot_enumerate_next hT F.entry_enumerate_next ?_ (F.args_enumerate_next_1 _))))
    show wpAny _ _ (field (.ref e) 2 >>= _) _ _ _
    refine wpAny_bind (wpAny_field he rfl (x := .ref it) rfl (wpAny_bind ?_))
    refine RZ.nextOf_tuple_end (I.ok.hd hc) hit p' (by simp; omega) fun h' ex eb hx' => ?_
    obtain ⟨o, ho, hcl⟩ := hx'
    refine wpAny_bind (wpAny_isInstance (T := "StopIteration") (b := true) ⟨o, ho, hcl⟩ isSubtype_stop (wpAny_pure ?_))
    exact ⟨rfl, I.turned (t' := s.toks) (fun b o hb q => eb b o hb q) f0 f1 f3 f4 f5⟩
  self := fun A i s Q E st h => by
    obtain ⟨⟨_, he⟩, _⟩ := st
    exact wpAny_pyIter_enum he h
def iEnumT (K : PySem.W.Frag) (ta : TA) : TI := fun σ H R => ta σ H fun vs H1 => ∃ a xs, vs = [.ref a] ∧ SqT K H1 a xs ∧ R (IteT K a) H1
theorem pi_enumT {X : Cx} {e : Expr} {ta : TA} {p pos tpos : Pos} {elts : List Expr} {kk : Nat} (hg : Gl X "enumerate") (hm : X.mg "enumerate" = none)
    (ha : PA X [e] ta) (hs : starEach [e] X.env = [(false, eval e X.env)] := by rfl) :
    PI X (.Tuple elts kk tpos) (.Call (.Name "enumerate" p) [e] [] pos) (iEnumT X.K ta) := by
  constructor
  intro pins s σ H R I h
  refine Call_ (ld_blt I hg hm boot_enumerate (PyProof.Rows.callWith_type1 (thn (ha.run pos pins s σ H _ I h) fun us s1 hh => ?_) hs rfl))
  obtain ⟨vs, H1, I1, r1, a, xs, ex, hq, q⟩ := hh
  subst ex
  cases r1 with
  | cons r rr =>
    cases rr
    cases r
    obtain ⟨its, rv, p', hz⟩ := I1.tuple hq
    have pt : s1.heap.IsTuple a its.toArray := p'
    have hal : a < s1.heap.objs.size := by obtain ⟨_, z, _⟩ := pt; exact Heap.lt_size z
    refine call_enumT pt fun h' he hit hk => wpAny_pyIter_enum he ?_
    have I2 : Inv X pins σ H1 { s1 with heap := h' } := I1.kept (t' := s1.toks) hk
    refine ⟨s1.heap.objs.size + 1, [s1.heap.objs.size + 1, s1.heap.objs.size], _, _, H1, rfl, I2,
      turn_enumT a (s1.heap.objs.size + 1) s1.heap.objs.size (Nat.ne_of_lt hal) (Nat.ne_of_lt (Nat.lt_succ_of_lt hal)), ⟨⟨.none, he⟩, hit, Nat.succ_ne_self _⟩, fun b hb => ?_, q⟩
    have z : b = s1.heap.objs.size + 1 ∨ b = s1.heap.objs.size := by simpa using hb
    have hle : s1.heap.objs.size ≤ b := by
      rcases z with rfl | rfl
      · exact Nat.le_succ _
      · exact Nat.le_refl _
    exact I1.fpOk hle (I1.hok.fresh hle)
theorem walk_enumT {K : PySem.W.Frag} {a : Addr} {xs : List V} : Walk (IteT K a) xs.length (fun H => SqT K H a xs) (YPair (fun i => some (.int (i : Nat))) (fun i => xs[i]?)) := by
  refine ⟨fun i _ hi q => ⟨xs, xs[i], q, by simp [hi]⟩, fun _ q => ⟨xs, q, Nat.le_refl _⟩, fun i H v H' _ q y => ?_⟩
  obtain ⟨T, x, h1, h2, h3, h4⟩ := y
  exact ⟨T, .int (i : Nat), x, h1, h2, h3, rfl, h4 xs q⟩
/-- for i, x in enumerate(t), t a tuple of the slot j -/
theorem s_forEnumT {σ : L2.St} {H : Hp} {K : PySem.W.Frag} {p : Addr} {xs : List V} {g : TG} {tb : TS} {j : Nat} {na : L2.St → Hp → Prop} {rt : VK} {bk ct : L2.St → Hp → Prop} (hv : σ[j]? = some (some (.ref p))) (hp : H p = some (.tup xs)) (Pv : Nat → L2.St → Hp → Prop) (h0 : Pv 0 σ H)
    (hG : ∀ i σ H, i ≤ xs.length → Pv i σ H → H p = some (.tup xs))
    (hs : ∀ i x T σ H, xs[i]? = some x → Pv i σ H → H T = none → g (.ref T) σ (upd H T (.tup [.int (i : Nat), x])) fun σ2 H2 => tb ⟨Pv (i + 1), rt, na, Pv (i + 1)⟩ σ2 H2)
    (hd : ∀ σ H, Pv xs.length σ H → na σ H) : tFor (iEnumT K (tCons (tVar j) tNil)) g tb ⟨na, rt, bk, ct⟩ σ H := by
  refine ⟨_, hv, p, xs, rfl, SqT.of hp, ?_⟩
  refine for_it (D := ⟨na, rt, bk, ct⟩) (walk_enumT (xs := xs)) Pv h0 (fun i σ H hi pv => SqT.of (hG i σ H hi pv)) ?_ hd
  rintro i x σ H H' hi pv ⟨T, x1, y1, rfl, hT, rfl, e1, e2⟩
  cases e1
  exact hs i y1 T σ H e2 pv hT
end Tr
namespace Tr
open PySem PySem.Spec PyProof.Rows L2
section
variable {X : Cx} {CX : CXT} {k : Nat} {f C : Addr} {fd : FuncData} {ps : List Str} {sp : Sp} {E : XK}
/-- the callee runs, somewhere below the running body -/
theorem run_fnA {pins : List (Addr × Obj)} {σ : L2.St} {H : Hp} {s : Shared} {Q : VK} {us : List Value} {vs : List V} {A : Around} (F : FnOk X.prog X.w X.K X.mg X.base CX k f fd ps sp) (hr : Room k A) (hA : A.frames = X.A.frames) (hb : Binds X.K fd ps []) (hx : Passes CX X E)
    (I : Inv X pins σ H s) (r : Vals vs us) (h : sp vs H Q E) : wpAny (model X.prog X.w) A (call (.ref f) us) (EP X pins σ Q) X.xe s := by
  have e0 : L2.Env0 X.prog X.w X.K X.mg X.base A X.stack s H := by
    have e := I.env0
    exact ⟨by rw [hA]; exact e.frames, e.mod, e.bs, e.bsz, e.funs, e.frf, e.hok, e.bare⟩
  have hl : (us ++ []).length = ps.length := by rw [List.append_nil, ← r.length]; exact F.len _ _ _ _ h
  have hb' := hb s us I.kIn hl
  rw [List.append_nil] at hb'
  refine wpAny_call (codeAny_mono (F.run A X.stack s H ⟨us, []⟩ us vs Q E hr e0 hb' r h) fun r s' hq => ?_)
  cases r with
  | error e => exact hx pins σ H s e s' I hq
  | ok fl =>
    cases fl with
    | ret u => exact I.after hq
    | next => exact False.elim hq
    | brk => exact False.elim hq
    | cont => exact False.elim hq
/-- x in o -/
def rInO (C : Addr) (sp : Sp) (E : XK) (neg : Bool) : R2 := fun x y H Q => ∃ (o dx : Addr) (fs : List (Str × V)), y = .ref o ∧ H o = some (.ins C dx fs) ∧ sp [.ref o, x] H (fun v H' => ∃ b, v = .bl b ∧ Q (.bl (if neg then !b else b)) H') E
theorem op_inO (hs : PySem.W.findIn X.K (.ref C) "__contains__" = some (some (.ref f))) (hf : PySem.W.isFn X.K (.ref f) = true) (F : FnOk X.prog X.w X.K X.mg X.base CX k f fd ps sp) (hr : Room k X.A) (hb : Binds X.K fd ps []) (hx : Passes CX X E) : OpR X (compareOp .In) (rInO C sp E false) := by
  intro pins s σ H x y v u Q I rx ry h
  obtain ⟨o, dx, fs, rfl, ho, h⟩ := h
  cases ry
  obtain ⟨mA, J, _⟩ := ins_get I.hok ho
  obtain ⟨od, J, _⟩ := J.look
  obtain ⟨m, hF⟩ := I.fr
  refine PySem.W.in_K hF I.ok.mod.kin J hs hf (wpAny_mono (run_fnA (vs := [.ref o, x]) F hr rfl hb hx I (.cons rfl (.cons rx .nil)) h) (fun r s' hq => ?_) fun _ _ e => e)
  obtain ⟨z, H', I', rz, b, rfl, q⟩ := hq
  cases rz
  exact wpAny_pure ⟨.bl b, H', I', rfl, q⟩
theorem op_ninO (hs : PySem.W.findIn X.K (.ref C) "__contains__" = some (some (.ref f))) (hf : PySem.W.isFn X.K (.ref f) = true) (F : FnOk X.prog X.w X.K X.mg X.base CX k f fd ps sp) (hr : Room k X.A) (hb : Binds X.K fd ps []) (hx : Passes CX X E) : OpR X (compareOp .NotIn) (rInO C sp E true) := by
  intro pins s σ H x y v u Q I rx ry h
  obtain ⟨o, dx, fs, rfl, ho, h⟩ := h
  cases ry
  obtain ⟨mA, J, _⟩ := ins_get I.hok ho
  obtain ⟨od, J, _⟩ := J.look
  obtain ⟨m, hF⟩ := I.fr
  refine PySem.W.notIn_K hF I.ok.mod.kin J hs hf (wpAny_mono (run_fnA (vs := [.ref o, x]) F hr rfl hb hx I (.cons rfl (.cons rx .nil)) h) (fun r s' hq => ?_) fun _ _ e => e)
  obtain ⟨z, H', I', rz, b, rfl, q⟩ := hq
  cases rz
  exact wpAny_pure ⟨.bl (!b), H', I', rfl, q⟩
/-- len(o) -/
def rLenO (C : Addr) (sp : Sp) (E : XK) : List V → Hp → VK → Prop := fun xs H Q => ∃ (o dx : Addr) (fs : List (Str × V)), xs = [.ref o] ∧ H o = some (.ins C dx fs) ∧ sp [.ref o] H (fun v H' => ∃ n : Int, v = .int n ∧ (0 ≤ n ∧ n < 2 ^ 63) ∧ Q (.int n) H') E
theorem call_lenO (hs : PySem.W.findIn X.K (.ref C) "__len__" = some (some (.ref f))) (hf : PySem.W.isFn X.K (.ref f) = true) (F : FnOk X.prog X.w X.K X.mg X.base CX k f fd ps sp) (hr : Room k X.A.in1) (hA : X.A.in1.frames = X.A.frames) (hb : Binds X.K fd ps []) (hx : Passes CX X E) : CallR X (.builtin "len") (rLenO C sp E) := by
  intro pins s σ H xs us Q I r h
  obtain ⟨o, dx, fs, rfl, ho, h⟩ := h
  cases r with
  | cons r1 r2 =>
  cases r2
  cases r1
  obtain ⟨mA, J, _⟩ := ins_get I.hok ho
  obtain ⟨od, J, _⟩ := J.look
  obtain ⟨m, hF⟩ := I.fr
  refine PySem.W.len_K hF I.ok.mod.kin J hs hf (wpAny_mono (run_fnA (vs := [.ref o]) F hr hA hb hx I (.cons rfl .nil) h) (fun r s' hq => ?_) fun _ _ e => e)
  obtain ⟨z, H', I', rz, n, rfl, hn, q⟩ := hq
  obtain ⟨t, rfl⟩ := rz
  exact ⟨hn, .int n, H', I'.tok _, ⟨_, rfl⟩, q⟩
end
end Tr
namespace L2
open PySem PySem.Spec PyProof.Rows
section
variable {X : Cx} {CI CL : CXT} {n : Nat} {C fi fl q it l : Addr} {fdI fdL : FuncData} {psI psL : List Str} {spI spL : Sp} {pins : List (Addr × Obj)} {σ : L2.St} {A1 : Around} {xs : List V}
theorem it_loop {Rs : Result → Shared → Prop} (hc : X.calm = true) (hd : A1.in1.handled = none) : ∀ (m i : Nat) (acc : List V) (H : Hp) (s : Shared), xs.length - i = m → i ≤ xs.length → acc.length + (xs.length - i) ≤ sizeLine → Inv X pins σ H s → H q = some (.lst acc) → H it = some (ItO l it i) → H l = some (.lst xs) → q ≠ l → q ≠ it → l ≠ it →
    (∀ H' s', Inv X pins σ H' s' → H' q = some (.lst (acc ++ xs.drop i)) → (∀ b, b ≠ q → b ≠ it → H' b = H b) → Rs (.ok (.ret .none)) s') → codeAny (model X.prog X.w) A1 (.builtin "list.extend.loop" ⟨[.ref q, .ref it, .none], []⟩) Rs s := by
  intro m
  induction m with
  | zero =>
    intro i acc H s hm hi hz I hq hit hl n1 n2 n3 hR
    have e : i = xs.length := by omega
    subst e
    refine codeAny_builtin PySem.F.entry_extend_loop ?_
    rw [Around.under_plainId PySem.F.plain_extend_loop _]
    show wpAny _ A1.in1 (pyNext (.ref it) >>= _) _ _ s
    obtain ⟨its, rv, pl, hz2⟩ := I.list (SqL.of hl)
    have mu : Mut (H it) := by rw [hit]; exact True.intro
    refine wpAny_bind (DSub.py_end hd (itO_get I hit) pl.isList (by rw [List.getElem?_toArray]; exact rv.none_of (by simp)) fun h' e1 sb => ?_)
    have I2 : Inv X pins σ (upd H it (ItE it xs.length)) { s with heap := h' } := I.write (x := it) (e := it) (t' := s.toks) mu (.inl rfl) (fun b o nb z => sb b o nb z) ⟨_, e1⟩ (itE_ok e1)
    exact wpAny_pure (hR _ _ I2 (by rw [upd_ne n2, hq]; simp) fun b _ hb => upd_ne hb)
  | succ m ih =>
    intro i acc H s hm hi hz I hq hit hl n1 n2 n3 hR
    have hlt : i < xs.length := by omega
    obtain ⟨x, hx⟩ : ∃ x, xs[i]? = some x := ⟨_, List.getElem?_eq_getElem hlt⟩
    refine codeAny_builtin PySem.F.entry_extend_loop ?_
    rw [Around.under_plainId PySem.F.plain_extend_loop _]
    show wpAny _ A1.in1 (pyNext (.ref it) >>= _) _ _ s
    obtain ⟨its, rv, pl, hz2⟩ := I.list (SqL.of hl)
    obtain ⟨u, hu, ru⟩ := rv.get hx
    have mu : Mut (H it) := by rw [hit]; exact True.intro
    refine wpAny_bind (DSub.py_item (itO_get I hit) pl.isList (by rw [List.getElem?_toArray]; exact hu) fun h' e1 sb => ?_)
    have I2 : Inv X pins σ (upd H it (ItO l it (i + 1))) { s with heap := h' } := I.write (x := it) (e := it) (t' := s.toks) mu (.inl rfl) (fun b o nb z => (sb.2 b nb).trans z) ⟨_, e1⟩ (itO_ok e1)
    show wpAny _ A1.in1 (updateSeq q (·.push u) >>= _) _ _ _
    have hq2 : upd H it (ItO l it (i + 1)) q = some (.lst acc) := by rw [upd_ne n2]; exact hq
    obtain ⟨z, its2, k, r2, hl2, e2⟩ := I2.lstM hq2
    refine wpAny_bind (wpAny_updateSeq e2 rfl (wpAny_pure ⟨plainId_quiet PySem.F.plain_extend_loop _, ?_⟩) (by rw [List.size_toArray]; omega) (by show (its2.toArray.push u).size ≤ sizeLine + 1; rw [Array.size_push, List.size_toArray]; omega))
    refine ih (i + 1) (acc ++ [x]) _ _ (by omega) hlt (by rw [List.length_append, List.length_singleton]; omega) (I2.lset (its' := its2 ++ [u]) (t' := s.toks) hq2 e2 (by simp) (r2.append (.cons ru .nil)) (by rw [List.length_append, List.length_singleton]; omega)) upd_same (by rw [upd_ne (Ne.symm n2)]; exact upd_same) (by rw [upd_ne (Ne.symm n1), upd_ne n3]; exact hl) n1 n2 n3 fun H' s' I' h1 h2 => hR H' s' I' ?_ fun b b1 b2 => by rw [h2 b b1 b2, upd_ne b1, upd_ne b2]
    have ed : xs.drop i = x :: xs.drop (i + 1) := by
      obtain ⟨hi2, e⟩ := List.getElem?_eq_some_iff.mp hx
      rw [← e]; exact List.drop_eq_getElem_cons hi2
    rw [h1, ed]; simp
theorem len_hint {M : World} {K : PySem.W.Frag} {pg : Program} {A : Around} {E : Value → Shared → Prop} {s : Shared} {Q : Bool → Shared → Prop} {h0 : Heap} {L0 : Addr} {m0 : Str → Option Value} {ox : Obj} {od : Option Obj} {a : Addr} (F : Fr h0 L0 s.heap m0) (X0 : K.In h0) (J : PySem.W.InstAt s.heap a ox C od)
    (hl : PySem.W.findIn K (.ref C) "__len__" = some (some (.ref fl))) (hf : PySem.W.isFn K (.ref fl) = true)
    (h : wpAny (model pg M) A (call (.builtin "len") [.ref a]) (fun v s' => ∃ (k : Nat) (t : Tok), v = .int k t ∧ k ≤ sizeLine ∧ Q ((k : Int) != 0) s') (fun e s' => False) s) : wpAny (model pg M) A (Builtin.List.listLengthHint (.ref a)) Q E s := by
  have X := X0.keeps F.keep
  unfold Builtin.List.listLengthHint
  refine wpAny_bind (wpAny_bind (J.type.here ((PySem.W.looks_findIn X hl).here ?_)))
  refine PySem.W.KFB.if_not rfl ?_
  refine wpAny_ite_split (fun _ => ?_) (fun z => absurd rfl z)
  refine wpAny_bind (wpAny_rule ?_)
  refine wpAny_bind (wpAny_attempt (wpAny_mono h (fun v s' hv => ?_) fun e s' z => z.elim))
  obtain ⟨k, t, rfl, hk, q⟩ := hv
  refine wpAny_bind (wpAny_of_eq (a := some (k : Int)) (by first | rfl | kernel_rfl) ?_)
  refine wpAny_ite_split (fun z => ?_) (fun _ => wpAny_pure q)
  exact absurd z (by unfold Builtin.List.listTooLong; rw [decide_eq_true_eq]; have : ((k : Nat) : Int).toNat = k := Int.toNat_natCast k; omega)
/-- list(o) -/
def rListIt (C : Addr) (spI spL : Sp) : List V → Hp → VK → Prop := fun vs H Q => ∃ (a dx : Addr) (fs : List (Str × V)), vs = [.ref a] ∧ H a = some (.ins C dx fs) ∧ ∀ q, H q = none →
  spI [.ref a] (upd H q (.lst [])) (fun v H1 => ∃ (it l : Addr) (xs : List V), v = .ref it ∧ H1 it = some (ItO l it 0) ∧ H1 l = some (.lst xs) ∧ H1 q = some (.lst []) ∧ q ≠ l ∧ q ≠ it ∧ H1 a = some (.ins C dx fs) ∧
    spL [.ref a] H1 (fun v2 H2 => ∃ k : Nat, v2 = .int k ∧ k ≤ sizeLine ∧ H2 = H1) E0 ∧ ∀ H3, (∀ b, b ≠ q → b ≠ it → H3 b = H1 b) → H3 q = some (.lst xs) → Q (.ref q) H3) E0
theorem call_listIt (hsI : PySem.W.findIn X.K (.ref C) "__iter__" = some (some (.ref fi))) (hfI : PySem.W.isFn X.K (.ref fi) = true) (hsL : PySem.W.findIn X.K (.ref C) "__len__" = some (some (.ref fl))) (hfL : PySem.W.isFn X.K (.ref fl) = true)
    (FI : FnOk X.prog X.w X.K X.mg X.base CX0 n fi fdI psI spI) (bI : Binds X.K fdI psI []) (FL : FnOk X.prog X.w X.K X.mg X.base CX0 n fl fdL psL spL) (bL : Binds X.K fdL psL []) (hr : Room (n + 4) X.A) (hcalm : X.calm = true) : CallR X (.type "list") (rListIt C spI spL) := by
  intro pins s σ H xs us Q I rv h
  obtain ⟨a, dx, fs, rfl, ha, hq⟩ := h
  obtain ⟨u, rfl, ru⟩ := rv.one
  cases ru
  have px : ∀ σ, PassesAt CX0 X σ E0 := fun σ pins H s e s' _ z => z.elim
  refine callType_codes (Q₁ := fun obj s₁ => obj = .ref s.heap.objs.size ∧ s₁ = { s with heap := s.heap.push { cls := .type "list", data := .seq #[] } }) PySem.F.called_list (PySem.F.typeCall_list_1 _) PySem.F.entry_list_init
    (code_list_new _ ⟨rfl, rfl⟩) fun obj s₁ h₁ => ?_
  obtain ⟨rfl, rfl⟩ := h₁
  have hS : (s.heap.push { cls := .type "list", data := .seq #[] }).get? s.heap.objs.size = some { cls := .type "list", data := .seq #[] } := Heap.get?_push_size _ rfl
  refine ⟨⟨_, hS, rfl⟩, PySem.F.args_list_init_2 _ _, ?_⟩
  have fr : H s.heap.objs.size = none := I.hok.fresh (Nat.le_refl _)
  have hsp := hq _ fr
  have I1 : Inv X pins σ (upd H s.heap.objs.size (.lst [])) { s with heap := s.heap.push { cls := .type "list", data := .seq #[] } } := I.lnew (its := []) (t' := s.toks) .nil (Nat.zero_le _)
  show wpAny _ _ (do let old ← Builtin.List.listItems (.ref s.heap.objs.size); Builtin.List.listUpdate (.ref s.heap.objs.size) (fun _ => #[]); letGo old.toList.reverse; Builtin.List.listExtendWith (.ref s.heap.objs.size) (.ref a) .none) _ _ _
  refine wpAny_bind ?_
  unfold Builtin.List.listItems
  refine wpAny_bind (wpAny_seqItems hS rfl (wpAny_pure ?_))
  show wpAny _ _ (updateSeq s.heap.objs.size (fun _ => #[]) >>= fun _ => letGo (#[] : Array Value).toList.reverse >>= fun _ => Builtin.List.listExtendWith (.ref s.heap.objs.size) (.ref a) .none) _ _ _
  refine wpAny_bind (wpAny_updateSeq hS rfl ?_)
  have I2 := I1.lset (f := fun _ => #[]) (its := []) (its' := []) (ys := []) (t' := s.toks) upd_same hS rfl .nil (Nat.zero_le _)
  rw [upd_upd] at I2
  refine wpAny_bind (wpAny_letGo ?_)
  have ha2 : upd H s.heap.objs.size (.lst []) a = some (.ins C dx fs) := by rw [upd_ne (ne_of_none ha fr)]; exact ha
  have hne : s.heap.objs.size ≠ a := Ne.symm (ne_of_none ha fr)
  generalize s.heap.objs.size = q at *
  generalize upd H q (.lst []) = Hq at *
  obtain ⟨mA, J, _⟩ := ins_get I2.hok ha2
  obtain ⟨od, J, _⟩ := J.look
  obtain ⟨m0, hF⟩ := I2.fr
  unfold Builtin.List.listExtendWith
  refine wpAny_bind (J.type.here ?_)
  have h1 : Builtin.List.listSameRef (.ref q) (.ref a) = false := by simp [Builtin.List.listSameRef, hne]
  have h2 : (Value.ref C == Value.type "list") = false := rfl
  have h3 : (Value.ref C == Value.type "tuple") = false := rfl
  simp only [h1, h2, h3, Bool.or_false, Bool.false_eq_true, if_false]
  refine wpAny_bind (PySem.W.owit_iter hF I2.ok.mod.kin J hsI hfI ?_)
  refine wpAny_mono (call_fnAt (vs := [.ref a]) FI (hr.in1.in1.mono (by omega)) rfl bI (px σ) I2 (.cons rfl .nil) hsp) (fun r s3 hr3 => ?_) fun e s3 he => he
  obtain ⟨v, H1, I3, rv3, it, l, xs, rfl, hit, hl, hq1, nql, nqi, ha1, hsp2, hk⟩ := hr3
  cases (show r = Value.ref it from rv3)
  have hh : X.A.in1.in1.handled = none := I.ok.hd hcalm
  have nli : l ≠ it := ne_of hl hit (fun z => nomatch z)
  unfold PySem.W.OwitIt
  refine wpAny_specialOf (T := "list_iterator") (DSub.iter_of (itO_get I3 hit)).typeIs slot_listiter_next.lookup ?_
  obtain ⟨mA2, J2, _⟩ := ins_get I3.hok ha1
  obtain ⟨od2, J2, _⟩ := J2.look
  obtain ⟨m2, hF2⟩ := I3.fr
  refine wpAny_bind (wpAny_holding (len_hint hF2 I3.ok.mod.kin J2 hsL hfL (PySem.W.len_K hF2 I3.ok.mod.kin J2 hsL hfL (wpAny_mono (call_fnAt (X := X.wish fun _ _ => False) (vs := [.ref a]) FL (hr.in1.in1.in1.mono (by omega)) rfl bL (fun pins H s e s' _ z => z.elim) (I3.wish _) (.cons rfl .nil) hsp2) (fun r4 s4 hr4 => ?_) fun e s4 he => he)))) 
  obtain ⟨v4, H4, I4, rv4, k, rfl, hk4, e4H⟩ := hr4
  rw [e4H] at I4
  obtain ⟨t4, rfl⟩ := rv4
  refine ⟨by rw [sizeLine_eq] at hk4; omega, k, _, rfl, hk4, ?_⟩
  have I5 : Inv X pins σ H1 { s4 with toks := s4.toks + 1 } := (I4.unwish).tok _
  have last : ∀ s5, Inv X pins σ H1 s5 → codeAny (model X.prog X.w) X.A.in1 (.builtin "list.extend.loop" ⟨[.ref q, .ref it, .none], []⟩) (wants (fun r s₂ => r = .none ∧ EP X pins σ Q (.ref q) s₂) X.xe) s5 := fun s5 I => by
    obtain ⟨_, _, _, hz⟩ := I.list (SqL.of hl)
    exact it_loop hcalm hh _ 0 [] H1 s5 rfl (Nat.zero_le _) (by simpa using hz) I hq1 hit hl nql nqi nli fun H' s' I' e1 e2 => ⟨rfl, .ref q, H', I', rfl, hk H' e2 (by simpa using e1)⟩
  refine wpAny_ite_split (fun _ => ?_) (fun _ => wpAny_pure ⟨plainId_quiet PySem.F.plain_extend_loop _, last _ I5⟩)
  refine wpAny_bind (wpAny_rule ?_)
  refine wpAny_bind ?_
  show wpAny _ _ (updateSeq q (·.push .none) >>= fun _ => updateSeq q (·.pop)) _ _ _
  obtain ⟨z, its, kk, r3, hl3, e3⟩ := I5.lstM hq1
  cases r3
  refine wpAny_bind (wpAny_updateSeq e3 rfl ?_)
  have I6 := I5.lset (f := (·.push Value.none)) (its' := [Value.none]) (ys := [.non]) (t' := s4.toks + 1) hq1 e3 (by simp) (.cons rfl .nil) (by rw [List.length_singleton, sizeLine_eq]; decide)
  obtain ⟨z4, its4, k4, r4, hl4, e4⟩ := I6.lstM upd_same
  obtain ⟨u4, rfl, ru4⟩ := r4.one
  refine wpAny_updateSeq e4 rfl ?_ (by show 1 ≤ sizeLine; rw [sizeLine_eq]; decide) (by show 0 ≤ sizeLine + 1; exact Nat.zero_le _)
  refine wpAny_pure ⟨plainId_quiet PySem.F.plain_extend_loop _, last _ ?_⟩
  have I7 := I6.lset (f := (·.pop)) (its := [u4]) (its' := []) (ys := []) (t' := s4.toks + 1) upd_same e4 (by rfl) .nil (Nat.zero_le _)
  rw [upd_upd] at I7
  have hH : upd H1 q (.lst []) = H1 := by
    funext b
    by_cases hb : b = q
    · rw [hb, upd_same, hq1]
    · rw [upd_ne hb]
  rw [hH] at I7
  exact I7
end
end L2
namespace L2
open PySem PySem.Spec PyProof.Rows
def tFin0 (tb tf : TS) : TS := fun D σ H => tb ⟨fun σ1 H1 => tf D σ1 H1, fun _ _ => False, fun _ _ => False, fun _ _ => False⟩ σ H
theorem ps_fin0 {X : Cx} {body : List Stmt} {f₀ : Stmt} {fs : List Stmt} {pos : Pos} {tb tf : TS} (hb : PSs X.nox body tb) (hf : PSs X.nox (f₀ :: fs) tf) : PS X (.Try body [] [] (f₀ :: fs) pos) (tFin0 tb tf) := by
  refine ⟨fun pins s σ H D I h => ?_⟩
  refine wpAny_Try_finally ?_
  refine wpAny_mono (hb.run pins s σ H _ (I.wish _) h) (fun g s1 z => ?_) fun _ _ e => False.elim e
  cases g with
  | ret u =>
    obtain ⟨_, _, _, _, _, q⟩ := z
    exact False.elim q
  | brk =>
    obtain ⟨_, _, _, q⟩ := z
    exact False.elim q
  | cont =>
    obtain ⟨_, _, _, q⟩ := z
    exact False.elim q
  | next =>
    obtain ⟨σ1, H1, J1, q1⟩ := z
    refine wpAny_execs_nil ?_
    refine wpAny_mono (hf.run pins s1 σ1 H1 D (J1.unwish.wish _) q1) (fun g2 s2 q2 => ?_) fun _ _ e => False.elim e
    have q3 : SP X pins D g2 s2 := q2.unwish
    cases g2 <;> exact q3
end L2
set_option maxHeartbeats 4000000

namespace Tr
open PySem L2
/-- all but what stands at S stays -/
def Fr (H H' : Hp) (S : List Addr) : Prop := ∀ x o, H x = some o → x ∉ S → H' x = some o
theorem Fr.same {H H' : Hp} {S : List Addr} (s : Same H H') : Fr H H' S := fun x o h _ => s _ _ h
theorem Fr.tr {H H1 H2 : Hp} {S : List Addr} (f : Fr H H1 S) (g : Fr H1 H2 S) : Fr H H2 S := fun x o h hx => g _ _ (f _ _ h hx) hx
abbrev s_Thing___init__ : Stmt := (inClass (top 10) 0)
abbrev N_Thing___init__ : List Str := ["self", "desk", "name"]
theorem sc_Thing___init__ : FnScope ["self", "desk", "name"] ["self", "desk", "name"] (defScope s_Thing___init__) := ⟨rfl, rfl, rfl, by decide +kernel, rfl, by decide +kernel, by decide +kernel⟩
abbrev s_Frame___init__ : Stmt := (inClass (top 9) 0)
abbrev N_Frame___init__ : List Str := ["self", "owner", "is_answer"]
theorem sc_Frame___init__ : FnScope ["self", "owner", "is_answer"] ["self", "owner", "is_answer"] (defScope s_Frame___init__) := ⟨rfl, rfl, rfl, by decide +kernel, rfl, by decide +kernel, by decide +kernel⟩
abbrev s_Cell___call__ : Stmt := (inClass (top 11) 1)
abbrev N_Cell___call__ : List Str := ["self"]
theorem sc_Cell___call__ : FnScope ["self"] ["self"] (defScope s_Cell___call__) := ⟨rfl, rfl, rfl, by decide +kernel, rfl, by decide +kernel, by decide +kernel⟩
abbrev s_Cell_value : Stmt := (inClass (top 11) 3)
abbrev N_Cell_value : List Str := ["self", "worth"]
theorem sc_Cell_value : FnScope ["self", "worth"] ["self", "worth"] (defScope s_Cell_value) := ⟨rfl, rfl, rfl, by decide +kernel, rfl, by decide +kernel, by decide +kernel⟩
abbrev s_Cell_put : Stmt := (inClass (top 11) 4)
abbrev N_Cell_put : List Str := ["self", "value"]
theorem sc_Cell_put : FnScope ["self", "value"] ["self", "value"] (defScope s_Cell_put) := ⟨rfl, rfl, rfl, by decide +kernel, rfl, by decide +kernel, by decide +kernel⟩
abbrev s_Cell_worth_now : Stmt := (inClass (top 11) 5)
abbrev N_Cell_worth_now : List Str := ["self"]
theorem sc_Cell_worth_now : FnScope ["self"] ["self"] (defScope s_Cell_worth_now) := ⟨rfl, rfl, rfl, by decide +kernel, rfl, by decide +kernel, by decide +kernel⟩
abbrev s_Runner_is_out_of_order : Stmt := (inClass (top 12) 1)
abbrev N_Runner_is_out_of_order : List Str := ["self", "name", "worth"]
theorem sc_Runner_is_out_of_order : FnScope ["self", "name", "worth"] ["self"] (defScope s_Runner_is_out_of_order) := ⟨rfl, rfl, rfl, by decide +kernel, rfl, by decide +kernel, by decide +kernel⟩
abbrev s_Runner_run_work : Stmt := (inClass (top 12) 2)
abbrev N_Runner_run_work : List Str := ["self", "is_answer", "desk", "frame", "before", "told"]
theorem sc_Runner_run_work : FnScope ["self", "is_answer", "desk", "frame", "before", "told"] ["self", "is_answer"] (defScope s_Runner_run_work) := ⟨rfl, rfl, rfl, by decide +kernel, rfl, by decide +kernel, by decide +kernel⟩
abbrev s_Kept___call__ : Stmt := (inClass (top 13) 1)
abbrev N_Kept___call__ : List Str := ["self", "worth"]
theorem sc_Kept___call__ : FnScope ["self", "worth"] ["self"] (defScope s_Kept___call__) := ⟨rfl, rfl, rfl, by decide +kernel, rfl, by decide +kernel, by decide +kernel⟩
abbrev s_Kept_worth_now : Stmt := (inClass (top 13) 3)
abbrev N_Kept_worth_now : List Str := ["self", "worth"]
theorem sc_Kept_worth_now : FnScope ["self", "worth"] ["self"] (defScope s_Kept_worth_now) := ⟨rfl, rfl, rfl, by decide +kernel, rfl, by decide +kernel, by decide +kernel⟩
abbrev s_Desk___init__ : Stmt := (inClass (top 15) 1)
abbrev N_Desk___init__ : List Str := ["self"]
theorem sc_Desk___init__ : FnScope ["self"] ["self"] (defScope s_Desk___init__) := ⟨rfl, rfl, rfl, by decide +kernel, rfl, by decide +kernel, by decide +kernel⟩
abbrev s_Desk_check_placed : Stmt := (inClass (top 15) 2)
abbrev N_Desk_check_placed : List Str := ["self"]
theorem sc_Desk_check_placed : FnScope ["self"] ["self"] (defScope s_Desk_check_placed) := ⟨rfl, rfl, rfl, by decide +kernel, rfl, by decide +kernel, by decide +kernel⟩
abbrev s_Desk_is_under_way : Stmt := (inClass (top 15) 3)
abbrev N_Desk_is_under_way : List Str := ["self", "name", "frame"]
theorem sc_Desk_is_under_way : FnScope ["self", "name", "frame"] ["self", "name"] (defScope s_Desk_is_under_way) := ⟨rfl, rfl, rfl, by decide +kernel, rfl, by decide +kernel, by decide +kernel⟩
abbrev s_Desk_note : Stmt := (inClass (top 15) 4)
abbrev N_Desk_note : List Str := ["self", "name", "worth", "frame"]
theorem sc_Desk_note : FnScope ["self", "name", "worth", "frame"] ["self", "name", "worth"] (defScope s_Desk_note) := ⟨rfl, rfl, rfl, by decide +kernel, rfl, by decide +kernel, by decide +kernel⟩
abbrev s_Desk_use_name : Stmt := (inClass (top 15) 5)
abbrev N_Desk_use_name : List Str := ["self", "name"]
theorem sc_Desk_use_name : FnScope ["self", "name"] ["self", "name"] (defScope s_Desk_use_name) := ⟨rfl, rfl, rfl, by decide +kernel, rfl, by decide +kernel, by decide +kernel⟩
abbrev s_Desk_cell : Stmt := (inClass (top 15) 6)
abbrev N_Desk_cell : List Str := ["self", "name", "value", "made"]
theorem sc_Desk_cell : FnScope ["self", "name", "value", "made"] ["self", "name", "value"] (defScope s_Desk_cell) := ⟨rfl, rfl, rfl, by decide +kernel, rfl, by decide +kernel, by decide +kernel⟩
abbrev s_Desk_kept : Stmt := (inClass (top 15) 7)
abbrev N_Desk_kept : List Str := ["self", "name", "work", "made"]
theorem sc_Desk_kept : FnScope ["self", "name", "work", "made"] ["self", "name", "work"] (defScope s_Desk_kept) := ⟨rfl, rfl, rfl, by decide +kernel, rfl, by decide +kernel, by decide +kernel⟩
abbrev s_Desk_settle : Stmt := (inClass (top 15) 9)
abbrev N_Desk_settle : List Str := ["self", "turn", "due", "effect", "name"]
theorem sc_Desk_settle : FnScope ["self", "turn", "due", "effect", "name"] ["self"] (defScope s_Desk_settle) := ⟨rfl, rfl, rfl, by decide +kernel, rfl, by decide +kernel, by decide +kernel⟩
abbrev s_Desk___iter__ : Stmt := (inClass (top 15) 16)
abbrev N_Desk___iter__ : List Str := ["self"]
theorem sc_Desk___iter__ : FnScope ["self"] ["self"] (defScope s_Desk___iter__) := ⟨rfl, rfl, rfl, by decide +kernel, rfl, by decide +kernel, by decide +kernel⟩
abbrev s_Desk___len__ : Stmt := (inClass (top 15) 17)
abbrev N_Desk___len__ : List Str := ["self"]
theorem sc_Desk___len__ : FnScope ["self"] ["self"] (defScope s_Desk___len__) := ⟨rfl, rfl, rfl, by decide +kernel, rfl, by decide +kernel, by decide +kernel⟩

abbrev s_Cell___init__ : Stmt := (inClass (top 11) 0)
abbrev s_Cell_valueG : Stmt := (inClass (top 11) 2)
theorem sc_Cell_valueG : FnScope ["self"] ["self"] (defScope s_Cell_valueG) := ⟨rfl, rfl, rfl, by decide +kernel, rfl, by decide +kernel, by decide +kernel⟩
abbrev s_Runner___init__ : Stmt := (inClass (top 12) 0)
abbrev s_Kept___init__ : Stmt := (inClass (top 13) 0)
abbrev s_Kept_heldG : Stmt := (inClass (top 13) 2)
theorem sc_Kept_heldG : FnScope ["self"] ["self"] (defScope s_Kept_heldG) := ⟨rfl, rfl, rfl, by decide +kernel, rfl, by decide +kernel, by decide +kernel⟩
/-- what the top has made of the desk -/
structure Tj (P : Program) (K : PySem.W.Frag) (mg : Str → Option Value) (a : Nat → Addr) (fd : Nat → FuncData) (tk : Nat → Tok) : Prop where
  b_len : mg "len" = none
  b_iter : mg "iter" = none
  b_list : mg "list" = none
  b_range : mg "range" = none
  g_Desk : mg "Desk" = some (.ref (a 3))
  g_Cell : mg "Cell" = some (.ref (a 2))
  g_Kept : mg "Kept" = some (.ref (a 40))
  g_Frame : mg "Frame" = some (.ref (a 49))
  g_Runner : mg "Runner" = some (.ref (a 53))
  cl_Cell : Cls K (a 2)
  cl_Desk : Cls K (a 3)
  cl_Kept : Cls K (a 40)
  cl_Frame : Cls K (a 49)
  f_Cell : ∀ f, f ∈ (["desk", "name", "now"] : List Str) → NoAttr K (a 2) f
  f_Desk : ∀ f, f ∈ (["used_names", "cells", "readable", "effects", "log", "frames", "batches", "moved"] : List Str) → NoAttr K (a 3) f
  f_Kept : ∀ f, f ∈ (["desk", "name", "work", "noted", "runs", "kept_worth", "has_worth"] : List Str) → NoAttr K (a 40) f
  f_Frame : ∀ f, f ∈ (["owner", "is_answer", "is_hushed", "noted"] : List Str) → NoAttr K (a 49) f
  F_Thing___init__ : Fun K "__init__" "Thing.__init__" s_Thing___init__ (a 4) (fd 4)
  F_Cell___init__ : FunS P K mg (a 2) "__init__" "Cell.__init__" s_Cell___init__ (a 5) (fd 5)
  sc_Cell : SupC K (a 2) (a 2) (a 4)
  mk_Cell : L2.Mk K (a 2) (a 5)
  F_Cell___call__ : Fun K "__call__" "Cell.__call__" s_Cell___call__ (a 6) (fd 6)
  o_Cell___call__ : OwnM K (a 2) "__call__" (a 6)
  p_Cell_value : PropOf K (a 2) "value" (a 7) (a 8)
  F_Cell_value : Fun K "value" "Cell.value" s_Cell_valueG (a 8) (fd 8)
  m_Cell_put : Meth K (a 2) "put" (a 9)
  F_Cell_put : Fun K "put" "Cell.put" s_Cell_put (a 9) (fd 9)
  m_Cell_worth_now : Meth K (a 2) "worth_now" (a 25)
  F_Cell_worth_now : Fun K "worth_now" "Cell.worth_now" s_Cell_worth_now (a 25) (fd 25)
  mk_Desk : L2.Mk K (a 3) (a 11)
  F_Desk___init__ : Fun K "__init__" "Desk.__init__" s_Desk___init__ (a 11) (fd 11)
  m_Desk_check_placed : Meth K (a 3) "check_placed" (a 12)
  F_Desk_check_placed : Fun K "check_placed" "Desk.check_placed" s_Desk_check_placed (a 12) (fd 12)
  m_Desk_note : Meth K (a 3) "note" (a 13)
  F_Desk_note : Fun K "note" "Desk.note" s_Desk_note (a 13) (fd 13)
  m_Desk_use_name : Meth K (a 3) "use_name" (a 14)
  F_Desk_use_name : Fun K "use_name" "Desk.use_name" s_Desk_use_name (a 14) (fd 14)
  m_Desk_cell : Meth K (a 3) "cell" (a 15)
  F_Desk_cell : Fun K "cell" "Desk.cell" s_Desk_cell (a 15) (fd 15)
  m_Desk_settle : Meth K (a 3) "settle" (a 16)
  F_Desk_settle : Fun K "settle" "Desk.settle" s_Desk_settle (a 16) (fd 16)
  k_MOST_RUNS : Con K (a 3) "MOST_RUNS" (.int 100) (.int 100 (tk 0))
  o_Desk___iter__ : OwnM K (a 3) "__iter__" (a 20)
  F_Desk___iter__ : Fun K "__iter__" "Desk.__iter__" s_Desk___iter__ (a 20) (fd 20)
  o_Desk___len__ : OwnM K (a 3) "__len__" (a 21)
  F_Desk___len__ : Fun K "__len__" "Desk.__len__" s_Desk___len__ (a 21) (fd 21)
  m_Desk_kept : Meth K (a 3) "kept" (a 51)
  F_Desk_kept : Fun K "kept" "Desk.kept" s_Desk_kept (a 51) (fd 51)
  m_Desk_is_under_way : Meth K (a 3) "is_under_way" (a 52)
  F_Desk_is_under_way : Fun K "is_under_way" "Desk.is_under_way" s_Desk_is_under_way (a 52) (fd 52)
  mk_Frame : L2.Mk K (a 49) (a 50)
  F_Frame___init__ : Fun K "__init__" "Frame.__init__" s_Frame___init__ (a 50) (fd 50)
  mk_Kept : L2.Mk K (a 40) (a 41)
  F_Kept___init__ : FunS P K mg (a 40) "__init__" "Kept.__init__" s_Kept___init__ (a 41) (fd 41)
  sc_Kept : SupC K (a 40) (a 40) (a 46)
  F_Runner___init__ : FunS P K mg (a 53) "__init__" "Runner.__init__" s_Runner___init__ (a 46) (fd 46)
  sc_Runner : SupC K (a 53) (a 40) (a 4)
  o_Kept___call__ : OwnM K (a 40) "__call__" (a 42)
  F_Kept___call__ : Fun K "__call__" "Kept.__call__" s_Kept___call__ (a 42) (fd 42)
  p_Kept_held : PropOf K (a 40) "held" (a 43) (a 44)
  F_Kept_held : Fun K "held" "Kept.held" s_Kept_heldG (a 44) (fd 44)
  m_Kept_worth_now : Meth K (a 40) "worth_now" (a 45)
  F_Kept_worth_now : Fun K "worth_now" "Kept.worth_now" s_Kept_worth_now (a 45) (fd 45)
  m_Kept_is_out_of_order : Meth K (a 40) "is_out_of_order" (a 47)
  F_Runner_is_out_of_order : Fun K "is_out_of_order" "Runner.is_out_of_order" s_Runner_is_out_of_order (a 47) (fd 47)
  m_Kept_run_work : Meth K (a 40) "run_work" (a 48)
  F_Runner_run_work : Fun K "run_work" "Runner.run_work" s_Runner_run_work (a 48) (fd 48)
section
variable {P : Program} {w : World} {K : PySem.W.Frag} {mg : Str → Option Value} {base : Heap} {a : Nat → Addr} {fd : Nat → FuncData} {tk : Nat → Tok}
theorem Tj.ce (T : Tj P K mg a fd tk) {f : Str} (h : f ∈ (["desk", "name", "now"] : List Str)) : FldOk K (a 2) f := ⟨T.cl_Cell, T.f_Cell f h⟩
theorem Tj.de (T : Tj P K mg a fd tk) {f : Str} (h : f ∈ (["used_names", "cells", "readable", "effects", "log", "frames", "batches", "moved"] : List Str)) : FldOk K (a 3) f := ⟨T.cl_Desk, T.f_Desk f h⟩
theorem Tj.ke (T : Tj P K mg a fd tk) {f : Str} (h : f ∈ (["desk", "name", "work", "noted", "runs", "kept_worth", "has_worth"] : List Str)) : FldOk K (a 40) f := ⟨T.cl_Kept, T.f_Kept f h⟩
theorem Tj.fe (T : Tj P K mg a fd tk) {f : Str} (h : f ∈ (["owner", "is_answer", "is_hushed", "noted"] : List Str)) : FldOk K (a 49) f := ⟨T.cl_Frame, T.f_Frame f h⟩
local macro_rules | `(tactic| walk_at "ne") => `(tactic| first | assumption | (exact Ne.symm (by assumption)) | (refine ne_of_none (by assumption) (by assumption)) | (refine Ne.symm (ne_of_none (by assumption) (by assumption))))
local macro_rules | `(tactic| walk_at "hl") => `(tactic| first | assumption | with_reducible exact upd_same | ((with_reducible refine' Eq.trans (upd_ne ?hne) ?hrest); (case hne => walk_at "ne"); (case hrest => walk_at "hl")) | (refine' get_same ?hs ?hg; (case hs => assumption); (case hg => assumption)))
local macro_rules | `(tactic| walk_at "at") => `(tactic| first | with_reducible exact atI_0 _ _ | with_reducible exact atI_1 _ _ _ | with_reducible exact atI_2 _ _ _ _ | with_reducible exact atI_3 _ _ _ _ _ | assumption)
local macro_rules | `(tactic| walk_at "rd1") => `(tactic| first
  | with_reducible refine s_seq ?_ | with_reducible refine s_next ?_ | with_reducible refine s_if ?_ | with_reducible refine s_ret ?_ | with_reducible refine s_retN ?_ | with_reducible refine s_drop ?_ | with_reducible refine s_asg ?_ | with_reducible refine s_brk ?_ | with_reducible refine s_cont ?_
  | with_reducible refine s_gname ?_ | with_reducible refine s_c ?_ | with_reducible refine s_op ?_ | with_reducible refine s_un ?_ | with_reducible refine s_neg ?_ | with_reducible refine s_test ?_ | with_reducible refine s_tb ?_ | with_reducible refine s_not ?_ | with_reducible refine s_and ?_ | with_reducible refine s_or ?_ | with_reducible refine s_yes ?_
  | ((with_reducible refine' s_var ?hv ?_); (case hv => exact rfl))
  | with_reducible refine s_ifx ?_ | with_reducible refine s_andV ?_ | with_reducible refine s_orV ?_ | with_reducible refine s_notV ?_ | with_reducible refine s_chain ?_ | with_reducible refine s_nil ?_ | with_reducible refine s_cons ?_ | with_reducible refine s_lst ?_ | with_reducible refine s_tup ?_ | with_reducible refine s_cb ?_ | with_reducible refine s_call ?_ | with_reducible refine s_meth ?_ | with_reducible refine s_make ?_
  | with_reducible refine s_dnewK ?_ | with_reducible refine s_sl ?_ | with_reducible refine s_po0 ?_ | with_reducible refine s_po1 ?_ | with_reducible refine s_bm ?_ | with_reducible refine s_bm0 ?_
  | with_reducible refine s_bl ?_ | with_reducible refine s_int ?_ | with_reducible refine s_I0 ?_ | with_reducible refine s_addI ?_ | with_reducible refine s_intI ?_ | with_reducible refine s_intB ?_
  | with_reducible refine s_m1 ?_ | with_reducible refine s_lc ?_ | with_reducible refine s_ilist ?_ | with_reducible refine s_for ?_ | with_reducible refine s_irng ?_ | with_reducible refine s_match ?_ | with_reducible refine s_starT ?_ | with_reducible refine s_isS ?_ | with_reducible refine s_isiSS ?_ | with_reducible refine s_fldU ?_ | with_reducible refine s_sfldU ?_
  | ((with_reducible refine' s_eqS ?hq ?_); (case hq => exact rfl)) | ((with_reducible refine' s_neS ?hq ?_); (case hq => exact rfl))
  | ((with_reducible refine' s_isN ?hq ?_); (case hq => exact rfl)) | ((with_reducible refine' s_notN ?hq ?_); (case hq => exact rfl))
  | ((with_reducible refine' s_eqNil ?h1 ?h2 ?_); (case h1 => walk_at "hl"); (case h2 => walk_at "hl")) | ((with_reducible refine' s_neNil ?h1 ?h2 ?_); (case h1 => walk_at "hl"); (case h2 => walk_at "hl"))
  | ((with_reducible refine' s_ixL ?h1 ?h2 ?_); (case h1 => walk_at "hl"); (case h2 => walk_at "at")) | ((with_reducible refine' s_ixT ?h1 ?h2 ?_); (case h1 => walk_at "hl"); (case h2 => walk_at "at"))
  | ((with_reducible refine' s_inS ?h1 ?_); (case h1 => walk_at "hl")) | ((with_reducible refine' s_ninS ?h1 ?_); (case h1 => walk_at "hl")) | with_reducible refine s_inW ?_
  | ((with_reducible refine' s_lenL ?h1 ?_); (case h1 => walk_at "hl")) | ((with_reducible refine' s_lenT ?h1 ?_); (case h1 => walk_at "hl"))
  | ((with_reducible refine' s_tyL ?h1 ?_); (case h1 => walk_at "hl"))
  | ((with_reducible refine' s_fldM ?h1 ?h2 ?h3 ?_); (case h1 => walk_at "hl"); (case h2 => walk_at "fok"); (case h3 => walk_at "flk"))
  | ((with_reducible refine' s_setM ?h1 ?h2 ?h3 ?h4 ?_); (case h1 => walk_at "hl"); (case h2 => walk_at "fok"); (case h4 => walk_at "put"); (case h3 => exact Nat.le_of_ble_eq_true rfl))
  | ((with_reducible refine' s_starM ?h1 ?_); (case h1 => walk_at "hl"))
  | ((with_reducible refine' s_recv ?h1 ?h2 ?_); (case h1 => walk_at "hl"); (case h2 => exact rfl))
  | ((with_reducible refine' s_sz ?h1 ?_); (case h1 => (simp; done))))
local macro_rules | `(tactic| walk_at "rd") => `(tactic| repeat (walk_at "rd1"))
local macro_rules | `(tactic| walk_at "fok") => `(tactic| assumption)
local macro_rules | `(tactic| walk_at "flk") => `(tactic| rfl)
local macro_rules | `(tactic| walk_at "put") => `(tactic| exact rfl)

local macro_rules | `(tactic| walk_at "fok") => `(tactic| first | assumption | exact Tj.ce (by assumption) (by decide) | exact Tj.de (by assumption) (by decide) | exact Tj.ke (by assumption) (by decide) | exact Tj.fe (by assumption) (by decide))
def cellF (d : Addr) (nm : Str) (v : Int) : List (Str × V) := [("desk", .ref d), ("name", .str nm), ("now", .int v)]
def CellAt (a : Nat → Addr) (H : Hp) (d c : Addr) (nm : Str) (v : Int) : Prop := ∃ dc, H c = some (.ins (a 2) dc (cellF d nm v))
def frameF (owner : Str) (ia hu : Bool) (nt : Addr) : List (Str × V) := [("owner", .str owner), ("is_answer", .bl ia), ("is_hushed", .bl hu), ("noted", .ref nt)]
def FrameAt (a : Nat → Addr) (H : Hp) (f : Addr) (owner : Str) (ia hu : Bool) (nt : Addr) : Prop := ∃ dx, H f = some (.ins (a 49) dx (frameF owner ia hu nt))
def keptF (d : Addr) (nm : Str) (f nt : Addr) (n : Int) (kw : V) (hw : Bool) : List (Str × V) := [("desk", .ref d), ("name", .str nm), ("work", .ref f), ("noted", .ref nt), ("runs", .int n), ("kept_worth", kw), ("has_worth", .bl hw)]
def KeptAt (a : Nat → Addr) (H : Hp) (d x : Addr) (nm : Str) (f nt : Addr) (n : Int) (kw : V) (hw : Bool) : Prop := ∃ dx, H x = some (.ins (a 40) dx (keptF d nm f nt n kw hw))
structure DA where
  dd : Addr
  un : Addr
  cs : Addr
  rd : Addr
  ef : Addr
  lg : Addr
  fr : Addr
  mv : Addr
def deskB (D : DA) (ba : Int) : List (Str × V) := [("used_names", .ref D.un), ("cells", .ref D.cs), ("readable", .ref D.rd), ("effects", .ref D.ef), ("log", .ref D.lg), ("frames", .ref D.fr), ("batches", .int ba), ("moved", .ref D.mv)]
structure DSt where
  names : List Str
  cl : List (Str × Addr)
  rl : List (Str × Addr)
  efs : List Addr
  lgs : List V
  frs : List Addr
  ba : Int
def cdK (cl : List (Str × Addr)) : List (Key × V) := cl.map fun c => (.inr c.1, .ref c.2)
/-- a desk -/
structure DkAt (a : Nat → Addr) (H : Hp) (d : Addr) (D : DA) (S : DSt) : Prop where
  ob : H d = some (.ins (a 3) D.dd (deskB D S.ba))
  un : H D.un = some (.lst (S.names.map V.str))
  cs : H D.cs = some (.dK (cdK S.cl))
  rd : H D.rd = some (.dK (cdK S.rl))
  ef : H D.ef = some (.lst (S.efs.map V.ref))
  lg : H D.lg = some (.lst S.lgs)
  fr : H D.fr = some (.lst (S.frs.map V.ref))
  mv : ∃ ms, H D.mv = some (.lst ms) ∧ ms.length ≤ 1000
  nd : [D.un, D.ef, D.lg, D.fr, D.mv].Nodup ∧ D.cs ≠ D.rd
theorem DkAt.same {H H' : Hp} {d : Addr} {D : DA} {S : DSt} (h : DkAt a H d D S) (s : Same H H') : DkAt a H' d D S := by
  obtain ⟨ms, m1, m2⟩ := h.mv
  exact ⟨s _ _ h.ob, s _ _ h.un, s _ _ h.cs, s _ _ h.rd, s _ _ h.ef, s _ _ h.lg, s _ _ h.fr, ⟨ms, s _ _ m1, m2⟩, h.nd⟩
def dAll (d : Addr) (D : DA) : List Addr := [d, D.un, D.cs, D.rd, D.ef, D.lg, D.fr, D.mv]
theorem DkAt.frs {H H' : Hp} {d : Addr} {D : DA} {S : DSt} {L : List Addr} (h : DkAt a H d D S) (f : Fr H H' L) (hS : ∀ x ∈ dAll d D, x ∉ L) : DkAt a H' d D S := by
  obtain ⟨ms, m1, m2⟩ := h.mv
  exact ⟨f _ _ h.ob (hS _ (by simp [dAll])), f _ _ h.un (hS _ (by simp [dAll])), f _ _ h.cs (hS _ (by simp [dAll])), f _ _ h.rd (hS _ (by simp [dAll])), f _ _ h.ef (hS _ (by simp [dAll])), f _ _ h.lg (hS _ (by simp [dAll])), f _ _ h.fr (hS _ (by simp [dAll])), ⟨ms, f _ _ m1 (hS _ (by simp [dAll])), m2⟩, h.nd⟩
theorem upd3 {H : Hp} {x n : Addr} {A o B : HO} (h : n ≠ x) : upd (upd (upd H x A) n o) x B = upd (upd H n o) x B := by
  funext b
  by_cases e : b = x
  · rw [e, upd_same, upd_same]
  · rw [upd_ne e, upd_ne e]
    by_cases e2 : b = n
    · rw [e2, upd_same, upd_same]
    · rw [upd_ne e2, upd_ne e2, upd_ne e]
theorem ixN_lastM {n : Nat} (h : 0 < n) : ixN n (-1) = some (n - 1) := by
  unfold ixN
  rw [if_neg (by omega), if_pos (by omega)]
  congr 1
  omega
theorem atI_lastM {xs : List V} {v : V} (h : xs.getLast? = some v) : atI xs (-1) = some v := by
  have h0 : 0 < xs.length := by
    cases xs with
    | nil => cases h
    | cons x l => simp
  unfold atI
  rw [ixN_lastM h0]
  show xs[xs.length - 1]? = some v
  rw [← List.getLast?_eq_getElem?]
  exact h
theorem s_dnin {σ : L2.St} {H : Hp} {Q : VK} {ty td : TE} (h : ty σ H fun y H1 => td σ H1 fun x H2 => ∃ a o, x = .ref a ∧ DGet H2 a y o ∧ Q (.bl (!o.isSome)) H2) : tDNotIn ty td σ H Q := h
theorem s_dput {σ : L2.St} {H : Hp} {td ty tv : TE} {na : L2.St → Hp → Prop} {rt : VK} {bk ct : L2.St → Hp → Prop} (h : tv σ H fun v H1 => td σ H1 fun x H2 => ty σ H2 fun y H3 => ∃ a H4, x = .ref a ∧ DPut H3 a y v H4 ∧ na σ H4) : sDPut td ty tv ⟨na, rt, bk, ct⟩ σ H := h
theorem s_dget {σ : L2.St} {H : Hp} {Q : VK} {td ty : TE} (h : td σ H fun x H1 => ty σ H1 fun y H2 => ∃ a v, x = .ref a ∧ DGet H2 a y (some v) ∧ Q v H2) : tDGet td ty σ H Q := h
def spThing (K : PySem.W.Frag) : Sp := fun vs H Q _ => ∃ (x C dx : Addr) (v1 v2 : V), vs = [.ref x, v1, v2] ∧ H x = some (.ins C dx []) ∧ FldOk K C "desk" ∧ FldOk K C "name" ∧ Q .non (upd H x (.ins C dx [("desk", v1), ("name", v2)]))
theorem ok_Thing___init__ (T : Tj P K mg a fd tk) : FnOk P w K mg base CX0 1 (a 4) (fd 4) ["self", "desk", "name"] (spThing K) := by
  refine T.F_Thing___init__.ok sc_Thing___init__ (fun vs H Q E h => ?_) (fun cdv A outer s H vs Q E hr h => ?_)
  · obtain ⟨x, C, dx, v1, v2, rfl, _⟩ := h
    rfl
  · obtain ⟨x, C, dx, v1, v2, rfl, hx, f1, f2, k⟩ := h
    refine ⟨_, (pss_cons (ps_fldU K (pv 0) (pv 1))
  (pss_one (ps_fldU K (pv 0) (pv 2)))), ?_⟩
    walk_at "rd"
    rw [upd_upd]
    exact k
theorem b_Thing___init__ (T : Tj P K mg a fd tk) : Binds K (fd 4) ["self", "desk", "name"] [] := T.F_Thing___init__.binds fun _ _ _ _ _ _ us hl => match us, hl with | [_, _, _], _ => rfl
def spCellI (a : Nat → Addr) : Sp := fun vs H Q _ => ∃ (x dx : Addr) (v1 v2 v3 : V), vs = [.ref x, v1, v2, v3] ∧ H x = some (.ins (a 2) dx []) ∧ Q .non (upd H x (.ins (a 2) dx [("desk", v1), ("name", v2), ("now", v3)]))
theorem ok_Cell___init__ (T : Tj P K mg a fd tk) : FnOk P w K mg base CX0 2 (a 5) (fd 5) ["self", "desk", "name", "worth"] (spCellI a) := by
  refine T.F_Cell___init__.ok (N := ["self", "desk", "name", "worth", "__class__"]) rfl (NdefX.nscope_by (by decide +kernel)) rfl rfl (by decide +kernel) (ok_Thing___init__ T) (Nat.le_refl _) (b_Thing___init__ T) (fun vs H Q E h => ?_) (fun FF A outer s H vs Q E hs hr h => ?_)
  · obtain ⟨x, dx, v1, v2, v3, rfl, _⟩ := h
    rfl
  · obtain ⟨x, dx, v1, v2, v3, rfl, hx, k⟩ := h
    have vis : ∀ {y : Str}, (defScope s_Cell___init__).names.lookup y = some .local → Vis FF.scope y := fun {y} e => by rw [hs]; exact .inl e
    refine ⟨_, _, a 2, x, dx, [], pa_cons (pv 1 rfl (vis (by decide +kernel))) (pa_cons (pv 2 rfl (vis (by decide +kernel))) pa_nil), pss_one (ps_fldU K (pv 0 rfl (vis (by decide +kernel))) (pv 3 rfl (vis (by decide +kernel)))), rfl, hx, T.sc_Cell, ?_⟩
    walk_at "rd"
    refine ⟨x, a 2, dx, v1, v2, rfl, hx, T.ce (by decide), T.ce (by decide), ?_⟩
    walk_at "rd"
    rw [upd_upd]
    exact k
theorem b_Cell___init__ (T : Tj P K mg a fd tk) : Binds K (fd 5) ["self", "desk", "name", "worth"] [] := T.F_Cell___init__.binds fun _ _ _ _ _ _ _ us hl => match us, hl with | [_, _, _, _], _ => rfl
/-- of a kept answer -/
def spRunnerI (a : Nat → Addr) : Sp := fun vs H Q _ => ∃ (x dx : Addr) (v1 v2 v3 : V), vs = [.ref x, v1, v2, v3] ∧ H x = some (.ins (a 40) dx []) ∧ ∀ nt, H nt = none → nt ≠ x → Q .non (upd (upd H nt (.dK [])) x (.ins (a 40) dx [("desk", v1), ("name", v2), ("work", v3), ("noted", .ref nt), ("runs", .int 0)]))
theorem ok_Runner___init__ (T : Tj P K mg a fd tk) : FnOk P w K mg base CX0 2 (a 46) (fd 46) ["self", "desk", "name", "work"] (spRunnerI a) := by
  refine T.F_Runner___init__.ok (N := ["self", "desk", "name", "work", "__class__"]) rfl (NdefX.nscope_by (by decide +kernel)) rfl rfl (by decide +kernel) (ok_Thing___init__ T) (Nat.le_refl _) (b_Thing___init__ T) (fun vs H Q E h => ?_) (fun FF A outer s H vs Q E hs hr h => ?_)
  · obtain ⟨x, dx, v1, v2, v3, rfl, _⟩ := h
    rfl
  · obtain ⟨x, dx, v1, v2, v3, rfl, hx, k⟩ := h
    have vis : ∀ {y : Str}, (defScope s_Runner___init__).names.lookup y = some .local → Vis FF.scope y := fun {y} e => by rw [hs]; exact .inl e
    refine ⟨_, _, a 40, x, dx, [], pa_cons (pv 1 rfl (vis (by decide +kernel))) (pa_cons (pv 2 rfl (vis (by decide +kernel))) pa_nil),
      pss_cons (ps_fldU K (pv 0 rfl (vis (by decide +kernel))) (pv 3 rfl (vis (by decide +kernel)))) (pss_cons (ps_fldU K (pv 0 rfl (vis (by decide +kernel))) pe_dnewK) (pss_one (ps_fldU K (pv 0 rfl (vis (by decide +kernel))) pe_int))), rfl, hx, T.sc_Runner, ?_⟩
    walk_at "rd"
    refine ⟨x, a 40, dx, v1, v2, rfl, hx, T.ke (by decide), T.ke (by decide), ?_⟩
    walk_at "rd"
    rw [upd_upd]
    intro nt nnt
    have nx : nt ≠ x := by rintro rfl; rw [upd_same] at nnt; cases nnt
    rw [upd_ne nx] at nnt
    walk_at "rd"
    rw [upd_upd, upd3 nx]
    exact k nt nnt nx
theorem b_Runner___init__ (T : Tj P K mg a fd tk) : Binds K (fd 46) ["self", "desk", "name", "work"] [] := T.F_Runner___init__.binds fun _ _ _ _ _ _ _ us hl => match us, hl with | [_, _, _, _], _ => rfl
def spKeptI (a : Nat → Addr) : Sp := fun vs H Q _ => ∃ (x dx : Addr) (v1 v2 v3 : V), vs = [.ref x, v1, v2, v3] ∧ H x = some (.ins (a 40) dx []) ∧ ∀ nt, H nt = none → nt ≠ x → Q .non (upd (upd H nt (.dK [])) x (.ins (a 40) dx [("desk", v1), ("name", v2), ("work", v3), ("noted", .ref nt), ("runs", .int 0), ("kept_worth", .non), ("has_worth", .bl false)]))
theorem ok_Kept___init__ (T : Tj P K mg a fd tk) : FnOk P w K mg base CX0 3 (a 41) (fd 41) ["self", "desk", "name", "work"] (spKeptI a) := by
  refine T.F_Kept___init__.ok (N := ["self", "desk", "name", "work", "__class__"]) rfl (NdefX.nscope_by (by decide +kernel)) rfl rfl (by decide +kernel) (ok_Runner___init__ T) (Nat.le_refl _) (b_Runner___init__ T) (fun vs H Q E h => ?_) (fun FF A outer s H vs Q E hs hr h => ?_)
  · obtain ⟨x, dx, v1, v2, v3, rfl, _⟩ := h
    rfl
  · obtain ⟨x, dx, v1, v2, v3, rfl, hx, k⟩ := h
    have vis : ∀ {y : Str}, (defScope s_Kept___init__).names.lookup y = some .local → Vis FF.scope y := fun {y} e => by rw [hs]; exact .inl e
    refine ⟨_, _, a 40, x, dx, [], pa_cons (pv 1 rfl (vis (by decide +kernel))) (pa_cons (pv 2 rfl (vis (by decide +kernel))) (pa_cons (pv 3 rfl (vis (by decide +kernel))) pa_nil)),
      pss_cons (ps_fldU K (pv 0 rfl (vis (by decide +kernel))) pe_non) (pss_one (ps_fldU K (pv 0 rfl (vis (by decide +kernel))) pe_bl)), rfl, hx, T.sc_Kept, ?_⟩
    walk_at "rd"
    refine ⟨x, dx, v1, v2, v3, rfl, hx, fun nt nnt nx => ?_⟩
    walk_at "rd"
    rw [upd_upd, upd_upd]
    exact k nt nnt nx
theorem b_Kept___init__ (T : Tj P K mg a fd tk) : Binds K (fd 41) ["self", "desk", "name", "work"] [] := T.F_Kept___init__.binds fun _ _ _ _ _ _ _ us hl => match us, hl with | [_, _, _, _], _ => rfl
def spFrameI (a : Nat → Addr) : Sp := fun vs H Q _ => ∃ (x dx : Addr) (owner : Str) (ia : Bool), vs = [.ref x, .str owner, .bl ia] ∧ H x = some (.ins (a 49) dx []) ∧ ∀ nt, H nt = none → nt ≠ x → Q .non (upd (upd H nt (.dK [])) x (.ins (a 49) dx (frameF owner ia false nt)))
theorem ok_Frame___init__ (T : Tj P K mg a fd tk) : FnOk P w K mg base CX0 1 (a 50) (fd 50) ["self", "owner", "is_answer"] (spFrameI a) := by
  refine T.F_Frame___init__.ok sc_Frame___init__ (fun vs H Q E h => ?_) (fun cdv A outer s H vs Q E hr h => ?_)
  · obtain ⟨x, dx, o, ia, rfl, _⟩ := h
    rfl
  · obtain ⟨x, dx, o, ia, rfl, hx, k⟩ := h
    refine ⟨_, (pss_cons (ps_fldU K (pv 0) (pv 1))
  (pss_cons (ps_fldU K (pv 0) (pv 2))
  (pss_cons (ps_fldU K (pv 0) pe_bl)
  (pss_one (ps_fldU K (pv 0) pe_dnewK))))), ?_⟩
    walk_at "rd"
    intro nt nnt
    have nx : nt ≠ x := by rintro rfl; rw [upd_same] at nnt; cases nnt
    rw [upd_upd, upd_upd, upd_ne nx] at nnt
    walk_at "rd"
    rw [upd_upd, upd_upd, upd3 nx]
    exact k nt nnt nx
theorem b_Frame___init__ (T : Tj P K mg a fd tk) : Binds K (fd 50) ["self", "owner", "is_answer"] [] := T.F_Frame___init__.binds fun _ _ _ _ _ _ us hl => match us, hl with | [_, _, _], _ => rfl
/-- no answer's work is innermost -/
def Placed (a : Nat → Addr) (H : Hp) (frs : List Addr) : Prop := frs = [] ∨ ∃ l f o hu nt, frs = l ++ [f] ∧ FrameAt a H f o false hu nt
def spPlaced (a : Nat → Addr) : Sp := fun vs H Q _ => ∃ d D S, vs = [.ref d] ∧ DkAt a H d D S ∧ S.frs.length ≤ 1000 ∧ Placed a H S.frs ∧ Q .non H
theorem ok_Desk_check_placed (T : Tj P K mg a fd tk) : FnOk P w K mg base CX0 1 (a 12) (fd 12) ["self"] (spPlaced a) := by
  refine T.F_Desk_check_placed.ok sc_Desk_check_placed (fun vs H Q E h => ?_) (fun cdv A outer s H vs Q E hr h => ?_)
  · obtain ⟨d, D, S, rfl, _⟩ := h
    rfl
  · obtain ⟨d, D, S, rfl, DK, hl, hp, k⟩ := h
    refine ⟨_, (pss_one (ps_if (PW.pt (pw_and (pt_cmpR op_gt (pe_callB uLen (by rfl) T.b_len bt_len (pa_cons (pe_fldU K (pv 0)) pa_nil)) pe_int (nomark _)) (pw_and1 (pt_val (pe_fldU K (pe_ix uIx (pe_fldU K (pv 0)) (pe_un un_neg pe_int) (fun _ _ => rfl))))))) (pss_one ps_nev) pss_nil)), ?_⟩
    have hob := DK.ob
    have hfr := DK.fr
    walk_at "rd"
    rcases hp with hp | ⟨l, f, o, hu, nt, hp, dx, hf⟩
    · refine ifF (by rw [hp]; rfl) ?_
      refine ifF rfl ?_
      walk_at "rd"
      exact k
    · refine ifT (by rw [hp, List.length_map, List.length_append]; simp) ?_
      walk_at "rd"
      refine s_ixL hfr (atI_lastM (v := .ref f) (by rw [hp]; simp)) ?_
      walk_at "rd"
      refine ifF rfl ?_
      walk_at "rd"
      exact k
theorem b_Desk_check_placed (T : Tj P K mg a fd tk) : Binds K (fd 12) ["self"] [] := T.F_Desk_check_placed.binds fun _ _ _ _ _ _ us hl => match us, hl with | [_], _ => rfl
/-- the owners of the frames -/
def FramesAt (a : Nat → Addr) (H : Hp) : List Addr → List Str → Prop
  | [], [] => True
  | f :: fs, o :: os => (∃ ia hu nt, FrameAt a H f o ia hu nt) ∧ FramesAt a H fs os
  | _, _ => False
theorem FramesAt.len {H : Hp} : ∀ {fs : List Addr} {os : List Str}, FramesAt a H fs os → fs.length = os.length
  | [], [], _ => rfl
  | _ :: _, _ :: _, ⟨_, h⟩ => by rw [List.length_cons, List.length_cons, FramesAt.len h]
  | [], _ :: _, h => h.elim
  | _ :: _, [], h => h.elim
theorem FramesAt.get {H : Hp} : ∀ {fs : List Addr} {os : List Str} {i : Nat} {f : Addr} {o : Str}, FramesAt a H fs os → fs[i]? = some f → os[i]? = some o → ∃ ia hu nt, FrameAt a H f o ia hu nt
  | _ :: _, _ :: _, 0, _, _, ⟨h, _⟩, h1, h2 => by cases h1; cases h2; exact h
  | _ :: _, _ :: _, i + 1, _, _, ⟨_, h⟩, h1, h2 => FramesAt.get h h1 h2
  | [], [], _, _, _, _, h1, _ => by simp at h1
theorem FrameAt.same {H H' : Hp} {f : Addr} {o : Str} {ia hu : Bool} {nt : Addr} (h : FrameAt a H f o ia hu nt) (s : Same H H') : FrameAt a H' f o ia hu nt := by
  obtain ⟨dx, e⟩ := h
  exact ⟨dx, s _ _ e⟩
theorem FramesAt.same {H H' : Hp} (s : Same H H') : ∀ {fs : List Addr} {os : List Str}, FramesAt a H fs os → FramesAt a H' fs os
  | [], [], _ => trivial
  | _ :: _, _ :: _, ⟨⟨ia, hu, nt, h⟩, h2⟩ => ⟨⟨ia, hu, nt, h.same s⟩, FramesAt.same s h2⟩
  | [], _ :: _, h => h.elim
  | _ :: _, [], h => h.elim
def spUnder (a : Nat → Addr) : Sp := fun vs H Q _ => ∃ d D S nm os, vs = [.ref d, .str nm] ∧ DkAt a H d D S ∧ FramesAt a H S.frs os ∧ S.frs.length ≤ 1000 ∧ ∀ H', Same H H' → Q (.bl (os.contains nm)) H'
theorem ok_Desk_is_under_way (T : Tj P K mg a fd tk) : FnOk P w K mg base CX0 1 (a 52) (fd 52) ["self", "name"] (spUnder a) := by
  refine T.F_Desk_is_under_way.ok sc_Desk_is_under_way (fun vs H Q E h => ?_) (fun cdv A outer s H vs Q E hr h => ?_)
  · obtain ⟨d, D, S, nm, os, rfl, _⟩ := h
    rfl
  · obtain ⟨d, D, S, nm, os, rfl, DK, FA, hl, k⟩ := h
    refine ⟨_, (pss_one (ps_ret (pe_cmpR (uIn K) (pv 1) (pe_lc (own := [("frame", 2)]) rfl sc_Desk_is_under_way.nd (pi_list (pe_fldU K (pv 0))) (blkOk_by (N := N_Desk_is_under_way) (sc := defScope s_Desk_is_under_way) (by decide +kernel)) (fun _ _ _ _ _ => (pg_name (i := 2) sc_Desk_is_under_way.nd rfl (by first | exact Or.inl rfl | exact Or.inr rfl))) (fun _ _ _ _ _ => pts_nil) (fun _ _ _ _ _ => (pe_fldU K (pv 2)))) (by rfl)))), ?_⟩
    have hob := DK.ob
    have hfr := DK.fr
    have hlen := FA.len
    walk_at "rd"
    refine s_lcM os (fun o => some (.str o)) hfr (by rw [List.length_map, hlen]) (by omega) (fun i o x H2 R R0 ho hx s2 kk _ => ?_) (fun q H2 s2 nq hq => ?_)
    · rw [List.getElem?_map] at hx
      cases ef : S.frs[i]? with
      | none => rw [ef] at hx; cases hx
      | some f =>
      rw [ef] at hx
      cases hx
      obtain ⟨ia, hu, nt, dx, hf⟩ := FA.get ef ho
      have hf2 := s2 _ _ hf
      walk_at "rd"
      refine ⟨rfl, ?_⟩
      walk_at "rd"
      refine ifT rfl ?_
      walk_at "rd"
      exact kk _ rfl _ (.refl _)
    · rw [fm_some] at hq
      walk_at "rd"
      exact k _ s2
theorem b_Desk_is_under_way (T : Tj P K mg a fd tk) : Binds K (fd 52) ["self", "name"] [] := T.F_Desk_is_under_way.binds fun _ _ _ _ _ _ us hl => match us, hl with | [_, _], _ => rfl
/-- the innermost run notes -/
def noteK (kv : List (Key × V)) (nm : Str) (v : V) : List (Key × V) := if (valV kv (.inr nm)).isSome then kv else putK kv (.inr nm) v
def spNote (a : Nat → Addr) : Sp := fun vs H Q _ => ∃ d D S nm v, vs = [.ref d, .str nm, v] ∧ DkAt a H d D S ∧ S.frs.length ≤ 1000 ∧
  ((S.frs = [] ∧ Q .non H) ∨ ∃ l f o ia nt kv, S.frs = l ++ [f] ∧ FrameAt a H f o ia false nt ∧ H nt = some (.dK kv) ∧ kv.length ≤ 1000 ∧ ∀ H', H' nt = some (.dK (noteK kv nm v)) → Fr H H' [nt] → Q .non H')
theorem ok_Desk_note (T : Tj P K mg a fd tk) : FnOk P w K mg base CX0 1 (a 13) (fd 13) ["self", "name", "worth"] (spNote a) := by
  refine T.F_Desk_note.ok sc_Desk_note (fun vs H Q E h => ?_) (fun cdv A outer s H vs Q E hr h => ?_)
  · obtain ⟨d, D, S, nm, v, rfl, _⟩ := h
    rfl
  · obtain ⟨d, D, S, nm, v, rfl, DK, hl, h⟩ := h
    refine ⟨_, (pss_cons (ps_if (pt_cmpR (uEq K hr.units) (pe_callB uLen (by rfl) T.b_len bt_len (pa_cons (pe_fldU K (pv 0)) pa_nil)) pe_int (nomark _)) (pss_one ps_retN) pss_nil)
  (pss_cons (ps_asg (pe_ix uIx (pe_fldU K (pv 0)) (pe_un un_neg pe_int) (fun _ _ => rfl)) (pg_name (i := 3) sc_Desk_note.nd rfl (by first | exact Or.inl rfl | exact Or.inr rfl)))
  (pss_one (ps_if (PW.pt (pw_and (pt_not (pt_val (pe_fldU K (pv 3)))) (pw_and1 (pt_cmp (pc_dnotin (hu_of hr) (pv 1) (pe_fldU K (pv 3))))))) (pss_one (ps_dput (hu_of hr) (pe_fldU K (pv 3)) (pv 1) (pv 2) rfl)) pss_nil)))), ?_⟩
    have hob := DK.ob
    have hfr := DK.fr
    walk_at "rd"
    rcases h with ⟨hp, k⟩ | ⟨l, f, o, ia, nt, kv, hp, ⟨dx, hf⟩, hnt, hkv, k⟩
    · refine ifT (by rw [hp]; rfl) ?_
      walk_at "rd"
      exact k
    · refine ifF (by rw [hp, List.length_map, List.length_append]; simp; omega) ?_
      walk_at "rd"
      refine s_ixL hfr (atI_lastM (v := .ref f) (by rw [hp]; simp)) ?_
      walk_at "rd"
      refine ifT rfl ?_
      walk_at "rd"
      refine s_dnin ?_
      walk_at "rd"
      refine ⟨nt, _, rfl, DGet.k (k := .inr nm) hnt, ?_⟩
      cases e : valV kv (.inr nm) with
      | some z =>
        refine ⟨_, rfl, ?_⟩
        refine ifF rfl ?_
        walk_at "rd"
        exact k _ (by unfold noteK; rw [e]; exact hnt) fun x o h _ => h
      | none =>
        refine ⟨_, rfl, ?_⟩
        refine ifT rfl ?_
        refine s_dput ?_
        walk_at "rd"
        refine ⟨nt, _, rfl, DPut.k (k := .inr nm) hnt (sz_lt (by omega)), ?_⟩
        exact k _ (by unfold noteK; rw [e]; exact upd_same) fun x o h hS => by rw [upd_ne (by simpa using hS)]; exact h
theorem b_Desk_note (T : Tj P K mg a fd tk) : Binds K (fd 13) ["self", "name", "worth"] [] := T.F_Desk_note.binds fun _ _ _ _ _ _ us hl => match us, hl with | [_, _, _], _ => rfl
theorem DkAt.setU {H : Hp} {d : Addr} {D : DA} {S : DSt} (h : DkAt a H d D S) (names' : List Str) : DkAt a (upd H D.un (.lst (names'.map V.str))) d D { S with names := names' } := by
  obtain ⟨nd1, nd2⟩ := h.nd
  simp only [List.nodup_cons, List.mem_cons, List.not_mem_nil, or_false, not_or] at nd1
  obtain ⟨⟨n1, n2, n3, n4⟩, _⟩ := nd1
  obtain ⟨ms, m1, m2⟩ := h.mv
  exact ⟨by rw [upd_ne (ne_of h.ob h.un (by intro z; cases z))]; exact h.ob, upd_same, by rw [upd_ne (ne_of h.cs h.un (by intro z; cases z))]; exact h.cs, by rw [upd_ne (ne_of h.rd h.un (by intro z; cases z))]; exact h.rd,
    by rw [upd_ne (Ne.symm n1)]; exact h.ef, by rw [upd_ne (Ne.symm n2)]; exact h.lg, by rw [upd_ne (Ne.symm n3)]; exact h.fr, ⟨ms, by rw [upd_ne (Ne.symm n4)]; exact m1, m2⟩, h.nd⟩
def spUse (a : Nat → Addr) : Sp := fun vs H Q _ => ∃ d D S nm, vs = [.ref d, .str nm] ∧ DkAt a H d D S ∧ S.frs.length ≤ 1000 ∧ Placed a H S.frs ∧ nm ∉ S.names ∧ S.names.length ≤ 50 ∧ ∀ H', DkAt a H' d D { S with names := S.names ++ [nm] } → Fr H H' [D.un] → Q .non H'
theorem ok_Desk_use_name (T : Tj P K mg a fd tk) : FnOk P w K mg base CX0 2 (a 14) (fd 14) ["self", "name"] (spUse a) := by
  refine T.F_Desk_use_name.ok sc_Desk_use_name (fun vs H Q E h => ?_) (fun cdv A outer s H vs Q E hr h => ?_)
  · obtain ⟨d, D, S, nm, rfl, _⟩ := h
    rfl
  · obtain ⟨d, D, S, nm, rfl, DK, hl, hp, hn, h50, k⟩ := h
    refine ⟨_, (pss_cons (ps_expr (pe_meth0 (pv 0) T.cl_Desk T.m_Desk_check_placed (ok_Desk_check_placed T) (hr.mono (by decide)) (b_Desk_check_placed T) .nil pass0))
  (pss_cons (ps_if (pt_cmpR (uIn K) (pv 1) (pe_fldU K (pv 0)) (by rfl)) (pss_one ps_nev) pss_nil)
  (pss_one (ps_expr (pe_bm PySem.F.plainAttrs_list PySem.F.slot_list_append PySem.F.type_list_append uAppend (pe_fldU K (pv 0)) (pa_cons (pv 1) pa_nil)))))), ?_⟩
    have hob := DK.ob
    have hun := DK.un
    walk_at "rd"
    refine ⟨d, D, S, rfl, DK, hl, hp, ?_⟩
    walk_at "rd"
    refine ifF (by simpa using hn) ?_
    walk_at "rd"
    refine s_app hun (sz_lt (by rw [List.length_map]; omega)) ?_
    have e : S.names.map V.str ++ [.str nm] = (S.names ++ [nm]).map V.str := by simp
    rw [e]
    exact k _ (DK.setU _) fun x o hx hS => by rw [upd_ne (by simpa using hS)]; exact hx
theorem b_Desk_use_name (T : Tj P K mg a fd tk) : Binds K (fd 14) ["self", "name"] [] := T.F_Desk_use_name.binds fun _ _ _ _ _ _ us hl => match us, hl with | [_, _], _ => rfl
def spWorthC (a : Nat → Addr) : Sp := fun vs H Q _ => ∃ d c nm v, vs = [.ref c] ∧ CellAt a H d c nm v ∧ Q (.int v) H
theorem ok_Cell_worth_now (T : Tj P K mg a fd tk) : FnOk P w K mg base CX0 1 (a 25) (fd 25) ["self"] (spWorthC a) := by
  refine T.F_Cell_worth_now.ok sc_Cell_worth_now (fun vs H Q E h => ?_) (fun cdv A outer s H vs Q E hr h => ?_)
  · obtain ⟨d, c, nm, v, rfl, _⟩ := h
    rfl
  · obtain ⟨d, c, nm, v, rfl, ⟨dc, hc⟩, k⟩ := h
    refine ⟨_, (pss_one (ps_ret (pe_fldU K (pv 0)))), ?_⟩
    walk_at "rd"
    exact k
theorem b_Cell_worth_now (T : Tj P K mg a fd tk) : Binds K (fd 25) ["self"] [] := T.F_Cell_worth_now.binds fun _ _ _ _ _ _ us hl => match us, hl with | [_], _ => rfl
theorem ok_Cell_value (T : Tj P K mg a fd tk) : FnOk P w K mg base CX0 1 (a 8) (fd 8) ["self"] (spWorthC a) := by
  refine T.F_Cell_value.ok sc_Cell_valueG (fun vs H Q E h => ?_) (fun cdv A outer s H vs Q E hr h => ?_)
  · obtain ⟨d, c, nm, v, rfl, _⟩ := h
    rfl
  · obtain ⟨d, c, nm, v, rfl, ⟨dc, hc⟩, k⟩ := h
    refine ⟨_, pss_one (ps_ret (pe_fldU K (pv 0))), ?_⟩
    walk_at "rd"
    exact k
theorem b_Cell_value (T : Tj P K mg a fd tk) : Binds K (fd 8) ["self"] [] := T.F_Cell_value.binds fun _ _ _ _ _ _ us hl => match us, hl with | [_], _ => rfl
end
end Tr
set_option maxHeartbeats 4000000

namespace Tr
open PySem L2
section
variable {P : Program} {w : World} {K : PySem.W.Frag} {mg : Str → Option Value} {base : Heap} {a : Nat → Addr} {fd : Nat → FuncData} {tk : Nat → Tok}
local macro_rules | `(tactic| walk_at "ne") => `(tactic| first | assumption | (exact Ne.symm (by assumption)) | (refine ne_of_none (by assumption) (by assumption)) | (refine Ne.symm (ne_of_none (by assumption) (by assumption))))
local macro_rules | `(tactic| walk_at "hl") => `(tactic| first | assumption | with_reducible exact upd_same | ((with_reducible refine' Eq.trans (upd_ne ?hne) ?hrest); (case hne => walk_at "ne"); (case hrest => walk_at "hl")) | (refine' get_same ?hs ?hg; (case hs => assumption); (case hg => assumption)))
local macro_rules | `(tactic| walk_at "at") => `(tactic| first | with_reducible exact atI_0 _ _ | with_reducible exact atI_1 _ _ _ | with_reducible exact atI_2 _ _ _ _ | with_reducible exact atI_3 _ _ _ _ _ | assumption)
local macro_rules | `(tactic| walk_at "rd1") => `(tactic| first
  | with_reducible refine s_seq ?_ | with_reducible refine s_next ?_ | with_reducible refine s_if ?_ | with_reducible refine s_ret ?_ | with_reducible refine s_retN ?_ | with_reducible refine s_drop ?_ | with_reducible refine s_asg ?_ | with_reducible refine s_brk ?_ | with_reducible refine s_cont ?_
  | with_reducible refine s_gname ?_ | with_reducible refine s_c ?_ | with_reducible refine s_op ?_ | with_reducible refine s_un ?_ | with_reducible refine s_neg ?_ | with_reducible refine s_test ?_ | with_reducible refine s_tb ?_ | with_reducible refine s_not ?_ | with_reducible refine s_and ?_ | with_reducible refine s_or ?_ | with_reducible refine s_yes ?_
  | ((with_reducible refine' s_var ?hv ?_); (case hv => exact rfl))
  | with_reducible refine s_ifx ?_ | with_reducible refine s_andV ?_ | with_reducible refine s_orV ?_ | with_reducible refine s_notV ?_ | with_reducible refine s_chain ?_ | with_reducible refine s_nil ?_ | with_reducible refine s_cons ?_ | with_reducible refine s_lst ?_ | with_reducible refine s_tup ?_ | with_reducible refine s_cb ?_ | with_reducible refine s_call ?_ | with_reducible refine s_meth ?_ | with_reducible refine s_make ?_
  | with_reducible refine s_dnewK ?_ | with_reducible refine s_sl ?_ | with_reducible refine s_po0 ?_ | with_reducible refine s_po1 ?_ | with_reducible refine s_bm ?_ | with_reducible refine s_bm0 ?_
  | with_reducible refine s_bl ?_ | with_reducible refine s_int ?_ | with_reducible refine s_I0 ?_ | with_reducible refine s_addI ?_ | with_reducible refine s_intI ?_ | with_reducible refine s_intB ?_
  | with_reducible refine s_m1 ?_ | with_reducible refine s_lc ?_ | with_reducible refine s_ilist ?_ | with_reducible refine s_for ?_ | with_reducible refine s_irng ?_ | with_reducible refine s_match ?_ | with_reducible refine s_starT ?_ | with_reducible refine s_isS ?_ | with_reducible refine s_isiSS ?_ | with_reducible refine s_fldU ?_ | with_reducible refine s_sfldU ?_
  | ((with_reducible refine' s_eqS ?hq ?_); (case hq => exact rfl)) | ((with_reducible refine' s_neS ?hq ?_); (case hq => exact rfl))
  | ((with_reducible refine' s_isN ?hq ?_); (case hq => exact rfl)) | ((with_reducible refine' s_notN ?hq ?_); (case hq => exact rfl))
  | ((with_reducible refine' s_eqNil ?h1 ?h2 ?_); (case h1 => walk_at "hl"); (case h2 => walk_at "hl")) | ((with_reducible refine' s_neNil ?h1 ?h2 ?_); (case h1 => walk_at "hl"); (case h2 => walk_at "hl"))
  | ((with_reducible refine' s_ixL ?h1 ?h2 ?_); (case h1 => walk_at "hl"); (case h2 => walk_at "at")) | ((with_reducible refine' s_ixT ?h1 ?h2 ?_); (case h1 => walk_at "hl"); (case h2 => walk_at "at"))
  | ((with_reducible refine' s_inS ?h1 ?_); (case h1 => walk_at "hl")) | ((with_reducible refine' s_ninS ?h1 ?_); (case h1 => walk_at "hl")) | with_reducible refine s_inW ?_
  | ((with_reducible refine' s_lenL ?h1 ?_); (case h1 => walk_at "hl")) | ((with_reducible refine' s_lenT ?h1 ?_); (case h1 => walk_at "hl"))
  | ((with_reducible refine' s_tyL ?h1 ?_); (case h1 => walk_at "hl"))
  | ((with_reducible refine' s_fldM ?h1 ?h2 ?h3 ?_); (case h1 => walk_at "hl"); (case h2 => walk_at "fok"); (case h3 => walk_at "flk"))
  | ((with_reducible refine' s_setM ?h1 ?h2 ?h3 ?h4 ?_); (case h1 => walk_at "hl"); (case h2 => walk_at "fok"); (case h4 => walk_at "put"); (case h3 => exact Nat.le_of_ble_eq_true rfl))
  | ((with_reducible refine' s_starM ?h1 ?_); (case h1 => walk_at "hl"))
  | ((with_reducible refine' s_recv ?h1 ?h2 ?_); (case h1 => walk_at "hl"); (case h2 => exact rfl))
  | ((with_reducible refine' s_sz ?h1 ?_); (case h1 => (simp; done))))
local macro_rules | `(tactic| walk_at "rd") => `(tactic| repeat (walk_at "rd1"))
local macro_rules | `(tactic| walk_at "fok") => `(tactic| assumption)
local macro_rules | `(tactic| walk_at "flk") => `(tactic| rfl)
local macro_rules | `(tactic| walk_at "put") => `(tactic| exact rfl)

local macro_rules | `(tactic| walk_at "fok") => `(tactic| first | assumption | exact Tj.ce (by assumption) (by decide) | exact Tj.de (by assumption) (by decide) | exact Tj.ke (by assumption) (by decide) | exact Tj.fe (by assumption) (by decide))
theorem s_con {σ : L2.St} {H : Hp} {Q : VK} {ta : TE} {f : Str} (h : ta σ H fun x H1 => ∃ a C dx fs v u, x = .ref a ∧ H1 a = some (.ins C dx fs) ∧ Cls K C ∧ Con K C f v u ∧ fs.lookup f = none ∧ Q v H1) : tCon K ta f σ H Q := h
theorem DkAt.setM {H : Hp} {d z : Addr} {D : DA} {S : DSt} (h : DkAt a H d D S) (nz : H z = none) : DkAt a (upd (upd H z (.lst [])) d (.ins (a 3) D.dd (deskB { D with mv := z } S.ba))) d { D with mv := z } S := by
  obtain ⟨nd1, nd2⟩ := h.nd
  simp only [List.nodup_cons, List.mem_cons, List.not_mem_nil, or_false, not_or, List.nodup_nil, and_true] at nd1
  obtain ⟨⟨n1, n2, n3, n4⟩, ⟨n5, n6, n7⟩, ⟨n8, n9⟩, n10, _⟩ := nd1
  have up : ∀ {x : Addr} {o o' : HO}, H x = some o → (∀ C dx fs, o ≠ .ins C dx fs) → upd (upd H z (.lst [])) d o' x = some o := by
    intro x o o' hx hn
    rw [upd_ne (ne_of hx h.ob (hn _ _ _)), upd_ne (ne_of_none hx nz)]; exact hx
  have zd : z ≠ d := Ne.symm (ne_of_none h.ob nz)
  exact ⟨upd_same, up h.un (by intros; simp), up h.cs (by intros; simp), up h.rd (by intros; simp), up h.ef (by intros; simp), up h.lg (by intros; simp), up h.fr (by intros; simp), ⟨[], by rw [upd_ne zd]; exact upd_same, by simp⟩, by
    have z1 := ne_of_none h.un nz
    have z2 := ne_of_none h.ef nz
    have z3 := ne_of_none h.lg nz
    have z4 := ne_of_none h.fr nz
    simp only [List.nodup_cons, List.mem_cons, List.not_mem_nil, or_false, not_or, List.nodup_nil, and_true]
    exact ⟨⟨n1, n2, n3, z1⟩, ⟨n5, n6, z2⟩, ⟨n8, z3⟩, z4, not_false⟩, nd2⟩
/-- outside of runs and batches, no effects -/
def spSettle (a : Nat → Addr) : Sp := fun vs H Q _ => ∃ d D S, vs = [.ref d] ∧ DkAt a H d D S ∧ S.efs = [] ∧ S.frs = [] ∧ S.ba = 0 ∧ ∀ z H', H z = none → DkAt a H' d { D with mv := z } S → H' z = some (.lst []) → Fr H H' [d] → Q .non H'
theorem ok_Desk_settle (T : Tj P K mg a fd tk) : FnOk P w K mg base CX0 2 (a 16) (fd 16) ["self"] (spSettle a) := by
  refine T.F_Desk_settle.ok sc_Desk_settle (fun vs H Q E h => ?_) (fun cdv A outer s H vs Q E hr h => ?_)
  · obtain ⟨d, D, S, rfl, _⟩ := h
    rfl
  · obtain ⟨d, D, S, rfl, DK, he, hf, hb, k⟩ := h
    refine ⟨_, (pss_cons (ps_expr (pe_meth0 (pv 0) T.cl_Desk T.m_Desk_check_placed (ok_Desk_check_placed T) (hr.mono (by decide)) (b_Desk_check_placed T) .nil pass0))
  (pss_cons (ps_if (PW.pt (pw_or (pt_cmpR op_gt (pe_fldU K (pv 0)) pe_int (nomark _)) (pw_or1 (pt_cmpR op_gt (pe_callB uLen (by rfl) T.b_len bt_len (pa_cons (pe_fldU K (pv 0)) pa_nil)) pe_int (nomark _))))) (pss_one ps_retN) pss_nil)
  (pss_cons (ps_fldU K (pv 0) (pe_lst pa_nil))
  (pss_one (ps_for PassesOwn.never rfl (pi_range1 (by rfl) T.b_range (pa_cons (pe_op uAdd (pe_con (pv 0) rfl) pe_int) pa_nil)) (pg_name (i := 1) sc_Desk_settle.nd rfl (by first | exact Or.inl rfl | exact Or.inr rfl))
   (pss_cons (ps_setLc (i := 2) (own := [("effect", 3)]) rfl sc_Desk_settle.nd rfl rfl (sw_true rfl rfl rfl (by decide +kernel)) (pi_list (pe_callTy uList (by rfl) T.b_list bt_list (pa_cons (pe_fldU K (pv 0)) pa_nil))) (blkOk_by (N := N_Desk_settle) (sc := defScope s_Desk_settle) (by decide +kernel)) (fun _ _ _ _ _ => (pg_name (i := 3) sc_Desk_settle.nd rfl (by first | exact Or.inl rfl | exact Or.inr rfl))) (fun _ _ _ _ _ => (pts_one pt_never)) (fun _ _ _ _ _ => (pv 3)))
  (pss_cons (ps_if (pt_cmpR (uEq K hr.units) (pe_callB uLen (by rfl) T.b_len bt_len (pa_cons (pv 2) pa_nil)) pe_int (nomark _)) (pss_one ps_retN) pss_nil)
  (pss_cons ps_nev
  (pss_one ps_nev))))))))), ?_⟩
    have hob := DK.ob
    have hfr := DK.fr
    walk_at "rd"
    refine ⟨d, D, S, rfl, DK, by rw [hf]; simp, .inl hf, ?_⟩
    walk_at "rd"
    refine ifF (by rw [hb]; rfl) ?_
    walk_at "rd"
    refine ifF (by rw [hf]; rfl) ?_
    walk_at "rd"
    intro z nz
    have DKz := DK.setM nz
    have hobz := upd_ne (o := .lst []) (H := H) (ne_of_none hob nz)
    rw [hob] at hobz
    walk_at "rd"
    have fz : Fr H (upd (upd H z (.lst [])) d (.ins (a 3) D.dd (deskB { D with mv := z } S.ba))) [d] := fun x o hx hS => by
      rw [upd_ne (by simpa using hS), upd_ne (ne_of_none hx nz)]; exact hx
    have ep : putF (Str.ofString "moved") (V.ref z) (deskB D S.ba) = deskB { D with mv := z } S.ba := rfl
    rw [ep]
    have hzz : upd (upd H z (.lst [])) d (.ins (a 3) D.dd (deskB { D with mv := z } S.ba)) z = some (.lst []) := by rw [upd_ne (Ne.symm (ne_of_none hob nz))]; exact upd_same
    generalize upd (upd H z (.lst [])) d (.ins (a 3) D.dd (deskB { D with mv := z } S.ba)) = H1 at DKz fz hzz ⊢
    have hob1 := DKz.ob
    have hef1 := DKz.ef
    rw [he] at hef1
    refine s_con ?_
    walk_at "rd"
    refine ⟨d, a 3, D.dd, _, _, _, rfl, hob1, T.cl_Desk, T.k_MOST_RUNS, rfl, ?_⟩
    walk_at "rd"
    refine s_forR (by decide) (by decide) (fun i σ H' => i = 0 ∧ σ = [some (.ref d), none, none, none, none] ∧ H' = H1) ⟨rfl, rfl, rfl⟩ ?_ ?_
    rotate_left
    · rintro σ H' ⟨z, _⟩
      exact absurd z (by decide)
    rintro i σ H' hi ⟨rfl, rfl, rfl⟩
    walk_at "rd"
    refine s_listL hef1 fun q nq => ?_
    walk_at "rd"
    have s2 := Same.new (o := .lst []) nq
    refine s_lcM ([] : List V) (fun _ => none) upd_same rfl (by decide) (fun i a x H2 R R0 h => by simp at h) (fun D2 H2 s3 nD hD => ?_)
    walk_at "rd"
    refine ifT rfl ?_
    walk_at "rd"
    have s4 := s2.trans s3
    exact k z _ nz (DKz.same s4) (s4 _ _ hzz) (fz.tr (.same s4))
theorem b_Desk_settle (T : Tj P K mg a fd tk) : Binds K (fd 16) ["self"] [] := T.F_Desk_settle.binds fun _ _ _ _ _ _ us hl => match us, hl with | [_], _ => rfl
theorem s_seqK {t1 t2 : TS} {na : L2.St → Hp → Prop} {rt : VK} {bk ct : L2.St → Hp → Prop} {σ : L2.St} {H : Hp} (σ1 : L2.St) (S : Hp → Prop) (h2 : ∀ H', S H' → t2 ⟨na, rt, bk, ct⟩ σ1 H') (h1 : ∀ R : L2.St → Hp → Prop, (∀ H', S H' → R σ1 H') → t1 ⟨R, rt, bk, ct⟩ σ H) : tSeq t1 t2 ⟨na, rt, bk, ct⟩ σ H := h1 _ h2
theorem DkAt.setV {H : Hp} {d : Addr} {D : DA} {S : DSt} (h : DkAt a H d D S) {ms : List V} (hm : ms.length ≤ 1000) : DkAt a (upd H D.mv (.lst ms)) d D S := by
  obtain ⟨nd1, nd2⟩ := h.nd
  simp only [List.nodup_cons, List.mem_cons, List.not_mem_nil, or_false, not_or] at nd1
  obtain ⟨⟨n1, n2, n3, n4⟩, ⟨n5, n6, n7⟩, ⟨n8, n9⟩, n10, _⟩ := nd1
  obtain ⟨ms0, hm1, hm2⟩ := h.mv
  exact ⟨by rw [upd_ne (ne_of h.ob hm1 (fun z => by cases z))]; exact h.ob, by rw [upd_ne n4]; exact h.un, by rw [upd_ne (ne_of h.cs hm1 (fun z => by cases z))]; exact h.cs, by rw [upd_ne (ne_of h.rd hm1 (fun z => by cases z))]; exact h.rd,
    by rw [upd_ne n7]; exact h.ef, by rw [upd_ne n9]; exact h.lg, by rw [upd_ne n10]; exact h.fr, ⟨ms, upd_same, hm⟩, h.nd⟩
/-- another thing changes -/
theorem DkAt.other {H : Hp} {d x : Addr} {D : DA} {S : DSt} (h : DkAt a H d D S) {C dx dx' : Addr} {fs fs' : List (Str × V)} (hx : H x = some (.ins C dx fs)) (hd : x ≠ d) : DkAt a (upd H x (.ins C dx' fs')) d D S := by
  obtain ⟨ms0, hm1, hm2⟩ := h.mv
  exact ⟨by rw [upd_ne (Ne.symm hd)]; exact h.ob, by rw [upd_ne (ne_of h.un hx (fun z => by cases z))]; exact h.un, by rw [upd_ne (ne_of h.cs hx (fun z => by cases z))]; exact h.cs, by rw [upd_ne (ne_of h.rd hx (fun z => by cases z))]; exact h.rd,
    by rw [upd_ne (ne_of h.ef hx (fun z => by cases z))]; exact h.ef, by rw [upd_ne (ne_of h.lg hx (fun z => by cases z))]; exact h.lg, by rw [upd_ne (ne_of h.fr hx (fun z => by cases z))]; exact h.fr, ⟨ms0, by rw [upd_ne (ne_of hm1 hx (fun z => by cases z))]; exact hm1, hm2⟩, h.nd⟩
def spCall (a : Nat → Addr) : Sp := fun vs H Q _ => ∃ d D S c nm v, vs = [.ref c] ∧ DkAt a H d D S ∧ S.frs.length ≤ 1000 ∧ CellAt a H d c nm v ∧
  ((S.frs = [] ∧ Q (.int v) H) ∨ ∃ l f o ia nt kv, S.frs = l ++ [f] ∧ FrameAt a H f o ia false nt ∧ H nt = some (.dK kv) ∧ kv.length ≤ 1000 ∧ ∀ H', H' nt = some (.dK (noteK kv nm (.int v))) → Fr H H' [nt] → Q (.int v) H')
theorem ok_Cell___call__ (T : Tj P K mg a fd tk) : FnOk P w K mg base CX0 2 (a 6) (fd 6) ["self"] (spCall a) := by
  refine T.F_Cell___call__.ok sc_Cell___call__ (fun vs H Q E h => ?_) (fun cdv A outer s H vs Q E hr h => ?_)
  · obtain ⟨d, D, S, c, nm, v, rfl, _⟩ := h
    rfl
  · obtain ⟨d, D, S, c, nm, v, rfl, DK, hl, ⟨dc, hc⟩, h⟩ := h
    refine ⟨_, (pss_cons (ps_expr (pe_meth (pe_fldU K (pv 0)) T.cl_Desk T.m_Desk_note (ok_Desk_note T) (hr.mono (by decide)) (b_Desk_note T) .nil pass0 (pa_cons (pe_fldU K (pv 0)) (pa_cons (pe_fldU K (pv 0)) pa_nil))))
  (pss_one (ps_ret (pe_fldU K (pv 0))))), ?_⟩
    have hob := DK.ob
    walk_at "rd"
    rcases h with ⟨hf, k⟩ | ⟨l, f, o, ia, nt, kv, hf, FA, hnt, hkv, k⟩
    · refine ⟨d, D, S, _, _, rfl, DK, hl, .inl ⟨hf, ?_⟩⟩
      walk_at "rd"
      exact k
    · refine ⟨d, D, S, _, _, rfl, DK, hl, .inr ⟨l, f, o, ia, nt, kv, hf, FA, hnt, hkv, fun H' hnt' fr => ?_⟩⟩
      have hc' : H' c = some (.ins (a 2) dc (cellF d nm v)) := fr _ _ hc (by have := ne_of hc hnt (by intro z; cases z); simpa using this)
      walk_at "rd"
      exact k H' hnt' fr
theorem b_Cell___call__ (T : Tj P K mg a fd tk) : Binds K (fd 6) ["self"] [] := T.F_Cell___call__.binds fun _ _ _ _ _ _ us hl => match us, hl with | [_], _ => rfl
def spPut (a : Nat → Addr) : Sp := fun vs H Q _ => ∃ d D S c nm v v', vs = [.ref c, .int v'] ∧ DkAt a H d D S ∧ S.efs = [] ∧ S.frs = [] ∧ S.ba = 0 ∧ CellAt a H d c nm v ∧ (∃ ms, H D.mv = some (.lst ms) ∧ ms.length ≤ 500) ∧ c ≠ d ∧ ∀ z H', H z = none → DkAt a H' d { D with mv := z } S → H' z = some (.lst []) → CellAt a H' d c nm v' → Fr H H' [d, c, D.mv] → Q .non H'
theorem ok_Cell_put (T : Tj P K mg a fd tk) : FnOk P w K mg base CX0 3 (a 9) (fd 9) ["self", "value"] (spPut a) := by
  refine T.F_Cell_put.ok sc_Cell_put (fun vs H Q E h => ?_) (fun cdv A outer s H vs Q E hr h => ?_)
  · obtain ⟨d, D, S, c, nm, v, v', rfl, _⟩ := h
    rfl
  · obtain ⟨d, D, S, c, nm, v, v', rfl, DK, he, hf, hb, ⟨dc, hc⟩, ⟨ms, hm1, hm2⟩, hcd, k⟩ := h
    refine ⟨_, (pss_cons (ps_expr (pe_meth0 (pe_fldU K (pv 0)) T.cl_Desk T.m_Desk_check_placed (ok_Desk_check_placed T) (hr.mono (by decide)) (b_Desk_check_placed T) .nil pass0))
  (pss_cons (ps_if (pt_cmpR (uNe K hr.units) (pv 1) (pe_fldU K (pv 0)) (nomark _)) (pss_one (ps_expr (pe_bm PySem.F.plainAttrs_list PySem.F.slot_list_append PySem.F.type_list_append uAppend (pe_fldU K (pe_fldU K (pv 0))) (pa_cons (pe_fldU K (pv 0)) pa_nil)))) pss_nil)
  (pss_cons (ps_fldU K (pv 0) (pv 1))
  (pss_one (ps_expr (pe_meth0 (pe_fldU K (pv 0)) T.cl_Desk T.m_Desk_settle (ok_Desk_settle T) (hr.mono (by decide)) (b_Desk_settle T) .nil pass0)))))), ?_⟩
    have hob := DK.ob
    walk_at "rd"
    refine ⟨d, D, S, rfl, DK, by rw [hf]; simp, .inl hf, ?_⟩
    refine s_seqK (L2.start ["self", "value"] [.ref c, .int v']) (fun H1 => DkAt a H1 d D S ∧ H1 c = some (.ins (a 2) dc (cellF d nm v)) ∧ Fr H H1 [D.mv]) (fun H1 hS => ?_) fun R hR => ?_
    rotate_left
    · walk_at "rd"
      refine ifB (fun hne => ?_) (fun hne => ?_)
      · walk_at "rd"
        refine s_app hm1 (sz_lt (by omega)) ?_
        exact hR _ ⟨DK.setV (by rw [List.length_append]; simp; omega), by rw [upd_ne (ne_of hc hm1 (fun z => by cases z))]; exact hc, fun x o hx hS => by rw [upd_ne (by simpa using hS)]; exact hx⟩
      · exact hR _ ⟨DK, hc, fun x o hx _ => hx⟩
    · obtain ⟨DK1, hc1, f1⟩ := hS
      walk_at "rd"
      have hob1 := DK1.ob
      have ep : putF (Str.ofString "now") (V.int v') (cellF d nm v) = cellF d nm v' := rfl
      rw [ep]
      have DK2 := DK1.other (dx' := dc) (fs' := cellF d nm v') hc1 hcd
      have hc2 : upd H1 c (.ins (a 2) dc (cellF d nm v')) c = some (.ins (a 2) dc (cellF d nm v')) := upd_same
      have f2 : Fr H (upd H1 c (.ins (a 2) dc (cellF d nm v'))) [d, c, D.mv] := fun x o hx hS => by
        simp only [List.mem_cons, List.not_mem_nil, or_false, not_or] at hS
        rw [upd_ne hS.2.1]; exact f1 _ _ hx (by simpa using hS.2.2)
      generalize upd H1 c (.ins (a 2) dc (cellF d nm v')) = H2 at DK2 hc2 f2 ⊢
      have hob2 := DK2.ob
      walk_at "rd"
      refine ⟨d, D, S, rfl, DK2, he, hf, hb, fun z H3 nz DK3 hz3 f3 => ?_⟩
      walk_at "rd"
      have nzH : H z = none := by
        cases ez : H z with
        | none => rfl
        | some o =>
          by_cases hS : z ∈ [d, c, D.mv]
          · simp only [List.mem_cons, List.not_mem_nil, or_false] at hS
            obtain ⟨ms2, hm3, _⟩ := DK2.mv
            rcases hS with rfl | rfl | rfl
            · rw [hob2] at nz; cases nz
            · rw [hc2] at nz; cases nz
            · rw [hm3] at nz; cases nz
          · rw [f2 _ _ ez hS] at nz; cases nz
      exact k z H3 nzH DK3 hz3 ⟨dc, f3 _ _ hc2 (by simpa using hcd)⟩ fun x o hx hS => f3 _ _ (f2 _ _ hx hS) (by simp only [List.mem_cons, List.not_mem_nil, or_false, not_or] at hS ⊢; exact hS.1)
theorem b_Cell_put (T : Tj P K mg a fd tk) : Binds K (fd 9) ["self", "value"] [] := T.F_Cell_put.binds fun _ _ _ _ _ _ us hl => match us, hl with | [_, _], _ => rfl
def spLenD (a : Nat → Addr) : Sp := fun vs H Q _ => ∃ d D S, vs = [.ref d] ∧ DkAt a H d D S ∧ S.lgs.length ≤ 10000 ∧ Q (.int (S.lgs.length : Nat)) H
theorem ok_Desk___len__ (T : Tj P K mg a fd tk) : FnOk P w K mg base CX0 1 (a 21) (fd 21) ["self"] (spLenD a) := by
  refine T.F_Desk___len__.ok sc_Desk___len__ (fun vs H Q E h => ?_) (fun cdv A outer s H vs Q E hr h => ?_)
  · obtain ⟨d, D, S, rfl, _⟩ := h
    rfl
  · obtain ⟨d, D, S, rfl, DK, hl, k⟩ := h
    refine ⟨_, (pss_one (ps_ret (pe_callB uLen (by rfl) T.b_len bt_len (pa_cons (pe_fldU K (pv 0)) pa_nil)))), ?_⟩
    have hob := DK.ob
    have hlg := DK.lg
    walk_at "rd"
    exact k
theorem b_Desk___len__ (T : Tj P K mg a fd tk) : Binds K (fd 21) ["self"] [] := T.F_Desk___len__.binds fun _ _ _ _ _ _ us hl => match us, hl with | [_], _ => rfl
theorem bt_iter : bootBuiltins "iter" = some (.builtin "iter") := by decide +kernel
def spIterD (a : Nat → Addr) : Sp := fun vs H Q _ => ∃ d D S, vs = [.ref d] ∧ DkAt a H d D S ∧ ∀ it, H it = none → Q (.ref it) (upd H it (ItO D.lg it 0))
theorem ok_Desk___iter__ (T : Tj P K mg a fd tk) : FnOk P w K mg base CX0 1 (a 20) (fd 20) ["self"] (spIterD a) := by
  refine T.F_Desk___iter__.ok sc_Desk___iter__ (fun vs H Q E h => ?_) (fun cdv A outer s H vs Q E hr h => ?_)
  · obtain ⟨d, D, S, rfl, _⟩ := h
    rfl
  · obtain ⟨d, D, S, rfl, DK, k⟩ := h
    refine ⟨_, (pss_one (ps_ret (pe_callB call_iterL (by rfl) T.b_iter bt_iter (pa_cons (pe_fldU K (pv 0)) pa_nil)))), ?_⟩
    have hob := DK.ob
    have hlg := DK.lg
    walk_at "rd"
    exact ⟨D.lg, S.lgs, rfl, SqL.of hlg, k⟩
theorem b_Desk___iter__ (T : Tj P K mg a fd tk) : Binds K (fd 20) ["self"] [] := T.F_Desk___iter__.binds fun _ _ _ _ _ _ us hl => match us, hl with | [_], _ => rfl
end
end Tr
set_option maxHeartbeats 4000000

namespace Tr
open PySem L2
section
variable {P : Program} {w : World} {K : PySem.W.Frag} {mg : Str → Option Value} {base : Heap} {a : Nat → Addr} {fd : Nat → FuncData} {tk : Nat → Tok}
local macro_rules | `(tactic| walk_at "ne") => `(tactic| first | assumption | (exact Ne.symm (by assumption)) | (refine ne_of_none (by assumption) (by assumption)) | (refine Ne.symm (ne_of_none (by assumption) (by assumption))))
local macro_rules | `(tactic| walk_at "hl") => `(tactic| first | assumption | with_reducible exact upd_same | ((with_reducible refine' Eq.trans (upd_ne ?hne) ?hrest); (case hne => walk_at "ne"); (case hrest => walk_at "hl")) | (refine' get_same ?hs ?hg; (case hs => assumption); (case hg => assumption)))
local macro_rules | `(tactic| walk_at "at") => `(tactic| first | with_reducible exact atI_0 _ _ | with_reducible exact atI_1 _ _ _ | with_reducible exact atI_2 _ _ _ _ | with_reducible exact atI_3 _ _ _ _ _ | assumption)
local macro_rules | `(tactic| walk_at "rd1") => `(tactic| first
  | with_reducible refine s_seq ?_ | with_reducible refine s_next ?_ | with_reducible refine s_if ?_ | with_reducible refine s_ret ?_ | with_reducible refine s_retN ?_ | with_reducible refine s_drop ?_ | with_reducible refine s_asg ?_ | with_reducible refine s_brk ?_ | with_reducible refine s_cont ?_
  | with_reducible refine s_gname ?_ | with_reducible refine s_c ?_ | with_reducible refine s_op ?_ | with_reducible refine s_un ?_ | with_reducible refine s_neg ?_ | with_reducible refine s_test ?_ | with_reducible refine s_tb ?_ | with_reducible refine s_not ?_ | with_reducible refine s_and ?_ | with_reducible refine s_or ?_ | with_reducible refine s_yes ?_
  | ((with_reducible refine' s_var ?hv ?_); (case hv => exact rfl))
  | with_reducible refine s_ifx ?_ | with_reducible refine s_andV ?_ | with_reducible refine s_orV ?_ | with_reducible refine s_notV ?_ | with_reducible refine s_chain ?_ | with_reducible refine s_nil ?_ | with_reducible refine s_cons ?_ | with_reducible refine s_lst ?_ | with_reducible refine s_tup ?_ | with_reducible refine s_cb ?_ | with_reducible refine s_call ?_ | with_reducible refine s_meth ?_ | with_reducible refine s_make ?_
  | with_reducible refine s_dnewK ?_ | with_reducible refine s_sl ?_ | with_reducible refine s_po0 ?_ | with_reducible refine s_po1 ?_ | with_reducible refine s_bm ?_ | with_reducible refine s_bm0 ?_
  | with_reducible refine s_bl ?_ | with_reducible refine s_int ?_ | with_reducible refine s_I0 ?_ | with_reducible refine s_addI ?_ | with_reducible refine s_intI ?_ | with_reducible refine s_intB ?_
  | with_reducible refine s_m1 ?_ | with_reducible refine s_lc ?_ | with_reducible refine s_ilist ?_ | with_reducible refine s_for ?_ | with_reducible refine s_irng ?_ | with_reducible refine s_match ?_ | with_reducible refine s_starT ?_ | with_reducible refine s_isS ?_ | with_reducible refine s_isiSS ?_ | with_reducible refine s_fldU ?_ | with_reducible refine s_sfldU ?_
  | ((with_reducible refine' s_eqS ?hq ?_); (case hq => exact rfl)) | ((with_reducible refine' s_neS ?hq ?_); (case hq => exact rfl))
  | ((with_reducible refine' s_isN ?hq ?_); (case hq => exact rfl)) | ((with_reducible refine' s_notN ?hq ?_); (case hq => exact rfl))
  | ((with_reducible refine' s_eqNil ?h1 ?h2 ?_); (case h1 => walk_at "hl"); (case h2 => walk_at "hl")) | ((with_reducible refine' s_neNil ?h1 ?h2 ?_); (case h1 => walk_at "hl"); (case h2 => walk_at "hl"))
  | ((with_reducible refine' s_ixL ?h1 ?h2 ?_); (case h1 => walk_at "hl"); (case h2 => walk_at "at")) | ((with_reducible refine' s_ixT ?h1 ?h2 ?_); (case h1 => walk_at "hl"); (case h2 => walk_at "at"))
  | ((with_reducible refine' s_inS ?h1 ?_); (case h1 => walk_at "hl")) | ((with_reducible refine' s_ninS ?h1 ?_); (case h1 => walk_at "hl")) | with_reducible refine s_inW ?_
  | ((with_reducible refine' s_lenL ?h1 ?_); (case h1 => walk_at "hl")) | ((with_reducible refine' s_lenT ?h1 ?_); (case h1 => walk_at "hl"))
  | ((with_reducible refine' s_tyL ?h1 ?_); (case h1 => walk_at "hl"))
  | ((with_reducible refine' s_fldM ?h1 ?h2 ?h3 ?_); (case h1 => walk_at "hl"); (case h2 => walk_at "fok"); (case h3 => walk_at "flk"))
  | ((with_reducible refine' s_setM ?h1 ?h2 ?h3 ?h4 ?_); (case h1 => walk_at "hl"); (case h2 => walk_at "fok"); (case h4 => walk_at "put"); (case h3 => exact Nat.le_of_ble_eq_true rfl))
  | ((with_reducible refine' s_starM ?h1 ?_); (case h1 => walk_at "hl"))
  | ((with_reducible refine' s_recv ?h1 ?h2 ?_); (case h1 => walk_at "hl"); (case h2 => exact rfl))
  | ((with_reducible refine' s_sz ?h1 ?_); (case h1 => (simp; done))))
local macro_rules | `(tactic| walk_at "rd") => `(tactic| repeat (walk_at "rd1"))
local macro_rules | `(tactic| walk_at "fok") => `(tactic| assumption)
local macro_rules | `(tactic| walk_at "flk") => `(tactic| rfl)
local macro_rules | `(tactic| walk_at "put") => `(tactic| exact rfl)

local macro_rules | `(tactic| walk_at "fok") => `(tactic| first | assumption | exact Tj.ce (by assumption) (by decide) | exact Tj.de (by assumption) (by decide) | exact Tj.ke (by assumption) (by decide) | exact Tj.fe (by assumption) (by decide))
/-- a new desk's state -/
def S0 : DSt := ⟨[], [], [], [], [], [], 0⟩
theorem di_step {H : Hp} {d dd p C : Addr} {fs fs' : List (Str × V)} {o : HO} (hd : H d = some (.ins C dd fs)) (n : H p = none) : upd (upd H p o) d (.ins C dd fs') d = some (.ins C dd fs') ∧ upd (upd H p o) d (.ins C dd fs') p = some o ∧ (∀ x o', H x = some o' → x ≠ d → upd (upd H p o) d (.ins C dd fs') x = some o') ∧ ∀ x, upd (upd H p o) d (.ins C dd fs') x = none → H x = none ∧ x ≠ p :=
  ⟨upd_same, by rw [upd_ne (Ne.symm (ne_of_none hd n))]; exact upd_same, fun x o' hx hne => by rw [upd_ne hne, upd_ne (ne_of_none hx n)]; exact hx, fun x hx => by
    have h1 : x ≠ d := by rintro rfl; rw [upd_same] at hx; cases hx
    rw [upd_ne h1] at hx
    have h2 : x ≠ p := by rintro rfl; rw [upd_same] at hx; cases hx
    rw [upd_ne h2] at hx
    exact ⟨hx, h2⟩⟩
theorem upd_non {H : Hp} {x y : Addr} {o : HO} (h : upd H x o y = none) : y ≠ x ∧ H y = none := by
  have hn : y ≠ x := by rintro rfl; rw [upd_same] at h; cases h
  exact ⟨hn, by rw [upd_ne hn] at h; exact h⟩
def spDeskI (a : Nat → Addr) : Sp := fun vs H Q _ => ∃ d dd, vs = [.ref d] ∧ H d = some (.ins (a 3) dd []) ∧ ∀ D H', DkAt a H' d D S0 → H' D.mv = some (.lst []) → D.dd = dd → (∀ x o, H x = some o → x ≠ d → H' x = some o) → (∀ x ∈ [D.un, D.cs, D.rd, D.ef, D.lg, D.fr, D.mv], H x = none) → Q .non H'
theorem ok_Desk___init__ (T : Tj P K mg a fd tk) : FnOk P w K mg base CX0 1 (a 11) (fd 11) ["self"] (spDeskI a) := by
  refine T.F_Desk___init__.ok sc_Desk___init__ (fun vs H Q E h => ?_) (fun cdv A outer s H vs Q E hr h => ?_)
  · obtain ⟨d, dd, rfl, _⟩ := h
    rfl
  · obtain ⟨d, dd, rfl, hd, k⟩ := h
    refine ⟨_, (pss_cons (ps_fldU K (pv 0) (pe_lst pa_nil))
  (pss_cons (ps_fldU K (pv 0) pe_dnewK)
  (pss_cons (ps_fldU K (pv 0) pe_dnewK)
  (pss_cons (ps_fldU K (pv 0) (pe_lst pa_nil))
  (pss_cons (ps_fldU K (pv 0) (pe_lst pa_nil))
  (pss_cons (ps_fldU K (pv 0) (pe_lst pa_nil))
  (pss_cons (ps_fldU K (pv 0) pe_int)
  (pss_one (ps_fldU K (pv 0) (pe_lst pa_nil)))))))))), ?_⟩
    walk_at "rd"
    intro un n1
    walk_at "rd"
    obtain ⟨hd1, hp1, kp1, nn1⟩ := di_step (o := (.lst [])) (fs' := [("used_names", .ref un)]) hd n1
    have e1 : ∀ (Hx : Hp), upd (upd Hx un (.lst [])) d (.ins (a 3) dd [("used_names", .ref un)]) = upd (upd Hx un (.lst [])) d (.ins (a 3) dd [("used_names", .ref un)]) := fun _ => rfl
    generalize hH1 : upd (upd H un (.lst [])) d (.ins (a 3) dd [("used_names", .ref un)]) = H1 at hd1 hp1 kp1 nn1
    first | rw [show upd (upd H un (.lst [])) d (.ins (a 3) dd (putF (Str.ofString "used_names") (.ref un) [])) = H1 from hH1] | skip
    clear e1
    walk_at "rd"
    intro cs n2
    walk_at "rd"
    obtain ⟨hd2, hp2, kp2, nn2⟩ := di_step (o := (.dK [])) (fs' := [("used_names", .ref un), ("cells", .ref cs)]) hd1 n2
    have e2 : ∀ (Hx : Hp), upd (upd Hx cs (.dK [])) d (.ins (a 3) dd [("used_names", .ref un), ("cells", .ref cs)]) = upd (upd Hx cs (.dK [])) d (.ins (a 3) dd [("used_names", .ref un), ("cells", .ref cs)]) := fun _ => rfl
    generalize hH2 : upd (upd H1 cs (.dK [])) d (.ins (a 3) dd [("used_names", .ref un), ("cells", .ref cs)]) = H2 at hd2 hp2 kp2 nn2
    first | rw [show upd (upd H1 cs (.dK [])) d (.ins (a 3) dd (putF (Str.ofString "cells") (.ref cs) [("used_names", .ref un)])) = H2 from hH2] | skip
    clear e2
    walk_at "rd"
    intro rd n3
    walk_at "rd"
    obtain ⟨hd3, hp3, kp3, nn3⟩ := di_step (o := (.dK [])) (fs' := [("used_names", .ref un), ("cells", .ref cs), ("readable", .ref rd)]) hd2 n3
    have e3 : ∀ (Hx : Hp), upd (upd Hx rd (.dK [])) d (.ins (a 3) dd [("used_names", .ref un), ("cells", .ref cs), ("readable", .ref rd)]) = upd (upd Hx rd (.dK [])) d (.ins (a 3) dd [("used_names", .ref un), ("cells", .ref cs), ("readable", .ref rd)]) := fun _ => rfl
    generalize hH3 : upd (upd H2 rd (.dK [])) d (.ins (a 3) dd [("used_names", .ref un), ("cells", .ref cs), ("readable", .ref rd)]) = H3 at hd3 hp3 kp3 nn3
    first | rw [show upd (upd H2 rd (.dK [])) d (.ins (a 3) dd (putF (Str.ofString "readable") (.ref rd) [("used_names", .ref un), ("cells", .ref cs)])) = H3 from hH3] | skip
    clear e3
    walk_at "rd"
    intro ef n4
    walk_at "rd"
    obtain ⟨hd4, hp4, kp4, nn4⟩ := di_step (o := (.lst [])) (fs' := [("used_names", .ref un), ("cells", .ref cs), ("readable", .ref rd), ("effects", .ref ef)]) hd3 n4
    have e4 : ∀ (Hx : Hp), upd (upd Hx ef (.lst [])) d (.ins (a 3) dd [("used_names", .ref un), ("cells", .ref cs), ("readable", .ref rd), ("effects", .ref ef)]) = upd (upd Hx ef (.lst [])) d (.ins (a 3) dd [("used_names", .ref un), ("cells", .ref cs), ("readable", .ref rd), ("effects", .ref ef)]) := fun _ => rfl
    generalize hH4 : upd (upd H3 ef (.lst [])) d (.ins (a 3) dd [("used_names", .ref un), ("cells", .ref cs), ("readable", .ref rd), ("effects", .ref ef)]) = H4 at hd4 hp4 kp4 nn4
    first | rw [show upd (upd H3 ef (.lst [])) d (.ins (a 3) dd (putF (Str.ofString "effects") (.ref ef) [("used_names", .ref un), ("cells", .ref cs), ("readable", .ref rd)])) = H4 from hH4] | skip
    clear e4
    walk_at "rd"
    intro lg n5
    walk_at "rd"
    obtain ⟨hd5, hp5, kp5, nn5⟩ := di_step (o := (.lst [])) (fs' := [("used_names", .ref un), ("cells", .ref cs), ("readable", .ref rd), ("effects", .ref ef), ("log", .ref lg)]) hd4 n5
    have e5 : ∀ (Hx : Hp), upd (upd Hx lg (.lst [])) d (.ins (a 3) dd [("used_names", .ref un), ("cells", .ref cs), ("readable", .ref rd), ("effects", .ref ef), ("log", .ref lg)]) = upd (upd Hx lg (.lst [])) d (.ins (a 3) dd [("used_names", .ref un), ("cells", .ref cs), ("readable", .ref rd), ("effects", .ref ef), ("log", .ref lg)]) := fun _ => rfl
    generalize hH5 : upd (upd H4 lg (.lst [])) d (.ins (a 3) dd [("used_names", .ref un), ("cells", .ref cs), ("readable", .ref rd), ("effects", .ref ef), ("log", .ref lg)]) = H5 at hd5 hp5 kp5 nn5
    first | rw [show upd (upd H4 lg (.lst [])) d (.ins (a 3) dd (putF (Str.ofString "log") (.ref lg) [("used_names", .ref un), ("cells", .ref cs), ("readable", .ref rd), ("effects", .ref ef)])) = H5 from hH5] | skip
    clear e5
    walk_at "rd"
    intro fr n6
    walk_at "rd"
    obtain ⟨hd6, hp6, kp6, nn6⟩ := di_step (o := (.lst [])) (fs' := [("used_names", .ref un), ("cells", .ref cs), ("readable", .ref rd), ("effects", .ref ef), ("log", .ref lg), ("frames", .ref fr)]) hd5 n6
    have e6 : ∀ (Hx : Hp), upd (upd Hx fr (.lst [])) d (.ins (a 3) dd [("used_names", .ref un), ("cells", .ref cs), ("readable", .ref rd), ("effects", .ref ef), ("log", .ref lg), ("frames", .ref fr)]) = upd (upd Hx fr (.lst [])) d (.ins (a 3) dd [("used_names", .ref un), ("cells", .ref cs), ("readable", .ref rd), ("effects", .ref ef), ("log", .ref lg), ("frames", .ref fr)]) := fun _ => rfl
    generalize hH6 : upd (upd H5 fr (.lst [])) d (.ins (a 3) dd [("used_names", .ref un), ("cells", .ref cs), ("readable", .ref rd), ("effects", .ref ef), ("log", .ref lg), ("frames", .ref fr)]) = H6 at hd6 hp6 kp6 nn6
    first | rw [show upd (upd H5 fr (.lst [])) d (.ins (a 3) dd (putF (Str.ofString "frames") (.ref fr) [("used_names", .ref un), ("cells", .ref cs), ("readable", .ref rd), ("effects", .ref ef), ("log", .ref lg)])) = H6 from hH6] | skip
    clear e6
    walk_at "rd"
    intro mv n7
    have nmd : mv ≠ d := by rintro rfl; rw [upd_same] at n7; cases n7
    have n7' : H6 mv = none := by rw [upd_ne nmd] at n7; exact n7
    walk_at "rd"
    have up : ∀ {x : Addr} {o : HO}, H6 x = some o → x ≠ d → ∀ {u1 u2 : HO}, upd (upd (upd H6 d u1) mv (.lst [])) d u2 x = some o := by
      intro x o hx hne u1 u2
      rw [upd_ne hne, upd_ne (ne_of_none hx n7'), upd_ne hne]; exact hx
    have f1 := n1
    have f2 := (nn1 _ n2).1
    have f3 := (nn1 _ (nn2 _ n3).1).1
    have f4 := (nn1 _ (nn2 _ (nn3 _ n4).1).1).1
    have f5 := (nn1 _ (nn2 _ (nn3 _ (nn4 _ n5).1).1).1).1
    have f6 := (nn1 _ (nn2 _ (nn3 _ (nn4 _ (nn5 _ n6).1).1).1).1).1
    have f7 := (nn1 _ (nn2 _ (nn3 _ (nn4 _ (nn5 _ (nn6 _ n7').1).1).1).1).1).1
    have nd : ∀ {x : Addr}, H x = none → x ≠ d := fun h => by rintro rfl; rw [hd] at h; cases h
    have q1 := kp6 _ _ (kp5 _ _ (kp4 _ _ (kp3 _ _ (kp2 _ _ hp1 (nd f1)) (nd f1)) (nd f1)) (nd f1)) (nd f1)
    have q2 := kp6 _ _ (kp5 _ _ (kp4 _ _ (kp3 _ _ hp2 (nd f2)) (nd f2)) (nd f2)) (nd f2)
    have q3 := kp6 _ _ (kp5 _ _ (kp4 _ _ hp3 (nd f3)) (nd f3)) (nd f3)
    have q4 := kp6 _ _ (kp5 _ _ hp4 (nd f4)) (nd f4)
    have q5 := kp6 _ _ hp5 (nd f5)
    refine k ⟨dd, un, cs, rd, ef, lg, fr, mv⟩ _ ⟨upd_same, up q1 (nd f1), up q2 (nd f2), up q3 (nd f3), up q4 (nd f4), up q5 (nd f5), up hp6 (nd f6), ⟨[], by rw [upd_ne nmd]; exact upd_same, by simp⟩, ?_⟩ (by rw [upd_ne nmd]; exact upd_same) rfl (fun x o hx hne => up (kp6 _ _ (kp5 _ _ (kp4 _ _ (kp3 _ _ (kp2 _ _ (kp1 _ _ hx hne) hne) hne) hne) hne) hne) hne) (fun x hx => ?_)
    · have a1 := (nn4 _ (nn5 _ (nn6 _ n7').1).1).2
      have a2 := (nn5 _ (nn6 _ n7').1).2
      have a3 := (nn6 _ n7').2
      have a4 := (nn4 _ (nn5 _ n6).1).2
      have a5 := (nn5 _ n6).2
      have a6 := (nn4 _ n5).2
      have b1 := (nn1 _ (nn2 _ (nn3 _ n4).1).1).2
      have b2 := (nn1 _ (nn2 _ (nn3 _ (nn4 _ n5).1).1).1).2
      have b3 := (nn1 _ (nn2 _ (nn3 _ (nn4 _ (nn5 _ n6).1).1).1).1).2
      have b4 := (nn1 _ (nn2 _ (nn3 _ (nn4 _ (nn5 _ (nn6 _ n7').1).1).1).1).1).2
      have c1 := (nn2 _ n3).2
      simp only [List.nodup_cons, List.mem_cons, List.not_mem_nil, or_false, not_or, List.nodup_nil, and_true]
      exact ⟨⟨⟨Ne.symm b1, Ne.symm b2, Ne.symm b3, Ne.symm b4⟩, ⟨Ne.symm a6, Ne.symm a4, Ne.symm a1⟩, ⟨Ne.symm a5, Ne.symm a2⟩, Ne.symm a3, not_false⟩, Ne.symm c1⟩
    · simp only [List.mem_cons, List.not_mem_nil, or_false] at hx
      rcases hx with rfl | rfl | rfl | rfl | rfl | rfl | rfl
      · exact f1
      · exact f2
      · exact f3
      · exact f4
      · exact f5
      · exact f6
      · exact f7
theorem b_Desk___init__ (T : Tj P K mg a fd tk) : Binds K (fd 11) ["self"] [] := T.F_Desk___init__.binds fun _ _ _ _ _ _ us hl => match us, hl with | [_], _ => rfl
theorem cdK_put {cl : List (Str × Addr)} {nm : Str} {x : Addr} (h : nm ∉ cl.map (·.1)) : putK (cdK cl) (.inr nm) (.ref x) = cdK (cl ++ [(nm, x)]) := by
  unfold putK
  have e : (cdK cl).any (fun kv => decide (kv.1 = .inr nm)) = false := by
    rw [Bool.eq_false_iff]
    intro z
    obtain ⟨kv, h1, h2⟩ := List.any_eq_true.mp z
    obtain ⟨c, hc, rfl⟩ := List.mem_map.mp h1
    have : (Sum.inr c.1 : Key) = .inr nm := by simpa using h2
    exact h (List.mem_map.mpr ⟨c, hc, Sum.inr.inj this⟩)
  rw [e, if_neg (by simp)]
  simp [cdK]
theorem DkAt.setR {H : Hp} {d : Addr} {D : DA} {S : DSt} (h : DkAt a H d D S) (rl' : List (Str × Addr)) : DkAt a (upd H D.rd (.dK (cdK rl'))) d D { S with rl := rl' } := by
  obtain ⟨ms, m1, m2⟩ := h.mv
  have up : ∀ {x : Addr} {o : HO}, H x = some o → (∀ kv, o ≠ .dK kv) → upd H D.rd (.dK (cdK rl')) x = some o := fun hx hn => by
    rw [upd_ne (ne_of hx h.rd (hn _))]; exact hx
  exact ⟨up h.ob (by intros; simp), up h.un (by intros; simp), by rw [upd_ne h.nd.2]; exact h.cs, upd_same, up h.ef (by intros; simp), up h.lg (by intros; simp), up h.fr (by intros; simp), ⟨ms, up m1 (by intros; simp), m2⟩, h.nd⟩
theorem DkAt.setL {H : Hp} {d : Addr} {D : DA} {S : DSt} (h : DkAt a H d D S) (cl' : List (Str × Addr)) : DkAt a (upd H D.cs (.dK (cdK cl'))) d D { S with cl := cl' } := by
  obtain ⟨ms, m1, m2⟩ := h.mv
  have up : ∀ {x : Addr} {o : HO}, H x = some o → (∀ kv, o ≠ .dK kv) → upd H D.cs (.dK (cdK cl')) x = some o := fun hx hn => by
    rw [upd_ne (ne_of hx h.cs (hn _))]; exact hx
  exact ⟨up h.ob (by intros; simp), up h.un (by intros; simp), upd_same, by rw [upd_ne (Ne.symm h.nd.2)]; exact h.rd, up h.ef (by intros; simp), up h.lg (by intros; simp), up h.fr (by intros; simp), ⟨ms, up m1 (by intros; simp), m2⟩, h.nd⟩
def spCellD (a : Nat → Addr) : Sp := fun vs H Q _ => ∃ d D S nm v, vs = [.ref d, .str nm, .int v] ∧ DkAt a H d D S ∧ S.frs = [] ∧ nm ∉ S.names ∧ nm ∉ S.cl.map (·.1) ∧ nm ∉ S.rl.map (·.1) ∧ S.names.length ≤ 50 ∧ S.cl.length ≤ 50 ∧ S.rl.length ≤ 50 ∧
  ∀ c H', DkAt a H' d D { S with names := S.names ++ [nm], cl := S.cl ++ [(nm, c)], rl := S.rl ++ [(nm, c)] } → CellAt a H' d c nm v → H c = none → Fr H H' [D.un, D.cs, D.rd] → Q (.ref c) H'
theorem ok_Desk_cell (T : Tj P K mg a fd tk) : FnOk P w K mg base CX0 4 (a 15) (fd 15) ["self", "name", "value"] (spCellD a) := by
  refine T.F_Desk_cell.ok sc_Desk_cell (fun vs H Q E h => ?_) (fun cdv A outer s H vs Q E hr h => ?_)
  · obtain ⟨d, D, S, nm, v, rfl, _⟩ := h
    rfl
  · obtain ⟨d, D, S, nm, v, rfl, DK, hf, h1, h2, h2r, h3, h4, h4r, k⟩ := h
    refine ⟨_, (pss_cons (ps_expr (pe_meth (pv 0) T.cl_Desk T.m_Desk_use_name (ok_Desk_use_name T) (hr.mono (by decide)) (b_Desk_use_name T) .nil pass0 (pa_cons (pv 1) pa_nil)))
  (pss_cons (ps_asg (pe_make T.mk_Cell (ok_Cell___init__ T) (hr.mono (by decide)) (by rfl) T.g_Cell (b_Cell___init__ T) .nil pass0 (pa_cons (pv 0) (pa_cons (pv 1) (pa_cons (pv 2) pa_nil)))) (pg_name (i := 3) sc_Desk_cell.nd rfl (by first | exact Or.inl rfl | exact Or.inr rfl)))
  (pss_cons (ps_dput (hu_of hr) (pe_fldU K (pv 0)) (pv 1) (pv 3) rfl)
  (pss_cons (ps_dput (hu_of hr) (pe_fldU K (pv 0)) (pv 1) (pv 3) rfl)
  (pss_one (ps_ret (pv 3))))))), ?_⟩
    have hob := DK.ob
    walk_at "rd"
    refine ⟨d, D, S, nm, rfl, DK, by rw [hf]; simp, .inl hf, h1, h3, fun H1 DK1 f1 => ?_⟩
    walk_at "rd"
    intro x dx nx ndx hne
    refine ⟨x, dx, _, _, _, rfl, upd_same, ?_⟩
    refine ⟨rfl, ?_⟩
    rw [upd_upd]
    have s2 : Same H1 (upd (upd H1 dx (.own x)) x (.ins (a 2) dx (cellF d nm v))) := fun b o hb => by
      rw [upd_ne (by rintro rfl; rw [nx] at hb; cases hb), upd_ne (by rintro rfl; rw [ndx] at hb; cases hb)]; exact hb
    have hc2 : upd (upd H1 dx (.own x)) x (.ins (a 2) dx (cellF d nm v)) x = some (.ins (a 2) dx (cellF d nm v)) := upd_same
    have ep : ([("desk", .ref d), ("name", .str nm), ("now", .int v)] : List (Str × V)) = cellF d nm v := rfl
    rw [ep]
    generalize upd (upd H1 dx (.own x)) x (.ins (a 2) dx (cellF d nm v)) = H2 at s2 hc2 ⊢
    have DK2 := DK1.same s2
    have hob2 := DK2.ob
    have hcs2 : H2 D.cs = some (.dK (cdK S.cl)) := DK2.cs
    have hrd2 : H2 D.rd = some (.dK (cdK S.rl)) := DK2.rd
    walk_at "rd"
    refine s_dput ?_
    walk_at "rd"
    refine ⟨D.cs, _, rfl, DPut.k (k := .inr nm) hcs2 (sz_lt (by unfold cdK; rw [List.length_map]; omega)), ?_⟩
    rw [cdK_put h2]
    have hob3 : upd H2 D.cs (.dK (cdK (S.cl ++ [(nm, x)]))) d = some (.ins (a 3) D.dd (deskB D S.ba)) := by rw [upd_ne (ne_of hob2 hcs2 (fun z => by cases z))]; exact hob2
    have hrd3 : upd H2 D.cs (.dK (cdK (S.cl ++ [(nm, x)]))) D.rd = some (.dK (cdK S.rl)) := by rw [upd_ne (Ne.symm DK2.nd.2)]; exact hrd2
    have DK3 := DK2.setL (S.cl ++ [(nm, x)])
    have DK4 := DK3.setR (S.rl ++ [(nm, x)])
    refine s_seq (s_dput ?_)
    walk_at "rd"
    refine ⟨D.rd, _, rfl, DPut.k (k := .inr nm) hrd3 (sz_lt (by unfold cdK; rw [List.length_map]; omega)), ?_⟩
    rw [cdK_put h2r]
    have hc4 : upd (upd H2 D.cs (.dK (cdK (S.cl ++ [(nm, x)])))) D.rd (.dK (cdK (S.rl ++ [(nm, x)]))) x = some (.ins (a 2) dx (cellF d nm v)) := by
      rw [upd_ne (ne_of hc2 hrd2 (fun z => by cases z)), upd_ne (ne_of hc2 hcs2 (fun z => by cases z))]; exact hc2
    have f4 : Fr H (upd (upd H2 D.cs (.dK (cdK (S.cl ++ [(nm, x)])))) D.rd (.dK (cdK (S.rl ++ [(nm, x)])))) [D.un, D.cs, D.rd] := fun y o hy hS => by
      simp only [List.mem_cons, List.not_mem_nil, or_false, not_or] at hS
      rw [upd_ne hS.2.2, upd_ne hS.2.1]
      exact s2 _ _ (f1 _ _ hy (by simpa using hS.1))
    have nxH : H x = none := by
      cases e : H x with
      | none => rfl
      | some o =>
        by_cases hu : x = D.un
        · rw [hu] at nx; rw [DK1.un] at nx; cases nx
        · rw [f1 _ _ e (by simpa using hu)] at nx; cases nx
    walk_at "rd"
    exact k x _ DK4 ⟨dx, hc4⟩ nxH f4
theorem b_Desk_cell (T : Tj P K mg a fd tk) : Binds K (fd 15) ["self", "name", "value"] [] := T.F_Desk_cell.binds fun _ _ _ _ _ _ us hl => match us, hl with | [_, _, _], _ => rfl
def spKeptD (a : Nat → Addr) : Sp := fun vs H Q _ => ∃ d D S nm f, vs = [.ref d, .str nm, .ref f] ∧ DkAt a H d D S ∧ S.frs = [] ∧ nm ∉ S.names ∧ nm ∉ S.rl.map (·.1) ∧ S.names.length ≤ 50 ∧ S.rl.length ≤ 50 ∧
  ∀ x nt H', DkAt a H' d D { S with names := S.names ++ [nm], rl := S.rl ++ [(nm, x)] } → KeptAt a H' d x nm f nt 0 .non false → H' nt = some (.dK []) → H x = none → H nt = none → Fr H H' [D.un, D.rd] → Q (.ref x) H'
theorem ok_Desk_kept (T : Tj P K mg a fd tk) : FnOk P w K mg base CX0 5 (a 51) (fd 51) ["self", "name", "work"] (spKeptD a) := by
  refine T.F_Desk_kept.ok sc_Desk_kept (fun vs H Q E h => ?_) (fun cdv A outer s H vs Q E hr h => ?_)
  · obtain ⟨d, D, S, nm, f, rfl, _⟩ := h
    rfl
  · obtain ⟨d, D, S, nm, f, rfl, DK, hf, h1, h2r, h3, h4r, k⟩ := h
    refine ⟨_, (pss_cons (ps_expr (pe_meth (pv 0) T.cl_Desk T.m_Desk_use_name (ok_Desk_use_name T) (hr.mono (by decide)) (b_Desk_use_name T) .nil pass0 (pa_cons (pv 1) pa_nil)))
  (pss_cons (ps_asg (pe_make T.mk_Kept (ok_Kept___init__ T) (hr.mono (by decide)) (by rfl) T.g_Kept (b_Kept___init__ T) .nil pass0 (pa_cons (pv 0) (pa_cons (pv 1) (pa_cons (pv 2) pa_nil)))) (pg_name (i := 3) sc_Desk_kept.nd rfl (by first | exact Or.inl rfl | exact Or.inr rfl)))
  (pss_cons (ps_dput (hu_of hr) (pe_fldU K (pv 0)) (pv 1) (pv 3) rfl)
  (pss_one (ps_ret (pv 3)))))), ?_⟩
    have hob := DK.ob
    walk_at "rd"
    refine ⟨d, D, S, nm, rfl, DK, by rw [hf]; simp, .inl hf, h1, h3, fun H1 DK1 f1 => ?_⟩
    walk_at "rd"
    intro x dx nx ndx hne
    refine ⟨x, dx, _, _, _, rfl, upd_same, fun nt nnt ntx => ⟨rfl, ?_⟩⟩
    have ntd : nt ≠ dx := by rintro rfl; rw [upd_ne hne, upd_same] at nnt; cases nnt
    rw [upd_ne ntx, upd_ne ntd] at nnt
    rw [upd3 ntx]
    have s2 : Same H1 (upd (upd (upd H1 dx (.own x)) nt (.dK [])) x (.ins (a 40) dx (keptF d nm f nt 0 .non false))) := fun b o hb => by
      rw [upd_ne (by rintro rfl; rw [nx] at hb; cases hb), upd_ne (by rintro rfl; rw [nnt] at hb; cases hb), upd_ne (by rintro rfl; rw [ndx] at hb; cases hb)]; exact hb
    have hx2 : upd (upd (upd H1 dx (.own x)) nt (.dK [])) x (.ins (a 40) dx (keptF d nm f nt 0 .non false)) x = some (.ins (a 40) dx (keptF d nm f nt 0 .non false)) := upd_same
    have hn2 : upd (upd (upd H1 dx (.own x)) nt (.dK [])) x (.ins (a 40) dx (keptF d nm f nt 0 .non false)) nt = some (.dK []) := by rw [upd_ne ntx]; exact upd_same
    have ep : ([("desk", .ref d), ("name", .str nm), ("work", .ref f), ("noted", .ref nt), ("runs", .int 0), ("kept_worth", .non), ("has_worth", .bl false)] : List (Str × V)) = keptF d nm f nt 0 .non false := rfl
    rw [ep]
    generalize upd (upd (upd H1 dx (.own x)) nt (.dK [])) x (.ins (a 40) dx (keptF d nm f nt 0 .non false)) = H2 at s2 hx2 hn2 ⊢
    have DK2 := DK1.same s2
    have hob2 := DK2.ob
    have hrd2 : H2 D.rd = some (.dK (cdK S.rl)) := DK2.rd
    walk_at "rd"
    refine s_dput ?_
    walk_at "rd"
    refine ⟨D.rd, _, rfl, DPut.k (k := .inr nm) hrd2 (sz_lt (by unfold cdK; rw [List.length_map]; omega)), ?_⟩
    rw [cdK_put h2r]
    have DK4 := DK2.setR (S.rl ++ [(nm, x)])
    have nrd : D.rd ≠ nt := by rintro rfl; have := DK1.rd; rw [nnt] at this; cases this
    have hx4 : upd H2 D.rd (.dK (cdK (S.rl ++ [(nm, x)]))) x = some (.ins (a 40) dx (keptF d nm f nt 0 .non false)) := by
      rw [upd_ne (ne_of hx2 hrd2 (fun z => by cases z))]; exact hx2
    have hn4 : upd H2 D.rd (.dK (cdK (S.rl ++ [(nm, x)]))) nt = some (.dK []) := by rw [upd_ne (Ne.symm nrd)]; exact hn2
    have f4 : Fr H (upd H2 D.rd (.dK (cdK (S.rl ++ [(nm, x)])))) [D.un, D.rd] := fun y o hy hS => by
      simp only [List.mem_cons, List.not_mem_nil, or_false, not_or] at hS
      rw [upd_ne hS.2]
      exact s2 _ _ (f1 _ _ hy (by simpa using hS.1))
    have nH : ∀ {y : Addr}, H1 y = none → H y = none := fun {y} hy => by
      cases e : H y with
      | none => rfl
      | some o =>
        by_cases hu : y = D.un
        · rw [hu] at hy; rw [DK1.un] at hy; cases hy
        · rw [f1 _ _ e (by simpa using hu)] at hy; cases hy
    walk_at "rd"
    exact k x nt _ DK4 ⟨dx, hx4⟩ hn4 (nH nx) (nH nnt) f4
theorem b_Desk_kept (T : Tj P K mg a fd tk) : Binds K (fd 51) ["self", "name", "work"] [] := T.F_Desk_kept.binds fun _ _ _ _ _ _ us hl => match us, hl with | [_, _, _], _ => rfl
end
end Tr
set_option maxHeartbeats 4000000

namespace Tr
open PySem L2
section
variable {P : Program} {w : World} {K : PySem.W.Frag} {mg : Str → Option Value} {base : Heap} {a : Nat → Addr} {fd : Nat → FuncData} {tk : Nat → Tok}
local macro_rules | `(tactic| walk_at "ne") => `(tactic| first | assumption | (exact Ne.symm (by assumption)) | (refine ne_of_none (by assumption) (by assumption)) | (refine Ne.symm (ne_of_none (by assumption) (by assumption))))
local macro_rules | `(tactic| walk_at "hl") => `(tactic| first | assumption | with_reducible exact upd_same | ((with_reducible refine' Eq.trans (upd_ne ?hne) ?hrest); (case hne => walk_at "ne"); (case hrest => walk_at "hl")) | (refine' get_same ?hs ?hg; (case hs => assumption); (case hg => assumption)))
local macro_rules | `(tactic| walk_at "at") => `(tactic| first | with_reducible exact atI_0 _ _ | with_reducible exact atI_1 _ _ _ | with_reducible exact atI_2 _ _ _ _ | with_reducible exact atI_3 _ _ _ _ _ | assumption)
local macro_rules | `(tactic| walk_at "rd1") => `(tactic| first
  | with_reducible refine s_seq ?_ | with_reducible refine s_next ?_ | with_reducible refine s_if ?_ | with_reducible refine s_ret ?_ | with_reducible refine s_retN ?_ | with_reducible refine s_drop ?_ | with_reducible refine s_asg ?_ | with_reducible refine s_brk ?_ | with_reducible refine s_cont ?_
  | with_reducible refine s_gname ?_ | with_reducible refine s_c ?_ | with_reducible refine s_op ?_ | with_reducible refine s_un ?_ | with_reducible refine s_neg ?_ | with_reducible refine s_test ?_ | with_reducible refine s_tb ?_ | with_reducible refine s_not ?_ | with_reducible refine s_and ?_ | with_reducible refine s_or ?_ | with_reducible refine s_yes ?_
  | ((with_reducible refine' s_var ?hv ?_); (case hv => exact rfl))
  | with_reducible refine s_ifx ?_ | with_reducible refine s_andV ?_ | with_reducible refine s_orV ?_ | with_reducible refine s_notV ?_ | with_reducible refine s_chain ?_ | with_reducible refine s_nil ?_ | with_reducible refine s_cons ?_ | with_reducible refine s_lst ?_ | with_reducible refine s_tup ?_ | with_reducible refine s_cb ?_ | with_reducible refine s_call ?_ | with_reducible refine s_meth ?_ | with_reducible refine s_make ?_
  | with_reducible refine s_dnewK ?_ | with_reducible refine s_sl ?_ | with_reducible refine s_po0 ?_ | with_reducible refine s_po1 ?_ | with_reducible refine s_bm ?_ | with_reducible refine s_bm0 ?_
  | with_reducible refine s_bl ?_ | with_reducible refine s_int ?_ | with_reducible refine s_I0 ?_ | with_reducible refine s_addI ?_ | with_reducible refine s_intI ?_ | with_reducible refine s_intB ?_
  | with_reducible refine s_m1 ?_ | with_reducible refine s_lc ?_ | with_reducible refine s_ilist ?_ | with_reducible refine s_for ?_ | with_reducible refine s_irng ?_ | with_reducible refine s_match ?_ | with_reducible refine s_starT ?_ | with_reducible refine s_isS ?_ | with_reducible refine s_isiSS ?_ | with_reducible refine s_fldU ?_ | with_reducible refine s_sfldU ?_
  | ((with_reducible refine' s_eqS ?hq ?_); (case hq => exact rfl)) | ((with_reducible refine' s_neS ?hq ?_); (case hq => exact rfl))
  | ((with_reducible refine' s_isN ?hq ?_); (case hq => exact rfl)) | ((with_reducible refine' s_notN ?hq ?_); (case hq => exact rfl))
  | ((with_reducible refine' s_eqNil ?h1 ?h2 ?_); (case h1 => walk_at "hl"); (case h2 => walk_at "hl")) | ((with_reducible refine' s_neNil ?h1 ?h2 ?_); (case h1 => walk_at "hl"); (case h2 => walk_at "hl"))
  | ((with_reducible refine' s_ixL ?h1 ?h2 ?_); (case h1 => walk_at "hl"); (case h2 => walk_at "at")) | ((with_reducible refine' s_ixT ?h1 ?h2 ?_); (case h1 => walk_at "hl"); (case h2 => walk_at "at"))
  | ((with_reducible refine' s_inS ?h1 ?_); (case h1 => walk_at "hl")) | ((with_reducible refine' s_ninS ?h1 ?_); (case h1 => walk_at "hl")) | with_reducible refine s_inW ?_
  | ((with_reducible refine' s_lenL ?h1 ?_); (case h1 => walk_at "hl")) | ((with_reducible refine' s_lenT ?h1 ?_); (case h1 => walk_at "hl"))
  | ((with_reducible refine' s_tyL ?h1 ?_); (case h1 => walk_at "hl"))
  | ((with_reducible refine' s_fldM ?h1 ?h2 ?h3 ?_); (case h1 => walk_at "hl"); (case h2 => walk_at "fok"); (case h3 => walk_at "flk"))
  | ((with_reducible refine' s_setM ?h1 ?h2 ?h3 ?h4 ?_); (case h1 => walk_at "hl"); (case h2 => walk_at "fok"); (case h4 => walk_at "put"); (case h3 => exact Nat.le_of_ble_eq_true rfl))
  | ((with_reducible refine' s_starM ?h1 ?_); (case h1 => walk_at "hl"))
  | ((with_reducible refine' s_recv ?h1 ?h2 ?_); (case h1 => walk_at "hl"); (case h2 => exact rfl))
  | ((with_reducible refine' s_sz ?h1 ?_); (case h1 => (simp; done))))
local macro_rules | `(tactic| walk_at "rd") => `(tactic| repeat (walk_at "rd1"))
local macro_rules | `(tactic| walk_at "fok") => `(tactic| assumption)
local macro_rules | `(tactic| walk_at "flk") => `(tactic| rfl)
local macro_rules | `(tactic| walk_at "put") => `(tactic| exact rfl)

local macro_rules | `(tactic| walk_at "fok") => `(tactic| first | assumption | exact Tj.ce (by assumption) (by decide) | exact Tj.de (by assumption) (by decide) | exact Tj.ke (by assumption) (by decide) | exact Tj.fe (by assumption) (by decide))
theorem take_snocM {α : Type} {l : List α} {i : Nat} {x : α} (h : l[i]? = some x) : l.take (i + 1) = l.take i ++ [x] := by rw [List.take_add_one, h]; rfl
theorem s_listItems {te : TE} {σ : L2.St} {H : Hp} {Q : VK} (h : te σ H fun x H1 => LiI.rItemsL x H1 Q) : LiI.tListItems te σ H Q := h
def notesK (ns : List (Str × Int)) : List (Key × V) := ns.map fun p => (.inr p.1, .int p.2)
/-- the noted cells can be read -/
def NotesAt (a : Nat → Addr) (H : Hp) (d : Addr) (S : DSt) (val : Str → Int) (ns : List (Str × Int)) : Prop := ∀ p ∈ ns, ∃ c, valV (cdK S.rl) (.inr p.1) = some (.ref c) ∧ CellAt a H d c p.1 (val p.1)
theorem CellAt.same {H H' : Hp} {d c : Addr} {nm : Str} {v : Int} (h : CellAt a H d c nm v) (s : Same H H') : CellAt a H' d c nm v := by
  obtain ⟨dc, e⟩ := h
  exact ⟨dc, s _ _ e⟩
def spOOO (a : Nat → Addr) : Sp := fun vs H Q _ => ∃ d D S x nm f nt n kw hw val ns, vs = [.ref x] ∧ DkAt a H d D S ∧ KeptAt a H d x nm f nt n kw hw ∧ H nt = some (.dK (notesK ns)) ∧ ns.length ≤ 1000 ∧ NotesAt a H d S val ns ∧ ∀ H', Same H H' → Q (.bl (ns.any fun p => decide (val p.1 ≠ p.2))) H'
theorem ok_Runner_is_out_of_order (T : Tj P K mg a fd tk) : FnOk P w K mg base CX0 2 (a 47) (fd 47) ["self"] (spOOO a) := by
  refine T.F_Runner_is_out_of_order.ok sc_Runner_is_out_of_order (fun vs H Q E h => ?_) (fun cdv A outer s H vs Q E hr h => ?_)
  · obtain ⟨d, D, S, x, nm, f, nt, n, kw, hw, val, ns, rfl, _⟩ := h
    rfl
  · obtain ⟨d, D, S, x, nm, f, nt, n, kw, hw, val, ns, rfl, DK, ⟨dx, hx⟩, hnt, hl, NA, k⟩ := h
    refine ⟨_, (pss_cons (ps_for PassesOwn.never rfl (pi_list (LiI.pe_listItems rfl (pe_fldU K (pv 0)) (by rfl) T.b_list bt_list)) (pg_tupU (n := 2) rfl (pgs_cons (pg_name (i := 1) sc_Runner_is_out_of_order.nd rfl (by first | exact Or.inl rfl | exact Or.inr rfl)) (pgs_cons (pg_name (i := 2) sc_Runner_is_out_of_order.nd rfl (by first | exact Or.inl rfl | exact Or.inr rfl)) pgs_nil)))
   (pss_one (ps_if (pt_cmpR (uNe K hr.units) (pe_meth0 (pe_dget (hu_of hr) (pe_fldU K (pe_fldU K (pv 0))) (pv 1) (fun _ _ => rfl)) T.cl_Cell T.m_Cell_worth_now (ok_Cell_worth_now T) (hr.mono (by decide)) (b_Cell_worth_now T) .nil pass0) (pv 2) (nomark _)) (pss_one (ps_ret pe_bl)) pss_nil)))
  (pss_one (ps_ret pe_bl))), ?_⟩
    have hob := DK.ob
    walk_at "rd"
    refine s_listItems ?_
    walk_at "rd"
    refine ⟨nt, _, rfl, hnt, fun H1 q ts s1 nq nts nqt hq pr => ?_⟩
    have lts : ts.length = (notesK ns).length := pr.length
    refine s_forL hq (fun i σ H' => ∃ v1 v2, σ = [some (.ref x), v1, v2] ∧ Same H1 H' ∧ ∀ p ∈ ns.take i, val p.1 = p.2) ⟨none, none, rfl, .refl _, by simp⟩ ?_ ?_ ?_
    · rintro i σ H' _ ⟨_, _, _, s', _⟩
      exact s' _ _ hq
    · rintro i y σ H2 hy ⟨v1, v2, rfl, s2, hno⟩
      rw [List.getElem?_map] at hy
      cases et : ts[i]? with
      | none => rw [et] at hy; cases hy
      | some t =>
      rw [et] at hy
      cases hy
      obtain ⟨kq, ek, ht⟩ := LiI.paired_get pr et
      unfold notesK at ek
      rw [List.getElem?_map] at ek
      cases ep : ns[i]? with
      | none => rw [ep] at ek; cases ek
      | some pp =>
      rw [ep] at ek
      cases ek
      have hpm := List.mem_of_getElem? ep
      obtain ⟨c, hv, dc, hc⟩ := NA pp hpm
      have s12 : Same H H2 := fun b o hb => s2 _ _ (s1 _ _ hb)
      have ht2 : H2 t = some (.tup [.str pp.1, .int pp.2]) := s2 _ _ ht
      have hx2 := s12 _ _ hx
      have hob2 := s12 _ _ hob
      have hc2 := s12 _ _ hc
      have hrd2 : H2 D.rd = some (.dK (cdK S.rl)) := s12 _ _ DK.rd
      refine s_gtup2 ht2 rfl ?_
      walk_at "rd"
      refine s_dget ?_
      walk_at "rd"
      refine ⟨D.rd, _, rfl, (show DGet H2 D.rd (kV (.inr pp.1)) (some (.ref c)) from by have := DGet.k (k := .inr pp.1) hrd2; rwa [hv] at this), ?_⟩
      walk_at "rd"
      refine ⟨d, c, pp.1, val pp.1, rfl, ⟨dc, hc2⟩, ?_⟩
      walk_at "rd"
      by_cases e : val pp.1 = pp.2
      · refine ifF (by simp [e]) ?_
        walk_at "rd"
        refine ⟨_, _, rfl, s2, fun p' hp' => ?_⟩
        rw [take_snocM ep] at hp'
        rcases List.mem_append.mp hp' with z | z
        · exact hno p' z
        · rw [List.mem_singleton.mp z]; exact e
      · refine ifT (by simp [e]) ?_
        walk_at "rd"
        have := k _ s12
        rw [show (ns.any fun p => decide (val p.1 ≠ p.2)) = true from List.any_eq_true.mpr ⟨pp, hpm, by simpa using e⟩] at this
        exact this
    · rintro σ H2 ⟨v1, v2, rfl, s2, hno⟩
      have en : (ts.map V.ref).length = ns.length := by rw [List.length_map, lts]; exact List.length_map _
      rw [en, List.take_length] at hno
      walk_at "rd"
      have := k _ (fun b o hb => s2 _ _ (s1 _ _ hb))
      rw [show (ns.any fun p => decide (val p.1 ≠ p.2)) = false from by
        rw [List.any_eq_false]
        intro p hp
        simp [hno p hp]] at this
      exact this
theorem b_Runner_is_out_of_order (T : Tj P K mg a fd tk) : Binds K (fd 47) ["self"] [] := T.F_Runner_is_out_of_order.binds fun _ _ _ _ _ _ us hl => match us, hl with | [_], _ => rfl
theorem s_fldaug {ta tv : TE} {rd : V → V → Hp → VK → Prop} {f : Str} {na : L2.St → Hp → Prop} {rt : VK} {bk ct : L2.St → Hp → Prop} {σ : L2.St} {H : Hp} (h : ta σ H fun x H1 => ∃ a C dx fs v, x = .ref a ∧ H1 a = some (.ins C dx fs) ∧ Cls K C ∧ NoAttr K C f ∧ fs.lookup f = some v ∧
  tv σ H1 fun y H2 => rd v y H2 fun z H3 => ∃ dx' fs', H3 a = some (.ins C dx' fs') ∧ fs'.length < 1000 ∧ na σ (upd H3 a (.ins C dx' (putF f z fs')))) : sFldAug K ta tv rd f ⟨na, rt, bk, ct⟩ σ H := h
theorem s_fin0 {tb tf : TS} {D : Ends} {σ : L2.St} {H : Hp} (h : tb ⟨fun σ1 H1 => tf D σ1 H1, fun _ _ => False, fun _ _ => False, fun _ _ => False⟩ σ H) : tFin0 tb tf D σ H := h
theorem s_fcall {C : Addr} {m : Str} {wsp : Addr → Hp → VK → Prop} {ta : TE} {σ : L2.St} {H : Hp} {Q : VK} (h : ta σ H fun x H1 => ∃ a dx fs g, x = .ref a ∧ H1 a = some (.ins C dx fs) ∧ fs.lookup m = some (.ref g) ∧ wsp g H1 Q) : tFCall C m wsp ta σ H Q := h
theorem DkAt.setF {H : Hp} {d z : Addr} {D : DA} {S : DSt} {frs' : List Addr} (h : DkAt a H d D S) (hz : H z = some (.lst (frs'.map V.ref))) (nd : z ∉ [D.un, D.ef, D.lg, D.mv]) : DkAt a (upd H d (.ins (a 3) D.dd (deskB { D with fr := z } S.ba))) d { D with fr := z } { S with frs := frs' } := by
  obtain ⟨nd1, nd2⟩ := h.nd
  simp only [List.nodup_cons, List.mem_cons, List.not_mem_nil, or_false, not_or, List.nodup_nil, and_true] at nd1 nd
  obtain ⟨⟨n1, n2, n3, n4⟩, ⟨n5, n6, n7⟩, ⟨n8, n9⟩, n10, _⟩ := nd1
  obtain ⟨ms, m1, m2⟩ := h.mv
  have up : ∀ {x : Addr} {o o' : HO}, H x = some o → (∀ C dx fs, o ≠ .ins C dx fs) → upd H d o' x = some o := fun hx hn => by
    rw [upd_ne (ne_of hx h.ob (hn _ _ _))]; exact hx
  exact ⟨upd_same, up h.un (by intros; simp), up h.cs (by intros; simp), up h.rd (by intros; simp), up h.ef (by intros; simp), up h.lg (by intros; simp), up hz (by intros; simp), ⟨ms, up m1 (by intros; simp), m2⟩, by
    simp only [List.nodup_cons, List.mem_cons, List.not_mem_nil, or_false, not_or, List.nodup_nil, and_true]
    exact ⟨⟨n1, n2, fun e => nd.1 e.symm, n4⟩, ⟨n5, fun e => nd.2.1 e.symm, n7⟩, ⟨fun e => nd.2.2.1 e.symm, n9⟩, nd.2.2.2, not_false⟩, nd2⟩
section
variable {kw : Nat} {wsp : Addr → Hp → VK → Prop}
def spRun (a : Nat → Addr) (wsp : Addr → Hp → VK → Prop) : Sp := fun vs H Q _ => ∃ d D S x nm f nt n v0 hw ia, vs = [.ref x, .bl ia] ∧ DkAt a H d D S ∧ KeptAt a H d x nm f nt n v0 hw ∧ S.frs.length ≤ 500 ∧
  ∀ fr' frm nt2 H2, DkAt a H2 d { D with fr := fr' } { S with frs := S.frs ++ [frm] } → FrameAt a H2 frm nm ia false nt2 → H2 nt2 = some (.dK []) → KeptAt a H2 d x nm f nt2 n v0 hw → H frm = none → H nt2 = none → H fr' = none → Fr H H2 [d, x] →
    wsp f H2 fun v H3 => DkAt a H3 d { D with fr := fr' } { S with frs := S.frs ++ [frm] } ∧ KeptAt a H3 d x nm f nt2 n v0 hw ∧ H3 D.fr = some (.lst (S.frs.map V.ref)) ∧
      ∀ H4, DkAt a H4 d D S → KeptAt a H4 d x nm f nt2 (n + 1) v0 hw → Fr H3 H4 [d, x] → Q v H4
theorem ok_Runner_run_work (T : Tj P K mg a fd tk) (W : WOk P w K mg base kw wsp) : FnOk P w K mg base CX0 (kw + 3) (a 48) (fd 48) ["self", "is_answer"] (spRun a wsp) := by
  refine T.F_Runner_run_work.ok sc_Runner_run_work (fun vs H Q E h => ?_) (fun cdv A outer s H vs Q E hr h => ?_)
  · obtain ⟨d, D, S, x, nm, f, nt, n, v0, hw, ia, rfl, _⟩ := h
    rfl
  · obtain ⟨d, D, S, x, nm, f, nt, n, v0, hw, ia, rfl, DK, ⟨dx, hx⟩, hl, k⟩ := h
    refine ⟨_, (pss_cons (ps_asg (pe_fldU K (pv 0)) (pg_name (i := 2) sc_Runner_run_work.nd rfl (by first | exact Or.inl rfl | exact Or.inr rfl)))
  (pss_cons (ps_asg (pe_make T.mk_Frame (ok_Frame___init__ T) (hr.mono (by omega)) (by rfl) T.g_Frame (b_Frame___init__ T) .nil pass0 (pa_cons (pe_fldU K (pv 0)) (pa_cons (pv 1) pa_nil))) (pg_name (i := 3) sc_Runner_run_work.nd rfl (by first | exact Or.inl rfl | exact Or.inr rfl)))
  (pss_cons (ps_fldU K (pv 0) (pe_fldU K (pv 3)))
  (pss_cons (ps_asg (pe_fldU K (pv 2)) (pg_name (i := 4) sc_Runner_run_work.nd rfl (by first | exact Or.inl rfl | exact Or.inr rfl)))
  (pss_cons (ps_fldU K (pv 2) (pe_op uAdd (pv 4) (pe_lst (pa_cons (pv 3) pa_nil))))
  (pss_cons (ps_fin0 (pss_one (ps_asg (pe_fcall0 (C := a 40) (pv 0) T.cl_Kept (T.f_Kept _ (by decide)) W (hr.mono (by omega))) (pg_name (i := 5) sc_Runner_run_work.nd rfl (Or.inl rfl)))) (pss_one (ps_fldU K (pv 2) (pv 4))))
  (pss_cons (ps_fldaug (pv 0) pe_int in_add)
  (pss_one (ps_ret (pv 5)))))))))), ?_⟩
    have hob := DK.ob
    walk_at "rd"
    intro frm dxf nfrm ndxf hne
    refine ⟨frm, dxf, nm, ia, rfl, upd_same, fun nt2 nnt2 nt2f => ⟨rfl, ?_⟩⟩
    rw [upd_ne nt2f] at nnt2
    have nt2x : nt2 ≠ dxf := by rintro rfl; rw [upd_same] at nnt2; cases nnt2
    rw [upd_ne nt2x] at nnt2
    rw [upd3 nt2f]
    have s1 : Same H (upd (upd (upd H dxf (.own frm)) nt2 (.dK [])) frm (.ins (a 49) dxf (frameF nm ia false nt2))) := fun b o hb => by
      rw [upd_ne (by rintro rfl; rw [nfrm] at hb; cases hb), upd_ne (by rintro rfl; rw [nnt2] at hb; cases hb), upd_ne (by rintro rfl; rw [ndxf] at hb; cases hb)]; exact hb
    have hfrm : upd (upd (upd H dxf (.own frm)) nt2 (.dK [])) frm (.ins (a 49) dxf (frameF nm ia false nt2)) frm = some (.ins (a 49) dxf (frameF nm ia false nt2)) := upd_same
    have hn2 : upd (upd (upd H dxf (.own frm)) nt2 (.dK [])) frm (.ins (a 49) dxf (frameF nm ia false nt2)) nt2 = some (.dK []) := by rw [upd_ne nt2f]; exact upd_same
    generalize upd (upd (upd H dxf (.own frm)) nt2 (.dK [])) frm (.ins (a 49) dxf (frameF nm ia false nt2)) = H1 at s1 hfrm hn2 ⊢
    have hx1 := s1 _ _ hx
    have DK1 := DK.same s1
    have xd : x ≠ d := by
      rintro rfl
      rw [hob] at hx
      have := HO.ins.inj (Option.some.inj hx)
      simp [deskB, keptF] at this
    walk_at "rd"
    have e1 : putF (Str.ofString "noted") (V.ref nt2) (keptF d nm f nt n v0 hw) = keptF d nm f nt2 n v0 hw := rfl
    rw [e1]
    have DK2 := DK1.other (dx' := dx) (fs' := keptF d nm f nt2 n v0 hw) hx1 xd
    have hx2 : upd H1 x (.ins (a 40) dx (keptF d nm f nt2 n v0 hw)) x = some (.ins (a 40) dx (keptF d nm f nt2 n v0 hw)) := upd_same
    have fx : frm ≠ x := by rintro rfl; rw [hx] at nfrm; cases nfrm
    have hfrm2 : upd H1 x (.ins (a 40) dx (keptF d nm f nt2 n v0 hw)) frm = some (.ins (a 49) dxf (frameF nm ia false nt2)) := by rw [upd_ne fx]; exact hfrm
    have hn22 : upd H1 x (.ins (a 40) dx (keptF d nm f nt2 n v0 hw)) nt2 = some (.dK []) := by rw [upd_ne (ne_of hn2 hx1 (by intro z; cases z))]; exact hn2
    have f2 : Fr H (upd H1 x (.ins (a 40) dx (keptF d nm f nt2 n v0 hw))) [d, x] := fun b o hb hS => by
      simp only [List.mem_cons, List.not_mem_nil, or_false, not_or] at hS
      rw [upd_ne hS.2]; exact s1 _ _ hb
    have free2 : ∀ {b : Addr}, upd H1 x (.ins (a 40) dx (keptF d nm f nt2 n v0 hw)) b = none → H b = none := fun {b} hb => by
      cases e : H b with
      | none => rfl
      | some o =>
        by_cases ex : b = x
        · rw [ex, upd_same] at hb; cases hb
        · rw [upd_ne ex, s1 _ _ e] at hb; cases hb
    generalize upd H1 x (.ins (a 40) dx (keptF d nm f nt2 n v0 hw)) = H2 at DK2 hx2 hfrm2 hn22 f2 free2 ⊢
    have hob2 := DK2.ob
    have hfr2 := DK2.fr
    walk_at "rd"
    intro q nq
    have sq := Same.new (o := .lst [.ref frm]) nq
    have hq : upd H2 q (.lst [.ref frm]) q = some (.lst [.ref frm]) := upd_same
    generalize upd H2 q (.lst [.ref frm]) = H3 at sq hq ⊢
    walk_at "rd"
    refine s_addL (sq _ _ hfr2) hq (sz_le (by rw [List.length_map]; simp; omega)) fun z nz => ?_
    have e2 : S.frs.map V.ref ++ [.ref frm] = (S.frs ++ [frm]).map V.ref := by simp
    rw [e2]
    have nz2 : H2 z = none := sq.free nz
    have s4 : Same H2 (upd H3 z (.lst ((S.frs ++ [frm]).map V.ref))) := sq.trans (Same.new nz)
    have hz4 : upd H3 z (.lst ((S.frs ++ [frm]).map V.ref)) z = some (.lst ((S.frs ++ [frm]).map V.ref)) := upd_same
    generalize upd H3 z (.lst ((S.frs ++ [frm]).map V.ref)) = H4 at s4 hz4 ⊢
    have DK4 := DK2.same s4
    have hob4 := DK4.ob
    walk_at "rd"
    have e3 : putF (Str.ofString "frames") (V.ref z) (deskB D S.ba) = deskB { D with fr := z } S.ba := rfl
    rw [e3]
    have DK5 := DK4.setF hz4 (by
      have h1 := ne_of_none DK2.un nz2
      have h2 := ne_of_none DK2.ef nz2
      have h3 := ne_of_none DK2.lg nz2
      obtain ⟨ms, hm, _⟩ := DK2.mv
      have h4 := ne_of_none hm nz2
      simp [Ne.symm h1, Ne.symm h2, Ne.symm h3, Ne.symm h4])
    have hx5 : upd H4 d (.ins (a 3) D.dd (deskB { D with fr := z } S.ba)) x = some (.ins (a 40) dx (keptF d nm f nt2 n v0 hw)) := by rw [upd_ne xd]; exact s4 _ _ hx2
    have fd' : frm ≠ d := by rintro rfl; rw [hob] at nfrm; cases nfrm
    have hfrm5 : upd H4 d (.ins (a 3) D.dd (deskB { D with fr := z } S.ba)) frm = some (.ins (a 49) dxf (frameF nm ia false nt2)) := by rw [upd_ne fd']; exact s4 _ _ hfrm2
    have hn5 : upd H4 d (.ins (a 3) D.dd (deskB { D with fr := z } S.ba)) nt2 = some (.dK []) := by rw [upd_ne (ne_of (s4 _ _ hn22) hob4 (by intro z; cases z))]; exact s4 _ _ hn22
    have f5 : Fr H (upd H4 d (.ins (a 3) D.dd (deskB { D with fr := z } S.ba))) [d, x] := fun b o hb hS => by
      have h2 := f2 _ _ hb hS
      simp only [List.mem_cons, List.not_mem_nil, or_false, not_or] at hS
      rw [upd_ne hS.1]; exact s4 _ _ h2
    have nxt := k z frm nt2 _ DK5 ⟨dxf, hfrm5⟩ hn5 ⟨dx, hx5⟩ nfrm nnt2 (free2 nz2) f5
    generalize upd H4 d (.ins (a 3) D.dd (deskB { D with fr := z } S.ba)) = H5 at DK5 hx5 nxt ⊢
    refine s_seq (s_fin0 ?_)
    walk_at "rd"
    refine s_fcall ?_
    walk_at "rd"
    refine ⟨x, dx, _, f, rfl, hx5, rfl, ?_⟩
    refine W.mono ?_ nxt
    rintro v H6 ⟨DK6, ⟨dx6, hx6⟩, hfr6, k6⟩
    have hob6 := DK6.ob
    walk_at "rd"
    have e4 : putF (Str.ofString "frames") (V.ref D.fr) (deskB { D with fr := z } S.ba) = deskB D S.ba := rfl
    have nd0 := DK.nd.1
    simp only [List.nodup_cons, List.mem_cons, List.not_mem_nil, or_false, not_or, List.nodup_nil, and_true] at nd0
    obtain ⟨⟨n1, n2, n3, n4⟩, ⟨n5, n6, n7⟩, ⟨n8, n9⟩, n10, _⟩ := nd0
    have DK7 : DkAt a (upd H6 d (.ins (a 3) D.dd (deskB D S.ba))) d D S := DK6.setF (z := D.fr) (frs' := S.frs) hfr6 (by
      simp only [List.mem_cons, List.not_mem_nil, or_false, not_or]
      exact ⟨fun e => n3 e.symm, fun e => n6 e.symm, fun e => n8 e.symm, n10⟩)
    have hx7 : upd H6 d (.ins (a 3) D.dd (deskB D S.ba)) x = some (.ins (a 40) dx6 (keptF d nm f nt2 n v0 hw)) := by rw [upd_ne xd]; exact hx6
    have f7 : Fr H6 (upd H6 d (.ins (a 3) D.dd (deskB D S.ba))) [d, x] := fun b o hb hS => by
      simp only [List.mem_cons, List.not_mem_nil, or_false, not_or] at hS
      rw [upd_ne hS.1]; exact hb
    rw [e4]
    show sFldAug _ _ _ _ _ _ _ (upd H6 d (.ins (a 3) D.dd (deskB D S.ba)))
    generalize upd H6 d (.ins (a 3) D.dd (deskB D S.ba)) = H7 at DK7 hx7 f7 ⊢
    refine s_fldaug ?_
    walk_at "rd"
    refine ⟨x, a 40, dx6, _, .int n, rfl, hx7, T.cl_Kept, T.f_Kept _ (by decide), rfl, ?_⟩
    walk_at "rd"
    refine ⟨n, 1, rfl, rfl, ?_⟩
    refine ⟨dx6, _, hx7, by simp [keptF], ?_⟩
    walk_at "rd"
    have e5 : putF (Str.ofString "runs") (V.int (n + 1)) (keptF d nm f nt2 n v0 hw) = keptF d nm f nt2 (n + 1) v0 hw := rfl
    rw [e5]
    exact k6 _ (DK7.other hx7 xd) ⟨dx6, upd_same⟩ fun b o hb hS => by
      have h7 := f7 _ _ hb hS
      simp only [List.mem_cons, List.not_mem_nil, or_false, not_or] at hS
      rw [upd_ne hS.2]; exact h7
theorem b_Runner_run_work (T : Tj P K mg a fd tk) : Binds K (fd 48) ["self", "is_answer"] [] := T.F_Runner_run_work.binds fun _ _ _ _ _ _ us hl => match us, hl with | [_, _], _ => rfl
end
end
end Tr
set_option maxHeartbeats 4000000

namespace L2
open PySem PySem.Spec PyProof.Rows
section
variable {X : Cx} {k1 k2 : Nat} {f1 f2 C1 C2 : Addr} {fd1 fd2 : FuncData} {ps1 ps2 : List Str} {sp1 sp2 : Sp} {o : Expr} {ta : TE} {m : Str} {pos apos : Pos}
def tMeth2 (C1 C2 : Addr) (m : Str) (sp1 sp2 : Sp) (ta : TE) : TE := fun σ H Q => ta σ H fun x H1 => ∃ a dx fs, x = .ref a ∧ fs.lookup m = none ∧ ((H1 a = some (.ins C1 dx fs) ∧ sp1 [.ref a] H1 Q E0) ∨ (H1 a = some (.ins C2 dx fs) ∧ sp2 [.ref a] H1 Q E0))
theorem s_meth2 {σ : L2.St} {H : Hp} {Q : VK} (h : ta σ H fun x H1 => ∃ a dx fs, x = .ref a ∧ fs.lookup m = none ∧ ((H1 a = some (.ins C1 dx fs) ∧ sp1 [.ref a] H1 Q E0) ∨ (H1 a = some (.ins C2 dx fs) ∧ sp2 [.ref a] H1 Q E0))) : tMeth2 C1 C2 m sp1 sp2 ta σ H Q := h
/-- o.m(), o of one of two classes -/
theorem pe_meth02 {pl : Sem Bool} (he : PE X o ta) (c1 : Cls X.K C1) (hm1 : Meth X.K C1 m f1) (F1 : FnOk X.prog X.w X.K X.mg X.base CX0 k1 f1 fd1 ps1 sp1) (hr1 : Room k1 X.A) (hb1 : Binds X.K fd1 ps1 []) (c2 : Cls X.K C2) (hm2 : Meth X.K C2 m f2) (F2 : FnOk X.prog X.w X.K X.mg X.base CX0 k2 f2 fd2 ps2 sp2) (hr2 : Room k2 X.A) (hb2 : Binds X.K fd2 ps2 [])
    (ht : eval (.Call (.Attribute o m apos) [] [] pos) X.env = (do
      let ov ← eval o X.env
      standAt apos.atName
      let (f, first) ← holding [ov] (getMethod ov m pl)
      callWith pos f first (backTo pos (starEach [] X.env)) (backToKw pos (keywordEach [] X.env))) := by rfl) :
    PE X (.Call (.Attribute o m apos) [] [] pos) (tMeth2 C1 C2 m sp1 sp2 ta) := by
  have px : ∀ σ, PassesAt CX0 X σ E0 := fun σ pins H s e s' _ z => z.elim
  refine ⟨fun pins s σ H Q I h => ?_⟩
  refine PySem.W.methodCall_KW (pl := pl) (thn (he.run pins s σ H _ I h) fun u s1 ⟨x, H1, I1, rx, a, dx, fs, ex, l, h⟩ => ?_) ht
  subst ex
  obtain rfl : u = Value.ref a := rx
  rcases h with ⟨ea, q⟩ | ⟨ea, q⟩
  · refine getmeth_ok I1 ea c1 hm1 l ?_
    exact PySem.W.callWith_K0 (first := [.ref a]) I1.kIn hm1.kp (call_fnAt (us := [.ref a]) (vs := [.ref a]) F1 hr1 rfl hb1 (px σ) I1 (.cons rfl .nil) q)
  · refine getmeth_ok I1 ea c2 hm2 l ?_
    exact PySem.W.callWith_K0 (first := [.ref a]) I1.kIn hm2.kp (call_fnAt (us := [.ref a]) (vs := [.ref a]) F2 hr2 rfl hb2 (px σ) I1 (.cons rfl .nil) q)
end
end L2
namespace Tr
open PySem L2
section
variable {P : Program} {w : World} {K : PySem.W.Frag} {mg : Str → Option Value} {base : Heap} {a : Nat → Addr} {fd : Nat → FuncData} {tk : Nat → Tok}
local macro_rules | `(tactic| walk_at "ne") => `(tactic| first | assumption | (exact Ne.symm (by assumption)) | (refine ne_of_none (by assumption) (by assumption)) | (refine Ne.symm (ne_of_none (by assumption) (by assumption))))
local macro_rules | `(tactic| walk_at "hl") => `(tactic| first | assumption | with_reducible exact upd_same | ((with_reducible refine' Eq.trans (upd_ne ?hne) ?hrest); (case hne => walk_at "ne"); (case hrest => walk_at "hl")) | (refine' get_same ?hs ?hg; (case hs => assumption); (case hg => assumption)))
local macro_rules | `(tactic| walk_at "at") => `(tactic| first | with_reducible exact atI_0 _ _ | with_reducible exact atI_1 _ _ _ | with_reducible exact atI_2 _ _ _ _ | with_reducible exact atI_3 _ _ _ _ _ | assumption)
local macro_rules | `(tactic| walk_at "rd1") => `(tactic| first
  | with_reducible refine s_seq ?_ | with_reducible refine s_next ?_ | with_reducible refine s_if ?_ | with_reducible refine s_ret ?_ | with_reducible refine s_retN ?_ | with_reducible refine s_drop ?_ | with_reducible refine s_asg ?_ | with_reducible refine s_brk ?_ | with_reducible refine s_cont ?_
  | with_reducible refine s_gname ?_ | with_reducible refine s_c ?_ | with_reducible refine s_op ?_ | with_reducible refine s_un ?_ | with_reducible refine s_neg ?_ | with_reducible refine s_test ?_ | with_reducible refine s_tb ?_ | with_reducible refine s_not ?_ | with_reducible refine s_and ?_ | with_reducible refine s_or ?_ | with_reducible refine s_yes ?_
  | ((with_reducible refine' s_var ?hv ?_); (case hv => exact rfl))
  | with_reducible refine s_ifx ?_ | with_reducible refine s_andV ?_ | with_reducible refine s_orV ?_ | with_reducible refine s_notV ?_ | with_reducible refine s_chain ?_ | with_reducible refine s_nil ?_ | with_reducible refine s_cons ?_ | with_reducible refine s_lst ?_ | with_reducible refine s_tup ?_ | with_reducible refine s_cb ?_ | with_reducible refine s_call ?_ | with_reducible refine s_meth ?_ | with_reducible refine s_make ?_
  | with_reducible refine s_dnewK ?_ | with_reducible refine s_sl ?_ | with_reducible refine s_po0 ?_ | with_reducible refine s_po1 ?_ | with_reducible refine s_bm ?_ | with_reducible refine s_bm0 ?_
  | with_reducible refine s_bl ?_ | with_reducible refine s_int ?_ | with_reducible refine s_I0 ?_ | with_reducible refine s_addI ?_ | with_reducible refine s_intI ?_ | with_reducible refine s_intB ?_
  | with_reducible refine s_m1 ?_ | with_reducible refine s_lc ?_ | with_reducible refine s_ilist ?_ | with_reducible refine s_for ?_ | with_reducible refine s_irng ?_ | with_reducible refine s_match ?_ | with_reducible refine s_starT ?_ | with_reducible refine s_isS ?_ | with_reducible refine s_isiSS ?_ | with_reducible refine s_fldU ?_ | with_reducible refine s_sfldU ?_
  | ((with_reducible refine' s_eqS ?hq ?_); (case hq => exact rfl)) | ((with_reducible refine' s_neS ?hq ?_); (case hq => exact rfl))
  | ((with_reducible refine' s_isN ?hq ?_); (case hq => exact rfl)) | ((with_reducible refine' s_notN ?hq ?_); (case hq => exact rfl))
  | ((with_reducible refine' s_eqNil ?h1 ?h2 ?_); (case h1 => walk_at "hl"); (case h2 => walk_at "hl")) | ((with_reducible refine' s_neNil ?h1 ?h2 ?_); (case h1 => walk_at "hl"); (case h2 => walk_at "hl"))
  | ((with_reducible refine' s_ixL ?h1 ?h2 ?_); (case h1 => walk_at "hl"); (case h2 => walk_at "at")) | ((with_reducible refine' s_ixT ?h1 ?h2 ?_); (case h1 => walk_at "hl"); (case h2 => walk_at "at"))
  | ((with_reducible refine' s_inS ?h1 ?_); (case h1 => walk_at "hl")) | ((with_reducible refine' s_ninS ?h1 ?_); (case h1 => walk_at "hl")) | with_reducible refine s_inW ?_
  | ((with_reducible refine' s_lenL ?h1 ?_); (case h1 => walk_at "hl")) | ((with_reducible refine' s_lenT ?h1 ?_); (case h1 => walk_at "hl"))
  | ((with_reducible refine' s_tyL ?h1 ?_); (case h1 => walk_at "hl"))
  | ((with_reducible refine' s_fldM ?h1 ?h2 ?h3 ?_); (case h1 => walk_at "hl"); (case h2 => walk_at "fok"); (case h3 => walk_at "flk"))
  | ((with_reducible refine' s_setM ?h1 ?h2 ?h3 ?h4 ?_); (case h1 => walk_at "hl"); (case h2 => walk_at "fok"); (case h4 => walk_at "put"); (case h3 => exact Nat.le_of_ble_eq_true rfl))
  | ((with_reducible refine' s_starM ?h1 ?_); (case h1 => walk_at "hl"))
  | ((with_reducible refine' s_recv ?h1 ?h2 ?_); (case h1 => walk_at "hl"); (case h2 => exact rfl))
  | ((with_reducible refine' s_sz ?h1 ?_); (case h1 => (simp; done))))
local macro_rules | `(tactic| walk_at "rd") => `(tactic| repeat (walk_at "rd1"))
local macro_rules | `(tactic| walk_at "fok") => `(tactic| assumption)
local macro_rules | `(tactic| walk_at "flk") => `(tactic| rfl)
local macro_rules | `(tactic| walk_at "put") => `(tactic| exact rfl)

local macro_rules | `(tactic| walk_at "fok") => `(tactic| first | assumption | exact Tj.ce (by assumption) (by decide) | exact Tj.de (by assumption) (by decide) | exact Tj.ke (by assumption) (by decide) | exact Tj.fe (by assumption) (by decide))
theorem b_Kept_worth_nowN (T : Tj P K mg a fd tk) : Binds K (fd 45) ["self"] [] := T.F_Kept_worth_now.binds fun _ _ _ _ _ _ us hl => match us, hl with | [_], _ => rfl
def Mono (sp : Sp) : Prop := ∀ vs H Q Q', (∀ v H', Q v H' → Q' v H') → sp vs H Q E0 → sp vs H Q' E0
/-- the notes are checked one by one; what is read may run works -/
def spOOX (a : Nat → Addr) (spW : Sp) : Sp := fun vs H Q _ => ∃ d D S x nm f nt n v0 hw, ∃ ns : List (Str × Int), vs = [.ref x] ∧ DkAt a H d D S ∧ KeptAt a H d x nm f nt n v0 hw ∧ H nt = some (.dK (notesK ns)) ∧ ns.length ≤ 1000 ∧
  ∀ G, Same H G → ∃ J : Nat → Hp → Prop, J 0 G ∧ (∀ i H1, J i H1 → ∀ y o, G y = some o → H y = none → H1 y = some o) ∧
    (∀ i H1 p, J i H1 → ns[i]? = some p → ∃ D1 S1 c, DkAt a H1 d D1 S1 ∧ (∃ f nt n v0 hw, KeptAt a H1 d x nm f nt n v0 hw) ∧ valV (cdK S1.rl) (.inr p.1) = some (.ref c) ∧
      ((∃ v : Int, CellAt a H1 d c p.1 v ∧ (v = p.2 → J (i + 1) H1) ∧ (v ≠ p.2 → Q (.bl true) H1)) ∨
       ((∃ nm f nt n v0 hw, KeptAt a H1 d c nm f nt n v0 hw) ∧ spW [.ref c] H1 (fun r H2 => ∃ v : Int, r = .int v ∧ (v = p.2 → J (i + 1) H2) ∧ (v ≠ p.2 → Q (.bl true) H2)) E0))) ∧
    ∀ H1, J ns.length H1 → Q (.bl false) H1
theorem spOOX_mono {spW : Sp} (m : Mono spW) : Mono (spOOX a spW) := by
  rintro vs H Q Q' hq ⟨d, D, S, x, nm, f, nt, n, v0, hw, ns, e, DK, KX, hnt, hl, h⟩
  refine ⟨d, D, S, x, nm, f, nt, n, v0, hw, ns, e, DK, KX, hnt, hl, fun G sG => ?_⟩
  obtain ⟨J, j0, j1, j2, j3⟩ := h G sG
  refine ⟨J, j0, j1, fun i H1 p hj hp => ?_, fun H1 hj => hq _ _ (j3 H1 hj)⟩
  obtain ⟨D1, S1, c, h1, h2, h3, h4⟩ := j2 i H1 p hj hp
  refine ⟨D1, S1, c, h1, h2, h3, ?_⟩
  rcases h4 with ⟨v, c1, c2, c3⟩ | ⟨c1, c2⟩
  · exact .inl ⟨v, c1, c2, fun e => hq _ _ (c3 e)⟩
  · refine .inr ⟨c1, m _ _ _ _ ?_ c2⟩
    rintro r H2 ⟨v, e1, e2, e3⟩
    exact ⟨v, e1, e2, fun e => hq _ _ (e3 e)⟩
theorem ok_ooX {spW : Sp} {kk : Nat} (T : Tj P K mg a fd tk) (FW : FnOk P w K mg base CX0 kk (a 45) (fd 45) ["self"] spW) (mW : Mono spW) : FnOk P w K mg base CX0 (kk + 2) (a 47) (fd 47) ["self"] (spOOX a spW) := by
  refine T.F_Runner_is_out_of_order.ok sc_Runner_is_out_of_order (fun vs H Q E h => ?_) (fun cdv A outer s H vs Q E hr h => ?_)
  · obtain ⟨d, D, S, x, nm, f, nt, n, v0, hw, ns, rfl, _⟩ := h
    rfl
  · obtain ⟨d, D, S, x, nm, f, nt, n, v0, hw, ns, rfl, DK, ⟨dx, hx⟩, hnt, hl, h⟩ := h
    refine ⟨_, (pss_cons (ps_for PassesOwn.never rfl (pi_list (LiI.pe_listItems rfl (pe_fldU K (pv 0)) (by rfl) T.b_list bt_list)) (pg_tupU (n := 2) rfl (pgs_cons (pg_name (i := 1) sc_Runner_is_out_of_order.nd rfl (by first | exact Or.inl rfl | exact Or.inr rfl)) (pgs_cons (pg_name (i := 2) sc_Runner_is_out_of_order.nd rfl (by first | exact Or.inl rfl | exact Or.inr rfl)) pgs_nil)))
   (pss_one (ps_if (pt_cmpR (uNe K hr.units) (pe_meth02 (pe_dget (hu_of hr) (pe_fldU K (pe_fldU K (pv 0))) (pv 1) (fun _ _ => rfl)) T.cl_Cell T.m_Cell_worth_now (ok_Cell_worth_now T) (hr.mono (by omega)) (b_Cell_worth_now T) T.cl_Kept T.m_Kept_worth_now FW (hr.mono (by omega)) (b_Kept_worth_nowN T)) (pv 2) (nomark _)) (pss_one (ps_ret pe_bl)) pss_nil)))
  (pss_one (ps_ret pe_bl))), ?_⟩
    have hob := DK.ob
    walk_at "rd"
    refine s_listItems ?_
    walk_at "rd"
    refine ⟨nt, _, rfl, hnt, fun H1 q ts s1 nq nts nqt hq pr => ?_⟩
    obtain ⟨J, j0, j1, j2, j3⟩ := h H1 s1
    have lts : ts.length = (notesK ns).length := pr.length
    refine s_forL hq (fun i σ H' => ∃ v1 v2, σ = [some (.ref x), v1, v2] ∧ J i H') ⟨none, none, rfl, j0⟩ ?_ ?_ ?_
    · rintro i σ H' _ ⟨_, _, _, hj⟩
      exact j1 i H' hj q _ hq nq
    · rintro i y σ H2 hy ⟨v1, v2, rfl, hj⟩
      rw [List.getElem?_map] at hy
      cases et : ts[i]? with
      | none => rw [et] at hy; cases hy
      | some t =>
      rw [et] at hy
      cases hy
      obtain ⟨kq, ek, ht⟩ := LiI.paired_get pr et
      unfold notesK at ek
      rw [List.getElem?_map] at ek
      cases ep : ns[i]? with
      | none => rw [ep] at ek; cases ek
      | some pp =>
      rw [ep] at ek
      cases ek
      have ht2 : H2 t = some (.tup [.str pp.1, .int pp.2]) := j1 i H2 hj t _ ht (nts t (List.mem_of_getElem? et))
      obtain ⟨D1, S1, c, DK1, ⟨_, _, _, _, _, dx1, hx1⟩, hv, hc⟩ := j2 i H2 pp hj ep
      have hob1 := DK1.ob
      refine s_gtup2 ht2 rfl ?_
      walk_at "rd"
      refine s_meth2 ?_
      refine s_dget ?_
      walk_at "rd"
      refine ⟨D1.rd, _, rfl, (show DGet H2 D1.rd (kV (.inr pp.1)) (some (.ref c)) from by have := DGet.k (k := .inr pp.1) DK1.rd; rwa [hv] at this), ?_⟩
      rcases hc with ⟨v, ⟨dc, hc⟩, k1, k2⟩ | ⟨⟨nm', f', nt', n', v0', hw', dc, hc⟩, hk⟩
      · refine ⟨c, dc, _, rfl, rfl, .inl ⟨hc, d, c, pp.1, v, rfl, ⟨dc, hc⟩, ?_⟩⟩
        walk_at "rd"
        by_cases e : v = pp.2
        · refine ifF (by simp [e]) ?_
          walk_at "rd"
          exact ⟨_, _, rfl, k1 e⟩
        · refine ifT (by simp [e]) ?_
          walk_at "rd"
          exact k2 e
      · refine ⟨c, dc, _, rfl, rfl, .inr ⟨hc, mW _ _ _ _ ?_ hk⟩⟩
        rintro r H3 ⟨v, rfl, k1, k2⟩
        walk_at "rd"
        by_cases e : v = pp.2
        · refine ifF (by simp [e]) ?_
          walk_at "rd"
          exact ⟨_, _, rfl, k1 e⟩
        · refine ifT (by simp [e]) ?_
          walk_at "rd"
          exact k2 e
    · rintro σ H2 ⟨v1, v2, rfl, hj⟩
      have en : (ts.map V.ref).length = ns.length := by rw [List.length_map, lts]; exact List.length_map _
      rw [en] at hj
      walk_at "rd"
      exact j3 _ hj
theorem b_ooX (T : Tj P K mg a fd tk) : Binds K (fd 47) ["self"] [] := T.F_Runner_is_out_of_order.binds fun _ _ _ _ _ _ us hl => match us, hl with | [_], _ => rfl
section
variable {kw : Nat} {wsp : Addr → Hp → VK → Prop}
theorem spRun_mono (W : WOk P w K mg base kw wsp) : Mono (spRun a wsp) := by
  rintro vs H Q Q' hq ⟨d, D, S, x, nm, f, nt, n, v0, hw, ia, e, DK, KX, hl, k⟩
  refine ⟨d, D, S, x, nm, f, nt, n, v0, hw, ia, e, DK, KX, hl, fun fr' frm nt2 H2 h1 h2 h3 h4 h5 h6 h7 h8 => W.mono ?_ (k fr' frm nt2 H2 h1 h2 h3 h4 h5 h6 h7 h8)⟩
  rintro v H3 ⟨b1, b2, b3, b4⟩
  exact ⟨b1, b2, b3, fun H4 c1 c2 c3 => hq _ _ (b4 H4 c1 c2 c3)⟩
def spWX (a : Nat → Addr) (spo : Sp) (wsp : Addr → Hp → VK → Prop) : Sp := fun vs H Q _ => ∃ d D S x nm f nt n v0 hw os, vs = [.ref x] ∧ DkAt a H d D S ∧ KeptAt a H d x nm f nt n v0 hw ∧ S.frs.length ≤ 500 ∧ FramesAt a H S.frs os ∧ nm ∉ os ∧
  ∀ H1, Same H H1 → ∃ RUN : Hp → Prop, (∀ H2, RUN H2 → ∃ D2 S2 nt2 n2 v2 hw2, DkAt a H2 d D2 S2 ∧ KeptAt a H2 d x nm f nt2 n2 v2 hw2 ∧ ∀ H3, DkAt a H3 d D2 S2 → KeptAt a H3 d x nm f nt2 n2 .non false → Fr H2 H3 [x] →
      spRun a wsp [.ref x, .bl true] H3 (fun v H4 => ∃ D4 S4 nt4 n4, DkAt a H4 d D4 S4 ∧ KeptAt a H4 d x nm f nt4 n4 .non false ∧ ∀ H5, DkAt a H5 d D4 S4 → KeptAt a H5 d x nm f nt4 n4 v true → Fr H4 H5 [x] → Q v H5) E0) ∧
    (hw = false → RUN H1) ∧ (hw = true → spo [.ref x] H1 (fun b H2 => (b = .bl false ∧ (∃ nt2 n2, KeptAt a H2 d x nm f nt2 n2 v0 true) ∧ Q v0 H2) ∨ (b = .bl true ∧ RUN H2)) E0)
theorem spWX_mono {spo : Sp} (W : WOk P w K mg base kw wsp) (mo : Mono spo) : Mono (spWX a spo wsp) := by
  rintro vs H Q Q' hq ⟨d, D, S, x, nm, f, nt, n, v0, hw, os, e, DK, KX, hl, FA, hos, h⟩
  refine ⟨d, D, S, x, nm, f, nt, n, v0, hw, os, e, DK, KX, hl, FA, hos, fun H1 s1 => ?_⟩
  obtain ⟨RUN, r1, r2, r3⟩ := h H1 s1
  refine ⟨RUN, fun H2 hr => ?_, r2, fun e => mo _ _ _ _ ?_ (r3 e)⟩
  · obtain ⟨D2, S2, nt2, n2, v2, hw2, g1, g2, g3⟩ := r1 H2 hr
    refine ⟨D2, S2, nt2, n2, v2, hw2, g1, g2, fun H3 a1 a2 a3 => spRun_mono W _ _ _ _ ?_ (g3 H3 a1 a2 a3)⟩
    rintro v H4 ⟨D4, S4, nt4, n4, b1, b2, b3⟩
    exact ⟨D4, S4, nt4, n4, b1, b2, fun H5 c1 c2 c3 => hq _ _ (b3 H5 c1 c2 c3)⟩
  · rintro b H2 (⟨e1, e2, e3⟩ | h2)
    · exact .inl ⟨e1, e2, hq _ _ e3⟩
    · exact .inr h2
theorem ok_worthX {spo : Sp} {ko : Nat} (T : Tj P K mg a fd tk) (W : WOk P w K mg base kw wsp) (FO : FnOk P w K mg base CX0 ko (a 47) (fd 47) ["self"] spo) (mo : Mono spo) (hko : ko ≤ kw + 3) : FnOk P w K mg base CX0 (kw + 4) (a 45) (fd 45) ["self"] (spWX a spo wsp) := by
  refine T.F_Kept_worth_now.ok sc_Kept_worth_now (fun vs H Q E h => ?_) (fun cdv A outer s H vs Q E hr h => ?_)
  · obtain ⟨d, D, S, x, nm, f, nt, n, v0, hw, os, rfl, _⟩ := h
    rfl
  · obtain ⟨d, D, S, x, nm, f, nt, n, v0, hw, os, rfl, DK, ⟨dx, hx⟩, hl, FA, hos, h⟩ := h
    refine ⟨_, (pss_cons (ps_if (pt_val (pe_meth (pe_fldU K (pv 0)) T.cl_Desk T.m_Desk_is_under_way (ok_Desk_is_under_way T) (hr.mono (by omega)) (b_Desk_is_under_way T) .nil pass0 (pa_cons (pe_fldU K (pv 0)) pa_nil))) (pss_one ps_nev) pss_nil)
  (pss_cons (ps_if (PW.pt (pw_and (pt_val (pe_fldU K (pv 0))) (pw_and1 (pt_not (pt_val (pe_meth0 (pv 0) T.cl_Kept T.m_Kept_is_out_of_order FO (hr.mono (by omega)) (b_Runner_is_out_of_order T) .nil pass0)))))) (pss_one (ps_ret (pe_fldU K (pv 0)))) pss_nil)
  (pss_cons (ps_fldU K (pv 0) pe_non)
  (pss_cons (ps_fldU K (pv 0) pe_bl)
  (pss_cons (ps_asg (pe_meth (pv 0) T.cl_Kept T.m_Kept_run_work (ok_Runner_run_work T W) (hr.mono (by omega)) (b_Runner_run_work T) .nil pass0 (pa_cons pe_bl pa_nil)) (pg_name (i := 1) sc_Kept_worth_now.nd rfl (by first | exact Or.inl rfl | exact Or.inr rfl)))
  (pss_cons (ps_fldU K (pv 0) (pv 1))
  (pss_cons (ps_fldU K (pv 0) pe_bl)
  (pss_one (ps_ret (pv 1)))))))))), ?_⟩
    have hob := DK.ob
    walk_at "rd"
    refine ⟨d, D, S, nm, os, rfl, DK, FA, by omega, fun H1 s1 => ?_⟩
    have hx1 := s1 _ _ hx
    obtain ⟨RUN, r1, r2, r3⟩ := h H1 s1
    walk_at "rd"
    refine ifF (by simpa using hos) ?_
    refine s_next ?_
    refine s_seqK (L2.start (N_Kept_worth_now) [.ref x]) RUN (fun H2 hR => ?_) fun R hR => ?_
    · obtain ⟨D2, S2, nt2, n2, v2, hw2, DK2, ⟨dx2, hx2⟩, kr⟩ := r1 H2 hR
      have xd : x ≠ d := by
        rintro rfl
        have := DK2.ob
        rw [this] at hx2
        have := HO.ins.inj (Option.some.inj hx2)
        simp [deskB, keptF] at this
      walk_at "rd"
      rw [upd_upd]
      have ep : putF (Str.ofString "has_worth") (V.bl false) (putF (Str.ofString "kept_worth") V.non (keptF d nm f nt2 n2 v2 hw2)) = keptF d nm f nt2 n2 .non false := rfl
      rw [ep]
      have DK3 := DK2.other (dx' := dx2) (fs' := keptF d nm f nt2 n2 .non false) hx2 xd
      have hx3 : upd H2 x (.ins (a 40) dx2 (keptF d nm f nt2 n2 .non false)) x = some (.ins (a 40) dx2 (keptF d nm f nt2 n2 .non false)) := upd_same
      have f3 : Fr H2 (upd H2 x (.ins (a 40) dx2 (keptF d nm f nt2 n2 .non false))) [x] := fun b o hb hS => by rw [upd_ne (by simpa using hS)]; exact hb
      generalize upd H2 x (.ins (a 40) dx2 (keptF d nm f nt2 n2 .non false)) = H3 at DK3 hx3 f3 ⊢
      refine spRun_mono W _ _ _ _ ?_ (kr H3 DK3 ⟨dx2, hx3⟩ f3)
      rintro v H4 ⟨D4, S4, nt4, n4, DK4, ⟨dx4, hx4⟩, k4⟩
      walk_at "rd"
      rw [upd_upd]
      have ep2 : putF (Str.ofString "has_worth") (V.bl true) (putF (Str.ofString "kept_worth") v (keptF d nm f nt4 n4 .non false)) = keptF d nm f nt4 n4 v true := rfl
      rw [ep2]
      exact k4 _ (DK4.other hx4 xd) ⟨dx4, upd_same⟩ fun b o hb hS => by rw [upd_ne (by simpa using hS)]; exact hb
    · walk_at "rd"
      cases hw with
      | false =>
        refine ifF rfl ?_
        refine ifF rfl ?_
        exact hR _ (r2 rfl)
      | true =>
        refine ifT rfl ?_
        walk_at "rd"
        refine mo _ _ _ _ ?_ (r3 rfl)
        rintro b H2 (⟨rfl, ⟨nt2, n2, dx2, hx2⟩, q⟩ | ⟨rfl, hr2⟩)
        · walk_at "rd"
          refine ifT rfl ?_
          walk_at "rd"
          exact q
        · walk_at "rd"
          refine ifF rfl ?_
          exact hR _ hr2
def spCX (a : Nat → Addr) (spw : Sp) : Sp := fun vs H Q _ => ∃ d x nm, vs = [.ref x] ∧ (∃ f nt n v0 hw, KeptAt a H d x nm f nt n v0 hw) ∧ spw [.ref x] H (fun v H1 => (∃ D1 S1, DkAt a H1 d D1 S1) ∧ (∃ f nt n v0 hw, KeptAt a H1 d x nm f nt n v0 hw) ∧ spNote a [.ref d, .str nm, v] H1 (fun _ H2 => Q v H2) E0) E0
theorem spNote_mono : Mono (spNote a) := by
  rintro vs H Q Q' hq ⟨d, D, S, nm, v, e, DK, hl, h⟩
  refine ⟨d, D, S, nm, v, e, DK, hl, ?_⟩
  rcases h with ⟨h1, h2⟩ | ⟨l, f, o, ia, nt, kv, h1, h2, h3, h4, h5⟩
  · exact .inl ⟨h1, hq _ _ h2⟩
  · exact .inr ⟨l, f, o, ia, nt, kv, h1, h2, h3, h4, fun H' a1 a2 => hq _ _ (h5 H' a1 a2)⟩
theorem spCX_mono {spw : Sp} (m : Mono spw) : Mono (spCX a spw) := by
  rintro vs H Q Q' hq ⟨d, x, nm, e, KX, h⟩
  refine ⟨d, x, nm, e, KX, m _ _ _ _ ?_ h⟩
  rintro v H1 ⟨h1, h2, h3⟩
  exact ⟨h1, h2, spNote_mono _ _ _ _ (fun _ H2 q => hq _ _ q) h3⟩
theorem ok_callX {spw : Sp} {kk : Nat} (T : Tj P K mg a fd tk) (FW : FnOk P w K mg base CX0 kk (a 45) (fd 45) ["self"] spw) (mW : Mono spw) : FnOk P w K mg base CX0 (kk + 2) (a 42) (fd 42) ["self"] (spCX a spw) := by
  refine T.F_Kept___call__.ok sc_Kept___call__ (fun vs H Q E h => ?_) (fun cdv A outer s H vs Q E hr h => ?_)
  · obtain ⟨d, x, nm, rfl, _⟩ := h
    rfl
  · obtain ⟨d, x, nm, rfl, ⟨f, nt, n, v0, hw, dx, hx⟩, h⟩ := h
    refine ⟨_, (pss_cons (ps_asg (pe_meth0 (pv 0) T.cl_Kept T.m_Kept_worth_now FW (hr.mono (by omega)) (b_Kept_worth_nowN T) .nil pass0) (pg_name (i := 1) sc_Kept___call__.nd rfl (by first | exact Or.inl rfl | exact Or.inr rfl)))
  (pss_cons (ps_expr (pe_meth (pe_fldU K (pv 0)) T.cl_Desk T.m_Desk_note (ok_Desk_note T) (hr.mono (by omega)) (b_Desk_note T) .nil pass0 (pa_cons (pe_fldU K (pv 0)) (pa_cons (pv 1) pa_nil))))
  (pss_one (ps_ret (pv 1))))), ?_⟩
    walk_at "rd"
    refine mW _ _ _ _ ?_ h
    rintro v H1 ⟨⟨D1, S1, DK1⟩, ⟨f1, nt1, n1, v1, hw1, dx1, hx1⟩, hn⟩
    have hob1 := DK1.ob
    walk_at "rd"
    refine spNote_mono _ _ _ _ (fun _ H2 q => ?_) hn
    walk_at "rd"
    exact q
theorem b_callX (T : Tj P K mg a fd tk) : Binds K (fd 42) ["self"] [] := T.F_Kept___call__.binds fun _ _ _ _ _ _ us hl => match us, hl with | [_], _ => rfl
end
end
end Tr
set_option maxHeartbeats 4000000

namespace Tr
open PySem L2
abbrev s__law_bag : Stmt := (top 17)
abbrev N__law_bag : List Str := ["_law_script", "_law_at", "_law_cell", "_law_digits"]
theorem sc__law_bag : FnScope ["_law_script", "_law_at", "_law_cell", "_law_digits"] ["_law_script", "_law_at"] (defScope s__law_bag) := ⟨rfl, rfl, rfl, by decide +kernel, rfl, by decide +kernel, by decide +kernel⟩
abbrev s__law_take : Stmt := (top 18)
abbrev N__law_take : List Str := ["_law_bag_here", "_law_many", "_law_mixed", "_law_digit"]
theorem sc__law_take : FnScope ["_law_bag_here", "_law_many", "_law_mixed", "_law_digit"] ["_law_bag_here", "_law_many"] (defScope s__law_take) := ⟨rfl, rfl, rfl, by decide +kernel, rfl, by decide +kernel, by decide +kernel⟩
abbrev s__law_of : Stmt := (top 19)
abbrev N__law_of : List Str := ["_law_bag_here", "_law_some"]
theorem sc__law_of : FnScope ["_law_bag_here", "_law_some"] ["_law_bag_here", "_law_some"] (defScope s__law_of) := ⟨rfl, rfl, rfl, by decide +kernel, rfl, by decide +kernel, by decide +kernel⟩
abbrev s__law_worth : Stmt := (top 20)
abbrev N__law_worth : List Str := ["_law_bag_here", "_law_kind"]
theorem sc__law_worth : FnScope ["_law_bag_here", "_law_kind"] ["_law_bag_here"] (defScope s__law_worth) := ⟨rfl, rfl, rfl, by decide +kernel, rfl, by decide +kernel, by decide +kernel⟩

/-- what the top has made of the law's own defs -/
structure Tl (P : Program) (K : PySem.W.Frag) (mg : Str → Option Value) (a : Nat → Addr) (fd : Nat → FuncData) (tk : Nat → Tok) : Prop where
  d : Tj P K mg a fd tk
  b_abs : mg "abs" = none
  b_int : mg "int" = none
  g__law_bag : mg "_law_bag" = some (.ref (a 30))
  F__law_bag : Fun K "_law_bag" "_law_bag" s__law_bag (a 30) (fd 30)
  g__law_take : mg "_law_take" = some (.ref (a 31))
  F__law_take : Fun K "_law_take" "_law_take" s__law_take (a 31) (fd 31)
  g__law_of : mg "_law_of" = some (.ref (a 32))
  F__law_of : Fun K "_law_of" "_law_of" s__law_of (a 32) (fd 32)
  g__law_worth : mg "_law_worth" = some (.ref (a 33))
  F__law_worth : Fun K "_law_worth" "_law_worth" s__law_worth (a 33) (fd 33)
section
variable {P : Program} {w : World} {K : PySem.W.Frag} {mg : Str → Option Value} {base : Heap} {a : Nat → Addr} {fd : Nat → FuncData} {tk : Nat → Tok}
local macro_rules | `(tactic| walk_at "ne") => `(tactic| first | assumption | (exact Ne.symm (by assumption)) | (refine ne_of_none (by assumption) (by assumption)) | (refine Ne.symm (ne_of_none (by assumption) (by assumption))))
local macro_rules | `(tactic| walk_at "hl") => `(tactic| first | assumption | with_reducible exact upd_same | ((with_reducible refine' Eq.trans (upd_ne ?hne) ?hrest); (case hne => walk_at "ne"); (case hrest => walk_at "hl")) | (refine' get_same ?hs ?hg; (case hs => assumption); (case hg => assumption)))
local macro_rules | `(tactic| walk_at "at") => `(tactic| first | with_reducible exact atI_0 _ _ | with_reducible exact atI_1 _ _ _ | with_reducible exact atI_2 _ _ _ _ | with_reducible exact atI_3 _ _ _ _ _ | assumption)
local macro_rules | `(tactic| walk_at "rd1") => `(tactic| first
  | with_reducible refine s_seq ?_ | with_reducible refine s_next ?_ | with_reducible refine s_if ?_ | with_reducible refine s_ret ?_ | with_reducible refine s_retN ?_ | with_reducible refine s_drop ?_ | with_reducible refine s_asg ?_ | with_reducible refine s_brk ?_ | with_reducible refine s_cont ?_
  | with_reducible refine s_gname ?_ | with_reducible refine s_c ?_ | with_reducible refine s_op ?_ | with_reducible refine s_un ?_ | with_reducible refine s_neg ?_ | with_reducible refine s_test ?_ | with_reducible refine s_tb ?_ | with_reducible refine s_not ?_ | with_reducible refine s_and ?_ | with_reducible refine s_or ?_ | with_reducible refine s_yes ?_
  | ((with_reducible refine' s_var ?hv ?_); (case hv => exact rfl))
  | with_reducible refine s_ifx ?_ | with_reducible refine s_andV ?_ | with_reducible refine s_orV ?_ | with_reducible refine s_notV ?_ | with_reducible refine s_chain ?_ | with_reducible refine s_nil ?_ | with_reducible refine s_cons ?_ | with_reducible refine s_lst ?_ | with_reducible refine s_tup ?_ | with_reducible refine s_cb ?_ | with_reducible refine s_call ?_ | with_reducible refine s_meth ?_ | with_reducible refine s_make ?_
  | with_reducible refine s_dnewK ?_ | with_reducible refine s_sl ?_ | with_reducible refine s_po0 ?_ | with_reducible refine s_po1 ?_ | with_reducible refine s_bm ?_ | with_reducible refine s_bm0 ?_
  | with_reducible refine s_bl ?_ | with_reducible refine s_int ?_ | with_reducible refine s_I0 ?_ | with_reducible refine s_addI ?_ | with_reducible refine s_intI ?_ | with_reducible refine s_intB ?_
  | with_reducible refine s_m1 ?_ | with_reducible refine s_lc ?_ | with_reducible refine s_ilist ?_ | with_reducible refine s_for ?_ | with_reducible refine s_irng ?_ | with_reducible refine s_match ?_ | with_reducible refine s_starT ?_ | with_reducible refine s_isS ?_ | with_reducible refine s_isiSS ?_ | with_reducible refine s_fldU ?_ | with_reducible refine s_sfldU ?_
  | ((with_reducible refine' s_eqS ?hq ?_); (case hq => exact rfl)) | ((with_reducible refine' s_neS ?hq ?_); (case hq => exact rfl))
  | ((with_reducible refine' s_isN ?hq ?_); (case hq => exact rfl)) | ((with_reducible refine' s_notN ?hq ?_); (case hq => exact rfl))
  | ((with_reducible refine' s_eqNil ?h1 ?h2 ?_); (case h1 => walk_at "hl"); (case h2 => walk_at "hl")) | ((with_reducible refine' s_neNil ?h1 ?h2 ?_); (case h1 => walk_at "hl"); (case h2 => walk_at "hl"))
  | ((with_reducible refine' s_ixL ?h1 ?h2 ?_); (case h1 => walk_at "hl"); (case h2 => walk_at "at")) | ((with_reducible refine' s_ixT ?h1 ?h2 ?_); (case h1 => walk_at "hl"); (case h2 => walk_at "at"))
  | ((with_reducible refine' s_inS ?h1 ?_); (case h1 => walk_at "hl")) | ((with_reducible refine' s_ninS ?h1 ?_); (case h1 => walk_at "hl")) | with_reducible refine s_inW ?_
  | ((with_reducible refine' s_lenL ?h1 ?_); (case h1 => walk_at "hl")) | ((with_reducible refine' s_lenT ?h1 ?_); (case h1 => walk_at "hl"))
  | ((with_reducible refine' s_tyL ?h1 ?_); (case h1 => walk_at "hl"))
  | ((with_reducible refine' s_fldM ?h1 ?h2 ?h3 ?_); (case h1 => walk_at "hl"); (case h2 => walk_at "fok"); (case h3 => walk_at "flk"))
  | ((with_reducible refine' s_setM ?h1 ?h2 ?h3 ?h4 ?_); (case h1 => walk_at "hl"); (case h2 => walk_at "fok"); (case h4 => walk_at "put"); (case h3 => exact Nat.le_of_ble_eq_true rfl))
  | ((with_reducible refine' s_starM ?h1 ?_); (case h1 => walk_at "hl"))
  | ((with_reducible refine' s_recv ?h1 ?h2 ?_); (case h1 => walk_at "hl"); (case h2 => exact rfl))
  | ((with_reducible refine' s_sz ?h1 ?_); (case h1 => (simp; done))))
local macro_rules | `(tactic| walk_at "rd") => `(tactic| repeat (walk_at "rd1"))
local macro_rules | `(tactic| walk_at "fok") => `(tactic| assumption)
local macro_rules | `(tactic| walk_at "flk") => `(tactic| rfl)
local macro_rules | `(tactic| walk_at "put") => `(tactic| exact rfl)

/-- a source of draws: so many at most were drawn -/
def BagD (H : Hp) (b : Addr) (n : Nat) : Prop := ∃ dg m k : Int, H b = some (.lst [.int dg, .int m, .int k]) ∧ 0 ≤ dg ∧ 0 ≤ m ∧ m < 2 ^ 62 ∧ 0 ≤ k ∧ k ≤ n
theorem ixN_nat {n j : Nat} (h : j < n) : ixN n (j : Int) = some j := by
  unfold ixN
  rw [if_pos (by omega), if_pos (by omega)]
  simp
theorem ixN_last {n : Nat} (h : 0 < n) : ixN n (-1) = some (n - 1) := by
  unfold ixN
  rw [if_neg (by omega), if_pos (by omega)]
  congr 1
  omega
theorem atI_nat {xs : List V} {j : Nat} {v : V} (h : xs[j]? = some v) : atI xs (j : Int) = some v := by
  unfold atI
  rw [ixN_nat (List.getElem?_eq_some_iff.mp h).1]
  exact h
def spTake : Sp := fun vs H Q _ => ∃ (b : Addr) (many : Int) (n : Nat), vs = [.ref b, .int many] ∧ BagD H b n ∧ n < 10 ^ 9 ∧ 0 < many ∧ many < 2 ^ 200 ∧ ∀ (d : Int) H', 0 ≤ d → d < many → BagD H' b (n + 1) → Fr H H' [b] → Q (.int d) H'
theorem s_gsub {to ti : TE} {t : TSet} {v : V} {σ : L2.St} {H : Hp} {Q : L2.St → Hp → Prop} (h : to σ H fun o H1 => ti σ H1 fun i H2 => t o i v H2 fun H3 => Q σ H3) : gSub to ti t v σ H Q := h
theorem s_setU {p : Addr} {xs : List V} {k : Int} {j : Nat} {v : V} {H : Hp} {Q : Hp → Prop} (hp : H p = some (.lst xs)) (hj : ixN xs.length k = some j) (q : Q (upd H p (.lst (xs.set j v)))) : rSetU (.ref p) (.int k) v H Q := by
  simp only [rSetU, hp]
  exact ⟨j, hj, q⟩
theorem lg2 {x : Int} (h : x.natAbs < 2 ^ 200) : x.natAbs.log2 < 9000 := Nat.lt_of_lt_of_le (PySem.Flt.log2_lt_of (by decide) h) (by decide)
theorem mulOk {x y : Int} (h : x.natAbs < 2 ^ 200) (h' : y.natAbs < 2 ^ 200) : CMulW x y := by
  have := lg2 h
  have := lg2 h'
  unfold CMulW
  omega
theorem ok__law_take (T : Tl P K mg a fd tk) : FnOk P w K mg base CX0 1 (a 31) (fd 31) ["_law_bag_here", "_law_many"] spTake := by
  refine T.F__law_take.ok sc__law_take (fun vs H Q E h => ?_) (fun cdv A outer s H vs Q E hr h => ?_)
  · obtain ⟨b, many, n, rfl, _⟩ := h
    rfl
  · obtain ⟨b, many, n, rfl, ⟨dg, m, k0, hb, g0, m0, m1, k1, k2⟩, hn, h0, h1, k⟩ := h
    refine ⟨_, (pss_cons (ps_if (pt_cmpR op_gt (pe_ix uIx (pv 0) pe_int (fun _ _ => rfl)) pe_int (nomark _)) (pss_cons (ps_asg (pe_op op_mod (pe_callTy uInt (by rfl) T.b_int bt_int (pa_cons (pe_ix uIx (pv 0) pe_int (fun _ _ => rfl)) pa_nil)) (pv 1)) (pg_name (i := 3) sc__law_take.nd rfl (by first | exact Or.inl rfl | exact Or.inr rfl)))
  (pss_cons (ps_asg (pe_op op_fdivW (pe_ix uIx (pv 0) pe_int (fun _ _ => rfl)) (pv 1)) (pg_sub (pv 0) pe_int set_listU))
  (pss_one (ps_ret (pv 3))))) pss_nil)
  (pss_cons (ps_asg (pe_op uAdd (pe_ix uIx (pv 0) pe_int (fun _ _ => rfl)) pe_int) (pg_sub (pv 0) pe_int set_listU))
  (pss_cons (ps_asg (pe_op op_mod (pe_callTy uInt (by rfl) T.b_int bt_int (pa_cons (pe_op op_pow (pe_op uAdd (pe_ix uIx (pv 0) pe_int (fun _ _ => rfl)) (pe_op uMul pe_int (pe_ix uIx (pv 0) pe_int (fun _ _ => rfl)))) pe_int) pa_nil)) pe_int) (pg_name (i := 2) sc__law_take.nd rfl (by first | exact Or.inl rfl | exact Or.inr rfl)))
  (pss_cons (ps_asg (pe_op op_mod (pe_callTy uInt (by rfl) T.b_int bt_int (pa_cons (pe_op op_pow (pe_op uAdd (pv 2) (pe_op uMul pe_int (pe_ix uIx (pv 0) pe_int (fun _ _ => rfl)))) pe_int) pa_nil)) pe_int) (pg_name (i := 2) sc__law_take.nd rfl (by first | exact Or.inl rfl | exact Or.inr rfl)))
  (pss_one (ps_ret (pe_op op_mod (pe_callTy uInt (by rfl) T.b_int bt_int (pa_cons (pe_op op_fdivW (pv 2) pe_int) pa_nil)) (pv 1)))))))), ?_⟩
    walk_at "rd"
    have hlog : many.natAbs.log2 < 9000 := by
      have : many.natAbs < 2 ^ 200 := by omega
      exact Nat.lt_of_lt_of_le (PySem.Flt.log2_lt_of (by decide) this) (by decide)
    by_cases hg : 0 < dg
    · refine ifT (by simpa using hg) ?_
      walk_at "rd"
      refine s_I h0 ?_
      walk_at "rd"
      refine s_I ⟨h0, hlog⟩ ?_
      refine s_gsub ?_
      walk_at "rd"
      refine s_setU hb (j := 0) rfl ?_
      walk_at "rd"
      exact k _ _ (Int.emod_nonneg _ (by omega)) (Int.emod_lt_of_pos _ h0) ⟨_, _, _, upd_same, Int.ediv_nonneg g0 (by omega), m0, m1, k1, by omega⟩ fun x o hx hS => by rw [upd_ne (by simpa using hS)]; exact hx
    · refine ifF (by simpa using hg) ?_
      walk_at "rd"
      refine s_gsub ?_
      walk_at "rd"
      refine s_setU hb (j := 2) rfl ?_
      have hb1 : upd H b (.lst (([V.int dg, .int m, .int k0] : List V).set 2 (.int (k0 + 1)))) b = some (.lst [.int dg, .int m, .int (k0 + 1)]) := upd_same
      have f1 : Fr H (upd H b (.lst (([V.int dg, .int m, .int k0] : List V).set 2 (.int (k0 + 1))))) [b] := fun x o hx hS => by rw [upd_ne (by simpa using hS)]; exact hx
      generalize upd H b (.lst (([V.int dg, .int m, .int k0] : List V).set 2 (.int (k0 + 1)))) = H1 at hb1 f1 ⊢
      walk_at "rd"
      have kb : k0 + 1 ≤ 1000000000 := by omega
      refine s_mulI (mulOk (by decide) (by omega)) ?_
      walk_at "rd"
      refine s_I ⟨by decide, by decide, by omega⟩ ?_
      walk_at "rd"
      refine s_I (by decide) ?_
      generalize hx1 : ((m + 32452867 * (k0 + 1)) ^ (3 : Int).toNat) % 2305843009213693921 = x1
      have x10 : 0 ≤ x1 := by rw [← hx1]; exact Int.emod_nonneg _ (by decide)
      have x11 : x1 < 2305843009213693921 := by rw [← hx1]; exact Int.emod_lt_of_pos _ (by decide)
      walk_at "rd"
      refine s_mulI (mulOk (by decide) (by omega)) ?_
      walk_at "rd"
      refine s_I ⟨by decide, by decide, by omega⟩ ?_
      walk_at "rd"
      refine s_I (by decide) ?_
      generalize hx2 : ((x1 + 982451653 * (k0 + 1)) ^ (2 : Int).toNat) % 2305843009213693951 = x2
      have x20 : 0 ≤ x2 := by rw [← hx2]; exact Int.emod_nonneg _ (by decide)
      walk_at "rd"
      refine s_I ⟨by decide, by decide⟩ ?_
      walk_at "rd"
      refine s_I h0 ?_
      walk_at "rd"
      exact k _ _ (Int.emod_nonneg _ (by omega)) (Int.emod_lt_of_pos _ h0) ⟨_, _, _, hb1, g0, m0, m1, by omega, by push_cast; omega⟩ f1
theorem b__law_take (T : Tl P K mg a fd tk) : Binds K (fd 31) ["_law_bag_here", "_law_many"] [] := T.F__law_take.binds fun _ _ _ _ _ _ us hl => match us, hl with | [_, _], _ => rfl
theorem BagD.more {H : Hp} {b : Addr} {n n' : Nat} (h : BagD H b n) (hn : n ≤ n') : BagD H b n' := by
  obtain ⟨dg, m, k, e, h1, h2, h3, h4, h5⟩ := h
  exact ⟨dg, m, k, e, h1, h2, h3, h4, by omega⟩
def spWorth : Sp := fun vs H Q _ => ∃ (b : Addr) (n : Nat), vs = [.ref b] ∧ BagD H b n ∧ n < 10 ^ 8 ∧ ∀ (v : Int) H', v.natAbs ≤ 10 ^ 29 → BagD H' b (n + 2) → Fr H H' [b] → Q (.int v) H'
theorem ok__law_worth (T : Tl P K mg a fd tk) : FnOk P w K mg base CX0 2 (a 33) (fd 33) ["_law_bag_here"] spWorth := by
  refine T.F__law_worth.ok sc__law_worth (fun vs H Q E h => ?_) (fun cdv A outer s H vs Q E hr h => ?_)
  · obtain ⟨b, n, rfl, _⟩ := h
    rfl
  · obtain ⟨b, n, rfl, B, hn, k⟩ := h
    refine ⟨_, (pss_cons (ps_asg (pe_call (ok__law_take T) (hr.mono (by decide)) (by rfl) T.g__law_take T.F__law_take.kp (b__law_take T) .nil pass0 (pa_cons (pv 0) (pa_cons pe_int pa_nil))) (pg_name (i := 1) sc__law_worth.nd rfl (by first | exact Or.inl rfl | exact Or.inr rfl)))
  (pss_cons (ps_if (pt_cmpR op_lt (pv 1) pe_int (nomark _)) (pss_one (ps_ret (pe_call (ok__law_take T) (hr.mono (by decide)) (by rfl) T.g__law_take T.F__law_take.kp (b__law_take T) .nil pass0 (pa_cons (pv 0) (pa_cons pe_int pa_nil))))) pss_nil)
  (pss_cons (ps_if (pt_cmpR (uEq K hr.units) (pv 1) pe_int (nomark _)) (pss_one (ps_ret (pe_call (ok__law_take T) (hr.mono (by decide)) (by rfl) T.g__law_take T.F__law_take.kp (b__law_take T) .nil pass0 (pa_cons (pv 0) (pa_cons (pe_op op_pow pe_int pe_int) pa_nil))))) pss_nil)
  (pss_one (ps_ret (pe_op op_sub (pe_un un_neg pe_int) (pe_call (ok__law_take T) (hr.mono (by decide)) (by rfl) T.g__law_take T.F__law_take.kp (b__law_take T) .nil pass0 (pa_cons (pv 0) (pa_cons (pe_op op_pow pe_int pe_int) pa_nil))))))))), ?_⟩
    walk_at "rd"
    refine ⟨b, 5, n, rfl, B, by omega, by decide, by decide, fun d1 H1 d0 d5 B1 f1 => ?_⟩
    walk_at "rd"
    by_cases c1 : d1 < 3
    · refine ifT (by simpa using c1) ?_
      walk_at "rd"
      refine ⟨b, 3, n + 1, rfl, B1, by omega, by decide, by decide, fun d2 H2 e0 e1 B2 f2 => ?_⟩
      walk_at "rd"
      exact k d2 H2 (by omega) B2 (f1.tr f2)
    refine ifF (by simpa using c1) ?_
    walk_at "rd"
    have e29 : (10 : Int) ^ (29 : Int).toNat = 100000000000000000000000000000 := by decide +kernel
    by_cases c2 : d1 = 3
    · refine ifT (by simpa using c2) ?_
      walk_at "rd"
      refine s_I ⟨by decide, by decide, by decide⟩ ?_
      rw [e29]
      walk_at "rd"
      refine ⟨b, _, n + 1, rfl, B1, by omega, by decide, by decide, fun d2 H2 e0 e1 B2 f2 => ?_⟩
      walk_at "rd"
      exact k d2 H2 (by omega) B2 (f1.tr f2)
    refine ifF (by simpa using c2) ?_
    walk_at "rd"
    refine s_I ⟨by decide, by decide, by decide⟩ ?_
    rw [e29]
    walk_at "rd"
    refine ⟨b, _, n + 1, rfl, B1, by omega, by decide, by decide, fun d2 H2 e0 e1 B2 f2 => ?_⟩
    walk_at "rd"
    exact k _ H2 (by omega) B2 (f1.tr f2)
theorem b__law_worth (T : Tl P K mg a fd tk) : Binds K (fd 33) ["_law_bag_here"] [] := T.F__law_worth.binds fun _ _ _ _ _ _ us hl => match us, hl with | [_], _ => rfl
def spOf : Sp := fun vs H Q _ => ∃ (b p : Addr) (xs : List V) (n : Nat), vs = [.ref b, .ref p] ∧ BagD H b n ∧ n < 10 ^ 8 ∧ H p = some (.lst xs) ∧ p ≠ b ∧ 0 < xs.length ∧ xs.length ≤ 1000 ∧ ∀ (i : Nat) (x : V) H', xs[i]? = some x → BagD H' b (n + 1) → Fr H H' [b] → Q x H'
theorem ok__law_of (T : Tl P K mg a fd tk) : FnOk P w K mg base CX0 2 (a 32) (fd 32) ["_law_bag_here", "_law_some"] spOf := by
  refine T.F__law_of.ok sc__law_of (fun vs H Q E h => ?_) (fun cdv A outer s H vs Q E hr h => ?_)
  · obtain ⟨b, p, xs, n, rfl, _⟩ := h
    rfl
  · obtain ⟨b, p, xs, n, rfl, B, hn, hp, hpb, h0, h1, k⟩ := h
    refine ⟨_, (pss_one (ps_ret (pe_ix uIx (pv 1) (pe_call (ok__law_take T) (hr.mono (by decide)) (by rfl) T.g__law_take T.F__law_take.kp (b__law_take T) .nil pass0 (pa_cons (pv 0) (pa_cons (pe_callB uLen (by rfl) T.d.b_len bt_len (pa_cons (pv 1) pa_nil)) pa_nil))) (fun _ _ => rfl)))), ?_⟩
    walk_at "rd"
    refine ⟨b, _, n, rfl, B, by omega, by omega, Int.lt_of_le_of_lt (b := 1000) (by omega) (by decide), fun d H1 d0 d1 B1 f1 => ?_⟩
    obtain ⟨i, rfl⟩ := Int.eq_ofNat_of_zero_le d0
    have hi : i < xs.length := by omega
    have ex : xs[i]? = some xs[i] := List.getElem?_eq_getElem hi
    refine s_ixL (f1 _ _ hp (by simpa using hpb)) (atI_nat ex) ?_
    walk_at "rd"
    exact k i _ H1 ex B1 f1
theorem b__law_of (T : Tl P K mg a fd tk) : Binds K (fd 32) ["_law_bag_here", "_law_some"] [] := T.F__law_of.binds fun _ _ _ _ _ _ us hl => match us, hl with | [_, _], _ => rfl
end
end Tr
set_option maxHeartbeats 4000000

namespace Tr
open PySem L2
section
variable {P : Program} {w : World} {K : PySem.W.Frag} {mg : Str → Option Value} {base : Heap} {a : Nat → Addr} {fd : Nat → FuncData} {tk : Nat → Tok}
local macro_rules | `(tactic| walk_at "ne") => `(tactic| first | assumption | (exact Ne.symm (by assumption)) | (refine ne_of_none (by assumption) (by assumption)) | (refine Ne.symm (ne_of_none (by assumption) (by assumption))))
local macro_rules | `(tactic| walk_at "hl") => `(tactic| first | assumption | with_reducible exact upd_same | ((with_reducible refine' Eq.trans (upd_ne ?hne) ?hrest); (case hne => walk_at "ne"); (case hrest => walk_at "hl")) | (refine' get_same ?hs ?hg; (case hs => assumption); (case hg => assumption)))
local macro_rules | `(tactic| walk_at "at") => `(tactic| first | with_reducible exact atI_0 _ _ | with_reducible exact atI_1 _ _ _ | with_reducible exact atI_2 _ _ _ _ | with_reducible exact atI_3 _ _ _ _ _ | assumption)
local macro_rules | `(tactic| walk_at "rd1") => `(tactic| first
  | with_reducible refine s_seq ?_ | with_reducible refine s_next ?_ | with_reducible refine s_if ?_ | with_reducible refine s_ret ?_ | with_reducible refine s_retN ?_ | with_reducible refine s_drop ?_ | with_reducible refine s_asg ?_ | with_reducible refine s_brk ?_ | with_reducible refine s_cont ?_
  | with_reducible refine s_gname ?_ | with_reducible refine s_c ?_ | with_reducible refine s_op ?_ | with_reducible refine s_un ?_ | with_reducible refine s_neg ?_ | with_reducible refine s_test ?_ | with_reducible refine s_tb ?_ | with_reducible refine s_not ?_ | with_reducible refine s_and ?_ | with_reducible refine s_or ?_ | with_reducible refine s_yes ?_
  | ((with_reducible refine' s_var ?hv ?_); (case hv => exact rfl))
  | with_reducible refine s_ifx ?_ | with_reducible refine s_andV ?_ | with_reducible refine s_orV ?_ | with_reducible refine s_notV ?_ | with_reducible refine s_chain ?_ | with_reducible refine s_nil ?_ | with_reducible refine s_cons ?_ | with_reducible refine s_lst ?_ | with_reducible refine s_tup ?_ | with_reducible refine s_cb ?_ | with_reducible refine s_call ?_ | with_reducible refine s_meth ?_ | with_reducible refine s_make ?_
  | with_reducible refine s_dnewK ?_ | with_reducible refine s_sl ?_ | with_reducible refine s_po0 ?_ | with_reducible refine s_po1 ?_ | with_reducible refine s_bm ?_ | with_reducible refine s_bm0 ?_
  | with_reducible refine s_bl ?_ | with_reducible refine s_int ?_ | with_reducible refine s_I0 ?_ | with_reducible refine s_addI ?_ | with_reducible refine s_intI ?_ | with_reducible refine s_intB ?_
  | with_reducible refine s_m1 ?_ | with_reducible refine s_lc ?_ | with_reducible refine s_ilist ?_ | with_reducible refine s_for ?_ | with_reducible refine s_irng ?_ | with_reducible refine s_match ?_ | with_reducible refine s_starT ?_ | with_reducible refine s_isS ?_ | with_reducible refine s_isiSS ?_ | with_reducible refine s_fldU ?_ | with_reducible refine s_sfldU ?_
  | ((with_reducible refine' s_eqS ?hq ?_); (case hq => exact rfl)) | ((with_reducible refine' s_neS ?hq ?_); (case hq => exact rfl))
  | ((with_reducible refine' s_isN ?hq ?_); (case hq => exact rfl)) | ((with_reducible refine' s_notN ?hq ?_); (case hq => exact rfl))
  | ((with_reducible refine' s_eqNil ?h1 ?h2 ?_); (case h1 => walk_at "hl"); (case h2 => walk_at "hl")) | ((with_reducible refine' s_neNil ?h1 ?h2 ?_); (case h1 => walk_at "hl"); (case h2 => walk_at "hl"))
  | ((with_reducible refine' s_ixL ?h1 ?h2 ?_); (case h1 => walk_at "hl"); (case h2 => walk_at "at")) | ((with_reducible refine' s_ixT ?h1 ?h2 ?_); (case h1 => walk_at "hl"); (case h2 => walk_at "at"))
  | ((with_reducible refine' s_inS ?h1 ?_); (case h1 => walk_at "hl")) | ((with_reducible refine' s_ninS ?h1 ?_); (case h1 => walk_at "hl")) | with_reducible refine s_inW ?_
  | ((with_reducible refine' s_lenL ?h1 ?_); (case h1 => walk_at "hl")) | ((with_reducible refine' s_lenT ?h1 ?_); (case h1 => walk_at "hl"))
  | ((with_reducible refine' s_tyL ?h1 ?_); (case h1 => walk_at "hl"))
  | ((with_reducible refine' s_fldM ?h1 ?h2 ?h3 ?_); (case h1 => walk_at "hl"); (case h2 => walk_at "fok"); (case h3 => walk_at "flk"))
  | ((with_reducible refine' s_setM ?h1 ?h2 ?h3 ?h4 ?_); (case h1 => walk_at "hl"); (case h2 => walk_at "fok"); (case h4 => walk_at "put"); (case h3 => exact Nat.le_of_ble_eq_true rfl))
  | ((with_reducible refine' s_starM ?h1 ?_); (case h1 => walk_at "hl"))
  | ((with_reducible refine' s_recv ?h1 ?h2 ?_); (case h1 => walk_at "hl"); (case h2 => exact rfl))
  | ((with_reducible refine' s_sz ?h1 ?_); (case h1 => (simp; done))))
local macro_rules | `(tactic| walk_at "rd") => `(tactic| repeat (walk_at "rd1"))
local macro_rules | `(tactic| walk_at "fok") => `(tactic| assumption)
local macro_rules | `(tactic| walk_at "flk") => `(tactic| rfl)
local macro_rules | `(tactic| walk_at "put") => `(tactic| exact rfl)

def spBagD (K : PySem.W.Frag) : Sp := fun vs H Q _ => ∃ (p : Addr) (xs : List Int) (at_ : Nat), vs = [.ref p, .int (at_ : Int)] ∧ SqL K H p (xs.map V.int) ∧ xs.length ≤ 63 ∧ at_ ≤ 3 ∧ ∀ b H', Same H H' → H b = none → BagD H' b 0 → Q (.ref b) H'
theorem ok__law_bag (T : Tl P K mg a fd tk) : FnOk P w K mg base CX0 1 (a 30) (fd 30) ["_law_script", "_law_at"] (spBagD K) := by
  refine T.F__law_bag.ok sc__law_bag (fun vs H Q E h => ?_) (fun cdv A outer s H vs Q E hr h => ?_)
  · obtain ⟨p, xs, at_, rfl, _⟩ := h
    rfl
  · obtain ⟨p, xs, at_, rfl, hp, hn, h3, k⟩ := h
    refine ⟨_, (pss_cons (ps_asg (pe_ifExp (pt_cmpR op_lt (pv 1) (pe_callB call_len_seq (by rfl) T.d.b_len bt_len (pa_cons (pv 0) pa_nil)) (nomark _)) (pe_ix ix_list (pv 0) (pv 1) (fun _ _ => rfl)) pe_int) (pg_name (i := 2) sc__law_bag.nd rfl (by first | exact Or.inl rfl | exact Or.inr rfl)))
  (pss_cons (ps_asg (pe_ifExp (pt_cmpR op_ge (pe_callB call_abs (by rfl) T.b_abs bt_abs (pa_cons (pv 2) pa_nil)) (pe_op op_pow pe_int pe_int) (nomark _)) (pe_callB call_abs (by rfl) T.b_abs bt_abs (pa_cons (pv 2) pa_nil)) pe_int) (pg_name (i := 3) sc__law_bag.nd rfl (by first | exact Or.inl rfl | exact Or.inr rfl)))
  (pss_one (ps_ret (pe_lst (pa_cons (pv 3) (pa_cons (pe_op uAdd (pe_op uAdd (pe_op op_mod (pe_callTy uInt (by rfl) T.b_int bt_int (pa_cons (pv 2) pa_nil)) pe_int) (pe_op uMul pe_int (pv 1))) pe_int) (pa_cons pe_int pa_nil)))))))), ?_⟩
    walk_at "rd"
    refine ⟨p, _, rfl, .inl hp, ?_⟩
    walk_at "rd"
    by_cases hc : at_ < xs.length
    · refine ifT (by simpa using hc) ?_
      walk_at "rd"
      refine ⟨p, _, _, .int xs[at_], rfl, rfl, hp, atI_nat (by rw [List.getElem?_map, List.getElem?_eq_getElem hc]; rfl), ?_⟩
      generalize xs[at_] = c
      walk_at "rd"
      refine ⟨c, rfl, ?_⟩
      walk_at "rd"
      refine s_I ⟨by decide, by decide, by decide⟩ ?_
      walk_at "rd"
      by_cases hb : (10 : Int) ^ (18 : Int).toNat ≤ (if c < 0 then -c else c)
      · refine ifT (decide_eq_true hb) ?_
        walk_at "rd"
        refine ⟨c, rfl, ?_⟩
        walk_at "rd"
        refine s_I (by decide) ?_
        have m0 : 0 ≤ c % 2305843009213693951 := Int.emod_nonneg _ (by decide)
        have m1 : c % 2305843009213693951 < 2305843009213693951 := Int.emod_lt_of_pos _ (by decide)
        generalize c % 2305843009213693951 = mm at m0 m1 ⊢
        walk_at "rd"
        refine s_mulI (mulOk (by decide) (by omega)) ?_
        walk_at "rd"
        intro b nb
        exact k b _ (Same.new nb) nb ⟨_, _, _, upd_same, by first | omega | (split <;> omega), by omega, by omega, by decide, by decide⟩
      · refine ifF (decide_eq_false hb) ?_
        walk_at "rd"
        refine s_I (by decide) ?_
        have m0 : 0 ≤ c % 2305843009213693951 := Int.emod_nonneg _ (by decide)
        have m1 : c % 2305843009213693951 < 2305843009213693951 := Int.emod_lt_of_pos _ (by decide)
        generalize c % 2305843009213693951 = mm at m0 m1 ⊢
        walk_at "rd"
        refine s_mulI (mulOk (by decide) (by omega)) ?_
        walk_at "rd"
        intro b nb
        exact k b _ (Same.new nb) nb ⟨_, _, _, upd_same, by first | omega | (split <;> omega), by omega, by omega, by decide, by decide⟩
    · refine ifF (by simpa using hc) ?_
      walk_at "rd"
      refine ⟨0, rfl, ?_⟩
      walk_at "rd"
      refine s_I ⟨by decide, by decide, by decide⟩ ?_
      walk_at "rd"
      by_cases hb : (10 : Int) ^ (18 : Int).toNat ≤ (if (0 : Int) < 0 then -0 else 0)
      · refine ifT (decide_eq_true hb) ?_
        walk_at "rd"
        refine ⟨0, rfl, ?_⟩
        walk_at "rd"
        refine s_I (by decide) ?_
        have m0 : 0 ≤ (0 : Int) % 2305843009213693951 := Int.emod_nonneg _ (by decide)
        have m1 : (0 : Int) % 2305843009213693951 < 2305843009213693951 := Int.emod_lt_of_pos _ (by decide)
        generalize (0 : Int) % 2305843009213693951 = mm at m0 m1 ⊢
        walk_at "rd"
        refine s_mulI (mulOk (by decide) (by omega)) ?_
        walk_at "rd"
        intro b nb
        exact k b _ (Same.new nb) nb ⟨_, _, _, upd_same, by first | omega | (split <;> omega), by omega, by omega, by decide, by decide⟩
      · refine ifF (decide_eq_false hb) ?_
        walk_at "rd"
        refine s_I (by decide) ?_
        have m0 : 0 ≤ (0 : Int) % 2305843009213693951 := Int.emod_nonneg _ (by decide)
        have m1 : (0 : Int) % 2305843009213693951 < 2305843009213693951 := Int.emod_lt_of_pos _ (by decide)
        generalize (0 : Int) % 2305843009213693951 = mm at m0 m1 ⊢
        walk_at "rd"
        refine s_mulI (mulOk (by decide) (by omega)) ?_
        walk_at "rd"
        intro b nb
        exact k b _ (Same.new nb) nb ⟨_, _, _, upd_same, by first | omega | (split <;> omega), by omega, by omega, by decide, by decide⟩
theorem b__law_bag (T : Tl P K mg a fd tk) : Binds K (fd 30) ["_law_script", "_law_at"] [] := T.F__law_bag.binds fun _ _ _ _ _ _ us hl => match us, hl with | [_, _], _ => rfl
end
end Tr
set_option maxHeartbeats 1000000
namespace Tr
open PySem PySem.Spec PyProof.Rows L2
theorem op_mulS {X : Cx} : OpR X (binaryOp .Mult) (fun x y H Q => ∃ z n, x = .str z ∧ y = .int n ∧ MulOk z n ∧ Q (.str (Txt.mul z n)) H) := by
  intro pins s σ H x y v u Q I rx ry h
  obtain ⟨i, j, rfl, rfl, hz, q⟩ := h
  obtain ⟨t, rfl⟩ := rx
  obtain ⟨t', rfl⟩ := ry
  exact SB.mul hz fun t' tk => ⟨.str _, H, I.tok _, ⟨_, rfl⟩, q⟩
theorem mulOk_small {z : Str} {n : Int} (h0 : 0 ≤ n) (hn : n ≤ 1000) (hz : z.length ≤ 1000) : MulOk z n := by
  have e1 : n.toNat ≤ 1000 := by omega
  refine ⟨by simp; omega, fun h1 h2 => ?_, fun h1 h2 => ?_⟩
  · have : (2 ^ 63 - 1 : Int) / n ≥ 1000 := by
      refine Int.le_ediv_of_mul_le (by omega) ?_
      have : (1000 : Int) * n ≤ 1000 * 1000 := by omega
      omega
    omega
  · have h5 : z.length * n.toNat ≤ 1000 * 1000 := Nat.mul_le_mul hz e1
    have h6 : 1000 * 1000 ≤ sizeLine := by decide
    unfold Builtin.Str.tooLong
    simp
    omega
end Tr
set_option maxHeartbeats 1000000
namespace Tr
open PySem PySem.Spec PyProof.Rows L2
section
variable {σ : L2.St} {H : Hp} {Q : VK} {K : PySem.W.Frag}
theorem s_lcRJ {n : Int} {g : TG} {te : TE} {vs : List Nat} (J : Nat → Addr → List V → Hp → Prop) (h0 : 0 ≤ n) (h1 : n ≤ 100000)
    (j0 : ∀ D, H D = none → J 0 D [] (upd H D (.lst []))) (hG : ∀ i D acc H', J i D acc H' → H' D = some (.lst acc) ∧ acc.length = i)
    (hs : ∀ (i : Nat) (D : Addr) (acc : List V) (H2 : Hp) (R : VK), (i : Int) < n → J i D acc H2 → (∀ v H4, H4 D = some (.lst acc) → J (i + 1) D (acc ++ [v]) (upd H4 D (.lst (acc ++ [v]))) → R v H4) →
      g (.int (i : Int)) (wipe σ vs) H2 fun σ2 H3 => wipe σ2 vs = wipe σ vs ∧ te σ2 H3 R)
    (hd : ∀ D acc H', H D = none → J n.toNat D acc H' → Q (.ref D) H') : mRng (LcGo g tYes te vs σ Q) [.int n] H := by
  refine ⟨n, rfl, by omega, by omega, fun D hD => ?_⟩
  refine lc_it (walk_range (lo := 0) (n := n.toNat)) (fun i H' => ∃ acc, J i D acc H') ⟨[], j0 D hD⟩ (fun i H' _ pv => trivial) ?_ ?_
  · rintro i x H2 H' hi ⟨acc, j⟩ ⟨rfl, hxx⟩
    obtain ⟨hD2, hl⟩ := hG _ _ _ _ j
    subst hxx
    have e : (0 : Int) + (i : Int) = (i : Int) := Int.zero_add _
    show g (V.int (0 + (i : Int))) (wipe σ vs) H' _
    rw [e]
    have := hs i D acc H' (fun y H4 => ∃ acc, H4 D = some (.lst acc) ∧ acc.length < sizeLine ∧ ∃ acc', J (i + 1) D acc' (upd H4 D (.lst (acc ++ [y])))) (by omega) j fun v H4 h4 j4 => ⟨acc, h4, by rw [hl]; exact sz_lt (by omega), _, j4⟩
    have e2 : (fun σ2 H3 => wipe σ2 vs = wipe σ vs ∧ te σ2 H3 (fun y H4 => ∃ acc, H4 D = some (.lst acc) ∧ acc.length < sizeLine ∧ ∃ acc', J (i + 1) D acc' (upd H4 D (.lst (acc ++ [y]))))) =
      (fun σ2 H3 => wipe σ2 vs = wipe σ vs ∧ tYes σ2 H3 fun b' H3 => if b' = true then te σ2 H3 (fun y H4 => ∃ acc, H4 D = some (.lst acc) ∧ acc.length < sizeLine ∧ ∃ acc', J (i + 1) D acc' (upd H4 D (.lst (acc ++ [y])))) else ∃ acc, J (i + 1) D acc H3) := rfl
    rw [e2] at this
    exact this
  · rintro H' ⟨acc, j⟩
    exact hd D acc H' hD j
end
theorem len_app (x y : Str) : (x ++ y).length = x.length + y.length := by
  show (x.cps ++ y.cps).size = _
  rw [Array.size_append]; rfl
theorem ok_app {x y : Str} (h1 : PyData.strOk x = true) (h2 : PyData.strOk y = true) : PyData.strOk (x ++ y) = true := by
  show (x.cps ++ y.cps).all (· < 0x110000) = true
  rw [Array.all_append]
  exact Bool.and_eq_true_iff.mpr ⟨h1, h2⟩
theorem ok_empty : PyData.strOk Str.empty = true := by decide +kernel
theorem ok_nil : PyData.strOk (Str.ofString "") = true := by decide +kernel
theorem join_e : ∀ ys : List Str, (Txt.join (Str.ofString "") ys).length = (ys.map (·.length)).sum ∧ ((∀ y ∈ ys, PyData.strOk y = true) → PyData.strOk (Txt.join (Str.ofString "") ys) = true)
  | [] => ⟨rfl, fun _ => ok_empty⟩
  | [x] => by
    rw [TL.join_eq]
    exact ⟨by show x.length = _; simp, fun h => h x (by simp)⟩
  | x :: y :: ys => by
    have ih := join_e (y :: ys)
    rw [TL.join_eq] at ih ⊢
    refine ⟨?_, fun h => ?_⟩
    · show (x ++ Str.ofString "" ++ Str.join (Str.ofString "") (y :: ys)).length = _
      rw [len_app, len_app, ih.1]
      show x.length + 0 + _ = _
      simp
    · exact ok_app (ok_app (h x (by simp)) ok_nil) (ih.2 fun z hz => h z (List.mem_cons_of_mem _ hz))
theorem foldl_app {α : Type} : ∀ (l : List (Array α)) (a : Array α), (l.foldl (· ++ ·) a).toList = a.toList ++ (l.map Array.toList).flatten
  | [], a => by simp
  | x :: l, a => by rw [List.foldl_cons, foldl_app l]; simp
theorem mul_e {z : Str} {n : Int} (hz : PyData.strOk z = true) (h1 : z.length = 1) (h0 : 0 ≤ n) : (Txt.mul z n).length = n.toNat ∧ PyData.strOk (Txt.mul z n) = true := by
  unfold Txt.mul
  by_cases c1 : n < 1
  · rw [if_pos c1]
    have : n = 0 := by omega
    subst this
    exact ⟨rfl, ok_empty⟩
  · rw [if_neg c1]
    split
    · rename_i c2
      rw [h1] at c2
      have : n = 1 := by simpa using c2
      subst this
      exact ⟨h1, hz⟩
    · have e := foldl_app (List.replicate n.toNat z.cps) #[]
      have hz1 : z.cps.toList.length = 1 := h1
      refine ⟨?_, ?_⟩
      · show ((List.replicate n.toNat z.cps).foldl (· ++ ·) #[]).size = _
        rw [← Array.length_toList, e]
        simp only [List.map_replicate, List.nil_append, List.length_flatten, List.sum_replicate_nat, hz1, Nat.mul_one]
      · show ((List.replicate n.toNat z.cps).foldl (· ++ ·) #[]).all (· < 0x110000) = true
        rw [← Array.all_toList, e, List.all_eq_true]
        intro c hc
        simp only [List.nil_append, List.mem_flatten, List.mem_map, List.mem_replicate] at hc
        obtain ⟨l, ⟨y, ⟨_, rfl⟩, rfl⟩, hc⟩ := hc
        have hz' : z.cps.all (· < 0x110000) = true := hz
        rw [← Array.all_toList, List.all_eq_true] at hz'
        exact hz' c hc
end Tr
set_option maxHeartbeats 2000000
namespace L2
open PySem PySem.Spec PyProof.Rows NdefX LamX
open Classical in
/-- the lent cells that a function captured -/
noncomputable def osR (cl : List (Str × Addr)) (os : Addr → Option Obj) : Addr → Option Obj := fun c => if (∃ y, cl.lookup y = some c) then os c else none
theorem osR_some {cl : List (Str × Addr)} {os : Addr → Option Obj} {c : Addr} {o : Obj} (h : osR cl os c = some o) : (∃ y, cl.lookup y = some c) ∧ os c = some o := by
  unfold osR at h
  split at h
  · exact ⟨by assumption, h⟩
  · cases h
theorem osR_at {cl : List (Str × Addr)} {os : Addr → Option Obj} {c : Addr} {y : Str} (h : cl.lookup y = some c) : osR cl os c = os c := if_pos ⟨y, h⟩
theorem cells_nd : ∀ (names : List (Str × NameKind)) (n : Nat) (acc : List (Str × Addr)), (acc.map (·.2)).Nodup → (∀ p ∈ acc, p.2 < n) → ((cellsFrom n names acc).map (·.2)).Nodup
  | [], _, _, h, _ => h
  | (x, k) :: r, n, acc, h, hl => by
    unfold cellsFrom
    split
    · refine cells_nd r (n + 1) _ ?_ fun p hp => ?_
      · rw [List.map_cons, List.nodup_cons]
        refine ⟨fun z => ?_, h⟩
        obtain ⟨p, hp, e⟩ := List.mem_map.mp z
        have := hl p hp
        rw [show p.2 = n from e] at this
        exact Nat.lt_irrefl _ this
      · rcases List.mem_cons.mp hp with rfl | hp
        · exact Nat.lt_succ_self _
        · exact Nat.lt_succ_of_lt (hl p hp)
    · exact cells_nd r n acc h hl
theorem nd_eq {α : Type} : ∀ {l : List (α × Addr)} {x y : α} {c : Addr}, (l.map (·.2)).Nodup → (x, c) ∈ l → (y, c) ∈ l → x = y
  | [], _, _, _, _, h, _ => by cases h
  | p :: l, x, y, c, nd, h1, h2 => by
    rw [List.map_cons, List.nodup_cons] at nd
    rcases List.mem_cons.mp h1 with e1 | m1
    · rcases List.mem_cons.mp h2 with e2 | m2
      · rw [← e1] at e2; exact (Prod.mk.inj e2).1.symm
      · exact absurd (List.mem_map.mpr ⟨_, m2, by rw [← e1]⟩) nd.1
    · rcases List.mem_cons.mp h2 with e2 | m2
      · exact absurd (List.mem_map.mpr ⟨_, m1, by rw [← e2]⟩) nd.1
      · exact nd_eq nd.2 m1 m2
section
variable {X : Cx} {σ : St} {os : Addr → Option Obj} {H : Hp} {N fr : List Str} {ws : List V} {scope : Scope} {L : Nat}
theorem CellsF.of_lent (S : NScope N [] fr scope) (hcells : X.env.cells = cellsFrom (L + 1) X.env.scope.names []) (hk : ∀ y ∈ fr, X.env.scope.names.lookup y = some .cell) (lo : LentO X σ os) (len : ws.length = fr.length)
    (hv : ∀ (i : Nat) (y : Str) (v : V), fr[i]? = some y → ws[i]? = some v → ∃ j : Nat, X.N[j]? = some y ∧ σ[j]? = some (some v)) : CellsF (cloFrom X.env.cells scope.names []) fr ws (osR (cloFrom X.env.cells scope.names []) os) (lendH os H) := by
  have has : ∀ y ∈ fr, ∃ c, X.env.cells.lookup y = some c := fun y hy => by rw [hcells]; exact cell_has (hk y hy)
  have sub : ∀ {y : Str} {c : Addr}, (cloFrom X.env.cells scope.names []).lookup y = some c → y ∈ fr ∧ X.env.cells.lookup y = some c := fun {y c} h => by
    rcases cloFrom_mem (PySem.mem_of_lookup h) with z | ⟨h1, h2⟩
    · cases z
    · have hy := S.free _ h1 rfl
      obtain ⟨c1, hc⟩ := has y hy
      rw [hc] at h2
      rw [h2]
      exact ⟨hy, hc⟩
  have look : ∀ {y : Str}, y ∈ fr → ∃ c, (cloFrom X.env.cells scope.names []).lookup y = some c := fun {y} hy =>
    mem_lookup (cloFrom_has (cells := X.env.cells) (acc := []) (PySem.mem_of_lookup (S.frk y hy)))
  have inj : ∀ x y c, X.env.cells.lookup x = some c → X.env.cells.lookup y = some c → x = y := fun x y c h1 h2 => by
    rw [hcells] at h1 h2
    exact nd_eq (cells_nd _ _ _ (by simp) (fun p hp => by cases hp)) (PySem.mem_of_lookup h1) (PySem.mem_of_lookup h2)
  have dat : ∀ {y : Str} {c : Addr}, y ∈ fr → X.env.cells.lookup y = some c → ∀ (i : Nat), fr[i]? = some y → ∀ v, ws[i]? = some v → ∃ o u, os c = some o ∧ o.data = .cell (some u) ∧ RelV v u := fun {y c} hy hc i hi v hw => by
    obtain ⟨j, hj, hs⟩ := hv i y v hi hw
    exact lo.val j y c v hj hs hc (.inl (hk y hy))
  refine ⟨len, fun y c h => ?_, fun c o h => ?_, fun x y c h1 h2 => inj x y c (sub h1).2 (sub h2).2, fun i y hi => ?_⟩
  · obtain ⟨o, ho⟩ := lo.all y c (sub h).2
    exact ⟨o, by rw [osR_at h]; exact ho⟩
  · obtain ⟨⟨y, hy⟩, ho⟩ := osR_some h
    obtain ⟨hyf, hc⟩ := sub hy
    refine ⟨lend_some ho, ?_, y, hy⟩
    obtain ⟨i, hi⟩ := List.mem_iff_getElem?.mp hyf
    have hl : i < ws.length := by rw [len]; exact (List.getElem?_eq_some_iff.mp hi).1
    obtain ⟨o', u, ho', hd, _⟩ := dat hyf hc i hi _ (List.getElem?_eq_getElem hl)
    rw [ho] at ho'
    cases ho'
    exact ⟨some u, hd⟩
  · have hy := List.mem_of_getElem? hi
    obtain ⟨c, hc⟩ := look hy
    refine ⟨c, hc, fun v hw => ?_⟩
    obtain ⟨o, u, ho, hd, r⟩ := dat hy (sub hc).2 i hi v hw
    exact ⟨o, u, by rw [osR_at hc]; exact ho, hd, r⟩
end
section
variable {cl : List (Str × Addr)} {fr : List Str} {ws : List V} {os : Addr → Option Obj} {H H' : Hp}
theorem CellsF.keep (C : CellsF cl fr ws os H) (f : ∀ c o, os c = some o → H c = some (frzO o) → H' c = some (frzO o)) : CellsF cl fr ws os H' :=
  ⟨C.len, C.dom, fun c o h => by
    obtain ⟨h1, h2⟩ := C.frz c o h
    exact ⟨f c o h h1, h2⟩, C.inj, C.has⟩
end
/-- a lambda's object, its code object -/
def LamO (g : Addr) (H : Hp) (qual : Str) (params : Arguments) (body : Expr) (scope : Scope) (cl : List (Str × Addr)) (c : Addr) : Prop := ∃ pm ctv : Value, H g = some (frzO (PySem.W.kla_obj "<lambda>" qual params body scope cl pm c ctv)) ∧ H c = some (CodeO c qual)
/-- .. with its cells, that are lent -/
def wspL (sp : Sp) (qual : Str) (params : Arguments) (body : Expr) (scope : Scope) (fr : List Str) : Addr → Hp → VK → Prop := fun g H Q => ∃ (ws : List V) (cl : List (Str × Addr)) (c : Addr) (os : Addr → Option Obj), LamO g H qual params body scope cl c ∧ CellsF cl fr ws os H ∧ sp ws H Q E0
section
variable {P : Program} {w : World} {K : PySem.W.Frag} {mg : Str → Option Value} {base : Heap} {N fr : List Str} {k : Nat} {params : Arguments} {body : Expr} {scope : Scope} {qual : Str} {sp : Sp} {t : TA}
theorem wok_lam (S : NScope N [] fr scope) (hbind : ∀ (cl : List (Str × Addr)) (pm : Value) (c : Addr) (ctv : Value), bindArgs (PySem.W.kla_fn "<lambda>" qual params body scope cl pm (.ref c) ctv) ⟨[], []⟩ = pure [])
    (hbody : ∀ (cl : List (Str × Addr)) (c : Addr) (f : Addr) (A : Around) (outer : List Env) (s : Shared) (H : Hp) (E : XK), Room k (A.deeper (envF ⟨"<lambda>", qual, params, [], scope, cl, c⟩ f s.heap.objs.size)) →
      OwnC (ncx CX0 P w K mg base N ⟨"<lambda>", qual, params, [], scope, cl, c⟩ f A outer s H E) → PE (ncx CX0 P w K mg base N ⟨"<lambda>", qual, params, [], scope, cl, c⟩ f A outer s H E) body (tCallLent (ncx CX0 P w K mg base N ⟨"<lambda>", qual, params, [], scope, cl, c⟩ f A outer s H E) sp t))
    (hmono : ∀ (vs : List V) (H : Hp) (Q Q' : VK), (∀ v H', Q v H' → Q' v H') → sp vs H Q E0 → sp vs H Q' E0)
    (ht : ∀ (ws : List V) (H : Hp) (Q : List V → Hp → Prop), ws.length = fr.length → Q ws H → t (startF N [] (ws.map some)) H Q) : WOk P w K mg base (k + 1) (wspL sp qual params body scope fr) := by
  refine ⟨fun g H Q ⟨ws, cl, c, os, ⟨pm, ctv, h1, h2⟩, C, q⟩ => ⟨_, _, h1, rfl, rfl⟩, fun {g H Q Q'} hq ⟨ws, cl, c, os, h, C, q⟩ => ⟨ws, cl, c, os, h, C, hmono _ _ _ _ hq q⟩, fun A outer s H g Q hr e0 ⟨ws, cl, c, os, ⟨pm, ctv, h1, h2⟩, C, q⟩ => ?_⟩
  exact lam_call (F := ⟨"<lambda>", qual, params, [], scope, cl, c⟩) (N := N) (fr := fr) (k := k) (params := params) (body := body) (t := t) S (fun pm ctv => hbind cl pm c ctv) (fun f A outer s H E hr ho => hbody cl c f A outer s H E hr ho) (fun H Q Q' h => hmono ws H Q Q' h) hr e0 h1 h2 C (fun H Q hq => ht ws H Q C.len hq) q
end
end L2
set_option maxHeartbeats 2000000
namespace L2
open PySem PySem.Spec PyProof.Rows NdefX LamX
/-- behind the last call of a frame: what the frame's end wants, no more -/
def TPost (X : Cx) (Q : VK) (u : Value) (s' : Shared) : Prop := ∃ v H', s'.os = X.s_0.os ∧ AllBare s'.gens ∧ Un X.fs X.ex X.H_0 H' X.s_0.heap s'.heap ∧ HOk X.prog X.w H' s'.heap ∧ RelV v u ∧ Q v H'
/-- an expression that ends the frame -/
structure PTail (X : Cx) (e : Expr) (t : TE) : Prop where
  run : ∀ (s : Shared) (σ : St) (H : Hp) (Q : VK), Inv X [] σ H s → t σ H Q → wpAny (model X.prog X.w) X.A (eval e X.env) (TPost X Q) X.xe s
section
variable {X : Cx} {σ : St} {H : Hp} {s s' : Shared} {Q : VK} {u : Value} {os : Addr → Option Obj}
theorem tail_join (I : Inv X [] σ H s) (hx : X.ex = []) (hf : ∀ x, X.fn x = true) (lo : LentO X σ os) (free : ∀ c o, os c = some o → H c = none) (c : CE X.stack X.prog X.w (lendH os H) s Q u s') : TPost X Q u s' := by
  obtain ⟨v, H1, ho, bare, un, hok, r, q⟩ := c
  have osn : ∀ b o, X.s_0.heap.get? b = some o → os b = none := fun b o h => by
    cases e : os b with
    | none => rfl
    | some ob =>
      obtain ⟨y, hy⟩ := lo.only b ob e
      exact absurd (Nat.lt_of_lt_of_le (Heap.lt_size h) (I.ok.cab y b (hf y) hy)) (Nat.lt_irrefl _)
  have ls := lend_same free
  have sub : ∀ b, b ∈ X.fs → b ∈ frs X.stack := fun b hb => by
    rcases I.ok.stk with e | ⟨e, e2⟩
    · rw [e]; exact hb
    · rw [e]
      unfold frs
      rw [List.filterMap_cons]
      split
      · exact hb
      · exact List.mem_cons_of_mem _ hb
  have nst : ∀ b o, X.s_0.heap.get? b = some o → b ∉ X.fs → b ∉ frs X.stack := fun b o h hb hm => by
    rcases List.mem_cons.mp (I.stkSub b hm) with z | z
    · rw [z] at h
      exact absurd (Nat.lt_of_lt_of_le (Heap.lt_size h) I.ok.above) (Nat.lt_irrefl _)
    · exact hb z
  refine ⟨v, H1, ho.trans I.os, bare, ⟨fun b o h n nf nx => ?_, fun b o h n nf nx => ?_, fun b o h n nx => ?_, fun b o h nx => ?_, fun b xs h => ?_, fun b o u h => ?_, fun b ps h => ?_⟩, hok, r, q⟩
  · have h1 := I.base.keep b o h n nf nx
    have n1 := I.base.free b o h n nx
    exact un.keep b o h1 (by rw [lend_none (osn b o h)]; exact n1) (nst b o h nf) (by simp)
  · obtain ⟨sl, h1⟩ := I.base.slot b o h n nf nx
    have n1 := I.base.free b o h n nx
    obtain ⟨sl2, h2⟩ := un.slot b _ h1 (by rw [lend_none (osn b o h)]; exact n1) (sub b nf) (by simp)
    exact ⟨sl2, h2⟩
  · obtain ⟨o1, h1⟩ := I.base.there b o h nx
    have n1 := I.base.free b o h n nx
    exact un.free b o1 h1 (by rw [lend_none (osn b o h)]; exact n1) (by simp)
  · obtain ⟨o1, h1⟩ := I.base.there b o h nx
    exact un.there b o1 h1 (by simp)
  · exact un.tups b xs (ls _ _ (I.base.tups b xs h))
  · exact un.frzs b o u (ls _ _ (I.base.frzs b o u h))
  · obtain ⟨m1, h1⟩ := I.base.tbls b ps h
    obtain ⟨m2, h2⟩ := un.tbls b _ (ls _ _ h1)
    exact ⟨m1 ++ m2, by rw [h2, Array.append_assoc]⟩
end
section
variable {X : Cx} {k : Nat} {f C : Addr} {fd : FuncData} {ps : List Str} {sp : Sp} {o e : Expr} {es : List Expr} {ta : TE} {t : TA} {m : Str} {pos apos : Pos}
def tTailM (X : Cx) (C : Addr) (m : Str) (sp : Sp) (ta : TE) (t : TA) : TE := fun σ H Q => ta σ H fun x H1 => ∃ a dx fs, x = .ref a ∧ H1 a = some (.ins C dx fs) ∧ fs.lookup m = none ∧ t σ H1 fun vs H2 => ∀ os, LentO X σ os → (∀ c o, os c = some o → H2 c = none) → sp (x :: vs) (lendH os H2) Q E0
theorem call_fnT {pins : List (Addr × Obj)} {σ : St} {H : Hp} {s : Shared} {Q : VK} {us : List Value} {vs : List V} (F : FnOk X.prog X.w X.K X.mg X.base CX0 k f fd ps sp) (hr : Room k X.A) (hb : Binds X.K fd ps []) (hf : ∀ x, X.fn x = true) (hx : X.ex = []) (I : Inv X [] σ H s) (r : Vals vs us)
    (h : ∀ os, LentO X σ os → (∀ c o, os c = some o → H c = none) → sp vs (lendH os H) Q E0) : wpAny (model X.prog X.w) X.A (call (.ref f) us) (TPost X Q) X.xe s := by
  obtain ⟨os, lo, la, e0⟩ := lend_ex I (own_cx I.ok hf)
  have hs := h os lo la.free
  have hl : (us ++ []).length = ps.length := by rw [List.append_nil, ← r.length]; exact F.len _ _ _ _ hs
  have hb' := hb s us I.kIn hl
  rw [List.append_nil] at hb'
  refine wpAny_call (codeAny_mono (F.run X.A X.stack s _ ⟨us, []⟩ us vs _ _ hr e0 hb' r hs) fun r s' hq => ?_)
  cases r with
  | error e => exact False.elim hq
  | ok fl =>
    cases fl with
    | ret u => exact tail_join I hx hf lo la.free hq
    | next => exact False.elim hq
    | brk => exact False.elim hq
    | cont => exact False.elim hq
theorem pt_methL {pl : Sem Bool} (he : PE X o ta) (c : Cls X.K C) (hm : Meth X.K C m f) (F : FnOk X.prog X.w X.K X.mg X.base CX0 k f fd ps sp) (hr : Room k X.A) (hf : ∀ x, X.fn x = true) (hx : X.ex = []) (hb : Binds X.K fd ps []) (ha : PA X (e :: es) t)
    (hst : starEach (e :: es) X.env = (false, eval e X.env) :: starEach es X.env := by rfl) (hpl : (backTo pos (starEach es X.env)).any (·.1) = false := by rfl)
    (ht : eval (.Call (.Attribute o m apos) (e :: es) [] pos) X.env = (do
      let ov ← eval o X.env
      standAt apos.atName
      let (f, first) ← holding [ov] (getMethod ov m pl)
      callWith pos f first (backTo pos (starEach (e :: es) X.env)) (backToKw pos (keywordEach [] X.env))) := by rfl) :
    PTail X (.Call (.Attribute o m apos) (e :: es) [] pos) (tTailM X C m sp ta t) := by
  refine ⟨fun s σ H Q I h => ?_⟩
  refine PySem.W.methodCall_KW (pl := pl) (thn (he.run [] s σ H _ I h) fun u s1 ⟨x, H1, I1, rx, a, dx, fs, ex, ea, l, q⟩ => ?_) ht
  subst ex
  obtain rfl : u = Value.ref a := rx
  refine getmeth_ok I1 ea c hm l ?_
  refine PySem.W.callWith_K (first := [.ref a]) (h₀ := X.base) I.ok.mod.kin hm.kp (thn (ha.run pos [] s1 σ H1 _ I1 q) fun us s2 ⟨vs, H2, I2, r, q2⟩ => ⟨I2.kIn, ?_⟩) hst hpl
  exact call_fnT (pins := []) (us := .ref a :: us) (vs := .ref a :: vs) F hr hb hf hx I2 (.cons rfl r) q2
end
section
variable {P : Program} {w : World} {K : PySem.W.Frag} {mg : Str → Option Value} {base : Heap}
/-- a def whose body is one return -/
theorem FunT.okL {x qual : Str} {st : Stmt} {f c : Addr} {fd : FuncData} {N ps : List Str} {k : Nat} {sp : Sp} {e : Expr} {pos : Pos} (F : FunT K x qual st f fd c) (S : FnScope N ps (defScope st)) (hbd : defBody st = [.Return (some e) pos]) (len : ∀ vs H Q E, sp vs H Q E → vs.length = ps.length)
    (hbody : ∀ (A : Around) (outer : List Env) (s : Shared) (H : Hp) (vs : List V) (Q : VK) (E : XK), Room k (A.deeper (envOfC qual (defScope st) s.heap.objs.size f (.ref c))) → sp vs H Q E →
      ∃ t, PTail (cxOf CX0 P w K mg base N qual (defScope st) f (.ref c) A outer s H E) e t ∧ t (start N vs) H Q) : FnOk P w K mg base CX0 (k + 1) f fd ps sp := by
  obtain ⟨oc, od, kV, doc, pm, an, ct, osl, rfl, lk, hcd⟩ := F.ex
  refine ⟨len, fun A outer s H args us vs Q E hr e0 hb r hsp => ?_⟩
  have hl := len _ _ _ _ hsp
  have KX : K.In s.heap := e0.mod.kin.keeps fun b o e => (e0.bs b o e).1
  have lim : s.heap.NoLimit := e0.mod.nolimit.keeps fun b o e => (e0.bs b o e).1
  have hkind : ∀ y ∈ ps.zip us, (defScope st).names.lookup y.1 = some .local ∨ ((defScope st).names.lookup y.1 = some .cell ∧ ((cellsFrom (s.heap.objs.size + 1) (defScope st).names []).lookup y.1).isSome = true) := fun ⟨n, v⟩ hy => by
    rcases S.par n (List.of_mem_zip hy).1 with q | q
    · exact .inl q
    · exact .inr ⟨q, PySem.W.cellsFrom_some _ _ _ (.inl q)⟩
  refine codeAny_call_function hr.depth (KX _ _ lk) rfl S.co S.gen rfl (PySem.W.codeRec_of KX hcd) (hb _ _ _ _ ?_)
  refine wpAny_newFunctionEnv_cells S.kind hkind fun env he s1 x => ?_
  subst he
  refine ⟨lim.keeps x.toInCall.keep, codeAny_func ?_⟩
  obtain ⟨t, ht, hq⟩ := hbody A outer s H vs Q E (hr.deeper _) hsp
  have I : Inv (cxOf CX0 P w K mg base N qual (defScope st) f (.ref c) A outer s H E) [] (start N vs) H s1 := inv_start S hr.hd e0 hl r x
  rw [hbd]
  have h1 : wpAny (model P w) (A.deeper (envOfC qual (defScope st) s.heap.objs.size f (.ref c))) (execs [.Return (some e) pos] (envOfC qual (defScope st) s.heap.objs.size f (.ref c)))
      (fun fl s' => match fl with | .ret u => TPost (cxOf CX0 P w K mg base N qual (defScope st) f (.ref c) A outer s H E) Q u s' | _ => False) (cxOf CX0 P w K mg base N qual (defScope st) f (.ref c) A outer s H E).xe s1 :=
    wpAny_execs_cons (wpAny_Return_some (thn (ht.run s1 (start N vs) H Q I hq) fun v s' h => h))
  refine wpAny_mono h1 (fun fl s' hs => ?_) fun e s' hs => hs
  cases fl with
  | ret u =>
    obtain ⟨v, H', os, bare, un, hok, rv, q⟩ := hs
    exact ⟨v, H', os, bare, un, hok, rv, q⟩
  | next => exact False.elim hs
  | brk => exact False.elim hs
  | cont => exact False.elim hs
end
end L2
set_option maxHeartbeats 2000000
namespace Tr
open PySem PySem.Spec PyProof.Rows L2
section
variable {K : PySem.W.Frag} {H : Hp}
theorem dp_strs : ∀ (ls : List Str), DpAll K H (ls.map V.str) (ls.map PyData.str)
  | [] => .nil
  | x :: l => .cons (.str x) (dp_strs l)
theorem dp_ints : ∀ (ls : List Int), DpAll K H (ls.map V.int) (ls.map PyData.int)
  | [] => .nil
  | x :: l => .cons (.int x) (dp_ints l)
theorem dp_map {α : Type} {f : α → PyData} : ∀ {vs : List V} {ys : List α}, vs.length = ys.length → (∀ (i : Nat) (v : V) (y : α), vs[i]? = some v → ys[i]? = some y → Dp K H v (f y)) → DpAll K H vs (ys.map f)
  | [], [], _, _ => .nil
  | [], _ :: _, h, _ => by simp at h
  | _ :: _, [], h, _ => by simp at h
  | v :: vs, y :: ys, h, hd => .cons (hd 0 v y rfl rfl) (dp_map (by simpa using h) fun i v' y' h1 h2 => hd (i + 1) v' y' h1 h2)
theorem shaped_all {ds : List PyData} (h : ∀ d ∈ ds, d.canLay0 = true ∧ d.depth ≤ 10) : PyData.canLay0 (.tuple ds) = true ∧ PyData.depth (.tuple ds) ≤ 11 ∧ PyData.canLay0 (.list ds) = true ∧ PyData.depth (.list ds) ≤ 11 := by
  have h1 : ∀ (ds : List PyData), (∀ d ∈ ds, d.canLay0 = true ∧ d.depth ≤ 10) → PyData.canLayAll0 ds = true ∧ PyData.depthAll ds ≤ 10 := by
    intro ds
    induction ds with
    | nil => intro _; exact ⟨rfl, by simp [PyData.depthAll]⟩
    | cons d l ih =>
      intro h
      obtain ⟨i1, i2⟩ := ih fun x hx => h x (by simp [hx])
      obtain ⟨j1, j2⟩ := h d (by simp)
      exact ⟨by simp [PyData.canLayAll0, i1, j1], by simp only [PyData.depthAll]; omega⟩
  obtain ⟨i1, i2⟩ := h1 ds h
  exact ⟨by simp [PyData.canLay0, i1], by simp only [PyData.depth]; omega, by simp [PyData.canLay0, i1], by simp only [PyData.depth]; omega⟩
theorem shaped_tup {ds : List PyData} (h : ∀ d ∈ ds, d.canLay0 = true ∧ d.depth ≤ 10) : SeqAt.shaped (.tuple ds) = true := by
  obtain ⟨h1, h2, _⟩ := shaped_all h
  unfold SeqAt.shaped
  rw [h1]
  simp
  omega
theorem shaped_lst {ds : List PyData} (h : ∀ d ∈ ds, d.canLay0 = true ∧ d.depth ≤ 10) : SeqAt.shaped (.list ds) = true := by
  obtain ⟨_, _, h1, h2⟩ := shaped_all h
  unfold SeqAt.shaped
  rw [h1]
  simp
  omega
theorem lay_ints (xs : List Int) : ∀ d ∈ xs.map PyData.int, d.canLay0 = true ∧ d.depth ≤ 10 := by
  intro d hd
  obtain ⟨i, _, rfl⟩ := List.mem_map.mp hd
  exact ⟨by simp [PyData.canLay0], by simp [PyData.depth]⟩
theorem dp_nons : ∀ (n : Nat), DpAll K H (List.replicate n V.non) (List.replicate n PyData.none)
  | 0 => .nil
  | n + 1 => .cons .non (dp_nons n)
theorem lay_nons (n : Nat) : ∀ d ∈ List.replicate n PyData.none, d.canLay0 = true ∧ d.depth ≤ 10 := by
  intro d hd
  rw [(List.mem_replicate.mp hd).2]
  exact ⟨by simp [PyData.canLay0], by simp [PyData.depth]⟩
section
variable {p q : Addr} {d : PyData} {Q : VK}
theorem s_eqSame {x y : V} (h1 : Dp K H x d) (h2 : Dp K H y d) (hs : SeqAt.shaped d = true) (k : Q (.bl true) H) : rEqD K x y H Q :=
  ⟨d, d, h1, h2, hs, hs, by rw [SeqAt.eqv_refl d (SeqAt.canLay_of_shaped hs)]; exact k⟩
theorem s_neSameD {x y : V} (h1 : Dp K H x d) (h2 : Dp K H y d) (hs : SeqAt.shaped d = true) (k : Q (.bl false) H) : rNeD K x y H Q :=
  ⟨d, d, h1, h2, hs, hs, by rw [SeqAt.eqv_refl d (SeqAt.canLay_of_shaped hs)]; exact k⟩
/-- tuples of the same integers -/
theorem s_eqTI {xs : List Int} (hp : H p = some (.tup (xs.map V.int))) (hq : H q = some (.tup (xs.map V.int))) (k : Q (.bl true) H) : rEqU K (.ref p) (.ref q) H Q := by
  unfold rEqU
  rw [if_neg (by simp [scal])]
  simp only [hq]
  exact s_eqSame (.tup (SqT.of hp) (dp_ints xs)) (.tup (SqT.of hq) (dp_ints xs)) (shaped_tup (lay_ints xs)) k
theorem s_neTI {xs : List Int} (hp : H p = some (.tup (xs.map V.int))) (hq : H q = some (.tup (xs.map V.int))) (k : Q (.bl false) H) : rNeU K (.ref p) (.ref q) H Q := by
  unfold rNeU
  rw [if_neg (by simp [scal])]
  simp only [hq]
  exact s_neSameD (.tup (SqT.of hp) (dp_ints xs)) (.tup (SqT.of hq) (dp_ints xs)) (shaped_tup (lay_ints xs)) k
/-- lists with the same data -/
theorem s_eqLD {xs ys : List V} {ds : List PyData} (hp : H p = some (.lst xs)) (hq : H q = some (.lst ys)) (h1 : DpAll K H xs ds) (h2 : DpAll K H ys ds) (hs : ∀ d ∈ ds, d.canLay0 = true ∧ d.depth ≤ 10) (k : Q (.bl true) H) : rEqU K (.ref p) (.ref q) H Q := by
  unfold rEqU
  rw [if_neg (by simp [scal])]
  cases ys with
  | nil =>
    cases h2
    cases h1
    simp only [hq, hp]
    exact k
  | cons y ys =>
    simp only [hq]
    exact s_eqSame (.lst (SqL.of hp) h1) (.lst (SqL.of hq) h2) (shaped_lst hs) k
theorem s_neLD {xs ys : List V} {ds : List PyData} (hp : H p = some (.lst xs)) (hq : H q = some (.lst ys)) (h1 : DpAll K H xs ds) (h2 : DpAll K H ys ds) (hs : ∀ d ∈ ds, d.canLay0 = true ∧ d.depth ≤ 10) (k : Q (.bl false) H) : rNeU K (.ref p) (.ref q) H Q := by
  unfold rNeU
  rw [if_neg (by simp [scal])]
  cases ys with
  | nil =>
    cases h2
    cases h1
    simp only [hq, hp]
    exact k
  | cons y ys =>
    simp only [hq]
    exact s_neSameD (.lst (SqL.of hp) h1) (.lst (SqL.of hq) h2) (shaped_lst hs) k
theorem s_eqLI {xs : List Int} (hp : H p = some (.lst (xs.map V.int))) (hq : H q = some (.lst (xs.map V.int))) (k : Q (.bl true) H) : rEqU K (.ref p) (.ref q) H Q := s_eqLD hp hq (dp_ints xs) (dp_ints xs) (lay_ints xs) k
theorem s_neLI {xs : List Int} (hp : H p = some (.lst (xs.map V.int))) (hq : H q = some (.lst (xs.map V.int))) (k : Q (.bl false) H) : rNeU K (.ref p) (.ref q) H Q := s_neLD hp hq (dp_ints xs) (dp_ints xs) (lay_ints xs) k
/-- a tuple is a tuple -/
theorem s_isiTup {xs : List V} (hp : H p = some (.tup xs)) (k : Q (.bl true) H) : rIsi K [.ref p, .ty "tuple"] H Q :=
  ⟨_, _, _, _, true, rfl, .ty _, .base (.tup hp), kit_ty (by decide +kernel), k⟩
end
end
end Tr
set_option maxHeartbeats 1000000
namespace Tr
open PySem PySem.Spec PyProof.Rows L2
/-- an expression that gives v and changes nothing -/
def PuV (te : TE) (σ : L2.St) (v : V) : Prop := ∀ H Q, Q v H → te σ H Q
def PuS (ta : TA) (σ : L2.St) (zs : List V) : Prop := ∀ H Q, Q zs H → ta σ H Q
section
variable {σ : L2.St} {te te' : TE} {ta : TA} {v : V} {z z' : Str} {vs : List V} {i : Nat}
theorem qv_var (h : σ[i]? = some (some v)) : PuV (tVar i) σ v := fun H Q q => ⟨_, h, q⟩
theorem qv_c : PuV (tC v) σ v := fun H Q q => q
theorem qv_add (h : PuV te σ (.str z)) (h' : PuV te' σ (.str z')) (hl : z.length + z'.length ≤ 100000) : PuV (tOp rAddU te te') σ (.str (z ++ z')) := fun H Q q => h H _ (h' H _ ⟨sz_le hl, q⟩)
theorem qs_nil : PuS tNil σ [] := fun H Q q => q
theorem qs_cons (h : PuV te σ v) (h' : PuS ta σ vs) : PuS (tCons te ta) σ (v :: vs) := fun H Q q => h H _ (h' H _ q)
theorem qs_go {H : Hp} {Q : List V → Hp → Prop} (h : PuS ta σ vs) (q : Q vs H) : ta σ H Q := h H Q q
theorem qv_go {H : Hp} {Q : VK} (h : PuV te σ v) (q : Q v H) : te σ H Q := h H Q q
end
/-- an item of a tuple: a value, or a list of texts -/
inductive El where
  | v (x : V)
  | ls (zs : List Str)
def ElAt (H0 H : Hp) (x : V) : El → Prop
  | .v y => x = y
  | .ls zs => ∃ l, x = .ref l ∧ H l = some (.lst (zs.map V.str)) ∧ H0 l = none
def ElsAt (H0 H : Hp) : List V → List El → Prop
  | [], [] => True
  | x :: xs, e :: es => ElAt H0 H x e ∧ ElsAt H0 H xs es
  | _, _ => False
theorem ElAt.fr {H0 H H' : Hp} {x : V} {S : List Addr} (f : ∀ x o, H x = some o → x ∉ S → H' x = some o) (hS : ∀ x ∈ S, H0 x ≠ none) : ∀ {e : El}, ElAt H0 H x e → ElAt H0 H' x e
  | .v _, h => h
  | .ls _, ⟨l, e, h1, h2⟩ => ⟨l, e, f _ _ h1 fun q => hS l q h2, h2⟩
theorem ElsAt.fr {H0 H H' : Hp} {S : List Addr} (f : ∀ x o, H x = some o → x ∉ S → H' x = some o) (hS : ∀ x ∈ S, H0 x ≠ none) : ∀ {xs : List V} {es : List El}, ElsAt H0 H xs es → ElsAt H0 H' xs es
  | [], [], _ => trivial
  | _ :: _, _ :: _, ⟨h1, h2⟩ => ⟨ElAt.fr f hS h1, ElsAt.fr f hS h2⟩
  | [], _ :: _, h => h.elim
  | _ :: _, [], h => h.elim
theorem ElAt.free {H1 H0 H : Hp} {x : V} (s : Same H1 H0) : ∀ {e : El}, ElAt H0 H x e → ElAt H1 H x e
  | .v _, h => h
  | .ls _, ⟨l, e, h1, h2⟩ => ⟨l, e, h1, s.free h2⟩
theorem ElsAt.free {H1 H0 H : Hp} (s : Same H1 H0) : ∀ {xs : List V} {es : List El}, ElsAt H0 H xs es → ElsAt H1 H xs es
  | [], [], _ => trivial
  | _ :: _, _ :: _, ⟨h1, h2⟩ => ⟨ElAt.free s h1, ElsAt.free s h2⟩
  | [], _ :: _, h => h.elim
  | _ :: _, [], h => h.elim
theorem ElsAt.len {H0 H : Hp} : ∀ {xs : List V} {es : List El}, ElsAt H0 H xs es → xs.length = es.length
  | [], [], _ => rfl
  | _ :: _, _ :: _, ⟨_, h2⟩ => by rw [List.length_cons, List.length_cons, ElsAt.len h2]
  | [], _ :: _, h => h.elim
  | _ :: _, [], h => h.elim
/-- the items of one tuple -/
def PuT (ta : TA) (σ : L2.St) (es : List El) : Prop := ∀ H Q, (∀ us H', Same H H' → ElsAt H H' us es → Q us H') → ta σ H Q
section
variable {σ : L2.St} {te : TE} {ta tr : TA} {v : V} {zs : List Str} {es : List El}
theorem pt_nil : PuT tNil σ [] := fun H Q q => q [] H (Same.refl _) trivial
theorem pt_v (h : PuV te σ v) (hr : PuT tr σ es) : PuT (tCons te tr) σ (.v v :: es) := fun H Q q => s_cons (h H _ (hr H _ fun us H' s e => q _ H' s ⟨rfl, e⟩))
theorem pt_ls (h : PuS ta σ (zs.map V.str)) (hl : zs.length ≤ 1000) (hr : PuT tr σ es) : PuT (tCons (tLst ta) tr) σ (.ls zs :: es) := by
  intro H Q q
  refine s_cons (s_lst (h H _ ?_))
  refine ⟨sz_le (by rw [List.length_map]; omega), fun l nl => ?_⟩
  refine hr _ _ fun us H' s' he => ?_
  have s1 : Same H (upd H l (.lst (zs.map V.str))) := Same.new nl
  exact q _ H' (s1.trans s') ⟨⟨l, rfl, s' _ _ upd_same, nl⟩, he.free s1⟩
end
/-- a list of tuples -/
def RowsAt (H0 H : Hp) (us : List V) (rows : List (List El)) : Prop := us.length = rows.length ∧ ∀ (i : Nat) (x : V) (es : List El), us[i]? = some x → rows[i]? = some es → ∃ t vs, x = .ref t ∧ H t = some (.tup vs) ∧ H0 t = none ∧ ElsAt H0 H vs es
theorem RowsAt.fr {H0 H H' : Hp} {us : List V} {rows : List (List El)} {S : List Addr} (h : RowsAt H0 H us rows) (f : ∀ x o, H x = some o → x ∉ S → H' x = some o) (hS : ∀ x ∈ S, H0 x ≠ none) : RowsAt H0 H' us rows :=
  ⟨h.1, fun i x es hx hp => by
    obtain ⟨t, vs, e, h1, h2, h3⟩ := h.2 i x es hx hp
    exact ⟨t, vs, e, f _ _ h1 fun q => hS t q h2, h2, h3.fr f hS⟩⟩
theorem RowsAt.same {H0 H H' : Hp} {us : List V} {rows : List (List El)} (h : RowsAt H0 H us rows) (s : Same H H') : RowsAt H0 H' us rows := h.fr (S := []) (fun x o hx _ => s _ _ hx) (fun x hx => by cases hx)
def PuR (ta : TA) (σ : L2.St) (rows : List (List El)) : Prop := ∀ H Q, (∀ us H', Same H H' → RowsAt H H' us rows → Q us H') → ta σ H Q
section
variable {σ : L2.St} {ta tr : TA} {es : List El} {rows : List (List El)}
theorem pr_nil : PuR tNil σ [] := fun H Q q => q [] H (Same.refl _) ⟨rfl, fun i x p h => by simp at h⟩
theorem pr_cons (h : PuT ta σ es) (hl : es.length ≤ 1000) (hr : PuR tr σ rows) : PuR (tCons (tTup ta) tr) σ (es :: rows) := by
  intro H Q q
  refine s_cons (s_tup (h H _ fun vs H1 s1 he => ?_))
  refine ⟨sz_le (by rw [he.len]; omega), fun t nt => ?_⟩
  have s2 : Same H1 (upd H1 t (.tup vs)) := Same.new nt
  refine hr _ _ fun us H' s' hp => ?_
  refine q _ H' ((s1.trans s2).trans s') ⟨by rw [List.length_cons, List.length_cons, hp.1], fun i x es' hx hpp => ?_⟩
  cases i with
  | zero =>
    cases hx
    cases hpp
    exact ⟨t, vs, rfl, s' _ _ upd_same, s1.free nt, he.fr (S := []) (fun x o hx _ => s' _ _ (s2 _ _ hx)) (fun x hx => by cases hx)⟩
  | succ i =>
    obtain ⟨t', vs', e, h1, h2, h3⟩ := hp.2 i x es' hx hpp
    exact ⟨t', vs', e, h1, (s1.trans s2).free h2, h3.free (s1.trans s2)⟩
theorem pr_go {H : Hp} {Q : List V → Hp → Prop} (h : PuR ta σ rows) (q : ∀ us H', Same H H' → RowsAt H H' us rows → Q us H') : ta σ H Q := h H Q q
end
end Tr
namespace L2
open PySem PySem.Spec PyProof.Rows
section
variable {X : Cx} {e : Expr} {te : TE} {p pos apos cpos : Pos}
def tListVals (te : TE) : TE := fun σ H Q => te σ H fun x H1 => ∃ (d : Addr) (kvs : List (Key × V)), x = .ref d ∧ H1 d = some (.dK kvs) ∧ ∀ q, H1 q = none → Q (.ref q) (upd H1 q (.lst (kvs.map (·.2))))
theorem kv_vals {kvs : List (Key × V)} {vs : List (Key × Value)} (kv : KV kvs vs) : Vals (kvs.map (·.2)) (vs.map (·.2)) := by
  induction kv with
  | nil => exact .nil
  | cons r _ ih => exact .cons r.2 ih
theorem pe_listVals (hc : X.calm = true) (he : PE X e te) (hg : Gl X "list") (hm : X.mg "list" = none) (hv : bootBuiltins "list" = some (.type "list")) (hbase : attributeBase e "values" X.env (eval e X.env) = eval e X.env := by rfl) (hline : (apos.endLine == cpos.line) = true := by rfl)
    (hs : starEach [.Call (.Attribute e "values" apos) [] [] cpos] X.env = (false, eval (.Call (.Attribute e "values" apos) [] [] cpos) X.env) :: starEach [] X.env := by rfl) :
    PE X (.Call (.Name "list" p) [.Call (.Attribute e "values" apos) [] [] cpos] [] pos) (tListVals te) := by
  refine ⟨fun pins s σ H Q I hq => ?_⟩
  refine wpAny_Call_Name_kw (ld_blt I hg hm hv ?_)
  refine PyProof.Rows.callWith_type1 ?_ hs rfl
  rw [hs]
  show wpAny _ _ (spliced ((false, eval (.Call (.Attribute e "values" apos) [] [] cpos) X.env) :: backTo pos (starEach [] X.env))) _ _ s
  refine Calls.spliced_cons ?_
  refine wpAny_Call_method (T := "dict") (id := "dict.values") hbase rfl hline F.plainAttrs_dict F.slot_dict_values F.type_dict_values (thn (he.run pins s σ H _ I hq) fun u s1 ⟨x, H1, I1, rx, d, kvs, ex, hd, q⟩ => ?_)
  subst ex
  obtain rfl : u = Value.ref d := rx
  obtain ⟨hz, hs0, vs, kv, hdo⟩ := I1.hok d _ hd
  obtain ⟨ep, hat⟩ := hdo.dictAt
  have lk : kvs.length = vs.length := Paired.length kv
  have I2 : Inv X pins σ H1 { s1 with heap := s1.heap.push { cls := .type "dict_values", data := .fields #[.ref d] } } := I1.kept (t' := s1.toks) fun b ob q => Heap.get?_push_of_some _ q
  refine ⟨hdo.typeIs, hdo.mapOf.noDict, ?_⟩
  show wpAny _ _ (callWith cpos (.builtin "dict.values") [.ref d] [] []) _ X.xe s1
  refine method_meetsIn F.slot_dict_values F.entry_dict_values rfl (PySem.evalArgs_none ⟨rfl, hdo.typeIs, F.args_dict_values_1 _, _, meets_dict_values (mixKind X.prog X.w) d hs0, ⟨vs, hdo⟩, ?_⟩)
  refine Calls.spliced_nil ?_
  refine PySem.W.kdl_call (PySem.W.kdl_values (knd := mixKind X.prog X.w) (kvs := vs) (ep := ep)) (I1.ok.hd hc) ⟨⟨_, Heap.get?_push_size _ rfl, rfl, rfl⟩, hat.push _⟩ (by omega) fun h' tk acc c hk hS hacc => ?_
  have hvals : acc.toList = vs.map (·.2) := by
    apply List.ext_getElem?
    intro i
    rw [List.getElem?_map, Array.getElem?_toList]
    cases ei : acc[i]? with
    | none =>
      have : vs.length ≤ i := by rw [Array.getElem?_eq_none_iff, hacc.1] at ei; exact ei
      rw [List.getElem?_eq_none this]; rfl
    | some v =>
      obtain ⟨k, hk2⟩ := hacc.2 i v ei
      rw [hk2]; rfl
  have I3 := I2.laid (t' := tk) (o := .lst (kvs.map (·.2))) hk (Nat.le_refl _) ⟨by rw [List.length_map]; exact hz, vs.map (·.2), c, kv_vals kv, by rw [hS]; rw [← hvals]⟩
  exact ⟨.ref _, _, I3, rfl, q _ (I2.hok.fresh (Nat.le_refl _))⟩
end
end L2
set_option maxHeartbeats 4000000

namespace Tr
open PySem L2 LamX NdefX
abbrev s_Desk___setitem__ : Stmt := (inClass (top 15) 14)
abbrev N_Desk___setitem__ : List Str := ["self", "name", "worth", "cell"]
theorem sc_Desk___setitem__ : FnScope ["self", "name", "worth", "cell"] ["self", "name", "worth"] (defScope s_Desk___setitem__) := ⟨rfl, rfl, rfl, by decide +kernel, rfl, by decide +kernel, by decide +kernel⟩
abbrev s__law_work : Stmt := (top 21)
abbrev N__law_work : List Str := ["_law_runs", "_law_cells", "_law_answers", "_law_j", "_law_bound", "_law_cell_first", "_law_first"]
theorem sc__law_work : FnScope ["_law_runs", "_law_cells", "_law_answers", "_law_j", "_law_bound", "_law_cell_first", "_law_first"] ["_law_runs", "_law_cells", "_law_answers", "_law_j", "_law_bound", "_law_cell_first"] (defScope s__law_work) := ⟨rfl, rfl, rfl, by decide +kernel, rfl, by decide +kernel, by decide +kernel⟩
abbrev s__law_kept : Stmt := (top 22)
abbrev N__law_kept : List Str := ["_law_desk", "_law_runs", "_law_cells", "_law_answers", "_law_j", "_law_bound", "_law_cell_first"]
theorem sc__law_kept : FnScope ["_law_desk", "_law_runs", "_law_cells", "_law_answers", "_law_j", "_law_bound", "_law_cell_first"] ["_law_desk", "_law_runs", "_law_cells", "_law_answers", "_law_j", "_law_bound", "_law_cell_first"] (defScope s__law_kept) := ⟨rfl, rfl, rfl, by decide +kernel, rfl, by decide +kernel, by decide +kernel⟩
abbrev s__law_read : Stmt := (top 23)
abbrev N__law_read : List Str := ["_law_top", "_law_worths", "_law_bounds", "_law_last", "_law_due_runs", "_law_value", "_law_j", "_law_wanted"]
theorem sc__law_read : FnScope ["_law_top", "_law_worths", "_law_bounds", "_law_last", "_law_due_runs", "_law_value", "_law_j", "_law_wanted"] ["_law_top", "_law_worths", "_law_bounds", "_law_last", "_law_due_runs"] (defScope s__law_read) := ⟨rfl, rfl, rfl, by decide +kernel, rfl, by decide +kernel, by decide +kernel⟩
abbrev s__law_right : Stmt := (top 24)
abbrev N__law_right : List Str := ["_law_bag_here", "_law_worths", "_law_bounds", "_law_cells", "_law_j", "_law_turn", "_law_desk", "_law_many", "_law_runs", "_law_due_runs", "_law_last", "_law_answers", "_law_k", "_law_top", "_law_worth_here"]
theorem sc__law_right : FnScope ["_law_bag_here", "_law_worths", "_law_bounds", "_law_cells", "_law_j", "_law_turn", "_law_desk", "_law_many", "_law_runs", "_law_due_runs", "_law_last", "_law_answers", "_law_k", "_law_top", "_law_worth_here"] ["_law_bag_here"] (defScope s__law_right) := ⟨rfl, rfl, rfl, by decide +kernel, rfl, by decide +kernel, by decide +kernel⟩
abbrev s_law : Stmt := (top 25)
abbrev N_law : List Str := ["_law_script", "_law_at"]
theorem sc_law : FnScope ["_law_script", "_law_at"] ["_law_script"] (defScope s_law) := ⟨rfl, rfl, rfl, by decide +kernel, rfl, by decide +kernel, by decide +kernel⟩

/-- the lambda of the law -/
def lamE : Option Expr := match (defBody s__law_kept)[0]? with
  | some (Stmt.Return (some (.Call _ [_, e] _ _)) _) => some e
  | _ => none
def lamP : Arguments := match lamE with | some (.Lambda p _ _ _) => p | _ => ⟨[], [], none, [], [], none, []⟩
def lamB : Expr := match lamE with | some (.Lambda _ b _ _) => b | _ => .Constant .none 0 default
def lamSc : Scope := match lamE with | some (.Lambda _ _ s _) => s | _ => ⟨.function, [], false, false, []⟩
def qualL : Str := ("_law_kept" : Str) ++ (".<locals>." : Str) ++ ("<lambda>" : Str)
def TabL (a : Nat → Addr) : List (Addr × Str) := [(a 39, qualL)]
def freeL : List Str := ["_law_runs", "_law_cells", "_law_answers", "_law_j", "_law_bound", "_law_cell_first"]
theorem scLam : NScope freeL [] freeL lamSc := nscope_by (by decide +kernel)
/-- what the top has made of the law's own defs -/
structure Tm (P : Program) (K : PySem.W.Frag) (mg : Str → Option Value) (a : Nat → Addr) (fd : Nat → FuncData) (tk : Nat → Tok) : Prop where
  l : Tl P K mg a fd tk
  o_Desk___setitem__ : OwnM K (a 3) "__setitem__" (a 66)
  F_Desk___setitem__ : Fun K "__setitem__" "Desk.__setitem__" s_Desk___setitem__ (a 66) (fd 66)
  ns_Desk : PySem.W.noSeq K (a 3) = true
  b_max : mg "max" = none
  b_min : mg "min" = none
  b_str : mg "str" = none
  b_enumerate : mg "enumerate" = none
  g__law_work : mg "_law_work" = some (.ref (a 34))
  F__law_work : Fun K "_law_work" "_law_work" s__law_work (a 34) (fd 34)
  g__law_kept : mg "_law_kept" = some (.ref (a 35))
  F__law_kept : FunT K "_law_kept" "_law_kept" s__law_kept (a 35) (fd 35) (a 38)
  g__law_read : mg "_law_read" = some (.ref (a 36))
  F__law_read : Fun K "_law_read" "_law_read" s__law_read (a 36) (fd 36)
  g__law_right : mg "_law_right" = some (.ref (a 37))
  F__law_right : Fun K "_law_right" "_law_right" s__law_right (a 37) (fd 37)
section
variable {P : Program} {w : World} {K : PySem.W.Frag} {mg : Str → Option Value} {base : Heap} {a : Nat → Addr} {fd : Nat → FuncData} {tk : Nat → Tok}
local macro_rules | `(tactic| walk_at "ne") => `(tactic| first | assumption | (exact Ne.symm (by assumption)) | (refine ne_of_none (by assumption) (by assumption)) | (refine Ne.symm (ne_of_none (by assumption) (by assumption))))
local macro_rules | `(tactic| walk_at "hl") => `(tactic| first | assumption | with_reducible exact upd_same | ((with_reducible refine' Eq.trans (upd_ne ?hne) ?hrest); (case hne => walk_at "ne"); (case hrest => walk_at "hl")) | (refine' get_same ?hs ?hg; (case hs => assumption); (case hg => assumption)))
local macro_rules | `(tactic| walk_at "at") => `(tactic| first | with_reducible exact atI_0 _ _ | with_reducible exact atI_1 _ _ _ | with_reducible exact atI_2 _ _ _ _ | with_reducible exact atI_3 _ _ _ _ _ | assumption)
local macro_rules | `(tactic| walk_at "rd1") => `(tactic| first
  | with_reducible refine s_seq ?_ | with_reducible refine s_next ?_ | with_reducible refine s_if ?_ | with_reducible refine s_ret ?_ | with_reducible refine s_retN ?_ | with_reducible refine s_drop ?_ | with_reducible refine s_asg ?_ | with_reducible refine s_brk ?_ | with_reducible refine s_cont ?_
  | with_reducible refine s_gname ?_ | with_reducible refine s_c ?_ | with_reducible refine s_op ?_ | with_reducible refine s_un ?_ | with_reducible refine s_neg ?_ | with_reducible refine s_test ?_ | with_reducible refine s_tb ?_ | with_reducible refine s_not ?_ | with_reducible refine s_and ?_ | with_reducible refine s_or ?_ | with_reducible refine s_yes ?_
  | ((with_reducible refine' s_var ?hv ?_); (case hv => exact rfl))
  | with_reducible refine s_ifx ?_ | with_reducible refine s_andV ?_ | with_reducible refine s_orV ?_ | with_reducible refine s_notV ?_ | with_reducible refine s_chain ?_ | with_reducible refine s_nil ?_ | with_reducible refine s_cons ?_ | with_reducible refine s_lst ?_ | with_reducible refine s_tup ?_ | with_reducible refine s_cb ?_ | with_reducible refine s_call ?_ | with_reducible refine s_meth ?_ | with_reducible refine s_make ?_
  | with_reducible refine s_dnewK ?_ | with_reducible refine s_sl ?_ | with_reducible refine s_po0 ?_ | with_reducible refine s_po1 ?_ | with_reducible refine s_bm ?_ | with_reducible refine s_bm0 ?_
  | with_reducible refine s_bl ?_ | with_reducible refine s_int ?_ | with_reducible refine s_I0 ?_ | with_reducible refine s_addI ?_ | with_reducible refine s_intI ?_ | with_reducible refine s_intB ?_
  | with_reducible refine s_m1 ?_ | with_reducible refine s_lc ?_ | with_reducible refine s_ilist ?_ | with_reducible refine s_for ?_ | with_reducible refine s_irng ?_ | with_reducible refine s_match ?_ | with_reducible refine s_starT ?_ | with_reducible refine s_isS ?_ | with_reducible refine s_isiSS ?_ | with_reducible refine s_fldU ?_ | with_reducible refine s_sfldU ?_
  | ((with_reducible refine' s_eqS ?hq ?_); (case hq => exact rfl)) | ((with_reducible refine' s_neS ?hq ?_); (case hq => exact rfl))
  | ((with_reducible refine' s_isN ?hq ?_); (case hq => exact rfl)) | ((with_reducible refine' s_notN ?hq ?_); (case hq => exact rfl))
  | ((with_reducible refine' s_eqNil ?h1 ?h2 ?_); (case h1 => walk_at "hl"); (case h2 => walk_at "hl")) | ((with_reducible refine' s_neNil ?h1 ?h2 ?_); (case h1 => walk_at "hl"); (case h2 => walk_at "hl"))
  | ((with_reducible refine' s_ixL ?h1 ?h2 ?_); (case h1 => walk_at "hl"); (case h2 => walk_at "at")) | ((with_reducible refine' s_ixT ?h1 ?h2 ?_); (case h1 => walk_at "hl"); (case h2 => walk_at "at"))
  | ((with_reducible refine' s_inS ?h1 ?_); (case h1 => walk_at "hl")) | ((with_reducible refine' s_ninS ?h1 ?_); (case h1 => walk_at "hl")) | with_reducible refine s_inW ?_
  | ((with_reducible refine' s_lenL ?h1 ?_); (case h1 => walk_at "hl")) | ((with_reducible refine' s_lenT ?h1 ?_); (case h1 => walk_at "hl"))
  | ((with_reducible refine' s_tyL ?h1 ?_); (case h1 => walk_at "hl"))
  | ((with_reducible refine' s_fldM ?h1 ?h2 ?h3 ?_); (case h1 => walk_at "hl"); (case h2 => walk_at "fok"); (case h3 => walk_at "flk"))
  | ((with_reducible refine' s_setM ?h1 ?h2 ?h3 ?h4 ?_); (case h1 => walk_at "hl"); (case h2 => walk_at "fok"); (case h4 => walk_at "put"); (case h3 => exact Nat.le_of_ble_eq_true rfl))
  | ((with_reducible refine' s_starM ?h1 ?_); (case h1 => walk_at "hl"))
  | ((with_reducible refine' s_recv ?h1 ?h2 ?_); (case h1 => walk_at "hl"); (case h2 => exact rfl))
  | ((with_reducible refine' s_sz ?h1 ?_); (case h1 => (simp; done))))
local macro_rules | `(tactic| walk_at "rd") => `(tactic| repeat (walk_at "rd1"))
local macro_rules | `(tactic| walk_at "fok") => `(tactic| assumption)
local macro_rules | `(tactic| walk_at "flk") => `(tactic| rfl)
local macro_rules | `(tactic| walk_at "put") => `(tactic| exact rfl)

local macro_rules | `(tactic| walk_at "fok") => `(tactic| first | assumption | exact Tj.ce (by assumption) (by decide) | exact Tj.de (by assumption) (by decide) | exact Tj.ke (by assumption) (by decide) | exact Tj.fe (by assumption) (by decide))
theorem passZ0 {X : Cx} {σ : L2.St} {E : XK} : PassesAt CX0 X σ E := fun _ _ _ _ _ _ h => h.elim
theorem s_callO {C : Addr} {sp : Sp} {E : L2.St → XK} {te : TE} {t : TA} {σ : L2.St} {H : Hp} {Q : VK} (h : te σ H fun x H1 => ∃ (a dx : Addr) (fs : List (Str × V)), x = .ref a ∧ H1 a = some (.ins C dx fs) ∧ t σ H1 fun vs H2 => H2 a = some (.ins C dx fs) ∧ sp (.ref a :: vs) H2 Q (E σ)) : tCallO C sp E te t σ H Q := h
theorem s_prop {C : Addr} {sp : Sp} {dvs : List V} {E : XK} {ta : TE} {σ : L2.St} {H : Hp} {Q : VK} (h : ta σ H fun x H1 => ∃ a dx fs, x = .ref a ∧ H1 a = some (.ins C dx fs) ∧ sp (.ref a :: dvs) H1 Q E) : tProp C sp dvs E ta σ H Q := h
def spHeld (a : Nat → Addr) : Sp := fun vs H Q _ => ∃ d x nm f nt n kw hw, vs = [.ref x] ∧ KeptAt a H d x nm f nt n kw hw ∧ Q kw H
theorem ok_Kept_held (T : Tj P K mg a fd tk) : FnOk P w K mg base CX0 1 (a 44) (fd 44) ["self"] (spHeld a) := by
  refine T.F_Kept_held.ok sc_Kept_heldG (fun vs H Q E h => ?_) (fun cdv A outer s H vs Q E hr h => ?_)
  · obtain ⟨d, x, nm, f, nt, n, kw, hw, rfl, _⟩ := h
    rfl
  · obtain ⟨d, x, nm, f, nt, n, kw, hw, rfl, ⟨dx, hx⟩, k⟩ := h
    refine ⟨_, pss_one (ps_ret (pe_fldU K (pv 0))), ?_⟩
    walk_at "rd"
    exact k
theorem b_Kept_held (T : Tj P K mg a fd tk) : Binds K (fd 44) ["self"] [] := T.F_Kept_held.binds fun _ _ _ _ _ _ us hl => match us, hl with | [_], _ => rfl
def rValsE (x : V) (H1 : Hp) (Q : VK) : Prop := ∃ (d : Addr) (kvs : List (Key × V)), x = .ref d ∧ H1 d = some (.dK kvs) ∧ ∀ q, H1 q = none → Q (.ref q) (upd H1 q (.lst (kvs.map (·.2))))
theorem s_listValsE {te : TE} {σ : L2.St} {H : Hp} {Q : VK} (h : te σ H fun x H1 => rValsE x H1 Q) : tListVals te σ H Q := h
def spSetK (a : Nat → Addr) : Sp := fun vs H Q _ => ∃ d D S nm v' c, vs = [.ref d, .str nm, .int v'] ∧ DkAt a H d D S ∧ S.frs = [] ∧ S.cl.length ≤ 50 ∧ (∀ c ∈ S.cl, ∃ v, CellAt a H d c.2 c.1 v) ∧ (nm, c) ∈ S.cl ∧ (∀ c' , (nm, c') ∈ S.cl → c' = c) ∧
  ∀ H0, Same H H0 → spPut a [.ref c, .int v'] H0 (fun _ H' => Q .non H') E0
theorem ok_Desk___setitem__K (T : Tm P K mg a fd tk) : FnOk P w K mg base CX0 4 (a 66) (fd 66) ["self", "name", "worth"] (spSetK a) := by
  refine T.F_Desk___setitem__.ok sc_Desk___setitem__ (fun vs H Q E h => ?_) (fun cdv A outer s H vs Q E hr h => ?_)
  · obtain ⟨d, D, S, nm, v', c, rfl, _⟩ := h
    rfl
  · obtain ⟨d, D, S, nm, v', c, rfl, DK, hf, h50, CS, hc, hu, k⟩ := h
    refine ⟨_, (pss_cons (ps_expr (pe_meth0 (pv 0) T.l.d.cl_Desk T.l.d.m_Desk_check_placed (ok_Desk_check_placed T.l.d) (hr.mono (by omega)) (b_Desk_check_placed T.l.d) .nil pass0))
  (pss_cons (ps_for PassesOwn.never rfl (pi_list (pe_listVals rfl (pe_fldU K (pv 0)) (by rfl) T.l.d.b_list bt_list)) (pg_name (i := 3) sc_Desk___setitem__.nd rfl (by first | exact Or.inl rfl | exact Or.inr rfl))
   (pss_one (ps_if (pt_cmpR (uEq K hr.units) (pe_fldU K (pv 3)) (pv 1) (nomark _)) (pss_cons (ps_expr (pe_meth (pv 3) T.l.d.cl_Cell T.l.d.m_Cell_put (ok_Cell_put T.l.d) (hr.mono (by omega)) (b_Cell_put T.l.d) .nil pass0 (pa_cons (pv 2) pa_nil)))
  (pss_one ps_retN)) pss_nil)))
  (pss_one ps_nev))), ?_⟩
    have TJ := T.l.d
    have hob := DK.ob
    walk_at "rd"
    refine ⟨d, D, S, rfl, DK, by rw [hf]; simp, .inl hf, ?_⟩
    walk_at "rd"
    refine s_listValsE ?_
    walk_at "rd"
    refine ⟨D.cs, _, rfl, DK.cs, fun q nq => ?_⟩
    have s1 := Same.new (o := .lst (S.cl.map fun c => V.ref c.2)) nq
    have ev : ((cdK S.cl).map (·.2)) = S.cl.map fun c => V.ref c.2 := by simp [cdK]
    rw [ev]
    have hq : upd H q (.lst (S.cl.map fun c => V.ref c.2)) q = some (.lst (S.cl.map fun c => V.ref c.2)) := upd_same
    generalize upd H q (.lst (S.cl.map fun c => V.ref c.2)) = H1 at s1 hq ⊢
    refine s_forL hq (fun i σ H' => ∃ v2, σ = [some (.ref d), some (.str nm), some (.int v'), v2] ∧ Same H1 H' ∧ ∀ c ∈ S.cl.take i, c.1 ≠ nm) ⟨none, rfl, .refl _, by simp⟩ ?_ ?_ ?_
    · rintro i σ H' _ ⟨_, _, s', _⟩
      exact s' _ _ hq
    · rintro i y σ H2 hy ⟨v2, rfl, s2, hno⟩
      rw [List.getElem?_map] at hy
      cases ec : S.cl[i]? with
      | none => rw [ec] at hy; cases hy
      | some cc =>
      rw [ec] at hy
      cases hy
      have hcm := List.mem_of_getElem? ec
      obtain ⟨v, dc, hcc⟩ := CS cc hcm
      have hc2 := s2 _ _ (s1 _ _ hcc)
      walk_at "rd"
      refine ifB (fun he => ?_) fun he => ?_
      · have e1 : cc.1 = nm := by simpa using he
        have e2 : cc.2 = c := hu cc.2 (by rw [← e1]; exact hcm)
        obtain ⟨n0, c0⟩ := cc
        cases (show c0 = c from e2)
        obtain ⟨d1, D1, S1, c1, nm1, w1, w2, ev1, b1, b2, b3, b4, ⟨dcc, hb5⟩, b6, b7, b8⟩ := k H2 (s1.trans s2)
        cases ev1
        walk_at "rd"
        refine ⟨d1, D1, S1, _, nm1, w1, v', rfl, b1, b2, b3, b4, ⟨dcc, hb5⟩, b6, b7, fun z H3 h1 h2 h3 h4 h5 => ?_⟩
        walk_at "rd"
        exact b8 z H3 h1 h2 h3 h4 h5
      · walk_at "rd"
        exact ⟨_, rfl, s2, fun c' hc' => by
          rw [take_snocM ec] at hc'
          rcases List.mem_append.mp hc' with z | z
          · exact hno c' z
          · rw [List.mem_singleton.mp z]; simpa using he⟩
    · rintro σ H2 ⟨v2, rfl, s2, hno⟩
      rw [List.length_map, List.take_length] at hno
      exact absurd rfl (hno (nm, c) hc)
theorem b_Desk___setitem__K (T : Tm P K mg a fd tk) : Binds K (fd 66) ["self", "name", "worth"] [] := T.F_Desk___setitem__.binds fun _ _ _ _ _ _ us hl => match us, hl with | [_, _, _], _ => rfl
def mn (i j : Int) : Int := if j < i then j else i
def spWkG (a : Nat → Addr) (spc : Sp) : Sp := fun vs H Q _ => ∃ (d pr pc pa x c f nt : Addr) (j : Nat) (b : Int) (cf : Bool) (rn : List Int) (xs cl : List Addr) (nmj : Str), vs = [.ref pr, .ref pc, .ref pa, .int (j : Nat), .int b, .bl cf] ∧ H pr = some (.lst (rn.map V.int)) ∧ j < rn.length ∧ H pa = some (.lst (xs.map V.ref)) ∧ xs[j]? = some x ∧ KeptAt a H d x nmj f nt (rn.getD j 0) .non false ∧ pa ≠ pr ∧ pc ≠ pr ∧ x ≠ pr ∧
  H pc = some (.lst (cl.map V.ref)) ∧ cl[j]? = some c ∧ ∀ H1, H1 = upd H pr (.lst ((rn.set j (rn.getD j 0 + 1)).map V.int)) →
    (∃ d nm v, CellAt a H1 d c nm v) ∧
    (j = 0 → spCall a [.ref c] H1 (fun v H2 => ∃ u : Int, v = .int u ∧ Q (.int (mn b u)) H2) E0) ∧
    ∀ j', j = j' + 1 → ∃ x', xs[j']? = some x' ∧ (∃ d nm f nt n v0 hw, KeptAt a H1 d x' nm f nt n v0 hw) ∧
      (cf = true → spCall a [.ref c] H1 (fun v H2 => ∃ u : Int, v = .int u ∧ H2 pa = some (.lst (xs.map V.ref)) ∧ (∃ d nm f nt n v0 hw, KeptAt a H2 d x' nm f nt n v0 hw) ∧ spc [.ref x'] H2 (fun v2 H3 => ∃ u2 : Int, v2 = .int u2 ∧ Q (.int (mn b (u + u2))) H3) E0) E0) ∧
      (cf = false → spc [.ref x'] H1 (fun v H2 => ∃ u : Int, v = .int u ∧ H2 pc = some (.lst (cl.map V.ref)) ∧ (∃ d nm w, CellAt a H2 d c nm w) ∧ spCall a [.ref c] H2 (fun v2 H3 => ∃ u2 : Int, v2 = .int u2 ∧ Q (.int (mn b (u + u2))) H3) E0) E0)
theorem spCall_mono : Mono (spCall a) := by
  rintro vs H Q Q' hq ⟨d, D, S, c, nm, v, e, DK, hl, CA, h⟩
  refine ⟨d, D, S, c, nm, v, e, DK, hl, CA, ?_⟩
  rcases h with ⟨h1, h2⟩ | ⟨l, f, o, ia, nt, kv, h1, h2, h3, h4, h5⟩
  · exact .inl ⟨h1, hq _ _ h2⟩
  · exact .inr ⟨l, f, o, ia, nt, kv, h1, h2, h3, h4, fun H' a1 a2 => hq _ _ (h5 H' a1 a2)⟩
theorem spWkG_mono {spc : Sp} (m : Mono spc) : Mono (spWkG a spc) := by
  rintro vs H Q Q' hq ⟨d, pr, pc, pa, x, c, f, nt, j, b, cf, rn, xs, cl, nmj, e, h1, h2, h3, h4, h5, h6, h7, h8, h9, h10, h⟩
  refine ⟨d, pr, pc, pa, x, c, f, nt, j, b, cf, rn, xs, cl, nmj, e, h1, h2, h3, h4, h5, h6, h7, h8, h9, h10, fun H1 e1 => ?_⟩
  obtain ⟨g0, g1, g2⟩ := h H1 e1
  refine ⟨g0, fun e0 => spCall_mono _ _ _ _ ?_ (g1 e0), fun j' ej => ?_⟩
  · rintro v H2 ⟨u, e2, q⟩
    exact ⟨u, e2, hq _ _ q⟩
  · obtain ⟨x', k1, k2, k3, k4⟩ := g2 j' ej
    refine ⟨x', k1, k2, fun e => spCall_mono _ _ _ _ ?_ (k3 e), fun e => m _ _ _ _ ?_ (k4 e)⟩
    · rintro v H2 ⟨u, e2, l1, l2, l3⟩
      refine ⟨u, e2, l1, l2, m _ _ _ _ ?_ l3⟩
      rintro v2 H3 ⟨u2, e3, q⟩
      exact ⟨u2, e3, hq _ _ q⟩
    · rintro v H2 ⟨u, e2, l1, l2, l3⟩
      refine ⟨u, e2, l1, l2, spCall_mono _ _ _ _ ?_ l3⟩
      rintro v2 H3 ⟨u2, e3, q⟩
      exact ⟨u2, e3, hq _ _ q⟩
theorem getI {l : List Int} {j : Nat} (h : j < l.length) : (l.map V.int)[j]? = some (.int (l.getD j 0)) := by
  rw [List.getElem?_map, List.getElem?_eq_getElem h, List.getD_eq_getElem?_getD, List.getElem?_eq_getElem h]
  rfl
theorem ok__law_work {spc : Sp} {kc : Nat} (T : Tm P K mg a fd tk) (FC : FnOk P w K mg base CX0 (kc + 2) (a 42) (fd 42) ["self"] spc) (mc : Mono spc) : FnOk P w K mg base CX0 (kc + 3) (a 34) (fd 34) ["_law_runs", "_law_cells", "_law_answers", "_law_j", "_law_bound", "_law_cell_first"] (spWkG a spc) := by
  refine T.F__law_work.ok sc__law_work (fun vs H Q E h => ?_) (fun cdv A outer s H vs Q E hr h => ?_)
  · obtain ⟨d, pr, pc, pa, x, c, f, nt, j, b, cf, rn, xs, cl, nmj, rfl, _⟩ := h
    rfl
  · obtain ⟨d, pr, pc, pa, x, c, f, nt, j, b, cf, rn, xs, cl, nmj, rfl, hpr, hj, hpa, hxj, ⟨dx, hx⟩, npa, npc, nx, hpc, hcj, h⟩ := h
    have TJ := T.l.d
    refine ⟨_, (pss_cons (ps_asg (pe_ifExp (PW.pt (pw_and (pt_cmpR op_isN1 (pe_prop (pe_ix uIx (pv 2) (pv 3) (fun _ _ => rfl)) T.l.d.cl_Kept T.l.d.p_Kept_held (ok_Kept_held T.l.d) (hr.mono (by omega)) (b_Kept_held T.l.d) .nil pass0 (by rfl)) pe_non (nomark _)) (pw_and1 (pt_cmpR (uEq K hr.units) (pe_fldU K (pe_ix uIx (pv 2) (pv 3) (fun _ _ => rfl))) (pe_ix uIx (pv 0) (pv 3) (fun _ _ => rfl)) (nomark _))))) (pe_op uAdd (pe_ix uIx (pv 0) (pv 3) (fun _ _ => rfl)) pe_int) (pe_un un_neg pe_int)) (pg_sub (pv 0) (pv 3) set_listU))
  (pss_cons (ps_if (pt_cmpR (uEq K hr.units) (pv 3) pe_int (nomark _)) (pss_one (ps_ret (pe_callB (call_min2 rfl) (by rfl) T.b_min bt_min (pa_cons (pv 4) (pa_cons (pe_callO0 (E := fun _ => E0) callee_sub (pe_ix uIx (pv 1) pe_int (fun _ _ => rfl)) T.l.d.o_Cell___call__.at_ T.l.d.o_Cell___call__.fn T.l.d.o_Cell___call__.fi (ok_Cell___call__ T.l.d) (hr.mono (by omega)) (b_Cell___call__ T.l.d) (fun _ => passZ0)) pa_nil))))) pss_nil)
  (pss_cons (ps_if (pt_val (pv 5)) (pss_cons (ps_asg (pe_callO0 (E := fun _ => E0) callee_sub (pe_ix uIx (pv 1) (pv 3) (fun _ _ => rfl)) T.l.d.o_Cell___call__.at_ T.l.d.o_Cell___call__.fn T.l.d.o_Cell___call__.fi (ok_Cell___call__ T.l.d) (hr.mono (by omega)) (b_Cell___call__ T.l.d) (fun _ => passZ0)) (pg_name (i := 6) sc__law_work.nd rfl (by first | exact Or.inl rfl | exact Or.inr rfl)))
  (pss_one (ps_ret (pe_callB (call_min2 rfl) (by rfl) T.b_min bt_min (pa_cons (pv 4) (pa_cons (pe_op uAdd (pv 6) (pe_callO0 (E := fun _ => E0) callee_sub (pe_ix uIx (pv 2) (pe_op op_sub (pv 3) pe_int) (fun _ _ => rfl)) T.l.d.o_Kept___call__.at_ T.l.d.o_Kept___call__.fn T.l.d.o_Kept___call__.fi FC (hr.mono (by omega)) (b_callX T.l.d) (fun _ => passZ0))) pa_nil)))))) pss_nil)
  (pss_cons (ps_asg (pe_callO0 (E := fun _ => E0) callee_sub (pe_ix uIx (pv 2) (pe_op op_sub (pv 3) pe_int) (fun _ _ => rfl)) T.l.d.o_Kept___call__.at_ T.l.d.o_Kept___call__.fn T.l.d.o_Kept___call__.fi FC (hr.mono (by omega)) (b_callX T.l.d) (fun _ => passZ0)) (pg_name (i := 6) sc__law_work.nd rfl (by first | exact Or.inl rfl | exact Or.inr rfl)))
  (pss_one (ps_ret (pe_callB (call_min2 rfl) (by rfl) T.b_min bt_min (pa_cons (pv 4) (pa_cons (pe_op uAdd (pv 6) (pe_callO0 (E := fun _ => E0) callee_sub (pe_ix uIx (pv 1) (pv 3) (fun _ _ => rfl)) T.l.d.o_Cell___call__.at_ T.l.d.o_Cell___call__.fn T.l.d.o_Cell___call__.fi (ok_Cell___call__ T.l.d) (hr.mono (by omega)) (b_Cell___call__ T.l.d) (fun _ => passZ0))) pa_nil))))))))), ?_⟩
    walk_at "rd"
    refine s_prop ?_
    walk_at "rd"
    refine s_ixL hpa (atI_nat (v := .ref x) (by rw [List.getElem?_map, hxj]; rfl)) ?_
    refine ⟨x, dx, _, rfl, hx, d, x, _, _, _, _, _, _, rfl, ⟨dx, hx⟩, ?_⟩
    walk_at "rd"
    refine ifT rfl ?_
    walk_at "rd"
    refine s_ixL hpa (atI_nat (v := .ref x) (by rw [List.getElem?_map, hxj]; rfl)) ?_
    walk_at "rd"
    refine s_ixL hpr (atI_nat (getI hj)) ?_
    walk_at "rd"
    refine ifT (by simp) ?_
    walk_at "rd"
    refine s_ixL hpr (atI_nat (getI hj)) ?_
    walk_at "rd"
    refine s_gsub ?_
    walk_at "rd"
    refine s_setU hpr (ixN_nat (by rw [List.length_map]; exact hj)) ?_
    rw [← List.map_set]
    obtain ⟨H1, e1⟩ : ∃ H1, H1 = upd H pr (.lst ((rn.set j (rn.getD j 0 + 1)).map V.int)) := ⟨_, rfl⟩
    obtain ⟨⟨dc', nmc, vc, dxc, hc⟩, g0, g1⟩ := h H1 e1
    have hpa1 : H1 pa = some (.lst (xs.map V.ref)) := by rw [e1, upd_ne npa]; exact hpa
    have hpc1 : H1 pc = some (.lst (cl.map V.ref)) := by rw [e1, upd_ne npc]; exact hpc
    rw [← e1]
    walk_at "rd"
    have ec : (cl.map V.ref)[j]? = some (.ref c) := by rw [List.getElem?_map, hcj]; rfl
    refine ifB (fun h0 => ?_) fun h0 => ?_
    · have ej : j = 0 := by simpa using h0
      subst ej
      walk_at "rd"
      refine s_callO ?_
      walk_at "rd"
      refine s_ixL hpc1 (v := .ref c) (by simpa using atI_nat (j := 0) ec) ?_
      refine ⟨c, dxc, _, rfl, hc, ?_⟩
      walk_at "rd"
      refine ⟨hc, spCall_mono _ _ _ _ ?_ (g0 rfl)⟩
      rintro v H2 ⟨u, rfl, q⟩
      walk_at "rd"
      exact ⟨b, u, rfl, q⟩
    · have ej : j ≠ 0 := by simpa using h0
      obtain ⟨j', rfl⟩ : ∃ j', j = j' + 1 := ⟨j - 1, by omega⟩
      obtain ⟨x', k1, ⟨dx', nmx, fx, ntx, nx', v0x, hwx, dxx, hxx⟩, k3, k4⟩ := g1 j' rfl
      have ex' : atI (xs.map V.ref) ((((j' + 1 : Nat) : Int)) - 1) = some (.ref x') := by
        have : (((j' + 1 : Nat) : Int)) - 1 = (j' : Nat) := by omega
        rw [this]
        exact atI_nat (by rw [List.getElem?_map, k1]; rfl)
      walk_at "rd"
      cases cf with
      | true =>
        refine ifT rfl ?_
        walk_at "rd"
        refine s_callO ?_
        walk_at "rd"
        refine s_ixL hpc1 (atI_nat ec) ?_
        refine ⟨c, dxc, _, rfl, hc, ?_⟩
        walk_at "rd"
        refine ⟨hc, spCall_mono _ _ _ _ ?_ (k3 rfl)⟩
        rintro v H2 ⟨u, rfl, hpa2, ⟨d2, nm2, f2, nt2, n2, v2, hw2, dx2, hx2⟩, q⟩
        walk_at "rd"
        refine s_callO ?_
        walk_at "rd"
        refine ⟨x', dx2, _, rfl, hx2, ?_⟩
        walk_at "rd"
        refine ⟨hx2, mc _ _ _ _ ?_ q⟩
        rintro v2 H3 ⟨u2, rfl, q⟩
        walk_at "rd"
        exact ⟨b, u + u2, rfl, q⟩
      | false =>
        refine ifF rfl ?_
        walk_at "rd"
        refine s_callO ?_
        walk_at "rd"
        refine ⟨x', dxx, _, rfl, hxx, ?_⟩
        walk_at "rd"
        refine ⟨hxx, mc _ _ _ _ ?_ (k4 rfl)⟩
        rintro v H2 ⟨u, rfl, hpc2, ⟨d2, nm2, w2, dx2, hc2⟩, q⟩
        walk_at "rd"
        refine s_callO ?_
        walk_at "rd"
        refine s_ixL hpc2 (atI_nat ec) ?_
        refine ⟨c, dx2, _, rfl, hc2, ?_⟩
        walk_at "rd"
        refine ⟨hc2, spCall_mono _ _ _ _ ?_ q⟩
        rintro v2 H3 ⟨u2, rfl, q⟩
        walk_at "rd"
        exact ⟨b, u + u2, rfl, q⟩
theorem b__law_work (T : Tm P K mg a fd tk) : Binds K (fd 34) ["_law_runs", "_law_cells", "_law_answers", "_law_j", "_law_bound", "_law_cell_first"] [] := T.F__law_work.binds fun _ _ _ _ _ _ us hl => match us, hl with | [_, _, _, _, _, _], _ => rfl
theorem wok_work {spc : Sp} {kc : Nat} (T : Tm P K mg a fd tk) (FC : FnOk P w K mg base CX0 (kc + 2) (a 42) (fd 42) ["self"] spc) (mc : Mono spc) : WOk P w K mg base (kc + 4) (wspL (spWkG a spc) qualL lamP lamB lamSc freeL) := by
  refine wok_lam (N := freeL) (k := kc + 3) scLam (fun cl pm c ctv => rfl) (fun cl c f A outer s H E hr ho => ?_) (fun vs H Q Q' hq h => spWkG_mono mc vs H Q Q' hq h) (t := tCons (tVar 0) (tCons (tVar 1) (tCons (tVar 2) (tCons (tVar 3) (tCons (tVar 4) (tCons (tVar 5) tNil)))))) (fun ws H Q hl hq => ?_)
  · exact pe_callLent (x := "_law_work") (ok__law_work T FC mc) hr (fun _ => ho) (by rfl) T.g__law_work T.F__law_work.kp (b__law_work T) (pa_cons (pv 0) (pa_cons (pv 1) (pa_cons (pv 2) (pa_cons (pv 3) (pa_cons (pv 4) (pa_cons (pv 5) pa_nil))))))
  · match ws, hl with
    | [w1, w2, w3, w4, w5, w6], _ =>
      walk_at "rd"
      exact hq
end
end Tr
set_option maxHeartbeats 4000000

namespace Tr
open PySem L2 LamX NdefX
section
variable {P : Program} {w : World} {K : PySem.W.Frag} {mg : Str → Option Value} {base : Heap} {a : Nat → Addr} {fd : Nat → FuncData} {tk : Nat → Tok}
theorem CellAt.frs {H H' : Hp} {d c : Addr} {nm : Str} {v : Int} {L : List Addr} (h : CellAt a H d c nm v) (f : Fr H H' L) (hL : c ∉ L) : CellAt a H' d c nm v := by
  obtain ⟨dc, e⟩ := h
  exact ⟨dc, f _ _ e hL⟩
theorem KeptAt.frs {H H' : Hp} {d x : Addr} {nm : Str} {f nt : Addr} {n : Int} {kw : V} {hw : Bool} {L : List Addr} (h : KeptAt a H d x nm f nt n kw hw) (g : Fr H H' L) (hL : x ∉ L) : KeptAt a H' d x nm f nt n kw hw := by
  obtain ⟨dc, e⟩ := h
  exact ⟨dc, g _ _ e hL⟩
theorem FrameAt.frs {H H' : Hp} {f : Addr} {o : Str} {ia hu : Bool} {nt : Addr} {L : List Addr} (h : FrameAt a H f o ia hu nt) (g : Fr H H' L) (hL : f ∉ L) : FrameAt a H' f o ia hu nt := by
  obtain ⟨dc, e⟩ := h
  exact ⟨dc, g _ _ e hL⟩
theorem Fr.more {H H' : Hp} {S S' : List Addr} (f : Fr H H' S) (h : ∀ x ∈ S, x ∈ S' ∨ H x = none) : Fr H H' S' := fun x o e hx => f x o e fun z => (h x z).elim hx fun n => by rw [n] at e; cases e
theorem s_ienum {K : PySem.W.Frag} {ta : TA} {R : It → Hp → Prop} {σ : L2.St} {H : Hp} (h : ta σ H fun vs H1 => ∃ a xs, vs = [.ref a] ∧ SqL K H1 a xs ∧ R (Ite K a) H1) : iEnum K ta σ H R := h
theorem lcEJ {K : PySem.W.Frag} {p : Addr} {xs : List V} {σ : L2.St} {H : Hp} {Q : VK} {g : TG} {te : TE} {vs : List Nat} (J : Nat → Addr → List V → Hp → Prop) (h1 : xs.length ≤ 100000)
    (j0 : ∀ D, H D = none → J 0 D [] (upd H D (.lst []))) (hG : ∀ i D acc H', J i D acc H' → H' D = some (.lst acc) ∧ acc.length = i ∧ H' p = some (.lst xs))
    (hs : ∀ (i : Nat) (D : Addr) (acc : List V) (x : V) (T : Addr) (H2 : Hp) (R : VK), xs[i]? = some x → J i D acc H2 → H2 T = none → (∀ v H4, H4 D = some (.lst acc) → J (i + 1) D (acc ++ [v]) (upd H4 D (.lst (acc ++ [v]))) → R v H4) →
      g (.ref T) (wipe σ vs) (upd H2 T (.tup [.int (i : Nat), x])) fun σ2 H3 => wipe σ2 vs = wipe σ vs ∧ te σ2 H3 R)
    (hd : ∀ D acc H', H D = none → J xs.length D acc H' → Q (.ref D) H') : LcGo g tYes te vs σ Q (Ite K p) H := by
  intro D hD
  refine lc_it (walk_enum (xs := xs)) (fun i H' => ∃ acc, J i D acc H') ⟨[], j0 D hD⟩ (fun i H' _ ⟨acc, j⟩ => SqL.of (hG i D acc H' j).2.2) ?_ ?_
  · rintro i x H2 H' hi ⟨acc, j⟩ ⟨T, x', y, rfl, hT, rfl, e1, e2⟩
    obtain ⟨hD2, hl, _⟩ := hG _ _ _ _ j
    cases e1
    exact hs i D acc y T H2 (fun y H4 => ∃ acc, H4 D = some (.lst acc) ∧ acc.length < sizeLine ∧ ∃ acc', J (i + 1) D acc' (upd H4 D (.lst (acc ++ [y])))) e2 j hT fun v H4 h4 j4 => ⟨acc, h4, by rw [hl]; exact sz_lt (by omega), _, j4⟩
  · rintro H' ⟨acc, j⟩
    exact hd D acc H' hD j
def Dat (o : HO) : Prop := (∃ xs, o = .lst xs) ∨ (∃ C dx fs, o = .ins C dx fs) ∨ ∃ kv, o = .dK kv
def DatL (H : Hp) (L : List Addr) : Prop := ∀ y ∈ L, ∀ o, H y = some o → Dat o
theorem DatL.nil {H : Hp} : DatL H [] := fun y h => by cases h
theorem DatL.lst {H : Hp} {x : Addr} {xs : List V} {L : List Addr} (h : H x = some (.lst xs)) (d : DatL H L) : DatL H (x :: L) := fun y hy o ho => by
  rcases List.mem_cons.mp hy with rfl | hy
  · rw [h] at ho; cases ho; exact .inl ⟨_, rfl⟩
  · exact d y hy o ho
theorem DatL.ins {H : Hp} {x C dx : Addr} {fs : List (Str × V)} {L : List Addr} (h : H x = some (.ins C dx fs)) (d : DatL H L) : DatL H (x :: L) := fun y hy o ho => by
  rcases List.mem_cons.mp hy with rfl | hy
  · rw [h] at ho; cases ho; exact .inr (.inl ⟨_, _, _, rfl⟩)
  · exact d y hy o ho
theorem DatL.not {H : Hp} {L : List Addr} {x : Addr} {o : HO} (d : DatL H L) (h : H x = some o) (n : ¬ Dat o) : x ∉ L := fun z => n (d x z o h)
theorem nd_tup {xs : List V} : ¬ Dat (.tup xs) := by rintro (⟨_, z⟩ | ⟨_, _, _, z⟩ | ⟨_, z⟩) <;> cases z
theorem nd_frz {o : Obj} : ¬ Dat (frzO o) := by rintro (⟨_, z⟩ | ⟨_, _, _, z⟩ | ⟨_, z⟩) <;> cases z
theorem nd_tbl {ps : Array Value} : ¬ Dat (.tbl ps) := by rintro (⟨_, z⟩ | ⟨_, _, _, z⟩ | ⟨_, z⟩) <;> cases z
theorem nd_code {c : Addr} {q : Str} : ¬ Dat (CodeO c q) := by unfold CodeO; rintro (⟨_, z⟩ | ⟨_, _, _, z⟩ | ⟨_, z⟩) <;> cases z
theorem tabs_frs {H H' : Hp} {T : List (Addr × Str)} {L : List Addr} (t : Tabs T H) (f : Fr H H' L) (d : DatL H L) : Tabs T H' := fun p hp => by
  obtain ⟨ps, h1, h2, h3⟩ := t p hp
  refine ⟨ps, f _ _ h1 (d.not h1 nd_tbl), h2, fun pos cv hc => ?_⟩
  obtain ⟨c, e1, e2⟩ := h3 pos cv hc
  exact ⟨c, e1, f _ _ e2 (d.not e2 nd_code)⟩
theorem lamO_frs {H H' : Hp} {g : Addr} {q : Str} {p : Arguments} {b : Expr} {sc : Scope} {cl : List (Str × Addr)} {c : Addr} {L : List Addr} (h : LamO g H q p b sc cl c) (f : Fr H H' L) (d : DatL H L) : LamO g H' q p b sc cl c := by
  obtain ⟨pm, ctv, h1, h2⟩ := h
  exact ⟨pm, ctv, f _ _ h1 (d.not h1 nd_frz), f _ _ h2 (d.not h2 nd_code)⟩
theorem bag_frs {H H' : Hp} {b : Addr} {n : Nat} {L : List Addr} (h : BagD H b n) (f : Fr H H' L) (hb : b ∉ L) : BagD H' b n := by
  obtain ⟨dg, m, k, h1, h2⟩ := h
  exact ⟨dg, m, k, f _ _ h1 hb, h2⟩
theorem bag_lst {H : Hp} {b : Addr} {n : Nat} (h : BagD H b n) : ∃ xs, H b = some (.lst xs) := by
  obtain ⟨dg, m, k, h1, h2⟩ := h
  exact ⟨_, h1⟩
def FrN (H H' : Hp) (S : List Addr) : Prop := ∀ x o, H x = some o → (∀ ps, o ≠ .tbl ps) → x ∉ S → H' x = some o
theorem DkAt.extN {H H' : Hp} {d : Addr} {D : DA} {S : DSt} (h : DkAt a H d D S) (s : ExtN H H') : DkAt a H' d D S := by
  obtain ⟨ms, m1, m2⟩ := h.mv
  exact ⟨s _ _ h.ob (by intro o z; cases z), s _ _ h.un (by intro o z; cases z), s _ _ h.cs (by intro o z; cases z), s _ _ h.rd (by intro o z; cases z), s _ _ h.ef (by intro o z; cases z), s _ _ h.lg (by intro o z; cases z), s _ _ h.fr (by intro o z; cases z), ⟨ms, s _ _ m1 (by intro o z; cases z), m2⟩, h.nd⟩
theorem DkAt.occ {H : Hp} {d : Addr} {D : DA} {S : DSt} (k1 : DkAt a H d D S) {y : Addr} (hm : y ∈ dAll d D) : ∃ o, H y = some o := by
  obtain ⟨ms, m1, _⟩ := k1.mv
  simp only [dAll, List.mem_cons, List.not_mem_nil, or_false] at hm
  rcases hm with h | h | h | h | h | h | h | h
  · exact ⟨_, h ▸ k1.ob⟩
  · exact ⟨_, h ▸ k1.un⟩
  · exact ⟨_, h ▸ k1.cs⟩
  · exact ⟨_, h ▸ k1.rd⟩
  · exact ⟨_, h ▸ k1.ef⟩
  · exact ⟨_, h ▸ k1.lg⟩
  · exact ⟨_, h ▸ k1.fr⟩
  · exact ⟨_, h ▸ m1⟩
theorem s_par {i j : Nat} {ta : TA} {na : L2.St → Hp → Prop} {rt : VK} {bk ct : L2.St → Hp → Prop} {σ : L2.St} {H : Hp} (h : ta σ H fun vs H1 => ∃ v w, vs = [v, w] ∧ na ((σ.set i (some v)).set j (some w)) H1) : tPar i j ta ⟨na, rt, bk, ct⟩ σ H := h
/-- nothing is lost -/
def Gn (H H' : Hp) : Prop := ∀ y, H' y = none → H y = none
theorem Gn.tr {H H1 H2 : Hp} (f : Gn H H1) (g : Gn H1 H2) : Gn H H2 := fun y h => f y (g y h)
theorem gn_fr {H H' : Hp} {S : List Addr} (f : Fr H H' S) (h : ∀ y ∈ S, ∃ o, H' y = some o) : Gn H H' := fun y hy => by
  cases e : H y with
  | none => rfl
  | some o =>
    by_cases hS : y ∈ S
    · obtain ⟨o', h'⟩ := h y hS
      rw [h'] at hy; cases hy
    · rw [f _ _ e hS] at hy; cases hy
theorem gn_fr1 {H H' : Hp} {x : Addr} {o : HO} (f : Fr H H' [x]) (h : H' x = some o) : Gn H H' := gn_fr f fun y hy => ⟨o, by rw [List.mem_singleton.mp hy, h]⟩
theorem gn_same {H H' : Hp} (s : Same H H') : Gn H H' := fun y hy => s.free hy
theorem Fr.toN {H H' : Hp} {L : List Addr} (f : Fr H H' L) : FrN H H' L := fun x o h _ hS => f x o h hS
theorem FrN.tr {H H1 H2 : Hp} {L : List Addr} (f : FrN H H1 L) (g : FrN H1 H2 L) : FrN H H2 L := fun x o h n hS => g x o (f x o h n hS) n hS
theorem lcLJ {K : PySem.W.Frag} {p : Addr} {xs : List V} {σ : L2.St} {H : Hp} {Q : VK} {g : TG} {te : TE} {vs : List Nat} (J : Nat → Addr → List V → Hp → Prop) (hp : H p = some (.lst xs)) (h1 : xs.length ≤ 100000)
    (j0 : ∀ D, H D = none → J 0 D [] (upd H D (.lst []))) (hG : ∀ i D acc H', J i D acc H' → H' D = some (.lst acc) ∧ acc.length = i ∧ H' p = some (.lst xs))
    (hs : ∀ (i : Nat) (D : Addr) (acc : List V) (x : V) (H2 : Hp) (R : VK), xs[i]? = some x → J i D acc H2 → (∀ v H4, H4 D = some (.lst acc) → J (i + 1) D (acc ++ [v]) (upd H4 D (.lst (acc ++ [v]))) → R v H4) →
      g x (wipe σ vs) H2 fun σ2 H3 => wipe σ2 vs = wipe σ vs ∧ te σ2 H3 R)
    (hd : ∀ D acc H', H D = none → J xs.length D acc H' → Q (.ref D) H') : mList K (LcGo g tYes te vs σ Q) (.ref p) H := by
  refine ⟨p, rfl, ⟨xs, SqL.of hp⟩, fun D hD => ?_⟩
  refine lc_it (walk_list (xs := xs)) (fun i H' => ∃ acc, J i D acc H') ⟨[], j0 D hD⟩ (fun i H' _ ⟨acc, j⟩ => SqL.of (hG i D acc H' j).2.2) ?_ ?_
  · rintro i x H2 H' hi ⟨acc, j⟩ ⟨rfl, e2⟩
    obtain ⟨hD2, hl, _⟩ := hG _ _ _ _ j
    exact hs i D acc x H' (fun y H4 => ∃ acc, H4 D = some (.lst acc) ∧ acc.length < sizeLine ∧ ∃ acc', J (i + 1) D acc' (upd H4 D (.lst (acc ++ [y])))) e2 j fun v H4 h4 j4 => ⟨acc, h4, by rw [hl]; exact sz_lt (by omega), _, j4⟩
  · rintro H' ⟨acc, j⟩
    exact hd D acc H' hD j
theorem s_lcEF {α : Type} {K : PySem.W.Frag} (ys : List α) (h : α → Option V) {p : Addr} {xs : List V} {σ : L2.St} {H : Hp} {Q : VK} {g : TG} {tt : TT} {te : TE} {vs : List Nat} (hp : H p = some (.lst xs)) (hx : xs.length = ys.length) (hz : ys.length ≤ 100000)
    (hs : ∀ (i : Nat) (a : α) (x : V) (T : Addr) (H2 : Hp) (R : VK) (R0 : Hp → Prop), ys[i]? = some a → xs[i]? = some x → Same H H2 → H2 T = none → (∀ v, h a = some v → ∀ H4, Same H2 H4 → R v H4) → (h a = none → ∀ H3, Same H2 H3 → R0 H3) →
      g (.ref T) (wipe σ vs) (upd H2 T (.tup [.int (i : Nat), x])) fun σ2 H3 => wipe σ2 vs = wipe σ vs ∧ tt σ2 H3 fun b H4 => if b = true then te σ2 H4 R else R0 H4)
    (hd : ∀ D H', Same H H' → H D = none → H' D = some (.lst (ys.filterMap h)) → Q (.ref D) H') : LcGo g tt te vs σ Q (Ite K p) H := by
  intro D hD
  refine lc_fm ys h (walk_enum (xs := xs)) hx (sz_le hz) hD (fun H' s' => SqL.of (s' _ _ hp)) ?_ (fun H' s' hD' => hd D H' s' hD hD')
  rintro i b x H2 H' R R0 hb s2 ⟨T, x', y, rfl, hT, rfl, e1, e2⟩ k1 k2
  cases e1
  exact hs i b y T H2 R R0 hb e2 s2 hT k1 k2
end
end Tr
set_option maxHeartbeats 4000000

namespace Tr
open PySem L2 LamX NdefX
section
variable {P : Program} {w : World} {K : PySem.W.Frag} {mg : Str → Option Value} {base : Heap} {a : Nat → Addr} {fd : Nat → FuncData} {tk : Nat → Tok}
def nmC : Nat → Str
  | 0 => "c0" | 1 => "c1" | 2 => "c2" | 3 => "c3" | 4 => "c4" | 5 => "c5" | 6 => "c6" | _ => "c7"
def nmA : Nat → Str
  | 0 => "k0" | 1 => "k1" | 2 => "k2" | 3 => "k3" | 4 => "k4" | 5 => "k5" | 6 => "k6" | _ => "k7"
theorem nmC_inj {i j : Nat} (hi : i < 8) (hj : j < 8) (h : nmC i = nmC j) : i = j := by
  have : ∀ i ∈ List.range 8, ∀ j ∈ List.range 8, nmC i = nmC j → i = j := by decide +kernel
  exact this i (List.mem_range.mpr hi) j (List.mem_range.mpr hj) h
theorem nmA_inj {i j : Nat} (hi : i < 8) (hj : j < 8) (h : nmA i = nmA j) : i = j := by
  have : ∀ i ∈ List.range 8, ∀ j ∈ List.range 8, nmA i = nmA j → i = j := by decide +kernel
  exact this i (List.mem_range.mpr hi) j (List.mem_range.mpr hj) h
theorem nmCA {i j : Nat} : nmC i ≠ nmA j := by
  have h1 : ∀ i, ∃ i' ∈ List.range 8, nmC i = nmC i' := fun i => by
    match i with
    | 0 => exact ⟨0, by simp, rfl⟩
    | 1 => exact ⟨1, by simp, rfl⟩
    | 2 => exact ⟨2, by simp, rfl⟩
    | 3 => exact ⟨3, by simp, rfl⟩
    | 4 => exact ⟨4, by simp, rfl⟩
    | 5 => exact ⟨5, by simp, rfl⟩
    | 6 => exact ⟨6, by simp, rfl⟩
    | n + 7 => exact ⟨7, by simp, rfl⟩
  have h2 : ∀ i, ∃ i' ∈ List.range 8, nmA i = nmA i' := fun i => by
    match i with
    | 0 => exact ⟨0, by simp, rfl⟩
    | 1 => exact ⟨1, by simp, rfl⟩
    | 2 => exact ⟨2, by simp, rfl⟩
    | 3 => exact ⟨3, by simp, rfl⟩
    | 4 => exact ⟨4, by simp, rfl⟩
    | 5 => exact ⟨5, by simp, rfl⟩
    | 6 => exact ⟨6, by simp, rfl⟩
    | n + 7 => exact ⟨7, by simp, rfl⟩
  obtain ⟨i', hi, e1⟩ := h1 i
  obtain ⟨j', hj, e2⟩ := h2 j
  have : ∀ i ∈ List.range 8, ∀ j ∈ List.range 8, nmC i ≠ nmA j := by decide +kernel
  rw [e1, e2]
  exact this i' hi j' hj
structure Kf where
  x : Addr
  f : Addr
  c : Addr
  clm : List (Str × Addr)
  os : Addr → Option PySem.Obj
  bd : Int
  cf : Bool
  nt : Addr
  la : Option (Int × Int)
  n : Nat
structure KA where
  d : Addr
  pr : Addr
  pc : Addr
  pa : Addr
  cl : List Addr
  xs : List Addr
def nsA (j : Nat) (cf : Bool) (w v : Int) : List (Str × Int) := match j with
  | 0 => [(nmC 0, w)]
  | j' + 1 => if cf = true then [(nmC (j' + 1), w), (nmA j', v)] else [(nmA j', v), (nmC (j' + 1), w)]
def kvA (e : Kf) : V := match e.la with
  | none => .non
  | some p => .int (mn e.bd (p.1 + p.2))
def ntA (j : Nat) (e : Kf) : List (Str × Int) := match e.la with
  | none => []
  | some p => nsA j e.cf p.1 p.2
structure KfAt (a : Nat → Addr) (H : Hp) (A : KA) (j : Nat) (e : Kf) : Prop where
  ke : KeptAt a H A.d e.x (nmA j) e.f e.nt (e.n : Nat) (kvA e) e.la.isSome
  hn : H e.nt = some (.dK (notesK (ntA j e)))
  lam : LamO e.f H qualL lamP lamB lamSc e.clm e.c
  cf : CellsF e.clm freeL [.ref A.pr, .ref A.pc, .ref A.pa, .int (j : Nat), .int e.bd, .bl e.cf] e.os H
  v0 : j = 0 → ∀ p, e.la = some p → p.2 = 0
/-- the value of the answer ahead of j -/
def pvN (ws : List Int) (es : List Kf) : Nat → Int
  | 0 => 0
  | j + 1 => mn ((es[j]?.map (·.bd)).getD 0) (ws.getD j 0 + pvN ws es j)
structure KL (a : Nat → Addr) (H : Hp) (A : KA) (D : DA) (S : DSt) (ws : List Int) (es : List Kf) (rn : List Int) (os : List Str) : Prop where
  dk : DkAt a H A.d D S
  hrc : ∀ k c, A.cl[k]? = some c → valV (cdK S.rl) (.inr (nmC k)) = some (.ref c)
  hrx : ∀ j x, A.xs[j]? = some x → valV (cdK S.rl) (.inr (nmA j)) = some (.ref x)
  hpc : H A.pc = some (.lst (A.cl.map V.ref))
  hpa : H A.pa = some (.lst (A.xs.map V.ref))
  hpr : H A.pr = some (.lst (rn.map V.int))
  ce : ∀ k c, A.cl[k]? = some c → CellAt a H A.d c (nmC k) (ws.getD k 0)
  ef : ∀ j e, es[j]? = some e → A.xs[j]? = some e.x ∧ KfAt a H A j e ∧ rn.getD j 0 = ((e.n : Nat) : Int)
  l8 : A.cl.length ≤ 8
  lx : A.xs.length ≤ A.cl.length
  le : es.length ≤ A.xs.length
  lr : rn.length = A.cl.length
  fa : FramesAt a H S.frs os
  lf : S.frs.length + es.length ≤ 100
  ho : ∀ j, j < es.length → nmA j ∉ os
  np : A.pc ≠ A.pr ∧ A.pa ≠ A.pr ∧ A.pr ∉ dAll A.d D
  nx : A.xs.Nodup
section
variable {H H' : Hp} {A : KA} {D D' : DA} {S S' : DSt} {ws : List Int} {es : List Kf} {rn rn' : List Int} {os os' : List Str}
/-- what may be written below an answer -/
def Lw (a : Nat → Addr) (H : Hp) (A : KA) (y : Addr) : Prop := y = A.pr ∨ (∃ dd D ba, H y = some (.ins (a 3) dd (deskB D ba))) ∨ ∃ nm f nt n v0 hw, KeptAt a H A.d y nm f nt n v0 hw
theorem Lw.dat (W : KL a H A D S ws es rn os) {L : List Addr} (h : ∀ y ∈ L, Lw a H A y) : DatL H L := fun y hy o ho => by
  rcases h y hy with e | ⟨dd, D, ba, e⟩ | ⟨nm, f, nt, n, v0, hw, dx, e⟩
  · rw [e, W.hpr] at ho; cases ho; exact .inl ⟨_, rfl⟩
  · rw [e] at ho; cases ho; exact .inr (.inl ⟨_, _, _, rfl⟩)
  · rw [e] at ho; cases ho; exact .inr (.inl ⟨_, _, _, rfl⟩)
theorem Lw.ncell (W : KL a H A D S ws es rn os) {y d c : Addr} {nm : Str} {v : Int} (h : Lw a H A y) (hc : CellAt a H d c nm v) : c ≠ y := by
  obtain ⟨dc, hc⟩ := hc
  rintro rfl
  rcases h with e | ⟨dd, D, ba, e⟩ | ⟨nm, f, nt, n, v0, hw, dx, e⟩
  · rw [e, W.hpr] at hc; cases hc
  · rw [hc] at e; have := HO.ins.inj (Option.some.inj e); simp [deskB, cellF] at this
  · rw [hc] at e; have := HO.ins.inj (Option.some.inj e); simp [keptF, cellF] at this
theorem Lw.nfrm (W : KL a H A D S ws es rn os) {y f : Addr} {o : Str} {ia hu : Bool} {nt : Addr} (h : Lw a H A y) (hf : FrameAt a H f o ia hu nt) : f ≠ y := by
  obtain ⟨dc, hc⟩ := hf
  rintro rfl
  rcases h with e | ⟨dd, D, ba, e⟩ | ⟨nm, f, nt, n, v0, hw, dx, e⟩
  · rw [e, W.hpr] at hc; cases hc
  · rw [hc] at e; have := HO.ins.inj (Option.some.inj e); simp [deskB, frameF] at this
  · rw [hc] at e; have := HO.ins.inj (Option.some.inj e); simp [keptF, frameF] at this
theorem Lw.ndk {y nt : Addr} {kv : List (Key × V)} (W : KL a H A D S ws es rn os) (h : Lw a H A y) (hn : H nt = some (.dK kv)) : nt ≠ y := by
  rintro rfl
  rcases h with e | ⟨dd, D, ba, e⟩ | ⟨nm, f, nt, n, v0, hw, dx, e⟩
  · rw [e, W.hpr] at hn; cases hn
  · rw [hn] at e; cases e
  · rw [hn] at e; cases e
theorem Lw.nlst {y p : Addr} {xs : List V} (h : Lw a H A y) (hp : H p = some (.lst xs)) (n : p ≠ A.pr) : p ≠ y := by
  rintro rfl
  rcases h with e | ⟨dd, D, ba, e⟩ | ⟨nm, f, nt, n, v0, hw, dx, e⟩
  · exact n e
  · rw [hp] at e; cases e
  · rw [hp] at e; cases e
theorem FramesAt.frL {H H' : Hp} {L : List Addr} (f : Fr H H' L) : ∀ {fs : List Addr} {os : List Str}, (∀ x ∈ fs, x ∉ L) → FramesAt a H fs os → FramesAt a H' fs os
  | [], [], _, _ => trivial
  | x :: _, _ :: _, hL, ⟨⟨ia, hu, nt, dx, h⟩, h2⟩ => ⟨⟨ia, hu, nt, dx, f _ _ h (hL x (by simp))⟩, FramesAt.frL f (fun y hy => hL y (by simp [hy])) h2⟩
  | [], _ :: _, _, h => h.elim
  | _ :: _, [], _, h => h.elim
theorem FramesAt.mem {H : Hp} : ∀ {fs : List Addr} {os : List Str}, FramesAt a H fs os → ∀ x ∈ fs, ∃ o ia hu nt, FrameAt a H x o ia hu nt
  | [], [], _, _, h => by cases h
  | y :: _, o :: _, ⟨⟨ia, hu, nt, h⟩, h2⟩, x, hx => by
    rcases List.mem_cons.mp hx with rfl | hx
    · exact ⟨o, ia, hu, nt, h⟩
    · exact FramesAt.mem h2 x hx
  | [], _ :: _, h, _, _ => h.elim
  | _ :: _, [], h, _, _ => h.elim
theorem KfAt.frs {j : Nat} {e : Kf} {L : List Addr} (h : KfAt a H A j e) (f : Fr H H' L) (dl : DatL H L) (hx : e.x ∉ L) (hn : e.nt ∉ L) : KfAt a H' A j e := by
  obtain ⟨dx, h1⟩ := h.ke
  exact ⟨⟨dx, f _ _ h1 hx⟩, f _ _ h.hn hn, lamO_frs h.lam f dl, h.cf.keep fun c o _ q => f _ _ q (dl.not q nd_frz), h.v0⟩
/-- below: the desk and the runs may be others now; these answers stay -/
theorem KL.frs {L : List Addr} {es' : List Kf} (W : KL a H A D S ws es rn os) (f : Fr H H' L) (hL : ∀ y ∈ L, Lw a H A y) (dk : DkAt a H' A.d D' S') (eS : S'.rl = S.rl) (hpr : H' A.pr = some (.lst (rn'.map V.int))) (lr : rn'.length = rn.length) (fa : FramesAt a H' S'.frs os') (lf : S'.frs.length + es'.length ≤ 100) (ho : ∀ j, j < es'.length → nmA j ∉ os') (np : A.pr ∉ dAll A.d D') (le : es'.length ≤ A.xs.length)
    (he : ∀ j e, es'[j]? = some e → (es[j]? = some e ∧ e.x ∉ L ∧ rn'.getD j 0 = rn.getD j 0) ∨ (A.xs[j]? = some e.x ∧ KfAt a H' A j e ∧ rn'.getD j 0 = ((e.n : Nat) : Int))) : KL a H' A D' S' ws es' rn' os' := by
  have dl := Lw.dat W hL
  refine ⟨dk, fun k c h => by rw [eS]; exact W.hrc k c h, fun j x h => by rw [eS]; exact W.hrx j x h, f _ _ W.hpc fun z => (hL _ z).nlst W.hpc W.np.1 rfl, f _ _ W.hpa fun z => (hL _ z).nlst W.hpa W.np.2.1 rfl, hpr, fun k c h => ?_, fun j e h => ?_, W.l8, W.lx, le, lr.trans W.lr, fa, lf, ho, ⟨W.np.1, W.np.2.1, np⟩, W.nx⟩
  · have hc := W.ce k c h
    obtain ⟨dc, h1⟩ := W.ce k c h
    exact ⟨dc, f _ _ h1 fun z => Lw.ncell W (hL c z) hc rfl⟩
  · rcases he j e h with ⟨h1, h2, h3⟩ | h1
    · obtain ⟨g1, g2, g3⟩ := W.ef j e h1
      exact ⟨g1, g2.frs f dl h2 fun z => Lw.ndk W (hL _ z) g2.hn rfl, h3.trans g3⟩
    · exact h1
theorem KL.same (W : KL a H A D S ws es rn os) (s : Same H H') : KL a H' A D S ws es rn os :=
  W.frs (L := []) (Fr.same s) (fun _ h => by cases h) (W.dk.same s) rfl (s _ _ W.hpr) rfl (W.fa.same s) W.lf W.ho W.np.2.2 W.le fun j e h => .inl ⟨h, (fun z => by cases z), rfl⟩
/-- some answers less -/
theorem KL.take (W : KL a H A D S ws es rn os) (j : Nat) : KL a H A D S ws (es.take j) rn os := by
  have hl : (es.take j).length ≤ es.length := by rw [List.length_take]; omega
  exact ⟨W.dk, W.hrc, W.hrx, W.hpc, W.hpa, W.hpr, W.ce, fun i e h => W.ef i e (by
    rw [List.getElem?_take] at h
    split at h
    · exact h
    · cases h), W.l8, W.lx, Nat.le_trans hl W.le, W.lr, W.fa, by have := W.lf; omega, fun i hi => W.ho i (by omega), W.np, W.nx⟩
theorem pv_take {j i : Nat} (h : i ≤ j) : pvN ws (es.take j) i = pvN ws es i := by
  induction i with
  | zero => rfl
  | succ i ih =>
    unfold pvN
    rw [ih (by omega), List.getElem?_take, if_pos (by omega)]
/-- those up to j are as they would be now -/
structure Upd (ws : List Int) (es es' : List Kf) (j : Nat) : Prop where
  len : es'.length = es.length
  at_ : ∀ i e, es[i]? = some e → ∃ e', es'[i]? = some e' ∧ (e'.x = e.x ∧ e'.bd = e.bd) ∧ (i < j → e'.la = some (ws.getD i 0, pvN ws es i) ∧ e'.n = e.n + (if e.la = some (ws.getD i 0, pvN ws es i) then 0 else 1)) ∧ (j ≤ i → e' = e)
theorem Upd.refl0 : Upd ws es es 0 := ⟨rfl, fun i e h => ⟨e, h, ⟨rfl, rfl⟩, fun h => by omega, fun _ => rfl⟩⟩
theorem Upd.pv {es' : List Kf} {j : Nat} (u : Upd ws es es' j) : ∀ i, i ≤ es.length → pvN ws es' i = pvN ws es i
  | 0, _ => rfl
  | i + 1, h => by
    unfold pvN
    rw [u.pv i (by omega)]
    obtain ⟨e, he⟩ : ∃ e, es[i]? = some e := ⟨_, List.getElem?_eq_getElem (by omega)⟩
    obtain ⟨e', h1, ⟨_, h2⟩, _⟩ := u.at_ i e he
    rw [he, h1]
    simp [h2]
theorem Upd.tr {es1 es2 : List Kf} {j k : Nat} (u : Upd ws es es1 k) (hkj : k ≤ j) (v : Upd ws es1 es2 j) : Upd ws es es2 j := by
  refine ⟨v.len.trans u.len, fun i e h => ?_⟩
  obtain ⟨e1, h1, ⟨x1, b1⟩, f1, g1⟩ := u.at_ i e h
  obtain ⟨e2, h2, ⟨x2, b2⟩, f2, g2⟩ := v.at_ i e1 h1
  refine ⟨e2, h2, ⟨x2.trans x1, b2.trans b1⟩, fun hi => ?_, fun hi => (g2 hi).trans (g1 (by omega))⟩
  have hil : i ≤ es.length := by have := (List.getElem?_eq_some_iff.mp h).1; omega
  rw [u.pv i hil] at f2
  obtain ⟨c1, c2⟩ := f2 hi
  by_cases hk : i < k
  · obtain ⟨a1, a2⟩ := f1 hk
    exact ⟨c1, by rw [c2, if_pos a1, a2, Nat.add_zero]⟩
  · rw [g1 (by omega)] at c2
    exact ⟨c1, c2⟩
theorem Upd.ext {es1 : List Kf} {j : Nat} {e : Kf} (u : Upd ws es es1 j) (h : es[j]? = some e) (hl : e.la = some (ws.getD j 0, pvN ws es j)) : Upd ws es es1 (j + 1) := by
  refine ⟨u.len, fun i e' h' => ?_⟩
  obtain ⟨e1, h1, x1, f1, g1⟩ := u.at_ i e' h'
  refine ⟨e1, h1, x1, fun hi => ?_, fun hi => g1 (by omega)⟩
  by_cases hij : i < j
  · exact f1 hij
  · have eij : i = j := by omega
    subst eij
    rw [h] at h'
    cases h'
    rw [g1 (Nat.le_refl _), if_pos hl]
    exact ⟨hl, rfl⟩
def frL (A : KA) (j : Nat) : List Addr := A.d :: A.pr :: A.xs.take j
def spWN (a : Nat → Addr) (m : Nat) : Sp := fun vs H Q _ => ∃ A D S ws es rn os j e, vs = [.ref e.x] ∧ es[j]? = some e ∧ j < m ∧ KL a H A D S ws es rn os ∧
  ∀ H' es' rn', KL a H' A D S ws es' rn' os → Upd ws es es' (j + 1) → (∀ i, j < i → rn'.getD i 0 = rn.getD i 0) → Fr H H' (frL A (j + 1)) → Gn H H' → Q (.int (pvN ws es (j + 1))) H'
theorem spWN_mono {m : Nat} : Mono (spWN a m) := by
  rintro vs H Q Q' hq ⟨A, D, S, ws, es, rn, os, j, e, h1, h2, h3, W, k⟩
  exact ⟨A, D, S, ws, es, rn, os, j, e, h1, h2, h3, W, fun H' es' rn' a1 a2 a3 a4 a5 => hq _ _ (k H' es' rn' a1 a2 a3 a4 a5)⟩
end
end
end Tr
set_option maxHeartbeats 4000000

namespace Tr
open PySem L2 LamX NdefX
section
variable {P : Program} {w : World} {K : PySem.W.Frag} {mg : Str → Option Value} {base : Heap} {a : Nat → Addr} {fd : Nat → FuncData} {tk : Nat → Tok}
variable {H H' : Hp} {A : KA} {D D' : DA} {S S' : DSt} {ws : List Int} {es : List Kf} {rn rn' : List Int} {os os' : List Str}
theorem nd_inj : ∀ {l : List Addr} {i j : Nat} {x : Addr}, l.Nodup → l[i]? = some x → l[j]? = some x → i = j
  | [], _, _, _, _, h, _ => by simp at h
  | y :: l, 0, 0, _, _, _, _ => rfl
  | y :: l, 0, j + 1, x, nd, h1, h2 => by
    have e : y = x := by simpa using h1
    have m : x ∈ l := List.mem_of_getElem? (by simpa using h2)
    exact absurd (e ▸ m) (List.nodup_cons.mp nd).1
  | y :: l, i + 1, 0, x, nd, h1, h2 => by
    have e : y = x := by simpa using h2
    have m : x ∈ l := List.mem_of_getElem? (by simpa using h1)
    exact absurd (e ▸ m) (List.nodup_cons.mp nd).1
  | y :: l, i + 1, j + 1, x, nd, h1, h2 => congrArg (· + 1) (nd_inj (List.nodup_cons.mp nd).2 (by simpa using h1) (by simpa using h2))
theorem getD_set_neI {l : List Int} {k j : Nat} {v : Int} (h : j ≠ k) : (l.set k v).getD j 0 = l.getD j 0 := by simp [List.getD, List.getElem?_set_ne (Ne.symm h)]
theorem getD_set_eqI {l : List Int} {k : Nat} {v : Int} (h : k < l.length) : (l.set k v).getD k 0 = v := by simp [List.getD, List.getElem?_set_self h]
theorem FramesAt.snoc {H : Hp} {f : Addr} {o : Str} {ia hu : Bool} {nt : Addr} (hf : FrameAt a H f o ia hu nt) : ∀ {fs : List Addr} {os : List Str}, FramesAt a H fs os → FramesAt a H (fs ++ [f]) (os ++ [o])
  | [], [], _ => ⟨⟨ia, hu, nt, hf⟩, trivial⟩
  | _ :: _, _ :: _, ⟨h, h2⟩ => ⟨h, FramesAt.snoc hf h2⟩
  | [], _ :: _, h => h.elim
  | _ :: _, [], h => h.elim
theorem mem_frL {y : Addr} {j : Nat} : y ∈ frL A j ↔ y = A.d ∨ y = A.pr ∨ ∃ i, i < j ∧ A.xs[i]? = some y := by
  unfold frL
  simp only [List.mem_cons]
  refine ⟨fun h => ?_, fun h => ?_⟩
  · rcases h with h | h | h
    · exact .inl h
    · exact .inr (.inl h)
    · obtain ⟨i, hi⟩ := List.mem_iff_getElem?.mp h
      rw [List.getElem?_take] at hi
      split at hi
      · exact .inr (.inr ⟨i, by assumption, hi⟩)
      · cases hi
  · rcases h with h | h | ⟨i, hi, h⟩
    · exact .inl h
    · exact .inr (.inl h)
    · exact .inr (.inr (List.mem_of_getElem? (i := i) (by rw [List.getElem?_take, if_pos hi]; exact h)))
theorem frL_sub {i j : Nat} (h : i ≤ j) {y : Addr} (hy : y ∈ frL A i) : y ∈ frL A j := by
  rcases mem_frL.mp hy with h1 | h1 | ⟨k, hk, h1⟩
  · exact mem_frL.mpr (.inl h1)
  · exact mem_frL.mpr (.inr (.inl h1))
  · exact mem_frL.mpr (.inr (.inr ⟨k, by omega, h1⟩))
theorem Fr.sub {H H' : Hp} {L L' : List Addr} (f : Fr H H' L) (h : ∀ y ∈ L, y ∈ L') : Fr H H' L' := fun x o hx hS => f x o hx fun z => hS (h x z)
theorem KL.lw (W : KL a H A D S ws es rn os) {j : Nat} (hj : j ≤ es.length) : ∀ y ∈ frL A j, Lw a H A y := fun y hy => by
  rcases mem_frL.mp hy with h | h | ⟨i, hi, h⟩
  · exact .inr (.inl ⟨_, _, _, h ▸ W.dk.ob⟩)
  · exact .inl h
  · obtain ⟨e, he⟩ : ∃ e, es[i]? = some e := ⟨_, List.getElem?_eq_getElem (by omega)⟩
    obtain ⟨h1, h2, _⟩ := W.ef i e he
    rw [h] at h1
    cases h1
    exact .inr (.inr ⟨_, _, _, _, _, _, h2.ke⟩)
theorem KL.occ (W : KL a H A D S ws es rn os) {j : Nat} (hj : j ≤ es.length) : ∀ y ∈ frL A j, ∃ o, H y = some o := fun y hy => by
  rcases W.lw hj y hy with h | ⟨_, _, _, h⟩ | ⟨_, _, _, _, _, _, _, h⟩
  · exact ⟨_, h ▸ W.hpr⟩
  · exact ⟨_, h⟩
  · exact ⟨_, h⟩
theorem KL.xd (W : KL a H A D S ws es rn os) {i : Nat} {e : Kf} (he : es[i]? = some e) : e.x ≠ A.d ∧ e.x ≠ A.pr := by
  obtain ⟨_, h2, _⟩ := W.ef i e he
  obtain ⟨dx, hx⟩ := h2.ke
  exact ⟨ne_of hx W.dk.ob (by intro z; have := HO.ins.inj z; simp [deskB, keptF] at this), ne_of hx W.hpr (by intro z; cases z)⟩
theorem KL.xL (W : KL a H A D S ws es rn os) {i j : Nat} {e : Kf} (he : es[i]? = some e) (hij : j ≤ i) : e.x ∉ frL A j := fun hm => by
  obtain ⟨h1, h2⟩ := W.xd he
  rcases mem_frL.mp hm with h | h | ⟨k, hk, h⟩
  · exact h1 h
  · exact h2 h
  · have := nd_inj W.nx h (W.ef i e he).1
    omega
/-- a dict beside is written -/
theorem KL.dkw {nt : Addr} (W : KL a H A D S ws es rn os) (f : Fr H H' [nt]) (hn : ∃ kv, H nt = some (.dK kv)) (hd : nt ≠ D.cs ∧ nt ≠ D.rd) (he : ∀ e ∈ es, e.nt ≠ nt) : KL a H' A D S ws es rn os := by
  obtain ⟨kv, hn⟩ := hn
  have ni : ∀ {y : Addr} {o : HO}, H y = some o → (∀ kv, o ≠ .dK kv) → y ∉ [nt] := fun h n => by simpa using ne_of h hn (n _)
  have hdA : ∀ y ∈ dAll A.d D, y ∉ [nt] := fun y hy => by
    obtain ⟨ms, m1, _⟩ := W.dk.mv
    simp only [dAll, List.mem_cons, List.not_mem_nil, or_false] at hy
    rcases hy with h | h | h | h | h | h | h | h
    · exact h ▸ ni W.dk.ob (by intros; simp)
    · exact h ▸ ni W.dk.un (by intros; simp)
    · rw [h]; simpa using Ne.symm hd.1
    · rw [h]; simpa using Ne.symm hd.2
    · exact h ▸ ni W.dk.ef (by intros; simp)
    · exact h ▸ ni W.dk.lg (by intros; simp)
    · exact h ▸ ni W.dk.fr (by intros; simp)
    · exact h ▸ ni m1 (by intros; simp)
  have dl : DatL H [nt] := fun y hy o ho => by
    rw [List.mem_singleton.mp hy, hn] at ho; cases ho; exact .inr (.inr ⟨_, rfl⟩)
  refine ⟨W.dk.frs f hdA, W.hrc, W.hrx, f _ _ W.hpc (ni W.hpc (by intros; simp)), f _ _ W.hpa (ni W.hpa (by intros; simp)), f _ _ W.hpr (ni W.hpr (by intros; simp)), fun k c h => ?_, fun j e h => ?_, W.l8, W.lx, W.le, W.lr, W.fa.frL f (fun x hx => ?_), W.lf, W.ho, W.np, W.nx⟩
  · obtain ⟨dc, h1⟩ := W.ce k c h
    exact ⟨dc, f _ _ h1 (ni h1 (by intros; simp))⟩
  · obtain ⟨g1, g2, g3⟩ := W.ef j e h
    obtain ⟨dx, hx⟩ := g2.ke
    exact ⟨g1, g2.frs f dl (ni hx (by intros; simp)) (by simpa using he e (List.mem_of_getElem? h)), g3⟩
  · obtain ⟨o, ia, hu, nt', dx, h1⟩ := W.fa.mem x hx
    exact ni h1 (by intros; simp)
theorem note1 {j : Nat} {w : Int} : noteK (notesK []) (nmC j) (.int w) = notesK [(nmC j, w)] := rfl
theorem note1A {j : Nat} {v : Int} : noteK (notesK []) (nmA j) (.int v) = notesK [(nmA j, v)] := rfl
theorem note2 {i j : Nat} {w v : Int} : noteK (notesK [(nmC i, w)]) (nmA j) (.int v) = notesK [(nmC i, w), (nmA j, v)] := by
  unfold noteK
  have : valV (notesK [(nmC i, w)]) (.inr (nmA j)) = none := by
    show valV ([(.inr (nmC i), .int w)] : List (Key × V)) _ = none
    rw [valV_neg (fun z => nmCA (Sum.inr.inj z))]; rfl
  rw [this, if_neg (by simp)]
  unfold putK
  rw [valV_any, this]
  rfl
theorem note2A {i j : Nat} {w v : Int} : noteK (notesK [(nmA j, v)]) (nmC i) (.int w) = notesK [(nmA j, v), (nmC i, w)] := by
  unfold noteK
  have : valV (notesK [(nmA j, v)]) (.inr (nmC i)) = none := by
    show valV ([(.inr (nmA j), .int v)] : List (Key × V)) _ = none
    rw [valV_neg (fun z => nmCA (Sum.inr.inj z).symm)]; rfl
  rw [this, if_neg (by simp)]
  unfold putK
  rw [valV_any, this]
  rfl
end
end Tr
set_option maxHeartbeats 4000000

namespace Tr
open PySem L2 LamX NdefX
section
variable {P : Program} {w : World} {K : PySem.W.Frag} {mg : Str → Option Value} {base : Heap} {a : Nat → Addr} {fd : Nat → FuncData} {tk : Nat → Tok}
variable {H H' H2 H6 H8 : Hp} {A : KA} {D : DA} {S : DSt} {ws : List Int} {es es2 es3 es4 : List Kf} {rn rn2 rn3 rn4 : List Int} {os : List Str} {j m J : Nat} {e : Kf} {z frm nt : Addr} {ns ns' : List (Str × Int)}
/-- in the run of answer j -/
structure InR (a : Nat → Addr) (H2 H : Hp) (A : KA) (D : DA) (S : DSt) (ws : List Int) (es2 : List Kf) (rn2 : List Int) (os : List Str) (j : Nat) (e : Kf) (z frm nt : Addr) (es3 : List Kf) (rn3 : List Int) (J : Nat) (ns : List (Str × Int)) : Prop where
  w : KL a H A { D with fr := z } { S with frs := S.frs ++ [frm] } ws es3 rn3 (os ++ [nmA j])
  rj : rn3.getD j 0 = ((e.n : Nat) : Int) + 1
  ri : ∀ i, j < i → rn3.getD i 0 = rn2.getD i 0
  fm : FrameAt a H frm (nmA j) true false nt
  hn : H nt = some (.dK (notesK ns))
  kx : KeptAt a H A.d e.x (nmA j) e.f nt ((e.n : Nat) : Int) .non false
  df : H D.fr = some (.lst (S.frs.map V.ref))
  fr : Fr H2 H (frL A (j + 1))
  nn : H2 nt = none
  up : Upd ws (es2.take j) es3 J
theorem KL.xN (W : KL a H A D S ws es rn os) {x : Addr} {nm : Str} {f nt : Addr} {n : Int} {kw : V} {hw : Bool} (hx : A.xs[j]? = some x) (KX : KeptAt a H A.d x nm f nt n kw hw) : x ∉ frL A j := fun hm => by
  obtain ⟨dx, hk⟩ := KX
  rcases mem_frL.mp hm with h | h | ⟨k, hk', h⟩
  · exact ne_of hk W.dk.ob (by intro q; have := HO.ins.inj q; simp [deskB, keptF] at this) h
  · exact ne_of hk W.hpr (by intro q; cases q) h
  · have := nd_inj W.nx h hx
    omega
theorem InR.note (W2 : KL a H2 A D S ws es2 rn2 os) (I : InR a H2 H A D S ws es2 rn2 os j e z frm nt es3 rn3 J ns) (f : Fr H H' [nt]) (hn' : H' nt = some (.dK (notesK ns'))) (he : ∀ e ∈ es3, e.nt ≠ nt) : InR a H2 H' A D S ws es2 rn2 os j e z frm nt es3 rn3 J ns' := by
  obtain ⟨dx, hf⟩ := I.fm
  obtain ⟨dk, hk⟩ := I.kx
  have ni : ∀ {y : Addr} {o : HO}, H y = some o → (∀ kv, o ≠ .dK kv) → y ∉ [nt] := fun h n => by simpa using ne_of h I.hn (n _)
  refine ⟨I.w.dkw f ⟨_, I.hn⟩ ⟨fun q => ?_, fun q => ?_⟩ he, I.rj, I.ri, ⟨dx, f _ _ hf (ni hf (by intros; simp))⟩, hn', ⟨dk, f _ _ hk (ni hk (by intros; simp))⟩, f _ _ I.df (ni I.df (by intros; simp)), fun y o hy hS => f _ _ (I.fr _ _ hy hS) ?_, I.nn, I.up⟩
  · have := W2.dk.cs
    rw [← (show nt = D.cs from q), I.nn] at this; cases this
  · have := W2.dk.rd
    rw [← (show nt = D.rd from q), I.nn] at this; cases this
  · rw [List.mem_singleton]
    rintro rfl
    rw [I.nn] at hy; cases hy
theorem InR.read (W2 : KL a H2 A D S ws es2 rn2 os) (hx : A.xs[j]? = some e.x) (hl : es3.length = j) (I : InR a H2 H A D S ws es2 rn2 os j e z frm nt es3 rn3 0 ns) (W' : KL a H' A { D with fr := z } { S with frs := S.frs ++ [frm] } ws es4 rn4 (os ++ [nmA j])) (u : Upd ws es3 es4 j) (hr : ∀ i, j ≤ i → rn4.getD i 0 = rn3.getD i 0) (f : Fr H H' (frL A j)) : InR a H2 H' A D S ws es2 rn2 os j e z frm nt es4 rn4 j ns := by
  have hL := I.w.lw (j := j) (by omega)
  have hxn := I.w.xN hx I.kx
  obtain ⟨dk, hk⟩ := I.kx
  refine ⟨W', by rw [hr j (Nat.le_refl _), I.rj], fun i hi => by rw [hr i (by omega), I.ri i hi], I.fm.frs f fun q => Lw.nfrm I.w (hL _ q) I.fm rfl, f _ _ I.hn fun q => Lw.ndk I.w (hL _ q) I.hn rfl, ⟨dk, f _ _ hk hxn⟩, f _ _ I.df fun q => (hL _ q).nlst I.df (fun q2 => W2.np.2.2 (by rw [← q2]; simp [dAll])) rfl, I.fr.tr (f.sub fun y hy => frL_sub (by omega) hy), I.nn, I.up.tr (Nat.zero_le _) u⟩
theorem getD_appI {α : Type} {l1 l2 : List α} {i : Nat} : (l1 ++ l2)[i]? = if i < l1.length then l1[i]? else l2[i - l1.length]? := by
  split
  · rw [List.getElem?_append_left (by assumption)]
  · rw [List.getElem?_append_right (by omega)]
/-- what the answer shows after its run -/
def kfN (e : Kf) (nt : Addr) (w v : Int) : Kf := { e with nt := nt, la := some (w, v), n := e.n + 1 }
theorem upd_fin {v : Int} (he : es2[j]? = some e) (u : Upd ws (es2.take j) es3 j) (hv : v = pvN ws es2 j) (hla : e.la ≠ some (ws.getD j 0, pvN ws es2 j)) : Upd ws es2 (es3 ++ kfN e nt (ws.getD j 0) v :: es2.drop (j + 1)) (j + 1) := by
  have hj : j < es2.length := (List.getElem?_eq_some_iff.mp he).1
  have l3 : es3.length = j := by rw [u.len, List.length_take]; omega
  refine ⟨by rw [List.length_append, List.length_cons, List.length_drop, l3]; omega, fun i e' h => ?_⟩
  rw [getD_appI, l3]
  by_cases hi : i < j
  · rw [if_pos hi]
    obtain ⟨e1, h1, x1, f1, _⟩ := u.at_ i e' (by rw [List.getElem?_take, if_pos hi]; exact h)
    refine ⟨e1, h1, x1, fun _ => ?_, fun q => by omega⟩
    rw [pv_take (by omega)] at f1
    exact f1 hi
  · rw [if_neg hi]
    by_cases hij : i = j
    · subst hij
      rw [he] at h
      cases h
      rw [Nat.sub_self]
      refine ⟨_, rfl, ⟨rfl, rfl⟩, fun _ => ⟨by rw [← hv]; rfl, by rw [if_neg hla]; rfl⟩, fun q => by omega⟩
    · refine ⟨e', ?_, ⟨rfl, rfl⟩, fun q => by omega, fun _ => rfl⟩
      obtain ⟨t, rfl⟩ : ∃ t, i = j + 1 + t := ⟨i - (j + 1), by omega⟩
      rw [show j + 1 + t - j = t + 1 by omega, List.getElem?_cons_succ, List.getElem?_drop]
      exact h
theorem fin_run {v : Int} (W2 : KL a H2 A D S ws es2 rn2 os) (he : es2[j]? = some e) (I : InR a H2 H6 A D S ws es2 rn2 os j e z frm nt es3 rn3 j (nsA j e.cf (ws.getD j 0) v)) (hv0 : j = 0 → v = 0)
    (f : Fr H6 H8 [A.d, e.x]) (DK8 : DkAt a H8 A.d D S) (KX8 : KeptAt a H8 A.d e.x (nmA j) e.f nt (((e.n : Nat) : Int) + 1) (.int (mn e.bd (ws.getD j 0 + v))) true) :
    KL a H8 A D S ws (es3 ++ kfN e nt (ws.getD j 0) v :: es2.drop (j + 1)) rn3 os ∧ Fr H2 H8 (frL A (j + 1)) := by
  have hj : j < es2.length := (List.getElem?_eq_some_iff.mp he).1
  have l3 : es3.length = j := by rw [I.up.len, List.length_take]; omega
  obtain ⟨hx, KF, _⟩ := W2.ef j e he
  have hL := W2.lw (j := j + 1) (by omega)
  have dl := Lw.dat W2 hL
  have xd := W2.xd he
  have s8 : ∀ y, y ∈ [A.d, e.x] → y ∈ frL A (j + 1) := fun y hy => by
    rcases List.mem_cons.mp hy with h | h
    · exact mem_frL.mpr (.inl h)
    · exact mem_frL.mpr (.inr (.inr ⟨j, by omega, by rw [List.mem_singleton.mp h]; exact hx⟩))
  have F8 : Fr H2 H8 (frL A (j + 1)) := I.fr.tr (f.sub s8)
  have pd : A.pr ∉ [A.d, e.x] := by
    have h1 : A.pr ≠ A.d := fun q => W2.np.2.2 (by rw [q]; simp [dAll])
    simp [h1, Ne.symm xd.2]
  have lk : (es3 ++ kfN e nt (ws.getD j 0) v :: es2.drop (j + 1)).length = es2.length := by rw [List.length_append, List.length_cons, List.length_drop, l3]; omega
  have hntx : nt ∉ [A.d, e.x] := by
    obtain ⟨dx, hkx⟩ := I.kx
    have h1 := ne_of I.hn I.w.dk.ob (by intro q; cases q)
    have h2 := ne_of I.hn hkx (by intro q; cases q)
    simp [h1, h2]
  refine ⟨W2.frs F8 hL DK8 rfl (f _ _ I.w.hpr pd) (I.w.lr.trans W2.lr.symm) (W2.fa.frL F8 fun x hx q => ?_) (by rw [lk]; exact W2.lf) (by rw [lk]; exact W2.ho) W2.np.2.2 (by rw [lk]; exact W2.le) fun i e' h => ?_, F8⟩
  · obtain ⟨o, ia, hu, nt', h⟩ := W2.fa.mem x hx
    exact Lw.nfrm W2 (hL x q) h rfl
  · rw [getD_appI, l3] at h
    by_cases hi : i < j
    · rw [if_pos hi] at h
      obtain ⟨g1, g2, g3⟩ := I.w.ef i e' h
      refine .inr ⟨g1, g2.frs f (Lw.dat I.w fun y hy => ?_) ?_ ?_, g3⟩
      · rcases List.mem_cons.mp hy with h | h
        · exact .inr (.inl ⟨_, _, _, h ▸ I.w.dk.ob⟩)
        · exact .inr (.inr ⟨_, _, _, _, _, _, (List.mem_singleton.mp h) ▸ I.kx⟩)
      · have h1 := I.w.xd h
        have h2 : e'.x ≠ e.x := fun q => by
          rw [q] at g1
          have := nd_inj W2.nx g1 hx
          omega
        simp [h1.1, h2]
      · obtain ⟨dx, hkx⟩ := I.kx
        have h1 := ne_of g2.hn I.w.dk.ob (by intro q; cases q)
        have h2 := ne_of g2.hn hkx (by intro q; cases q)
        simp [h1, h2]
    · rw [if_neg hi] at h
      by_cases hij : i = j
      · subst hij
        rw [Nat.sub_self] at h
        cases h
        refine .inr ⟨hx, ⟨?_, f _ _ I.hn hntx, lamO_frs KF.lam F8 dl, KF.cf.keep fun c o _ q => F8 _ _ q (dl.not q nd_frz), fun h0 p hp => ?_⟩, by rw [I.rj]; rfl⟩
        · have := KX8
          exact this
        · cases hp
          exact hv0 h0
      · obtain ⟨t, rfl⟩ : ∃ t, i = j + 1 + t := ⟨i - (j + 1), by omega⟩
        rw [show j + 1 + t - j = t + 1 by omega, List.getElem?_cons_succ, List.getElem?_drop] at h
        exact .inl ⟨h, W2.xL h (by omega), I.ri _ (by omega)⟩
/-- the notes of the answers ahead are others -/
theorem nt_apart (W : KL a H A D S ws es rn os) (hn : H nt = some (.dK (notesK ns))) (hns : ns = [] ∨ ∃ s v, ns = [(s, v)] ∧ s ≠ nmC 0) (hla : ∀ (i : Nat) (e : Kf), es[i]? = some e → e.la.isSome = true) : ∀ e ∈ es, e.nt ≠ nt := fun e hm q => by
  obtain ⟨i, hi⟩ := List.mem_iff_getElem?.mp hm
  obtain ⟨_, g2, _⟩ := W.ef i e hi
  have h1 := g2.hn
  rw [q, hn] at h1
  have h2 : notesK ns = notesK (ntA i e) := HO.dK.inj (Option.some.inj h1)
  have h3 := hla i e hi
  unfold ntA at h2
  cases el : e.la with
  | none => rw [el] at h3; cases h3
  | some p =>
    rw [el] at h2
    have h4 := congrArg (List.map (·.1)) h2
    unfold notesK at h4
    simp only [List.map_map] at h4
    match i with
    | 0 =>
      rcases hns with rfl | ⟨s, v, rfl, hs⟩
      · simp [nsA] at h4
      · simp [nsA] at h4
        exact hs h4
    | i' + 1 =>
      have h5 := congrArg List.length h4
      rcases hns with rfl | ⟨s, v, rfl, hs⟩
      · simp only [nsA] at h5; split at h5 <;> simp at h5
      · simp only [nsA] at h5; split at h5 <;> simp at h5
end
end Tr
set_option maxHeartbeats 4000000

namespace Tr
open PySem L2 LamX NdefX
section
variable {P : Program} {w : World} {K : PySem.W.Frag} {mg : Str → Option Value} {base : Heap} {a : Nat → Addr} {fd : Nat → FuncData} {tk : Nat → Tok}
variable {H H' H2 H6 H8 : Hp} {A : KA} {D : DA} {S : DSt} {ws : List Int} {es es2 es3 es4 : List Kf} {rn rn2 rn3 rn4 : List Int} {os : List Str} {j m J : Nat} {e : Kf} {z frm nt : Addr} {ns ns' : List (Str × Int)}
theorem upd_la (u : Upd ws es es2 j) (hl : es.length = j) : ∀ (i : Nat) (e : Kf), es2[i]? = some e → e.la.isSome = true := fun i e h => by
  have hi := (List.getElem?_eq_some_iff.mp h).1
  rw [u.len, hl] at hi
  obtain ⟨e0, he⟩ : ∃ e0, es[i]? = some e0 := ⟨_, List.getElem?_eq_getElem (by omega)⟩
  obtain ⟨e1, h1, _, f1, _⟩ := u.at_ i e0 he
  rw [h] at h1
  cases h1
  rw [(f1 hi).1]; rfl
theorem run_N {Q : VK} (W2 : KL a H2 A D S ws es2 rn2 os) (he : es2[j]? = some e) (hj : j < m + 1) (hla : e.la ≠ some (ws.getD j 0, pvN ws es2 j))
    (k : ∀ H' es' rn', KL a H' A D S ws es' rn' os → Upd ws es2 es' (j + 1) → (∀ i, j < i → rn'.getD i 0 = rn2.getD i 0) → Fr H2 H' (frL A (j + 1)) → Gn H2 H' → Q (.int (pvN ws es2 (j + 1))) H') :
    ∃ D2 S2 nt2 n2 v2 hw2, DkAt a H2 A.d D2 S2 ∧ KeptAt a H2 A.d e.x (nmA j) e.f nt2 n2 v2 hw2 ∧ ∀ H3, DkAt a H3 A.d D2 S2 → KeptAt a H3 A.d e.x (nmA j) e.f nt2 n2 .non false → Fr H2 H3 [e.x] →
      spRun a (wspL (spWkG a (spCX a (spWN a m))) qualL lamP lamB lamSc freeL) [.ref e.x, .bl true] H3 (fun v H4 => ∃ D4 S4 nt4 n4, DkAt a H4 A.d D4 S4 ∧ KeptAt a H4 A.d e.x (nmA j) e.f nt4 n4 .non false ∧ ∀ H5, DkAt a H5 A.d D4 S4 → KeptAt a H5 A.d e.x (nmA j) e.f nt4 n4 v true → Fr H4 H5 [e.x] → Q v H5) E0 := by
  have hjl : j < es2.length := (List.getElem?_eq_some_iff.mp he).1
  obtain ⟨hx, KF, hrn⟩ := W2.ef j e he
  have hL := W2.lw (j := j + 1) (by omega)
  have dl := Lw.dat W2 hL
  have xd := W2.xd he
  have hjx : j < A.xs.length := (List.getElem?_eq_some_iff.mp hx).1
  have hj8 : j < 8 := by have := W2.lx; have := W2.l8; omega
  have hjr : j < rn2.length := by have := W2.lx; have := W2.lr; omega
  refine ⟨D, S, _, _, _, _, W2.dk, KF.ke, fun H3 DK3 KX3 F23 => ?_⟩
  refine ⟨A.d, D, S, e.x, nmA j, e.f, e.nt, ((e.n : Nat) : Int), .non, false, true, rfl, DK3, KX3, by have := W2.lf; omega, fun fr' frm nt2 H4 DK4 FM4 hn4 KX4 nfrm nnt2 nfr F34 => ?_⟩
  have s8 : ∀ y, y ∈ [A.d, e.x] → y ∈ frL A (j + 1) := fun y hy => by
    rcases List.mem_cons.mp hy with h | h
    · exact mem_frL.mpr (.inl h)
    · exact mem_frL.mpr (.inr (.inr ⟨j, by omega, by rw [List.mem_singleton.mp h]; exact hx⟩))
  have F24 : Fr H2 H4 [A.d, e.x] := Fr.tr (F23.sub fun y hy => by simp [List.mem_singleton.mp hy]) F34
  have free3 : ∀ {y : Addr}, H3 y = none → H2 y = none := fun {y} hy => by
    cases q : H2 y with
    | none => rfl
    | some o =>
      by_cases hyx : y = e.x
      · obtain ⟨dx, hk⟩ := KX3
        rw [hyx, hk] at hy; cases hy
      · rw [F23 y o q (by simpa using hyx)] at hy; cases hy
  have hL2 : ∀ y ∈ [A.d, e.x], Lw a H2 A y := fun y hy => hL y (s8 y hy)
  have pd : A.pr ∉ [A.d, e.x] := by
    have h1 : A.pr ≠ A.d := fun q => W2.np.2.2 (by rw [q]; simp [dAll])
    simp [h1, Ne.symm xd.2]
  have npr' : A.pr ∉ dAll A.d { D with fr := fr' } := fun q => by
    have h0 := W2.np.2.2
    simp only [dAll, List.mem_cons, List.not_mem_nil, or_false, not_or] at q h0
    rcases q with q | q | q | q | q | q | q | q
    · exact h0.1 q
    · exact h0.2.1 q
    · exact h0.2.2.1 q
    · exact h0.2.2.2.1 q
    · exact h0.2.2.2.2.1 q
    · exact h0.2.2.2.2.2.1 q
    · have := free3 nfr
      rw [← (show A.pr = fr' from q), W2.hpr] at this; cases this
    · exact h0.2.2.2.2.2.2.2 q
  have lt2 : (es2.take j).length = j := by rw [List.length_take]; omega
  have W4 : KL a H4 A { D with fr := fr' } { S with frs := S.frs ++ [frm] } ws (es2.take j) rn2 (os ++ [nmA j]) := by
    refine (W2.take j).frs F24 hL2 DK4 rfl (F24 _ _ W2.hpr pd) rfl (FramesAt.snoc FM4 (W2.fa.frL F24 fun x hx q => ?_)) ?_ (fun i hi q => ?_) npr' (by rw [lt2]; omega) fun i e' h => ?_
    · obtain ⟨o, ia, hu, nt', h⟩ := W2.fa.mem x hx
      exact Lw.nfrm W2 (hL2 x q) h rfl
    · have := W2.lf
      show (S.frs ++ [frm]).length + (es2.take j).length ≤ 100
      rw [List.length_append, lt2, List.length_singleton]
      omega
    · rw [lt2] at hi
      rcases List.mem_append.mp q with q | q
      · exact W2.ho i (by omega) q
      · have := nmA_inj (by omega) hj8 (List.mem_singleton.mp q)
        omega
    · refine .inl ⟨h, ?_, rfl⟩
      rw [List.getElem?_take] at h
      split at h
      · have h1 := W2.xd h
        have h2 : e'.x ≠ e.x := fun q => by
          have g1 := (W2.ef i e' h).1
          rw [q] at g1
          have := nd_inj W2.nx g1 hx
          omega
        simp [h1.1, h2]
      · cases h
  have nn2 := free3 nnt2
  have hcl : ∃ c, A.cl[j]? = some c := ⟨_, List.getElem?_eq_getElem (by have := W2.lx; omega)⟩
  obtain ⟨c, hc⟩ := hcl
  have hfr4 : H4 D.fr = some (.lst (S.frs.map V.ref)) := F24 _ _ W2.dk.fr fun q => (hL2 _ q).nlst W2.dk.fr (fun q2 => W2.np.2.2 (by rw [← q2]; simp [dAll])) rfl
  refine ⟨_, _, _, _, lamO_frs KF.lam (F24.sub s8) dl, KF.cf.keep fun c o _ q => F24 _ _ q ((Lw.dat W2 hL2).not q nd_frz), ?_⟩
  refine ⟨A.d, A.pr, A.pc, A.pa, e.x, c, e.f, nt2, j, e.bd, e.cf, rn2, A.xs, A.cl, nmA j, rfl, W4.hpr, hjr, W4.hpa, hx, by rw [hrn]; exact KX4, W2.np.2.1, W2.np.1, xd.2, W4.hpc, hc, fun H5 e5 => ?_⟩
  have F45 : Fr H4 H5 [A.pr] := fun y o hy hS => by rw [e5, upd_ne (by simpa using hS)]; exact hy
  have hp5 : H5 A.pr = some (.lst ((rn2.set j (rn2.getD j 0 + 1)).map V.int)) := by rw [e5]; exact upd_same
  have W5 : KL a H5 A { D with fr := fr' } { S with frs := S.frs ++ [frm] } ws (es2.take j) (rn2.set j (rn2.getD j 0 + 1)) (os ++ [nmA j]) := by
    refine W4.frs F45 (fun y hy => .inl (List.mem_singleton.mp hy)) (W4.dk.frs F45 fun y hy q => npr' ((List.mem_singleton.mp q) ▸ hy)) rfl hp5 (by rw [List.length_set]) (W4.fa.frL F45 fun x hx q => ?_) W4.lf W4.ho npr' W4.le fun i e' h => .inl ⟨h, ?_, ?_⟩
    · obtain ⟨o, ia, hu, nt', h⟩ := W4.fa.mem x hx
      exact Lw.nfrm W4 (.inl (List.mem_singleton.mp q)) h rfl
    · simpa using (W4.xd h).2
    · have := (List.getElem?_eq_some_iff.mp h).1
      rw [lt2] at this
      exact getD_set_neI (by omega)
  obtain ⟨dxx, hkx⟩ := KX4
  obtain ⟨dfm, hfm⟩ := FM4
  have I5 : InR a H2 H5 A D S ws es2 rn2 os j e fr' frm nt2 (es2.take j) (rn2.set j (rn2.getD j 0 + 1)) 0 [] := by
    refine ⟨W5, by rw [getD_set_eqI hjr, hrn], fun i hi => getD_set_neI (by omega), ⟨dfm, F45 _ _ hfm (by simpa using ne_of hfm W4.hpr (by intro q; cases q))⟩, F45 _ _ hn4 (by simpa using ne_of hn4 W4.hpr (by intro q; cases q)), ⟨dxx, F45 _ _ hkx (by simpa using xd.2)⟩, F45 _ _ hfr4 (by simpa using fun q => W2.np.2.2 (by rw [← q]; simp [dAll])), Fr.tr (F24.sub s8) (F45.sub fun y hy => mem_frL.mpr (.inr (.inl (List.mem_singleton.mp hy)))), nn2, Upd.refl0⟩
  -- the end
  have FIN : ∀ {H6 : Hp} {es3 : List Kf} {rn3 : List Int}, InR a H2 H6 A D S ws es2 rn2 os j e fr' frm nt2 es3 rn3 j (nsA j e.cf (ws.getD j 0) (pvN ws es2 j)) → 
      DkAt a H6 A.d { D with fr := fr' } { S with frs := S.frs ++ [frm] } ∧ KeptAt a H6 A.d e.x (nmA j) e.f nt2 ((e.n : Nat) : Int) .non false ∧ H6 D.fr = some (.lst (S.frs.map V.ref)) ∧
      ∀ H7, DkAt a H7 A.d D S → KeptAt a H7 A.d e.x (nmA j) e.f nt2 (((e.n : Nat) : Int) + 1) .non false → Fr H6 H7 [A.d, e.x] → ∃ D4 S4 nt4 n4, DkAt a H7 A.d D4 S4 ∧ KeptAt a H7 A.d e.x (nmA j) e.f nt4 n4 .non false ∧ ∀ H8, DkAt a H8 A.d D4 S4 → KeptAt a H8 A.d e.x (nmA j) e.f nt4 n4 (.int (mn e.bd (ws.getD j 0 + pvN ws es2 j))) true → Fr H7 H8 [e.x] → Q (.int (mn e.bd (ws.getD j 0 + pvN ws es2 j))) H8 := by
    intro H6 es3 rn3 I6
    refine ⟨I6.w.dk, I6.kx, I6.df, fun H7 DK7 KX7 F67 => ⟨D, S, _, _, DK7, KX7, fun H8 DK8 KX8 F78 => ?_⟩⟩
    obtain ⟨W8, F28⟩ := fin_run W2 he I6 (fun h0 => by subst h0; rfl) (F67.tr (F78.sub fun y hy => by simp [List.mem_singleton.mp hy])) DK8 KX8
    have hu := upd_fin (nt := nt2) he I6.up rfl hla
    have lk := hu.len
    have hval : pvN ws es2 (j + 1) = mn e.bd (ws.getD j 0 + pvN ws es2 j) := by
      show mn ((es2[j]?.map (·.bd)).getD 0) _ = _
      rw [he]; rfl
    rw [← hval]
    exact k _ _ _ W8 hu I6.ri F28 (gn_fr F28 (W8.occ (by rw [lk]; omega)))
  have hcf : ∀ {H6 : Hp} {es3 : List Kf} {rn3 : List Int} {J : Nat} {ns : List (Str × Int)} {Q' : VK}, InR a H2 H6 A D S ws es2 rn2 os j e fr' frm nt2 es3 rn3 J ns → ns.length ≤ 1 → (∀ H', H' nt2 = some (.dK (noteK (notesK ns) (nmC j) (.int (ws.getD j 0)))) → Fr H6 H' [nt2] → Q' (.int (ws.getD j 0)) H') → spCall a [.ref c] H6 Q' E0 := by
    intro H6 es3 rn3 J ns Q' I6 hl h
    have := I6.w.lf
    exact ⟨A.d, _, _, c, nmC j, ws.getD j 0, rfl, I6.w.dk, by omega, I6.w.ce j c hc, .inr ⟨S.frs, frm, nmA j, true, nt2, _, rfl, I6.fm, I6.hn, by unfold notesK; rw [List.length_map]; omega, h⟩⟩
  have fresh : ∀ e' ∈ es2.take j, e'.nt ≠ nt2 := fun e' hm q => by
    obtain ⟨i, hi⟩ := List.mem_iff_getElem?.mp (List.mem_of_mem_take hm)
    have h1 := (W2.ef i e' hi).2.1.hn
    rw [q, nn2] at h1; cases h1
  refine ⟨⟨_, _, _, W5.ce j c hc⟩, fun h0 => ?_, fun j' ej => ?_⟩
  · subst h0
    refine hcf I5 (by simp) fun H6 hn6 F56 => ⟨_, rfl, ?_⟩
    have I6 := I5.note (ns' := nsA 0 e.cf (ws.getD 0 0) (pvN ws es2 0)) W2 F56 (by rw [hn6, note1]; rfl) fresh
    have := FIN I6
    simp only [pvN, Int.add_zero] at this
    exact this
  · subst ej
    have hj' : j' < A.xs.length := by omega
    obtain ⟨e', he'⟩ : ∃ e', es2[j']? = some e' := ⟨_, List.getElem?_eq_getElem (by omega)⟩
    have het : (es2.take (j' + 1))[j']? = some e' := by rw [List.getElem?_take, if_pos (by omega)]; exact he'
    obtain ⟨hx', KF', _⟩ := W2.ef j' e' he'
    have hrd : ∀ {H6 : Hp} {rn3 : List Int} {ns : List (Str × Int)} {Q' : VK}, InR a H2 H6 A D S ws es2 rn2 os (j' + 1) e fr' frm nt2 (es2.take (j' + 1)) rn3 0 ns → (ns = [] ∨ ∃ s v, ns = [(s, v)] ∧ s ≠ nmC 0) → (∀ H' es4 rn4 ns', InR a H2 H' A D S ws es2 rn2 os (j' + 1) e fr' frm nt2 es4 rn4 (j' + 1) ns' → notesK ns' = noteK (notesK ns) (nmA j') (.int (pvN ws es2 (j' + 1))) → Q' (.int (pvN ws es2 (j' + 1))) H') → spCX a (spWN a m) [.ref e'.x] H6 Q' E0 := by
      intro H6 rn3 ns Q' I6 hns h
      refine ⟨A.d, e'.x, nmA j', rfl, ⟨_, _, _, _, _, (I6.w.ef j' e' het).2.1.ke⟩, ?_⟩
      refine ⟨A, _, _, ws, es2.take (j' + 1), rn3, _, j', e', rfl, het, by omega, I6.w, fun H7 es4 rn4 W7 u7 r7 F67 _ => ?_⟩
      have I7 := I6.read W2 hx lt2 W7 u7 (fun i hi => r7 i (by omega)) F67
      rw [pv_take (Nat.le_refl _)]
      obtain ⟨e7, h7, ⟨x7, _⟩, _⟩ := u7.at_ j' e' het
      have := I7.w.lf
      refine ⟨⟨_, _, I7.w.dk⟩, ⟨_, _, _, _, _, x7 ▸ (W7.ef j' e7 h7).2.1.ke⟩, A.d, _, _, nmA j', .int (pvN ws es2 (j' + 1)), rfl, I7.w.dk, by omega, .inr ⟨S.frs, frm, nmA (j' + 1), true, nt2, _, rfl, I7.fm, I7.hn, by unfold notesK; rw [List.length_map]; rcases hns with rfl | ⟨s, v, rfl, _⟩ <;> simp, fun H8 hn8 F78 => ?_⟩⟩
      obtain ⟨ns', en⟩ : ∃ ns', notesK ns' = noteK (notesK ns) (nmA j') (.int (pvN ws es2 (j' + 1))) := by
        unfold noteK
        split
        · exact ⟨_, rfl⟩
        · rename_i hno
          have hno' : valV (notesK ns) (.inr (nmA j')) = none := by simpa using hno
          refine ⟨ns ++ [(nmA j', pvN ws es2 (j' + 1))], ?_⟩
          unfold putK
          rw [valV_any, hno']
          simp [notesK]
      have ap : ∀ e ∈ es4, e.nt ≠ nt2 := nt_apart W7 I7.hn hns (upd_la u7 lt2)
      exact h _ _ _ ns' (I7.note (ns' := ns') W2 F78 (by rw [hn8, en]) ap) en
    refine ⟨e'.x, hx', ⟨_, _, _, _, _, _, _, (I5.w.ef j' e' het).2.1.ke⟩, fun ec => ?_, fun ec => ?_⟩
    · refine hcf I5 (by simp) fun H6 hn6 F56 => ⟨_, rfl, ?_⟩
      have I6 := I5.note (ns' := [(nmC (j' + 1), ws.getD (j' + 1) 0)]) W2 F56 (by rw [hn6, note1]) fresh
      refine ⟨I6.w.hpa, ⟨_, _, _, _, _, _, _, (I6.w.ef j' e' het).2.1.ke⟩, ?_⟩
      refine hrd I6 (.inr ⟨_, _, rfl, fun q => by have := nmC_inj hj8 (by omega) q; omega⟩) fun H7 es4 rn4 ns' I7 en => ⟨_, rfl, ?_⟩
      rw [note2] at en
      refine FIN (es3 := es4) (rn3 := rn4) ?_
      obtain ⟨h1, h2, h3, h4, h5, h6, h7, h8, h9, h10⟩ := I7
      refine ⟨h1, h2, h3, h4, ?_, h6, h7, h8, h9, h10⟩
      rw [h5, en, ec]; rfl
    · refine hrd I5 (.inl rfl) fun H6 es4 rn4 ns' I6 en => ⟨_, rfl, ?_⟩
      rw [note1A] at en
      have I6' : InR a H2 H6 A D S ws es2 rn2 os (j' + 1) e fr' frm nt2 es4 rn4 (j' + 1) [(nmA j', pvN ws es2 (j' + 1))] := by
        obtain ⟨h1, h2, h3, h4, h5, h6, h7, h8, h9, h10⟩ := I6
        exact ⟨h1, h2, h3, h4, by rw [h5, en], h6, h7, h8, h9, h10⟩
      refine ⟨I6'.w.hpc, ⟨_, _, _, I6'.w.ce _ c hc⟩, ?_⟩
      refine hcf I6' (by simp) fun H7 hn7 F67 => ⟨_, rfl, ?_⟩
      have I7 := I6'.note (ns' := nsA (j' + 1) e.cf (ws.getD (j' + 1) 0) (pvN ws es2 (j' + 1))) W2 F67 (by rw [hn7, note2A, ec]; rfl) (nt_apart I6'.w I6'.hn (.inr ⟨_, _, rfl, fun q => nmCA q.symm⟩) (upd_la I6'.up lt2))
      rw [Int.add_comm (pvN ws es2 (j' + 1)) (ws.getD (j' + 1) 0)]
      exact FIN I7
end
end Tr
set_option maxHeartbeats 4000000

namespace Tr
open PySem L2 LamX NdefX
section
variable {P : Program} {w : World} {K : PySem.W.Frag} {mg : Str → Option Value} {base : Heap} {a : Nat → Addr} {fd : Nat → FuncData} {tk : Nat → Tok}
variable {H H' H2 H6 H8 : Hp} {A : KA} {D : DA} {S : DSt} {ws : List Int} {es es2 es3 es4 : List Kf} {rn rn2 rn3 rn4 : List Int} {os : List Str} {j m J : Nat} {e : Kf} {z frm nt : Addr} {ns ns' : List (Str × Int)}
theorem mem_nsA {cf : Bool} {w v : Int} {q : Str × Int} (h : q ∈ nsA j cf w v) : q = (nmC j, w) ∨ ∃ j', j = j' + 1 ∧ q = (nmA j', v) := by
  match j with
  | 0 => exact .inl (List.mem_singleton.mp h)
  | j' + 1 =>
    simp only [nsA] at h
    split at h <;> simp at h <;> rcases h with h | h
    · exact .inl h
    · exact .inr ⟨j', rfl, h⟩
    · exact .inr ⟨j', rfl, h⟩
    · exact .inl h
theorem nsA_c {cf : Bool} {w v : Int} : (nmC j, w) ∈ nsA j cf w v := by
  match j with
  | 0 => simp [nsA]
  | j' + 1 => simp only [nsA]; split <;> simp
theorem nsA_a {cf : Bool} {w v : Int} : (nmA j, v) ∈ nsA (j + 1) cf w v := by
  simp only [nsA]; split <;> simp
theorem nsA_len {cf : Bool} {w v : Int} : (nsA j cf w v).length ≤ 2 := by
  match j with
  | 0 => simp [nsA]
  | j' + 1 => simp only [nsA]; split <;> simp
theorem key_N {vs : List V} {H : Hp} {Q : VK} {E : XK} (h : spWN a (m + 1) vs H Q E) : spWX a (spOOX a (spWN a m)) (wspL (spWkG a (spCX a (spWN a m))) qualL lamP lamB lamSc freeL) vs H Q E0 := by
  obtain ⟨A, D, S, ws, es, rn, os, j, e, rfl, he, hj, W, k⟩ := h
  have hjl : j < es.length := (List.getElem?_eq_some_iff.mp he).1
  obtain ⟨hx, KF, hrn⟩ := W.ef j e he
  refine ⟨A.d, D, S, e.x, nmA j, e.f, e.nt, _, _, _, os, rfl, W.dk, KF.ke, by have := W.lf; omega, W.fa, W.ho j hjl, fun H1 s1 => ?_⟩
  have W1 := W.same s1
  obtain ⟨_, KF1, _⟩ := W1.ef j e he
  refine ⟨fun H2 => ∃ es2 rn2 jj, jj ≤ j ∧ KL a H2 A D S ws es2 rn2 os ∧ Upd ws es es2 jj ∧ (∀ i, j ≤ i → rn2.getD i 0 = rn.getD i 0) ∧ Fr H1 H2 (frL A j) ∧ e.la ≠ some (ws.getD j 0, pvN ws es j), ?_, ?_, ?_⟩
  · rintro H2 ⟨es2, rn2, jj, hjj, W2, u2, r2, F12, hla⟩
    obtain ⟨e2, he2, _, _, g2⟩ := u2.at_ j e he
    cases g2 hjj
    have hpv := u2.pv j (by omega)
    refine run_N (m := m) W2 he2 hj (by rw [hpv]; exact hla) fun H' es' rn' W' u' r' F' G' => ?_
    have hpv1 := u2.pv (j + 1) (by omega)
    rw [hpv1]
    have u := u2.tr (show jj ≤ j + 1 by omega) u'
    have FF : Fr H H' (frL A (j + 1)) := (Fr.same s1).tr ((F12.sub fun y hy => frL_sub (by omega) hy).tr F')
    exact k _ _ _ W' u (fun i hi => by rw [r' i hi, r2 i (by omega)]) FF (gn_fr FF (W'.occ (by rw [u.len]; omega)))
  · intro hla
    refine ⟨es, rn, 0, Nat.zero_le _, W1, Upd.refl0, fun _ _ => rfl, fun x o h _ => h, fun q => ?_⟩
    rw [q] at hla; cases hla
  · intro hla
    obtain ⟨p, hp⟩ : ∃ p, e.la = some p := Option.isSome_iff_exists.mp hla
    have ent : ntA j e = nsA j e.cf p.1 p.2 := by unfold ntA; rw [hp]
    have hnt := KF1.hn
    rw [ent] at hnt
    refine ⟨A.d, D, S, e.x, nmA j, e.f, e.nt, _, _, _, _, rfl, W1.dk, KF1.ke, hnt, by have := nsA_len (j := j) (cf := e.cf) (w := p.1) (v := p.2); omega, fun G sG => ?_⟩
    have WG := W1.same sG
    have ocG := W1.occ (j := j) (by omega)
    refine ⟨fun i H' => ∃ es2 rn2 jj, jj ≤ j ∧ KL a H' A D S ws es2 rn2 os ∧ Upd ws es es2 jj ∧ (∀ i, j ≤ i → rn2.getD i 0 = rn.getD i 0) ∧ Fr G H' (frL A j) ∧
      ∀ q ∈ (nsA j e.cf p.1 p.2).take i, (q.1 = nmC j → q.2 = ws.getD j 0) ∧ (∀ j', j = j' + 1 → q.1 = nmA j' → q.2 = pvN ws es j ∧ jj = j), ?_, ?_, ?_, ?_⟩
    · exact ⟨es, rn, 0, Nat.zero_le _, WG, Upd.refl0, fun _ _ => rfl, fun x o h _ => h, by simp⟩
    · rintro i H2 ⟨es2, rn2, jj, hjj, W2, u2, r2, F2, _⟩ y o hy hn
      refine F2 _ _ hy fun hm => ?_
      obtain ⟨o', h'⟩ := ocG y hm
      rw [hn] at h'; cases h'
    · rintro i H2 q ⟨es2, rn2, jj, hjj, W2, u2, r2, F2, hok⟩ hq
      obtain ⟨e2, he2, _, _, g2⟩ := u2.at_ j e he
      cases g2 hjj
      have F12 : Fr H1 H2 (frL A j) := (Fr.same sG).tr F2
      rcases mem_nsA (List.mem_of_getElem? hq) with rfl | ⟨j', rfl, rfl⟩
      · obtain ⟨c, hc⟩ : ∃ c, A.cl[j]? = some c := by
          have h1 := (List.getElem?_eq_some_iff.mp hx).1
          exact ⟨_, List.getElem?_eq_getElem (by have := W.lx; omega)⟩
        refine ⟨D, S, c, W2.dk, ⟨_, _, _, _, _, (W2.ef j e he2).2.1.ke⟩, W2.hrc j c hc, .inl ⟨_, W2.ce j c hc, fun ev => ?_, fun nv => ?_⟩⟩
        · refine ⟨es2, rn2, jj, hjj, W2, u2, r2, F2, fun q hm => ?_⟩
          rw [take_snocM hq] at hm
          rcases List.mem_append.mp hm with hm | hm
          · exact hok q hm
          · rw [List.mem_singleton.mp hm]
            exact ⟨fun _ => ev.symm, fun j' _ q => absurd q nmCA⟩
        · refine .inr ⟨rfl, es2, rn2, jj, hjj, W2, u2, r2, F12, fun q => ?_⟩
          rw [hp] at q
          cases q
          exact nv rfl
      · obtain ⟨e', he'⟩ : ∃ e', es2[j']? = some e' := ⟨_, List.getElem?_eq_getElem (by rw [u2.len]; omega)⟩
        obtain ⟨hx', KF', _⟩ := W2.ef j' e' he'
        refine ⟨D, S, e'.x, W2.dk, ⟨_, _, _, _, _, (W2.ef (j' + 1) e he2).2.1.ke⟩, W2.hrx j' _ hx', .inr ⟨⟨_, _, _, _, _, _, KF'.ke⟩, ?_⟩⟩
        refine ⟨A, D, S, ws, es2, rn2, os, j', e', rfl, he', by omega, W2, fun H3 es3 rn3 W3 u3 r3 F3 _ => ?_⟩
        have hpv := u2.pv (j' + 1) (by omega)
        have u := u2.tr hjj u3
        refine ⟨_, rfl, fun ev => ?_, fun nv => ?_⟩
        · refine ⟨es3, rn3, j' + 1, Nat.le_refl _, W3, u, fun i hi => by rw [r3 i (by omega), r2 i hi], F2.tr F3, fun q hm => ?_⟩
          rw [take_snocM hq] at hm
          rcases List.mem_append.mp hm with hm | hm
          · obtain ⟨o1, o2⟩ := hok q hm
            exact ⟨o1, fun j'' ej en => ⟨(o2 j'' ej en).1, rfl⟩⟩
          · rw [List.mem_singleton.mp hm]
            exact ⟨fun q => absurd q.symm nmCA, fun j'' ej _ => ⟨by rw [← hpv]; exact ev.symm, rfl⟩⟩
        · refine .inr ⟨rfl, es3, rn3, j' + 1, Nat.le_refl _, W3, u, fun i hi => by rw [r3 i (by omega), r2 i hi], F12.tr F3, fun q => ?_⟩
          rw [hp] at q
          cases q
          rw [hpv] at nv
          exact nv rfl
    · rintro H2 ⟨es2, rn2, jj, hjj, W2, u2, r2, F2, hok⟩
      rw [List.take_length] at hok
      have hw1 : p.1 = ws.getD j 0 := (hok _ nsA_c).1 rfl
      have hv1 : p.2 = pvN ws es j ∧ jj = j := by
        match j with
        | 0 => exact ⟨KF.v0 rfl p hp, by omega⟩
        | j' + 1 => exact (hok _ nsA_a).2 j' rfl rfl
      obtain ⟨hv2, rfl⟩ := hv1
      have hla2 : e.la = some (ws.getD jj 0, pvN ws es jj) := by rw [hp, ← hw1, ← hv2]
      have u := u2.ext he hla2
      obtain ⟨e2, he2, _, _, g2⟩ := u2.at_ jj e he
      cases g2 (Nat.le_refl _)
      have hval : kvA e = .int (pvN ws es (jj + 1)) := by
        unfold kvA
        rw [hla2]
        show _ = V.int (mn ((es[jj]?.map (·.bd)).getD 0) _)
        rw [he]; rfl
      have FF : Fr H H2 (frL A (jj + 1)) := (Fr.same s1).tr ((Fr.same sG).tr (F2.sub fun y hy => frL_sub (by omega) hy))
      refine .inl ⟨rfl, ⟨e.nt, ((e.n : Nat) : Int), ?_⟩, ?_⟩
      · have := (W2.ef jj e he2).2.1.ke
        rw [hp] at this
        exact this
      · rw [hval]
        exact k _ _ _ W2 u (fun i hi => r2 i (by omega)) FF (gn_fr FF (W2.occ (by rw [u.len]; omega)))
/-- the promise holds, for so many answers -/
theorem ok_N (T : Tm P K mg a fd tk) : ∀ m, FnOk P w K mg base CX0 (8 * m + 8) (a 45) (fd 45) ["self"] (spWN a m)
  | 0 => by
    refine T.l.d.F_Kept_worth_now.ok sc_Kept_worth_now (fun vs H Q E h => ?_) (fun cdv A outer s H vs Q E hr h => ?_)
    · obtain ⟨A, D, S, ws, es, rn, os, j, e, rfl, _⟩ := h
      rfl
    · obtain ⟨A, D, S, ws, es, rn, os, j, e, rfl, _, hj, _⟩ := h
      exact absurd hj (Nat.not_lt_zero _)
  | m + 1 => by
    have F := ok_N T m
    have W := wok_work T (ok_callX T.l.d F spWN_mono) (spCX_mono spWN_mono)
    have G := ok_worthX T.l.d W (ok_ooX T.l.d F spWN_mono) (spOOX_mono spWN_mono) (by omega)
    exact (G.imp fun vs H Q E h => key_N h).mono (by omega)
end
end Tr
set_option maxHeartbeats 4000000

namespace Tr
open PySem L2 LamX NdefX
section
variable {P : Program} {w : World} {K : PySem.W.Frag} {mg : Str → Option Value} {base : Heap} {a : Nat → Addr} {fd : Nat → FuncData} {tk : Nat → Tok}
local macro_rules | `(tactic| walk_at "ne") => `(tactic| first | assumption | (exact Ne.symm (by assumption)) | (refine ne_of_none (by assumption) (by assumption)) | (refine Ne.symm (ne_of_none (by assumption) (by assumption))))
local macro_rules | `(tactic| walk_at "hl") => `(tactic| first | assumption | with_reducible exact upd_same | ((with_reducible refine' Eq.trans (upd_ne ?hne) ?hrest); (case hne => walk_at "ne"); (case hrest => walk_at "hl")) | (refine' get_same ?hs ?hg; (case hs => assumption); (case hg => assumption)))
local macro_rules | `(tactic| walk_at "at") => `(tactic| first | with_reducible exact atI_0 _ _ | with_reducible exact atI_1 _ _ _ | with_reducible exact atI_2 _ _ _ _ | with_reducible exact atI_3 _ _ _ _ _ | assumption)
local macro_rules | `(tactic| walk_at "rd1") => `(tactic| first
  | with_reducible refine s_seq ?_ | with_reducible refine s_next ?_ | with_reducible refine s_if ?_ | with_reducible refine s_ret ?_ | with_reducible refine s_retN ?_ | with_reducible refine s_drop ?_ | with_reducible refine s_asg ?_ | with_reducible refine s_brk ?_ | with_reducible refine s_cont ?_
  | with_reducible refine s_gname ?_ | with_reducible refine s_c ?_ | with_reducible refine s_op ?_ | with_reducible refine s_un ?_ | with_reducible refine s_neg ?_ | with_reducible refine s_test ?_ | with_reducible refine s_tb ?_ | with_reducible refine s_not ?_ | with_reducible refine s_and ?_ | with_reducible refine s_or ?_ | with_reducible refine s_yes ?_
  | ((with_reducible refine' s_var ?hv ?_); (case hv => exact rfl))
  | with_reducible refine s_ifx ?_ | with_reducible refine s_andV ?_ | with_reducible refine s_orV ?_ | with_reducible refine s_notV ?_ | with_reducible refine s_chain ?_ | with_reducible refine s_nil ?_ | with_reducible refine s_cons ?_ | with_reducible refine s_lst ?_ | with_reducible refine s_tup ?_ | with_reducible refine s_cb ?_ | with_reducible refine s_call ?_ | with_reducible refine s_meth ?_ | with_reducible refine s_make ?_
  | with_reducible refine s_dnewK ?_ | with_reducible refine s_sl ?_ | with_reducible refine s_po0 ?_ | with_reducible refine s_po1 ?_ | with_reducible refine s_bm ?_ | with_reducible refine s_bm0 ?_
  | with_reducible refine s_bl ?_ | with_reducible refine s_int ?_ | with_reducible refine s_I0 ?_ | with_reducible refine s_addI ?_ | with_reducible refine s_intI ?_ | with_reducible refine s_intB ?_
  | with_reducible refine s_m1 ?_ | with_reducible refine s_lc ?_ | with_reducible refine s_ilist ?_ | with_reducible refine s_for ?_ | with_reducible refine s_irng ?_ | with_reducible refine s_match ?_ | with_reducible refine s_starT ?_ | with_reducible refine s_isS ?_ | with_reducible refine s_isiSS ?_ | with_reducible refine s_fldU ?_ | with_reducible refine s_sfldU ?_
  | ((with_reducible refine' s_eqS ?hq ?_); (case hq => exact rfl)) | ((with_reducible refine' s_neS ?hq ?_); (case hq => exact rfl))
  | ((with_reducible refine' s_isN ?hq ?_); (case hq => exact rfl)) | ((with_reducible refine' s_notN ?hq ?_); (case hq => exact rfl))
  | ((with_reducible refine' s_eqNil ?h1 ?h2 ?_); (case h1 => walk_at "hl"); (case h2 => walk_at "hl")) | ((with_reducible refine' s_neNil ?h1 ?h2 ?_); (case h1 => walk_at "hl"); (case h2 => walk_at "hl"))
  | ((with_reducible refine' s_ixL ?h1 ?h2 ?_); (case h1 => walk_at "hl"); (case h2 => walk_at "at")) | ((with_reducible refine' s_ixT ?h1 ?h2 ?_); (case h1 => walk_at "hl"); (case h2 => walk_at "at"))
  | ((with_reducible refine' s_inS ?h1 ?_); (case h1 => walk_at "hl")) | ((with_reducible refine' s_ninS ?h1 ?_); (case h1 => walk_at "hl")) | with_reducible refine s_inW ?_
  | ((with_reducible refine' s_lenL ?h1 ?_); (case h1 => walk_at "hl")) | ((with_reducible refine' s_lenT ?h1 ?_); (case h1 => walk_at "hl"))
  | ((with_reducible refine' s_tyL ?h1 ?_); (case h1 => walk_at "hl"))
  | ((with_reducible refine' s_fldM ?h1 ?h2 ?h3 ?_); (case h1 => walk_at "hl"); (case h2 => walk_at "fok"); (case h3 => walk_at "flk"))
  | ((with_reducible refine' s_setM ?h1 ?h2 ?h3 ?h4 ?_); (case h1 => walk_at "hl"); (case h2 => walk_at "fok"); (case h4 => walk_at "put"); (case h3 => exact Nat.le_of_ble_eq_true rfl))
  | ((with_reducible refine' s_starM ?h1 ?_); (case h1 => walk_at "hl"))
  | ((with_reducible refine' s_recv ?h1 ?h2 ?_); (case h1 => walk_at "hl"); (case h2 => exact rfl))
  | ((with_reducible refine' s_sz ?h1 ?_); (case h1 => (simp; done))))
local macro_rules | `(tactic| walk_at "rd") => `(tactic| repeat (walk_at "rd1"))
local macro_rules | `(tactic| walk_at "fok") => `(tactic| assumption)
local macro_rules | `(tactic| walk_at "flk") => `(tactic| rfl)
local macro_rules | `(tactic| walk_at "put") => `(tactic| exact rfl)

local macro_rules | `(tactic| walk_at "fok") => `(tactic| first | assumption | exact Tj.ce (by assumption) (by decide) | exact Tj.de (by assumption) (by decide) | exact Tj.ke (by assumption) (by decide) | exact Tj.fe (by assumption) (by decide))
theorem s_tailM {X : Cx} {C : Addr} {m : Str} {sp : Sp} {ta : TE} {t : TA} {σ : L2.St} {H : Hp} {Q : VK} (h : ta σ H fun x H1 => ∃ a dx fs, x = .ref a ∧ H1 a = some (.ins C dx fs) ∧ fs.lookup m = none ∧ t σ H1 fun vs H2 => ∀ os, LentO X σ os → (∀ c o, os c = some o → H2 c = none) → sp (x :: vs) (lendH os H2) Q E0) : tTailM X C m sp ta t σ H Q := h
theorem nmA_eq {n : Nat} (h : n < 8) : Str.ofString "k" ++ Str.ofString (toString (n : Int)) = nmA n := by
  have : ∀ n ∈ List.range 8, Str.ofString "k" ++ Str.ofString (toString ((n : Nat) : Int)) = nmA n := by decide +kernel
  exact this n (List.mem_range.mpr h)
theorem nmC_eq {n : Nat} (h : n < 8) : Str.ofString "c" ++ Str.ofString (toString (n : Int)) = nmC n := by
  have : ∀ n ∈ List.range 8, Str.ofString "c" ++ Str.ofString (toString ((n : Nat) : Int)) = nmC n := by decide +kernel
  exact this n (List.mem_range.mpr h)
theorem nmA_len {n : Nat} (h : n < 8) : (nmA n).length ≤ 5 := by
  have : ∀ n ∈ List.range 8, (nmA n).length ≤ 5 := by decide +kernel
  exact this n (List.mem_range.mpr h)
theorem nmC_len {n : Nat} (h : n < 8) : (nmC n).length ≤ 5 := by
  have : ∀ n ∈ List.range 8, (nmC n).length ≤ 5 := by decide +kernel
  exact this n (List.mem_range.mpr h)
/-- the new answer's things -/
structure NewK (a : Nat → Addr) (H H' : Hp) (d : Addr) (D : DA) (S : DSt) (pr pc pa : Addr) (j : Nat) (bd : Int) (cf : Bool) (x f nt c : Addr) (clm : List (Str × Addr)) (os : Addr → Option PySem.Obj) : Prop where
  dk : DkAt a H' d D { S with names := S.names ++ [nmA j], rl := S.rl ++ [(nmA j, x)] }
  ke : KeptAt a H' d x (nmA j) f nt 0 .non false
  hn : H' nt = some (.dK [])
  lam : LamO f H' qualL lamP lamB lamSc clm c
  cf : CellsF clm freeL [.ref pr, .ref pc, .ref pa, .int (j : Nat), .int bd, .bl cf] os H'
  hT : Tabs (TabL a) H'
  fr : FrN H H' [D.un, D.rd]
  gn : Gn H H'
  nx : H x = none
def spKp (a : Nat → Addr) : Sp := fun vs H Q _ => ∃ d D S pr pc pa j bd cf, vs = [.ref d, .ref pr, .ref pc, .ref pa, .int ((j : Nat) : Int), .int bd, .bl cf] ∧ j < 8 ∧ DkAt a H d D S ∧ S.frs = [] ∧ nmA j ∉ S.names ∧ nmA j ∉ S.rl.map (·.1) ∧ S.names.length ≤ 50 ∧ S.rl.length ≤ 50 ∧ Tabs (TabL a) H ∧
  ∀ x f nt c clm os H', NewK a H H' d D S pr pc pa j bd cf x f nt c clm os → Q (.ref x) H'
theorem hkL : ∀ y ∈ freeL, (defScope s__law_kept).names.lookup y = some .cell := by decide +kernel
theorem ok__law_kept (T : Tm P K mg a fd tk) (TB : TabB base mg (a 38) (a 39)) : FnOk P w K mg base CX0 7 (a 35) (fd 35) ["_law_desk", "_law_runs", "_law_cells", "_law_answers", "_law_j", "_law_bound", "_law_cell_first"] (spKp a) := by
  refine T.F__law_kept.okL (N := ["_law_desk", "_law_runs", "_law_cells", "_law_answers", "_law_j", "_law_bound", "_law_cell_first"]) sc__law_kept rfl (fun vs H Q E h => ?_) (fun A outer s H vs Q E hr h => ?_)
  · obtain ⟨d, D, S, pr, pc, pa, j, bd, cf, rfl, _⟩ := h
    rfl
  · obtain ⟨d, D, S, pr, pc, pa, j, bd, cf, rfl, hj, DK, hfr, h1, h2, h3, h4, hT, k⟩ := h
    refine ⟨_, pt_methL (pv 0) T.l.d.cl_Desk T.l.d.m_Desk_kept (ok_Desk_kept T.l.d) (hr.mono (by omega)) (fun x => rfl) rfl (b_Desk_kept T.l.d) (pa_cons (pe_op uAdd pe_str (pe_callTy call_str_int (by rfl) T.b_str bt_str (pa_cons (pv 4) pa_nil))) (pa_cons (pe_lamF (T := TabL a) (params := lamP) (body := lamB) (scope := lamSc) TB rfl (by exact List.mem_singleton.mpr rfl) (fun p hp _ => by rw [List.mem_singleton.mp hp]; rfl) (show LamS (defScope s__law_kept) lamSc from lamS_by (by decide +kernel))) pa_nil)), ?_⟩
    have hob := DK.ob
    refine s_tailM ?_
    walk_at "rd"
    refine ⟨d, D.dd, _, rfl, hob, rfl, ?_⟩
    walk_at "rd"
    refine ⟨(j : Int), rfl, Nat.lt_of_le_of_lt (Nat.log2_le_self _) (by omega), ?_⟩
    have hln : (Str.ofString "k" ++ Str.ofString (toString ((j : Nat) : Int))).length ≤ 5 := by
      rw [nmA_eq hj]; exact nmA_len hj
    refine s_addS (sz_le (by rw [len_app] at hln; omega)) ?_
    rw [nmA_eq hj]
    walk_at "rd"
    refine ⟨hT, fun f c' pm ctv H1 ext nn T1 nf hf hc' => ?_⟩
    walk_at "rd"
    intro os lo free
    have CF := CellsF.of_lent (H := H1) scLam (L := s.heap.objs.size) rfl hkL lo (ws := [.ref pr, .ref pc, .ref pa, .int ((j : Nat) : Int), .int bd, .bl cf]) rfl (fun i y v e1 e2 => by
      match i, e1, e2 with
      | 0, e1, e2 => cases e1; cases e2; exact ⟨1, rfl, rfl⟩
      | 1, e1, e2 => cases e1; cases e2; exact ⟨2, rfl, rfl⟩
      | 2, e1, e2 => cases e1; cases e2; exact ⟨3, rfl, rfl⟩
      | 3, e1, e2 => cases e1; cases e2; exact ⟨4, rfl, rfl⟩
      | 4, e1, e2 => cases e1; cases e2; exact ⟨5, rfl, rfl⟩
      | 5, e1, e2 => cases e1; cases e2; exact ⟨6, rfl, rfl⟩
      | i + 6, e1, _ => simp [freeL] at e1)
    have sl : Same H1 (lendH os H1) := lend_same free
    have DKL := (DK.extN ext).same sl
    have ex : ∀ {y : Addr} {o : HO}, H y = some o → (∀ ps, o ≠ .tbl ps) → lendH os H1 y = some o := fun h n => sl _ _ (ext _ _ h n)
    have hfL := sl _ _ hf
    have hcL := sl _ _ hc'
    have TL := T1.ext sl
    have gL : Gn H (lendH os H1) := fun y hy => nn y (sl.free hy)
    generalize lendH os H1 = HL at CF sl DKL ex hfL hcL TL gL ⊢
    refine ⟨d, D, S, nmA j, f, rfl, DKL, hfr, h1, h2, h3, h4, fun x nt H2 DK2 KX2 hn2 nx nnt f2 => ?_⟩
    have dlu : ∀ {y : Addr} {o : HO}, HL y = some o → ¬ Dat o → y ∉ [D.un, D.rd] := fun {y o} h n hm => by
      simp only [List.mem_cons, List.not_mem_nil, or_false] at hm
      rcases hm with e | e
      · rw [e, DKL.un] at h; cases h; exact n (.inl ⟨_, rfl⟩)
      · rw [e, DKL.rd] at h; cases h; exact n (.inr (.inr ⟨_, rfl⟩))
    have dl : DatL HL [D.un, D.rd] := fun y hy o ho => by
      simp only [List.mem_cons, List.not_mem_nil, or_false] at hy
      rcases hy with e | e
      · rw [e, DKL.un] at ho; cases ho; exact .inl ⟨_, rfl⟩
      · rw [e, DKL.rd] at ho; cases ho; exact .inr (.inr ⟨_, rfl⟩)
    have g2 : Gn HL H2 := gn_fr f2 fun y hy => by
      simp only [List.mem_cons, List.not_mem_nil, or_false] at hy
      rcases hy with e | e
      · exact ⟨_, e ▸ DK2.un⟩
      · exact ⟨_, e ▸ DK2.rd⟩
    exact k x f nt c' _ _ H2 ⟨DK2, KX2, hn2, lamO_frs ⟨pm, ctv, hfL, hcL⟩ f2 dl, CF.keep fun c o _ h => f2 _ _ h (dl.not h nd_frz), tabs_frs TL f2 dl, fun y o hy n hS => f2 _ _ (ex hy n) hS, gL.tr g2, gL _ nx⟩
theorem b__law_kept (T : Tm P K mg a fd tk) : Binds K (fd 35) ["_law_desk", "_law_runs", "_law_cells", "_law_answers", "_law_j", "_law_bound", "_law_cell_first"] [] := T.F__law_kept.fn.binds fun _ _ _ _ _ _ us hl => match us, hl with | [_, _, _, _, _, _, _], _ => rfl
end
end Tr
set_option maxHeartbeats 4000000

namespace Tr
open PySem L2 LamX NdefX
section
variable {P : Program} {w : World} {K : PySem.W.Frag} {mg : Str → Option Value} {base : Heap} {a : Nat → Addr} {fd : Nat → FuncData} {tk : Nat → Tok}
local macro_rules | `(tactic| walk_at "ne") => `(tactic| first | assumption | (exact Ne.symm (by assumption)) | (refine ne_of_none (by assumption) (by assumption)) | (refine Ne.symm (ne_of_none (by assumption) (by assumption))))
local macro_rules | `(tactic| walk_at "hl") => `(tactic| first | assumption | with_reducible exact upd_same | ((with_reducible refine' Eq.trans (upd_ne ?hne) ?hrest); (case hne => walk_at "ne"); (case hrest => walk_at "hl")) | (refine' get_same ?hs ?hg; (case hs => assumption); (case hg => assumption)))
local macro_rules | `(tactic| walk_at "at") => `(tactic| first | with_reducible exact atI_0 _ _ | with_reducible exact atI_1 _ _ _ | with_reducible exact atI_2 _ _ _ _ | with_reducible exact atI_3 _ _ _ _ _ | assumption)
local macro_rules | `(tactic| walk_at "rd1") => `(tactic| first
  | with_reducible refine s_seq ?_ | with_reducible refine s_next ?_ | with_reducible refine s_if ?_ | with_reducible refine s_ret ?_ | with_reducible refine s_retN ?_ | with_reducible refine s_drop ?_ | with_reducible refine s_asg ?_ | with_reducible refine s_brk ?_ | with_reducible refine s_cont ?_
  | with_reducible refine s_gname ?_ | with_reducible refine s_c ?_ | with_reducible refine s_op ?_ | with_reducible refine s_un ?_ | with_reducible refine s_neg ?_ | with_reducible refine s_test ?_ | with_reducible refine s_tb ?_ | with_reducible refine s_not ?_ | with_reducible refine s_and ?_ | with_reducible refine s_or ?_ | with_reducible refine s_yes ?_
  | ((with_reducible refine' s_var ?hv ?_); (case hv => exact rfl))
  | with_reducible refine s_ifx ?_ | with_reducible refine s_andV ?_ | with_reducible refine s_orV ?_ | with_reducible refine s_notV ?_ | with_reducible refine s_chain ?_ | with_reducible refine s_nil ?_ | with_reducible refine s_cons ?_ | with_reducible refine s_lst ?_ | with_reducible refine s_tup ?_ | with_reducible refine s_cb ?_ | with_reducible refine s_call ?_ | with_reducible refine s_meth ?_ | with_reducible refine s_make ?_
  | with_reducible refine s_dnewK ?_ | with_reducible refine s_sl ?_ | with_reducible refine s_po0 ?_ | with_reducible refine s_po1 ?_ | with_reducible refine s_bm ?_ | with_reducible refine s_bm0 ?_
  | with_reducible refine s_bl ?_ | with_reducible refine s_int ?_ | with_reducible refine s_I0 ?_ | with_reducible refine s_addI ?_ | with_reducible refine s_intI ?_ | with_reducible refine s_intB ?_
  | with_reducible refine s_m1 ?_ | with_reducible refine s_lc ?_ | with_reducible refine s_ilist ?_ | with_reducible refine s_for ?_ | with_reducible refine s_irng ?_ | with_reducible refine s_match ?_ | with_reducible refine s_starT ?_ | with_reducible refine s_isS ?_ | with_reducible refine s_isiSS ?_ | with_reducible refine s_fldU ?_ | with_reducible refine s_sfldU ?_
  | ((with_reducible refine' s_eqS ?hq ?_); (case hq => exact rfl)) | ((with_reducible refine' s_neS ?hq ?_); (case hq => exact rfl))
  | ((with_reducible refine' s_isN ?hq ?_); (case hq => exact rfl)) | ((with_reducible refine' s_notN ?hq ?_); (case hq => exact rfl))
  | ((with_reducible refine' s_eqNil ?h1 ?h2 ?_); (case h1 => walk_at "hl"); (case h2 => walk_at "hl")) | ((with_reducible refine' s_neNil ?h1 ?h2 ?_); (case h1 => walk_at "hl"); (case h2 => walk_at "hl"))
  | ((with_reducible refine' s_ixL ?h1 ?h2 ?_); (case h1 => walk_at "hl"); (case h2 => walk_at "at")) | ((with_reducible refine' s_ixT ?h1 ?h2 ?_); (case h1 => walk_at "hl"); (case h2 => walk_at "at"))
  | ((with_reducible refine' s_inS ?h1 ?_); (case h1 => walk_at "hl")) | ((with_reducible refine' s_ninS ?h1 ?_); (case h1 => walk_at "hl")) | with_reducible refine s_inW ?_
  | ((with_reducible refine' s_lenL ?h1 ?_); (case h1 => walk_at "hl")) | ((with_reducible refine' s_lenT ?h1 ?_); (case h1 => walk_at "hl"))
  | ((with_reducible refine' s_tyL ?h1 ?_); (case h1 => walk_at "hl"))
  | ((with_reducible refine' s_fldM ?h1 ?h2 ?h3 ?_); (case h1 => walk_at "hl"); (case h2 => walk_at "fok"); (case h3 => walk_at "flk"))
  | ((with_reducible refine' s_setM ?h1 ?h2 ?h3 ?h4 ?_); (case h1 => walk_at "hl"); (case h2 => walk_at "fok"); (case h4 => walk_at "put"); (case h3 => exact Nat.le_of_ble_eq_true rfl))
  | ((with_reducible refine' s_starM ?h1 ?_); (case h1 => walk_at "hl"))
  | ((with_reducible refine' s_recv ?h1 ?h2 ?_); (case h1 => walk_at "hl"); (case h2 => exact rfl))
  | ((with_reducible refine' s_sz ?h1 ?_); (case h1 => (simp; done))))
local macro_rules | `(tactic| walk_at "rd") => `(tactic| repeat (walk_at "rd1"))
local macro_rules | `(tactic| walk_at "fok") => `(tactic| assumption)
local macro_rules | `(tactic| walk_at "flk") => `(tactic| rfl)
local macro_rules | `(tactic| walk_at "put") => `(tactic| exact rfl)

def pvP (ws bds : List Int) : Nat → Int
  | 0 => 0
  | j + 1 => mn (bds.getD j 0) (ws.getD j 0 + pvP ws bds j)
def LaRow (H : Hp) (bd : Int) (v : V) : Option (Int × Int) → Prop
  | none => v = .non
  | some p => ∃ r t, v = .ref r ∧ H r = some (.tup [.ref t, .int (mn bd (p.1 + p.2))]) ∧ H t = some (.tup [.int p.1, .int p.2])
/-- what was noted of each answer -/
def LastAt (H : Hp) (pl : Addr) (bds : List Int) (las : List (Option (Int × Int))) : Prop := ∃ vs, H pl = some (.lst vs) ∧ vs.length = las.length ∧ ∀ (i : Nat) (v : V) (la : Option (Int × Int)), vs[i]? = some v → las[i]? = some la → LaRow H (bds.getD i 0) v la
theorem LaRow.frs {H H' : Hp} {L : List Addr} {bd : Int} {v : V} {la : Option (Int × Int)} (h : LaRow H bd v la) (f : FrN H H' L) (dl : DatL H L) : LaRow H' bd v la := by
  cases la with
  | none => exact h
  | some p =>
    obtain ⟨r, t, e, h1, h2⟩ := h
    exact ⟨r, t, e, f _ _ h1 (by intros; simp) (dl.not h1 nd_tup), f _ _ h2 (by intros; simp) (dl.not h2 nd_tup)⟩
theorem LastAt.frs {H H' : Hp} {L : List Addr} {pl : Addr} {bds : List Int} {las : List (Option (Int × Int))} (h : LastAt H pl bds las) (f : FrN H H' L) (dl : DatL H L) (hp : pl ∉ L) : LastAt H' pl bds las := by
  obtain ⟨vs, h1, h2, h3⟩ := h
  exact ⟨vs, f _ _ h1 (by intros; simp) hp, h2, fun i v la e1 e2 => (h3 i v la e1 e2).frs f dl⟩
theorem LastAt.same {H H' : Hp} {pl : Addr} {bds : List Int} {las : List (Option (Int × Int))} (h : LastAt H pl bds las) (s : Same H H') : LastAt H' pl bds las := h.frs (L := []) (Fr.same s).toN .nil (by simp)
/-- the step of the due notes -/
structure UpdL (ws bds : List Int) (las las' : List (Option (Int × Int))) (rn rn' : List Int) (j : Nat) : Prop where
  ll : las'.length = las.length
  lr : rn'.length = rn.length
  lo : ∀ i, i < j → las'[i]? = some (some (ws.getD i 0, pvP ws bds i)) ∧ rn'.getD i 0 = rn.getD i 0 + if las[i]? = some (some (ws.getD i 0, pvP ws bds i)) then 0 else 1
  hi : ∀ i, j ≤ i → las'[i]? = las[i]? ∧ rn'.getD i 0 = rn.getD i 0
def spRead : Sp := fun vs H Q _ => ∃ (top m : Nat) (pw pb pl pdr : Addr) (ws bds rn : List Int) (las : List (Option (Int × Int))), vs = [.int (top : Nat), .ref pw, .ref pb, .ref pl, .ref pdr] ∧ H pw = some (.lst (ws.map V.int)) ∧ H pb = some (.lst (bds.map V.int)) ∧ H pdr = some (.lst (rn.map V.int)) ∧ LastAt H pl bds las ∧
  ws.length = m ∧ bds.length = m ∧ rn.length = m ∧ las.length = m ∧ m ≤ 8 ∧ top < m ∧ pw ≠ pl ∧ pw ≠ pdr ∧ pb ≠ pl ∧ pb ≠ pdr ∧ pl ≠ pdr ∧
  ∀ H' las' rn', Fr H H' [pl, pdr] → UpdL ws bds las las' rn rn' (top + 1) → H' pdr = some (.lst (rn'.map V.int)) → LastAt H' pl bds las' → Q (.int (pvP ws bds (top + 1))) H'
theorem s_seqJ {t1 t2 : TS} {na : L2.St → Hp → Prop} {rt : VK} {bk ct : L2.St → Hp → Prop} {σ : L2.St} {H : Hp} (S : L2.St → Hp → Prop) (h2 : ∀ σ' H', S σ' H' → t2 ⟨na, rt, bk, ct⟩ σ' H') (h1 : ∀ R : L2.St → Hp → Prop, (∀ σ' H', S σ' H' → R σ' H') → t1 ⟨R, rt, bk, ct⟩ σ H) : tSeq t1 t2 ⟨na, rt, bk, ct⟩ σ H := h1 _ h2
theorem eqv_ii {a b c d : Int} : PyData.eqv (.tuple [.int a, .int b]) (.tuple [.int c, .int d]) = decide ((a, b) = (c, d)) := by
  by_cases e1 : a = c
  · subst e1
    by_cases e2 : b = d
    · subst e2; simp [PyData.eqv, PyData.eqvAll]
    · simp [PyData.eqv, PyData.eqvAll, e2]
  · simp [PyData.eqv, PyData.eqvAll, e1]
theorem s_neT2 {H : Hp} {Q : VK} {p q : Addr} {a b c d : Int} (hp : H p = some (.tup [.int a, .int b])) (hq : H q = some (.tup [.int c, .int d])) (k : Q (.bl (!decide ((a, b) = (c, d)))) H) : rNeU K (.ref p) (.ref q) H Q := by
  unfold rNeU
  rw [if_neg (by simp [scal])]
  simp only [hq]
  exact ⟨.tuple [.int a, .int b], .tuple [.int c, .int d], .tup (SqT.of hp) (dp_ints [a, b]), .tup (SqT.of hq) (dp_ints [c, d]), shaped_tup (lay_ints [a, b]), shaped_tup (lay_ints [c, d]), by rw [eqv_ii]; exact k⟩
theorem ok__law_read (T : Tm P K mg a fd tk) : FnOk P w K mg base CX0 1 (a 36) (fd 36) ["_law_top", "_law_worths", "_law_bounds", "_law_last", "_law_due_runs"] spRead := by
  refine T.F__law_read.ok sc__law_read (fun vs H Q E h => ?_) (fun cdv Ar outer s H vs Q E hr h => ?_)
  · obtain ⟨top, m, pw, pb, pl, pdr, ws, bds, rn, las, rfl, _⟩ := h
    rfl
  · obtain ⟨top, m, pw, pb, pl, pdr, ws, bds, rn, las, rfl, hw, hb, hd, hl, lw, lb, lr, ll, m8, ht, n1, n2, n3, n4, n5, k⟩ := h
    refine ⟨_, (pss_cons (ps_asg pe_int (pg_name (i := 5) sc__law_read.nd rfl (by first | exact Or.inl rfl | exact Or.inr rfl)))
  (pss_cons (ps_for PassesOwn.never rfl (pi_range1 (by rfl) T.l.d.b_range (pa_cons (pe_op uAdd (pv 0) pe_int) pa_nil)) (pg_name (i := 6) sc__law_read.nd rfl (by first | exact Or.inl rfl | exact Or.inr rfl))
   (pss_cons (ps_asg (pe_tup (pa_cons (pe_ix uIx (pv 1) (pv 6) (fun _ _ => rfl)) (pa_cons (pv 5) pa_nil))) (pg_name (i := 7) sc__law_read.nd rfl (by first | exact Or.inl rfl | exact Or.inr rfl)))
  (pss_cons (ps_if (PW.pt (pw_or (pt_cmpR op_isN1 (pe_ix uIx (pv 3) (pv 6) (fun _ _ => rfl)) pe_non (nomark _)) (pw_or1 (pt_cmpR (uNe K hr.units) (pe_ix uIx (pe_ix uIx (pv 3) (pv 6) (fun _ _ => rfl)) pe_int (fun _ _ => rfl)) (pv 7) (nomark _))))) (pss_cons (ps_asg (pe_tup (pa_cons (pv 7) (pa_cons (pe_callB (call_min2 rfl) (by rfl) T.b_min bt_min (pa_cons (pe_ix uIx (pv 2) (pv 6) (fun _ _ => rfl)) (pa_cons (pe_op uAdd (pe_ix uIx (pv 1) (pv 6) (fun _ _ => rfl)) (pv 5)) pa_nil))) pa_nil))) (pg_sub (pv 3) (pv 6) set_listU))
  (pss_one (ps_asg (pe_op uAdd (pe_ix uIx (pv 4) (pv 6) (fun _ _ => rfl)) pe_int) (pg_sub (pv 4) (pv 6) set_listU)))) pss_nil)
  (pss_one (ps_asg (pe_ix uIx (pe_ix uIx (pv 3) (pv 6) (fun _ _ => rfl)) pe_int (fun _ _ => rfl)) (pg_name (i := 5) sc__law_read.nd rfl (by first | exact Or.inl rfl | exact Or.inr rfl)))))))
  (pss_one (ps_ret (pv 5))))), ?_⟩
    walk_at "rd"
    refine s_forR (by omega) (by omega) (fun i σ H' => ∃ v6 v7 las' rn', σ = [some (.int (top : Nat)), some (.ref pw), some (.ref pb), some (.ref pl), some (.ref pdr), some (.int (pvP ws bds i)), v6, v7] ∧ Fr H H' [pl, pdr] ∧ UpdL ws bds las las' rn rn' i ∧ H' pdr = some (.lst (rn'.map V.int)) ∧ LastAt H' pl bds las')
      ⟨none, none, las, rn, rfl, fun x o h _ => h, ⟨rfl, rfl, fun i hi => by omega, fun i _ => ⟨rfl, rfl⟩⟩, hd, hl⟩ ?_ ?_
    · rintro i σ H1 hi ⟨v6, v7, las', rn', rfl, f1, u, hd1, hl1⟩
      have i8 : i < m := by omega
      have hw1 := f1 _ _ hw (by simp [n1, n2])
      have hb1 := f1 _ _ hb (by simp [n3, n4])
      obtain ⟨vs, hv, lv, hvs⟩ := hl1
      obtain ⟨la, hla⟩ : ∃ la, las'[i]? = some la := ⟨_, List.getElem?_eq_getElem (by rw [u.ll]; omega)⟩
      obtain ⟨v, hvi⟩ : ∃ v, vs[i]? = some v := ⟨_, List.getElem?_eq_getElem (by rw [lv, u.ll]; omega)⟩
      have hrow := hvs i v la hvi hla
      have hla0 : las[i]? = some la := by rw [← (u.hi i (Nat.le_refl _)).1]; exact hla
      walk_at "rd"
      refine s_ixL hw1 (atI_nat (getI (by omega))) ?_
      walk_at "rd"
      intro t nt
      have st := Same.new (o := .tup [.int (ws.getD i 0), .int (pvP ws bds i)]) nt
      have htt : upd H1 t (.tup [.int (ws.getD i 0), .int (pvP ws bds i)]) t = some (.tup [.int (ws.getD i 0), .int (pvP ws bds i)]) := upd_same
      have hw2 := st _ _ hw1
      have hb2 := st _ _ hb1
      have hd2 := st _ _ hd1
      have hv2 := st _ _ hv
      have hrow2 : ∀ {i2 : Nat} {v : V} {la : Option (Int × Int)}, vs[i2]? = some v → las'[i2]? = some la → LaRow (upd H1 t (.tup [.int (ws.getD i 0), .int (pvP ws bds i)])) (bds.getD i2 0) v la := fun {i2 v la} e1 e2 => (hvs i2 v la e1 e2).frs (L := []) (Fr.same st).toN .nil
      have f2 : Fr H (upd H1 t (.tup [.int (ws.getD i 0), .int (pvP ws bds i)])) [pl, pdr] := f1.tr (Fr.same st)
      generalize upd H1 t (.tup [.int (ws.getD i 0), .int (pvP ws bds i)]) = H2 at htt hw2 hb2 hd2 hv2 hrow2 f2 ⊢
      clear hw1 hb1 hd1 hv hvs st nt hrow
      have hrow := hrow2 hvi hla
      have evr : ∀ (vi : Int), mn (bds.getD i 0) (ws.getD i 0 + pvP ws bds i) = vi → pvP ws bds (i + 1) = vi := fun vi e => e
      refine s_gname ?_
      refine s_seqJ (fun σ' H' => ∃ las' rn' vs r t, σ' = [some (.int (top : Nat)), some (.ref pw), some (.ref pb), some (.ref pl), some (.ref pdr), some (.int (pvP ws bds i)), some (.int (i : Nat)), some (.ref t)] ∧ Fr H H' [pl, pdr] ∧ UpdL ws bds las las' rn rn' (i + 1) ∧ H' pdr = some (.lst (rn'.map V.int)) ∧ H' pl = some (.lst vs) ∧ LastAt H' pl bds las' ∧ vs[i]? = some (.ref r)) (fun σ' H' hS => ?_) fun R' hR' => ?_
      · obtain ⟨las2, rn2, vs2, r, t2, rfl, f3, u3, hd3, hv3, hl3, hr3⟩ := hS
        have hl3' := hl3
        obtain ⟨vs4, h4, l4, r4⟩ := hl3'
        rw [hv3] at h4
        cases h4
        obtain ⟨r', t', e1, e2, e3⟩ := r4 i _ _ hr3 (u3.lo i (by omega)).1
        cases e1
        walk_at "rd"
        refine s_ixL hv3 (atI_nat hr3) ?_
        walk_at "rd"
        exact ⟨_, _, las2, rn2, rfl, f3, u3, hd3, hl3⟩
      · have dw : UpdL ws bds las (las'.set i (some (ws.getD i 0, pvP ws bds i))) rn (rn'.set i (rn'.getD i 0 + if las[i]? = some (some (ws.getD i 0, pvP ws bds i)) then 0 else 1)) (i + 1) := by
          refine ⟨by rw [List.length_set, u.ll], by rw [List.length_set, u.lr], fun i2 h => ?_, fun i2 h => ?_⟩
          · by_cases e : i2 = i
            · subst e
              rw [List.getElem?_set_self (by rw [u.ll]; omega), getD_set_eqI (by rw [u.lr]; omega), (u.hi i2 (Nat.le_refl _)).2]
              exact ⟨rfl, rfl⟩
            · rw [List.getElem?_set_ne (Ne.symm e), getD_set_neI (Ne.symm (Ne.symm e))]
              exact u.lo i2 (by omega)
          · rw [List.getElem?_set_ne (by omega), getD_set_neI (by omega)]
            exact u.hi i2 (by omega)
        have lvs : i < vs.length := (List.getElem?_eq_some_iff.mp hvi).1
        have FIN : ∀ rr, H2 rr = none → las[i]? ≠ some (some (ws.getD i 0, pvP ws bds i)) → R' [some (.int (top : Nat)), some (.ref pw), some (.ref pb), some (.ref pl), some (.ref pdr), some (.int (pvP ws bds i)), some (.int (i : Nat)), some (.ref t)] (upd (upd (upd H2 rr (.tup [.ref t, .int (mn (bds.getD i 0) (ws.getD i 0 + pvP ws bds i))])) pl (.lst (vs.set i (.ref rr)))) pdr (.lst ((rn'.set i (rn'.getD i 0 + 1)).map V.int))) := by
          intro rr nr hne
          rw [if_neg hne] at dw
          have sr := Same.new (o := .tup [.ref t, .int (mn (bds.getD i 0) (ws.getD i 0 + pvP ws bds i))]) nr
          have hrr : upd H2 rr (.tup [.ref t, .int (mn (bds.getD i 0) (ws.getD i 0 + pvP ws bds i))]) rr = some (.tup [.ref t, .int (mn (bds.getD i 0) (ws.getD i 0 + pvP ws bds i))]) := upd_same
          have htt3 := sr _ _ htt
          have hv3 := sr _ _ hv2
          have hd3 := sr _ _ hd2
          have hrow3 : ∀ {i2 : Nat} {v : V} {la : Option (Int × Int)}, vs[i2]? = some v → las'[i2]? = some la → LaRow (upd H2 rr (.tup [.ref t, .int (mn (bds.getD i 0) (ws.getD i 0 + pvP ws bds i))])) (bds.getD i2 0) v la := fun {i2 v la} e1 e2 => (hrow2 e1 e2).frs (L := []) (Fr.same sr).toN .nil
          have f3 := f2.tr (Fr.same (S := [pl, pdr]) sr)
          generalize upd H2 rr (.tup [.ref t, .int (mn (bds.getD i 0) (ws.getD i 0 + pvP ws bds i))]) = H3 at hrr htt3 hv3 hd3 hrow3 f3 ⊢
          have f4 : Fr H3 (upd (upd H3 pl (.lst (vs.set i (.ref rr)))) pdr (.lst ((rn'.set i (rn'.getD i 0 + 1)).map V.int))) [pl, pdr] := fun y o hy hS => by
            simp only [List.mem_cons, List.not_mem_nil, or_false, not_or] at hS
            rw [upd_ne hS.2, upd_ne hS.1]; exact hy
          have hp4 : upd (upd H3 pl (.lst (vs.set i (.ref rr)))) pdr (.lst ((rn'.set i (rn'.getD i 0 + 1)).map V.int)) pl = some (.lst (vs.set i (.ref rr))) := by rw [upd_ne n5]; exact upd_same
          have dl : DatL H3 [pl, pdr] := .lst hv3 (.lst hd3 .nil)
          refine hR' _ _ ⟨_, _, _, rr, t, rfl, f3.tr f4, dw, upd_same, hp4, ⟨_, hp4, by rw [List.length_set, List.length_set, lv], fun i2 v la e1 e2 => ?_⟩, List.getElem?_set_self lvs⟩
          by_cases e : i2 = i
          · subst e
            rw [List.getElem?_set_self lvs] at e1
            rw [List.getElem?_set_self (by rw [u.ll]; omega)] at e2
            cases e1
            cases e2
            exact ⟨rr, t, rfl, f4 _ _ hrr (dl.not hrr nd_tup), f4 _ _ htt3 (dl.not htt3 nd_tup)⟩
          · rw [List.getElem?_set_ne (Ne.symm e)] at e1 e2
            exact (hrow3 e1 e2).frs f4.toN dl
        have pn1 : pw ≠ pl := n1
        have ixv : ixN vs.length ((i : Nat) : Int) = some i := ixN_nat lvs
        cases la with
        | none =>
          cases hrow
          walk_at "rd"
          refine s_ixL hv2 (atI_nat hvi) ?_
          walk_at "rd"
          refine ifT rfl (ifT rfl ?_)
          walk_at "rd"
          refine s_ixL hb2 (atI_nat (getI (by omega))) ?_
          walk_at "rd"
          refine s_ixL hw2 (atI_nat (getI (by omega))) ?_
          walk_at "rd"
          refine ⟨_, _, rfl, ?_⟩
          walk_at "rd"
          intro rr nr
          have sr := Same.new (o := .tup [.ref t, .int (mn (bds.getD i 0) (ws.getD i 0 + pvP ws bds i))]) nr
          walk_at "rd"
          refine s_gsub ?_
          walk_at "rd"
          refine s_setU (sr _ _ hv2) ixv ?_
          walk_at "rd"
          refine s_ixL (by rw [upd_ne (Ne.symm n5)]; exact sr _ _ hd2) (atI_nat (getI (by rw [u.lr]; omega))) ?_
          walk_at "rd"
          refine s_gsub ?_
          walk_at "rd"
          refine s_setU (by rw [upd_ne (Ne.symm n5)]; exact sr _ _ hd2) (ixN_nat (by rw [List.length_map, u.lr]; omega)) ?_
          rw [← List.map_set]
          exact FIN rr nr (by rw [hla0]; simp)
        | some p =>
          obtain ⟨r, t2, rfl, h1, h2⟩ := hrow
          walk_at "rd"
          refine s_ixL hv2 (atI_nat hvi) ?_
          walk_at "rd"
          refine ifF rfl ?_
          walk_at "rd"
          refine s_ixL hv2 (atI_nat hvi) ?_
          walk_at "rd"
          refine s_neT2 h2 htt ?_
          by_cases hp : (p.1, p.2) = (ws.getD i 0, pvP ws bds i)
          · refine ⟨_, rfl, ?_⟩
            refine ifF (by rw [decide_eq_true hp]; rfl) ?_
            refine hR' _ _ ⟨las', rn', vs, r, t, rfl, f2, ⟨u.ll, u.lr, fun i2 h => ?_, fun i2 h => u.hi i2 (by omega)⟩, hd2, hv2, ⟨vs, hv2, lv, fun i2 v la e1 e2 => hrow2 e1 e2⟩, hvi⟩
            by_cases e : i2 = i
            · subst e
              have ep : p = (ws.getD i2 0, pvP ws bds i2) := hp
              rw [hla, ep, hla0, ep, if_pos rfl, Int.add_zero]
              exact ⟨rfl, (u.hi i2 (Nat.le_refl _)).2⟩
            · exact u.lo i2 (by omega)
          · refine ⟨_, rfl, ?_⟩
            refine ifT (by rw [decide_eq_false hp]; rfl) ?_
            walk_at "rd"
            refine s_ixL hb2 (atI_nat (getI (by omega))) ?_
            walk_at "rd"
            refine s_ixL hw2 (atI_nat (getI (by omega))) ?_
            walk_at "rd"
            refine ⟨_, _, rfl, ?_⟩
            walk_at "rd"
            intro rr nr
            have sr := Same.new (o := .tup [.ref t, .int (mn (bds.getD i 0) (ws.getD i 0 + pvP ws bds i))]) nr
            walk_at "rd"
            refine s_gsub ?_
            walk_at "rd"
            refine s_setU (sr _ _ hv2) ixv ?_
            walk_at "rd"
            refine s_ixL (by rw [upd_ne (Ne.symm n5)]; exact sr _ _ hd2) (atI_nat (getI (by rw [u.lr]; omega))) ?_
            walk_at "rd"
            refine s_gsub ?_
            walk_at "rd"
            refine s_setU (by rw [upd_ne (Ne.symm n5)]; exact sr _ _ hd2) (ixN_nat (by rw [List.length_map, u.lr]; omega)) ?_
            rw [← List.map_set]
            exact FIN rr nr (by
              rw [hla0]
              intro q
              exact hp (Option.some.inj (Option.some.inj q)))
    · rintro σ H1 ⟨v6, v7, las', rn', rfl, f1, u, hd1, hl1⟩
      walk_at "rd"
      exact k H1 las' rn' f1 u hd1 hl1
theorem b__law_read (T : Tm P K mg a fd tk) : Binds K (fd 36) ["_law_top", "_law_worths", "_law_bounds", "_law_last", "_law_due_runs"] [] := T.F__law_read.binds fun _ _ _ _ _ _ us hl => match us, hl with | [_, _, _, _, _], _ => rfl
end
end Tr
set_option maxHeartbeats 4000000

namespace Tr
open PySem L2 LamX NdefX
section
variable {P : Program} {w : World} {K : PySem.W.Frag} {mg : Str → Option Value} {base : Heap} {a : Nat → Addr} {fd : Nat → FuncData} {tk : Nat → Tok}
variable {H0 H H' : Hp} {A : KA} {D : DA} {S : DSt} {ws bds : List Int} {es : List Kf} {rn rd rd' : List Int} {las las' : List (Option (Int × Int))} {os : List Str} {cnt cnt' : Nat} {L : List Addr}
def nmL (f : Nat → Str) (cl : List Addr) : List (Str × Addr) := cl.zipIdx.map fun p => (f p.2, p.1)
theorem nmL_snoc {f : Nat → Str} {cl : List Addr} {c : Addr} : nmL f (cl ++ [c]) = nmL f cl ++ [(f cl.length, c)] := by
  unfold nmL
  rw [List.zipIdx_append]
  simp
theorem nmL_len {f : Nat → Str} {cl : List Addr} : (nmL f cl).length = cl.length := by simp [nmL]
theorem mem_nmL {f : Nat → Str} {cl : List Addr} {p : Str × Addr} : p ∈ nmL f cl ↔ ∃ j c', cl[j]? = some c' ∧ p = (f j, c') := by
  unfold nmL
  rw [List.mem_map]
  constructor
  · rintro ⟨⟨c', j⟩, h1, rfl⟩
    exact ⟨j, c', by simpa using List.mem_zipIdx_iff_getElem?.mp h1, rfl⟩
  · rintro ⟨j, c', h1, rfl⟩
    exact ⟨(c', j), List.mem_zipIdx_iff_getElem?.mpr h1, rfl⟩
theorem valV_cd {nm : Str} {c : Addr} : ∀ {l : List (Str × Addr)}, (nm, c) ∈ l → (∀ c', (nm, c') ∈ l → c' = c) → valV (cdK l) (.inr nm) = some (.ref c)
  | [], h, _ => by cases h
  | q :: l, h, hu => by
    have e : cdK (q :: l) = (.inr q.1, .ref q.2) :: cdK l := rfl
    rw [e]
    by_cases hq : q.1 = nm
    · have : q.2 = c := hu q.2 (by rw [← hq]; exact List.mem_cons_self ..)
      rw [this]
      exact valV_pos (by rw [hq])
    · rw [valV_neg (fun z => hq (Sum.inr.inj z))]
      rcases List.mem_cons.mp h with h | h
      · exact absurd (by rw [← h]) hq
      · exact valV_cd h fun c' h' => hu c' (List.mem_cons_of_mem _ h')
def Sk (cl xs : List Addr) : DSt := { S0 with names := (List.range cl.length).map nmC ++ (List.range xs.length).map nmA, cl := nmL nmC cl, rl := nmL nmC cl ++ nmL nmA xs }
theorem Sk_c {cl : List Addr} {c : Addr} : Sk (cl ++ [c]) [] = { Sk cl [] with names := (Sk cl []).names ++ [nmC cl.length], cl := (Sk cl []).cl ++ [(nmC cl.length, c)], rl := (Sk cl []).rl ++ [(nmC cl.length, c)] } := by
  have e : nmL nmA [] = [] := rfl
  unfold Sk
  simp [nmL_snoc, List.range_succ, e]
theorem Sk_x {cl xs : List Addr} {x : Addr} : Sk cl (xs ++ [x]) = { Sk cl xs with names := (Sk cl xs).names ++ [nmA xs.length], rl := (Sk cl xs).rl ++ [(nmA xs.length, x)] } := by
  unfold Sk
  simp [nmL_snoc, List.range_succ]
theorem hrcS {cl xs : List Addr} (l8 : cl.length ≤ 8) {k : Nat} {c : Addr} (h : cl[k]? = some c) : valV (cdK (Sk cl xs).rl) (.inr (nmC k)) = some (.ref c) := by
  have hk := (List.getElem?_eq_some_iff.mp h).1
  refine valV_cd (List.mem_append.mpr (.inl (mem_nmL.mpr ⟨k, c, h, rfl⟩))) fun c' h' => ?_
  rcases List.mem_append.mp h' with h' | h'
  · obtain ⟨j, c2, e1, e2⟩ := mem_nmL.mp h'
    obtain ⟨e3, e4⟩ := Prod.mk.inj e2
    have hj := (List.getElem?_eq_some_iff.mp e1).1
    have := nmC_inj (by omega) (by omega) e3
    subst this
    rw [h] at e1
    cases e1
    exact e4
  · obtain ⟨j, c2, e1, e2⟩ := mem_nmL.mp h'
    exact absurd (Prod.mk.inj e2).1 nmCA
theorem hrxS {cl xs : List Addr} (l8 : xs.length ≤ 8) {k : Nat} {c : Addr} (h : xs[k]? = some c) : valV (cdK (Sk cl xs).rl) (.inr (nmA k)) = some (.ref c) := by
  have hk := (List.getElem?_eq_some_iff.mp h).1
  refine valV_cd (List.mem_append.mpr (.inr (mem_nmL.mpr ⟨k, c, h, rfl⟩))) fun c' h' => ?_
  rcases List.mem_append.mp h' with h' | h'
  · obtain ⟨j, c2, e1, e2⟩ := mem_nmL.mp h'
    exact absurd (Prod.mk.inj e2).1.symm nmCA
  · obtain ⟨j, c2, e1, e2⟩ := mem_nmL.mp h'
    obtain ⟨e3, e4⟩ := Prod.mk.inj e2
    have hj := (List.getElem?_eq_some_iff.mp e1).1
    have := nmA_inj (by omega) (by omega) e3
    subst this
    rw [h] at e1
    cases e1
    exact e4
theorem lamO_frN {g : Addr} {q : Str} {p : Arguments} {b : Expr} {sc : Scope} {cl : List (Str × Addr)} {c : Addr} (h : LamO g H q p b sc cl c) (f : FrN H H' L) (d : DatL H L) : LamO g H' q p b sc cl c := by
  obtain ⟨pm, ctv, l1, l2⟩ := h
  exact ⟨pm, ctv, f _ _ l1 (by intros; simp) (d.not l1 nd_frz), f _ _ l2 (fun ps z => by unfold CodeO at z; cases z) (d.not l2 nd_code)⟩
theorem DkAt.frN {d : Addr} (h : DkAt a H d D S) (f : FrN H H' L) (hS : ∀ x ∈ dAll d D, x ∉ L) : DkAt a H' d D S := by
  obtain ⟨ms, m1, m2⟩ := h.mv
  exact ⟨f _ _ h.ob (by intros; simp) (hS _ (by simp [dAll])), f _ _ h.un (by intros; simp) (hS _ (by simp [dAll])), f _ _ h.cs (by intros; simp) (hS _ (by simp [dAll])), f _ _ h.rd (by intros; simp) (hS _ (by simp [dAll])), f _ _ h.ef (by intros; simp) (hS _ (by simp [dAll])), f _ _ h.lg (by intros; simp) (hS _ (by simp [dAll])), f _ _ h.fr (by intros; simp) (hS _ (by simp [dAll])), ⟨ms, f _ _ m1 (by intros; simp) (hS _ (by simp [dAll])), m2⟩, h.nd⟩
theorem KfAt.frN {j : Nat} {e : Kf} (h : KfAt a H A j e) (f : FrN H H' L) (dl : DatL H L) (hx : e.x ∉ L) (hn : e.nt ∉ L) : KfAt a H' A j e := by
  obtain ⟨dx, h1⟩ := h.ke
  exact ⟨⟨dx, f _ _ h1 (by intros; simp) hx⟩, f _ _ h.hn (by intros; simp) hn, lamO_frN h.lam f dl, h.cf.keep fun c o _ q => f _ _ q (by intros; simp) (dl.not q nd_frz), h.v0⟩
theorem KL.frN (W : KL a H A D S ws es rn os) (hfr : S.frs = []) (f : FrN H H' L) (hd : ∀ y ∈ dAll A.d D, y ∉ L) (n1 : A.pc ∉ L) (n2 : A.pa ∉ L) (n3 : A.pr ∉ L) (hL : ∀ y ∈ L, ∃ xs, H y = some (.lst xs)) : KL a H' A D S ws es rn os := by
  have dl : DatL H L := fun y hy o ho => by
    obtain ⟨xs, h⟩ := hL y hy
    rw [h] at ho; cases ho; exact .inl ⟨_, rfl⟩
  have ni : ∀ {y : Addr} {o : HO}, H y = some o → (∀ xs, o ≠ .lst xs) → y ∉ L := fun h n hm => by
    obtain ⟨xs, h2⟩ := hL _ hm
    rw [h] at h2; exact n _ (Option.some.inj h2)
  refine ⟨W.dk.frN f hd, W.hrc, W.hrx, f _ _ W.hpc (by intros; simp) n1, f _ _ W.hpa (by intros; simp) n2, f _ _ W.hpr (by intros; simp) n3, fun k c e => ?_, fun j e h => ?_, W.l8, W.lx, W.le, W.lr, ?_, W.lf, W.ho, W.np, W.nx⟩
  · obtain ⟨dc, hc⟩ := W.ce k c e
    exact ⟨dc, f _ _ hc (by intros; simp) (ni hc (by intros; simp))⟩
  · obtain ⟨g1, g2, g3⟩ := W.ef j e h
    obtain ⟨dx, hx⟩ := g2.ke
    exact ⟨g1, g2.frN f dl (ni hx (by intros; simp)) (ni g2.hn (by intros; simp)), g3⟩
  · have := W.fa
    rw [hfr] at this ⊢
    cases os with
    | nil => trivial
    | cons o os => exact this.elim
structure LK where
  b : Addr
  pw : Addr
  pb : Addr
  pdr : Addr
  pl : Addr
def lsK (B : LK) (A : KA) : List Addr := [B.b, A.pc, A.pa, A.pr, B.pw, B.pb, B.pdr, B.pl]
/-- what stands in the law's round -/
structure EK (a : Nat → Addr) (H0 H : Hp) (B : LK) (A : KA) (cnt : Nat) (D : DA) (ws bds : List Int) (es : List Kf) (rn rd : List Int) (las : List (Option (Int × Int))) : Prop where
  hB : BagD H B.b cnt
  hT : Tabs (TabL a) H
  w : KL a H A D (Sk A.cl A.xs) ws es rn []
  mv : H D.mv = some (.lst [])
  hpw : H B.pw = some (.lst (ws.map V.int))
  hpb : H B.pb = some (.lst (bds.map V.int))
  hdr : H B.pdr = some (.lst (rd.map V.int))
  hla : LastAt H B.pl bds las
  lw : ws.length = A.cl.length
  lb : bds.length = A.cl.length
  ld : rd.length = A.cl.length
  ll : las.length = A.cl.length
  l2 : 2 ≤ A.cl.length
  n1 : (lsK B A).Nodup
  n2 : ∀ y ∈ dAll A.d D, y ∉ lsK B A
  an : FrN H0 H [B.b]
  gn : Gn H0 H
  nb : ∀ y ∈ lsK B A, y ≠ B.b → H0 y = none
  nd : ∀ y ∈ dAll A.d D, H0 y = none
  nc : ∀ c ∈ A.cl, H0 c = none
  nx : ∀ x ∈ A.xs, H0 x = none
variable {B : LK}
theorem EK.lst' (W : EK a H0 H B A cnt D ws bds es rn rd las) : ∀ y ∈ [B.b, B.pw, B.pb, B.pdr, B.pl], ∃ xs, H y = some (.lst xs) := fun y hy => by
  simp only [List.mem_cons, List.not_mem_nil, or_false] at hy
  rcases hy with h | h | h | h | h
  · obtain ⟨xs, hh⟩ := bag_lst W.hB; exact ⟨xs, h ▸ hh⟩
  · exact ⟨_, h ▸ W.hpw⟩
  · exact ⟨_, h ▸ W.hpb⟩
  · exact ⟨_, h ▸ W.hdr⟩
  · obtain ⟨vs, h1, _⟩ := W.hla; exact ⟨_, h ▸ h1⟩
theorem EK.lsx (W : EK a H0 H B A cnt D ws bds es rn rd las) : ∀ y ∈ lsK B A, ∃ xs, H y = some (.lst xs) := fun y hy => by
  simp only [lsK, List.mem_cons, List.not_mem_nil, or_false] at hy
  rcases hy with h | h | h | h | h | h | h | h
  · exact W.lst' y (by simp [h])
  · exact ⟨_, h ▸ W.w.hpc⟩
  · exact ⟨_, h ▸ W.w.hpa⟩
  · exact ⟨_, h ▸ W.w.hpr⟩
  · exact W.lst' y (by simp [h])
  · exact W.lst' y (by simp [h])
  · exact W.lst' y (by simp [h])
  · exact W.lst' y (by simp [h])
theorem lsK_sub {y : Addr} (h : y ∈ [B.b, B.pw, B.pb, B.pdr, B.pl]) : y ∈ lsK B A := by
  simp only [List.mem_cons, List.not_mem_nil, or_false] at h
  simp only [lsK, List.mem_cons, List.not_mem_nil, or_false]
  rcases h with h | h | h | h | h <;> simp [h]
/-- the desk's lists are none of those -/
theorem EK.ndl (W : EK a H0 H B A cnt D ws bds es rn rd las) {y : Addr} (h : y ∈ [B.b, B.pw, B.pb, B.pdr, B.pl]) : y ≠ A.pc ∧ y ≠ A.pa ∧ y ≠ A.pr := by
  have := W.n1
  simp only [lsK, List.nodup_cons, List.mem_cons, List.not_mem_nil, or_false, not_or, List.nodup_nil, and_true, not_false_iff] at this
  obtain ⟨⟨a1, a2, a3, a4, a5, a6, a7⟩, ⟨b1, b2, b3, b4, b5, b6⟩, ⟨c1, c2, c3, c4, c5⟩, ⟨d1, d2, d3, d4⟩, _⟩ := this
  simp only [List.mem_cons, List.not_mem_nil, or_false] at h
  rcases h with h | h | h | h | h
  · exact ⟨h ▸ a1, h ▸ a2, h ▸ a3⟩
  · exact ⟨h ▸ Ne.symm b3, h ▸ Ne.symm c2, h ▸ Ne.symm d1⟩
  · exact ⟨h ▸ Ne.symm b4, h ▸ Ne.symm c3, h ▸ Ne.symm d2⟩
  · exact ⟨h ▸ Ne.symm b5, h ▸ Ne.symm c4, h ▸ Ne.symm d3⟩
  · exact ⟨h ▸ Ne.symm b6, h ▸ Ne.symm c5, h ▸ Ne.symm d4⟩
/-- some of the lists are written -/
theorem EK.lst (W : EK a H0 H B A cnt D ws bds es rn rd las) (f : Fr H H' L) (hL : ∀ y ∈ L, y ∈ [B.b, B.pw, B.pb, B.pdr, B.pl]) (hB : BagD H' B.b cnt') (hpw : H' B.pw = some (.lst (ws.map V.int))) (hpb : H' B.pb = some (.lst (bds.map V.int)))
    (hdr : H' B.pdr = some (.lst (rd'.map V.int))) (hla : LastAt H' B.pl bds las') (ld : rd'.length = A.cl.length) (ll : las'.length = A.cl.length) : EK a H0 H' B A cnt' D ws bds es rn rd' las' := by
  have hLl : ∀ y ∈ L, ∃ xs, H y = some (.lst xs) := fun y hy => W.lst' y (hL y hy)
  have dl : DatL H L := fun y hy o ho => by
    obtain ⟨xs, h⟩ := hLl y hy
    rw [h] at ho; cases ho; exact .inl ⟨_, rfl⟩
  have hdL : ∀ y ∈ dAll A.d D, y ∉ L := fun y hy hm => W.n2 y hy (lsK_sub (hL y hm))
  have h' : ∀ y ∈ L, ∃ o, H' y = some o := fun y hy => by
    have := hL y hy
    simp only [List.mem_cons, List.not_mem_nil, or_false] at this
    rcases this with h | h | h | h | h
    · obtain ⟨xs, hh⟩ := bag_lst hB; exact ⟨_, h ▸ hh⟩
    · exact ⟨_, h ▸ hpw⟩
    · exact ⟨_, h ▸ hpb⟩
    · exact ⟨_, h ▸ hdr⟩
    · obtain ⟨vs, h1, _⟩ := hla; exact ⟨_, h ▸ h1⟩
  refine ⟨hB, tabs_frs W.hT f dl, W.w.frN rfl f.toN hdL (fun z => (W.ndl (hL _ z)).1 rfl) (fun z => (W.ndl (hL _ z)).2.1 rfl) (fun z => (W.ndl (hL _ z)).2.2 rfl) hLl, f _ _ W.mv (hdL _ (by simp [dAll])), hpw, hpb, hdr, hla, W.lw, W.lb, ld, ll, W.l2, W.n1, W.n2, fun x o hx n hS => f _ _ (W.an _ _ hx n hS) fun hm => ?_, W.gn.tr (gn_fr f h'), W.nb, W.nd, W.nc, W.nx⟩
  have h1 := hL x hm
  have h2 := W.nb x (lsK_sub h1) (by simpa using hS)
  rw [h2] at hx; cases hx
theorem EK.bag (W : EK a H0 H B A cnt D ws bds es rn rd las) (hB : BagD H' B.b cnt') (f : Fr H H' [B.b]) : EK a H0 H' B A cnt' D ws bds es rn rd las := by
  have n := W.n1
  simp only [lsK, List.nodup_cons, List.mem_cons, List.not_mem_nil, or_false, not_or, List.nodup_nil, and_true, not_false_iff] at n
  obtain ⟨⟨a1, a2, a3, a4, a5, a6, a7⟩, _⟩ := n
  obtain ⟨xs, hh⟩ := bag_lst W.hB
  exact W.lst f (fun y hy => by simp [List.mem_singleton.mp hy]) hB (f _ _ W.hpw (by simpa using Ne.symm a4)) (f _ _ W.hpb (by simpa using Ne.symm a5)) (f _ _ W.hdr (by simpa using Ne.symm a6)) (W.hla.frs f.toN (.lst hh .nil) (by simpa using Ne.symm a7)) W.ld W.ll
theorem EK.same (W : EK a H0 H B A cnt D ws bds es rn rd las) (s : Same H H') : EK a H0 H' B A cnt D ws bds es rn rd las :=
  W.lst (L := []) (Fr.same s) (by simp) (bag_frs (L := []) W.hB (Fr.same s) (by simp)) (s _ _ W.hpw) (s _ _ W.hpb) (s _ _ W.hdr) (W.hla.same s) W.ld W.ll
end
end Tr
set_option maxHeartbeats 4000000

namespace Tr
open PySem L2 LamX NdefX
section
variable {P : Program} {w : World} {K : PySem.W.Frag} {mg : Str → Option Value} {base : Heap} {a : Nat → Addr} {fd : Nat → FuncData} {tk : Nat → Tok}
variable {H0 H H' : Hp} {A : KA} {D : DA} {S : DSt} {ws bds : List Int} {es : List Kf} {rn rd rd' : List Int} {las las' : List (Option (Int × Int))} {os : List Str} {cnt cnt' : Nat} {L : List Addr} {B : LK}
theorem dAll_fix {d : Addr} {D : DA} {y : Addr} (h : y ∈ dAll d D) : y = d ∨ y = D.un ∨ y = D.cs ∨ y = D.rd ∨ y = D.ef ∨ y = D.lg ∨ y = D.fr ∨ y = D.mv := by
  simpa [dAll] using h
/-- an answer is read -/
theorem rd_ek {j : Nat} {e : Kf} {Q : VK} (W : EK a H0 H B A cnt D ws bds es rn rd las) (he : es[j]? = some e) (hj : j < 8)
    (q : ∀ H' es' rn', EK a H0 H' B A cnt D ws bds es' rn' rd las → Upd ws es es' (j + 1) → (∀ i, j < i → rn'.getD i 0 = rn.getD i 0) → Q (.int (pvN ws es (j + 1))) H') : spCX a (spWN a 8) [.ref e.x] H Q E0 := by
  obtain ⟨hx, KF, _⟩ := W.w.ef j e he
  have hjl := (List.getElem?_eq_some_iff.mp he).1
  refine ⟨A.d, e.x, nmA j, rfl, ⟨_, _, _, _, _, KF.ke⟩, ?_⟩
  refine ⟨A, D, _, ws, es, rn, [], j, e, rfl, he, hj, W.w, fun H' es' rn' W' u r f g => ?_⟩
  obtain ⟨e', he', ⟨ex, _⟩, _⟩ := u.at_ j e he
  refine ⟨⟨_, _, W'.dk⟩, ⟨_, _, _, _, _, ex ▸ (W'.ef j e' he').2.1.ke⟩, A.d, D, _, nmA j, _, rfl, W'.dk, by show (0 : Nat) ≤ 1000; omega, .inl ⟨rfl, ?_⟩⟩
  have hlw := W.w.lw (j := j + 1) (by omega)
  have dl := Lw.dat W.w hlw
  have nl : ∀ {y : Addr}, y ∈ [B.b, B.pw, B.pb, B.pdr, B.pl] → y ∉ frL A (j + 1) := fun {y} hy hm => by
    obtain ⟨xs, hh⟩ := W.lst' y hy
    exact (hlw y hm).nlst hh (W.ndl hy).2.2 rfl
  have hdl : ∀ y ∈ dAll A.d D, y = A.d ∨ y ∉ frL A (j + 1) := fun y hy => by
    by_cases h0 : y = A.d
    · exact .inl h0
    · refine .inr fun hm => ?_
      rcases mem_frL.mp hm with h | h | ⟨i, hi, h⟩
      · exact h0 h
      · exact W.w.np.2.2 (h ▸ hy)
      · obtain ⟨e1, h1⟩ : ∃ e1, es[i]? = some e1 := ⟨_, List.getElem?_eq_getElem (by omega)⟩
        obtain ⟨g1, g2, _⟩ := W.w.ef i e1 h1
        rw [h] at g1
        cases g1
        obtain ⟨dx, hx1⟩ := g2.ke
        obtain ⟨ms, m1, _⟩ := W.w.dk.mv
        rcases dAll_fix hy with h | h | h | h | h | h | h | h
        · exact h0 h
        · exact ne_of hx1 W.w.dk.un (by intro z; cases z) h
        · exact ne_of hx1 W.w.dk.cs (by intro z; cases z) h
        · exact ne_of hx1 W.w.dk.rd (by intro z; cases z) h
        · exact ne_of hx1 W.w.dk.ef (by intro z; cases z) h
        · exact ne_of hx1 W.w.dk.lg (by intro z; cases z) h
        · exact ne_of hx1 W.w.dk.fr (by intro z; cases z) h
        · exact ne_of hx1 m1 (by intro z; cases z) h
  refine q H' es' rn' ⟨bag_frs W.hB f (nl (by simp)), tabs_frs W.hT f dl, W', f _ _ W.mv ?_, f _ _ W.hpw (nl (by simp)), f _ _ W.hpb (nl (by simp)), f _ _ W.hdr (nl (by simp)), W.hla.frs f.toN dl (nl (by simp)), W.lw, W.lb, W.ld, W.ll, W.l2, W.n1, W.n2, fun x o hx n hS => f _ _ (W.an _ _ hx n hS) fun hm => ?_, W.gn.tr g, W.nb, W.nd, W.nc, W.nx⟩ u r
  · rcases hdl D.mv (by simp [dAll]) with h | h
    · have := W.mv
      rw [h, W.w.dk.ob] at this
      cases this
    · exact h
  · rcases mem_frL.mp hm with h | h | ⟨i, hi, h⟩
    · rw [h, W.nd A.d (by simp [dAll])] at hx; cases hx
    · rw [h, W.nb A.pr (by simp [lsK]) (fun z => (W.ndl (y := B.b) (by simp)).2.2 z.symm)] at hx; cases hx
    · rw [W.nx x (List.mem_of_getElem? h)] at hx; cases hx
/-- a cell is put -/
theorem put_ek {Q : VK} {k : Nat} {c : Addr} {v : Int} {HU : Hp} (W : EK a H0 H B A cnt D ws bds es rn rd las) (hk : A.cl[k]? = some c) (f0 : HU = upd H B.pw (.lst ((ws.set k v).map V.int)))
    (q : ∀ H' z, EK a H0 H' B A cnt { D with mv := z } (ws.set k v) bds es rn rd las → Q .non H') : spSetK a [.ref A.d, .str (nmC k), .int v] HU Q E0 := by
  have hkl : k < A.cl.length := (List.getElem?_eq_some_iff.mp hk).1
  have l8 := W.w.l8
  have f1 : Fr H HU [B.pw] := fun y o hy hS => by rw [f0, upd_ne (by simpa using hS)]; exact hy
  have hpwU : HU B.pw = some (.lst ((ws.set k v).map V.int)) := by rw [f0]; exact upd_same
  have inL : B.pw ∈ [B.b, B.pw, B.pb, B.pdr, B.pl] := by simp
  have nn := W.ndl inL
  have dL : ∀ y ∈ dAll A.d D, y ∉ [B.pw] := fun y hy z => W.n2 y hy (lsK_sub ((List.mem_singleton.mp z) ▸ inL))
  have dkU := W.w.dk.frs f1 dL
  have WU := W.w.frN rfl f1.toN dL (by simpa using Ne.symm nn.1) (by simpa using Ne.symm nn.2.1) (by simpa using Ne.symm nn.2.2) fun y hy => W.lst' y ((List.mem_singleton.mp hy) ▸ inL)
  have ceU := WU.ce
  have mvU : HU D.mv = some (.lst []) := f1 _ _ W.mv (dL _ (by simp [dAll]))
  have g1 : Gn H HU := gn_fr1 f1 hpwU
  refine ⟨A.d, D, Sk A.cl A.xs, nmC k, v, c, rfl, dkU, rfl, by show (nmL nmC A.cl).length ≤ 50; rw [nmL_len]; omega, fun p hp => ?_, mem_nmL.mpr ⟨k, c, hk, rfl⟩, fun c' hc' => ?_, fun G s0 => ?_⟩
  · obtain ⟨j, c', h1, rfl⟩ := mem_nmL.mp (show p ∈ nmL nmC A.cl from hp)
    exact ⟨_, ceU j c' h1⟩
  · obtain ⟨j, c'', h1, e⟩ := mem_nmL.mp (show (nmC k, c') ∈ nmL nmC A.cl from hc')
    have hj : j < A.cl.length := (List.getElem?_eq_some_iff.mp h1).1
    obtain ⟨e1, e2⟩ := Prod.mk.inj e
    have := nmC_inj (by omega) (by omega) e1
    subst this
    rw [hk] at h1
    cases h1
    exact e2
  · have WG := WU.same s0
    obtain ⟨dcc, hcc⟩ := WG.ce k c hk
    have mvG := s0 _ _ mvU
    have gG : Gn H G := g1.tr (gn_same s0)
    refine ⟨A.d, D, Sk A.cl A.xs, c, nmC k, _, v, rfl, WG.dk, rfl, rfl, rfl, ⟨dcc, hcc⟩, ⟨[], mvG, by simp⟩, ne_of hcc WG.dk.ob (by intro z; have := HO.ins.inj z; simp [deskB, cellF] at this), fun z H1 nz DK1 hz CA1 f2 => ?_⟩
    -- what the three are not
    have oth : ∀ {y : Addr} {o : HO}, G y = some o → (∀ C dx fs, o ≠ .ins C dx fs) → y ≠ D.mv → y ∉ [A.d, c, D.mv] := fun h n1 n2 => by
      simp only [List.mem_cons, List.not_mem_nil, or_false, not_or]
      exact ⟨ne_of h WG.dk.ob (n1 _ _ _), ne_of h hcc (n1 _ _ _), n2⟩
    have ls3 : ∀ {y : Addr}, y ∈ lsK B A → y ∉ [A.d, c, D.mv] := fun {y} hy => by
      obtain ⟨xs, hh⟩ := W.lsx y hy
      have hm : y ≠ D.mv := fun z => W.n2 y (by rw [z]; simp [dAll]) hy
      by_cases hp : y = B.pw
      · subst hp
        exact oth (s0 _ _ hpwU) (by intros; simp) hm
      · exact oth (s0 _ _ (f1 _ _ hh (by simpa using hp))) (by intros; simp) hm
    have fG1 : Fr G H1 [A.d, c, D.mv] := f2
    have dl3 : DatL G [A.d, c, D.mv] := .ins WG.dk.ob (.ins hcc (.lst mvG .nil))
    have fH1 : ∀ {y : Addr} {o : HO}, H y = some o → y ≠ B.pw → y ∉ [A.d, c, D.mv] → H1 y = some o := fun h n1 n2 => f2 _ _ (s0 _ _ (f1 _ _ h (by simpa using n1))) n2
    have nbw : ∀ {y : Addr}, y ∈ [B.b, B.pb, B.pdr, B.pl] → y ≠ B.pw := fun {y} hy => by
      have := W.n1
      simp only [lsK, List.nodup_cons, List.mem_cons, List.not_mem_nil, or_false, not_or, List.nodup_nil, and_true, not_false_iff] at this
      obtain ⟨⟨a1, a2, a3, a4, a5, a6, a7⟩, _, _, _, ⟨e1, e2, e3⟩, _⟩ := this
      simp only [List.mem_cons, List.not_mem_nil, or_false] at hy
      rcases hy with h | h | h | h <;> rw [h]
      · exact a4
      · exact Ne.symm e1
      · exact Ne.symm e2
      · exact Ne.symm e3
    have FL : Fr H H1 [B.pw, A.d, c, D.mv] := fun y o hy hS => by
      simp only [List.mem_cons, List.not_mem_nil, or_false, not_or] at hS
      exact fH1 hy hS.1 (by simp [hS.2])
    obtain ⟨dch, hch⟩ := W.w.ce k c hk
    have dlH : DatL H [B.pw, A.d, c, D.mv] := .lst W.hpw (.ins W.w.dk.ob (.ins hch (.lst W.mv .nil)))
    have nb4 : ∀ {y : Addr}, y ∈ [B.b, B.pb, B.pdr, B.pl] → y ∉ [B.pw, A.d, c, D.mv] := fun {y} hy hm => by
      rcases List.mem_cons.mp hm with h | h
      · exact nbw hy h
      · refine ls3 (lsK_sub ?_) h
        simp only [List.mem_cons, List.not_mem_nil, or_false] at hy ⊢
        rcases hy with h | h | h | h <;> simp [h]
    have h0n : ∀ y ∈ [B.pw, A.d, c, D.mv], H0 y = none := fun y hy => by
      simp only [List.mem_cons, List.not_mem_nil, or_false] at hy
      rcases hy with h | h | h | h
      · rw [h]; exact W.nb B.pw (lsK_sub inL) (fun z => nbw (y := B.b) (by simp) z.symm)
      · rw [h]; exact W.nd A.d (by simp [dAll])
      · rw [h]; exact W.nc c (List.mem_of_getElem? hk)
      · rw [h]; exact W.nd D.mv (by simp [dAll])
    have zls : ∀ y ∈ lsK B A, y ≠ z := fun y hy => by
      rintro rfl
      obtain ⟨xs, hh⟩ := W.lsx y hy
      by_cases hp : y = B.pw
      · rw [hp, s0 _ _ hpwU] at nz; cases nz
      · rw [s0 _ _ (f1 _ _ hh (by simpa using hp))] at nz; cases nz
    have nz2 : ∀ {y : Addr}, y ∈ dAll A.d { D with mv := z } → y ∈ dAll A.d D ∨ y = z := fun {y} hy => by
      simp only [dAll, List.mem_cons, List.not_mem_nil, or_false] at hy ⊢
      rcases hy with h | h | h | h | h | h | h | h <;> simp [h]
    have npr : A.pr ∈ lsK B A := by simp [lsK]
    refine q H1 z ⟨bag_frs W.hB FL (nb4 (by simp)), tabs_frs W.hT FL dlH, ⟨DK1, W.w.hrc, W.w.hrx, f2 _ _ WG.hpc (ls3 (by simp [lsK])), f2 _ _ WG.hpa (ls3 (by simp [lsK])), f2 _ _ WG.hpr (ls3 npr), fun k' c' h => ?_, fun j e h => ?_, W.w.l8, W.w.lx, W.w.le, W.w.lr, trivial, W.w.lf, W.w.ho, ⟨W.w.np.1, W.w.np.2.1, fun hm => ?_⟩, W.w.nx⟩, hz, f2 _ _ (s0 _ _ hpwU) (ls3 (lsK_sub inL)), FL _ _ W.hpb (nb4 (by simp)), FL _ _ W.hdr (nb4 (by simp)), W.hla.frs FL.toN dlH (nb4 (by simp)), by rw [List.length_set]; exact W.lw, W.lb, W.ld, W.ll, W.l2, W.n1, fun y hy hm => ?_, fun x o hx n hS => FL _ _ (W.an _ _ hx n hS) (fun hm => by rw [h0n x hm] at hx; cases hx), fun y hy => ?_, W.nb, fun y hy => ?_, W.nc, W.nx⟩
    · by_cases ek : k' = k
      · subst ek
        rw [hk] at h
        cases h
        rw [getD_set_eqI (by rw [W.lw]; omega)]
        exact CA1
      · rw [getD_set_neI ek]
        obtain ⟨d1, h1⟩ := WG.ce k' c' h
        refine ⟨d1, f2 _ _ h1 ?_⟩
        have hkl' := (List.getElem?_eq_some_iff.mp h).1
        simp only [List.mem_cons, List.not_mem_nil, or_false, not_or]
        refine ⟨ne_of h1 WG.dk.ob (by intro z; have := HO.ins.inj z; simp [deskB, cellF] at this), ?_, ne_of h1 mvG (by intro z; cases z)⟩
        rintro rfl
        rw [hcc] at h1
        have := HO.ins.inj (Option.some.inj h1)
        simp [cellF] at this
        exact ek (nmC_inj (by omega) (by omega) this.2.1).symm
    · obtain ⟨g1, g2, g3⟩ := WG.ef j e h
      obtain ⟨dx, hx⟩ := g2.ke
      refine ⟨g1, g2.frs fG1 dl3 ?_ ?_, g3⟩
      · simp only [List.mem_cons, List.not_mem_nil, or_false, not_or]
        exact ⟨(WG.xd h).1, ne_of hx hcc (by intro z; have := HO.ins.inj z; simp [keptF, cellF] at this), ne_of hx mvG (by intro z; cases z)⟩
      · exact oth g2.hn (by intros; simp) (ne_of g2.hn mvG (by intro z; cases z))
    · rcases nz2 hm with h | h
      · exact W.w.np.2.2 h
      · exact zls _ npr h
    · rcases nz2 hy with h | h
      · exact W.n2 y h hm
      · exact zls _ hm h
    · cases e : H y with
      | none => exact W.gn y e
      | some o =>
        by_cases hm : y ∈ [B.pw, A.d, c, D.mv]
        · exact h0n y hm
        · rw [FL _ _ e hm] at hy; cases hy
    · rcases nz2 hy with h | h
      · exact W.nd y h
      · rw [h]; exact W.gn _ (gG _ nz)
theorem cd_ne {cl xs : List Addr} {c : Addr} {ns : List (Str × Int)} (h : cl[0]? = some c) : cdK (Sk cl xs).rl ≠ notesK ns := fun e => by
  have h5 : (cdK (Sk cl xs).rl)[0]? = (notesK ns)[0]? := by rw [e]
  have h6 : (nmL nmC cl)[0]? = some (nmC 0, c) := by
    unfold nmL
    rw [List.getElem?_map, List.getElem?_zipIdx, h]
    rfl
  have h7 : (Sk cl xs).rl[0]? = some (nmC 0, c) := by
    show (nmL nmC cl ++ nmL nmA xs)[0]? = _
    rw [List.getElem?_append_left (List.getElem?_eq_some_iff.mp h6).1]
    exact h6
  unfold cdK notesK at h5
  rw [List.getElem?_map, List.getElem?_map, h7] at h5
  cases hn : ns[0]? with
  | none => rw [hn] at h5; cases h5
  | some p =>
    rw [hn] at h5
    have h8 := congrArg Prod.snd (Option.some.inj h5)
    exact V.noConfusion (show V.ref c = V.int p.2 from h8)
def newKf (x f c nt : Addr) (clm : List (Str × Addr)) (os : Addr → Option PySem.Obj) (bd : Int) (cf : Bool) : Kf := ⟨x, f, c, clm, os, bd, cf, nt, none, 0⟩
/-- a kept answer is made, and appended -/
theorem EK.new {H2 : Hp} {bd : Int} {cf : Bool} {x f nt c : Addr} {clm : List (Str × Addr)} {os : Addr → Option PySem.Obj} (W : EK a H0 H B A cnt D ws bds es rn rd las) (hl : es.length = A.xs.length) (hm : A.xs.length < A.cl.length) (N : NewK a H H' A.d D (Sk A.cl A.xs) A.pr A.pc A.pa es.length bd cf x f nt c clm os)
    (hr : rn.getD es.length 0 = 0) (h2 : H2 = upd H' A.pa (.lst ((A.xs ++ [x]).map V.ref))) : EK a H0 H2 B { A with xs := A.xs ++ [x] } cnt D ws bds (es ++ [newKf x f c nt clm os bd cf]) rn rd las := by
  have l8 := W.w.l8
  have f2 : Fr H' H2 [A.pa] := fun y o hy hS => by rw [h2, upd_ne (by simpa using hS)]; exact hy
  have hpa2 : H2 A.pa = some (.lst ((A.xs ++ [x]).map V.ref)) := by rw [h2]; exact upd_same
  have sub : ∀ {y : Addr}, y ∈ [D.un, D.rd] → y ∈ dAll A.d D := fun {y} hy => by
    simp only [List.mem_cons, List.not_mem_nil, or_false] at hy
    rcases hy with h | h <;> simp [dAll, h]
  have mpa : A.pa ∈ lsK B A := by simp [lsK]
  have paD : ∀ y ∈ dAll A.d D, y ∉ [A.pa] := fun y hy z => W.n2 y hy ((List.mem_singleton.mp z) ▸ mpa)
  have lsN : ∀ {y : Addr}, y ∈ lsK B A → y ∉ [D.un, D.rd] := fun hy z => W.n2 _ (sub z) hy
  have hpaH : H' A.pa = some (.lst (A.xs.map V.ref)) := N.fr _ _ W.w.hpa (by intros; simp) (lsN mpa)
  have dl : DatL H [D.un, D.rd] := fun y hy o ho => by
    simp only [List.mem_cons, List.not_mem_nil, or_false] at hy
    rcases hy with e | e
    · rw [e, W.w.dk.un] at ho; cases ho; exact .inl ⟨_, rfl⟩
    · rw [e, W.w.dk.rd] at ho; cases ho; exact .inr (.inr ⟨_, rfl⟩)
  have dl2 : DatL H' [A.pa] := .lst hpaH .nil
  have ins1 : ∀ {y C dx : Addr} {fs : List (Str × V)}, H y = some (.ins C dx fs) → H2 y = some (.ins C dx fs) := fun h => by
    have h' := N.fr _ _ h (by intros; simp) (by
      simp only [List.mem_cons, List.not_mem_nil, or_false, not_or]
      exact ⟨ne_of h W.w.dk.un (by intro z; cases z), ne_of h W.w.dk.rd (by intro z; cases z)⟩)
    exact f2 _ _ h' (by simpa using ne_of h' hpaH (by intro z; cases z))
  have lst1 : ∀ {y : Addr} {xs : List V}, H y = some (.lst xs) → y ∈ lsK B A → y ≠ A.pa → H2 y = some (.lst xs) := fun h hm hn => f2 _ _ (N.fr _ _ h (by intros; simp) (lsN hm)) (by simpa using hn)
  have hF : FrN H H2 [D.un, D.rd, A.pa] := fun y o hy n hS => by
    simp only [List.mem_cons, List.not_mem_nil, or_false, not_or] at hS
    exact f2 _ _ (N.fr _ _ hy n (by simp [hS])) (by simpa using hS.2.2)
  have dlF : DatL H [D.un, D.rd, A.pa] := fun y hy o ho => by
    simp only [List.mem_cons, List.not_mem_nil, or_false] at hy
    rcases hy with e | e | e
    · exact dl y (by simp [e]) o ho
    · exact dl y (by simp [e]) o ho
    · rw [e, W.w.hpa] at ho; cases ho; exact .inl ⟨_, rfl⟩
  have nbl : ∀ {y : Addr}, y ∈ [B.b, B.pw, B.pb, B.pdr, B.pl] → y ∉ [D.un, D.rd, A.pa] := fun {y} hy hm => by
    have h1 := lsN (lsK_sub (A := A) hy)
    have h2 := (W.ndl hy).2.1
    simp only [List.mem_cons, List.not_mem_nil, or_false] at hm h1
    rcases hm with h | h | h
    · exact h1 (.inl h)
    · exact h1 (.inr h)
    · exact h2 h
  have h0n : ∀ y ∈ [D.un, D.rd, A.pa], H0 y = none := fun y hy => by
    simp only [List.mem_cons, List.not_mem_nil, or_false] at hy
    rcases hy with h | h | h
    · rw [h]; exact W.nd _ (by simp [dAll])
    · rw [h]; exact W.nd _ (by simp [dAll])
    · rw [h]; exact W.nb _ mpa fun z => (W.ndl (y := B.b) (by simp)).2.1 z.symm
  have DK2 : DkAt a H2 A.d D (Sk A.cl (A.xs ++ [x])) := by
    rw [Sk_x, ← hl]
    exact N.dk.frs f2 paD
  have lxs : (A.xs ++ [x]).length = A.xs.length + 1 := by simp
  have hn1 := W.w.np
  refine ⟨?_, tabs_frs N.hT f2 dl2, ⟨DK2, fun k c h => hrcS l8 h, fun j y h => hrxS (by rw [lxs]; omega) h, lst1 W.w.hpc (by simp [lsK]) ?_, hpa2, lst1 W.w.hpr (by simp [lsK]) (Ne.symm hn1.2.1), fun k c' h => ?_, fun j e h => ?_, l8, by show (A.xs ++ [x]).length ≤ A.cl.length; rw [lxs]; omega, by show _ ≤ (A.xs ++ [x]).length; rw [lxs, List.length_append, List.length_singleton]; omega, W.w.lr, trivial, by show 0 + _ ≤ 100; rw [List.length_append, List.length_singleton]; omega, (fun j _ h => by cases h), W.w.np, ?_⟩, hF _ _ W.mv (by intros; simp) ?_, hF _ _ W.hpw (by intros; simp) (nbl (by simp)), hF _ _ W.hpb (by intros; simp) (nbl (by simp)), hF _ _ W.hdr (by intros; simp) (nbl (by simp)), W.hla.frs hF dlF (nbl (by simp)), W.lw, W.lb, W.ld, W.ll, W.l2, W.n1, W.n2, fun y o hy n hS => hF _ _ (W.an _ _ hy n hS) n (fun hm => by rw [h0n y hm] at hy; cases hy), W.gn.tr (N.gn.tr (gn_fr1 f2 hpa2)), W.nb, W.nd, W.nc, fun y hy => ?_⟩
  · obtain ⟨dg, bm, bk, hb, hb2⟩ := W.hB
    exact ⟨dg, bm, bk, hF _ _ hb (by intros; simp) (nbl (by simp)), hb2⟩
  · have := W.n1
    simp only [lsK, List.nodup_cons, List.mem_cons, List.not_mem_nil, or_false, not_or, List.nodup_nil, and_true, not_false_iff] at this
    exact this.2.1.1
  · obtain ⟨dc, hc⟩ := W.w.ce k c' h
    exact ⟨dc, ins1 hc⟩
  · by_cases hj : j < es.length
    · rw [List.getElem?_append_left hj] at h
      obtain ⟨g1, g2, g3⟩ := W.w.ef j e h
      obtain ⟨dx, hx⟩ := g2.ke
      refine ⟨by show (A.xs ++ [x])[j]? = _; rw [List.getElem?_append_left (by omega)]; exact g1, ?_, g3⟩
      have := g2.frN hF dlF (by
        simp only [List.mem_cons, List.not_mem_nil, or_false, not_or]
        exact ⟨ne_of hx W.w.dk.un (by intro z; cases z), ne_of hx W.w.dk.rd (by intro z; cases z), ne_of hx W.w.hpa (by intro z; cases z)⟩) (by
        simp only [List.mem_cons, List.not_mem_nil, or_false, not_or]
        refine ⟨ne_of g2.hn W.w.dk.un (by intro z; cases z), fun z => ?_, ne_of g2.hn W.w.hpa (by intro z; cases z)⟩
        have h3 := g2.hn
        rw [z, W.w.dk.rd] at h3
        have h4 : cdK (Sk A.cl A.xs).rl = notesK (ntA j e) := HO.dK.inj (Option.some.inj h3)
        exact cd_ne (List.getElem?_eq_getElem (by have := W.l2; omega)) h4)
      exact ⟨this.ke, this.hn, this.lam, this.cf, this.v0⟩
    · rw [List.getElem?_append_right (by omega)] at h
      have h0 : j - es.length = 0 := by
        cases h' : j - es.length with
        | zero => rfl
        | succ n => rw [h'] at h; simp at h
      rw [h0] at h
      cases h
      have ej : j = es.length := by omega
      subst ej
      obtain ⟨dx, hx⟩ := N.ke
      refine ⟨by show (A.xs ++ [x])[es.length]? = _; rw [hl, List.getElem?_append_right (by omega), Nat.sub_self]; rfl, ⟨⟨dx, f2 _ _ hx (fun z => ne_of hx hpaH (by intro z; cases z) (List.mem_singleton.mp z))⟩, f2 _ _ N.hn (fun z => ne_of N.hn hpaH (by intro z; cases z) (List.mem_singleton.mp z)), lamO_frs N.lam f2 dl2, N.cf.keep fun c o _ q => f2 _ _ q (dl2.not q nd_frz), fun _ p hp => by cases hp⟩, hr⟩
  · show (A.xs ++ [x]).Nodup
    rw [List.nodup_append]
    refine ⟨W.w.nx, by simp, fun y hy y2 hy2 => ?_⟩
    rw [List.mem_singleton.mp hy2]
    rintro rfl
    obtain ⟨j, hj⟩ := List.mem_iff_getElem?.mp hy
    have hjx := (List.getElem?_eq_some_iff.mp hj).1
    obtain ⟨e, he⟩ : ∃ e, es[j]? = some e := ⟨_, List.getElem?_eq_getElem (by omega)⟩
    obtain ⟨g1, g2, _⟩ := W.w.ef j e he
    rw [hj] at g1
    cases g1
    obtain ⟨dx, hx⟩ := g2.ke
    rw [N.nx] at hx; cases hx
  · obtain ⟨nd1, _⟩ := W.w.dk.nd
    simp only [List.nodup_cons, List.mem_cons, List.not_mem_nil, or_false, not_or, List.nodup_nil, and_true] at nd1
    simp only [List.mem_cons, List.not_mem_nil, or_false, not_or]
    exact ⟨fun e => nd1.1.2.2.2 e.symm, ne_of W.mv W.w.dk.rd (by intro z; cases z), fun e => W.n2 D.mv (by simp [dAll]) (e ▸ mpa)⟩
  · rcases List.mem_append.mp hy with h | h
    · exact W.nx y h
    · rw [List.mem_singleton.mp h]; exact W.gn _ N.nx
end
end Tr
set_option maxHeartbeats 4000000

namespace Tr
open PySem L2 LamX NdefX
section
variable {P : Program} {w : World} {K : PySem.W.Frag} {mg : Str → Option Value} {base : Heap} {a : Nat → Addr} {fd : Nat → FuncData} {tk : Nat → Tok}
local macro_rules | `(tactic| walk_at "ne") => `(tactic| first | assumption | (exact Ne.symm (by assumption)) | (refine ne_of_none (by assumption) (by assumption)) | (refine Ne.symm (ne_of_none (by assumption) (by assumption))))
local macro_rules | `(tactic| walk_at "hl") => `(tactic| first | assumption | with_reducible exact upd_same | ((with_reducible refine' Eq.trans (upd_ne ?hne) ?hrest); (case hne => walk_at "ne"); (case hrest => walk_at "hl")) | (refine' get_same ?hs ?hg; (case hs => assumption); (case hg => assumption)))
local macro_rules | `(tactic| walk_at "at") => `(tactic| first | with_reducible exact atI_0 _ _ | with_reducible exact atI_1 _ _ _ | with_reducible exact atI_2 _ _ _ _ | with_reducible exact atI_3 _ _ _ _ _ | assumption)
local macro_rules | `(tactic| walk_at "rd1") => `(tactic| first
  | with_reducible refine s_seq ?_ | with_reducible refine s_next ?_ | with_reducible refine s_if ?_ | with_reducible refine s_ret ?_ | with_reducible refine s_retN ?_ | with_reducible refine s_drop ?_ | with_reducible refine s_asg ?_ | with_reducible refine s_brk ?_ | with_reducible refine s_cont ?_
  | with_reducible refine s_gname ?_ | with_reducible refine s_c ?_ | with_reducible refine s_op ?_ | with_reducible refine s_un ?_ | with_reducible refine s_neg ?_ | with_reducible refine s_test ?_ | with_reducible refine s_tb ?_ | with_reducible refine s_not ?_ | with_reducible refine s_and ?_ | with_reducible refine s_or ?_ | with_reducible refine s_yes ?_
  | ((with_reducible refine' s_var ?hv ?_); (case hv => exact rfl))
  | with_reducible refine s_ifx ?_ | with_reducible refine s_andV ?_ | with_reducible refine s_orV ?_ | with_reducible refine s_notV ?_ | with_reducible refine s_chain ?_ | with_reducible refine s_nil ?_ | with_reducible refine s_cons ?_ | with_reducible refine s_lst ?_ | with_reducible refine s_tup ?_ | with_reducible refine s_cb ?_ | with_reducible refine s_call ?_ | with_reducible refine s_meth ?_ | with_reducible refine s_make ?_
  | with_reducible refine s_dnewK ?_ | with_reducible refine s_sl ?_ | with_reducible refine s_po0 ?_ | with_reducible refine s_po1 ?_ | with_reducible refine s_bm ?_ | with_reducible refine s_bm0 ?_
  | with_reducible refine s_bl ?_ | with_reducible refine s_int ?_ | with_reducible refine s_I0 ?_ | with_reducible refine s_addI ?_ | with_reducible refine s_intI ?_ | with_reducible refine s_intB ?_
  | with_reducible refine s_m1 ?_ | with_reducible refine s_lc ?_ | with_reducible refine s_ilist ?_ | with_reducible refine s_for ?_ | with_reducible refine s_irng ?_ | with_reducible refine s_match ?_ | with_reducible refine s_starT ?_ | with_reducible refine s_isS ?_ | with_reducible refine s_isiSS ?_ | with_reducible refine s_fldU ?_ | with_reducible refine s_sfldU ?_
  | ((with_reducible refine' s_eqS ?hq ?_); (case hq => exact rfl)) | ((with_reducible refine' s_neS ?hq ?_); (case hq => exact rfl))
  | ((with_reducible refine' s_isN ?hq ?_); (case hq => exact rfl)) | ((with_reducible refine' s_notN ?hq ?_); (case hq => exact rfl))
  | ((with_reducible refine' s_eqNil ?h1 ?h2 ?_); (case h1 => walk_at "hl"); (case h2 => walk_at "hl")) | ((with_reducible refine' s_neNil ?h1 ?h2 ?_); (case h1 => walk_at "hl"); (case h2 => walk_at "hl"))
  | ((with_reducible refine' s_ixL ?h1 ?h2 ?_); (case h1 => walk_at "hl"); (case h2 => walk_at "at")) | ((with_reducible refine' s_ixT ?h1 ?h2 ?_); (case h1 => walk_at "hl"); (case h2 => walk_at "at"))
  | ((with_reducible refine' s_inS ?h1 ?_); (case h1 => walk_at "hl")) | ((with_reducible refine' s_ninS ?h1 ?_); (case h1 => walk_at "hl")) | with_reducible refine s_inW ?_
  | ((with_reducible refine' s_lenL ?h1 ?_); (case h1 => walk_at "hl")) | ((with_reducible refine' s_lenT ?h1 ?_); (case h1 => walk_at "hl"))
  | ((with_reducible refine' s_tyL ?h1 ?_); (case h1 => walk_at "hl"))
  | ((with_reducible refine' s_fldM ?h1 ?h2 ?h3 ?_); (case h1 => walk_at "hl"); (case h2 => walk_at "fok"); (case h3 => walk_at "flk"))
  | ((with_reducible refine' s_setM ?h1 ?h2 ?h3 ?h4 ?_); (case h1 => walk_at "hl"); (case h2 => walk_at "fok"); (case h4 => walk_at "put"); (case h3 => exact Nat.le_of_ble_eq_true rfl))
  | ((with_reducible refine' s_starM ?h1 ?_); (case h1 => walk_at "hl"))
  | ((with_reducible refine' s_recv ?h1 ?h2 ?_); (case h1 => walk_at "hl"); (case h2 => exact rfl))
  | ((with_reducible refine' s_sz ?h1 ?_); (case h1 => (simp; done))))
local macro_rules | `(tactic| walk_at "rd") => `(tactic| repeat (walk_at "rd1"))
local macro_rules | `(tactic| walk_at "fok") => `(tactic| assumption)
local macro_rules | `(tactic| walk_at "flk") => `(tactic| rfl)
local macro_rules | `(tactic| walk_at "put") => `(tactic| exact rfl)

local macro_rules | `(tactic| walk_at "fok") => `(tactic| first | assumption | exact Tj.ce (by assumption) (by decide) | exact Tj.de (by assumption) (by decide) | exact Tj.ke (by assumption) (by decide) | exact Tj.fe (by assumption) (by decide))
theorem s_setX {C : Addr} {sp : Sp} {E : L2.St → XK} {to ti : TE} {v : V} {σ : L2.St} {H : Hp} {Q : L2.St → Hp → Prop} (h : to σ H fun o H1 => ti σ H1 fun i H2 => ∃ (a dx : Addr) (fs : List (Str × V)), o = .ref a ∧ H2 a = some (.ins C dx fs) ∧ sp [.ref a, i, v] H2 (fun _ H' => Q σ H') (E σ)) : gSetX C sp E to ti v σ H Q := h
theorem s_gtup4 {T : Addr} {x y z u : V} {i j k l n : Nat} {σ : L2.St} {H : Hp} {R : L2.St → Hp → Prop} (hT : H T = some (.tup [x, y, z, u])) (hn : 4 = n) (q : R ((((σ.set i (some x)).set j (some y)).set k (some z)).set l (some u)) H) : gTupU n (gCons (gName i) (gCons (gName j) (gCons (gName k) (gCons (gName l) gNil)))) (.ref T) σ H R := by
  subst hn
  simp only [gTupU, hT]
  exact ⟨rfl, _, _, rfl, _, _, rfl, _, _, rfl, _, _, rfl, rfl, q⟩
theorem nmC_new {n : Nat} (h : n < 8) : nmC n ∉ (List.range n).map nmC := by
  intro z
  obtain ⟨j, hj, e⟩ := List.mem_map.mp z
  rw [List.mem_range] at hj
  have := nmC_inj (by omega) h e
  omega
theorem nmL_fst {f : Nat → Str} {cl : List Addr} {nm : Str} (h : ∀ j, j < cl.length → f j ≠ nm) : nm ∉ (nmL f cl).map (·.1) := fun hm => by
  obtain ⟨p, hp, e⟩ := List.mem_map.mp hm
  obtain ⟨j, c, h1, rfl⟩ := mem_nmL.mp hp
  exact h j (List.getElem?_eq_some_iff.mp h1).1 e
theorem pvN_P {ws bds : List Int} {es : List Kf} (h : es.map (·.bd) = bds) : ∀ j, pvN ws es j = pvP ws bds j
  | 0 => rfl
  | j + 1 => by
    unfold pvN pvP
    rw [pvN_P h j]
    congr 1
    rw [← h, List.getD_eq_getElem?_getD, List.getElem?_map]
theorem bd_eq {ws bds : List Int} {es es' : List Kf} {j : Nat} (u : Upd ws es es' j) (h : es.map (·.bd) = bds) : es'.map (·.bd) = bds := by
  rw [← h]
  refine List.ext_getElem? fun i => ?_
  rw [List.getElem?_map, List.getElem?_map]
  cases e : es[i]? with
  | none =>
    have := List.getElem?_eq_none_iff.mp e
    rw [List.getElem?_eq_none (by rw [u.len]; omega)]
  | some e0 =>
    obtain ⟨e1, h1, ⟨_, h2⟩, _⟩ := u.at_ i e0 e
    rw [h1]
    simp [h2]
theorem las_eq {ws bds : List Int} {es es' : List Kf} {las' : List (Option (Int × Int))} {rn rd' : List Int} {j : Nat} (u : Upd ws es es' j) (h : es.map (·.bd) = bds) (v : UpdL ws bds (es.map (·.la)) las' rn rd' j) : las' = es'.map (·.la) := by
  refine List.ext_getElem? fun i => ?_
  rw [List.getElem?_map]
  cases e : es[i]? with
  | none =>
    have := List.getElem?_eq_none_iff.mp e
    have h1 := u.len
    have h2 := v.ll
    rw [List.length_map] at h2
    rw [List.getElem?_eq_none (by omega), List.getElem?_eq_none (by omega)]; rfl
  | some e0 =>
    obtain ⟨e1, h1, _, f1, g1⟩ := u.at_ i e0 e
    rw [h1]
    by_cases hi : i < j
    · rw [(v.lo i hi).1, ← pvN_P h]
      simp [(f1 hi).1]
    · rw [(v.hi i (by omega)).1, List.getElem?_map, e, g1 (by omega)]
theorem rd_eq {a : Nat → Addr} {H H' : Hp} {A : KA} {D D' : DA} {S S' : DSt} {os os' : List Str} {ws bds : List Int} {es es' : List Kf} {las' : List (Option (Int × Int))} {rn rn' rd' : List Int} {j : Nat} (W : KL a H A D S ws es rn os) (W' : KL a H' A D' S' ws es' rn' os') (hl : es.length = rn.length) (u : Upd ws es es' j) (h : es.map (·.bd) = bds) (v : UpdL ws bds (es.map (·.la)) las' rn rd' j) : rd' = rn' := by
  have l1 := v.lr
  have l2 := W.lr
  have l3 := W'.lr
  refine List.ext_getElem (by omega) fun i h1 h2 => ?_
  obtain ⟨e0, he⟩ : ∃ e0, es[i]? = some e0 := ⟨_, List.getElem?_eq_getElem (by omega)⟩
  obtain ⟨e1, he1, _, f1, g1⟩ := u.at_ i e0 he
  have r0 := (W.ef i e0 he).2.2
  have r1 := (W'.ef i e1 he1).2.2
  have x1 : rd'.getD i 0 = rd'[i] := by rw [List.getD_eq_getElem?_getD, List.getElem?_eq_getElem h1]; rfl
  have x2 : rn'.getD i 0 = rn'[i] := by rw [List.getD_eq_getElem?_getD, List.getElem?_eq_getElem h2]; rfl
  rw [← x1, ← x2, r1]
  by_cases hi : i < j
  · rw [(v.lo i hi).2, r0, List.getElem?_map, he, (f1 hi).2, ← pvN_P h]
    by_cases c : e0.la = some (ws.getD i 0, pvN ws es i)
    · rw [if_pos c]
      show ((e0.n : Nat) : Int) + (if some e0.la = some (some (ws.getD i 0, pvN ws es i)) then 0 else 1) = _
      rw [if_pos (by rw [c])]; simp
    · rw [if_neg c]
      show ((e0.n : Nat) : Int) + (if some e0.la = some (some (ws.getD i 0, pvN ws es i)) then 0 else 1) = _
      rw [if_neg (fun z => c (Option.some.inj z))]; simp
  · rw [(v.hi i (by omega)).2, r0, g1 (by omega)]
theorem rep1 {n : Nat} {x : V} : (List.replicate n [x]).flatten = List.replicate n x := by
  induction n with
  | zero => rfl
  | succ n ih => rw [List.replicate_succ, List.flatten_cons, ih]; rfl
def spRight (a : Nat → Addr) : Sp := fun vs H Q _ => ∃ (b : Addr), vs = [.ref b] ∧ BagD H b 0 ∧ Tabs (TabL a) H ∧ ∀ H', Tabs (TabL a) H' → FrN H H' [b] → Q (.bl true) H'
theorem ok__law_right (T : Tm P K mg a fd tk) (TB : TabB base mg (a 38) (a 39)) : FnOk P w K mg base CX0 76 (a 37) (fd 37) ["_law_bag_here"] (spRight a) := by
  refine T.F__law_right.ok sc__law_right (fun vs H Q E h => ?_) (fun cdv Ar outer s H vs Q E hr h => ?_)
  · obtain ⟨b, rfl, _⟩ := h
    rfl
  · obtain ⟨b, rfl, B, hT, k⟩ := h
    refine ⟨_, (pss_cons (ps_asg (pe_tup (pa_cons (pe_make0 T.l.d.mk_Desk (ok_Desk___init__ T.l.d) (hr.mono (by omega)) (by rfl) T.l.d.g_Desk (b_Desk___init__ T.l.d) .nil pass0) (pa_cons (pe_op uAdd pe_int (pe_call (ok__law_take T.l) (hr.mono (by omega)) (by rfl) T.l.g__law_take T.l.F__law_take.kp (b__law_take T.l) .nil pass0 (pa_cons (pv 0) (pa_cons pe_int pa_nil)))) pa_nil))) (pg_tupU (n := 2) rfl (pgs_cons (pg_name (i := 6) sc__law_right.nd rfl (by first | exact Or.inl rfl | exact Or.inr rfl)) (pgs_cons (pg_name (i := 7) sc__law_right.nd rfl (by first | exact Or.inl rfl | exact Or.inr rfl)) pgs_nil))))
  (pss_cons (ps_setLc (i := 1) (own := [("_law_j", 4)]) rfl sc__law_right.nd rfl rfl (sw_true rfl rfl rfl (by decide +kernel)) (pi_range1 (by rfl) T.l.d.b_range (pa_cons (pv 7) pa_nil)) (blkOk_by (N := N__law_right) (sc := defScope s__law_right) (by decide +kernel)) (fun _ _ _ _ _ => (pg_name (i := 4) sc__law_right.nd rfl (by first | exact Or.inl rfl | exact Or.inr rfl))) (fun _ _ _ _ _ => pts_nil) (fun _ _ _ _ _ => (pe_call (ok__law_worth T.l) (hr.mono (by omega)) (by rfl) T.l.g__law_worth T.l.F__law_worth.kp (b__law_worth T.l) .nil pass0 (pa_cons (pv 0) pa_nil))))
  (pss_cons (ps_setLc (i := 2) (own := [("_law_j", 4)]) rfl sc__law_right.nd rfl rfl (sw_true rfl rfl rfl (by decide +kernel)) (pi_range1 (by rfl) T.l.d.b_range (pa_cons (pv 7) pa_nil)) (blkOk_by (N := N__law_right) (sc := defScope s__law_right) (by decide +kernel)) (fun _ _ _ _ _ => (pg_name (i := 4) sc__law_right.nd rfl (by first | exact Or.inl rfl | exact Or.inr rfl))) (fun _ _ _ _ _ => pts_nil) (fun _ _ _ _ _ => (pe_call (ok__law_of T.l) (hr.mono (by omega)) (by rfl) T.l.g__law_of T.l.F__law_of.kp (b__law_of T.l) .nil pass0 (pa_cons (pv 0) (pa_cons (pe_lst (pa_cons pe_int (pa_cons pe_int (pa_cons (pe_op op_pow pe_int pe_int) (pa_cons pe_int (pa_cons (pe_op op_pow pe_int pe_int) (pa_cons (pe_op op_pow pe_int pe_int) pa_nil))))))) pa_nil)))))
  (pss_cons (ps_setLc (i := 3) (own := [("_law_j", 4), ("_law_worth_here", 14)]) rfl sc__law_right.nd rfl rfl (sw_true rfl rfl rfl (by decide +kernel)) (pi_enum (by rfl) T.b_enumerate (pa_cons (pv 1) pa_nil)) (blkOk_by (N := N__law_right) (sc := defScope s__law_right) (by decide +kernel)) (fun _ _ _ _ _ => (pg_tupU (n := 2) rfl (pgs_cons (pg_name (i := 4) sc__law_right.nd rfl (by first | exact Or.inl rfl | exact Or.inr rfl)) (pgs_cons (pg_name (i := 14) sc__law_right.nd rfl (by first | exact Or.inl rfl | exact Or.inr rfl)) pgs_nil)))) (fun _ _ _ _ _ => pts_nil) (fun _ _ _ _ _ => (pe_meth (pv 6) T.l.d.cl_Desk T.l.d.m_Desk_cell (ok_Desk_cell T.l.d) (hr.mono (by omega)) (b_Desk_cell T.l.d) .nil pass0 (pa_cons (pe_op uAdd pe_str (pe_callTy call_str_int (by rfl) T.b_str bt_str (pa_cons (pv 4) pa_nil))) (pa_cons (pv 14) pa_nil)))))
  (pss_cons (ps_asg (pe_tup (pa_cons (pe_op uMul (pe_lst (pa_cons pe_int pa_nil)) (pv 7)) (pa_cons (pe_op uMul (pe_lst (pa_cons pe_int pa_nil)) (pv 7)) (pa_cons (pe_op uMul (pe_lst (pa_cons pe_non pa_nil)) (pv 7)) (pa_cons (pe_lst pa_nil) pa_nil))))) (pg_tupU (n := 4) rfl (pgs_cons (pg_name (i := 8) sc__law_right.nd rfl (by first | exact Or.inl rfl | exact Or.inr rfl)) (pgs_cons (pg_name (i := 9) sc__law_right.nd rfl (by first | exact Or.inl rfl | exact Or.inr rfl)) (pgs_cons (pg_name (i := 10) sc__law_right.nd rfl (by first | exact Or.inl rfl | exact Or.inr rfl)) (pgs_cons (pg_name (i := 11) sc__law_right.nd rfl (by first | exact Or.inl rfl | exact Or.inr rfl)) pgs_nil))))))
  (pss_cons (ps_for PassesOwn.never rfl (pi_range1 (by rfl) T.l.d.b_range (pa_cons (pv 7) pa_nil)) (pg_name (i := 4) sc__law_right.nd rfl (by first | exact Or.inl rfl | exact Or.inr rfl))
   (pss_one (ps_expr (pe_bm PySem.F.plainAttrs_list PySem.F.slot_list_append PySem.F.type_list_append uAppend (pv 11) (pa_cons (pe_call (ok__law_kept T TB) (hr.mono (by omega)) (by rfl) T.g__law_kept T.F__law_kept.kp (b__law_kept T) .nil pass0 (pa_cons (pv 6) (pa_cons (pv 8) (pa_cons (pv 3) (pa_cons (pv 11) (pa_cons (pv 4) (pa_cons (pe_ix uIx (pv 2) (pv 4) (fun _ _ => rfl)) (pa_cons (pe_cmpR (uEq K hr.units) (pe_call (ok__law_take T.l) (hr.mono (by omega)) (by rfl) T.l.g__law_take T.l.F__law_take.kp (b__law_take T.l) .nil pass0 (pa_cons (pv 0) (pa_cons pe_int pa_nil))) pe_int (nomark _)) pa_nil)))))))) pa_nil)))))
  (pss_cons (ps_for PassesOwn.never rfl (pi_range1 (by rfl) T.l.d.b_range (pa_cons (pe_op uAdd pe_int (pe_call (ok__law_take T.l) (hr.mono (by omega)) (by rfl) T.l.g__law_take T.l.F__law_take.kp (b__law_take T.l) .nil pass0 (pa_cons (pv 0) (pa_cons pe_int pa_nil)))) pa_nil)) (pg_name (i := 5) sc__law_right.nd rfl (by first | exact Or.inl rfl | exact Or.inr rfl))
   (pss_cons (ps_for PassesOwn.never rfl (pi_range1 (by rfl) T.l.d.b_range (pa_cons (pe_op uAdd pe_int (pe_call (ok__law_take T.l) (hr.mono (by omega)) (by rfl) T.l.g__law_take T.l.F__law_take.kp (b__law_take T.l) .nil pass0 (pa_cons (pv 0) (pa_cons pe_int pa_nil)))) pa_nil)) (pg_name (i := 12) sc__law_right.nd rfl (by first | exact Or.inl rfl | exact Or.inr rfl))
   (pss_cons (ps_asg (pe_call (ok__law_take T.l) (hr.mono (by omega)) (by rfl) T.l.g__law_take T.l.F__law_take.kp (b__law_take T.l) .nil pass0 (pa_cons (pv 0) (pa_cons (pv 7) pa_nil))) (pg_name (i := 4) sc__law_right.nd rfl (by first | exact Or.inl rfl | exact Or.inr rfl)))
  (pss_cons (ps_asg (pe_call (ok__law_worth T.l) (hr.mono (by omega)) (by rfl) T.l.g__law_worth T.l.F__law_worth.kp (b__law_worth T.l) .nil pass0 (pa_cons (pv 0) pa_nil)) (pg_sub (pv 1) (pv 4) set_listU))
  (pss_one (ps_asg (pe_ix uIx (pv 1) (pv 4) (fun _ _ => rfl)) (pg_setX (E := fun _ => E0) (pv 6) (pe_op uAdd pe_str (pe_callTy call_str_int (by rfl) T.b_str bt_str (pa_cons (pv 4) pa_nil))) T.ns_Desk T.o_Desk___setitem__.at_ T.o_Desk___setitem__.fn (ok_Desk___setitem__K T) (hr.mono (by omega)) (b_Desk___setitem__K T) (fun _ => passZ0)))))))
  (pss_cons (ps_asg (pe_ifExp (pt_cmpR (uEq K hr.units) (pe_call (ok__law_take T.l) (hr.mono (by omega)) (by rfl) T.l.g__law_take T.l.F__law_take.kp (b__law_take T.l) .nil pass0 (pa_cons (pv 0) (pa_cons pe_int pa_nil))) pe_int (nomark _)) (pe_call (ok__law_take T.l) (hr.mono (by omega)) (by rfl) T.l.g__law_take T.l.F__law_take.kp (b__law_take T.l) .nil pass0 (pa_cons (pv 0) (pa_cons (pv 7) pa_nil))) (pe_op op_sub (pv 7) pe_int)) (pg_name (i := 13) sc__law_right.nd rfl (by first | exact Or.inl rfl | exact Or.inr rfl)))
  (pss_cons (ps_if (PW.pt (pw_or (pt_cmpR (uNe K hr.units) (pv 8) (pv 9) (nomark _)) (pw_or1 (pt_cmpR (uNe K hr.units) (pe_callO0 (E := fun _ => E0) callee_sub (pe_ix uIx (pv 11) (pv 13) (fun _ _ => rfl)) T.l.d.o_Kept___call__.at_ T.l.d.o_Kept___call__.fn T.l.d.o_Kept___call__.fi (ok_callX T.l.d (ok_N T 8) spWN_mono) (hr.mono (by omega)) (b_callX T.l.d) (fun _ => passZ0)) (pe_call (ok__law_read T) (hr.mono (by omega)) (by rfl) T.g__law_read T.F__law_read.kp (b__law_read T) .nil pass0 (pa_cons (pv 13) (pa_cons (pv 1) (pa_cons (pv 2) (pa_cons (pv 10) (pa_cons (pv 9) pa_nil)))))) (nomark _))))) (pss_one (ps_ret pe_bl)) pss_nil)
  (pss_one (ps_for PassesOwn.never rfl (pi_range1 (by rfl) T.l.d.b_range (pa_cons (pv 7) pa_nil)) (pg_name (i := 4) sc__law_right.nd rfl (by first | exact Or.inl rfl | exact Or.inr rfl))
   (pss_cons (ps_if (PW.pt (pw_or (pt_cmpR (uNe K hr.units) (pe_ix uIx (pv 8) (pv 4) (fun _ _ => rfl)) (pe_ix uIx (pv 9) (pv 4) (fun _ _ => rfl)) (nomark _)) (pw_or1 (pt_cmpR (uNe K hr.units) (pe_fldU K (pe_ix uIx (pv 11) (pv 4) (fun _ _ => rfl))) (pe_ix uIx (pv 9) (pv 4) (fun _ _ => rfl)) (nomark _))))) (pss_one (ps_ret pe_bl)) pss_nil)
  (pss_one (ps_if (pt_cmpR (uNe K hr.units) (pe_prop (pe_ix uIx (pv 11) (pv 4) (fun _ _ => rfl)) T.l.d.cl_Kept T.l.d.p_Kept_held (ok_Kept_held T.l.d) (hr.mono (by omega)) (b_Kept_held T.l.d) .nil pass0 (by rfl)) (pe_ifExp (pt_cmpR op_isN1 (pe_ix uIx (pv 10) (pv 4) (fun _ _ => rfl)) pe_non (nomark _)) pe_non (pe_ix uIx (pe_ix uIx (pv 10) (pv 4) (fun _ _ => rfl)) pe_int (fun _ _ => rfl))) (nomark _)) (pss_one (ps_ret pe_bl)) pss_nil)))))))))
  (pss_one (ps_ret pe_bl))))))))), ?_⟩
    have TJ := T.l.d
    walk_at "rd"
    intro d dx nd ndx hne
    refine ⟨d, dx, rfl, upd_same, fun D H1 k1 m1 e1 f1 nn1 => ⟨rfl, ?_⟩⟩
    have s1 : Same H H1 := fun y o hy => f1 _ _ (by rw [upd_ne (ne_of_none hy nd), upd_ne (ne_of_none hy ndx)]; exact hy) (ne_of_none hy nd)
    have nD : ∀ y ∈ dAll d D, H y = none := fun y hy => by
      rcases List.mem_cons.mp hy with rfl | hy
      · exact nd
      · cases e : H y with
        | none => rfl
        | some o =>
          have := nn1 y hy
          rw [upd_ne (ne_of_none e nd), upd_ne (ne_of_none e ndx), e] at this
          cases this
    obtain ⟨bxs, hbx⟩ := bag_lst B
    have bD : b ∉ dAll d D := fun hm => by rw [nD _ hm] at hbx; cases hbx
    have B1 : BagD H1 b 0 := bag_frs B (Fr.same (S := []) s1) (by simp)
    clear f1 nn1 hne e1 nd ndx
    walk_at "rd"
    refine ⟨b, 7, 0, rfl, B1, by decide, by decide, by decide, fun d1 H2 d10 d17 B2 f2 => ?_⟩
    walk_at "rd"
    intro t nt
    refine s_gtup2 upd_same rfl ?_
    have bDn : ∀ y ∈ dAll d D, y ∉ [b] := fun y hy z => bD (by rw [← List.mem_singleton.mp z]; exact hy)
    have DK2 := (k1.frs f2 bDn).same (Same.new (o := .tup [.ref d, .int (2 + d1)]) nt)
    have f3 : Fr H (upd H2 t (.tup [.ref d, .int (2 + d1)])) [b] := (Fr.same s1).tr (f2.tr (Fr.same (Same.new nt)))
    have B3 : BagD (upd H2 t (.tup [.ref d, .int (2 + d1)])) b 1 := bag_frs B2 (Fr.same (S := []) (Same.new nt)) (by simp)
    have mv3 := Same.new (o := .tup [.ref d, .int (2 + d1)]) nt _ _ (f2 _ _ m1 (bDn _ (by simp [dAll])))
    generalize upd H2 t (.tup [.ref d, .int (2 + d1)]) = H3 at DK2 f3 B3 mv3 ⊢
    clear k1 m1 s1 B1 B2 f2 nt
    walk_at "rd"
    refine s_lcRJ (fun i Dl acc H' => ∃ ws : List Int, acc = ws.map V.int ∧ ws.length = i ∧ H' Dl = some (.lst acc) ∧ BagD H' b (1 + 2 * i) ∧ Fr H3 H' [b] ∧ H3 Dl = none) (by omega) (by omega) (fun Dl nDl => ⟨[], rfl, rfl, upd_same, bag_frs B3 (Fr.same (S := []) (Same.new nDl)) (by simp), Fr.same (Same.new nDl), nDl⟩) ?_ ?_ ?_
    · rintro i Dl acc H' ⟨ws, e1, e2, e3, _⟩
      exact ⟨e3, by rw [e1, List.length_map, e2]⟩
    · rintro i Dl acc H2 R hi ⟨ws, e1, e2, e3, e4, e5, e6⟩ kk
      walk_at "rd"
      refine ⟨rfl, ?_⟩
      walk_at "rd"
      refine ⟨b, _, rfl, e4, by omega, fun v H5 hv B5 f5 => ?_⟩
      have bDl : Dl ≠ b := fun e => by
        obtain ⟨xs, hh⟩ := bag_lst B3
        rw [← e, e6] at hh; cases hh
      have e3' := f5 _ _ e3 (by simpa using bDl)
      walk_at "rd"
      refine kk (.int v) H5 e3' ⟨ws ++ [v], by rw [e1]; simp, by simp [e2], upd_same, ?_, fun y o hy hS => ?_, e6⟩
      · refine bag_frs (L := [Dl]) (B5.more (by omega)) (fun y o hy hS => by rw [upd_ne (by simpa using hS)]; exact hy) (by simpa using Ne.symm bDl)
      · rw [upd_ne (ne_of_none hy e6)]
        exact f5 _ _ (e5 _ _ hy hS) hS
    rintro pw acc H4 npw ⟨ws, rfl, lws, hpw, B4, f4, _⟩
    walk_at "rd"
    have f34 := f3.tr f4
    have pwb : pw ≠ b := fun z => by obtain ⟨xs, hh⟩ := bag_lst B3; rw [← z, npw] at hh; cases hh
    have DK4 := DK2.frs f4 bDn
    have mv4 := f4 _ _ mv3 (bDn _ (by simp [dAll]))
    have occD4 : ∀ y ∈ dAll d D, ∃ o, H3 y = some o := fun y hm => DK2.occ hm
    have pwD : pw ∉ dAll d D := fun hm => by obtain ⟨o, ho⟩ := occD4 _ hm; rw [npw] at ho; cases ho
    refine s_lcRJ (fun i Dl acc H' => ∃ bds : List Int, acc = bds.map V.int ∧ bds.length = i ∧ H' Dl = some (.lst acc) ∧ BagD H' b (17 + i) ∧ Fr H4 H' [b] ∧ H4 Dl = none) (by omega) (by omega) (fun Dl nDl => ⟨[], rfl, rfl, upd_same, bag_frs (L := []) (B4.more (by omega)) (Fr.same (Same.new nDl)) (by simp), Fr.same (Same.new nDl), nDl⟩) ?_ ?_ ?_
    · rintro i Dl acc H' ⟨ws, e1, e2, e3, _⟩
      exact ⟨e3, by rw [e1, List.length_map, e2]⟩
    · rintro i Dl acc H2 R hi ⟨bds, e1, e2, e3, e4, e5, e6⟩ kk
      walk_at "rd"
      refine ⟨rfl, ?_⟩
      walk_at "rd"
      refine s_I ⟨by decide, by decide, by decide⟩ ?_
      walk_at "rd"
      refine s_I ⟨by decide, by decide, by decide⟩ ?_
      walk_at "rd"
      refine s_I ⟨by decide, by decide, by decide⟩ ?_
      walk_at "rd"
      intro p np
      have bDl : Dl ≠ b := fun e => by
        obtain ⟨xs, hh⟩ := bag_lst B4
        rw [← e, e6] at hh; cases hh
      have pb : p ≠ b := fun e => by
        obtain ⟨xs, hh⟩ := bag_lst e4
        rw [← e, np] at hh; cases hh
      have pDl : p ≠ Dl := fun e => by rw [e, e3] at np; cases np
      refine ⟨b, p, _, _, rfl, bag_frs (L := []) e4 (Fr.same (Same.new np)) (by simp), by omega, upd_same, pb, by simp, by simp, fun i' x H5 hx B5 f5 => ?_⟩
      obtain ⟨v, rfl⟩ : ∃ v, x = .int v := by
        have hm := List.mem_of_getElem? hx
        simp only [List.mem_cons, List.not_mem_nil, or_false] at hm
        rcases hm with h | h | h | h | h | h <;> exact ⟨_, h⟩
      have sp : Fr H2 H5 [b] := (Fr.same (Same.new np)).tr f5
      have e3' := sp _ _ e3 (by simpa using bDl)
      walk_at "rd"
      refine kk (.int v) H5 e3' ⟨bds ++ [v], by rw [e1]; simp, by simp [e2], upd_same, ?_, fun y o hy hS => ?_, e6⟩
      · refine bag_frs (L := [Dl]) (B5.more (by omega)) (fun y o hy hS => by rw [upd_ne (by simpa using hS)]; exact hy) (by simpa using Ne.symm bDl)
      · rw [upd_ne (ne_of_none hy e6)]
        exact sp _ _ (e5 _ _ hy hS) hS
    rintro pb acc H5 npb ⟨bds, rfl, lbs, hpb, B5, f5, _⟩
    walk_at "rd"
    have f35 := f34.tr f5
    have pbb : pb ≠ b := fun z => by obtain ⟨xs, hh⟩ := bag_lst B4; rw [← z, npb] at hh; cases hh
    have pbD : pb ∉ dAll d D := fun hm => by obtain ⟨o, ho⟩ := DK4.occ hm; rw [npb] at ho; cases ho
    have pbw : pb ≠ pw := fun z => by rw [z, hpw] at npb; cases npb
    have DK5 := DK4.frs f5 bDn
    have mv5 := f5 _ _ mv4 (bDn _ (by simp [dAll]))
    have hpw5 := f5 _ _ hpw (by simpa using pwb)
    have lm : 2 ≤ ws.length ∧ ws.length ≤ 8 := by omega
    have lbw : bds.length = ws.length := by omega
    have s3 : ∀ {y : Addr}, y ∈ [D.un, D.cs, D.rd] → y ∈ dAll d D := fun {y} hm => by
      simp only [List.mem_cons, List.not_mem_nil, or_false] at hm
      simp only [dAll, List.mem_cons, List.not_mem_nil, or_false]
      rcases hm with h | h | h <;> simp [h]
    have hE : (Sk [] []) = S0 := rfl
    refine s_ienum ?_
    walk_at "rd"
    refine ⟨pw, _, rfl, SqL.of hpw5, ?_⟩
    refine lcEJ (xs := ws.map V.int) (fun i Dl acc H' => ∃ cl : List Addr, acc = cl.map V.ref ∧ cl.length = i ∧ H' Dl = some (.lst acc) ∧ H' pw = some (.lst (ws.map V.int)) ∧ DkAt a H' d D (Sk cl []) ∧ (∀ k c, cl[k]? = some c → CellAt a H' d c (nmC k) (ws.getD k 0)) ∧ Fr H5 H' [D.un, D.cs, D.rd] ∧ (∀ c ∈ cl, H5 c = none) ∧ H5 Dl = none)
      (by rw [List.length_map]; omega) (fun Dl nDl => ⟨[], rfl, rfl, upd_same, Same.new nDl _ _ hpw5, by rw [hE]; exact DK5.same (Same.new nDl), (fun k c h => by simp at h), Fr.same (Same.new nDl), (fun c h => by cases h), nDl⟩) ?_ ?_ ?_
    · rintro i Dl acc H' ⟨cl, e1, e2, e3, e4, _⟩
      exact ⟨e3, by rw [e1, List.length_map, e2], e4⟩
    · rintro i Dl acc x T' H2 R hx ⟨cl, e1, e2, e3, e4, e5, e6, e7, e8, e9⟩ nT kk
      rw [List.getElem?_map] at hx
      cases ew : ws[i]? with
      | none => rw [ew] at hx; cases hx
      | some wv =>
      rw [ew] at hx
      cases hx
      have hi : i < ws.length := (List.getElem?_eq_some_iff.mp ew).1
      have sT := Same.new (o := .tup [.int (i : Nat), .int wv]) nT
      refine s_gtup2 upd_same rfl ?_
      have e3' := sT _ _ e3
      have e4' := sT _ _ e4
      have e5' := e5.same sT
      have e6' : ∀ k c, cl[k]? = some c → CellAt a (upd H2 T' (.tup [.int (i : Nat), .int wv])) d c (nmC k) (ws.getD k 0) := fun k c h => (e6 k c h).same sT
      have e7' := e7.tr (Fr.same (S := [D.un, D.cs, D.rd]) sT)
      generalize upd H2 T' (.tup [.int (i : Nat), .int wv]) = H6 at e3' e4' e5' e6' e7' ⊢
      have hob := e5'.ob
      refine ⟨rfl, ?_⟩
      walk_at "rd"
      refine ⟨(i : Int), rfl, Nat.lt_of_le_of_lt (Nat.log2_le_self _) (by omega), ?_⟩
      refine s_addS (sz_le ?_) ?_
      · have : (Str.ofString "c" ++ Str.ofString (toString ((i : Nat) : Int))).length ≤ 5 := by
          rw [nmC_eq (by omega)]
          exact nmC_len (by omega)
        rw [len_app] at this
        omega
      rw [nmC_eq (by omega)]
      walk_at "rd"
      subst e2
      have nml : nmC cl.length ∉ (nmL nmC cl).map (·.1) := nmL_fst fun j hj e => by
        have := nmC_inj (by omega) (by omega) e
        omega
      refine ⟨d, D, Sk cl [], nmC cl.length, wv, rfl, e5', rfl, ?_, nml, ?_, by show ((List.range cl.length).map nmC ++ []).length ≤ 50; simp; omega, by show (nmL nmC cl).length ≤ 50; rw [nmL_len]; omega, by show (nmL nmC cl ++ []).length ≤ 50; rw [List.append_nil, nmL_len]; omega, fun c H7 DK7 ce7 nc f7 => ?_⟩
      · show _ ∉ (List.range cl.length).map nmC ++ []
        rw [List.append_nil]; exact nmC_new (by omega)
      · show nmC cl.length ∉ (nmL nmC cl ++ ([] : List (Str × Addr))).map (·.1)
        rw [List.append_nil]; exact nml
      rw [← Sk_c] at DK7
      have hnb : Dl ≠ b := fun z => by obtain ⟨xs, hh⟩ := bag_lst B5; rw [← z, e9] at hh; cases hh
      have DlD : Dl ∉ dAll d D := fun hm => by obtain ⟨o, ho⟩ := DK5.occ hm; rw [e9] at ho; cases ho
      have dl4 : Dl ∉ [D.un, D.cs, D.rd] := fun hm => DlD (s3 hm)
      have nDl4 : ∀ k c', cl[k]? = some c' → c' ∉ [D.un, D.cs, D.rd] := fun k c' h => by
        obtain ⟨dc, hc⟩ := e6' k c' h
        simp only [List.mem_cons, List.not_mem_nil, or_false, not_or]
        exact ⟨ne_of hc e5'.un (by intro z; cases z), ne_of hc e5'.cs (by intro z; cases z), ne_of hc e5'.rd (by intro z; cases z)⟩
      have hDl4 := f7 _ _ e3' dl4
      have nc0 : H5 c = none := by
        cases e : H5 c with
        | none => rfl
        | some o =>
          by_cases hm : c ∈ [D.un, D.cs, D.rd]
          · simp only [List.mem_cons, List.not_mem_nil, or_false] at hm
            rcases hm with h | h | h
            · rw [h, e5'.un] at nc; cases nc
            · rw [h, e5'.cs] at nc; cases nc
            · rw [h, e5'.rd] at nc; cases nc
          · rw [e7' _ _ e hm] at nc; cases nc
      have uL : ∀ {y : Addr} {o : HO}, H7 y = some o → y ≠ Dl → upd H7 Dl (.lst (acc ++ [.ref c])) y = some o := fun h n => by rw [upd_ne n]; exact h
      refine kk (.ref c) H7 hDl4 ⟨cl ++ [c], by rw [e1]; simp, by simp, upd_same, ?_, ?_, ?_, fun y o hy hS => ?_, ?_, e9⟩
      · exact uL (f7 _ _ e4' fun hm => pwD (s3 hm)) (fun z => by rw [z, e9] at hpw5; cases hpw5)
      · refine DK7.frs (L := [Dl]) (fun y o hy hS => uL hy (by simpa using hS)) fun y hy z => DlD (by rw [← List.mem_singleton.mp z]; exact hy)
      · intro k c' hk
        by_cases hkl : k < cl.length
        · rw [List.getElem?_append_left hkl] at hk
          obtain ⟨dc, hc⟩ := e6' k c' hk
          exact ⟨dc, uL (f7 _ _ hc (nDl4 k c' hk)) (ne_of hc e3' (by intro z; cases z))⟩
        · rw [List.getElem?_append_right (by omega)] at hk
          have hk0 : k - cl.length = 0 := by
            cases h : k - cl.length with
            | zero => rfl
            | succ n => rw [h] at hk; simp at hk
          rw [hk0] at hk
          cases hk
          have ek : k = cl.length := by omega
          subst ek
          have : ws.getD cl.length 0 = wv := by simp [List.getD, ew]
          rw [this]
          obtain ⟨dc, hc⟩ := ce7
          exact ⟨dc, uL hc (ne_of hc hDl4 (by intro z; cases z))⟩
      · exact uL (f7 _ _ (e7' _ _ hy hS) hS) (ne_of_none hy e9)
      · intro c' hm
        rcases List.mem_append.mp hm with h | h
        · exact e8 c' h
        · rw [List.mem_singleton.mp h]; exact nc0
    rintro pc acc H6 npc ⟨cl, rfl, lcl, hpc, hpw6, DK6, ce6, f6, ncl, _⟩
    rw [List.length_map] at lcl
    walk_at "rd"
    have hM : (2 + d1).toNat = ws.length := by omega
    have h2d : (2 + d1 : Int) = (ws.length : Nat) := by omega
    have f6D : ∀ y ∈ [D.un, D.cs, D.rd], H y = none := fun y hy => nD y (s3 hy)
    have fH6 : Fr H H6 [b] := fun y o hy hS => f6 _ _ (f35 _ _ hy hS) fun hm => by rw [f6D y hm] at hy; cases hy
    have b3 : b ∉ [D.un, D.cs, D.rd] := fun hm => bD (s3 hm)
    have B6 := bag_frs B5 f6 b3
    have hpb6 := f6 _ _ hpb fun hm => pbD (s3 hm)
    have nd0 := DK6.nd.1
    simp only [List.nodup_cons, List.mem_cons, List.not_mem_nil, or_false, not_or, List.nodup_nil, and_true] at nd0
    have mv6 : H6 D.mv = some (.lst []) := f6 _ _ mv5 (by
      simp only [List.mem_cons, List.not_mem_nil, or_false, not_or]
      exact ⟨fun e => nd0.1.2.2.2 e.symm, ne_of mv5 DK5.cs (by intro z; cases z), ne_of mv5 DK5.rd (by intro z; cases z)⟩)
    have nwo : ∀ {y : Addr} {Hx : Hp}, Fr H Hx [b] → Hx y = none → y ≠ b → H y = none := fun {y Hx} f h n => by
      cases e : H y with
      | none => rfl
      | some o => rw [f _ _ e (by simpa using n)] at h; cases h
    have npwH := nwo f3 npw pwb
    have npbH := nwo f34 npb pbb
    have pcb : pc ≠ b := fun z => by obtain ⟨xs, hh⟩ := bag_lst B5; rw [← z, npc] at hh; cases hh
    have npcH := nwo f35 npc pcb
    have nclH : ∀ c ∈ cl, H c = none := fun c hc => nwo f35 (ncl c hc) fun z => by obtain ⟨xs, hh⟩ := bag_lst B5; rw [← z, ncl c hc] at hh; cases hh
    have pcD : pc ∉ dAll d D := fun hm => by obtain ⟨o, ho⟩ := DK5.occ hm; rw [npc] at ho; cases ho
    have pcw : pc ≠ pw := fun z => by rw [z, hpw5] at npc; cases npc
    have pcpb : pc ≠ pb := fun z => by rw [z, hpb] at npc; cases npc
    clear npw npb npc DK2 DK4 DK5 B3 B4 B5 f3 f34 f35 f4 f5 f6 mv3 mv4 mv5 hpw hpw5 hpb ncl f6D occD4 hM
    intro q1 nq1
    walk_at "rd"
    refine s_mulL upd_same (by omega) (by omega) (sz_le (by simp; omega)) fun pr npr => ?_
    rw [rep1, h2d, Int.toNat_natCast]
    have sA : Same H6 (upd (upd H6 q1 (.lst [.int 0])) pr (.lst (List.replicate ws.length (.int 0)))) := (Same.new nq1).trans (Same.new npr)
    have hprA : upd (upd H6 q1 (.lst [.int 0])) pr (.lst (List.replicate ws.length (.int 0))) pr = some (.lst (List.replicate ws.length (.int 0))) := upd_same
    have npr6 : H6 pr = none := (Same.new (o := .lst [.int 0]) nq1).free npr
    generalize upd (upd H6 q1 (.lst [.int 0])) pr (.lst (List.replicate ws.length (.int 0))) = HA at sA hprA ⊢
    clear nq1 npr
    walk_at "rd"
    intro q2 nq2
    walk_at "rd"
    refine s_mulL upd_same (by omega) (by omega) (sz_le (by simp; omega)) fun pdr npdr => ?_
    rw [rep1, Int.toNat_natCast]
    have sB : Same HA (upd (upd HA q2 (.lst [.int 0])) pdr (.lst (List.replicate ws.length (.int 0)))) := (Same.new nq2).trans (Same.new npdr)
    have hpdB : upd (upd HA q2 (.lst [.int 0])) pdr (.lst (List.replicate ws.length (.int 0))) pdr = some (.lst (List.replicate ws.length (.int 0))) := upd_same
    have npdA : HA pdr = none := (Same.new (o := .lst [.int 0]) nq2).free npdr
    generalize upd (upd HA q2 (.lst [.int 0])) pdr (.lst (List.replicate ws.length (.int 0))) = HB at sB hpdB ⊢
    clear nq2 npdr
    walk_at "rd"
    intro q3 nq3
    walk_at "rd"
    refine s_mulL upd_same (by omega) (by omega) (sz_le (by simp; omega)) fun pl npl => ?_
    rw [rep1, Int.toNat_natCast]
    have sC : Same HB (upd (upd HB q3 (.lst [.non])) pl (.lst (List.replicate ws.length .non))) := (Same.new nq3).trans (Same.new npl)
    have hplC : upd (upd HB q3 (.lst [.non])) pl (.lst (List.replicate ws.length .non)) pl = some (.lst (List.replicate ws.length .non)) := upd_same
    have nplB : HB pl = none := (Same.new (o := .lst [.non]) nq3).free npl
    generalize upd (upd HB q3 (.lst [.non])) pl (.lst (List.replicate ws.length .non)) = HC at sC hplC ⊢
    clear nq3 npl
    walk_at "rd"
    intro pa npaC
    walk_at "rd"
    intro t4 nt4
    refine s_gtup4 upd_same rfl ?_
    have sD : Same HC (upd (upd HC pa (.lst [])) t4 (.tup [.ref pr, .ref pdr, .ref pl, .ref pa])) := (Same.new npaC).trans (Same.new nt4)
    have hpaD : upd (upd HC pa (.lst [])) t4 (.tup [.ref pr, .ref pdr, .ref pl, .ref pa]) pa = some (.lst []) := Same.new nt4 _ _ upd_same
    generalize upd (upd HC pa (.lst [])) t4 (.tup [.ref pr, .ref pdr, .ref pl, .ref pa]) = HD at sD hpaD ⊢
    clear nt4
    have s6C : Same H6 HC := sA.trans (sB.trans sC)
    have s6D : Same H6 HD := s6C.trans sD
    obtain ⟨b6, hb6⟩ := bag_lst B6
    have W0 : EK a H HD ⟨b, pw, pb, pdr, pl⟩ ⟨d, pr, pc, pa, cl, []⟩ 30 D ws bds [] (List.replicate ws.length 0) (List.replicate ws.length 0) (List.replicate ws.length none) := by
      have fHD : Fr H HD [b] := fH6.tr (Fr.same s6D)
      have BD : BagD HD b 30 := bag_frs (L := []) (B6.more (by omega)) (Fr.same s6D) (by simp)
      obtain ⟨bD', hbD'⟩ := bag_lst BD
      have mr : ∀ n, (List.replicate n (0 : Int)).map V.int = List.replicate n (.int 0) := fun n => by simp
      have prb := ne_of_none hb6 npr6
      have prD : pr ∉ dAll d D := fun hm => by obtain ⟨o, ho⟩ := DK6.occ hm; rw [npr6] at ho; cases ho
      have pcr := ne_of_none hpc npr6
      have pdn : H6 pdr = none := sA.free npdA
      have pln : H6 pl = none := sA.free (sB.free nplB)
      have pan : H6 pa = none := s6C.free npaC
      have oc6 : ∀ {y z : Addr} {o : HO}, H6 y = some o → H6 z = none → y ≠ z := fun h n => ne_of_none h n
      have rpd := ne_of_none hprA npdA
      have rpl := ne_of_none (sB _ _ hprA) nplB
      have rpa := ne_of_none (sC _ _ (sB _ _ hprA)) npaC
      have dpl := ne_of_none hpdB nplB
      have dpa := ne_of_none (sC _ _ hpdB) npaC
      have lpa := ne_of_none hplC npaC
      refine ⟨BD, tabs_frs hT fHD (.lst hbx .nil), ⟨DK6.same s6D, fun k c h => hrcS (by show cl.length ≤ 8; omega) h, (fun j x h => by simp at h), s6D _ _ hpc, hpaD, by rw [mr]; exact sD _ _ (sC _ _ (sB _ _ hprA)), fun k c h => (ce6 k c h).same s6D, (fun j e h => by simp at h), by show cl.length ≤ 8; omega, Nat.zero_le _, Nat.zero_le _, by rw [List.length_replicate]; exact lcl.symm, trivial, by show 0 + 0 ≤ 100; omega, (fun j h _ => by cases h), ⟨pcr, Ne.symm rpa, prD⟩, List.nodup_nil⟩, s6D _ _ mv6, s6D _ _ hpw6, s6D _ _ hpb6, by rw [mr]; exact sD _ _ (sC _ _ hpdB), ⟨_, sD _ _ hplC, by simp, fun i v la e1 e2 => ?_⟩, lcl.symm, by show bds.length = cl.length; omega, by rw [List.length_replicate]; exact lcl.symm, by rw [List.length_replicate]; exact lcl.symm, by show 2 ≤ cl.length; omega, ?_, fun y hy hm => ?_, fHD.toN, gn_fr1 fHD hbD', fun y hy hb => ?_, nD, nclH, fun x hx => by cases hx⟩
      · have h1 := (List.mem_replicate.mp (List.mem_of_getElem? e1)).2
        have h2 := (List.mem_replicate.mp (List.mem_of_getElem? e2)).2
        rw [h1, h2]; rfl
      · show [b, pc, pa, pr, pw, pb, pdr, pl].Nodup
        simp only [List.nodup_cons, List.mem_cons, List.not_mem_nil, or_false, not_or, List.nodup_nil, and_true]
        exact ⟨⟨Ne.symm pcb, oc6 hb6 pan, prb, Ne.symm pwb, Ne.symm pbb, oc6 hb6 pdn, oc6 hb6 pln⟩, ⟨oc6 hpc pan, pcr, pcw, pcpb, oc6 hpc pdn, oc6 hpc pln⟩, ⟨Ne.symm rpa, Ne.symm (oc6 hpw6 pan), Ne.symm (oc6 hpb6 pan), Ne.symm dpa, Ne.symm lpa⟩, ⟨Ne.symm (oc6 hpw6 npr6), Ne.symm (oc6 hpb6 npr6), rpd, rpl⟩, ⟨Ne.symm pbw, oc6 hpw6 pdn, oc6 hpw6 pln⟩, ⟨oc6 hpb6 pdn, oc6 hpb6 pln⟩, dpl, not_false⟩
      · obtain ⟨o, ho⟩ := DK6.occ hy
        simp only [lsK, List.mem_cons, List.not_mem_nil, or_false] at hm
        rcases hm with h | h | h | h | h | h | h | h
        · exact bD (h ▸ hy)
        · exact pcD (h ▸ hy)
        · rw [h, pan] at ho; cases ho
        · exact prD (h ▸ hy)
        · exact pwD (h ▸ hy)
        · exact pbD (h ▸ hy)
        · rw [h, pdn] at ho; cases ho
        · rw [h, pln] at ho; cases ho
      · simp only [lsK, List.mem_cons, List.not_mem_nil, or_false] at hy
        rcases hy with h | h | h | h | h | h | h | h
        · exact absurd h hb
        · rw [h]; exact npcH
        · rw [h]; exact nwo fH6 pan (Ne.symm (oc6 hb6 pan))
        · rw [h]; exact nwo fH6 npr6 (Ne.symm prb)
        · rw [h]; exact npwH
        · rw [h]; exact npbH
        · rw [h]; exact nwo fH6 pdn (Ne.symm (oc6 hb6 pdn))
        · rw [h]; exact nwo fH6 pln (Ne.symm (oc6 hb6 pln))
    clear sA sB sC sD s6C s6D hprA hpdB hplC hpaD npr6 npdA nplB npaC B6 hb6 hpb6 hpw6 hpc mv6 DK6 ce6 npwH npbH npcH nclH fH6 nwo nd0 pcD pcw pcpb pcb pwD pbD pbw pbb pwb b3 s3 bDn bD hE nD hT
    walk_at "rd"
    have lcl' : cl.length = ws.length := lcl
    refine s_forR (by omega) (by omega) (fun i σ H' => ∃ v4 cnt D xs es, σ = [some (.ref b), some (.ref pw), some (.ref pb), some (.ref pc), v4, none, some (.ref d), some (.int (ws.length : Nat)), some (.ref pr), some (.ref pdr), some (.ref pl), some (.ref pa), none, none, none] ∧
      EK a H H' ⟨b, pw, pb, pdr, pl⟩ ⟨d, pr, pc, pa, cl, xs⟩ cnt D ws bds es (List.replicate ws.length 0) (List.replicate ws.length 0) (List.replicate ws.length none) ∧ es.length = i ∧ xs.length = i ∧ cnt ≤ 30 + i ∧ (∀ j e, es[j]? = some e → e.la = none ∧ e.bd = bds.getD j 0)) ⟨none, 30, D, [], [], rfl, W0, rfl, rfl, by omega, fun j e h => by simp at h⟩ ?_ ?_
    · rintro i σ H1 hi ⟨v4, cnt, D, xs, es, rfl, W, les, lxs, lc, hes⟩
      have i8 : i < ws.length := by omega
      have hpb1 := W.hpb
      have hpa1 : H1 pa = some (.lst (xs.map V.ref)) := W.w.hpa
      walk_at "rd"
      refine s_ixL hpb1 (atI_nat (getI (l := bds) (by omega))) ?_
      walk_at "rd"
      refine ⟨b, 2, _, rfl, W.hB, by omega, by decide, by decide, fun d2 H2 d20 d22 B2 f2 => ?_⟩
      have W2 := W.bag B2 f2
      clear W
      walk_at "rd"
      subst les
      have hnA : nmA es.length ∉ (List.range cl.length).map nmC ++ (List.range xs.length).map nmA := fun hm => by
        rcases List.mem_append.mp hm with h | h
        · obtain ⟨j, _, e⟩ := List.mem_map.mp h
          exact nmCA e
        · obtain ⟨j, hj, e⟩ := List.mem_map.mp h
          rw [List.mem_range] at hj
          have := nmA_inj (by omega) (by omega) e
          omega
      have hnR : nmA es.length ∉ (nmL nmC cl ++ nmL nmA xs).map (·.1) := fun hm => by
        rw [List.map_append] at hm
        rcases List.mem_append.mp hm with h | h
        · exact nmL_fst (fun j _ e => nmCA e) h
        · exact nmL_fst (fun j hj e => by have := nmA_inj (by omega) (by omega) e; omega) h
      refine ⟨d, D, Sk cl xs, pr, pc, pa, es.length, bds.getD es.length 0, _, rfl, by omega, W2.w.dk, rfl, hnA, hnR, by show ((List.range cl.length).map nmC ++ (List.range xs.length).map nmA).length ≤ 50; simp; omega, by show (nmL nmC cl ++ nmL nmA xs).length ≤ 50; rw [List.length_append, nmL_len, nmL_len]; omega, W2.hT, fun x f nt c clm os H3 N => ?_⟩
      have hpa3 : H3 pa = some (.lst (xs.map V.ref)) := N.fr _ _ W2.w.hpa (by intros; simp) fun hm => W2.n2 pa (by
        simp only [List.mem_cons, List.not_mem_nil, or_false] at hm
        rcases hm with h | h <;> simp [dAll, h]) (by simp [lsK])
      walk_at "rd"
      refine s_app hpa3 (sz_lt (by rw [List.length_map]; omega)) ?_
      walk_at "rd"
      have exs : xs.map V.ref ++ [V.ref x] = (xs ++ [x]).map V.ref := by simp
      rw [exs]
      have W3 := W2.new (show es.length = xs.length from lxs.symm) (by show xs.length < cl.length; omega) N (by rw [List.getD_eq_getElem?_getD, List.getElem?_replicate]; split <;> rfl) rfl
      refine ⟨_, _, D, xs ++ [x], _, rfl, W3, by simp, by simp [lxs], by omega, fun j e h => ?_⟩
      by_cases hj : j < es.length
      · rw [List.getElem?_append_left hj] at h
        exact hes j e h
      · rw [List.getElem?_append_right (by omega)] at h
        have h0 : j - es.length = 0 := by
          cases h' : j - es.length with
          | zero => rfl
          | succ n => rw [h'] at h; simp at h
        rw [h0] at h
        cases h
        have ej : j = es.length := by omega
        subst ej
        exact ⟨rfl, rfl⟩
    rintro σ H1 ⟨v4, cnt, D, xs, es, rfl, W, les, lxs, lc, hes⟩
    rw [Int.toNat_natCast] at les lxs lc
    have hbd : es.map (·.bd) = bds := by
      refine List.ext_getElem? fun j => ?_
      rw [List.getElem?_map]
      cases ej : es[j]? with
      | none =>
        have := List.getElem?_eq_none_iff.mp ej
        rw [List.getElem?_eq_none (by omega)]; rfl
      | some e =>
        have hj := (List.getElem?_eq_some_iff.mp ej).1
        rw [List.getElem?_eq_getElem (by omega)]
        have := (hes j e ej).2
        rw [List.getD_eq_getElem?_getD, List.getElem?_eq_getElem (by omega)] at this
        simp [this]
    have hla0 : es.map (·.la) = List.replicate ws.length none := by
      refine List.eq_replicate_iff.mpr ⟨by rw [List.length_map, les], fun o ho => ?_⟩
      obtain ⟨e, he, rfl⟩ := List.mem_map.mp ho
      obtain ⟨j, hj⟩ := List.mem_iff_getElem?.mp he
      exact (hes j e hj).1
    rw [← hla0] at W
    obtain ⟨m, hm⟩ : ∃ m, m = ws.length := ⟨_, rfl⟩
    rw [← hm] at les lxs lc lm lcl' W ⊢
    clear hes hla0 W0 lbs lws h2d
    have lbm : bds.length = m := by omega
    generalize hA : (⟨d, pr, pc, pa, cl, xs⟩ : KA) = A at W
    generalize hB : (⟨b, pw, pb, pdr, pl⟩ : LK) = B at W
    have eb : b = B.b := by rw [← hB]
    have epw : pw = B.pw := by rw [← hB]
    have epb : pb = B.pb := by rw [← hB]
    have epdr : pdr = B.pdr := by rw [← hB]
    have epl : pl = B.pl := by rw [← hB]
    have ed : d = A.d := by rw [← hA]
    have epr : pr = A.pr := by rw [← hA]
    have epc : pc = A.pc := by rw [← hA]
    have epa : pa = A.pa := by rw [← hA]
    have lcA : A.cl.length = m := by rw [← hA]; omega
    have lxA : A.xs.length = m := by rw [← hA]; exact lxs
    have k' : ∀ H', Tabs (TabL a) H' → FrN H H' [B.b] → Q (.bl true) H' := fun H' h1 h2 => k H' h1 (by rw [eb]; exact h2)
    clear k
    rw [eb, epw, epb, epdr, epl, ed, epr, epc, epa]
    clear hA hB
    walk_at "rd"
    refine ⟨B.b, 10, _, rfl, W.hB, by omega, by decide, by decide, fun d2 H2 d20 d21 B2 f2 => ?_⟩
    have W2 := W.bag B2 f2
    clear W
    walk_at "rd"
    refine s_forR (by omega) (by omega) (fun i σ H' => ∃ v4 v5 v12 v13 cnt D ws es rn, σ = [some (.ref B.b), some (.ref B.pw), some (.ref B.pb), some (.ref A.pc), v4, v5, some (.ref A.d), some (.int (m : Nat)), some (.ref A.pr), some (.ref B.pdr), some (.ref B.pl), some (.ref A.pa), v12, v13, none] ∧
      EK a H H' B A cnt D ws bds es rn rn (es.map (·.la)) ∧ es.length = m ∧ es.map (·.bd) = bds ∧ cnt ≤ 200 + 100 * i) ⟨_, none, none, none, _, _, _, es, _, rfl, W2, les, hbd, by omega⟩ ?_ ?_
    rotate_left
    · rintro σ H3 ⟨v4, v5, v12, v13, cnt, D, ws, es, rn, rfl, W, _⟩
      walk_at "rd"
      exact k' _ W.hT W.an
    · rintro i σ H3 hi ⟨v4, v5, v12, v13, cnt, D, ws, es, rn, rfl, W, les, hbd, lc⟩
      clear hm lm
      have lm : 2 ≤ m ∧ m ≤ 8 := by have := W.l2; have := W.w.l8; omega
      walk_at "rd"
      refine ⟨B.b, 3, _, rfl, W.hB, by omega, by decide, by decide, fun d3 H4 d30 d33 B4 f4 => ?_⟩
      have W4 := W.bag B4 f4
      clear W
      walk_at "rd"
      refine s_forR (by omega) (by omega) (fun n σ H' => ∃ v4 v12 cnt' D ws, σ = [some (.ref B.b), some (.ref B.pw), some (.ref B.pb), some (.ref A.pc), v4, some (.int (i : Nat)), some (.ref A.d), some (.int (m : Nat)), some (.ref A.pr), some (.ref B.pdr), some (.ref B.pl), some (.ref A.pa), v12, v13, none] ∧
        EK a H H' B A cnt' D ws bds es rn rn (es.map (·.la)) ∧ cnt' ≤ cnt + 1 + 4 * n) ⟨_, _, _, _, ws, rfl, W4, by omega⟩ ?_ ?_
      · rintro n σ H5 hn ⟨v4, v12, cnt', D, ws, rfl, W5, lc'⟩
        walk_at "rd"
        refine ⟨B.b, m, _, rfl, W5.hB, by omega, by omega, Int.lt_of_le_of_lt (b := 1000) (by omega) (by decide), fun d5 H6 d50 d51 B6 f6 => ?_⟩
        obtain ⟨k5, rfl⟩ := Int.eq_ofNat_of_zero_le d50
        have W6 := W5.bag B6 f6
        walk_at "rd"
        refine ⟨B.b, _, rfl, B6, by omega, fun v H7 hv B7 f7 => ?_⟩
        have W7 := W6.bag B7 f7
        clear W5 W6 B6 f6 B7 f7
        have lw7 := W7.lw
        have hk5 : k5 < ws.length := by omega
        obtain ⟨c5, ec5⟩ : ∃ c, A.cl[k5]? = some c := ⟨_, List.getElem?_eq_getElem (by omega)⟩
        walk_at "rd"
        refine s_gsub ?_
        walk_at "rd"
        refine s_setU W7.hpw (ixN_nat (by rw [List.length_map]; exact hk5)) ?_
        rw [← List.map_set]
        have fU : Fr H7 (upd H7 B.pw (.lst ((ws.set k5 v).map V.int))) [B.pw] := fun y o hy hS => by rw [upd_ne (by simpa using hS)]; exact hy
        have dkU := W7.w.dk.frs fU fun y hy z => W7.n2 y hy ((List.mem_singleton.mp z) ▸ (by simp [lsK]))
        have hobU := dkU.ob
        have hpU : upd H7 B.pw (.lst ((ws.set k5 v).map V.int)) B.pw = some (.lst ((ws.set k5 v).map V.int)) := upd_same
        generalize eU : upd H7 B.pw (.lst ((ws.set k5 v).map V.int)) = HU at dkU hobU hpU ⊢
        walk_at "rd"
        refine s_ixL hpU (atI_nat (getI (by rw [List.length_set]; exact hk5))) ?_
        rw [getD_set_eqI hk5]
        walk_at "rd"
        refine s_setX ?_
        walk_at "rd"
        refine ⟨(k5 : Int), rfl, Nat.lt_of_le_of_lt (Nat.log2_le_self _) (by omega), ?_⟩
        refine s_addS (sz_le ?_) ?_
        · have : (Str.ofString "c" ++ Str.ofString (toString ((k5 : Nat) : Int))).length ≤ 5 := by
            rw [nmC_eq (by omega)]
            exact nmC_len (by omega)
          rw [len_app] at this
          omega
        rw [nmC_eq (by omega)]
        walk_at "rd"
        refine ⟨A.d, D.dd, _, rfl, hobU, ?_⟩
        refine put_ek W7 ec5 eU.symm fun H8 z W8 => ?_
        walk_at "rd"
        exact ⟨_, _, _, _, ws.set k5 v, rfl, W8, by omega⟩
      rintro σ H5 ⟨v4, v12, cnt', D, ws, rfl, W5, lc'⟩
      have lc5 : cnt' ≤ cnt + 13 := by omega
      clear W4 B4 f4 lc'
      refine s_seqJ (fun σ' H' => ∃ top cnt'', σ' = [some (.ref B.b), some (.ref B.pw), some (.ref B.pb), some (.ref A.pc), v4, some (.int (i : Nat)), some (.ref A.d), some (.int (m : Nat)), some (.ref A.pr), some (.ref B.pdr), some (.ref B.pl), some (.ref A.pa), v12, some (.int (top : Nat)), none] ∧ top < m ∧
        EK a H H' B A cnt'' D ws bds es rn rn (es.map (·.la)) ∧ cnt'' ≤ cnt + 20) (fun σ' H' hS => ?_) fun R' hR' => ?_
      rotate_left
      · walk_at "rd"
        refine ⟨B.b, 2, _, rfl, W5.hB, by omega, by decide, by decide, fun d6 H6 d60 d62 B6 f6 => ?_⟩
        have W6 := W5.bag B6 f6
        walk_at "rd"
        refine ifB (fun h6 => ?_) fun h6 => ?_
        · walk_at "rd"
          refine ⟨B.b, m, _, rfl, W6.hB, by omega, by omega, Int.lt_of_le_of_lt (b := 1000) (by omega) (by decide), fun d7 H7 d70 d71 B7 f7 => ?_⟩
          obtain ⟨k7, rfl⟩ := Int.eq_ofNat_of_zero_le d70
          walk_at "rd"
          exact hR' _ _ ⟨k7, _, rfl, by omega, W6.bag B7 f7, by omega⟩
        · walk_at "rd"
          have e1 : ((m : Nat) : Int) - 1 = ((m - 1 : Nat) : Int) := by omega
          rw [e1]
          exact hR' _ _ ⟨m - 1, _, rfl, by omega, W6, by omega⟩
      obtain ⟨top, cnt2, rfl, ht, W6, lc6⟩ := hS
      clear W5 H5 lc5
      obtain ⟨e, he⟩ : ∃ e, es[top]? = some e := ⟨_, List.getElem?_eq_getElem (by omega)⟩
      obtain ⟨hxe, KFe, _⟩ := W6.w.ef top e he
      obtain ⟨dxe, hke⟩ := KFe.ke
      walk_at "rd"
      refine s_neLI W6.w.hpr W6.hdr ?_
      refine ⟨_, rfl, ?_⟩
      refine ifF rfl ?_
      walk_at "rd"
      refine s_callO ?_
      walk_at "rd"
      refine s_ixL W6.w.hpa (atI_nat (v := .ref e.x) (by rw [List.getElem?_map, hxe]; rfl)) ?_
      refine ⟨e.x, dxe, _, rfl, hke, ?_⟩
      walk_at "rd"
      refine ⟨hke, ?_⟩
      refine rd_ek W6 he (by omega) fun H7 es' rn' W7 u r7 => ?_
      have hbd' := bd_eq u hbd
      have les' : es'.length = m := by rw [u.len, les]
      have l1 := W6.lw
      have l2 := W6.lb
      have l3 := W6.ld
      have l4 := W6.ll
      have n := W7.n1
      simp only [lsK, List.nodup_cons, List.mem_cons, List.not_mem_nil, or_false, not_or, List.nodup_nil, and_true, not_false_iff] at n
      obtain ⟨⟨a1, a2, a3, a4, a5, a6, a7⟩, _, _, _, ⟨n1, n2, n3⟩, ⟨n4, n5⟩, n6⟩ := n
      walk_at "rd"
      refine ⟨top, m, B.pw, B.pb, B.pl, B.pdr, ws, bds, rn, _, rfl, W7.hpw, W7.hpb, W7.hdr, W7.hla, by omega, by omega, by omega, by omega, by omega, ht, n3, n2, n5, n4, Ne.symm n6, fun H8 las' rd' f8 v8 hd8 hl8 => ?_⟩
      have elas := las_eq u hbd v8
      have erd := rd_eq W6.w W7.w (by omega) u hbd v8
      subst elas
      subst erd
      have W8 : EK a H H8 B A cnt2 D ws bds es' rd' rd' (es'.map (·.la)) := W7.lst f8 (fun y hy => by
        simp only [List.mem_cons, List.not_mem_nil, or_false] at hy
        rcases hy with h | h <;> simp [h]) (bag_frs W7.hB f8 (by simp [a7, a6])) (f8 _ _ W7.hpw (by simp [n3, n2])) (f8 _ _ W7.hpb (by simp [n5, n4])) hd8 hl8 (by rw [v8.lr]; omega) (by rw [List.length_map]; omega)
      clear W7 f8 v8 hd8 hl8 W6 hke KFe r7 hxe l3 l4
      walk_at "rd"
      refine ifF (by rw [pvN_P hbd]; simp) ?_
      walk_at "rd"
      refine s_forR (by omega) (by omega) (fun n σ H' => ∃ v4, σ = [some (.ref B.b), some (.ref B.pw), some (.ref B.pb), some (.ref A.pc), v4, some (.int (i : Nat)), some (.ref A.d), some (.int (m : Nat)), some (.ref A.pr), some (.ref B.pdr), some (.ref B.pl), some (.ref A.pa), v12, some (.int (top : Nat)), none] ∧ H' = H8) ⟨_, rfl, rfl⟩ ?_ ?_
      · rintro n σ H9 hn ⟨v4, rfl, rfl⟩
        have hn' : n < m := by omega
        obtain ⟨e1, he1⟩ : ∃ e, es'[n]? = some e := ⟨_, List.getElem?_eq_getElem (by omega)⟩
        obtain ⟨hx1, KF1, hr1⟩ := W8.w.ef n e1 he1
        have KX1 := KF1.ke
        obtain ⟨dx1, hk1⟩ := KF1.ke
        have l5 := W8.ld
        have hb1 : bds.getD n 0 = e1.bd := by
          rw [← hbd', List.getD_eq_getElem?_getD, List.getElem?_map, he1]; rfl
        obtain ⟨vs, hv, lv, hvs⟩ := W8.hla
        obtain ⟨vn, hvn⟩ : ∃ v, vs[n]? = some v := ⟨_, List.getElem?_eq_getElem (by rw [lv, List.length_map]; omega)⟩
        have hrow := hvs n vn e1.la hvn (by rw [List.getElem?_map, he1]; rfl)
        rw [hb1] at hrow
        walk_at "rd"
        refine s_ixL W8.w.hpr (atI_nat (getI (by omega))) ?_
        walk_at "rd"
        refine s_ixL W8.hdr (atI_nat (getI (by omega))) ?_
        walk_at "rd"
        refine ifF (by simp) ?_
        walk_at "rd"
        refine s_ixL W8.w.hpa (atI_nat (v := .ref e1.x) (by rw [List.getElem?_map, hx1]; rfl)) ?_
        walk_at "rd"
        refine s_ixL W8.hdr (atI_nat (getI (by omega))) ?_
        walk_at "rd"
        refine ifF (by rw [hr1]; simp) ?_
        walk_at "rd"
        refine s_prop ?_
        walk_at "rd"
        refine s_ixL W8.w.hpa (atI_nat (v := .ref e1.x) (by rw [List.getElem?_map, hx1]; rfl)) ?_
        refine ⟨e1.x, dx1, _, rfl, hk1, A.d, e1.x, _, _, _, _, _, _, rfl, KX1, ?_⟩
        walk_at "rd"
        refine s_ixL hv (atI_nat hvn) ?_
        cases el : e1.la with
        | none =>
          rw [el] at hrow
          cases hrow
          have ek : kvA e1 = .non := by unfold kvA; rw [el]
          rw [ek]
          walk_at "rd"
          refine ifT rfl ?_
          walk_at "rd"
          refine ifF (by simp) ?_
          walk_at "rd"
          exact ⟨_, rfl, rfl⟩
        | some p =>
          rw [el] at hrow
          obtain ⟨r, t, rfl, h1, h2⟩ := hrow
          have ek : kvA e1 = .int (mn e1.bd (p.1 + p.2)) := by unfold kvA; rw [el]
          rw [ek]
          walk_at "rd"
          refine ifF rfl ?_
          walk_at "rd"
          refine s_ixL hv (atI_nat hvn) ?_
          walk_at "rd"
          refine ifF (by simp) ?_
          walk_at "rd"
          exact ⟨_, rfl, rfl⟩
      · rintro σ H9 ⟨v4, rfl, rfl⟩
        walk_at "rd"
        exact ⟨_, _, _, _, _, _, ws, es', rd', rfl, W8, les', hbd', by omega⟩
end
end Tr
set_option maxHeartbeats 4000000

namespace Tr
open PySem L2 LamX NdefX
/-- what the top has made -/
structure Tz (P : Program) (K : PySem.W.Frag) (mg : Str → Option Value) (a : Nat → Addr) (fd : Nat → FuncData) (tk : Nat → Tok) : Prop where
  n : Tm P K mg a fd tk
  F_law : Fun K "law" "law" s_law (a 68) (fd 68)
section
variable {P : Program} {w : World} {K : PySem.W.Frag} {mg : Str → Option Value} {base : Heap} {a : Nat → Addr} {fd : Nat → FuncData} {tk : Nat → Tok}
local macro_rules | `(tactic| walk_at "ne") => `(tactic| first | assumption | (exact Ne.symm (by assumption)) | (refine ne_of_none (by assumption) (by assumption)) | (refine Ne.symm (ne_of_none (by assumption) (by assumption))))
local macro_rules | `(tactic| walk_at "hl") => `(tactic| first | assumption | with_reducible exact upd_same | ((with_reducible refine' Eq.trans (upd_ne ?hne) ?hrest); (case hne => walk_at "ne"); (case hrest => walk_at "hl")) | (refine' get_same ?hs ?hg; (case hs => assumption); (case hg => assumption)))
local macro_rules | `(tactic| walk_at "at") => `(tactic| first | with_reducible exact atI_0 _ _ | with_reducible exact atI_1 _ _ _ | with_reducible exact atI_2 _ _ _ _ | with_reducible exact atI_3 _ _ _ _ _ | assumption)
local macro_rules | `(tactic| walk_at "rd1") => `(tactic| first
  | with_reducible refine s_seq ?_ | with_reducible refine s_next ?_ | with_reducible refine s_if ?_ | with_reducible refine s_ret ?_ | with_reducible refine s_retN ?_ | with_reducible refine s_drop ?_ | with_reducible refine s_asg ?_ | with_reducible refine s_brk ?_ | with_reducible refine s_cont ?_
  | with_reducible refine s_gname ?_ | with_reducible refine s_c ?_ | with_reducible refine s_op ?_ | with_reducible refine s_un ?_ | with_reducible refine s_neg ?_ | with_reducible refine s_test ?_ | with_reducible refine s_tb ?_ | with_reducible refine s_not ?_ | with_reducible refine s_and ?_ | with_reducible refine s_or ?_ | with_reducible refine s_yes ?_
  | ((with_reducible refine' s_var ?hv ?_); (case hv => exact rfl))
  | with_reducible refine s_ifx ?_ | with_reducible refine s_andV ?_ | with_reducible refine s_orV ?_ | with_reducible refine s_notV ?_ | with_reducible refine s_chain ?_ | with_reducible refine s_nil ?_ | with_reducible refine s_cons ?_ | with_reducible refine s_lst ?_ | with_reducible refine s_tup ?_ | with_reducible refine s_cb ?_ | with_reducible refine s_call ?_ | with_reducible refine s_meth ?_ | with_reducible refine s_make ?_
  | with_reducible refine s_dnewK ?_ | with_reducible refine s_sl ?_ | with_reducible refine s_po0 ?_ | with_reducible refine s_po1 ?_ | with_reducible refine s_bm ?_ | with_reducible refine s_bm0 ?_
  | with_reducible refine s_bl ?_ | with_reducible refine s_int ?_ | with_reducible refine s_I0 ?_ | with_reducible refine s_addI ?_ | with_reducible refine s_intI ?_ | with_reducible refine s_intB ?_
  | with_reducible refine s_m1 ?_ | with_reducible refine s_lc ?_ | with_reducible refine s_ilist ?_ | with_reducible refine s_for ?_ | with_reducible refine s_irng ?_ | with_reducible refine s_match ?_ | with_reducible refine s_starT ?_ | with_reducible refine s_isS ?_ | with_reducible refine s_isiSS ?_ | with_reducible refine s_fldU ?_ | with_reducible refine s_sfldU ?_
  | ((with_reducible refine' s_eqS ?hq ?_); (case hq => exact rfl)) | ((with_reducible refine' s_neS ?hq ?_); (case hq => exact rfl))
  | ((with_reducible refine' s_isN ?hq ?_); (case hq => exact rfl)) | ((with_reducible refine' s_notN ?hq ?_); (case hq => exact rfl))
  | ((with_reducible refine' s_eqNil ?h1 ?h2 ?_); (case h1 => walk_at "hl"); (case h2 => walk_at "hl")) | ((with_reducible refine' s_neNil ?h1 ?h2 ?_); (case h1 => walk_at "hl"); (case h2 => walk_at "hl"))
  | ((with_reducible refine' s_ixL ?h1 ?h2 ?_); (case h1 => walk_at "hl"); (case h2 => walk_at "at")) | ((with_reducible refine' s_ixT ?h1 ?h2 ?_); (case h1 => walk_at "hl"); (case h2 => walk_at "at"))
  | ((with_reducible refine' s_inS ?h1 ?_); (case h1 => walk_at "hl")) | ((with_reducible refine' s_ninS ?h1 ?_); (case h1 => walk_at "hl")) | with_reducible refine s_inW ?_
  | ((with_reducible refine' s_lenL ?h1 ?_); (case h1 => walk_at "hl")) | ((with_reducible refine' s_lenT ?h1 ?_); (case h1 => walk_at "hl"))
  | ((with_reducible refine' s_tyL ?h1 ?_); (case h1 => walk_at "hl"))
  | ((with_reducible refine' s_fldM ?h1 ?h2 ?h3 ?_); (case h1 => walk_at "hl"); (case h2 => walk_at "fok"); (case h3 => walk_at "flk"))
  | ((with_reducible refine' s_setM ?h1 ?h2 ?h3 ?h4 ?_); (case h1 => walk_at "hl"); (case h2 => walk_at "fok"); (case h4 => walk_at "put"); (case h3 => exact Nat.le_of_ble_eq_true rfl))
  | ((with_reducible refine' s_starM ?h1 ?_); (case h1 => walk_at "hl"))
  | ((with_reducible refine' s_recv ?h1 ?h2 ?_); (case h1 => walk_at "hl"); (case h2 => exact rfl))
  | ((with_reducible refine' s_sz ?h1 ?_); (case h1 => (simp; done))))
local macro_rules | `(tactic| walk_at "rd") => `(tactic| repeat (walk_at "rd1"))
local macro_rules | `(tactic| walk_at "fok") => `(tactic| assumption)
local macro_rules | `(tactic| walk_at "flk") => `(tactic| rfl)
local macro_rules | `(tactic| walk_at "put") => `(tactic| exact rfl)

local macro_rules | `(tactic| walk_at "fok") => `(tactic| first | assumption | exact Tj.ce (by assumption) (by decide) | exact Tj.de (by assumption) (by decide) | exact Tj.ke (by assumption) (by decide) | exact Tj.fe (by assumption) (by decide))
theorem b__law_right (T : Tm P K mg a fd tk) : Binds K (fd 37) ["_law_bag_here"] [] := T.F__law_right.binds fun _ _ _ _ _ _ us hl => match us, hl with | [_], _ => rfl
theorem SqL.frN {H H' : Hp} {p : Addr} {xs : List V} {S : List Addr} (h : SqL K H p xs) (f : FrN H H' S) (hp : p ∉ S) : SqL K H' p xs :=
  h.elim (fun h => .inl (h.elim (fun h => .inl (f _ _ h (by intros; simp) hp)) fun ⟨o, h⟩ => .inr ⟨o, f _ _ h (by intros; simp) hp⟩)) fun h => .inr h
def spLaw (K : PySem.W.Frag) (a : Nat → Addr) : Sp := fun vs H Q _ => ∃ (p : Addr) (xs : List Int), vs = [.ref p] ∧ SqL K H p (xs.map V.int) ∧ xs.length ≤ 63 ∧ Tabs (TabL a) H ∧ ∀ H', Q (.bl true) H'
theorem ok_law (T : Tz P K mg a fd tk) (TB : TabB base mg (a 38) (a 39)) : FnOk P w K mg base CX0 77 (a 68) (fd 68) ["_law_script"] (spLaw K a) := by
  refine T.F_law.ok sc_law (fun vs H Q E h => ?_) (fun cdv A outer s H vs Q E hr h => ?_)
  · obtain ⟨p, xs, rfl, _⟩ := h
    rfl
  · obtain ⟨p, xs, rfl, hp, h63, hT, k⟩ := h
    refine ⟨_, (pss_cons (ps_for PassesOwn.never rfl (pi_range1 (by rfl) T.n.l.d.b_range (pa_cons (pe_callB (call_max2 rfl) (by rfl) T.n.b_max bt_max (pa_cons pe_int (pa_cons (pe_callB (call_min2 rfl) (by rfl) T.n.b_min bt_min (pa_cons pe_int (pa_cons (pe_callB call_len_seq (by rfl) T.n.l.d.b_len bt_len (pa_cons (pv 0) pa_nil)) pa_nil))) pa_nil))) pa_nil)) (pg_name (i := 1) sc_law.nd rfl (by first | exact Or.inl rfl | exact Or.inr rfl))
   (pss_one (ps_if (pt_not (pt_val (pe_call (ok__law_right T.n TB) (hr.mono (by decide)) (by rfl) T.n.g__law_right T.n.F__law_right.kp (b__law_right T.n) .nil pass0 (pa_cons (pe_call (ok__law_bag T.n.l) (hr.mono (by decide)) (by rfl) T.n.l.g__law_bag T.n.l.F__law_bag.kp (b__law_bag T.n.l) .nil pass0 (pa_cons (pv 0) (pa_cons (pv 1) pa_nil))) pa_nil)))) (pss_one (ps_ret pe_bl)) pss_nil)))
  (pss_one (ps_ret pe_bl))), ?_⟩
    walk_at "rd"
    refine ⟨p, _, rfl, .inl hp, ?_⟩
    show ∃ i j, [V.int 4, V.int _] = [.int i, .int j] ∧ _
    refine ⟨_, _, rfl, ?_⟩
    show ∃ i j, [V.int 1, V.int _] = [.int i, .int j] ∧ _
    refine ⟨_, _, rfl, ?_⟩
    have el : (xs.map V.int).length = xs.length := List.length_map _
    rw [el]
    generalize hN : (if (if (xs.length : Int) < 4 then (xs.length : Int) else 4) > 1 then (if (xs.length : Int) < 4 then (xs.length : Int) else 4) else 1) = N
    have n0 : 0 ≤ N ∧ N ≤ 4 := by
      rw [← hN]
      repeat' split
      all_goals omega
    refine s_forR n0.1 (by omega) (fun i σ H' => ∃ v1, σ = [some (.ref p), v1] ∧ SqL K H' p (xs.map V.int) ∧ Tabs (TabL a) H') ⟨none, rfl, hp, hT⟩ ?_ ?_
    · rintro i σ H1 hi ⟨v1, rfl, hp1, hT1⟩
      walk_at "rd"
      refine ⟨p, xs, i, rfl, hp1, h63, by omega, fun b H2 s2 nb B2 => ?_⟩
      walk_at "rd"
      have hp2 : SqL K H2 p (xs.map V.int) := hp1.ext s2
      refine ⟨b, rfl, B2, hT1.ext s2, fun H3 hT3 f3 => ?_⟩
      walk_at "rd"
      refine ifF rfl ?_
      walk_at "rd"
      refine ⟨_, rfl, ?_, hT3⟩
      rcases hp1 with h | h
      · refine SqL.frN hp2 f3 ?_
        rw [List.mem_singleton]
        rintro rfl
        rcases h with h | ⟨o, h⟩
        · rw [h] at nb; cases nb
        · rw [h] at nb; cases nb
      · exact .inr h
    · rintro σ H1 ⟨v1, rfl, _, _⟩
      walk_at "rd"
      exact k _
end
end Tr
set_option maxHeartbeats 0
namespace Tr
open PySem PySem.Spec PyProof.Rows L2
def adrP : Nat → PySem.W.Frag → Addr
  | 2 => (pl ("Cell", none))
  | 3 => (pl ("Desk", none))
  | 4 => (pl ("Thing", some "__init__"))
  | 5 => (pl ("Cell", some "__init__"))
  | 6 => (pl ("Cell", some "__call__"))
  | 7 => (pl ("Cell", some "value"))
  | 8 => (plp "Cell" "value")
  | 9 => (pl ("Cell", some "put"))
  | 11 => (pl ("Desk", some "__init__"))
  | 12 => (pl ("Desk", some "check_placed"))
  | 13 => (pl ("Desk", some "note"))
  | 14 => (pl ("Desk", some "use_name"))
  | 15 => (pl ("Desk", some "cell"))
  | 16 => (pl ("Desk", some "settle"))
  | 20 => (pl ("Desk", some "__iter__"))
  | 21 => (pl ("Desk", some "__len__"))
  | 25 => (pl ("Cell", some "worth_now"))
  | 30 => (pl ("_law_bag", none))
  | 31 => (pl ("_law_take", none))
  | 32 => (pl ("_law_of", none))
  | 33 => (pl ("_law_worth", none))
  | 34 => (pl ("_law_work", none))
  | 35 => (pl ("_law_kept", none))
  | 36 => (pl ("_law_read", none))
  | 37 => (pl ("_law_right", none))
  | 38 => (plcd ("_law_kept", none))
  | 39 => (pltb ("_law_kept", none))
  | 40 => (pl ("Kept", none))
  | 41 => (pl ("Kept", some "__init__"))
  | 42 => (pl ("Kept", some "__call__"))
  | 43 => (pl ("Kept", some "held"))
  | 44 => (plp "Kept" "held")
  | 45 => (pl ("Kept", some "worth_now"))
  | 46 => (pl ("Runner", some "__init__"))
  | 47 => (pl ("Kept", some "is_out_of_order"))
  | 48 => (pl ("Kept", some "run_work"))
  | 49 => (pl ("Frame", none))
  | 50 => (pl ("Frame", some "__init__"))
  | 51 => (pl ("Desk", some "kept"))
  | 52 => (pl ("Desk", some "is_under_way"))
  | 53 => (pl ("Runner", none))
  | 66 => (pl ("Desk", some "__setitem__"))
  | 68 => (pl ("law", none))
  | _ => pl ("law", none)
def adr (K : PySem.W.Frag) (n : Nat) : Addr := adrP n K
def fdn (K : PySem.W.Frag) (n : Nat) : FuncData := fdG K (adrP n K)
def tkn (K : PySem.W.Frag) : Nat → Tok
  | 0 => tkC K (He.ga K "Desk") "MOST_RUNS"
  | _ => 0
theorem mkT {P : Program} (hP : P.main.file = PySem.Challenge.pw_trackedreads_k70_ladders_of_answers.main.file) (hT : (P.main.scope.names.lookup ("super" : Str)).isSome = false) {K : PySem.W.Frag} {h : Heap} {mg : Str → Option Value} (X : K.In h) (G : h.Ns mainGlobals mg) (c : obsB fx9 fn9 K = valB fn9) : Tz P K mg (adr K) (fdn K) (tkn K) :=
{ n := (
{ l := (
{ d := (
{ b_len := (fx_free X G (says_fx c 0 rfl)),
  b_iter := (fx_free X G (says_fx c 1 rfl)),
  b_list := (fx_free X G (says_fx c 2 rfl)),
  b_range := (fx_free X G (says_fx c 3 rfl)),
  g_Desk := (fx_glo X G (says_fx c 4 rfl)),
  g_Cell := (fx_glo X G (says_fx c 5 rfl)),
  g_Kept := (fx_glo X G (says_fx c 6 rfl)),
  g_Frame := (fx_glo X G (says_fx c 7 rfl)),
  g_Runner := (fx_glo X G (says_fx c 8 rfl)),
  cl_Cell := (fx_cls (says_fx c 9 rfl)),
  cl_Desk := (fx_cls (says_fx c 10 rfl)),
  cl_Kept := (fx_cls (says_fx c 11 rfl)),
  cl_Frame := (fx_cls (says_fx c 12 rfl)),
  f_Cell := (fx_noats (says_fx c 13 rfl)),
  f_Desk := (fx_noats (says_fx c 14 rfl)),
  f_Kept := (fx_noats (says_fx c 15 rfl)),
  f_Frame := (fx_noats (says_fx c 16 rfl)),
  F_Thing___init__ := (says_fun (p := (pl ("Thing", some "__init__"))) c 0 rfl),
  F_Cell___init__ := (says_funS (p := (pl ("Cell", some "__init__"))) c hP hT (fx_free X G (x := "super") (says_fx c 17 rfl)) 1 rfl),
  sc_Cell := (fx_supc (says_fx c 18 rfl)),
  mk_Cell := (fx_mkr (says_fx c 19 rfl)),
  F_Cell___call__ := (says_fun (p := (pl ("Cell", some "__call__"))) c 2 rfl),
  o_Cell___call__ := (fx_own (says_fx c 20 rfl)),
  p_Cell_value := (fx_propof (says_fx c 21 rfl)),
  F_Cell_value := (says_fun (p := (plp "Cell" "value")) c 3 rfl),
  m_Cell_put := (fx_meth (says_fx c 22 rfl)),
  F_Cell_put := (says_fun (p := (pl ("Cell", some "put"))) c 4 rfl),
  m_Cell_worth_now := (fx_meth (says_fx c 23 rfl)),
  F_Cell_worth_now := (says_fun (p := (pl ("Cell", some "worth_now"))) c 5 rfl),
  mk_Desk := (fx_mkr (says_fx c 24 rfl)),
  F_Desk___init__ := (says_fun (p := (pl ("Desk", some "__init__"))) c 6 rfl),
  m_Desk_check_placed := (fx_meth (says_fx c 25 rfl)),
  F_Desk_check_placed := (says_fun (p := (pl ("Desk", some "check_placed"))) c 7 rfl),
  m_Desk_note := (fx_meth (says_fx c 26 rfl)),
  F_Desk_note := (says_fun (p := (pl ("Desk", some "note"))) c 8 rfl),
  m_Desk_use_name := (fx_meth (says_fx c 27 rfl)),
  F_Desk_use_name := (says_fun (p := (pl ("Desk", some "use_name"))) c 9 rfl),
  m_Desk_cell := (fx_meth (says_fx c 28 rfl)),
  F_Desk_cell := (says_fun (p := (pl ("Desk", some "cell"))) c 10 rfl),
  m_Desk_settle := (fx_meth (says_fx c 29 rfl)),
  F_Desk_settle := (says_fun (p := (pl ("Desk", some "settle"))) c 11 rfl),
  k_MOST_RUNS := (fx_con (says_fx c 30 rfl)),
  o_Desk___iter__ := (fx_own (says_fx c 31 rfl)),
  F_Desk___iter__ := (says_fun (p := (pl ("Desk", some "__iter__"))) c 12 rfl),
  o_Desk___len__ := (fx_own (says_fx c 32 rfl)),
  F_Desk___len__ := (says_fun (p := (pl ("Desk", some "__len__"))) c 13 rfl),
  m_Desk_kept := (fx_meth (says_fx c 33 rfl)),
  F_Desk_kept := (says_fun (p := (pl ("Desk", some "kept"))) c 14 rfl),
  m_Desk_is_under_way := (fx_meth (says_fx c 34 rfl)),
  F_Desk_is_under_way := (says_fun (p := (pl ("Desk", some "is_under_way"))) c 15 rfl),
  mk_Frame := (fx_mkr (says_fx c 35 rfl)),
  F_Frame___init__ := (says_fun (p := (pl ("Frame", some "__init__"))) c 16 rfl),
  mk_Kept := (fx_mkr (says_fx c 36 rfl)),
  F_Kept___init__ := (says_funS (p := (pl ("Kept", some "__init__"))) c hP hT (fx_free X G (x := "super") (says_fx c 17 rfl)) 17 rfl),
  sc_Kept := (fx_supc (says_fx c 37 rfl)),
  F_Runner___init__ := (says_funS (p := (pl ("Runner", some "__init__"))) c hP hT (fx_free X G (x := "super") (says_fx c 17 rfl)) 18 rfl),
  sc_Runner := (fx_supc (says_fx c 38 rfl)),
  o_Kept___call__ := (fx_own (says_fx c 39 rfl)),
  F_Kept___call__ := (says_fun (p := (pl ("Kept", some "__call__"))) c 19 rfl),
  p_Kept_held := (fx_propof (says_fx c 40 rfl)),
  F_Kept_held := (says_fun (p := (plp "Kept" "held")) c 20 rfl),
  m_Kept_worth_now := (fx_meth (says_fx c 41 rfl)),
  F_Kept_worth_now := (says_fun (p := (pl ("Kept", some "worth_now"))) c 21 rfl),
  m_Kept_is_out_of_order := (fx_meth (says_fx c 42 rfl)),
  F_Runner_is_out_of_order := (says_fun (p := (pl ("Kept", some "is_out_of_order"))) c 22 rfl),
  m_Kept_run_work := (fx_meth (says_fx c 43 rfl)),
  F_Runner_run_work := (says_fun (p := (pl ("Kept", some "run_work"))) c 23 rfl) }),
  b_abs := (fx_free X G (says_fx c 44 rfl)),
  b_int := (fx_free X G (says_fx c 45 rfl)),
  g__law_bag := (fx_glo X G (says_fx c 46 rfl)),
  F__law_bag := (says_fun (p := (pl ("_law_bag", none))) c 24 rfl),
  g__law_take := (fx_glo X G (says_fx c 47 rfl)),
  F__law_take := (says_fun (p := (pl ("_law_take", none))) c 25 rfl),
  g__law_of := (fx_glo X G (says_fx c 48 rfl)),
  F__law_of := (says_fun (p := (pl ("_law_of", none))) c 26 rfl),
  g__law_worth := (fx_glo X G (says_fx c 49 rfl)),
  F__law_worth := (says_fun (p := (pl ("_law_worth", none))) c 27 rfl) }),
  o_Desk___setitem__ := (fx_own (says_fx c 50 rfl)),
  F_Desk___setitem__ := (says_fun (p := (pl ("Desk", some "__setitem__"))) c 28 rfl),
  ns_Desk := (fx_nsq (says_fx c 51 rfl)),
  b_max := (fx_free X G (says_fx c 52 rfl)),
  b_min := (fx_free X G (says_fx c 53 rfl)),
  b_str := (fx_free X G (says_fx c 54 rfl)),
  b_enumerate := (fx_free X G (says_fx c 55 rfl)),
  g__law_work := (fx_glo X G (says_fx c 56 rfl)),
  F__law_work := (says_fun (p := (pl ("_law_work", none))) c 29 rfl),
  g__law_kept := (fx_glo X G (says_fx c 57 rfl)),
  F__law_kept := (fun_T (says_fun (p := (pl ("_law_kept", none))) c 30 rfl)),
  g__law_read := (fx_glo X G (says_fx c 58 rfl)),
  F__law_read := (says_fun (p := (pl ("_law_read", none))) c 31 rfl),
  g__law_right := (fx_glo X G (says_fx c 59 rfl)),
  F__law_right := (says_fun (p := (pl ("_law_right", none))) c 32 rfl) }),
  F_law := (says_fun (p := (pl ("law", none))) c 33 rfl) }
end Tr
set_option maxHeartbeats 0
namespace Tr
open PySem PySem.Spec PyProof.Rows L2
end Tr
set_option maxHeartbeats 0
namespace Tr
open PySem PySem.Spec PyProof.Rows L2
theorem walkF {P : Program} (hP : P.main.file = PySem.Challenge.pw_trackedreads_k70_ladders_of_answers.main.file) (hT : (P.main.scope.names.lookup ("super" : Str)).isSome = false) (w : World) (mg : Str → Option Value) (fa : Addr) (h : Heap) (Y : hk9.says w h) (G : h.Ns mainGlobals mg) (hmg : mg "law" = some (.ref fa)) :
    ∃ (K : PySem.W.Frag) (fd : FuncData) (cs : List (Addr × Addr)) (sp : Sp), K.In h ∧ (∀ p ∈ cs, h.get? p.2 = some { cls := .none, data := .fields #[] }) ∧ (∀ p ∈ cs, K.lookup p.2 = none) ∧ (∀ p ∈ cs, PySem.W.CodeHd h p.1 p.2) ∧ (∀ (s : Shared) (u : Value), BindsTo s fd ⟨[u], []⟩ [("_law_script", u)]) ∧
      (∀ (H : Hp) (a : Addr) (ns : List Int), ns.length ≤ 63 → (∀ p ∈ cs, H p.2 = some (.tbl #[])) → SqL K H a (ns.map V.int) → sp [.ref a] H (fun v _ => v = .bl true) fun _ _ _ => False) ∧
      ∀ base : Heap, K.In base → base.Ns mainGlobals mg → (∀ p ∈ cs, LamX.TabB base mg p.1 p.2) → FnOk P w K mg base CX0 77 fa fd ["_law_script"] sp := by
  obtain ⟨K, KX, cc⟩ := Y
  have c := cc.b
  have T := mkT hP hT KX G c
  have e0 : mg "law" = some (.ref (adr K 68)) := fx_glo KX G (x := "law") (says_fx c 60 rfl)
  rw [hmg] at e0
  have e' : fa = adr K 68 := by
    injection e0 with e1
    injection e1
  subst e'
  have hb : ∀ (s : Shared) (v : Value), BindsTo s (fdn K 68) ⟨[v], []⟩ [("_law_script", v)] := by
    obtain ⟨_, _, _, _, _, _, _, _, _, e1, _, _⟩ := T.F_law.ex
    intro s v
    rw [e1]
    exact .of_eq rfl
  have mem : ∀ p ∈ tf9.map (He.cT K), ∃ d ∈ tf9, He.cT K d = p := fun p hp => List.mem_map.mp hp
  refine ⟨K, fdn K 68, tf9.map (He.cT K), spLaw K (adr K), KX, fun p hp => ?_, fun p hp => ?_, fun p hp => ?_, hb, fun H a ns hl hTb hS => ⟨a, ns, rfl, hS, hl, fun p hp => by rw [List.mem_singleton.mp hp]; exact LamX.TabS.nil (hTb _ (List.mem_map.mpr ⟨("_law_kept", none), by simp [tf9], rfl⟩)), fun _ => rfl⟩, fun base _ _ TB => ok_law T (TB _ (List.mem_map.mpr ⟨("_law_kept", none), by simp [tf9], rfl⟩))⟩
  · obtain ⟨d, hd, rfl⟩ := mem p hp
    exact cc.empty d hd
  · obtain ⟨d, hd, rfl⟩ := mem p hp
    exact cc.out d hd
  · obtain ⟨d, hd, rfl⟩ := mem p hp
    exact PySem.W.codeHd_of_K KX (cc.hd d hd)
end Tr
set_option maxHeartbeats 0
set_option maxHeartbeats 0
theorem PySem.Challenge.cw_trackedreads_k70_ladders_of_answers_holds : PySem.Challenge.rw_trackedreads_k70_ladders_of_answers.Holds := by
  refine Tr.headE ?hc
  case hc =>
    refine LamX.walk_ofTsE (l := PySem.Challenge.rw_trackedreads_k70_ladders_of_answers) (n := 63) (k := 77) (x := "_law_script") (CX := fun _ => L2.CX0) rfl (by decide) (by kernel_rfl) ⟨rfl, by decide, by decide⟩ ?F (fun _ _ _ _ _ z => z)
    intro w mg fa h Y G hmg0
    obtain ⟨K, fd, cs, sp, KX, h1, h2, h3, h4, h5, h6⟩ := Tr.walkF Tr.fileEq Tr.topEq w mg fa h Y G ((congrArg mg Tr.nameEq).symm.trans hmg0)
    exact ⟨K, KX, fd, cs, sp, h1, h2, h3, h4, fun H a ns hl _ => h5 H a ns hl, h6⟩
