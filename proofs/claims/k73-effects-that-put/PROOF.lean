import PyProof.Rows.All
import Wide.All
import OpenK.AllK
import Wide.FinOn
import HandS.ForMost
import HandS.Wide
import HandS.Walk
import HandS.Deep
import HandS.IsInst
import HandS.Steps
import HandS.Star
import HandS.SortInts
import PyProof.Rows.SortKeyStr
import HandS.Exc
import HandS.ExcInit
import HandS.ExcField
import HandS.ClsMeth
import HandS.ExcOwn
import HandS.WordsExc
import KE.KExcInit
import HandS.ExcIs
import HandS.Defaults
import HandS.Nested
import KE.KSuper
import HandS.OwnEq
import KE.KOpsOwn
import KE.KCallOwn
import HandS.Base
import HandS.Call
import HandS.Ends
import HandS.More
import HandS.Words
import HandS.Head0
import HandS.Head1
import HandS.Head2
import HandS.HeadEnd
import HandS.HeadHook1
import HandS.HeadHook2
import HandS.HeadNt
import HandS.Property
import KE.KNest
import KE.KNestM
import HandS.HeadHook3
import HandS.HeadHook4
import HandS.HeadWalk
import HandS.Finally
import HandS.Zip0
import PyProof.Draws
import PyProof.EnumMake
import HandS.OwnIter
import HandS.IterNext
import HandS.DictSub
import HandS.ListItems
import KE.KDictList
import HandS.Iter
import PyProof.StrBlock2
import KE.KStateDown
import PySem.Challenge.RW_trackedreads_k73_effects_that_put_what_t
set_option Elab.async false
set_option linter.all false
set_option maxRecDepth 100000
set_option maxHeartbeats 4000000
namespace Tr
open PySem PySem.Spec PyProof.Rows L2
section
variable {X : Cx}

theorem K_nox (X : Cx) : X.nox.K = X.K := rfl
theorem K_cxOf {P : Program} {w : World} {K : PySem.W.Frag} {mg : Str → Option Value} {base : Heap} {CX : CXT} {N : List Str} {qual : Str} {scope : Scope} {f : Addr} {cd : Value} {A : Around} {outer : List Env} {s : Shared} {H : Hp} {E : XK} :
    (cxOf CX P w K mg base N qual scope f cd A outer s H E).K = K := rfl

theorem opImp {f : Value → Value → Sem Value} {r r' : R2} (h : OpR X f r) (i : ∀ x y H Q, r' x y H Q → r x y H Q) : OpR X f r' :=
  fun pins s σ H x y v u Q I rx ry q => h pins s σ H x y v u Q I rx ry (i x y H Q q)
theorem callImp {f : Value} {r r' : List V → Hp → VK → Prop} (h : CallR X f r) (i : ∀ xs H Q, r' xs H Q → r xs H Q) : CallR X f r' :=
  fun pins s σ H xs us Q I rx q => h pins s σ H xs us Q I rx (i xs H Q q)
theorem ixImp {r r' : R2} (h : IxR X r) (i : ∀ x y H Q, r' x y H Q → r x y H Q) : IxR X r' :=
  fun value slice pins s σ H x y v u Q I rx ry q hs => h value slice pins s σ H x y v u Q I rx ry (i x y H Q q) hs
theorem slImp {r r' : V → Option Int → Option Int → Hp → VK → Prop} (h : SlR X r) (i : ∀ x lo hi H Q, r' x lo hi H Q → r x lo hi H Q) : SlR X r' :=
  fun pins s σ H x v vl vu lo hi sl Q I rx hs pl pu q => h pins s σ H x v vl vu lo hi sl Q I rx hs pl pu (i x lo hi H Q q)
theorem mtImp {id : String} {r r' : V → List V → Hp → VK → Prop} (h : MtR X id r) (i : ∀ x xs H Q, r' x xs H Q → r x xs H Q) : MtR X id r' :=
  fun pins s σ H x xs v us Q I rx rs q => h pins s σ H x xs v us Q I rx rs (i x xs H Q q)
/-- an expression that is never reached -/
def tFalse : TE := fun _ _ _ => False
theorem pe_never {e : Expr} : PE X e tFalse := ⟨fun _ _ _ _ _ _ h => h.elim⟩
def tFalseT : TT := fun _ _ _ => False
theorem pt_never {e : Expr} : PT X e tFalseT := ⟨fun _ _ _ _ _ _ h => h.elim⟩
def sFalse : TS := fun _ _ _ => False
theorem ps_nev {st : Stmt} : PS X st sFalse := ⟨fun _ _ _ _ _ _ h => h.elim⟩
theorem pss_nev {st : List Stmt} : PSs X st sFalse := ⟨fun _ _ _ _ _ _ h => h.elim⟩

def rEqU (K : PySem.W.Frag) : R2 := fun x y H Q => if scal x y = true then Q (.bl (decide (x = y))) H else
  match y with
  | .ref q => match H q with
    | some (.lst []) => (match x with
      | .ref p => (match H p with
        | some (.lst xs) => Q (.bl xs.isEmpty) H
        | _ => False)
      | _ => False)
    | _ => rEqD K x y H Q
  | _ => rEqD K x y H Q
def rNeU (K : PySem.W.Frag) : R2 := fun x y H Q => if scal x y = true then Q (.bl (!decide (x = y))) H else
  match y with
  | .ref q => match H q with
    | some (.lst []) => (match x with
      | .ref p => (match H p with
        | some (.lst xs) => Q (.bl (!xs.isEmpty)) H
        | _ => False)
      | _ => False)
    | _ => rNeD K x y H Q
  | _ => rNeD K x y H Q
theorem isE_of {xs : List V} {its : List Value} (r : Vals xs its) : xs.isEmpty = its.isEmpty := by cases r <;> rfl
theorem eq_nil {pins : List (Addr × Obj)} {σ : L2.St} {H : Hp} {s : Shared} {p q : Addr} {xs : List V} {Q : Value → Shared → Prop} (I : Inv X pins σ H s) (hp : H p = some (.lst xs)) (hq : H q = some (.lst [])) (hu : X.A.units + 64 < cLine)
    (h : Q (.bool xs.isEmpty) s) : wpAny (model X.prog X.w) X.A (compareOp .Eq (.ref p) (.ref q)) Q X.xe s := by
  obtain ⟨its, r, pl, hz⟩ := I.list (SqL.of hp)
  obtain ⟨it2, r2, pl2, hz2⟩ := I.list (SqL.of hq)
  cases r2
  cases its with
  | nil =>
    cases r
    exact SeqAt.eq_listAt (e := fun _ => true) pl.isList pl2.isList rfl (by omega) (fun j h1 _ => absurd h1 (by simp)) (by simpa using h)
  | cons a l =>
    cases r
    exact SeqAt.eq_list_lengthsAt pl.isList pl2.isList (by simp) (by omega) h
theorem uEq (K : PySem.W.Frag) (hu : X.A.units + 64 < cLine) (hK : X.K = K := by rfl) : OpR X (compareOp .Eq) (rEqU K) := by
  subst hK
  intro pins s σ H x y v u Q I rx ry h
  unfold rEqU at h
  by_cases c : scal x y = true
  · rw [if_pos c] at h
    exact op_eq pins s σ H x y v u Q I rx ry ⟨c, h⟩
  · rw [if_neg c] at h
    split at h
    · split at h
      · rename_i q hq
        split at h
        · split at h
          · rename_i p xs hp
            cases rx
            cases ry
            exact eq_nil I hp hq hu ⟨.bl _, H, I, rfl, h⟩
          · exact h.elim
        · exact h.elim
      · exact op_eqD hu pins s σ H x _ v u Q I rx ry h
    · exact op_eqD hu pins s σ H x y v u Q I rx ry h

theorem ne_nil {pins : List (Addr × Obj)} {σ : L2.St} {H : Hp} {s : Shared} {p q : Addr} {xs : List V} {Q : Value → Shared → Prop} (I : Inv X pins σ H s) (hp : H p = some (.lst xs)) (hq : H q = some (.lst [])) (hu : X.A.units + 64 < cLine)
    (h : Q (.bool (!xs.isEmpty)) s) : wpAny (model X.prog X.w) X.A (compareOp .NotEq (.ref p) (.ref q)) Q X.xe s := by
  obtain ⟨its, r, pl, hz⟩ := I.list (SqL.of hp)
  obtain ⟨it2, r2, pl2, hz2⟩ := I.list (SqL.of hq)
  cases r2
  cases its with
  | nil =>
    cases r
    exact SeqAt.RcNeAt.lists (e := fun _ => true) pl.isList pl2.isList rfl (by omega) (fun j h1 _ => absurd h1 (by simp)) _ _ _ _ (by simpa using h)
  | cons a l =>
    cases r
    exact SeqAt.RcNeAt.lists_lengths pl.isList pl2.isList (by simp) (by omega) _ _ _ _ h
theorem uNe (K : PySem.W.Frag) (hu : X.A.units + 64 < cLine) (hK : X.K = K := by rfl) : OpR X (compareOp .NotEq) (rNeU K) := by
  subst hK
  intro pins s σ H x y v u Q I rx ry h
  unfold rNeU at h
  by_cases c : scal x y = true
  · rw [if_pos c] at h
    exact op_ne pins s σ H x y v u Q I rx ry ⟨c, h⟩
  · rw [if_neg c] at h
    split at h
    · split at h
      · rename_i q hq
        split at h
        · split at h
          · rename_i p xs hp
            cases rx
            cases ry
            exact ne_nil I hp hq hu ⟨.bl _, H, I, rfl, h⟩
          · exact h.elim
        · exact h.elim
      · exact op_neD hu pins s σ H x _ v u Q I rx ry h
    · exact op_neD hu pins s σ H x y v u Q I rx ry h

def rAddU : R2 := fun x y H Q => match x with
  | .int i => (match y with | .int j => Q (.int (i + j)) H | _ => False)
  | .str a => (match y with | .str b => a.length + b.length ≤ sizeLine ∧ Q (.str (a ++ b)) H | _ => False)
  | .ref p => (match y with
    | .ref q => (match H p with
      | some (.lst xs) => (match H q with
        | some (.lst ys) => xs.length + ys.length ≤ sizeLine ∧ ∀ r, H r = none → Q (.ref r) (upd H r (.lst (xs ++ ys)))
        | _ => False)
      | _ => False)
    | _ => False)
  | _ => False
theorem uAdd : OpR X (binaryOp .Add) rAddU := by
  intro pins s σ H x y v u Q I rx ry h
  unfold rAddU at h
  split at h
  · split at h
    · exact op_add pins s σ H _ _ v u Q I rx ry ⟨_, _, rfl, rfl, h⟩
    · exact h.elim
  · split at h
    · exact op_add_str pins s σ H _ _ v u Q I rx ry ⟨_, _, rfl, rfl, h.1, h.2⟩
    · exact h.elim
  · split at h
    · split at h
      · rename_i hp
        split at h
        · rename_i hq
          exact op_cat pins s σ H _ _ v u Q I rx ry ⟨_, _, _, _, rfl, rfl, hp, hq, h.1, h.2⟩
        · exact h.elim
      · exact h.elim
    · exact h.elim
  · exact h.elim
def repS (a : Str) (k : Nat) : Str := ⟨(List.replicate k a.cps.toList).flatten.toArray⟩
def rMulU : R2 := fun x y H Q => match x with
  | .int i => (match y with | .int j => CMulW i j ∧ Q (.int (i * j)) H | _ => False)
  | .ref p => (match y with
    | .int k => (match H p with
      | some (.lst xs) => -(2 ^ 63) ≤ k ∧ k < 2 ^ 63 ∧ xs.length * k.toNat ≤ sizeLine ∧ ∀ r, H r = none → Q (.ref r) (upd H r (.lst (List.replicate k.toNat xs).flatten))
      | _ => False)
    | _ => False)
  | _ => False
theorem uMul : OpR X (binaryOp .Mult) rMulU := by
  intro pins s σ H x y v u Q I rx ry h
  unfold rMulU at h
  split at h
  · split at h
    · exact op_mulW pins s σ H _ _ v u Q I rx ry ⟨_, _, rfl, rfl, h.1, h.2⟩
    · exact h.elim
  · split at h
    · split at h
      · rename_i hp
        exact op_rep pins s σ H _ _ v u Q I rx ry ⟨_, _, _, rfl, rfl, hp, h.1, h.2.1, h.2.2.1, h.2.2.2⟩
      · exact h.elim
    · exact h.elim
  · exact h.elim

def rIxU : R2 := fun x y H Q => match x with
  | .ref p => (match y with
    | .int i => (match H p with
      | some (.lst xs) => ∃ v, atI xs i = some v ∧ Q v H
      | some (.tup xs) => ∃ v, atI xs i = some v ∧ Q v H
      | _ => False)
    | _ => False)
  | .str z => (match y with
    | .int i => z.length ≤ sizeLine ∧ ∃ c, atI z.cps.toList i = some c ∧ Q (.str ⟨#[c]⟩) H
    | _ => False)
  | _ => False
theorem uIx : IxR X rIxU := by
  intro value slice pins s σ H x y v u Q I rx ry h hs
  unfold rIxU at h
  split at h
  · split at h
    · split at h
      · rename_i hp
        obtain ⟨z, hz, q⟩ := h
        exact ix_list value slice pins s σ H _ _ v u Q I rx ry ⟨_, _, _, z, rfl, rfl, SqL.of hp, hz, q⟩ hs
      · rename_i hp
        obtain ⟨z, hz, q⟩ := h
        exact ix_tup value slice pins s σ H _ _ v u Q I rx ry ⟨_, _, _, z, rfl, rfl, SqT.of hp, hz, q⟩ hs
      · exact h.elim
    · exact h.elim
  · split at h
    · obtain ⟨hl, c, hc, q⟩ := h
      exact ix_str value slice pins s σ H _ _ v u Q I rx ry ⟨_, _, c, rfl, rfl, hl, hc, q⟩ hs
    · exact h.elim
  · exact h.elim
def rGetD : R2 := fun x y H Q => match x with
  | .ref a => (match H a with
    | some (.dK kvs) => (match y with
      | .int i => ∃ v, valV kvs (Sum.inl i) = some v ∧ Q v H
      | .str z => ∃ v, valV kvs (Sum.inr z) = some v ∧ Q v H
      | _ => False)
    | _ => False)
  | _ => False
theorem rGetD.to {x y : V} {H : Hp} {Q : VK} (h : rGetD x y H Q) : ∃ a v, x = .ref a ∧ DGet H a y (some v) ∧ Q v H := by
  unfold rGetD at h
  split at h
  · split at h
    · rename_i hp
      split at h
      · obtain ⟨v, e, q⟩ := h
        exact ⟨_, v, rfl, .inl ⟨_, Sum.inl _, .inl hp, rfl, e.symm⟩, q⟩
      · obtain ⟨v, e, q⟩ := h
        exact ⟨_, v, rfl, .inl ⟨_, Sum.inr _, .inl hp, rfl, e.symm⟩, q⟩
      · exact h.elim
    · exact h.elim
  · exact h.elim

def rSlU : V → Option Int → Option Int → Hp → VK → Prop := fun x lo hi H Q => match x with
  | .ref p => (match H p with
    | some (.lst xs) => ∀ r, H r = none → Q (.ref r) (upd H r (.lst (cutV xs lo hi)))
    | some (.tup xs) => ¬ (HT.sIx xs.length 0 lo = 0 ∧ HT.sIx xs.length xs.length hi = xs.length) ∧ ∀ r, H r = none → Q (.ref r) (upd H r (.tup (cutV xs lo hi)))
    | _ => False)
  | .str z => z.length ≤ sizeLine ∧ Q (.str (cutS z lo hi)) H
  | _ => False
theorem uSl : SlR X rSlU := by
  intro pins s σ H x v vl vu lo hi sl Q I rx hs pl pu h
  unfold rSlU at h
  split at h
  · split at h
    · rename_i hp
      exact sl_list pins s σ H _ v vl vu lo hi sl Q I rx hs pl pu ⟨_, _, rfl, SqL.of hp, h⟩
    · rename_i hp
      exact sl_tup pins s σ H _ v vl vu lo hi sl Q I rx hs pl pu ⟨_, _, rfl, SqT.of hp, h.1, h.2⟩
    · exact h.elim
  · exact sl_str pins s σ H _ v vl vu lo hi sl Q I rx hs pl pu ⟨_, rfl, h.1, h.2⟩
  · exact h.elim

def rInU (K : PySem.W.Frag) (neg : Bool) : R2 := fun x y H Q => match y with
  | .ref p => (match H p with
    | some (.lst xs) => flatV x = true ∧ xs.all flatV = true ∧ Q (.bl (if neg then !inV x xs else inV x xs)) H
    | some (.tup xs) => flatV x = true ∧ xs.all flatV = true ∧ Q (.bl (if neg then !inV x xs else inV x xs)) H
    | _ => rIn K neg x y H Q)
  | .str z => (match x with
    | .str w => ∃ c, w = ⟨#[c]⟩ ∧ Q (.bl (if neg then !decide (c ∈ z.cps.toList) else decide (c ∈ z.cps.toList))) H
    | _ => False)
  | _ => False
theorem uIn (K : PySem.W.Frag) (hK : X.K = K := by rfl) : OpR X (compareOp .In) (rInU K false) := by
  subst hK
  intro pins s σ H x y v u Q I rx ry h
  unfold rInU at h
  split at h
  · split at h
    · rename_i hp
      exact op_in_seq pins s σ H x _ v u Q I rx ry ⟨_, _, rfl, .inl (SqL.of hp), h.1, h.2.1, h.2.2⟩
    · rename_i hp
      exact op_in_seq pins s σ H x _ v u Q I rx ry ⟨_, _, rfl, .inr (SqT.of hp), h.1, h.2.1, h.2.2⟩
    · exact op_in_seq pins s σ H x _ v u Q I rx ry h
  · split at h
    · obtain ⟨c, rfl, h⟩ := h
      exact op_in_sign pins s σ H _ _ v u Q I rx ry ⟨c, _, rfl, rfl, h⟩
    · exact h.elim
  · exact h.elim
theorem uNotIn (K : PySem.W.Frag) (hK : X.K = K := by rfl) : OpR X (compareOp .NotIn) (rInU K true) := by
  subst hK
  intro pins s σ H x y v u Q I rx ry h
  unfold rInU at h
  split at h
  · split at h
    · rename_i hp
      exact op_notIn_seq pins s σ H x _ v u Q I rx ry ⟨_, _, rfl, .inl (SqL.of hp), h.1, h.2.1, h.2.2⟩
    · rename_i hp
      exact op_notIn_seq pins s σ H x _ v u Q I rx ry ⟨_, _, rfl, .inr (SqT.of hp), h.1, h.2.1, h.2.2⟩
    · exact op_notIn_seq pins s σ H x _ v u Q I rx ry h
  · split at h
    · obtain ⟨c, rfl, h⟩ := h
      exact op_notIn_sign pins s σ H _ _ v u Q I rx ry ⟨c, _, rfl, rfl, h⟩
    · exact h.elim
  · exact h.elim

def rLenU : List V → Hp → VK → Prop := fun xs H Q => match xs with
  | [.str z] => z.length ≤ sizeLine ∧ Q (.int z.length) H
  | [.ref p] => (match H p with
    | some (.lst ys) => Q (.int ys.length) H
    | some (.tup ys) => Q (.int ys.length) H
    | some (.dK kvs) => Q (.int kvs.length) H
    | _ => False)
  | _ => False
theorem uLen : CallR X (.builtin "len") rLenU := by
  intro pins s σ H xs us Q I r h
  unfold rLenU at h
  split at h
  · exact call_len_str pins s σ H _ us Q I r ⟨_, rfl, h.1, h.2⟩
  · split at h
    · rename_i hp
      exact call_len_seq pins s σ H _ us Q I r ⟨_, _, rfl, .inl (SqL.of hp), h⟩
    · rename_i hp
      exact call_len_seq pins s σ H _ us Q I r ⟨_, _, rfl, .inr (SqT.of hp), h⟩
    · rename_i hp
      exact call_lenD pins s σ H _ us Q I r ⟨_, _, rfl, hp, h⟩
    · exact h.elim
  · exact h.elim
def rListU : List V → Hp → VK → Prop := fun xs H Q => match xs with
  | [.ref p] => (match H p with
    | some (.lst ys) => ∀ l, H l = none → Q (.ref l) (upd H l (.lst ys))
    | some (.tup ys) => ∀ l, H l = none → Q (.ref l) (upd H l (.lst ys))
    | _ => False)
  | _ => False
theorem uList : CallR X (.type "list") rListU := by
  intro pins s σ H xs us Q I r h
  unfold rListU at h
  split at h
  · split at h
    · rename_i hp
      exact call_list_of pins s σ H _ us Q I r ⟨_, _, rfl, .inl (SqL.of hp), h⟩
    · rename_i hp
      exact call_list_of pins s σ H _ us Q I r ⟨_, _, rfl, .inr (SqT.of hp), h⟩
    · exact h.elim
  · exact h.elim
def rTupleU : List V → Hp → VK → Prop := fun xs H Q => match xs with
  | [.ref p] => (match H p with
    | some (.lst ys) => ∀ l, H l = none → Q (.ref l) (upd H l (.tup ys))
    | some (.tup ys) => Q (.ref p) H
    | _ => False)
  | _ => False
theorem uTuple : CallR X (.type "tuple") rTupleU := by
  intro pins s σ H xs us Q I r h
  unfold rTupleU at h
  split at h
  · split at h
    · rename_i hp
      exact call_tuple_of pins s σ H _ us Q I r ⟨_, _, rfl, .inl ⟨SqL.of hp, h⟩⟩
    · rename_i hp
      exact call_tuple_of pins s σ H _ us Q I r ⟨_, _, rfl, .inr ⟨SqT.of hp, h⟩⟩
    · exact h.elim
  · exact h.elim
/-- int(n), int(flag), int(text) -/
def rIntU : List V → Hp → VK → Prop := fun xs H Q => match xs with
  | [.int i] => Q (.int i) H
  | [.bl k] => Q (.int (if k then 1 else 0)) H
  | [.str a] => ∃ n, PySem.intText? a = some n ∧ a.length ≤ 640 ∧ Q (.int n) H
  | _ => False
theorem uInt : CallR X (.type "int") rIntU := by
  intro pins s σ H xs us Q I r h
  unfold rIntU at h
  split at h
  · exact call_int1 pins s σ H _ us Q I r (.inl ⟨_, rfl, h⟩)
  · exact call_int1 pins s σ H _ us Q I r (.inr ⟨_, rfl, h⟩)
  · obtain ⟨n, e, l, q⟩ := h
    exact call_int_str pins s σ H _ us Q I r ⟨_, n, rfl, e, l, q⟩
  · exact h.elim
def rAppU : V → List V → Hp → VK → Prop := fun x xs H Q => match x with
  | .ref l => (match H l with
    | some (.lst ys) => (match xs with | [v] => ys.length < sizeLine ∧ Q .non (upd H l (.lst (ys ++ [v]))) | _ => False)
    | _ => False)
  | _ => False
theorem uAppend : MtR X "list.append" rAppU := by
  intro pins s σ H x xs v us Q I rx rs h
  unfold rAppU at h
  split at h
  · split at h
    · rename_i hp
      split at h
      · exact mt_append pins s σ H _ _ v us Q I rx rs ⟨_, _, _, rfl, rfl, hp, h.1, h.2⟩
      · exact h.elim
    · exact h.elim
  · exact h.elim
end
end Tr
namespace Tr
open PySem PySem.Spec PyProof.Rows L2
theorem bt_len : bootBuiltins "len" = some (.builtin "len") := by decide +kernel
theorem bt_abs : bootBuiltins "abs" = some (.builtin "abs") := by decide +kernel
theorem bt_all : bootBuiltins "all" = some (.builtin "all") := by decide +kernel
theorem bt_any : bootBuiltins "any" = some (.builtin "any") := by decide +kernel
theorem bt_max : bootBuiltins "max" = some (.builtin "max") := by decide +kernel
theorem bt_min : bootBuiltins "min" = some (.builtin "min") := by decide +kernel
theorem bt_isinstance : bootBuiltins "isinstance" = some (.builtin "isinstance") := by decide +kernel
theorem bt_sorted : bootBuiltins "sorted" = some (.builtin "sorted") := by decide +kernel
theorem bt_int : bootBuiltins "int" = some (.type "int") := by decide +kernel
theorem bt_list : bootBuiltins "list" = some (.type "list") := by decide +kernel
theorem bt_tuple : bootBuiltins "tuple" = some (.type "tuple") := by decide +kernel
theorem bt_str : bootBuiltins "str" = some (.type "str") := by decide +kernel
theorem bt_bool : bootBuiltins "bool" = some (.type "bool") := by decide +kernel
theorem bt_dict : bootBuiltins "dict" = some (.type "dict") := by decide +kernel
theorem bt_set : bootBuiltins "set" = some (.type "set") := by decide +kernel
/-- Same, further -/
theorem Same.new {H : Hp} {p : Addr} {o : HO} (h : H p = none) : Same H (upd H p o) := fun b u e => by
  rw [upd_ne (ne_of_none e h)]
  exact e
theorem Same.mut {H H' : Hp} {p : Addr} {o : HO} (e : Same H H') (h : H p = none) : Same H (upd H' p o) := fun b u q => by
  rw [upd_ne (ne_of_none q h)]
  exact e b u q
/-- all but what H did not know is as it was; the converse of Same.free -/
theorem Same.none {H H' : Hp} (e : Same H H') {p : Addr} (h : H' p = none) : H p = none := e.free h
end Tr

namespace Tr
open PySem PySem.Spec PyProof.Rows L2
section
variable {X : Cx}
theorem pe_gI {x : Str} {n : Int} {t : Tok} {pos : Pos} (hg : Gl X x) (hm : X.mg x = some (.int n t)) (hd : (x == ("__debug__" : Str)) = false := by decide) : PE X (.Name x pos) (tC (.int n)) := pe_glob hg hm ⟨t, rfl⟩ hd
theorem pe_gS {x : Str} {n : Str} {t : Tok} {pos : Pos} (hg : Gl X x) (hm : X.mg x = some (.str n t)) (hd : (x == ("__debug__" : Str)) = false := by decide) : PE X (.Name x pos) (tC (.str n)) := pe_glob hg hm ⟨t, rfl⟩ hd
theorem pe_gR {x : Str} {n : Addr} {pos : Pos} (hg : Gl X x) (hm : X.mg x = some (.ref n)) (hd : (x == ("__debug__" : Str)) = false := by decide) : PE X (.Name x pos) (tC (.ref n)) := pe_glob (v := .ref n) hg hm rfl hd
structure FldOk (K : PySem.W.Frag) (C : Addr) (f : Str) : Prop where
  cl : Cls K C
  no : NoAttr K C f
def tFldU (K : PySem.W.Frag) (ta : TE) (f : Str) : TE := fun σ H Q => ta σ H fun x H1 => match x with
  | .ref a => (match H1 a with
    | some (.ins C dx fs) => FldOk K C f ∧ ∃ v, fs.lookup f = some v ∧ Q v H1
    | _ => False)
  | _ => False
theorem peImp {e : Expr} {t t' : TE} (h : PE X e t) (i : ∀ σ H Q, t' σ H Q → t σ H Q) : PE X e t' := ⟨fun pins s σ H Q I q => h.run pins s σ H Q I (i σ H Q q)⟩
theorem psImp {e : Stmt} {t t' : TS} (h : PS X e t) (i : ∀ D σ H, t' D σ H → t D σ H) : PS X e t' := ⟨fun pins s σ H D I q => h.run pins s σ H D I (i D σ H q)⟩
theorem pe_fldU {e : Expr} {f : Str} {pos : Pos} {ta : TE} (K : PySem.W.Frag) (ha : PE X e ta) (hb : attributeBase e f X.env (eval e X.env) = eval e X.env := by rfl) (hK : X.K = K := by rfl) : PE X (.Attribute e f pos) (tFldU K ta f) := by
  subst hK
  refine ⟨fun pins s σ H Q I h => ?_⟩
  refine attr_of hb (thn (ha.run pins s σ H _ I h) fun u s1 ⟨x, H1, I1, rx, q⟩ => ?_)
  dsimp only at q
  split at q
  · split at q
    · rename_i ea
      obtain ⟨c, v, l, q⟩ := q
      cases rx
      exact getattr_ok I1 ea c.cl c.no l fun u' s2 I2 ru => ⟨v, H1, I2, ru, q⟩
    · exact q.elim
  · exact q.elim
/-- o.f = e -/
def sFldU (K : PySem.W.Frag) (ta tv : TE) (f : Str) : TS := fun D σ H => tv σ H fun y H1 => ta σ H1 fun x H2 => match x with
  | .ref a => (match H2 a with
    | some (.ins C dx fs) => FldOk K C f ∧ fs.length < 1000 ∧ D.nx σ (upd H2 a (.ins C dx (putF f y fs)))
    | _ => False)
  | _ => False
theorem ps_fldU {o value : Expr} {f : Str} {pos pos' : Pos} {ta tv : TE} (K : PySem.W.Frag) (ha : PE X o ta) (hv : PE X value tv) (hs : swapsWith value (some (.Attribute o f pos')) pos.line X.env = pure false := by rfl) (hK : X.K = K := by rfl) :
    PS X (.Assign [.Attribute o f pos'] value pos) (sFldU K ta tv f) := by
  subst hK
  refine ⟨fun pins s σ H D I h => ?_⟩
  refine plainObj_wpAny_Assign_Attribute (thn (hv.run pins s σ H _ I h) fun u s1 ⟨y, H1, I1, ry, q⟩ => thn (ha.run pins s1 σ H1 _ I1 q) fun ov s2 ⟨x, H2, I2, rx, q2⟩ => ?_) hs
  dsimp only at q2
  split at q2
  · split at q2
    · rename_i ea
      obtain ⟨c, l, q2⟩ := q2
      cases rx
      exact setattr_ok I2 ea c.cl c.no l ry fun s3 I3 => ⟨σ, _, I3, q2⟩
    · exact q2.elim
  · exact q2.elim
/-- (a, b, ..) = e, a tuple that stands in H -/
def gTupU (n : Nat) (t : TGs) : TG := fun v σ H Q => match v with
  | .ref a => (match H a with
    | some (.tup xs) => xs.length = n ∧ t xs σ H Q
    | _ => False)
  | _ => False
theorem pg_tupU {es : List Expr} {k : Nat} {t : TGs} {n : Nat} {pos : Pos} (hc : X.calm = true) (h : PGs X es t)
    (hn : (assignEach es X.env).length = n := by rfl) (hst : (assignEach es X.env).findIdx? (·.1) = none := by rfl) : PG X (.Tuple es k pos) (gTupU n t) := by
  refine ⟨fun pins s σ H v u Q I r hw => ?_⟩
  unfold gTupU at hw
  split at hw
  · split at hw
    · rename_i ea
      exact (pg_tup hc h hn hst).run pins s σ H _ u Q I r ⟨_, _, rfl, SqT.of ea, hw.1, hw.2⟩
    · exact hw.elim
  · exact hw.elim
/-- xs[i] = v, xs[i] op= v -/
def rSetU : V → V → V → Hp → (Hp → Prop) → Prop := fun o i v H Q => match o with
  | .ref p => (match H p with
    | some (.lst xs) => (match i with
      | .int k => ∃ j, ixN xs.length k = some j ∧ Q (upd H p (.lst (xs.set j v)))
      | _ => False)
    | _ => False)
  | _ => False
theorem set_listU : PSet X rSetU := by
  intro pins s σ H o i v ov iv u Q I ro ri rv h
  unfold rSetU at h
  split at h
  · split at h
    · rename_i hp
      split at h
      · obtain ⟨j, hj, q⟩ := h
        exact set_list pins s σ H _ _ v ov iv u Q I ro ri rv ⟨_, _, _, j, rfl, rfl, hp, hj, q⟩
      · exact h.elim
    · exact h.elim
  · exact h.elim
def rGetU : V → V → Hp → VK → Prop := fun o i H Q => match o with
  | .ref p => (match H p with
    | some (.lst xs) => (match i with
      | .int k => ∃ v, atI xs k = some v ∧ Q v H
      | _ => False)
    | _ => False)
  | _ => False
theorem get_listU : PGet X rGetU := by
  intro pins s σ H x y v u Q I rx ry h
  unfold rGetU at h
  split at h
  · split at h
    · rename_i hp
      split at h
      · obtain ⟨z, he, q⟩ := h
        cases rx
        obtain ⟨t, rfl⟩ := ry
        obtain ⟨its, r, pl, hz⟩ := I.list (SqL.of hp)
        obtain ⟨j, h1, h2, h3, h4, h5⟩ := atI_get he
        obtain ⟨w, ew, rw'⟩ := r.get h2
        have hl := r.length
        have hn := line63
        have fin : EP X pins σ Q w s := ⟨z, H, I, rw', q⟩
        rename_i i
        by_cases h0 : 0 ≤ i
        · have hj : i.toNat = j := by
            rw [seqIndex_of h0 h5] at h1
            exact Option.some.inj h1
          exact wpAny_getItem_list pl.isList h0 (by omega) (by rw [hj]; simpa using ew) fin
        · have hj : (i + (its.toArray.size : Int)).toNat = j := by
            rw [seqIndex_neg (by omega) h4] at h1
            rw [List.size_toArray, ← hl]
            exact Option.some.inj h1
          exact wpAny_getItem_list_neg pl.isList (by omega) (by rw [List.size_toArray] <;> omega) (by omega) (by rw [hj]; simpa using ew) fin
      · exact h.elim
    · exact h.elim
  · exact h.elim
end
end Tr
namespace Tr
open PySem PySem.Spec PyProof.Rows L2
theorem lc_fm {α : Type} (xs : List α) (h : α → Option V) {J : It} {n : Nat} {G : Hp → Prop} {Y : Nat → Hp → V → Hp → Prop} (w : Walk J n G Y) (hn : n = xs.length) (hz : xs.length ≤ sizeLine) {g : TG} {tt : TT} {te : TE} {vs : List Nat} {σ : L2.St} {H1 : Hp} {D : Addr} {Qd : Hp → Prop} (hD : H1 D = none)
    (hG : ∀ H, Same H1 H → G H)
    (hs : ∀ (i : Nat) (a : α) (x : V) (H H' : Hp) (R : VK) (R0 : Hp → Prop), xs[i]? = some a → Same H1 H → Y i H x H' → (∀ v, h a = some v → ∀ H4, Same H H4 → R v H4) → (h a = none → ∀ H3, Same H H3 → R0 H3) →
      g x (wipe σ vs) H' fun σ2 H2 => wipe σ2 vs = wipe σ vs ∧ tt σ2 H2 fun b H3 => if b = true then te σ2 H3 R else R0 H3)
    (hd : ∀ H, Same H1 H → H D = some (.lst (xs.filterMap h)) → Qd H) :
    ∃ W : Nat → Nat → Hp → Prop, (∃ m, W 0 m (upd H1 D (.lst []))) ∧ ∀ i m H, W i m H →
      (J.stop i H ∧ Qd H) ∨ (J.go i H ∧ ∃ Nx : Hp → Prop, (∀ H', Nx H' → ∃ m', m' < m ∧ W (i + 1) m' H') ∧ ∀ x H', J.yld i H x H' → g x (wipe σ vs) H' fun σ2 H2 => wipe σ2 vs = wipe σ vs ∧ tt σ2 H2 fun b H3 =>
        if b = true then te σ2 H3 fun y H4 => ∃ acc, H4 D = some (.lst acc) ∧ acc.length < sizeLine ∧ Nx (upd H4 D (.lst (acc ++ [y]))) else Nx H3) := by
  subst hn
  refine lc_it w (fun i H => Same H1 H ∧ H D = some (.lst ((xs.take i).filterMap h))) ⟨Same.new hD, by rw [upd_same]; simp⟩ (fun i H _ p => hG H p.1) ?_ (fun H p => hd H p.1 (by rw [p.2, List.take_length]))
  intro i x H H' hi p y
  obtain ⟨a, ha⟩ : ∃ a, xs[i]? = some a := ⟨xs[i], List.getElem?_eq_getElem hi⟩
  have et : xs.take (i + 1) = xs.take i ++ [a] := by
    rw [List.take_succ, ha]
    rfl
  have hlen : ((xs.take i).filterMap h).length < sizeLine := by
    refine Nat.lt_of_le_of_lt (List.length_filterMap_le _ _) ?_
    rw [List.length_take]
    omega
  refine hs i a x H H' _ _ ha p.1 y (fun v hv H4 s4 => ?_) (fun hv H3 s3 => ?_)
  · refine ⟨_, s4 _ _ p.2, hlen, Same.mut (p.1.trans s4) hD, ?_⟩
    rw [upd_same, et, List.filterMap_append]
    simp [hv]
  · refine ⟨p.1.trans s3, ?_⟩
    rw [s3 _ _ p.2, et, List.filterMap_append]
    simp [hv]
/-- any, all of a list of truth values that stands in H -/
def rAllU : List V → Hp → VK → Prop := fun xs H Q => match xs with
  | [.ref p] => (match H p with
    | some (.lst ys) => ∃ bs : List Bool, ys = bs.map V.bl ∧ Q (.bl (bs.all id)) H
    | _ => False)
  | _ => False
def rAnyU : List V → Hp → VK → Prop := fun xs H Q => match xs with
  | [.ref p] => (match H p with
    | some (.lst ys) => ∃ bs : List Bool, ys = bs.map V.bl ∧ Q (.bl (bs.any id)) H
    | _ => False)
  | _ => False
section
variable {X : Cx}
theorem uAll (hc : X.calm = true) : CallR X (.builtin "all") rAllU := by
  intro pins s σ H xs us Q I r h
  unfold rAllU at h
  split at h
  · split at h
    · rename_i hp
      obtain ⟨bs, rfl, q⟩ := h
      exact cr_all hc pins s σ H _ us Q I r ⟨_, bs, rfl, SqL.of hp, q⟩
    · exact h.elim
  · exact h.elim
theorem uAny (hc : X.calm = true) : CallR X (.builtin "any") rAnyU := by
  intro pins s σ H xs us Q I r h
  unfold rAnyU at h
  split at h
  · split at h
    · rename_i hp
      obtain ⟨bs, rfl, q⟩ := h
      exact cr_any hc pins s σ H _ us Q I r ⟨_, bs, rfl, SqL.of hp, q⟩
    · exact h.elim
  · exact h.elim
/-- x in T, T a written tuple of the module -/
def rInW (p : Addr) (xs : List V) : R2 := fun x y H Q => y = .ref p ∧ flatV x = true ∧ Q (.bl (inV x xs)) H
theorem uInW {p : Addr} {xs : List V} (hw : ∀ H, SqT X.K H p xs) (hf : xs.all flatV = true) : OpR X (compareOp .In) (rInW p xs) := by
  intro pins s σ H x y v u Q I rx ry h
  obtain ⟨rfl, fx, q⟩ := h
  exact op_in_seq pins s σ H x _ v u Q I rx ry ⟨_, xs, rfl, .inr (hw H), fx, hf, q⟩
end
theorem inV_strs (t : Str) : ∀ l : List Str, inV (.str t) (l.map V.str) = l.contains t
  | [] => rfl
  | b :: l => by
    have ih := inV_strs t l
    unfold inV at ih ⊢
    rw [List.map_cons, List.any_cons, ih, List.contains_cons]
    congr 1
    show (b == t) = (t == b)
    exact Bool.eq_iff_iff.mpr ⟨fun h => by simpa using (by simpa using h : b = t).symm, fun h => by simpa using (by simpa using h : t = b).symm⟩
theorem flat_strs (l : List Str) : (l.map V.str).all flatV = true := by
  induction l with
  | nil => rfl
  | cons a l ih => exact ih
theorem atI_0 {α : Type} (x : α) (l : List α) : atI (x :: l) 0 = some x := atI_nat (j := 0) rfl
theorem atI_1 {α : Type} (x y : α) (l : List α) : atI (x :: y :: l) 1 = some y := atI_nat (j := 1) rfl
theorem atI_2 {α : Type} (x y z : α) (l : List α) : atI (x :: y :: z :: l) 2 = some z := atI_nat (j := 2) rfl
theorem atI_3 {α : Type} (x y z w : α) (l : List α) : atI (x :: y :: z :: w :: l) 3 = some w := atI_nat (j := 3) rfl
end Tr
set_option maxHeartbeats 4000000
namespace Tr
open PySem PySem.Spec PyProof.Rows L2
section
variable {σ : L2.St} {H : Hp} {Q : VK} {D : Ends} {t u : TS} {c d : TT} {ta tb te tv : TE} {tg : TG} {i j : Nat} {v x y : V} {K : PySem.W.Frag}
variable {na : L2.St → Hp → Prop} {rt : VK} {bk ct : L2.St → Hp → Prop}
theorem s_seq (h : t ⟨u ⟨na, rt, bk, ct⟩, rt, bk, ct⟩ σ H) : tSeq t u ⟨na, rt, bk, ct⟩ σ H := h
theorem s_next (h : na σ H) : tNext ⟨na, rt, bk, ct⟩ σ H := h
theorem s_if (h : c σ H fun b H1 => if b = true then t D σ H1 else u D σ H1) : tIfS c t u D σ H := h
theorem s_ret (h : te σ H rt) : tRet te ⟨na, rt, bk, ct⟩ σ H := h
theorem s_retN (h : rt .non H) : tRetN ⟨na, rt, bk, ct⟩ σ H := h
theorem s_drop (h : te σ H fun _ H1 => na σ H1) : tDrop te ⟨na, rt, bk, ct⟩ σ H := h
theorem s_asg (h : te σ H fun x H1 => tg x σ H1 na) : tAsg te tg ⟨na, rt, bk, ct⟩ σ H := h
theorem s_brk (h : bk σ H) : tBreak ⟨na, rt, bk, ct⟩ σ H := h
theorem s_cont (h : ct σ H) : tCont ⟨na, rt, bk, ct⟩ σ H := h
theorem s_gname {R : L2.St → Hp → Prop} (h : R (σ.set i (some v)) H) : gName i v σ H R := h
theorem s_var (h : σ[i]? = some (some v)) (q : Q v H) : tVar i σ H Q := ⟨v, h, q⟩
theorem s_c (q : Q v H) : tC v σ H Q := q
theorem s_op {r : R2} (h : ta σ H fun x H1 => tb σ H1 fun y H2 => r x y H2 Q) : tOp r ta tb σ H Q := h
theorem s_un {r : V → Hp → VK → Prop} (h : ta σ H fun x H1 => r x H1 Q) : tUn r ta σ H Q := h
theorem s_neg {n : Int} (q : Q (.int (-n)) H) : rU (fun i => .int (-i)) (.int n) H Q := ⟨n, rfl, q⟩
theorem s_test {R : Bool → Hp → Prop} (h : te σ H fun x H' => ∃ k, x = .bl k ∧ R k H') : tTest te σ H R := h
theorem s_tb {R : Bool → Hp → Prop} (h : te σ H fun x H' => ∃ k, x = .bl k ∧ R k H') : tB te σ H R := h
theorem s_bl {R : Bool → Prop} {b : Bool} (h : R b) : ∃ k, V.bl b = .bl k ∧ R k := ⟨b, rfl, h⟩
theorem s_not {R : Bool → Hp → Prop} (h : c σ H fun b H1 => R (!b) H1) : tNot c σ H R := h
theorem s_and {R : Bool → Hp → Prop} (h : c σ H fun b H1 => if b = true then d σ H1 R else R false H1) : tAnd c d σ H R := h
theorem s_or {R : Bool → Hp → Prop} (h : c σ H fun b H1 => if b = true then R true H1 else d σ H1 R) : tOr c d σ H R := h
theorem s_yes {R : Bool → Hp → Prop} (h : R true H) : tYes σ H R := h
theorem s_ifx (h : c σ H fun b H1 => if b = true then ta σ H1 Q else tb σ H1 Q) : tIf c ta tb σ H Q := h
theorem s_andV (h : ta σ H fun x H1 => ∃ c, x = .bl c ∧ if c = true then tb σ H1 Q else Q (.bl false) H1) : tAndV ta tb σ H Q := h
theorem s_orV (h : ta σ H fun x H1 => ∃ c, x = .bl c ∧ if c = true then Q (.bl true) H1 else tb σ H1 Q) : tOrV ta tb σ H Q := h
theorem s_notV (h : ta σ H fun x H1 => ∃ c, x = .bl c ∧ Q (.bl (!c)) H1) : tNotV ta σ H Q := h
theorem s_chain {r r' : R2} {tc : TE} (h : ta σ H fun x H1 => tb σ H1 fun y H2 => r x y H2 fun z H3 => ∃ k, z = .bl k ∧ (if k = true then tc σ H3 fun w' H4 => r' y w' H4 Q else Q (.bl false) H3)) : tChain r r' ta tb tc σ H Q := h
theorem s_nil {R : List V → Hp → Prop} (h : R [] H) : tNil σ H R := h
theorem s_cons {tr : TA} {R : List V → Hp → Prop} (h : te σ H fun x H1 => tr σ H1 fun xs H2 => R (x :: xs) H2) : tCons te tr σ H R := h
theorem s_lst {tr : TA} (h : tr σ H fun xs H1 => xs.length ≤ sizeLine ∧ ∀ p, H1 p = none → Q (.ref p) (upd H1 p (.lst xs))) : tLst tr σ H Q := h
theorem s_tup {tr : TA} (h : tr σ H fun xs H1 => xs.length ≤ sizeLine ∧ ∀ p, H1 p = none → Q (.ref p) (upd H1 p (.tup xs))) : tTup tr σ H Q := h
theorem s_cb {r : List V → Hp → VK → Prop} {tr : TA} (h : tr σ H fun vs H1 => r vs H1 Q) : tCB r tr σ H Q := h
theorem s_call {sp : Sp} {E : XK} {tr : TA} (h : tr σ H fun vs H1 => sp vs H1 Q E) : tCall sp [] E tr σ H Q := by
  show tr σ H fun vs H1 => sp (vs ++ []) H1 Q E
  have e : (fun vs H1 => sp (vs ++ []) H1 Q E) = fun vs H1 => sp vs H1 Q E := by funext vs H1; rw [List.append_nil]
  rw [e]
  exact h
def mRecv (C : Addr) (m : Str) (R : V → Hp → Prop) (x : V) (H1 : Hp) : Prop := ∃ a dx fs, x = .ref a ∧ H1 a = some (.ins C dx fs) ∧ fs.lookup m = none ∧ R x H1
theorem s_meth {C : Addr} {m : Str} {sp : Sp} {E : XK} {tr : TA} (h : ta σ H fun x H1 => mRecv C m (fun x H1 => tr σ H1 fun vs H2 => sp (x :: vs) H2 Q E) x H1) : tMeth C m sp [] E ta tr σ H Q := by
  have e : (fun x H1 => ∃ a dx fs, x = V.ref a ∧ H1 a = some (.ins C dx fs) ∧ fs.lookup m = none ∧ tr σ H1 fun vs H2 => sp (x :: (vs ++ [])) H2 Q E) = fun x H1 => mRecv C m (fun x H1 => tr σ H1 fun vs H2 => sp (x :: vs) H2 Q E) x H1 := by
    funext x H1
    simp only [List.append_nil, mRecv]
  show ta σ H fun x H1 => ∃ a dx fs, x = V.ref a ∧ H1 a = some (.ins C dx fs) ∧ fs.lookup m = none ∧ tr σ H1 fun vs H2 => sp (x :: (vs ++ [])) H2 Q E
  rw [e]
  exact h
/-- the receiver is known -/
theorem s_recv {C a dx : Addr} {m : Str} {fs : List (Str × V)} {R : V → Hp → Prop} (h1 : H a = some (.ins C dx fs)) (h2 : fs.lookup m = none) (q : R (.ref a) H) : mRecv C m R (.ref a) H := ⟨a, dx, fs, rfl, h1, h2, q⟩
theorem s_make {C : Addr} {sp : Sp} {E : XK} {tr : TA} (h : tr σ H fun vs H1 => ∀ x dx, H1 x = none → H1 dx = none → dx ≠ x → sp (.ref x :: vs) (upd (upd H1 dx (.own x)) x (.ins C dx [])) (fun v H2 => v = .non ∧ Q (.ref x) H2) E) : tMake C sp [] E tr σ H Q := by
  have e : (fun vs H1 => ∀ x dx, H1 x = none → H1 dx = none → dx ≠ x → sp (.ref x :: (vs ++ [])) (upd (upd H1 dx (.own x)) x (.ins C dx [])) (fun v H2 => v = .non ∧ Q (.ref x) H2) E) = fun vs H1 => ∀ x dx, H1 x = none → H1 dx = none → dx ≠ x → sp (.ref x :: vs) (upd (upd H1 dx (.own x)) x (.ins C dx [])) (fun v H2 => v = .non ∧ Q (.ref x) H2) E := by
    funext vs H1
    simp only [List.append_nil]
  show tr σ H fun vs H1 => ∀ x dx, H1 x = none → H1 dx = none → dx ≠ x → sp (.ref x :: (vs ++ [])) (upd (upd H1 dx (.own x)) x (.ins C dx [])) (fun v H2 => v = .non ∧ Q (.ref x) H2) E
  rw [e]
  exact h
theorem s_I0 {g : Int → Int → V} {n m : Int} (q : Q (g n m) H) : rI0 g (.int n) (.int m) H Q := ⟨n, m, rfl, rfl, q⟩
theorem s_I {C : Int → Int → Prop} {g : Int → Int → V} {n m : Int} (hc : C n m) (q : Q (g n m) H) : rI C g (.int n) (.int m) H Q := ⟨n, m, rfl, rfl, hc, q⟩
theorem s_eqS (hs : scal x y = true) (q : Q (.bl (decide (x = y))) H) : rEqU K x y H Q := by unfold rEqU; rw [if_pos hs]; exact q
theorem s_neS (hs : scal x y = true) (q : Q (.bl (!decide (x = y))) H) : rNeU K x y H Q := by unfold rNeU; rw [if_pos hs]; exact q
theorem s_eqNil {p q' : Addr} {xs : List V} (hp : H p = some (.lst xs)) (hq : H q' = some (.lst [])) (q : Q (.bl xs.isEmpty) H) : rEqU K (.ref p) (.ref q') H Q := by
  unfold rEqU; rw [if_neg (by simp [scal])]; simp only [hp, hq]; exact q
theorem s_neNil {p q' : Addr} {xs : List V} (hp : H p = some (.lst xs)) (hq : H q' = some (.lst [])) (q : Q (.bl (!xs.isEmpty)) H) : rNeU K (.ref p) (.ref q') H Q := by
  unfold rNeU; rw [if_neg (by simp [scal])]; simp only [hp, hq]; exact q
theorem s_isN {b : Bool} (hb : decide (x = .non) = b) (q : Q (.bl b) H) : rIsN x .non H Q := ⟨rfl, by rw [hb]; exact q⟩
theorem s_notN {b : Bool} (hb : decide (x = .non) = b) (q : Q (.bl (!b)) H) : rNotN x .non H Q := ⟨rfl, by rw [hb]; exact q⟩
theorem s_addI {n m : Int} (q : Q (.int (n + m)) H) : rAddU (.int n) (.int m) H Q := q
theorem s_addS {a b : Str} (hl : a.length + b.length ≤ sizeLine) (q : Q (.str (a ++ b)) H) : rAddU (.str a) (.str b) H Q := ⟨hl, q⟩
theorem s_addL {p r : Addr} {xs ys : List V} (hp : H p = some (.lst xs)) (hq : H r = some (.lst ys)) (hl : xs.length + ys.length ≤ sizeLine) (q : ∀ z, H z = none → Q (.ref z) (upd H z (.lst (xs ++ ys)))) : rAddU (.ref p) (.ref r) H Q := by
  simp only [rAddU, hp, hq]
  exact ⟨hl, q⟩
theorem s_mulI {n m : Int} (hc : CMulW n m) (q : Q (.int (n * m)) H) : rMulU (.int n) (.int m) H Q := ⟨hc, q⟩
theorem s_mulL {p : Addr} {xs : List V} {k : Int} (hp : H p = some (.lst xs)) (h1 : -(2 ^ 63) ≤ k) (h2 : k < 2 ^ 63) (h3 : xs.length * k.toNat ≤ sizeLine) (q : ∀ z, H z = none → Q (.ref z) (upd H z (.lst (List.replicate k.toNat xs).flatten))) : rMulU (.ref p) (.int k) H Q := by
  simp only [rMulU, hp]
  exact ⟨h1, h2, h3, q⟩
theorem s_ixL {p : Addr} {xs : List V} {n : Int} (hp : H p = some (.lst xs)) (ha : atI xs n = some v) (q : Q v H) : rIxU (.ref p) (.int n) H Q := by
  simp only [rIxU, hp]
  exact ⟨v, ha, q⟩
theorem s_ixT {p : Addr} {xs : List V} {n : Int} (hp : H p = some (.tup xs)) (ha : atI xs n = some v) (q : Q v H) : rIxU (.ref p) (.int n) H Q := by
  simp only [rIxU, hp]
  exact ⟨v, ha, q⟩
theorem s_ixS {z : Str} {n : Int} {k : Nat} (hz : z.length ≤ sizeLine) (ha : atI z.cps.toList n = some k) (q : Q (.str ⟨#[k]⟩) H) : rIxU (.str z) (.int n) H Q := ⟨hz, k, ha, q⟩
theorem s_sl {r : V → Option Int → Option Int → Hp → VK → Prop} {tl th : TO} (h : te σ H fun x H1 => tl σ H1 fun l H2 => th σ H2 fun u H3 => r x l u H3 Q) : tSl r te tl th σ H Q := h
theorem s_po0 {R : Option Int → Hp → Prop} (h : R none H) : tNoPart σ H R := h
theorem s_po1 {R : Option Int → Hp → Prop} (h : te σ H fun x H1 => ∃ i, x = .int i ∧ R (some i) H1) : tPart te σ H R := h
theorem s_int {R : Int → Prop} {n : Int} (h : R n) : ∃ i, V.int n = .int i ∧ R i := ⟨n, rfl, h⟩
theorem s_slL {p : Addr} {xs : List V} {lo hi : Option Int} (hp : H p = some (.lst xs)) (q : ∀ z, H z = none → Q (.ref z) (upd H z (.lst (cutV xs lo hi)))) : rSlU (.ref p) lo hi H Q := by
  simp only [rSlU, hp]
  exact q
theorem s_slS {z : Str} {lo hi : Option Int} (hz : z.length ≤ sizeLine) (q : Q (.str (cutS z lo hi)) H) : rSlU (.str z) lo hi H Q := ⟨hz, q⟩
theorem s_inL {p : Addr} {xs : List V} {neg : Bool} (hp : H p = some (.lst xs)) (h1 : flatV x = true) (h2 : xs.all flatV = true) (q : Q (.bl (if neg then !inV x xs else inV x xs)) H) : rInU K neg x (.ref p) H Q := by
  simp only [rInU, hp]
  exact ⟨h1, h2, q⟩
theorem s_inT {p : Addr} {xs : List V} {neg : Bool} (hp : H p = some (.tup xs)) (h1 : flatV x = true) (h2 : xs.all flatV = true) (q : Q (.bl (if neg then !inV x xs else inV x xs)) H) : rInU K neg x (.ref p) H Q := by
  simp only [rInU, hp]
  exact ⟨h1, h2, q⟩
/-- a text in a list of texts -/
theorem s_inS {p : Addr} {z : Str} {l : List Str} (hp : H p = some (.lst (l.map V.str))) (q : Q (.bl (l.contains z)) H) : rInU K false (.str z) (.ref p) H Q := s_inL hp rfl (flat_strs _) (by rw [inV_strs]; exact q)
theorem s_ninS {p : Addr} {z : Str} {l : List Str} (hp : H p = some (.lst (l.map V.str))) (q : Q (.bl (!l.contains z)) H) : rInU K true (.str z) (.ref p) H Q := s_inL hp rfl (flat_strs _) (by rw [inV_strs]; exact q)
theorem s_inW {p : Addr} {z : Str} {l : List Str} (q : Q (.bl (l.contains z)) H) : rInW p (l.map V.str) (.str z) (.ref p) H Q := ⟨rfl, rfl, by rw [inV_strs]; exact q⟩
theorem s_lenS {z : Str} (hz : z.length ≤ sizeLine) (q : Q (.int z.length) H) : rLenU [.str z] H Q := ⟨hz, q⟩
theorem s_lenL {p : Addr} {xs : List V} (hp : H p = some (.lst xs)) (q : Q (.int xs.length) H) : rLenU [.ref p] H Q := by
  simp only [rLenU, hp]
  exact q
theorem s_lenT {p : Addr} {xs : List V} (hp : H p = some (.tup xs)) (q : Q (.int xs.length) H) : rLenU [.ref p] H Q := by
  simp only [rLenU, hp]
  exact q
theorem s_intI {n : Int} (q : Q (.int n) H) : rIntU [.int n] H Q := q
theorem s_intB {b : Bool} (q : Q (.int (if b then 1 else 0)) H) : rIntU [.bl b] H Q := q
theorem s_intS {z : Str} {n : Int} (h1 : PySem.intText? z = some n) (h2 : z.length ≤ 640) (q : Q (.int n) H) : rIntU [.str z] H Q := ⟨n, h1, h2, q⟩
theorem s_listL {p : Addr} {xs : List V} (hp : H p = some (.lst xs)) (q : ∀ z, H z = none → Q (.ref z) (upd H z (.lst xs))) : rListU [.ref p] H Q := by
  simp only [rListU, hp]
  exact q
theorem s_listT {p : Addr} {xs : List V} (hp : H p = some (.tup xs)) (q : ∀ z, H z = none → Q (.ref z) (upd H z (.lst xs))) : rListU [.ref p] H Q := by
  simp only [rListU, hp]
  exact q
theorem s_tupleL {p : Addr} {xs : List V} (hp : H p = some (.lst xs)) (q : ∀ z, H z = none → Q (.ref z) (upd H z (.tup xs))) : rTupleU [.ref p] H Q := by
  simp only [rTupleU, hp]
  exact q
theorem s_tupleT {p : Addr} {xs : List V} (hp : H p = some (.tup xs)) (q : Q (.ref p) H) : rTupleU [.ref p] H Q := by
  simp only [rTupleU, hp]
  exact q
theorem s_bm {T : String} {r : V → List V → Hp → VK → Prop} {tr : TA} (h : ta σ H fun x H1 => tyV K T x H1 ∧ tr σ H1 fun xs H2 => r x xs H2 Q) : tBM K T r ta tr σ H Q := h
theorem s_bm0 {T : String} {r : V → List V → Hp → VK → Prop} (h : ta σ H fun x H1 => tyV K T x H1 ∧ r x [] H1 Q) : tBM0 K T r ta σ H Q := h
theorem s_tyL {p : Addr} {xs : List V} {R : Prop} (hp : H p = some (.lst xs)) (h : R) : tyV K "list" (.ref p) H ∧ R := ⟨.inl ⟨rfl, _, SqL.of hp⟩, h⟩
theorem s_app {p : Addr} {xs : List V} (hp : H p = some (.lst xs)) (hl : xs.length < sizeLine) (q : Q .non (upd H p (.lst (xs ++ [v])))) : rAppU (.ref p) [v] H Q := by
  simp only [rAppU, hp]
  exact ⟨hl, q⟩
theorem s_fld {a C dx : Addr} {fs : List (Str × V)} {f : Str} (hp : H a = some (.ins C dx fs)) (hc : FldOk K C f) (hl : fs.lookup f = some v) (q : Q v H) : (fun x H1 => (match x with
  | V.ref a => (match H1 a with
    | some (HO.ins C dx fs) => FldOk K C f ∧ ∃ v, fs.lookup f = some v ∧ Q v H1
    | _ => False)
  | _ => False)) (V.ref a) H := by
  simp only [hp]
  exact ⟨hc, v, hl, q⟩
end
end Tr
namespace Tr
open PySem PySem.Spec PyProof.Rows L2
theorem get_same {H H' : Hp} {a : Addr} {o : HO} (S : Same H H') (h : H a = some o) : H' a = some o := S a o h
theorem upd_none {H : Hp} {a z : Addr} {o : HO} (h : upd H a o z = none) : z ≠ a ∧ H z = none := by
  by_cases e : z = a
  · rw [e, upd_same] at h
    cases h
  · rw [upd_ne e] at h
    exact ⟨e, h⟩
theorem sz_le {n : Nat} (h : n ≤ 100000) : n ≤ sizeLine := Nat.le_trans h (by decide)
theorem sz_lt {n : Nat} (h : n < 100000) : n < sizeLine := Nat.lt_of_lt_of_le h (by decide)
theorem ifT {b : Bool} {A B : Prop} (e : b = true) (h : A) : if b = true then A else B := by rw [if_pos e]; exact h
theorem ifF {b : Bool} {A B : Prop} (e : b = false) (h : B) : if b = true then A else B := by rw [if_neg (by rw [e]; decide)]; exact h
theorem ifB {b : Bool} {A B : Prop} (h1 : b = true → A) (h2 : b = false → B) : if b = true then A else B := by
  cases b
  · exact ifF rfl (h2 rfl)
  · exact ifT rfl (h1 rfl)
end Tr
namespace Tr
open PySem PySem.Spec PyProof.Rows L2
section
variable {σ : L2.St} {H : Hp} {Q : VK} {D : Ends} {ta tb te tv : TE} {v x y : V} {K : PySem.W.Frag}
theorem s_m1 {r : V → List V → Hp → VK → Prop} (h : ta σ H fun x H1 => (∃ a, x = .str a) ∧ te σ H1 fun y H2 => r x [y] H2 Q) : tM1 r ta te σ H Q := h
theorem s_isS {z : Str} {R : Prop} (h : R) : (∃ a, V.str z = .str a) ∧ R := ⟨⟨z, rfl⟩, h⟩
theorem s_isiSS {z : Str} (q : Q (.bl true) H) : rIsi K [.str z, .ty "str"] H Q := ⟨_, _, _, _, true, rfl, .ty _, .base (.str z), kit_ty (by decide +kernel), q⟩
theorem s_isiLT {p tp : Addr} {xs : List V} (hp : H p = some (.lst xs)) (ht : H tp = some (.tup [.ty "list", .ty "tuple"])) (q : Q (.bl true) H) : rIsiT K [.ref p, .ref tp] H Q :=
  ⟨_, tp, _, .type "list", [.type "list", .type "tuple"], true, rfl, ht, .cons (.ty _) (.cons (.ty _) .nil), .base (.lst hp), by rfl, q⟩
theorem s_split {z b : Str} (h1 : (b.length == 0) = false) (h2 : z.length + 2 ≤ sizeLine) (q : ∀ p, H p = none → Q (.ref p) (upd H p (.lst ((Txt.split z b).map V.str)))) :
    ∃ a b', V.str z = V.str a ∧ [V.str b] = [V.str b'] ∧ (b'.length == 0) = false ∧ a.length + 2 ≤ sizeLine ∧ rNewStrs (Txt.split a b') H Q := ⟨z, b, rfl, rfl, h1, h2, q⟩
end
end Tr
namespace Tr
open PySem L2
theorem s_sz {n : Nat} {R : Prop} (h : n ≤ 1000) (q : R) : n ≤ sizeLine ∧ R := ⟨Nat.le_trans h (by decide), q⟩
end Tr
namespace Tr
open PySem PySem.Spec PyProof.Rows L2
section
variable {σ : L2.St} {H : Hp} {Q : VK} {D : Ends} {K : PySem.W.Frag}
/-- for i, x in enumerate(xs) -/
theorem s_forEnum {p : Addr} {xs : List V} {g : TG} {tb : TS} {te : TE} {na : L2.St → Hp → Prop} {rt : VK} {bk ct : L2.St → Hp → Prop} (h1 : te σ H fun v H1 => v = .ref p ∧ H1 = H) (hm : ∀ Q : VK, (te σ H fun v H1 => v = .ref p ∧ H1 = H) → Q (.ref p) H → te σ H Q) (hp : H p = some (.lst xs)) (Pv : Nat → L2.St → Hp → Prop) (h0 : Pv 0 σ H)
    (hG : ∀ i σ H, i ≤ xs.length → Pv i σ H → H p = some (.lst xs))
    (hs : ∀ i x T σ H, xs[i]? = some x → Pv i σ H → H T = none → g (.ref T) σ (upd H T (.tup [.int (i : Nat), x])) fun σ2 H2 => tb ⟨Pv (i + 1), rt, na, Pv (i + 1)⟩ σ2 H2)
    (hd : ∀ σ H, Pv xs.length σ H → na σ H) : tFor (iEnum K (tCons te tNil)) g tb ⟨na, rt, bk, ct⟩ σ H := by
  refine hm _ h1 ⟨p, xs, rfl, SqL.of hp, ?_⟩
  refine for_it (D := ⟨na, rt, bk, ct⟩) (walk_enum (xs := xs)) Pv h0 (fun i σ H hi pv => SqL.of (hG i σ H hi pv)) ?_ hd
  rintro i x σ H H' hi pv ⟨T, x1, y1, rfl, hT, rfl, e1, e2⟩
  cases e1
  exact hs i y1 T σ H e2 pv hT
theorem s_forEnumV {p : Addr} {xs : List V} {g : TG} {tb : TS} {j : Nat} {na : L2.St → Hp → Prop} {rt : VK} {bk ct : L2.St → Hp → Prop} (hv : σ[j]? = some (some (.ref p))) (hp : H p = some (.lst xs)) (Pv : Nat → L2.St → Hp → Prop) (h0 : Pv 0 σ H)
    (hG : ∀ i σ H, i ≤ xs.length → Pv i σ H → H p = some (.lst xs))
    (hs : ∀ i x T σ H, xs[i]? = some x → Pv i σ H → H T = none → g (.ref T) σ (upd H T (.tup [.int (i : Nat), x])) fun σ2 H2 => tb ⟨Pv (i + 1), rt, na, Pv (i + 1)⟩ σ2 H2)
    (hd : ∀ σ H, Pv xs.length σ H → na σ H) : tFor (iEnum K (tCons (tVar j) tNil)) g tb ⟨na, rt, bk, ct⟩ σ H :=
  s_forEnum ⟨_, hv, rfl, rfl⟩ (fun Q _ q => ⟨_, hv, q⟩) hp Pv h0 hG hs hd
/-- for x in xs, xs what te gives, a list that stands in H -/
theorem s_forList {p : Addr} {xs : List V} {g : TG} {tb : TS} {te : TE} {na : L2.St → Hp → Prop} {rt : VK} {bk ct : L2.St → Hp → Prop} (Pv : Nat → L2.St → Hp → Prop) (h0 : Pv 0 σ H) (hp : H p = some (.lst xs))
    (hG : ∀ i σ H, i ≤ xs.length → Pv i σ H → H p = some (.lst xs))
    (hs : ∀ i x σ H, xs[i]? = some x → Pv i σ H → g x σ H fun σ2 H2 => tb ⟨Pv (i + 1), rt, na, Pv (i + 1)⟩ σ2 H2)
    (hd : ∀ σ H, Pv xs.length σ H → na σ H) :
    ∃ W : Nat → Nat → L2.St → Hp → Prop, (∃ m, W 0 m σ H) ∧ ∀ i m σ H, W i m σ H →
      ((Itl K p).stop i H ∧ na σ H) ∨ ((Itl K p).go i H ∧ ∃ N : L2.St → Hp → Prop, (∀ σ' H', N σ' H' → ∃ m', m' < m ∧ W (i + 1) m' σ' H') ∧ ∀ x H', (Itl K p).yld i H x H' → g x σ H' fun σ2 H2 => tb ⟨N, rt, na, N⟩ σ2 H2) :=
  for_list (K := K) (D := ⟨na, rt, bk, ct⟩) Pv h0 (fun i σ H hi pv => SqL.of (hG i σ H hi pv)) hs hd
theorem s_gtup2 {T : Addr} {x y : V} {i j n : Nat} {R : L2.St → Hp → Prop} (hT : H T = some (.tup [x, y])) (hn : 2 = n) (q : R ((σ.set i (some x)).set j (some y)) H) : gTupU n (gCons (gName i) (gCons (gName j) gNil)) (.ref T) σ H R := by
  subst hn
  simp only [gTupU, hT]
  exact ⟨rfl, _, _, rfl, _, _, rfl, rfl, q⟩
theorem s_gtup3 {T : Addr} {x y z : V} {i j k n : Nat} {R : L2.St → Hp → Prop} (hT : H T = some (.tup [x, y, z])) (hn : 3 = n) (q : R (((σ.set i (some x)).set j (some y)).set k (some z)) H) : gTupU n (gCons (gName i) (gCons (gName j) (gCons (gName k) gNil))) (.ref T) σ H R := by
  subst hn
  simp only [gTupU, hT]
  exact ⟨rfl, _, _, rfl, _, _, rfl, _, _, rfl, rfl, q⟩
end
end Tr
namespace Tr
open PySem PySem.Spec PyProof.Rows L2
section
variable {H : Hp} {Q : VK} {K : PySem.W.Frag}
/-- a text in a written tuple of texts that was just laid -/
theorem s_inTS {p : Addr} {z : Str} {l : List Str} (hp : H p = some (.tup (l.map V.str))) (q : Q (.bl (l.contains z)) H) : rInU K false (.str z) (.ref p) H Q := s_inT hp rfl (flat_strs _) (by rw [inV_strs]; exact q)
theorem s_ninTS {p : Addr} {z : Str} {l : List Str} (hp : H p = some (.tup (l.map V.str))) (q : Q (.bl (!l.contains z)) H) : rInU K true (.str z) (.ref p) H Q := s_inT hp rfl (flat_strs _) (by rw [inV_strs]; exact q)
theorem contains2 (z a b : Str) : [a, b].contains z = decide (z = a ∨ z = b) := by simp [List.contains_cons, Bool.decide_or]
theorem dec_str (a b : Str) : decide (V.str a = V.str b) = decide (a = b) := decide_eq_decide.mpr ⟨fun e => by injection e, fun e => by rw [e]⟩
theorem dec_int (a b : Int) : decide (V.int a = V.int b) = decide (a = b) := decide_eq_decide.mpr ⟨fun e => by injection e, fun e => by rw [e]⟩
theorem split_at {α : Type} {l : List α} {i : Nat} {z : α} (h : l[i]? = some z) : l = l.take i ++ z :: l.drop (i + 1) := by
  obtain ⟨hi, e⟩ := List.getElem?_eq_some_iff.mp h
  have e2 := List.drop_eq_getElem_cons hi
  rw [e] at e2
  rw [← e2, List.take_append_drop]
theorem str_at {l : List Str} {i : Nat} {x : V} (hx : (l.map V.str)[i]? = some x) : ∃ z, l[i]? = some z ∧ x = .str z := by
  rw [List.getElem?_map] at hx
  cases e : l[i]? with
  | none => rw [e] at hx; cases hx
  | some z => rw [e] at hx; exact ⟨z, rfl, (Option.some.inj hx).symm⟩
end
end Tr
namespace Tr
open PySem PySem.Spec PyProof.Rows L2
section
variable {σ : L2.St} {H : Hp} {Q : VK} {K : PySem.W.Frag} {ta tv : TE} {f : Str} {v : V} {na : L2.St → Hp → Prop} {rt : VK} {bk ct : L2.St → Hp → Prop}
def mFld (K : PySem.W.Frag) (f : Str) (x : V) (H1 : Hp) (Q : VK) : Prop := match x with
  | .ref a => (match H1 a with
    | some (.ins C dx fs) => FldOk K C f ∧ ∃ v, fs.lookup f = some v ∧ Q v H1
    | _ => False)
  | _ => False
theorem s_fldU (h : ta σ H fun x H1 => mFld K f x H1 Q) : tFldU K ta f σ H Q := h
theorem s_fldM {a C dx : Addr} {fs : List (Str × V)} (hp : H a = some (.ins C dx fs)) (hc : FldOk K C f) (hl : fs.lookup f = some v) (q : Q v H) : mFld K f (.ref a) H Q := by
  simp only [mFld, hp]
  exact ⟨hc, v, hl, q⟩
def mSet (K : PySem.W.Frag) (f : Str) (x y : V) (H2 : Hp) (R : Hp → Prop) : Prop := match x with
  | .ref a => (match H2 a with
    | some (.ins C dx fs) => FldOk K C f ∧ fs.length < 1000 ∧ R (upd H2 a (.ins C dx (putF f y fs)))
    | _ => False)
  | _ => False
theorem s_sfldU (h : tv σ H fun y H1 => ta σ H1 fun x H2 => mSet K f x y H2 fun H3 => na σ H3) : sFldU K ta tv f ⟨na, rt, bk, ct⟩ σ H := h
theorem s_setM {a C dx : Addr} {fs fs' : List (Str × V)} {y : V} {R : Hp → Prop} (hp : H a = some (.ins C dx fs)) (hc : FldOk K C f) (hl : fs.length < 1000) (he : putF f y fs = fs') (q : R (upd H a (.ins C dx fs'))) : mSet K f (.ref a) y H R := by
  simp only [mSet, hp]
  exact ⟨hc, hl, by rw [he]; exact q⟩
end
end Tr
set_option maxHeartbeats 1000000
namespace Tr
open PySem PySem.Spec PyProof.Rows L2
section
variable {X : Cx}
def PPt (X : Cx) (p : Pattern) (r : Str → Bool) : Prop := ∀ (pins : List (Addr × Obj)) (s : Shared) (σ : L2.St) (H : Hp) (z : Str) (u : Value) (Q : Option (List (Str × Value)) → Shared → Prop), Inv X pins σ H s → RelV (.str z) u →
  (∀ s', Inv X pins σ H s' → Q (if r z = true then some [] else none) s') → wpAny (model X.prog X.w) X.A (matchPattern p X.env u) Q X.xe s
theorem ppt_val {w : Str} {k : Nat} {p1 p2 : Pos} : PPt X (.MatchValue (.Constant (.str w) k p1) p2) (fun z => decide (z = w)) := by
  intro pins s σ H z u Q I ru hq
  refine wpAny_matchPattern_Value ?_
  refine thn ((pe_str (X := X)).run pins s σ H (fun v H1 => v = .str w ∧ H1 = H) I ⟨rfl, rfl⟩) fun x s1 hx => ?_
  obtain ⟨v, H1, I1, rx, rfl, rfl⟩ := hx
  refine thn (op_eq pins s1 σ _ (.str z) (.str w) u x (fun v H1 => v = .bl (decide (V.str z = V.str w)) ∧ H1 = _) I1 ru rx ⟨rfl, rfl, rfl⟩) fun c s2 hc => ?_
  obtain ⟨v, H2, I2, rc, rfl, rfl⟩ := hc
  have ec : c = Value.bool (decide (V.str z = V.str w)) := rc
  subst ec
  refine wpAny_truthy_bool ?_
  have := hq s2 I2
  rw [dec_str]
  by_cases e : z = w
  · simpa [e] using this
  · simpa [e] using this
def PFs (X : Cx) (ps : List Pattern) (r : Str → Bool) : Prop := ∀ (pins : List (Addr × Obj)) (s : Shared) (σ : L2.St) (H : Hp) (z : Str) (u : Value) (Q : Option (List (Str × Value)) → Shared → Prop), Inv X pins σ H s → RelV (.str z) u →
  (∀ s', Inv X pins σ H s' → Q (if r z = true then some [] else none) s') → wpAny (model X.prog X.w) X.A (matchFirst ps X.env u) Q X.xe s
theorem pfs_nil : PFs X [] (fun _ => false) := by
  intro pins s σ H z u Q I ru hq
  exact wpAny_matchFirst_nil (hq s I)
theorem pfs_cons {p : Pattern} {ps : List Pattern} {r r' : Str → Bool} (h : PPt X p r) (h' : PFs X ps r') : PFs X (p :: ps) (fun z => r z || r' z) := by
  intro pins s σ H z u Q I ru hq
  refine wpAny_matchFirst_cons (h pins s σ H z u _ I ru fun s' I' => ?_)
  cases e : r z with
  | true =>
    rw [if_pos rfl]
    simpa [e] using hq s' I'
  | false =>
    rw [if_neg (by decide)]
    refine h' pins s' σ H z u Q I' ru fun s2 I2 => ?_
    simpa [e] using hq s2 I2
theorem ppt_or {ps : List Pattern} {r : Str → Bool} {pos : Pos} (h : PFs X ps r) (hn : (namesOfAll (ps.take 1)) = [] := by rfl) : PPt X (.MatchOr ps pos) r := by
  intro pins s σ H z u Q I ru hq
  refine wpAny_matchPattern_Or (h pins s σ H z u _ I ru fun s' I' => ?_)
  have := hq s' I'
  cases e : r z with
  | true =>
    rw [if_pos rfl]
    rw [e, if_pos rfl] at this
    simpa [hn] using this
  | false =>
    rw [if_neg (by decide)]
    rw [e, if_neg (by decide)] at this
    exact this
abbrev TM := Str → TS
structure PM (X : Cx) (cs : List MatchCase) (t : TM) : Prop where
  run : ∀ (first : Bool) (pins : List (Addr × Obj)) (s : Shared) (σ : L2.St) (H : Hp) (D : Ends) (z : Str) (u : Value), Inv X pins σ H s → RelV (.str z) u → t z D σ H → wpAny (model X.prog X.w) X.A (matchCases cs X.env u first) (SP X pins D) X.xe s
def mNil : TM := fun _ D σ H => D.nx σ H
theorem pm_nil : PM X [] mNil := ⟨fun _ _ s σ H D z u I _ h => wpAny_matchCases_nil ⟨σ, H, I, h⟩⟩
def mCons (r : Str → Bool) (t : TS) (m : TM) : TM := fun z D σ H => if r z = true then t D σ H else m z D σ H
theorem pm_cons {p : Pattern} {body : List Stmt} {rest : List MatchCase} {r : Str → Bool} {t : TS} {m : TM} (hp : PPt X p r) (hb : PSs X body t) (hr : PM X rest m) : PM X (⟨p, none, body⟩ :: rest) (mCons r t m) := by
  refine ⟨fun first pins s σ H D z u I ru h => ?_⟩
  refine wpAny_matchCases_cons (hp pins s σ H z u _ I ru fun s' I' => ?_)
  unfold mCons at h
  cases e : r z with
  | true =>
    rw [e, if_pos rfl] at h
    rw [if_pos rfl]
    exact wpAny_assignInOrder_none (hb.run pins s' σ H D I' h)
  | false =>
    rw [e, if_neg (by decide)] at h
    rw [if_neg (by decide)]
    exact hr.run false pins s' σ H D z u I' ru h
def mAny (t : TS) : TM := fun _ D σ H => t D σ H
theorem pm_any {body : List Stmt} {rest : List MatchCase} {t : TS} {pos : Pos} (hb : PSs X body t) : PM X (⟨.MatchAs none none pos, none, body⟩ :: rest) (mAny t) := by
  refine ⟨fun first pins s σ H D z u I ru h => ?_⟩
  refine wpAny_matchCases_cons (wpAny_matchPattern_Capture ?_)
  exact wpAny_assignInOrder_none (hb.run pins s σ H D I h)
theorem pm_one {body : List Stmt} {rest : List MatchCase} {w : Str} {k : Nat} {p1 p2 : Pos} {t : TS} {m : TM} (hb : PSs X body t) (hr : PM X rest m) : PM X (⟨.MatchValue (.Constant (.str w) k p1) p2, none, body⟩ :: rest) (mCons (fun z => decide (z = w)) t m) :=
  pm_cons ppt_val hb hr
theorem pm_or2 {body : List Stmt} {rest : List MatchCase} {w1 w2 : Str} {k1 k2 : Nat} {p1 p2 p3 p4 pos : Pos} {t : TS} {m : TM} (hb : PSs X body t) (hr : PM X rest m) :
    PM X (⟨.MatchOr [.MatchValue (.Constant (.str w1) k1 p1) p2, .MatchValue (.Constant (.str w2) k2 p3) p4] pos, none, body⟩ :: rest) (mCons (fun z => decide (z = w1) || (decide (z = w2) || false)) t m) :=
  pm_cons (ppt_or (pfs_cons ppt_val (pfs_cons ppt_val pfs_nil))) hb hr
theorem pm_or3 {body : List Stmt} {rest : List MatchCase} {w1 w2 w3 : Str} {k1 k2 k3 : Nat} {p1 p2 p3 p4 p5 p6 pos : Pos} {t : TS} {m : TM} (hb : PSs X body t) (hr : PM X rest m) :
    PM X (⟨.MatchOr [.MatchValue (.Constant (.str w1) k1 p1) p2, .MatchValue (.Constant (.str w2) k2 p3) p4, .MatchValue (.Constant (.str w3) k3 p5) p6] pos, none, body⟩ :: rest) (mCons (fun z => decide (z = w1) || (decide (z = w2) || (decide (z = w3) || false))) t m) :=
  pm_cons (ppt_or (pfs_cons ppt_val (pfs_cons ppt_val (pfs_cons ppt_val pfs_nil)))) hb hr
theorem pm_or4 {body : List Stmt} {rest : List MatchCase} {w1 w2 w3 w4 : Str} {k1 k2 k3 k4 : Nat} {p1 p2 p3 p4 p5 p6 p7 p8 pos : Pos} {t : TS} {m : TM} (hb : PSs X body t) (hr : PM X rest m) :
    PM X (⟨.MatchOr [.MatchValue (.Constant (.str w1) k1 p1) p2, .MatchValue (.Constant (.str w2) k2 p3) p4, .MatchValue (.Constant (.str w3) k3 p5) p6, .MatchValue (.Constant (.str w4) k4 p7) p8] pos, none, body⟩ :: rest) (mCons (fun z => decide (z = w1) || (decide (z = w2) || (decide (z = w3) || (decide (z = w4) || false)))) t m) :=
  pm_cons (ppt_or (pfs_cons ppt_val (pfs_cons ppt_val (pfs_cons ppt_val (pfs_cons ppt_val pfs_nil))))) hb hr
def sMatch (te : TE) (m : TM) : TS := fun D σ H => te σ H fun v H1 => match v with | .str z => m z D σ H1 | _ => False
theorem ps_match {e : Expr} {cs : List MatchCase} {te : TE} {m : TM} {pos : Pos} (he : PE X e te) (hm : PM X cs m) : PS X (.Match e cs pos) (sMatch te m) := by
  refine ⟨fun pins s σ H D I h => ?_⟩
  refine wpAny_Match (thn (he.run pins s σ H _ I h) fun u s1 hu => ?_)
  obtain ⟨v, H1, I1, rv, q⟩ := hu
  split at q
  · exact hm.run true pins s1 σ H1 D _ u I1 rv q
  · exact q.elim

theorem s_match {σ : L2.St} {H : Hp} {te : TE} {m : TM} {D : Ends} (h : te σ H fun v H1 => match v with | .str z => m z D σ H1 | _ => False) : sMatch te m D σ H := h
theorem s_mT {r : Str → Bool} {t : TS} {m : TM} {z : Str} {D : Ends} {σ : L2.St} {H : Hp} (e : r z = true) (h : t D σ H) : mCons r t m z D σ H := by unfold mCons; rw [if_pos e]; exact h
theorem s_mF {r : Str → Bool} {t : TS} {m : TM} {z : Str} {D : Ends} {σ : L2.St} {H : Hp} (e : r z = false) (h : m z D σ H) : mCons r t m z D σ H := by unfold mCons; rw [if_neg (by rw [e]; decide)]; exact h
def rPopU : V → List V → Hp → VK → Prop := fun x xs H Q => match x with
  | .ref l => (match H l with
    | some (.lst ys) => ∃ y, ys[ys.length - 1]? = some y ∧ xs = [] ∧ Q y (upd H l (.lst ys.dropLast))
    | _ => False)
  | _ => False
theorem uPop : MtR X "list.pop" rPopU := by
  intro pins s σ H x xs v us Q I rx rs h
  unfold rPopU at h
  split at h
  · split at h
    · rename_i hp
      obtain ⟨y, hy, rfl, q⟩ := h
      exact mt_pop pins s σ H _ _ v us Q I rx rs ⟨_, _, y, rfl, rfl, hp, hy, q⟩
    · exact h.elim
  · exact h.elim
theorem s_pop {H : Hp} {Q : VK} {l : Addr} {ys : List V} {y : V} (hp : H l = some (.lst ys)) (hy : ys[ys.length - 1]? = some y) (q : Q y (upd H l (.lst ys.dropLast))) : rPopU (.ref l) [] H Q := by
  simp only [rPopU, hp]
  exact ⟨y, hy, trivial, q⟩
def rExtU : V → List V → Hp → VK → Prop := fun x xs H Q => match x with
  | .ref l => (match xs with
    | [.ref b] => (match H l with
      | some (.lst ys) => (match H b with
        | some (.lst zs) => ys.length + zs.length ≤ sizeLine ∧ l ≠ b ∧ Q .non (upd H l (.lst (ys ++ zs)))
        | _ => False)
      | _ => False)
    | _ => False)
  | _ => False
theorem uExtend : MtR X "list.extend" rExtU := by
  intro pins s σ H x xs v us Q I rx rs h
  unfold rExtU at h
  split at h
  · split at h
    · split at h
      · rename_i hp
        split at h
        · rename_i hb
          exact mt_extend pins s σ H _ _ v us Q I rx rs ⟨_, _, _, _, rfl, rfl, hp, hb, h.1, h.2.2⟩
        · exact h.elim
      · exact h.elim
    · exact h.elim
  · exact h.elim
theorem s_ext {H : Hp} {Q : VK} {l b : Addr} {ys zs : List V} (hp : H l = some (.lst ys)) (hb : H b = some (.lst zs)) (hl : ys.length + zs.length ≤ sizeLine) (ne : l ≠ b) (q : Q .non (upd H l (.lst (ys ++ zs)))) : rExtU (.ref l) [.ref b] H Q := by
  simp only [rExtU, hp, hb]
  exact ⟨hl, ne, q⟩

theorem s_starT {σ : L2.St} {H : Hp} {K : PySem.W.Frag} {te : TE} {t : TA} {Q : List V → Hp → Prop} (h : te σ H fun y H1 => ∃ a xs, y = .ref a ∧ (SqT K H1 a xs ∨ SqL K H1 a xs) ∧ t σ H1 fun vs H2 => Q (xs ++ vs) H2) : StX.tStar K te t σ H Q := h
theorem s_starM {H : Hp} {K : PySem.W.Frag} {p : Addr} {xs : List V} {R : List V → Prop} (hp : H p = some (.tup xs)) (h : R xs) : ∃ a ys, V.ref p = .ref a ∧ (SqT K H a ys ∨ SqL K H a ys) ∧ R ys := ⟨p, xs, rfl, .inl (SqT.of hp), h⟩
end
end Tr
namespace Tr
open PySem PySem.Spec PyProof.Rows L2
section
variable {σ : L2.St} {H : Hp} {Q : VK} {K : PySem.W.Frag}
def LcGo (g : TG) (tt : TT) (te : TE) (vs : List Nat) (σ : L2.St) (Q : VK) (J : It) (H1 : Hp) : Prop := ∀ D, H1 D = none → ∃ W : Nat → Nat → Hp → Prop, (∃ m, W 0 m (upd H1 D (.lst []))) ∧ ∀ i m H, W i m H →
  (J.stop i H ∧ Q (.ref D) H) ∨ (J.go i H ∧ ∃ Nx : Hp → Prop, (∀ H', Nx H' → ∃ m', m' < m ∧ W (i + 1) m' H') ∧ ∀ x H', J.yld i H x H' → g x (wipe σ vs) H' fun σ2 H2 => wipe σ2 vs = wipe σ vs ∧ tt σ2 H2 fun b H3 =>
    if b = true then te σ2 H3 fun y H4 => ∃ acc, H4 D = some (.lst acc) ∧ acc.length < sizeLine ∧ Nx (upd H4 D (.lst (acc ++ [y]))) else Nx H3)
theorem s_lc {wi : TI} {g : TG} {tt : TT} {te : TE} {vs : List Nat} (h : wi σ H (LcGo g tt te vs σ Q)) : tLc wi g tt te vs σ H Q := h
def mList (K : PySem.W.Frag) (R : It → Hp → Prop) (x : V) (H1 : Hp) : Prop := ∃ a, x = .ref a ∧ (∃ xs, SqL K H1 a xs) ∧ R (Itl K a) H1
theorem s_ilist {tl : TE} {R : It → Hp → Prop} (h : tl σ H fun x H1 => mList K R x H1) : iList K tl σ H R := h
theorem s_lcM {α : Type} (ys : List α) (h : α → Option V) {p : Addr} {xs : List V} {g : TG} {tt : TT} {te : TE} {vs : List Nat} (hp : H p = some (.lst xs)) (hx : xs.length = ys.length) (hz : ys.length ≤ 100000)
    (hs : ∀ (i : Nat) (a : α) (x : V) (H2 : Hp) (R : VK) (R0 : Hp → Prop), ys[i]? = some a → xs[i]? = some x → Same H H2 → (∀ v, h a = some v → ∀ H4, Same H2 H4 → R v H4) → (h a = none → ∀ H3, Same H2 H3 → R0 H3) →
      g x (wipe σ vs) H2 fun σ2 H3 => wipe σ2 vs = wipe σ vs ∧ tt σ2 H3 fun b H4 => if b = true then te σ2 H4 R else R0 H4)
    (hd : ∀ D H', Same H H' → H D = none → H' D = some (.lst (ys.filterMap h)) → Q (.ref D) H') : mList K (LcGo g tt te vs σ Q) (.ref p) H := by
  refine ⟨p, rfl, ⟨xs, SqL.of hp⟩, fun D hD => ?_⟩
  refine lc_fm ys h (walk_list (xs := xs)) hx (sz_le hz) hD (fun H' s' => SqL.of (s' _ _ hp)) ?_ (fun H' s' hD' => hd D H' s' hD hD')
  rintro i b x H2 H' R R0 hb s2 ⟨rfl, hxx⟩ k1 k2
  exact hs i b x H' R R0 hb hxx s2 k1 k2
def ForGo (g : TG) (tb : TS) (D : Ends) (σ : L2.St) (J : It) (H1 : Hp) : Prop := ∃ W : Nat → Nat → L2.St → Hp → Prop, (∃ m, W 0 m σ H1) ∧ ∀ i m σ H, W i m σ H →
  (J.stop i H ∧ D.nx σ H) ∨ (J.go i H ∧ ∃ N : L2.St → Hp → Prop, (∀ σ' H', N σ' H' → ∃ m', m' < m ∧ W (i + 1) m' σ' H') ∧ ∀ x H', J.yld i H x H' → g x σ H' fun σ2 H2 => tb { D with nx := N, ct := N, bk := D.nx } σ2 H2)
theorem s_for {wi : TI} {g : TG} {tb : TS} {D : Ends} (h : wi σ H (ForGo g tb D σ)) : tFor wi g tb D σ H := h
theorem s_forL {p : Addr} {xs : List V} {g : TG} {tb : TS} {na : L2.St → Hp → Prop} {rt : VK} {bk ct : L2.St → Hp → Prop} (hp : H p = some (.lst xs)) (Pv : Nat → L2.St → Hp → Prop) (h0 : Pv 0 σ H)
    (hG : ∀ i σ H, i ≤ xs.length → Pv i σ H → H p = some (.lst xs))
    (hs : ∀ i x σ H, xs[i]? = some x → Pv i σ H → g x σ H fun σ2 H2 => tb ⟨Pv (i + 1), rt, na, Pv (i + 1)⟩ σ2 H2)
    (hd : ∀ σ H, Pv xs.length σ H → na σ H) : mList K (ForGo g tb ⟨na, rt, bk, ct⟩ σ) (.ref p) H :=
  ⟨p, rfl, ⟨xs, SqL.of hp⟩, for_list (K := K) (D := ⟨na, rt, bk, ct⟩) Pv h0 (fun i σ H hi pv => SqL.of (hG i σ H hi pv)) hs hd⟩
def mRng (R : It → Hp → Prop) (vs : List V) (H1 : Hp) : Prop := ∃ j : Int, vs = [.int j] ∧ -(2 ^ 62) ≤ j ∧ j < 2 ^ 62 ∧ R (Itr 0 j.toNat) H1
theorem s_irng {ta : TA} {R : It → Hp → Prop} (h : ta σ H fun vs H1 => mRng R vs H1) : iRng1 ta σ H R := h
theorem s_forR {n : Int} {g : TG} {tb : TS} {na : L2.St → Hp → Prop} {rt : VK} {bk ct : L2.St → Hp → Prop} (h0 : 0 ≤ n) (h1 : n ≤ 1000000) (Pv : Nat → L2.St → Hp → Prop) (p0 : Pv 0 σ H)
    (hs : ∀ (i : Nat) σ H, (i : Int) < n → Pv i σ H → g (.int (i : Int)) σ H fun σ2 H2 => tb ⟨Pv (i + 1), rt, na, Pv (i + 1)⟩ σ2 H2)
    (hd : ∀ σ H, Pv n.toNat σ H → na σ H) : mRng (ForGo g tb ⟨na, rt, bk, ct⟩ σ) [.int n] H := by
  refine ⟨n, rfl, by omega, by omega, for_range (lo := 0) (n := n.toNat) (D := ⟨na, rt, bk, ct⟩) Pv p0 (fun i σ H hi pv => ?_) hd⟩
  have e : (0 : Int) + (i : Int) = (i : Int) := Int.zero_add _
  rw [e]
  exact hs i σ H (by omega) pv
theorem s_lcR {n : Int} (h : Nat → Option V) {g : TG} {tt : TT} {te : TE} {vs : List Nat} (h0 : 0 ≤ n) (h1 : n ≤ 100000)
    (hs : ∀ (i : Nat) (H2 : Hp) (R : VK) (R0 : Hp → Prop), (i : Int) < n → Same H H2 → (∀ v, h i = some v → ∀ H4, Same H2 H4 → R v H4) → (h i = none → ∀ H3, Same H2 H3 → R0 H3) →
      g (.int (i : Int)) (wipe σ vs) H2 fun σ2 H3 => wipe σ2 vs = wipe σ vs ∧ tt σ2 H3 fun b H4 => if b = true then te σ2 H4 R else R0 H4)
    (hd : ∀ D H', Same H H' → H D = none → H' D = some (.lst ((List.range n.toNat).filterMap h)) → Q (.ref D) H') : mRng (LcGo g tt te vs σ Q) [.int n] H := by
  refine ⟨n, rfl, by omega, by omega, fun D hD => ?_⟩
  refine lc_fm (List.range n.toNat) h walk_range (by simp) (sz_le (by simp; omega)) hD (fun _ _ => trivial) ?_ (fun H' s' hD' => hd D H' s' hD hD')
  rintro i b x H2 H' R R0 hb s2 ⟨rfl, rfl⟩ k1 k2
  have hi : i < n.toNat := by
    have := (List.getElem?_eq_some_iff.mp hb).1
    simpa using this
  have eb : b = i := by
    have := (List.getElem?_eq_some_iff.mp hb).2
    simpa using this.symm
  subst eb
  have e : (0 : Int) + (b : Int) = (b : Int) := Int.zero_add _
  show g (V.int (0 + (b : Int))) (wipe σ vs) H' _
  rw [e]
  exact hs b H' R R0 (by omega) s2 k1 k2
end
theorem fm_some {α : Type} (f : α → V) : ∀ l : List α, l.filterMap (fun x => some (f x)) = l.map f
  | [] => rfl
  | x :: l => by simp [fm_some f l]
theorem s_any {H : Hp} {Q : VK} {p : Addr} {bs : List Bool} (hp : H p = some (.lst (bs.map V.bl))) (q : Q (.bl (bs.any id)) H) : rAnyU [.ref p] H Q := by
  simp only [rAnyU, hp]
  exact ⟨bs, rfl, q⟩
theorem s_all {H : Hp} {Q : VK} {p : Addr} {bs : List Bool} (hp : H p = some (.lst (bs.map V.bl))) (q : Q (.bl (bs.all id)) H) : rAllU [.ref p] H Q := by
  simp only [rAllU, hp]
  exact ⟨bs, rfl, q⟩
end Tr
set_option maxHeartbeats 1000000
namespace Tr
open PySem PySem.Spec PyProof.Rows L2
section
variable {σ : L2.St} {H : Hp} {Q : VK} {K : PySem.W.Frag}
/-- all that is no list stays -/
def KeepN (H H' : Hp) : Prop := ∀ x o, H x = some o → (∀ l, o ≠ .lst l) → H' x = some o
theorem KeepN.same {H H' : Hp} (s : Same H H') : KeepN H H' := fun x o h _ => s _ _ h
theorem KeepN.mut {H : Hp} {p : Addr} {l : List V} {o : HO} (hp : H p = some (.lst l)) : KeepN H (upd H p o) := fun x o' h hn => by
  rw [upd_ne (by rintro rfl; rw [hp] at h; exact hn l (Option.some.inj h).symm)]
  exact h
theorem KeepN.trans {H H' H'' : Hp} (a : KeepN H H') (b : KeepN H' H'') : KeepN H H'' := fun x o h hn => b _ _ (a _ _ h hn) hn
theorem s_lcE {α : Type} (ys : List α) (E : α → V → Hp → Prop) (hE : ∀ b v H H', E b v H → KeepN H H' → E b v H') {p : Addr} {xs : List V} {g : TG} {te : TE} {vs : List Nat} (hp : H p = some (.lst xs)) (hx : xs.length = ys.length) (hz : ys.length ≤ 100000)
    (hs : ∀ (i : Nat) (b : α) (x : V) (H2 : Hp) (R : VK), ys[i]? = some b → xs[i]? = some x → Same H H2 → (∀ v H4, Same H2 H4 → E b v H4 → R v H4) →
      g x (wipe σ vs) H2 fun σ2 H3 => wipe σ2 vs = wipe σ vs ∧ te σ2 H3 R)
    (hd : ∀ D us H', Same H H' → H D = none → H' D = some (.lst us) → us.length = ys.length → (∀ (i : Nat) (b : α) (v : V), ys[i]? = some b → us[i]? = some v → E b v H') → Q (.ref D) H') : mList K (LcGo g tYes te vs σ Q) (.ref p) H := by
  refine ⟨p, rfl, ⟨xs, SqL.of hp⟩, fun D hD => ?_⟩
  refine lc_it (walk_list (xs := xs)) (fun i H' => Same H H' ∧ ∃ us, H' D = some (.lst us) ∧ us.length = i ∧ ∀ (j : Nat) (b : α) (v : V), ys[j]? = some b → us[j]? = some v → E b v H') ⟨Same.new hD, [], upd_same, rfl, fun j b v _ h => by simp at h⟩ (fun i H' _ pv => SqL.of (pv.1 _ _ hp)) ?_ ?_
  · rintro i x H2 H' hi ⟨s2, us, hD2, hl, he⟩ ⟨rfl, hxx⟩
    obtain ⟨b, hb⟩ : ∃ b, ys[i]? = some b := ⟨_, List.getElem?_eq_getElem (by rw [← hx]; exact hi)⟩
    have := hs i b x H' (fun y H4 => ∃ acc, H4 D = some (.lst acc) ∧ acc.length < sizeLine ∧ (Same H (upd H4 D (.lst (acc ++ [y]))) ∧ ∃ us, upd H4 D (.lst (acc ++ [y])) D = some (.lst us) ∧ us.length = i + 1 ∧ ∀ (j : Nat) (b : α) (v : V), ys[j]? = some b → us[j]? = some v → E b v (upd H4 D (.lst (acc ++ [y]))))) hb hxx s2 ?_
    · have e : ∀ (a b : L2.St → Hp → Prop), (∀ σ H, a σ H = b σ H) → a = b := fun a b h => by funext σ H; exact h σ H
      have e2 : (fun σ2 H3 => wipe σ2 vs = wipe σ vs ∧ te σ2 H3 (fun y H4 => ∃ acc, H4 D = some (.lst acc) ∧ acc.length < sizeLine ∧ (Same H (upd H4 D (.lst (acc ++ [y]))) ∧ ∃ us, upd H4 D (.lst (acc ++ [y])) D = some (.lst us) ∧ us.length = i + 1 ∧ ∀ (j : Nat) (b : α) (v : V), ys[j]? = some b → us[j]? = some v → E b v (upd H4 D (.lst (acc ++ [y])))))) =
        (fun σ2 H3 => wipe σ2 vs = wipe σ vs ∧ tYes σ2 H3 fun b' H3 => if b' = true then te σ2 H3 (fun y H4 => ∃ acc, H4 D = some (.lst acc) ∧ acc.length < sizeLine ∧ (Same H (upd H4 D (.lst (acc ++ [y]))) ∧ ∃ us, upd H4 D (.lst (acc ++ [y])) D = some (.lst us) ∧ us.length = i + 1 ∧ ∀ (j : Nat) (b : α) (v : V), ys[j]? = some b → us[j]? = some v → E b v (upd H4 D (.lst (acc ++ [y]))))) else (Same H H3 ∧ ∃ us, H3 D = some (.lst us) ∧ us.length = i + 1 ∧ ∀ (j : Nat) (b : α) (v : V), ys[j]? = some b → us[j]? = some v → E b v H3)) := rfl
      rw [e2] at this
      exact this
    · intro v H4 s4 hv
      have hD4 := s4 _ _ hD2
      have k4 : KeepN H4 (upd H4 D (.lst (us ++ [v]))) := KeepN.mut hD4
      refine ⟨us, hD4, by rw [hl]; exact sz_lt (by omega), Same.mut (s2.trans s4) hD, us ++ [v], upd_same, by rw [List.length_append, hl]; rfl, fun j c u hc hu => ?_⟩
      by_cases hj : j < us.length
      · rw [List.getElem?_append_left hj] at hu
        exact hE _ _ _ _ (hE _ _ _ _ (he j c u hc hu) (KeepN.same s4)) k4
      · have hji : j = i := by
          have := (List.getElem?_eq_some_iff.mp hu).1
          simp at this
          omega
        subst hji
        rw [hb] at hc
        cases hc
        rw [← hl] at hu
        simp at hu
        subst hu
        exact hE _ _ _ _ hv k4
  · rintro H' ⟨s', us, h1, h2, h3⟩
    exact hd D us H' s' hD h1 (by rw [h2, hx]) h3
end
theorem s_dnewK {σ : L2.St} {H : Hp} {Q : VK} (h : ∀ p, H p = none → Q (.ref p) (upd H p (.dK []))) : tDNewK σ H Q := h
theorem nodup_ix {ad : List Addr} (nd : ad.Nodup) {i j : Nat} (hi : i < ad.length) (hj : j < ad.length) (e : ad[i] = ad[j]) : i = j := by
  rw [List.nodup_iff_pairwise_ne, List.pairwise_iff_getElem] at nd
  rcases Nat.lt_trichotomy i j with h | h | h
  · exact absurd e (nd i j hi hj h)
  · exact h
  · exact absurd e.symm (nd j i hj hi h)
def HasAll (H : Hp) (ad : List Addr) (os : List HO) : Prop := ad.length = os.length ∧ ∀ (i : Nat) (y : Addr) (o : HO), ad[i]? = some y → os[i]? = some o → H y = some o
theorem HasAll.at {H : Hp} {ad : List Addr} {os : List HO} (h : HasAll H ad os) (i : Nat) {y : Addr} {o : HO} (h1 : ad[i]? = some y) (h2 : os[i]? = some o) : H y = some o := h.2 i y o h1 h2
theorem HasAll.put {H : Hp} {ad : List Addr} {os : List HO} (h : HasAll H ad os) (nd : ad.Nodup) {j : Nat} {y : Addr} {o : HO} (hj : ad[j]? = some y) : HasAll (upd H y o) ad (os.set j o) := by
  refine ⟨by rw [List.length_set]; exact h.1, fun i z u h1 h2 => ?_⟩
  obtain ⟨hi, hi2⟩ := List.getElem?_eq_some_iff.mp h1
  obtain ⟨hj1, hj2⟩ := List.getElem?_eq_some_iff.mp hj
  by_cases e : i = j
  · subst e
    rw [hj] at h1
    cases h1
    rw [List.getElem?_set_self (by rw [← h.1]; exact hi)] at h2
    cases h2
    exact upd_same
  · rw [List.getElem?_set_ne (Ne.symm e)] at h2
    rw [upd_ne]
    · exact h.2 i z u h1 h2
    · rintro rfl
      exact e (nodup_ix nd hi hj1 (by rw [hi2, hj2]))
theorem HasAll.keep {H H' : Hp} {ad : List Addr} {os : List HO} (h : HasAll H ad os) (f : ∀ x o, H x = some o → x ∈ ad → H' x = some o) : HasAll H' ad os := ⟨h.1, fun i y o h1 h2 => f _ _ (h.2 i y o h1 h2) (List.mem_of_getElem? h1)⟩
/-- tuples stay -/
def KeepT (H H' : Hp) : Prop := ∀ x vs, H x = some (.tup vs) → H' x = some (.tup vs)
theorem KeepT.same {H H' : Hp} (s : Same H H') : KeepT H H' := fun x vs h => s _ _ h
theorem KeepT.trans {H H' H'' : Hp} (a : KeepT H H') (b : KeepT H' H'') : KeepT H H'' := fun x vs h => b _ _ (a _ _ h)
theorem KeepT.upd {H : Hp} {y : Addr} {o o' : HO} (h : H y = some o) (hn : ∀ vs, o ≠ .tup vs) : KeepT H (upd H y o') := fun x vs hx => by
  rw [upd_ne (by rintro rfl; rw [h] at hx; exact hn vs (Option.some.inj hx))]
  exact hx
/-- tuples with these items -/
def TupsAt (H : Hp) (xs : List Addr) (ys : List (List V)) : Prop := xs.length = ys.length ∧ ∀ (i : Nat) (x : Addr) (y : List V), xs[i]? = some x → ys[i]? = some y → H x = some (.tup y)
theorem TupsAt.keep {H H' : Hp} {xs : List Addr} {ys : List (List V)} (h : TupsAt H xs ys) (k : KeepT H H') : TupsAt H' xs ys := ⟨h.1, fun i x y h1 h2 => k _ _ (h.2 i x y h1 h2)⟩
theorem TupsAt.snoc {H : Hp} {xs : List Addr} {ys : List (List V)} (h : TupsAt H xs ys) {x : Addr} {y : List V} (hx : H x = some (.tup y)) : TupsAt H (xs ++ [x]) (ys ++ [y]) := by
  refine ⟨by rw [List.length_append, List.length_append, h.1]; rfl, fun i z u h1 h2 => ?_⟩
  by_cases hi : i < xs.length
  · rw [List.getElem?_append_left hi] at h1
    rw [List.getElem?_append_left (by rw [← h.1]; exact hi)] at h2
    exact h.2 i z u h1 h2
  · have e : i = xs.length := by
      have := (List.getElem?_eq_some_iff.mp h1).1
      simp at this
      omega
    subst e
    rw [h.1] at h2
    simp at h1 h2
    subst h1 h2
    exact hx
end Tr
set_option maxHeartbeats 1000000
namespace SrtO
open PySem PyProof.Rows Srt
section
variable {prog : Program} {w : World} {A : Around} {E : Value → Shared → Prop} {s : Shared}
def sv : Value → PySem.Str
  | .str i _ => i
  | _ => ⟨#[]⟩
def ltSv (v u : Value) : Bool := decide ((sv v).cps.toList < (sv u).cps.toList)
theorem swo_str : Swo ltSv := by
  refine ⟨fun x y h => ?_, fun x y z h1 h2 => ?_⟩
  · have a := of_decide_eq_true (p := (sv x).cps.toList < (sv y).cps.toList) h
    exact decide_eq_false (p := (sv y).cps.toList < (sv x).cps.toList) fun b => List.lt_irrefl _ (List.lt_trans a b)
  · have a := of_decide_eq_false (p := (sv y).cps.toList < (sv x).cps.toList) h1
    have b := of_decide_eq_false (p := (sv z).cps.toList < (sv y).cps.toList) h2
    refine decide_eq_false (p := (sv z).cps.toList < (sv x).cps.toList) fun c => ?_
    have a' : (sv x).cps.toList ≤ (sv y).cps.toList := List.not_lt.mp a
    have b' : (sv y).cps.toList ≤ (sv z).cps.toList := List.not_lt.mp b
    exact List.not_lt.mpr (List.le_trans a' b') c
theorem strs_mem : ∀ {vs : List Value} {ns : List PySem.Str}, StrsAre vs ns → ∀ v ∈ vs, ∃ i t, v = Value.str i t
  | _, _, .nil, v, h => absurd h (by simp)
  | _, _, .cons n t r, v, h => by
    rcases List.mem_cons.mp h with e | h
    · exact ⟨n, t, e⟩
    · exact strs_mem r v h
theorem strs_sv : ∀ {vs : List Value}, (∀ v ∈ vs, ∃ i t, v = Value.str i t) → StrsAre vs (vs.map sv)
  | [], _ => .nil
  | v :: vs, h => by
    obtain ⟨i, t, e⟩ := h v List.mem_cons_self
    subst e
    exact .cons i t (strs_sv fun u hu => h u (List.mem_cons_of_mem _ hu))
theorem sv_strs : ∀ {vs : List Value} {ns : List PySem.Str}, StrsAre vs ns → vs.map sv = ns
  | _, _, .nil => rfl
  | _, _, .cons n t r => congrArg (n :: ·) (sv_strs r)
theorem str_cmp {vs : List Value} {ns : List PySem.Str} (hI : StrsAre vs ns) : Cmp prog w A s oneType' (fun p => p.1 ∈ vs) (lt2 ltSv) := by
  intro p q hm hm'
  obtain ⟨a, t, e⟩ := strs_mem hI _ hm
  obtain ⟨b, u, e'⟩ := strs_mem hI _ hm'
  show wpAny (model prog w) A (keyLt' oneType' p.1 q.1) (fun r s' => s' = s ∧ r = ltSv p.1 q.1) (fun _ _ => False) s
  rw [e, e', keyLt'_oneType]
  exact oneLt_str ⟨rfl, rfl⟩
theorem strs_sortable {a : Addr} {vs : List Value} {ns : List PySem.Str} (hI : StrsAre vs ns) (h2 : 2 ≤ vs.length) : SortableO prog w A s a vs ltSv := by
  intro h' _
  refine ⟨oneType', fun Q E hq => ?_, str_cmp hI⟩
  match vs, hI, h2 with
  | v1 :: v2 :: rest, hI, _ =>
    rw [keyKind_strs hI]
    exact wpAny_pure hq
  | [], _, h => exact absurd h (by decide)
  | [v], _, h => exact absurd h (by simp)
theorem strs_out {vs out : List Value} {ns : List PySem.Str} (hI : StrsAre vs ns) (hs : Srtd ltSv out) (hb : Stb ltSv out vs) : StrsAre out (out.map sv) ∧ (out.map sv).Perm ns ∧ (out.map sv).Pairwise (fun x y => x.cps.toList ≤ y.cps.toList) := by
  refine ⟨strs_sv fun v hv => strs_mem hI v (hb.perm.mem_iff.mp hv), ?_, ?_⟩
  · have q := hb.perm.map sv
    rw [sv_strs hI] at q
    exact q
  · exact List.pairwise_map.mpr (hs.imp fun {x y} h => List.not_lt.mp (of_decide_eq_false (p := (sv y).cps.toList < (sv x).cps.toList) h))
end
end SrtO
namespace L2
open PySem PySem.Spec PyProof.Rows
/-- sorted(xs), texts, any number of them -/
def rSortedA (K : PySem.W.Frag) : List V → Hp → VK → Prop := fun vs H Q => ∃ (a : Addr) (ns : List Str), vs = [V.ref a] ∧ SqL K H a (ns.map V.str) ∧
  ∀ (ns' : List Str) (p : Addr), ns'.Perm ns → ns'.Pairwise (fun x y => x.cps.toList ≤ y.cps.toList) → H p = none → Q (.ref p) (upd H p (.lst (ns'.map V.str)))
section
variable {X : Cx}
theorem cr_sortedA : CallR X (.builtin "sorted") (rSortedA X.K) := by
  intro pins s σ H vs us Q I r h
  obtain ⟨a, ns, rfl, hs, q⟩ := h
  obtain ⟨its, rv, hl, hz⟩ := I.list hs
  rw [Vals.ref1 r]
  have hi := rv.strs
  refine SrtO.sorted_ord SrtO.swo_str hl.isList (by rw [← rv.length]; exact hz) (fun h2 h₁ a' _ _ => SrtO.strs_sortable hi h2) fun out h1 h2 => ?_
  obtain ⟨k1, k2, k3⟩ := SrtO.strs_out hi h1 h2
  obtain ⟨ep, he'⟩ := PyProof.Rows.sortedAll_at s.heap its out.toArray
  have hlen : ((out.map SrtO.sv).map V.str).length ≤ sizeLine := by
    rw [List.length_map, k2.length_eq]
    rw [List.length_map] at hz
    exact hz
  exact ⟨.ref _, upd H (s.heap.objs.size + 1) (.lst ((out.map SrtO.sv).map V.str)), I.laid (t' := s.toks) (fun _ _ => PyProof.Rows.sortedAll_old) (Nat.le_succ _) ⟨hlen, out, ep, vals_of_strs k1, he'⟩, rfl, q _ _ k2 k3 (I.hok.fresh (Nat.le_succ _))⟩
end
end L2
set_option maxHeartbeats 1000000
namespace L2
open PySem PySem.Spec PyProof.Rows
section
variable {X : Cx} {o e : Expr} {es : List Expr} {to te : TE} {ta : TA} {f : Str} {p p' p1 p2 pos : Pos}
/-- B.__init__(self, ..), B an own class over ValueError without own __init__ -/
theorem pe_ownInit {pl : Sem Bool} {x : Str} {B : Addr} (hg : Gl X x) (hm : X.mg x = some (.ref B)) (r : ClX.CRead X.K B (.type "type")) (vV : PySem.W.findCls X.K (.ref B) (.type "type") "__init__" = some (.val (.builtin "ValueError.__init__"))) (ha : PA X (e :: es) ta)
    (hdb : (x == ("__debug__" : Str)) = false := by decide)
    (hc : eval (.Call (.Attribute (.Name x p1) "__init__" p2) (e :: es) [] pos) X.env = (do
      let ov ← eval (.Name x p1) X.env
      standAt p2.atName
      let (f, first) ← holding [ov] (getMethod ov "__init__" pl)
      callWith pos f first (backTo pos (starEach (e :: es) X.env)) (backToKw pos (keywordEach [] X.env))) := by rfl)
    (he : starEach (e :: es) X.env = (false, eval e X.env) :: starEach es X.env := by rfl) (hpl : (backTo pos (starEach es X.env)).any (·.1) = false := by rfl) :
    PE X (.Call (.Attribute (.Name x p1) "__init__" p2) (e :: es) [] pos) (tVeI X.K ta) := by
  refine ⟨fun pins s σ H Q I h => ?_⟩
  refine PySem.W.methodCall_KW (ld_glob I hg hm ?_ hdb) hc
  refine PySem.W.method_cls I.kIn r.ga (PySem.W.cls_value I.kIn r.rd vV (by decide +kernel) ?_)
  show wpAny _ _ (callWith pos (Value.builtin "ValueError.__init__") [] (backTo pos (starEach (e :: es) X.env)) []) _ _ _
  refine PyProof.Rows.callWith_method1 (thn (ha.run pos pins _ σ H _ (I.tok _) h) fun us s1 ⟨vs, H1, I1, r1, a, C, ws, ev, hl, T, ea, q⟩ => ?_) he hpl
  subst ev
  cases r1 with
  | @cons _ u0 _ ur ra rw' =>
    obtain rfl : u0 = Value.ref a := ra
    have hlen : ur.length ≤ sizeLine := by
      rw [← Paired.length rw', sizeLine_eq]
      omega
    exact oinit_ok T I1 ea hlen fun s' J => ⟨.non, H1, J, rfl, q⟩
end
/-- at a: an exception of the class cls, its dict d -/
def xo (a : Addr) (cls : Value) (d : Option Addr) : HO := .ext fun h => ∃ oe vs, h.get? a = some oe ∧ Zc cls d oe ∧ oe.data = .fields vs
theorem xo_own {e x : Addr} {c : Value} {d : Option Addr} : xo e c d ≠ .own x := fun z => by
  have z' : HO.ext _ = HO.own x := z
  cases z'
theorem xo_lst {e : Addr} {c : Value} {d : Option Addr} {l : List V} : xo e c d ≠ .lst l := fun z => by
  have z' : HO.ext _ = HO.lst l := z
  cases z'
theorem xo_ok {P : Program} {w : World} {H : Hp} {h : Heap} {a : Addr} {cls : Value} {d : Option Addr} {oe : Obj} {vs : Array Value} (he : h.get? a = some oe) (hz : Zc cls d oe) (hd : oe.data = .fields vs) : ObjOk P w H h a (xo a cls d) :=
  ⟨⟨oe, vs, he, hz, hd⟩, ⟨_, he⟩, fun h1 h2 z k => by
    obtain ⟨o, u, q1, q2, q3⟩ := z
    exact ⟨o, u, k _ q1, q2, q3⟩⟩
theorem xo_at {P : Program} {w : World} {H : Hp} {h : Heap} {a : Addr} {cls : Value} {d : Option Addr} (hok : HOk P w H h) (he : H a = some (xo a cls d)) : ∃ oe vs, h.get? a = some oe ∧ Zc cls d oe ∧ oe.data = .fields vs := by
  have x : ObjOk P w H h a (.ext fun h => ∃ oe vs, h.get? a = some oe ∧ Zc cls d oe ∧ oe.data = .fields vs) := hok a _ he
  exact x.1
section
variable {X : Cx} {pins : List (Addr × Obj)} {σ : St} {H : Hp} {s : Shared}
theorem Inv.track {a : Addr} {oe : Obj} {cls : Value} {d : Option Addr} {vs : Array Value} (I : Inv X ((a, oe) :: pins) σ H s) (hz : Zc cls d oe) (hd : oe.data = .fields vs) (n0 : X.s_0.heap.get? a = none) (np : ∀ p ∈ X.pn ++ pins, p.1 ≠ a) :
    Inv X pins σ (upd H a (xo a cls d)) s := by
  obtain ⟨ha, hn, nL, nF, _⟩ := I.pin (a, oe) (List.mem_append_right _ List.mem_cons_self)
  have ha' : s.heap.get? a = some oe := ha
  have hn' : H a = none := hn
  have ne : ∀ {b : Addr} {u : HO}, H b = some u → b ≠ a := fun {b u} q z => by
    rw [z, hn'] at q
    cases q
  refine ⟨I.ok, I.os, I.bare, ⟨I.base.keep, I.base.slot, fun b o q n hx => ?_, I.base.there, fun b xs q => ?_, fun b o u q => ?_, fun b ps q => ?_⟩, I.loc, I.cell, ?_, fun x c e => ?_, fun p hp => ?_, fun b o q => ?_, I.len⟩
  · rw [upd_ne (by rintro rfl; rw [n0] at q; cases q)]
    exact I.base.free b o q n hx
  · have := I.base.tups b xs q
    rw [upd_ne (ne this)]
    exact this
  · have := I.base.frzs b o u q
    rw [upd_ne (ne this)]
    exact this
  · obtain ⟨more, this⟩ := I.base.tbls b ps q
    exact ⟨more, by rw [upd_ne (ne this)]; exact this⟩
  · rw [upd_ne (Ne.symm nL)]
    exact I.free
  · have hca : c ≠ a := by
      rintro rfl
      obtain ⟨v, oc, h1, h2⟩ := I.cell x c e
      rw [ha'] at h1
      cases h1
      rw [hd] at h2
      first | cases h2 | (cases h2.1) | (cases h2.2)
    rw [upd_ne hca]
    exact I.freeC x c e
  · have hp' : p ∈ X.pn ++ ((a, oe) :: pins) := by
      rcases List.mem_append.mp hp with h | h
      · exact List.mem_append_left _ h
      · exact List.mem_append_right _ (List.mem_cons_of_mem _ h)
    obtain ⟨q1, q2, q3⟩ := I.pin p hp'
    exact ⟨q1, by rw [upd_ne (np p hp)]; exact q2, q3⟩
  · by_cases hb : b = a
    · subst hb
      rw [upd_same] at q
      cases q
      exact xo_ok ha' hz hd
    · rw [upd_ne hb] at q
      exact (I.hok b o q).stay (fun c v hc z => z) (fun c hc => by rw [upd_ne (ne hc)]; exact hc) (fun c xs hc => by rw [upd_ne (ne hc)]; exact hc)
end
/-- what the clause 'except x as n' wishes of the one kind of exception that the body lets out: caught, bound to slot i, kept at its place -/
def wKeep (K : PySem.W.Frag) (c : Value) (i : Nat) (ts : Addr → Value → Option Addr → TS) (D : Ends) : WX := fun cls d σ H =>
  PySem.W.exmOne K cls c = some true ∧ ∀ a, H a = none → ts a cls d ⟨fun σ' H' => D.nx (σ'.set i none) (upd H' a (xo a cls d)), fun _ _ => False, fun _ _ => False, fun _ _ => False⟩ (σ.set i (some (.ref a))) H
section
variable {X : Cx} {x n : Str} {c : Value} {i : Nat} {body suite : List Stmt} {b₀ : Stmt} {np pos pos' : Pos} {tb : WX → TS} {ts : Addr → Value → Option Addr → TS}
/-- what the body of a try leaves is what the try leaves -/
theorem SP.ofTry {pins : List (Addr × Obj)} {xe : Value → Shared → Prop} {D : Ends} (ok : X.Ok) : ∀ {f : Flow} {s1 : Shared}, SP (X.tr (X.pn ++ pins) xe) [] D f s1 → SP X pins D f s1
  | .next, _, ⟨σ', H', J, q⟩ => ⟨σ', H', J.ofTry ok, q⟩
  | .brk, _, ⟨σ', H', J, q⟩ => ⟨σ', H', J.ofTry ok, q⟩
  | .cont, _, ⟨σ', H', J, q⟩ => ⟨σ', H', J.ofTry ok, q⟩
  | .ret _, _, ⟨v, σ', H', J, r, q⟩ => ⟨v, σ', H', J.ofTry ok, r, q⟩
/-- the suite of the clause, begun with the exception landed at a; behind it the exception is tracked -/
theorem suite_keep {pins : List (Addr × Obj)} {σ : St} {H : Hp} {s : Shared} {D : Ends} {a : Addr} {oe : Obj} {vs : Array Value} {cls : Value} {d : Option Addr} (ok : X.Ok) (hN : X.N.Nodup) (hi : X.N[i]? = some n) (hln : X.env.kindOf n = some .local)
    (hsu : PSs (X.suite a ((a, oe) :: (X.pn ++ pins))) (b₀ :: suite) (ts a cls d)) (S : Inv (X.suite a ((a, oe) :: (X.pn ++ pins))) [] (σ.set i (some (.ref a))) H s) (hz : Zc cls d oe) (hd : oe.data = .fields vs) (n0 : X.s_0.heap.get? a = none) (np' : ∀ p ∈ X.pn ++ pins, p.1 ≠ a)
    (h : ts a cls d ⟨fun σ' H' => D.nx (σ'.set i none) (upd H' a (xo a cls d)), fun _ _ => False, fun _ _ => False, fun _ _ => False⟩ (σ.set i (some (.ref a))) H) :
    wpAny (model X.prog X.w) (X.A.mark (some (.ref a))) (execs (b₀ :: suite) X.env) (fun f s6 => wpAny (model X.prog X.w) X.A (do bindName X.env n .none; unbindBehindTheSuite X.env n pos') (fun _ s7 => SP X pins D f s7) X.xe s6) (fun _ _ => False) s := by
  refine wpAny_mono (hsu.run [] s _ H _ S h) (fun f s6 hsp => ?_) (fun _ _ z => z)
  match f, hsp with
  | .next, ⟨σ6, H6, S6, q6⟩ =>
    have P6 : Inv X ((a, oe) :: pins) σ6 H6 s6 := (S6.unsuite ok).pins_of fun p hp => S6.pin p (List.mem_append_left _ (by
      rcases List.mem_cons.mp hp with e | e
      · rw [e]; exact List.mem_cons_self
      · exact List.mem_cons_of_mem _ (List.mem_append_right _ e)))
    exact gone_ok P6 hN hi hln fun s7 I7 => ⟨_, _, I7.track hz hd n0 np', q6⟩
  | .brk, ⟨_, _, _, q6⟩ => exact q6.elim
  | .cont, ⟨_, _, _, q6⟩ => exact q6.elim
  | .ret _, ⟨_, _, _, _, _, q6⟩ => exact q6.elim
/-- try: body, except x as n: suite, where every exception of the body is caught -/
theorem ps_try_keep (hs : X.stack = X.env :: X.outer) (hf : X.env.frame = some X.env.locals) (hN : X.N.Nodup) (hi : X.N[i]? = some n) (hln : X.env.kindOf n = some .local) (hc : Names X x c) (hex : X.ex = [])
    (hb : ∀ (W : WX) (pn : List (Addr × Obj)) (xe : Value → Shared → Prop), Takes (X.tr pn xe) W → PassesOwn (model X.prog X.w) X.A X.env xe → PSs (X.tr pn xe) body (tb W))
    (hsu : ∀ (a : Addr) (oe : Obj) (cls : Value) (d : Option Addr) (pn : List (Addr × Obj)), Zc cls d oe → (∃ vs, oe.data = .fields vs) → PSs (X.suite a ((a, oe) :: pn)) (b₀ :: suite) (ts a cls d)) :
    PS X (.Try body [.ExceptHandler (some (.Name x np)) (some n) (b₀ :: suite) pos'] [] [] pos) (fun D σ H => tb (wKeep X.K c i ts D) D σ H) := by
  refine ⟨fun pins s σ H D I h => wpAny_Try_except ?_⟩
  have ok := I.ok
  have body := hb (wKeep X.K c i ts D) (X.pn ++ pins) (fun e s₁ => wpAny (model X.prog X.w) X.A (noteFrame e X.env) (fun _ s₂ => wpAny (model X.prog X.w) X.A (setFlight e none) (fun _ s₃ =>
    wpAny (model X.prog X.w) X.A (handleBy e X.env [.ExceptHandler (some (.Name x np)) (some n) (b₀ :: suite) pos']) (SP X pins D) X.xe s₃) X.xe s₂) X.xe s₁)
  refine wpAny_mono ((body ?_ PassesOwn.looking).run [] s σ H D (I.toTry _) h) ?_ (fun e s1 he => he)
  · rintro u s' ⟨a, B, sI, pins', σ', H', cls, d, rfl, J', nb, up, sky, na, os, ag, hyes, hts⟩
    have J : Inv X pins σ' H' sI := J'.ofTry ok
    rw [hs] at sky
    refine Sky.land Zc.steady (by rw [ok.frames, hs]) hf sky fun h3 fl up3 => ?_
    obtain ⟨oe, vs, he, hz, hd⟩ := fl.there
    have nfr : a ∉ frs (X.env :: X.outer) := fun hm => by
      obtain ⟨_, o, e1, e2⟩ := fl.2.2.1.mem hm
      rw [he] at e1
      cases e1
      exact e2 _ hd
    have nL : a ≠ X.env.locals := fun z => nfr (List.mem_filterMap.mpr ⟨X.env, List.mem_cons_self, by rw [hf, z]⟩)
    have nF : a ∉ X.fs := fun hm => let ⟨e, g1, g2⟩ := List.mem_filterMap.mp hm; nfr (List.mem_filterMap.mpr ⟨e, List.mem_cons_of_mem _ g1, g2⟩)
    have noI : sI.heap.get? a = none := by
      cases q : sI.heap.get? a with
      | none => rfl
      | some o => exact absurd ((nb a o q (by rw [hs]; exact nfr)).symm.trans fl.2.1) (by simp)
    have n0 : X.s_0.heap.get? a = none := by
      cases q : X.s_0.heap.get? a with
      | none => rfl
      | some o =>
        obtain ⟨o', e'⟩ := J.base.there a o q (by rw [hex]; simp)
        rw [noI] at e'
        cases e'
    have npn : ∀ p ∈ X.pn ++ pins, p.1 ≠ a := fun p hp z => by
      have := (J.pin p hp).1
      rw [z, noI] at this
      cases this
    have J3 : Inv X pins σ' H' { s' with heap := h3 } := J.landed nb fl.1 (up.trans up3) os ag
    refine wpAny_handleBy_cons (codeAny_handlers_test ?_) (by intro q; cases q)
    have L := PySem.W.exm_one (M := model X.prog X.w) J3.kIn (fun A Q E s k q => wpAny_typeOf_ref (k _ _ he) (by rw [hz.1]; exact q)) hyes
    have named : ∀ {Q : Value → Shared → Prop} {E : Value → Shared → Prop}, Q c { s' with heap := h3 } → wpAny (model X.prog X.w) (X.A.mark (some (.ref a))) (eval (.Name x np) X.env) Q E { s' with heap := h3 } := fun q => by
      have S := J3.suite he hd na nL nF
      obtain ⟨hg, hdbg, hm | ⟨hm, hv, hnn⟩⟩ := hc
      · exact ld_glob (X := X.suite a ((a, oe) :: (X.pn ++ pins))) S hg hm q hdbg
      · exact ld_blt (X := X.suite a ((a, oe) :: (X.pn ++ pins))) S hg hm hv q hnn hdbg
    refine named (L.here (codeAny_handlers_suite_as (HandSPX.lands_againZ fl fun h4 fl4 up4 => ?_)))
    obtain ⟨oe4, vs4, he4, hz4, hd4⟩ := fl4.there
    have J4 : Inv X pins σ' H' { s' with heap := h4 } := J.landed nb fl4.1 ((up.trans up3).trans up4) os ag
    refine store_ok (X := X.suite a ((a, oe4) :: (X.pn ++ pins))) (v := .ref a) (J4.suite he4 hd4 na nL nF) hN hi (.inl hln) rfl (fun s5 S5 => ?_) (.inr hln)
    exact wpAny_mono (suite_keep ok hN hi hln (hsu a oe4 cls d _ hz4 ⟨_, hd4⟩) S5 hz4 hd4 n0 npn (hts a na)) (fun _ _ z => z) fun _ _ z => z.elim
  · intro f s1 hsp
    have q := SP.ofTry ok hsp
    cases f with
    | next => exact wpAny_execs_nil q
    | brk => exact q
    | cont => exact q
    | ret u => exact q
/-- err.f, err a caught exception that stays at its place -/
def tXo (K : PySem.W.Frag) (f : Str) (te : TE) : TE := fun σ H Q => te σ H fun x H1 => ∃ (a C dd : Addr) (fs : List (Str × V)) (v : V), x = .ref a ∧ H1 a = some (xo a (.ref C) (some dd)) ∧ XfC K C ∧ PySem.W.findIn K (.ref C) f = some none ∧ H1 dd = some (.xd fs) ∧ fs.lookup f = some v ∧ Q v H1
theorem pe_xo {e : Expr} {te : TE} {pos : Pos} {f : Str} (he : PE X e te) (hb : attributeBase e f X.env (eval e X.env) = eval e X.env := by rfl) : PE X (.Attribute e f pos) (tXo X.K f te) := by
  refine ⟨fun pins s σ H Q I h => ?_⟩
  refine attr_of hb (thn (he.run pins s σ H _ I h) fun u s1 hh => ?_)
  obtain ⟨x, H1, I1, rx, a, C, dd, fs, v, ex, ea, T, hno, ed, l, q⟩ := hh
  subst ex
  obtain rfl : u = Value.ref a := rx
  obtain ⟨oe, vs, ha, hz, hd⟩ := xo_at I1.hok ea
  have hx : ObjOk X.prog X.w H1 s1.heap dd (.xd fs) := I1.hok dd _ ed
  obtain ⟨mA, hns, hr⟩ := hx
  obtain ⟨od, ho, hl⟩ := lookIn_ns hns
  obtain ⟨u, hu, ru⟩ := RelO.some_of (v := v) (o := mA f) (by rw [← l]; exact hr f)
  have J : PySem.W.InstAt s1.heap a oe C (some od) := ⟨ha, hz.1, by unfold PySem.W.notCls; rw [hd] <;> rfl, by rw [hz.2]; exact ho⟩
  exact HandSPX.exc_get I1.kIn J T.ga T.gg T.exC (PySem.W.findObj_own T.hdC hno rfl (by rw [hl, hu])) (handed_of ru) ⟨v, H1, I1.tok _, ru, q⟩
end
end L2
set_option maxHeartbeats 1000000
namespace L2
open PySem PySem.Spec PyProof.Rows
section
variable {X : Cx} {CX : CXT} {k : Nat} {f C : Addr} {fd : FuncData} {ps : List Str} {sp : Sp} {E : St → XK} {x : Str} {p pos : Pos} {e : Expr} {es : List Expr} {t : TA} {ds : List Value} {dvs : List V}
def tMakeS (C : Addr) (sp : Sp) (E : St → XK) (t : TA) : TE := fun σ H Q => t σ H fun vs H1 =>
  ∀ x dx, H1 x = none → H1 dx = none → dx ≠ x →
    sp (.ref x :: vs) (upd (upd H1 dx (.own x)) x (.ins C dx [])) (fun v H2 => v = .non ∧ Q (.ref x) H2) (E σ)
theorem pe_makeS (M : Mk X.K C f)
    (F : FnOk X.prog X.w X.K X.mg X.base CX k f fd ps sp) (hr : Room (k + 1) X.A)
    (hg : Gl X x) (hm : X.mg x = some (.ref C)) (hb : Binds X.K fd ps []) (hx : ∀ σ, PassesAt CX X σ (E σ)) (ha : PA X (e :: es) t)
    (hdb : (x == ("__debug__" : Str)) = false := by decide)
    (he : starEach (e :: es) X.env = (false, eval e X.env) :: starEach es X.env := by rfl)
    (hpl : (backTo pos (starEach es X.env)).any (·.1) = false := by rfl) :
    PE X (.Call (.Name x p) (e :: es) [] pos) (tMakeS C sp E t) := by
  constructor
  intro pins s σ H Q I h
  refine wpAny_Call_Name_kw (ld_glob I hg hm ?_ hdb)
  refine PySem.W.callWith_K (h₀ := X.base) I.ok.mod.kin M.kp (thn (ha.run pos pins s σ H _ I h) fun us s1 hh => ?_) he hpl
  obtain ⟨vs, H1, I1, r, q⟩ := hh
  refine ⟨I1.kIn, ?_⟩
  show wpAny _ _ (call (.ref C) us) _ _ _
  generalize hn : s1.heap.objs.size = n
  have f0 : H1 n = none := by rw [← hn]; exact I1.hok.fresh (Nat.le_refl _)
  have f1 : H1 (n + 1) = none := by rw [← hn]; exact I1.hok.fresh (Nat.le_succ _)
  have hq := q (n + 1) n f1 f0 (Nat.ne_of_lt (Nat.lt_succ_self _))
  have I2 := Inv.made (C := C) I1
  rw [hn] at I2
  have r2 : Vals (V.ref (n + 1) :: vs) (Value.ref (n + 1) :: us) := .cons rfl r
  have hl : (Value.ref (n + 1) :: us ++ []).length = ps.length := by
    have z := r2.length
    rw [F.len _ _ _ _ hq] at z
    rw [List.append_nil]
    exact z.symm
  have b := hb _ (Value.ref (n + 1) :: us) I2.kIn hl
  rw [List.append_nil] at b
  have run := F.run _ X.stack _ _ ⟨Value.ref (n + 1) :: us, []⟩ (Value.ref (n + 1) :: us) _ _ (E σ) (hr.make C us []) (I2.env0.make C us []) b r2 hq
  refine wpAny_call (make_map (f := f) I1.kIn M.makes M.init (beq_iff_eq.mp M.fn) (codeAny_mono (by rw [hn]; exact run) fun r s' hq' => ?_))
  cases r with
  | error er => exact hx σ pins _ _ er s' I2 hq'
  | ok fl =>
    cases fl with
    | next => exact False.elim hq'
    | brk => exact False.elim hq'
    | cont => exact False.elim hq'
    | ret u =>
      obtain ⟨v, H', I3, rv, ev, q3⟩ := I2.after hq'
      cases ev
      rw [hn]
      exact ⟨rv, ⟨V.ref (n + 1), H', I3, rfl, q3⟩⟩
end
end L2
set_option maxHeartbeats 4000000
namespace PySem
namespace OXB
open Builtin Builtin.ObjectAttr PySem.W PySem.Calls PyProof.Rows PySem.HandSPX
/-- own classes, then the base's mro -/
def refsT (bm : List Value) : List Value → Bool
  | .ref _ :: r => refsT bm r
  | l => l == bm
theorem refsT_cases {bm : List Value} : ∀ l : List Value, refsT bm l = true → (∃ c r, l = .ref c :: r ∧ refsT bm r = true) ∨ l = bm
  | [], e => .inr (beq_iff_eq.mp e)
  | .ref c :: r, e => .inl ⟨c, r, rfl, e⟩
  | .none :: _, e => .inr (beq_iff_eq.mp e)
  | .ellipsis :: _, e => .inr (beq_iff_eq.mp e)
  | .notImplemented :: _, e => .inr (beq_iff_eq.mp e)
  | .bool _ :: _, e => .inr (beq_iff_eq.mp e)
  | .int _ _ :: _, e => .inr (beq_iff_eq.mp e)
  | .float _ _ :: _, e => .inr (beq_iff_eq.mp e)
  | .str _ _ :: _, e => .inr (beq_iff_eq.mp e)
  | .bytes _ _ :: _, e => .inr (beq_iff_eq.mp e)
  | .type _ :: _, e => .inr (beq_iff_eq.mp e)
  | .builtin _ :: _, e => .inr (beq_iff_eq.mp e)
structure XB where
  B : String
  newId : String
  initId : String
  bm : List Value
/-- what is so of the base -/
structure XB.Ok (b : XB) : Prop where
  F : ExcBaseFacts b.B b.newId b.initId b.bm
  pass : ∀ self, refuseLoop self "__setattr__" b.bm = pure ()
  obj : b.bm.contains (.type "object") = true
  ne : b.bm.isEmpty = false
def xbV : XB := ⟨"ValueError", "ValueError.__new__", "ValueError.__init__", [.type "ValueError", .type "Exception", .type "BaseException", .type "object"]⟩
def xbR : XB := ⟨"RuntimeError", "RuntimeError.__new__", "RuntimeError.__init__", [.type "RuntimeError", .type "Exception", .type "BaseException", .type "object"]⟩
theorem xbV_ok : xbV.Ok := ⟨F.excBase_ValueError, fun self => F.store_ValueError.passes self, by decide +kernel, rfl⟩
theorem xbR_ok : xbR.Ok := ⟨F.excBase_RuntimeError, fun self => F.store_RuntimeError.passes self, by decide +kernel, rfl⟩
theorem refsT_pass {b : XB} (O : b.Ok) (self : Value) : ∀ l : List Value, refsT b.bm l = true → refuseLoop self "__setattr__" l = pure () := by
  intro l
  induction l with
  | nil =>
    intro e
    have e' : ([] : List Value) = b.bm := beq_iff_eq.mp e
    rw [e']
    exact O.pass self
  | cons a r ih =>
    intro e
    rcases refsT_cases (a :: r) e with ⟨c, r', q, h⟩ | q
    · obtain ⟨rfl, rfl⟩ := List.cons.inj q
      rw [refuseLoop_ref]; exact ih h
    · rw [q]; exact O.pass self
theorem refsT_contains {bm : List Value} (X : String) : ∀ l : List Value, refsT bm l = true → l.contains (.type X) = bm.contains (.type X) := by
  intro l
  induction l with
  | nil =>
    intro e
    have e' : ([] : List Value) = bm := beq_iff_eq.mp e
    rw [e']
  | cons a r ih =>
    intro e
    rcases refsT_cases (a :: r) e with ⟨c, r', q, h⟩ | q
    · obtain ⟨rfl, rfl⟩ := List.cons.inj q
      rw [List.contains_cons, ih h]; rfl
    · rw [q]
theorem refsT_ne {b : XB} (O : b.Ok) {l : List Value} (e : refsT b.bm l = true) : l.isEmpty = false := by
  cases l with
  | nil =>
    have e' : ([] : List Value) = b.bm := beq_iff_eq.mp e
    have := O.ne
    rw [← e'] at this
    exact this
  | cons _ _ => rfl
section
variable {M : Model} {A : Around} {E : Value → Shared → Prop} {h : Heap} {g : Array GenState} {d : Drawn} {t : Nat} {os : OsState}
variable {nm q : Str} {C N : Addr} {bs bm bmB : List Value} {hdct : Bool} {sn : List Str} {sub : List Value} {ab : Bool} {col : Option Bool} {dd : Option Addr} {k0 k1 k2 k3 k5 : Option Value} {B newId initId : String}
theorem check_new_ownK (F : ExcBaseFacts B newId initId bmB) (hT : ∀ X : String, bm.contains (.type X) = bmB.contains (.type X)) {rest : List Value} {kw : List (Str × Value)} {Q : Unit → Shared → Prop}
    (hC : h.get? C = some (excClassObj nm q C N bs bm hdct sn sub ab col dd k0 k1 k2 k3 k5 newId)) (hq : Q () ⟨h, g, d, t, os⟩) : wpAny M A (checkBuiltinCall newId ⟨.ref C :: rest, kw⟩) Q E ⟨h, g, d, t, os⟩ := by
  have hcont : (Value.ref C :: bm).contains (.type B) = true := by rw [List.contains_cons, hT, F.hasB, Bool.or_true]
  have hstar := F.noStar
  simp only [checkBuiltinCall, F.newKind, F.newSplit, F.newRow]
  repeat (first | refine wpAny_loadPart_at hC ?_ | (refine wpAny_isSubtype_exc hC ?_; rw [hcont]) | refine wpAny_staticBase_exc hC ?_ | refine wpAny_madeBy_exc hC ?_ | simp only [bne_self_eq_false, Bool.false_eq_true, if_false] | wp_step)
  exact hq
end
section
variable {prog : Program} {w : World} {A : Around} {E : Value → Shared → Prop} {R : Result → Shared → Prop} {h : Heap} {g : Array GenState} {d : Drawn} {t : Nat} {os : OsState}
variable {nm q : Str} {C N : Addr} {bs bm bmB : List Value} {hdct : Bool} {sn : List Str} {sub : List Value} {ab : Bool} {col : Option Bool} {dd : Option Addr} {k0 k1 k2 k3 k5 : Option Value} {B newId initId : String}
theorem new_ownK (F : ExcBaseFacts B newId initId bmB) (hT : ∀ X : String, bm.contains (.type X) = bmB.contains (.type X)) {rest : List Value} {kw : List (Str × Value)}
    (hC : h.get? C = some (excClassObj nm q C N bs bm hdct sn sub ab col dd k0 k1 k2 k3 k5 newId))
    (hq : R (.ok (.ret (.ref (h.objs.size + 1)))) ⟨(h.push { cls := .type "tuple", data := .seq rest.toArray }).push
      { cls := .ref C, data := .fields #[.ref h.objs.size, .none, .none, .none, .bool false, .none] }, g, d, t, os⟩) (hrest : rest.length ≤ sizeLine) :
    codeAny (model prog w) A (.builtin newId ⟨.ref C :: rest, kw⟩) R ⟨h, g, d, t, os⟩ := by
  have hends := F.ends
  have hcB : (Value.ref C :: bm).contains (.type B) = true := by rw [List.contains_cons, hT, F.hasB, Bool.or_true]
  have hcA : (Value.ref C :: bm).contains (.type "AttributeError") = false := by rw [List.contains_cons, hT, F.noAttr]; rfl
  have hcN : (Value.ref C :: bm).contains (.type "NameError") = false := by rw [List.contains_cons, hT, F.noName]; rfl
  refine codeAny_builtinAt F.entry ?_
  unfold Builtin.«BaseException.__new__»
  refine wpAt_bind ?_
  show wpAt _ _ _ (stack >>= _) _ _ _
  refine wpAt_bind (wpAt_stack fun p below => wpAt_of_wpAny ?_)
  wp_walk
  refine wpAt_of_wpAny ?_
  rw [F.owner]
  repeat (first | with_reducible refine wpAny_madeHere_exc F.canon hC ?_ | with_reducible refine wpAny_loadPart_at hC ?_ | (with_reducible refine wpAny_isSubtype_exc hC ?_; first | rw [hcB] | rw [hcA] | rw [hcN]) | wp_step)
  show R _ _
  rw [Heap.size_push]
  exact hq
theorem type_call_ownK (F : ExcBaseFacts B newId initId bmB) (hT : ∀ X : String, bm.contains (.type X) = bmB.contains (.type X)) {rest : List Value} {kw : List (Str × Value)} {fI : Addr} {Q : Fin → Shared → Prop}
    (hC : h.get? C = some (excClassObj nm q C N bs bm hdct sn sub ab col dd k0 k1 k2 k3 k5 newId))
    (hi : W.Looks (model prog w) h (typeLookup (.ref C) "__init__") (some (.ref fI))) (hb : ∀ self, W.Looks (model prog w) h (bindSpecial (.ref fI) self) (.ref fI, [self])) (hrest : rest.length ≤ sizeLine)
    (hq : codeAny (model prog w) A (.call (.ref fI) ⟨.ref (h.objs.size + 1) :: rest, kw⟩)
      (fun r s' => match r with | .ok (.ret v) => v = .none ∧ Q (.done (.ret (.ref (h.objs.size + 1)))) s' | .ok _ => False | .error e => E e s')
      ⟨(h.push (W.kdv_tup rest)).push (excO C h.objs.size), g, d, t, os⟩) :
    wpAny (model prog w) A (Builtin.«type.__call__» ⟨.ref C :: rest, kw⟩) Q E ⟨h, g, d, t, os⟩ := by
  repeat (first | with_reducible refine wpAny_loadPart_at hC ?_ | with_reducible refine wpAny_madeBy_exc hC ?_ | wp_step)
  refine codeAny_call_builtin_code (Code.quiet_builtin _ F.quiet) (check_new_ownK F hT hC ?_)
  refine new_ownK F hT hC ?_ hrest
  show wpAny _ _ _ _ _ _
  have k : ∀ b o, h.get? b = some o → ((h.push (W.kdv_tup rest)).push (excO C h.objs.size)).get? b = some o := fun b o e => Heap.get?_push_of_some _ (Heap.get?_push_of_some _ e)
  have hC₁ := k _ _ hC
  have hget : ((h.push (W.kdv_tup rest)).push (excO C h.objs.size)).get? (h.objs.size + 1) = some (excO C h.objs.size) := by heap_get
  have hcC : (Value.ref C :: bm).contains (.ref C) = true := by simp
  have i1 := hi.keeps k
  have b1 := (hb (.ref (h.objs.size + 1))).keeps k
  unfold isInstance
  repeat (first | with_reducible refine wpAny_loadPart_at hget ?_ | (with_reducible refine wpAny_isSubtype_exc hC₁ ?_; rw [hcC]) | wp_step)
  show wpAny _ _ (typeLookup (.ref C) _) _ _ _
  refine i1.at ?_
  refine wpAny_holding (wpAny_bind (b1.at ?_))
  refine wpAny_bind (wpAny_call (codeAny_mono hq fun r s' z => ?_))
  rcases r with e | (v | _ | _ | _) <;> first | exact z | exact z.elim | skip
  obtain ⟨rfl, z⟩ := z
  first
    | exact wpAny_pure (wpAny_pure z)
    | (wp_walk; exact z)
theorem call_ownK (F : ExcBaseFacts B newId initId bmB) (hT : ∀ X : String, bm.contains (.type X) = bmB.contains (.type X)) {rest : List Value} {kw : List (Str × Value)} {fI : Addr}
    (hC : h.get? C = some (excClassObj nm q C N bs bm hdct sn sub ab col dd k0 k1 k2 k3 k5 newId))
    (hi : W.Looks (model prog w) h (typeLookup (.ref C) "__init__") (some (.ref fI))) (hb : ∀ self, W.Looks (model prog w) h (bindSpecial (.ref fI) self) (.ref fI, [self])) (hrest : rest.length ≤ sizeLine)
    (hq : codeAny (model prog w) (A.under (.builtin "type.__call__" ⟨.ref C :: rest, kw⟩)) (.call (.ref fI) ⟨.ref (h.objs.size + 1) :: rest, kw⟩) (W.InitBack (h.objs.size + 1) R)
      ⟨(h.push (W.kdv_tup rest)).push (excO C h.objs.size), g, d, t, os⟩) :
    codeAny (model prog w) A (.call (.ref C) ⟨rest, kw⟩) R ⟨h, g, d, t, os⟩ := by
  have f1 := tc_lookup
  have f2 := tc_bind (.ref C)
  have hTy : (⟨h, g, d, t, os⟩ : Shared).TypeIs (.ref C) "type" := ⟨_, hC, rfl⟩
  refine codeAny_of_tree ?_
  show wpAny _ _ (callAny (.ref C) _) _ _ _
  repeat (any_goals (first | assumption | with_reducible refine wpAny_loadPart_at hC ?_ | wp_step))
  refine ⟨rfl, ?_⟩
  refine codeAny_call_builtin_at (Code.quiet_builtin _ (by decide +kernel)) entry_typeCall (wpAny_check_type_call_sub hC (type_call_ownK F hT hC hi hb hrest ?_))
  refine codeAny_mono hq fun r s' z => ?_
  rcases r with e | (v | _ | _ | _) <;> exact z
end
section
variable {prog : Program} {w : World} {A : Around} {E : Value → Shared → Prop} {R : Result → Shared → Prop} {hp : Heap} {g : Array GenState} {d : Drawn} {t : Nat} {os : OsState}
theorem exc_osaB {b : XB} (O : b.Ok) {K : W.Frag} {name : Str} {tk : Tok} {v : Value} {x C : Addr} {fv : Array Value} {cd : ClassData}
    (X : K.In hp) (hx : hp.get? x = some { cls := .ref C, data := .fields fv }) (hcd : W.clsIn K C = some cd) (hm : refsT b.bm cd.mro = true) (hh : cd.hasDict = true) (ha : W.findIn K (.ref C) name = some none)
    (hq : ∀ h' tk' dx, (∀ b o, b ≠ x → hp.get? b = some o → h'.get? b = some o) → hp.objs.size ≤ dx → dx ≠ x → h'.get? x = some { cls := .ref C, dict := some dx, data := .fields fv } →
      h'.Ns1 dx (fun y => if y = name then some v else none) → R (.ok (.ret .none)) ⟨h', g, d, tk', os⟩) :
    codeAny (model prog w) A (.call (.builtin "object.__setattr__") ⟨[.ref x, .str name tk, v], []⟩) R ⟨hp, g, d, t, os⟩ := by
  have I : W.InstAt hp x { cls := .ref C, data := .fields fv } C none := ⟨hx, rfl, rfl, trivial⟩
  have SF := F.store_object
  have ne := refsT_ne O hm
  have hob : cd.mro.contains (.type "object") = true := (refsT_contains "object" _ hm).trans O.obj
  have hxs : x ≠ hp.objs.size := Nat.ne_of_lt (Heap.lt_size hx)
  have sub : W.Looks (model prog w) hp (isInstance (.ref x) (.type "object")) true := I.type.andThen (W.looks_mroIn X (by unfold W.mroIn; rw [hcd, Option.bind_some, if_neg (by rw [ne]; decide), hob]))
  refine codeAny_call_builtin SF.slot.plain SF.entry (@W.check_slot (model prog w) _ _ ⟨hp, g, d, t, os⟩ "object.__setattr__" "object" "__setattr__" (.ref x) [.str name tk, v] [] _ SF.kind SF.split sub (SF.args (.ref x) (.str name tk) v) ?_)
  have hmr : W.Looks (model prog w) hp (mroOf (.ref C)) cd.mro := (W.looks_clsIn X hcd).andThen .now
  have L3 : W.Looks (model prog w) hp (storeTaker? none) none := .now
  have hcls : W.Looks (model prog w) hp (classData C) cd := W.looks_clsIn X hcd
  rw [W.osa_eq, refuse_eq]
  refine wpAny_bind (wpAny_bind (I.type.at (wpAny_bind (hmr.at ?_))))
  rw [refsT_pass O _ _ hm]
  refine wpAny_pure (wpAny_bind (I.type.at (wpAny_bind ((W.looks_findIn X ha).at (wpAny_bind (L3.at ?_))))))
  show wpAny _ _ (storeInOwnDict (.ref x) (.ref C) (.str name tk) name v false) _ _ _
  obtain ⟨nm, bs, mro, ns, qn, hd, sn, sb, ab, col, del⟩ := cd
  dsimp only at hh
  subst hh
  unfold storeInOwnDict ownDictForStores
  repeat (first | with_reducible refine store_in_new ?_ ?_ | with_reducible refine wpAny_loadPart_at hx ?_ | with_reducible refine hcls.at ?_ | wp_step)
  · exact ⟨_, #[], _, (Heap.get?_update_ne _ _ _ _ hxs.symm).trans (Heap.get?_push_at rfl rfl), rfl, fun e he => absurd he (by simp), fun _ => rfl⟩
  · intro h' tk' hn' hs
    have hx₁ : (hp.push { cls := .type "dict", data := .dict #[] }).get? x = some { cls := .ref C, data := .fields fv } := Heap.get?_push_of_some _ hx
    refine hq h' tk' hp.objs.size (fun b o hb ho => ?_) (Nat.le_refl _) hxs.symm ?_ hn'
    · exact (hs.2 b (Nat.ne_of_lt (Heap.lt_size ho))).trans ((Heap.get?_update_ne _ _ _ _ hb).trans (Heap.get?_push_of_some _ ho))
    · exact (hs.2 x hxs).trans (Heap.get?_update_self _ hx₁ rfl)
theorem osa_oldB {b : XB} (O : b.Ok) {K : W.Frag} {name : Str} {tk : Tok} {v : Value} {x C dx : Addr} {fv : Array Value} {cd : ClassData} {m0 : Str → Option Value} {nl : List Str}
    (X : K.In hp) (hx : hp.get? x = some { cls := .ref C, dict := some dx, data := .fields fv }) (hns : hp.Ns1 dx m0) (hw : Within m0 nl) (hz : nl.length ≤ 1000) (hcd : W.clsIn K C = some cd) (hm : refsT b.bm cd.mro = true) (hh : cd.hasDict = true)
    (ha : W.findIn K (.ref C) name = some none)
    (hq : ∀ h' tk', (∀ b o, b ≠ dx → hp.get? b = some o → h'.get? b = some o) → h'.Ns1 dx (fun y => if y = name then some v else m0 y) → R (.ok (.ret .none)) ⟨h', g, d, tk', os⟩) :
    codeAny (model prog w) A (.call (.builtin "object.__setattr__") ⟨[.ref x, .str name tk, v], []⟩) R ⟨hp, g, d, t, os⟩ := by
  obtain ⟨oD, esD, epD, hoD, hdD, _⟩ := hns.count hw
  have I : W.InstAt hp x { cls := .ref C, dict := some dx, data := .fields fv } C (some oD) := ⟨hx, rfl, rfl, hoD⟩
  have SF := F.store_object
  have ne := refsT_ne O hm
  have hob : cd.mro.contains (.type "object") = true := (refsT_contains "object" _ hm).trans O.obj
  have sub : W.Looks (model prog w) hp (isInstance (.ref x) (.type "object")) true := I.type.andThen (W.looks_mroIn X (by unfold W.mroIn; rw [hcd, Option.bind_some, if_neg (by rw [ne]; decide), hob]))
  refine codeAny_call_builtin SF.slot.plain SF.entry (@W.check_slot (model prog w) _ _ ⟨hp, g, d, t, os⟩ "object.__setattr__" "object" "__setattr__" (.ref x) [.str name tk, v] [] _ SF.kind SF.split sub (SF.args (.ref x) (.str name tk) v) ?_)
  have hmr : W.Looks (model prog w) hp (mroOf (.ref C)) cd.mro := (W.looks_clsIn X hcd).andThen .now
  have L3 : W.Looks (model prog w) hp (storeTaker? none) none := .now
  have hcls : W.Looks (model prog w) hp (classData C) cd := W.looks_clsIn X hcd
  rw [W.osa_eq, refuse_eq]
  refine wpAny_bind (wpAny_bind (I.type.at (wpAny_bind (hmr.at ?_))))
  rw [refsT_pass O _ _ hm]
  refine wpAny_pure (wpAny_bind (I.type.at (wpAny_bind ((W.looks_findIn X ha).at (wpAny_bind (L3.at ?_))))))
  show wpAny _ _ (storeInOwnDict (.ref x) (.ref C) (.str name tk) name v false) _ _ _
  obtain ⟨nm, bs, mro, ns, qn, hd, sn, sb, ab, col, del⟩ := cd
  dsimp only at hh
  subst hh
  unfold storeInOwnDict ownDictForStores
  repeat (first | with_reducible refine PySem.OEX.store_in_old hns hw hz ?_ | with_reducible refine wpAny_loadPart_at hx ?_ | with_reducible refine hcls.at ?_ | wp_step)
  intro h' tk' hn' hs
  exact hq h' tk' (fun b o hb ho => (hs.2 b hb).trans ho) hn'
end
end OXB
end PySem
set_option maxHeartbeats 4000000
namespace L2
open PySem PySem.Spec PyProof.Rows PySem.OXB
/-- what the written part says of the class -/
structure OexB (K : PySem.W.Frag) (C : Addr) (b : XB) : Prop where
  cls : ∃ nm q N bs bm sn sub ab col dd k0 k1 k2 k3 k5, K.lookup C = some (excClassObj nm q C N bs bm true sn sub ab col dd k0 k1 k2 k3 k5 b.newId) ∧ refsT b.bm bm = true
  sa : PySem.W.findIn K (.ref C) "__setattr__" = some (some (.builtin "object.__setattr__"))
  exC : PySem.W.subIn K (.ref C) (.type "BaseException") = some true
  tyC : PySem.W.typeIn K (.ref C) = some (.type "type")
  kC : PySem.W.keepIn K (.ref C) = true
section
variable {X : Cx} {pins : List (Addr × Obj)} {σ : St} {H : Hp} {s : Shared} {a C dx : Addr} {f : Str} {y : V} {u : Value} {fs : List (Str × V)} {Q : Unit → Shared → Prop} {E : Value → Shared → Prop} {A : Around} {b : XB}
/-- self.f = y, the first one -/
theorem ostB_new (O : b.Ok) (T : OexB X.K C b) (I : Inv X pins σ H s) (e : H a = some (exo a C none)) (hno : PySem.W.findIn X.K (.ref C) f = some none) (ry : RelV y u)
    (h : ∀ dx s', H dx = none → dx ≠ a → Inv X pins σ (upd (upd H dx (exd dx [(f, y)])) a (exo a C (some dx))) s' → Q () s') : wpAny (model X.prog X.w) A (setAttr (.ref a) f u) Q E s := by
  obtain ⟨nm, q, N, bs, bm, sn, sub, ab, col, dd, k0, k1, k2, k3, k5, hC, hbm⟩ := T.cls
  have hcl : PySem.W.clsIn X.K C = some { name := nm, bases := bs, mro := .ref C :: bm, ns := N, qualname := q, hasDict := true, slotNames := sn, subclasses := sub, abstract := ab, collection := col, hasDel := false } := by unfold PySem.W.clsIn; rw [hC] <;> rfl
  obtain ⟨t1, ho⟩ := exo_at I.hok e
  obtain ⟨hp, g, d, t, os⟩ := s
  refine PySem.W.set_plain I.kIn (ox := { cls := .ref C, dict := none, data := .fields #[.ref t1, .none, .none, .none, .bool false, .none] }) (od := none) ⟨ho, rfl, rfl, trivial⟩ T.sa ?_
  refine exc_osaB O I.kIn ho hcl (show refsT b.bm (.ref C :: bm) = true from hbm) rfl hno (fun h' tk' dx k dn dne hx hn => ?_)
  have hnd : H dx = none := I.hok.fresh dn
  have nd : ∀ {b : Addr} {o : Obj}, hp.get? b = some o → b ≠ dx := fun {b o} q => Nat.ne_of_lt (Nat.lt_of_lt_of_le (Heap.lt_size q) dn)
  have na : ∀ {b : Addr}, H b = none → b ≠ a := fun {b} n z => by
    rw [z, e] at n
    cases n
  have Un1 : Un X.fs [] H (upd (upd H dx (exd dx [(f, y)])) a (exo a C (some dx))) hp h' := {
    keep := fun b o q n _ _ => k b o (na n) q
    slot := fun b o q n _ _ => ⟨o.slots, k b o (na n) q⟩
    free := fun b o q n _ => by rw [upd_ne (na n), upd_ne (nd q)]; exact n
    there := fun b o q _ => by
      by_cases hb : b = a
      · exact ⟨_, by rw [hb]; exact hx⟩
      · exact ⟨o, k b o hb q⟩
    tups := fun b xs q => by rw [upd_ne (at_ne e q exo_tup), upd_ne (ne_of_none q hnd)]; exact q
    frzs := fun b o v q => by rw [upd_ne (at_ne e q exo_frz), upd_ne (ne_of_none q hnd)]; exact q
    tbls := fun b ps q => ⟨#[], by rw [upd_ne (at_ne e q exo_tbl), upd_ne (ne_of_none q hnd), q]; simp⟩ }
  refine h dx _ hnd dne (I.un (t' := tk') Un1 fun b o q => ?_)
  by_cases hb : b = a
  · subst hb
    rw [upd_same] at q
    cases q
    exact exo_ok hx
  · rw [upd_ne hb] at q
    by_cases hd : b = dx
    · subst hd
      rw [upd_same] at q
      cases q
      exact exd_ok hn (relO_put (fs := []) ry fun g => True.intro)
    · rw [upd_ne hd] at q
      exact (I.hok b o q).stay (fun c v hc z => k c v (by
          rcases hc with hc | hc
          · rw [hc]
            exact hb
          · exact at_ne e hc exo_own) z)
        (fun c hc => by rw [upd_ne (at_ne e hc exo_own), upd_ne (ne_of_none hc hnd)]; exact hc) (fun c xs hc => by rw [upd_ne (at_ne e hc exo_tup), upd_ne (ne_of_none hc hnd)]; exact hc)
/-- self.f = y, a further one -/
theorem ostB_old (O : b.Ok) (T : OexB X.K C b) (I : Inv X pins σ H s) (e : H a = some (exo a C (some dx))) (ed : H dx = some (exd dx fs)) (hl : fs.length ≤ 900) (hno : PySem.W.findIn X.K (.ref C) f = some none) (ry : RelV y u)
    (h : ∀ s', Inv X pins σ (upd H dx (exd dx ((f, y) :: fs))) s' → Q () s') : wpAny (model X.prog X.w) A (setAttr (.ref a) f u) Q E s := by
  obtain ⟨nm, q, N, bs, bm, sn, sub, ab, col, dd, k0, k1, k2, k3, k5, hC, hbm⟩ := T.cls
  have hcl : PySem.W.clsIn X.K C = some { name := nm, bases := bs, mro := .ref C :: bm, ns := N, qualname := q, hasDict := true, slotNames := sn, subclasses := sub, abstract := ab, collection := col, hasDel := false } := by unfold PySem.W.clsIn; rw [hC] <;> rfl
  obtain ⟨t1, ho⟩ := exo_at I.hok e
  obtain ⟨mA, hns, rel⟩ := exd_at I.hok ed
  have hw := within_of rel
  obtain ⟨hp, g, d, t, os⟩ := s
  obtain ⟨oD, _, _, hoD, _, _⟩ := hns.count hw
  refine PySem.W.set_plain I.kIn (ox := { cls := .ref C, dict := some dx, data := .fields #[.ref t1, .none, .none, .none, .bool false, .none] }) (od := some oD) ⟨ho, rfl, rfl, hoD⟩ T.sa ?_
  refine osa_oldB O I.kIn ho hns hw (by rw [List.length_map]; omega) hcl (show refsT b.bm (.ref C :: bm) = true from hbm) rfl hno (fun h' tk' k hn => ?_)
  have hd : ∃ o, h'.get? dx = some o := by
    obtain ⟨o, _, _, e', _⟩ := hn
    exact ⟨o, e'⟩
  exact h _ (I.write (t' := tk') (x := dx) (e := dx) (o := exd dx ((f, y) :: fs)) (by rw [ed]; exact True.intro) (.inl rfl) k hd (exd_ok hn (relO_put ry rel)))
/-- B.__init__(self, ..): nothing of it is told -/
theorem oinitB_ok {us : List Value} {Q : Value → Shared → Prop} (O : b.Ok) (T : OexB X.K C b) (I : Inv X pins σ H s) (e : H a = some (exo a C none)) (hl : us.length ≤ sizeLine) (h : ∀ s', Inv X pins σ H s' → Q .none s') :
    wpAny (model X.prog X.w) A (call (.builtin b.initId) (.ref a :: us)) Q E s := by
  obtain ⟨nm, q, N, bs, bm, sn, sub, ab, col, dd, k0, k1, k2, k3, k5, hC, hbm⟩ := T.cls
  obtain ⟨t1, ho⟩ := exo_at I.hok e
  obtain ⟨hp, g, d, t, os⟩ := s
  refine wpAny_call (PySem.HandSPX.init_base O.F (fun Y => refsT_contains Y bm hbm) (I.kIn _ _ hC) ho hl fun h' t2 k hx => ?_)
  have J := I.write (t' := t) (x := a) (e := a) (o := exo a C none) (by rw [e]; exact True.intro) (.inl rfl) k ⟨_, hx⟩ (exo_ok hx)
  have eu : upd H a (exo a C none) = H := by
    funext b
    by_cases hb : b = a
    · rw [hb, upd_same, e]
    · rw [upd_ne hb]
  rw [eu] at J
  exact h _ J
end
/-- B.__init__(self, ..) -/
def tVeB (K : PySem.W.Frag) (b : XB) (ta : TA) : TE := fun σ H Q => ta σ H fun vs H1 => ∃ (a C : Addr) (ws : List V), vs = .ref a :: ws ∧ ws.length ≤ 1000 ∧ OexB K C b ∧ H1 a = some (exo a C none) ∧ Q .non H1
/-- self.f = e -/
def tOsB (K : PySem.W.Frag) (b : XB) (f : Str) (to te : TE) : TS := fun D σ H => te σ H fun y H1 => to σ H1 fun x H2 => ∃ a C : Addr, x = .ref a ∧ OexB K C b ∧ PySem.W.findIn K (.ref C) f = some none ∧
  ((H2 a = some (exo a C none) ∧ ∀ dx, H2 dx = none → dx ≠ a → D.nx σ (upd (upd H2 dx (exd dx [(f, y)])) a (exo a C (some dx)))) ∨
    ∃ (dx : Addr) (fs : List (Str × V)), H2 a = some (exo a C (some dx)) ∧ H2 dx = some (exd dx fs) ∧ fs.length ≤ 900 ∧ D.nx σ (upd H2 dx (exd dx ((f, y) :: fs))))
/-- C(e, ..) as a value, C's own __init__ keeping sp -/
def tExV (C : Addr) (sp : Sp) (ta : TA) : TE := fun σ H Q => ta σ H fun vs H1 => vs.length ≤ 1000 ∧ ∀ a, H1 a = none → sp (.ref a :: vs) (upd H1 a (exo a C none)) (fun v H2 => v = .non ∧ Q (.ref a) H2) (fun _ _ _ => False)
def tExK (C : Addr) (m : Nat) (sp : Sp) (gV : List V → List V → List V) (tk : TA) : TE := fun σ H Q => tk σ H fun zs H1 => zs.length = m ∧ ∀ a, H1 a = none → sp (gV [.ref a] zs) (upd H1 a (exo a C none)) (fun v H2 => v = .non ∧ Q (.ref a) H2) (fun _ _ _ => False)
section
variable {X : Cx} {o e : Expr} {es : List Expr} {to te : TE} {ta tk : TA} {f : Str} {p p' p1 p2 pos : Pos} {b : XB}
theorem pe_ownInitB {pl : Sem Bool} {x : Str} {B : Addr} (O : b.Ok) (hg : Gl X x) (hm : X.mg x = some (.ref B)) (r : ClX.CRead X.K B (.type "type")) (vV : PySem.W.findCls X.K (.ref B) (.type "type") "__init__" = some (.val (.builtin b.initId))) (ha : PA X (e :: es) ta)
    (hbi : PySem.W.handedIn (.builtin b.initId) = true := by decide +kernel)
    (hdb : (x == ("__debug__" : Str)) = false := by decide)
    (hc : eval (.Call (.Attribute (.Name x p1) "__init__" p2) (e :: es) [] pos) X.env = (do
      let ov ← eval (.Name x p1) X.env
      standAt p2.atName
      let (f, first) ← holding [ov] (getMethod ov "__init__" pl)
      callWith pos f first (backTo pos (starEach (e :: es) X.env)) (backToKw pos (keywordEach [] X.env))) := by rfl)
    (he : starEach (e :: es) X.env = (false, eval e X.env) :: starEach es X.env := by rfl) (hpl : (backTo pos (starEach es X.env)).any (·.1) = false := by rfl) :
    PE X (.Call (.Attribute (.Name x p1) "__init__" p2) (e :: es) [] pos) (tVeB X.K b ta) := by
  refine ⟨fun pins s σ H Q I h => ?_⟩
  refine PySem.W.methodCall_KW (ld_glob I hg hm ?_ hdb) hc
  refine PySem.W.method_cls I.kIn r.ga (PySem.W.cls_value I.kIn r.rd vV hbi ?_)
  show wpAny _ _ (callWith pos (Value.builtin b.initId) [] (backTo pos (starEach (e :: es) X.env)) []) _ _ _
  refine PyProof.Rows.callWith_method1 (thn (ha.run pos pins _ σ H _ (I.tok _) h) fun us s1 ⟨vs, H1, I1, r1, a, C, ws, ev, hl, T, ea, q⟩ => ?_) he hpl
  subst ev
  cases r1 with
  | @cons _ u0 _ ur ra rw' =>
    obtain rfl : u0 = Value.ref a := ra
    have hlen : ur.length ≤ sizeLine := by
      rw [← Paired.length rw', sizeLine_eq]
      omega
    exact oinitB_ok O T I1 ea hlen fun s' J => ⟨.non, H1, J, rfl, q⟩
theorem typ_RE : typeOf (.type "RuntimeError") = pure (.type "type") := by kernel_rfl
theorem pe_reinit {pl : Sem Bool} (hg : Gl X "RuntimeError") (hm : X.mg "RuntimeError" = none) (vV : PySem.W.findCls X.K (.type "RuntimeError") (.type "type") "__init__" = some (.val (.builtin "RuntimeError.__init__"))) (ha : PA X (e :: es) ta)
    (hc : eval (.Call (.Attribute (.Name "RuntimeError" p1) "__init__" p2) (e :: es) [] pos) X.env = (do
      let ov ← eval (.Name "RuntimeError" p1) X.env
      standAt p2.atName
      let (f, first) ← holding [ov] (getMethod ov "__init__" pl)
      callWith pos f first (backTo pos (starEach (e :: es) X.env)) (backToKw pos (keywordEach [] X.env))) := by rfl)
    (he : starEach (e :: es) X.env = (false, eval e X.env) :: starEach es X.env := by rfl) (hpl : (backTo pos (starEach es X.env)).any (·.1) = false := by rfl) :
    PE X (.Call (.Attribute (.Name "RuntimeError" p1) "__init__" p2) (e :: es) [] pos) (tVeB X.K xbR ta) := by
  refine ⟨fun pins s σ H Q I h => ?_⟩
  refine PySem.W.methodCall_KW (ld_blt I hg hm PyProof.Rows.Boot.«RuntimeError» ?_ (by decide) (by decide)) hc
  obtain ⟨m, fr⟩ := I.fr
  refine PySem.W.method_type fr I.ok.mod.kin typ_RE (by decide +kernel) vV (by decide +kernel) ?_
  show wpAny _ _ (callWith pos (Value.builtin "RuntimeError.__init__") [] (backTo pos (starEach (e :: es) X.env)) []) _ _ _
  refine PyProof.Rows.callWith_method1 (thn (ha.run pos pins _ σ H _ (I.tok _) h) fun us s1 ⟨vs, H1, I1, r1, a, C, ws, ev, hl, T, ea, q⟩ => ?_) he hpl
  subst ev
  cases r1 with
  | @cons _ u0 _ ur ra rw' =>
    obtain rfl : u0 = Value.ref a := ra
    have hlen : ur.length ≤ sizeLine := by
      rw [← Paired.length rw', sizeLine_eq]
      omega
    exact oinitB_ok (b := xbR) xbR_ok T I1 ea hlen fun s' J => ⟨.non, H1, J, rfl, q⟩
theorem ps_ostB (O : b.Ok) (ho : PE X o to) (he : PE X e te) (hs : swapsWith e (some (.Attribute o f p')) pos.line X.env = pure false := by rfl) : PS X (.Assign [.Attribute o f p'] e pos) (tOsB X.K b f to te) := by
  refine ⟨fun pins s σ H D I h => ?_⟩
  refine plainObj_wpAny_Assign_Attribute (thn (he.run pins s σ H _ I h) fun v s1 ⟨y, H1, I1, r1, q1⟩ => thn (ho.run pins s1 σ H1 _ I1 q1) fun u s2 ⟨x, H2, I2, r2, a, C, ex, T, hno, q⟩ => ?_) hs
  subst ex
  obtain rfl : u = Value.ref a := r2
  rcases q with ⟨ea, q⟩ | ⟨dx, fs, ea, ed, hl, q⟩
  · exact ostB_new O T I2 ea hno r1 fun dx s' n ne J => ⟨σ, _, J, q dx n ne⟩
  · exact ostB_old O T I2 ea ed hl hno r1 fun s' J => ⟨σ, _, J, q⟩
/-- the call of the class -/
theorem run_exV {CX : CXT} {C fI : Addr} {k : Nat} {fd : FuncData} {ps : List Str} {sp : Sp} {pins : List (Addr × Obj)} {σ : St} {H1 : Hp} {s1 : Shared} {Q : VK} {us : List Value} {kw : List (Str × Value)} {args : Addr → List Value} {vals : Addr → List V}
    (O : b.Ok) (T : OexB X.K C b) (iC : PySem.W.findIn X.K (.ref C) "__init__" = some (some (.ref fI))) (tI : PySem.W.typeIn X.K (.ref fI) = some (.type "function"))
    (F1 : FnOk X.prog X.w X.K X.mg X.base CX k fI fd ps sp) (hr : Room (k + 1) X.A) (hx : Passes CX X (fun _ _ _ => False)) (I1 : Inv X pins σ H1 s1) (hus : us.length ≤ sizeLine)
    (hb : ∀ a (s : Shared), X.K.In s.heap → BindsTo s fd ⟨.ref a :: us, kw⟩ (ps.zip (args a))) (r2 : ∀ a, Vals (vals a) (args a))
    (q1 : ∀ a, H1 a = none → sp (vals a) (upd H1 a (exo a C none)) (fun v H2 => v = .non ∧ Q (.ref a) H2) (fun _ _ _ => False)) :
    wpAny (model X.prog X.w) X.A (call (.ref C) us kw) (EP X pins σ Q) X.xe s1 := by
  obtain ⟨nm, q, N, bs, bm, sn, sub, ab, col, dd, k0, k1, k2, k3, k5, hC, hbm⟩ := T.cls
  obtain ⟨hp, g, dr, tk, os⟩ := s1
  have hsz : hp.objs.size ≤ hp.objs.size + 1 := Nat.le_succ _
  have hn : H1 (hp.objs.size + 1) = none := I1.hok.fresh hsz
  have hq := q1 (hp.objs.size + 1) hn
  have kk : ∀ b o, hp.get? b = some o → ((hp.push (PySem.W.kdv_tup us)).push (PySem.HandSPX.excO C hp.objs.size)).get? b = some o := fun b o e => Heap.get?_push_of_some _ (Heap.get?_push_of_some _ e)
  have hget : ((hp.push (PySem.W.kdv_tup us)).push (PySem.HandSPX.excO C hp.objs.size)).get? (hp.objs.size + 1) = some (PySem.HandSPX.excO C hp.objs.size) := by heap_get
  have I2 : Inv X pins σ (upd H1 (hp.objs.size + 1) (exo (hp.objs.size + 1) C none)) ⟨(hp.push (PySem.W.kdv_tup us)).push (PySem.HandSPX.excO C hp.objs.size), g, dr, tk, os⟩ :=
    I1.laid (t' := tk) (a := hp.objs.size + 1) (o := exo (hp.objs.size + 1) C none) (h' := (hp.push (PySem.W.kdv_tup us)).push (PySem.HandSPX.excO C hp.objs.size)) kk hsz (exo_ok hget)
  refine wpAny_call (call_ownK O.F (fun Y => refsT_contains Y bm hbm) (I1.kIn _ _ hC) (PySem.W.looks_findIn I1.kIn iC) (fun self => PySem.W.bind_fn I1.kIn self tI) hus
    (codeAny_mono (F1.run _ X.stack _ _ ⟨Value.ref (hp.objs.size + 1) :: us, kw⟩ (args (hp.objs.size + 1)) _ _ (fun _ _ _ => False) (hr.make C us kw) (I2.env0.make C us kw) (hb _ _ I2.kIn) (r2 _) hq) fun r s' hq' => ?_))
  cases r with
  | error er => exact hx pins σ _ _ er s' I2 hq'
  | ok fl =>
    cases fl with
    | ret u =>
      obtain ⟨v, H', I3, rv, ev, q3⟩ := I2.after hq'
      subst ev
      exact ⟨rv, ⟨V.ref (hp.objs.size + 1), H', I3, rfl, q3⟩⟩
    | next => exact False.elim hq'
    | brk => exact False.elim hq'
    | cont => exact False.elim hq'
theorem pe_exV {CX : CXT} {x : Str} {C fI : Addr} {k : Nat} {fd : FuncData} {ps : List Str} {sp : Sp} (O : b.Ok) (T : OexB X.K C b) (iC : PySem.W.findIn X.K (.ref C) "__init__" = some (some (.ref fI))) (tI : PySem.W.typeIn X.K (.ref fI) = some (.type "function"))
    (F1 : FnOk X.prog X.w X.K X.mg X.base CX k fI fd ps sp) (hr : Room (k + 1) X.A) (hb : Binds X.K fd ps []) (hx : Passes CX X (fun _ _ _ => False)) (hg : Gl X x) (hm : X.mg x = some (.ref C)) (ha : PA X (e :: es) ta)
    (hdb : (x == ("__debug__" : Str)) = false := by decide) (he : starEach (e :: es) X.env = (false, eval e X.env) :: starEach es X.env := by rfl) (hpl : (backTo pos (starEach es X.env)).any (·.1) = false := by rfl) :
    PE X (.Call (.Name x p) (e :: es) [] pos) (tExV C sp ta) := by
  refine ⟨fun pins s σ H Q I h => ?_⟩
  refine wpAny_Call_Name_kw (ld_glob I hg hm ?_ hdb)
  refine PySem.W.callWith_K (h₀ := X.base) I.ok.mod.kin T.kC (thn (ha.run pos pins s σ H _ I h) fun us s1 ⟨vs, H1, I1, r1, hz, q1⟩ => ⟨I1.kIn, ?_⟩) he hpl
  show wpAny _ _ (call (.ref C) us) _ _ _
  have hus : us.length ≤ sizeLine := by
    rw [← Paired.length r1, sizeLine_eq]
    omega
  have hl : ∀ a, (Value.ref a :: us).length = ps.length := fun a => by
    have q := q1 s1.heap.objs.size (I1.hok.fresh (Nat.le_refl _))
    have e1 := F1.len _ _ _ _ q
    have e2 := Paired.length r1
    rw [List.length_cons] at e1 ⊢
    rw [← e2]
    exact e1
  refine run_exV (args := fun a => .ref a :: us) (vals := fun a => .ref a :: vs) O T iC tI F1 hr hx I1 hus (fun a s hK => ?_) (fun a => .cons rfl r1) q1
  have z := hb s (.ref a :: us) hK (by rw [List.append_nil]; exact hl a)
  rw [List.append_nil] at z
  exact z
theorem pe_exV0 {CX : CXT} {x : Str} {C fI : Addr} {k : Nat} {fd : FuncData} {ps : List Str} {sp : Sp} (O : b.Ok) (T : OexB X.K C b) (iC : PySem.W.findIn X.K (.ref C) "__init__" = some (some (.ref fI))) (tI : PySem.W.typeIn X.K (.ref fI) = some (.type "function"))
    (F1 : FnOk X.prog X.w X.K X.mg X.base CX k fI fd ps sp) (hr : Room (k + 1) X.A) (hb : Binds X.K fd ps []) (hx : Passes CX X (fun _ _ _ => False)) (hg : Gl X x) (hm : X.mg x = some (.ref C))
    (hdb : (x == ("__debug__" : Str)) = false := by decide) : PE X (.Call (.Name x p) [] [] pos) (tExV C sp tNil) := by
  refine ⟨fun pins s σ H Q I h => ?_⟩
  refine wpAny_Call_Name_kw (ld_glob I hg hm ?_ hdb)
  refine PySem.W.callWith_K0 I.kIn T.kC ?_
  obtain ⟨_, q1⟩ := (show ([] : List V).length ≤ 1000 ∧ ∀ a, H a = none → sp (.ref a :: []) (upd H a (exo a C none)) (fun v H2 => v = .non ∧ Q (.ref a) H2) (fun _ _ _ => False) from h)
  have hl : ∀ a, [Value.ref a].length = ps.length := fun a => by
    have q := q1 s.heap.objs.size (I.hok.fresh (Nat.le_refl _))
    have e := F1.len _ _ _ _ q
    exact e
  refine run_exV (us := []) (kw := []) (args := fun a => [.ref a]) (vals := fun a => [.ref a]) O T iC tI F1 hr hx I (Nat.zero_le _) (fun a s hK => ?_) (fun a => .cons rfl .nil) q1
  have z := hb s [.ref a] hK (by rw [List.append_nil]; exact hl a)
  rw [List.append_nil] at z
  exact z
theorem pe_exK {CX : CXT} {x : Str} {C fI : Addr} {k : Nat} {fd : FuncData} {ps ks : List Str} {sp : Sp} {kws : List Keyword} {g : List Value → List Value → List Value} {gV : List V → List V → List V} (O : b.Ok) (T : OexB X.K C b) (iC : PySem.W.findIn X.K (.ref C) "__init__" = some (some (.ref fI))) (tI : PySem.W.typeIn X.K (.ref fI) = some (.type "function"))
    (F1 : FnOk X.prog X.w X.K X.mg X.base CX k fI fd ps sp) (hr : Room (k + 1) X.A) (hb : KBn X.K fd ps 1 ks g gV) (hx : Passes CX X (fun _ _ _ => False)) (hg : Gl X x) (hm : X.mg x = some (.ref C)) (hkw : PK X kws tk)
    (hall : (backToKw pos (keywordEach kws X.env)).all (·.1.isSome) = true := by rfl) (hks : (backToKw pos (keywordEach kws X.env)).filterMap (·.1) = ks := by rfl) (hdb : (x == ("__debug__" : Str)) = false := by decide)
    (hpl : ((backTo pos (starEach [] X.env)).any (·.1) || (backToKw pos (keywordEach kws X.env)).any (·.1.isNone)) = false := by rfl) :
    PE X (.Call (.Name x p) [] kws pos) (tExK C ks.length sp gV tk) := by
  refine ⟨fun pins s σ H Q I h => ?_⟩
  refine wpAny_Call_Name_kw (ld_glob I hg hm ?_ hdb)
  refine PySem.W.callWith_KW0 (h₀ := X.base) I.ok.mod.kin T.kC hall ?_ hpl
  refine thn (hkw.run pos pins s σ H _ I h) fun ws s2 ⟨zs, H2, I2, rz, l2, q2⟩ => ⟨I2.kIn, ?_⟩
  rw [hks]
  exact run_exV (us := []) (kw := ks.zip ws) (args := fun a => g [.ref a] ws) (vals := fun a => gV [.ref a] zs) O T iC tI F1 hr hx I2 (Nat.zero_le _)
    (fun a s hK => hb.to s [.ref a] ws hK rfl (rz.length.symm.trans l2)) (fun a => hb.rel (.cons rfl .nil) rz) q2

/-- raise C(e, ..) -/
theorem pmk_oexB {CX : CXT} {x : Str} {C fI : Addr} {k : Nat} {fd : FuncData} {ps : List Str} {sp : Sp} {ds : List Value} {dvs : List V} (O : b.Ok) (T : OexB X.K C b) (iC : PySem.W.findIn X.K (.ref C) "__init__" = some (some (.ref fI))) (tI : PySem.W.typeIn X.K (.ref fI) = some (.type "function"))
    (F1 : FnOk X.prog X.w X.K X.mg X.base CX k fI fd ps sp) (hr : Room (k + 1) X.A) (hb : Binds X.K fd ps ds) (hd : Vals dvs ds) (hx : Passes CX X (fun _ _ _ => False)) (hg : Gl X x) (hm : X.mg x = some (.ref C)) (ha : PA X (e :: es) ta)
    (hdb : (x == ("__debug__" : Str)) = false := by decide) (he : starEach (e :: es) X.env = (false, eval e X.env) :: starEach es X.env := by rfl) (hpl : (backTo pos (starEach es X.env)).any (·.1) = false := by rfl) :
    PMk X (.Call (.Name x p) (e :: es) [] pos) (tMkO C sp dvs ta) := by
  intro pins s σ H Q I h
  obtain ⟨nm, q, N, bs, bm, sn, sub, ab, col, dd, k0, k1, k2, k3, k5, hC, hbm⟩ := T.cls
  refine wpAny_Call_Name_kw (ld_glob I hg hm ?_ hdb)
  refine PySem.W.callWith_K (h₀ := X.base) I.ok.mod.kin T.kC (thn (ha.run pos pins s σ H _ I h) fun us s1 ⟨vs, H1, I1, r1, hz, q1⟩ => ⟨I1.kIn, ?_⟩) he hpl
  show wpAny _ _ (call (.ref C) us) _ _ _
  obtain ⟨hp, g, dr, tk, os⟩ := s1
  have hsz : hp.objs.size ≤ hp.objs.size + 1 := Nat.le_succ _
  have hn : H1 (hp.objs.size + 1) = none := I1.hok.fresh hsz
  have hq := q1 (hp.objs.size + 1) hn
  have kk : ∀ b o, hp.get? b = some o → ((hp.push (PySem.W.kdv_tup us)).push (PySem.HandSPX.excO C hp.objs.size)).get? b = some o := fun b o e => Heap.get?_push_of_some _ (Heap.get?_push_of_some _ e)
  have hget : ((hp.push (PySem.W.kdv_tup us)).push (PySem.HandSPX.excO C hp.objs.size)).get? (hp.objs.size + 1) = some (PySem.HandSPX.excO C hp.objs.size) := by heap_get
  have I2 : Inv X pins σ (upd H1 (hp.objs.size + 1) (exo (hp.objs.size + 1) C none)) ⟨(hp.push (PySem.W.kdv_tup us)).push (PySem.HandSPX.excO C hp.objs.size), g, dr, tk, os⟩ :=
    I1.laid (t' := tk) (a := hp.objs.size + 1) (o := exo (hp.objs.size + 1) C none) (h' := (hp.push (PySem.W.kdv_tup us)).push (PySem.HandSPX.excO C hp.objs.size)) kk hsz (exo_ok hget)
  have r2 : Vals (V.ref (hp.objs.size + 1) :: (vs ++ dvs)) (Value.ref (hp.objs.size + 1) :: (us ++ ds)) := .cons rfl (r1.append hd)
  have hl : (Value.ref (hp.objs.size + 1) :: us ++ ds).length = ps.length := by
    have e := r2.length
    rw [F1.len _ _ _ _ hq] at e
    exact e.symm
  have hus : us.length ≤ sizeLine := by
    rw [← Paired.length r1, sizeLine_eq]
    omega
  refine wpAny_call (call_ownK O.F (fun Y => refsT_contains Y bm hbm) (I1.kIn _ _ hC) (PySem.W.looks_findIn I1.kIn iC) (fun self => PySem.W.bind_fn I1.kIn self tI) hus
    (codeAny_mono (F1.run _ X.stack _ _ ⟨Value.ref (hp.objs.size + 1) :: us, []⟩ (Value.ref (hp.objs.size + 1) :: (us ++ ds)) _ _ (fun _ _ _ => False) (hr.make C us []) (I2.env0.make C us []) (hb _ (Value.ref (hp.objs.size + 1) :: us) I2.kIn hl) r2 hq) fun r s' hq' => ?_))
  cases r with
  | error er => exact hx pins σ _ _ er s' I2 hq'
  | ok fl =>
    cases fl with
    | ret u =>
      obtain ⟨v, H2, os2, bare2, un2, hok2, rv, ev, d, fs, ea, ed, hd1, q2⟩ := hq'
      subst ev
      obtain ⟨h2, g2, d2, t2, os'⟩ := s'
      exact ⟨rv, mk_end (raises_own T.exC T.tyC) I1 hsz kk un2 hok2 os2 bare2 ea ed hd1 q2⟩
    | next => exact False.elim hq'
    | brk => exact False.elim hq'
    | cont => exact False.elim hq'
end
/-- at a stands an exception of the class at C, its dict at d -/
def isX (H : Hp) (a C : Addr) (d : Option Addr) : Prop := H a = some (exo a C d) ∨ H a = some (xo a (.ref C) d)
theorem isX_at {P : Program} {w : World} {H : Hp} {h : Heap} {a C : Addr} {d : Option Addr} (hok : HOk P w H h) (he : isX H a C d) : ∃ oe vs, h.get? a = some oe ∧ Zc (.ref C) d oe ∧ oe.data = .fields vs := by
  rcases he with he | he
  · obtain ⟨t1, e⟩ := exo_at hok he
    exact ⟨_, _, e, ⟨rfl, rfl⟩, rfl⟩
  · exact xo_at hok he
/-- err.f -/
def tXoB (K : PySem.W.Frag) (f : Str) (te : TE) : TE := fun σ H Q => te σ H fun x H1 => ∃ (a C dd : Addr) (fs : List (Str × V)) (v : V), x = .ref a ∧ isX H1 a C (some dd) ∧ XfC K C ∧ PySem.W.findIn K (.ref C) f = some none ∧ (H1 dd = some (.xd fs) ∨ H1 dd = some (exd dd fs)) ∧ fs.lookup f = some v ∧ Q v H1
section
variable {X : Cx}
theorem pe_xoB {e : Expr} {te : TE} {pos : Pos} {f : Str} (he : PE X e te) (hb : attributeBase e f X.env (eval e X.env) = eval e X.env := by rfl) : PE X (.Attribute e f pos) (tXoB X.K f te) := by
  refine ⟨fun pins s σ H Q I h => ?_⟩
  refine attr_of hb (thn (he.run pins s σ H _ I h) fun u s1 hh => ?_)
  obtain ⟨x, H1, I1, rx, a, C, dd, fs, v, ex, ea, T, hno, ed, l, q⟩ := hh
  subst ex
  obtain rfl : u = Value.ref a := rx
  obtain ⟨oe, vs, ha, hz, hd⟩ := isX_at I1.hok ea
  have hx : ∃ mA, s1.heap.Ns1 dd mA ∧ ∀ f, RelO (fs.lookup f) (mA f) := by
    rcases ed with ed | ed
    · exact I1.hok dd _ ed
    · exact exd_at I1.hok ed
  obtain ⟨mA, hns, hr⟩ := hx
  obtain ⟨od, ho, hl⟩ := lookIn_ns hns
  obtain ⟨u, hu, ru⟩ := RelO.some_of (v := v) (o := mA f) (by rw [← l]; exact hr f)
  have J : PySem.W.InstAt s1.heap a oe C (some od) := ⟨ha, hz.1, by unfold PySem.W.notCls; rw [hd] <;> rfl, by rw [hz.2]; exact ho⟩
  exact HandSPX.exc_get I1.kIn J T.ga T.gg T.exC (PySem.W.findObj_own T.hdC hno rfl (by rw [hl, hu])) (handed_of ru) ⟨v, H1, I1.tok _, ru, q⟩
end
end L2
namespace PySem.W
open PySem PySem.Spec PySem.Calls PyProof.Rows
section
variable {prog : Program} {w : World} {A : Around} {E : Value → Shared → Prop} {s : Shared} {K : Frag} {x D : Addr} {ox : Obj} {od : Option Obj}
theorem findObj_dataO {C : Addr} {name : Str} {a g : Value} (hc : (clsIn K C).isSome = true) (ha : findIn K (.ref C) name = some (some a)) (hg : specialIn K a "__get__" = some (some g)) (ht : takesIn K a = some true) : findObj K C od name = some (.bind g a) := by
  obtain ⟨cd, hc⟩ := Option.isSome_iff_exists.mp hc
  unfold findObj
  rw [hc, Option.bind_some, ha, Option.bind_some]
  simp [hg, ht]
theorem kin_classO {Q : Option Value → Shared → Prop} (hga : findIn K (.ref D) "__getattribute__" = some (some (.builtin "BaseException.__getattribute__"))) (hgt : findIn K (.ref D) "__getattr__" = some none) (hsub : subIn K (.ref D) (.type "BaseException") = some true)
    (hdct : hasDictIn K D = true) (ha : findIn K (.ref D) "__class__" = some (some (.builtin "object.__class__")))
    (hn : specialIn K (.builtin "object.__class__") "__get__" = some (some (.builtin "getset_descriptor.__get__"))) (htk : takesIn K (.builtin "object.__class__") = some true) (hm : mroIn K D (.type "object") = some true)
    (X : K.In s.heap) (I : InstAt s.heap x ox D od) (h : Q (some (.ref D)) { s with toks := s.toks + 1 }) : wpAny (model prog w) A (getAttr? (.ref x) "__class__") Q E s := by
  have hf : findObj K D od "__class__" = some (.bind (.builtin "getset_descriptor.__get__") (.builtin "object.__class__")) := findObj_dataO (by obtain ⟨cd, hc, _⟩ := any_some hdct; rw [hc]; rfl) ha hn htk
  obtain ⟨hp, g, d, t, os⟩ := s
  have L0 := I.type (M := model prog w)
  have L1 := looks_findIn (M := model prog w) X hga
  have L2 := looks_findIn (M := model prog w) X hgt
  have L3 := looks_find (M := model prog w) X I hf
  have sub : Looks (model prog w) hp (isInstance (.ref x) (.type "BaseException")) true := L0.andThen (looks_subIn X hsub)
  have hx0 : (false && onTheHeap (Value.builtin "BaseException.__getattribute__")) = false := rfl
  have hx2 : (Value.builtin "BaseException.__getattribute__" == Value.builtin "object.__getattribute__") = false := by decide +kernel
  have hx1 : (onTheHeap (Value.ref D) && Value.builtin "BaseException.__getattribute__" == Value.builtin "object.__getattribute__") = false := by rw [hx2]; rfl
  unfold getAttr? getAttrBy? getAttrBy
  refine wpAny_bind (wpAny_mkText (wpAny_bind (wpAny_attempt (wpAny_holding (wpAny_bind (L0.at (wpAny_bind (L1.at ?_))))))))
  show wpAny _ _ (if (onTheHeap (Value.ref D) && Value.builtin "BaseException.__getattribute__" == Value.builtin "object.__getattribute__") = true then _ else _) _ _ _
  rw [hx1, if_neg Bool.false_ne_true]
  unfold getAttrByItsOwn hookBefore
  refine wpAny_bind ?_
  rw [if_pos (show onTheHeap (Value.ref D) = true from rfl)]
  refine L2.at ?_
  refine wpAny_bind (wpAny_attempt (wpAny_holding ?_))
  unfold callGetattribute
  rw [hx0, if_neg Bool.false_ne_true]
  unfold boundAndCalled
  rw [PySem.F.excAttr_ValueError.ga.bind (.ref x)]
  refine wpAny_bind (wpAny_pure ?_)
  show wpAny _ _ (call (.builtin "BaseException.__getattribute__") [.ref x, .str "__class__" t]) _ _ _
  refine wpAny_call (codeAny_call_builtin PySem.F.excAttr_ValueError.ga.plain PySem.F.entry_bexc_ga ?_)
  refine @check_slot (model prog w) _ _ ⟨hp, g, d, t + 1, os⟩ "BaseException.__getattribute__" "BaseException" "__getattribute__" (.ref x) [.str "__class__" t] [] _ (by decide +kernel) (by decide +kernel) sub (PySem.F.args_bexc_ga (.ref x) (.str "__class__" t)) ?_
  unfold Builtin.«object.__getattribute__»
  refine wpAny_bind (wpAny_of_eq (a := ((Value.ref x : Value), [Value.str "__class__" t])) (by first | rfl | (simp only [slotArgs]; rfl)) ?_)
  refine wpAny_bind (wpAny_pure (wpAny_bind (L0.at (wpAny_bind (L3.at ?_)))))
  show wpAny _ _ (holding [Value.builtin "object.__class__"] (call (.builtin "getset_descriptor.__get__") [.builtin "object.__class__", .ref x, .ref D]) >>= ret) _ _ _
  refine wpAny_bind (wpAny_holding (wpAny_call (class_get (s := ⟨hp, g, d, t + 1, os⟩) (ox := ox) (od := od) X I hm ?_)))
  refine wpAny_pure ?_
  show wpAny _ _ (handedOut (.ref D)) _ _ _
  rw [handedOut_of (v := .ref D) rfl]
  first
    | exact wpAny_pure (wpAny_pure h)
    | exact wpAny_pure h
    | exact wpAny_pure (wpAny_bind (wpAny_pure (wpAny_pure h)))
theorem kitx_excO (hga : findIn K (.ref D) "__getattribute__" = some (some (.builtin "BaseException.__getattribute__"))) (hgt : findIn K (.ref D) "__getattr__" = some none) (hsub : subIn K (.ref D) (.type "BaseException") = some true) (hdct : hasDictIn K D = true) (ha : findIn K (.ref D) "__class__" = some (some (.builtin "object.__class__")))
    (hn : specialIn K (.builtin "object.__class__") "__get__" = some (some (.builtin "getset_descriptor.__get__"))) (htk : takesIn K (.builtin "object.__class__") = some true) (hm : mroIn K D (.type "object") = some true) :
    KitX K (.ref x) (.ref D) (fun h => ∃ ox od, InstAt h x ox D od) where
  ty := fun _ _ _ ⟨_, _, I⟩ => I.type
  it := fun _ _ X _ => by
    obtain ⟨cdD, hcD, _⟩ := any_some hdct
    unfold clsIn at hcD
    split at hcD
    · rename_i c' d' cd' sl' ho
      intro A' Q' E' s' k q
      unfold isType loadHead
      exact wpAny_bind (wpAny_loadPart (k _ _ (X _ _ ho)) (wpAny_pure q))
    · cases hcD
  ne := fun h tp dd its n sl X htp => by
    obtain ⟨cdD, hcD, _⟩ := any_some hdct
    refine Bool.eq_false_iff.mpr fun q => ?_
    have e : D = tp := Value.ref.inj (beq_iff_eq.mp q)
    subst e
    unfold clsIn at hcD
    split at hcD
    · rename_i c' d' cd' sl' ho
      have z := (X _ _ ho).symm.trans htp
      cases z
    · cases hcD
  ca := fun X ⟨ox, od, I⟩ k => kin_classO hga hgt hsub hdct ha hn htk hm X I k
end
end PySem.W
namespace L2
open PySem PySem.Spec PyProof.Rows PySem.OXB
/-- isinstance(e, c), e an exception that stands -/
def rIsX (K : PySem.W.Frag) : List V → Hp → VK → Prop := fun xs H Q => ∃ (a D : Addr) (d : Option Addr) (c : V) (cv : Value) (b : Bool), xs = [.ref a, c] ∧ isX H a D d ∧ (∀ dd, d = some dd → ∃ fs, H dd = some (.xd fs) ∨ H dd = some (exd dd fs)) ∧ ExcC K D ∧ (∀ u, RelV c u → u = cv) ∧ PySem.W.kitOne K (.ref D) cv = some b ∧ Q (.bl b) H
theorem call_isX {X : Cx} : CallR X (.builtin "isinstance") (rIsX X.K) := by
  intro pins s σ H xs us Q I r h
  obtain ⟨a, D, d, c, cv, b, rfl, ha, hdd, C, hcv, e, q⟩ := h
  cases r with
  | cons rx rr =>
    cases rr with
    | cons rt rr =>
      cases rr
      cases rx
      have ec := hcv _ rt
      subst ec
      obtain ⟨oe, vs, hget, hz, hv⟩ := isX_at I.hok ha
      have J : ∃ ox od, PySem.W.InstAt s.heap a ox D od := by
        cases d with
        | none => exact ⟨oe, none, hget, hz.1, by unfold PySem.W.notCls; rw [hv] <;> rfl, by rw [hz.2]; trivial⟩
        | some dd =>
          obtain ⟨fs, ed⟩ := hdd dd rfl
          have hx : ∃ mA, s.heap.Ns1 dd mA ∧ ∀ f, RelO (fs.lookup f) (mA f) := by
            rcases ed with ed | ed
            · exact I.hok dd _ ed
            · exact exd_at I.hok ed
          obtain ⟨mA, hns, _⟩ := hx
          obtain ⟨od, ho, _⟩ := lookIn_ns hns
          exact ⟨oe, some od, hget, hz.1, by unfold PySem.W.notCls; rw [hv] <;> rfl, by rw [hz.2]; exact ho⟩
      exact PySem.W.kia_one (PySem.W.kitx_excO C.hg C.hk C.hs C.hd C.ha C.hn C.ht C.hm) I.kIn J e (fun z => nomatch z) fun tk => ⟨.bl b, H, I.kept (t' := tk) fun _ _ z => z, rfl, q⟩
end L2
namespace L2
open PySem PySem.Spec PyProof.Rows NdefX ClX
abbrev supStmt (p0 p1 ap p2 p3 : Pos) (args : List Expr) : Stmt := .Expr (.Call (.Attribute (.Call (.Name "super" p0) [] [] p1) "__init__" ap) args [] p2) p3
/-- what is written of super() in a def of the class at D, whose code stands at cda, its cell of the class at cc -/
structure SupF (P : Program) (K : PySem.W.Frag) (mg : Str → Option Value) (D cc cda : Addr) : Prop where
  cell : ∃ ocl ocd csl, K.lookup cc = some ⟨ocl, ocd, .cell (some (.ref D)), csl⟩
  cls : ∃ cd, PySem.W.clsIn K D = some cd
  any : PySem.W.nsIn K PySem.cStatics "thirdparty.any" = some none
  code : ∃ (ccl : Value) (cdd : Option Addr) (vs : Array Value) (ccs : Array (Option Value)) (file : Str) (tf : Tok), K.lookup cda = some ⟨ccl, cdd, .fields vs, ccs⟩ ∧ vs[2]? = some (.str file tf) ∧ ((P.main.file : Str) == file) = true
  top : (P.main.scope.names.lookup ("super" : Str)).isSome = false
  mg : mg "super" = none
/-- an instance's class C: behind D the method is the def at f2 -/
structure SupC (K : PySem.W.Frag) (D C f2 : Addr) : Prop where
  sub : PySem.W.mroIn K C (.ref D) = some true
  at_ : PySem.W.ks_superIn K C D "__init__" = some (some (.ref f2))
  fn : PySem.W.typeIn K (.ref f2) = some (.type "function")
  fi : PySem.W.fnIn K f2 = true
theorem fn_sup {P : Program} {w : World} {K : PySem.W.Frag} {mg : Str → Option Value} {base : Heap} {k j : Nat} {f f2 D cc cda : Addr} {name qual : Str} {params : Arguments} {body : List Stmt} {scope : Scope} {dV kV doc pm ct oc : Value} {an od : Option Addr}
    {osl : Array (Option Value)} {N ps ps2 : List Str} {sp sp2 : Sp} {fd2 : FuncData} {p0 p1 ap p2 p3 : Pos} {a0 : Expr} {args : List Expr} {ar : Arg}
    (lk : K.lookup f = some ⟨oc, od, .func (PySem.W.ksFn name qual params (supStmt p0 p1 ap p2 p3 (a0 :: args) :: body) scope dV kV doc pm an (.ref cda) ct cc), osl⟩) (hcd : PySem.W.codeIn K (.ref cda) qual = true) (S : NScope N ps ["__class__"] scope)
    (har : (params.posonlyargs ++ params.args).head? = some ar) (h0 : ps[0]? = some ar.arg) (hsu : scope.names.lookup ("super" : Str) = some .globalImplicit) (SF : SupF P K mg D cc cda)
    (F2 : FnOk P w K mg base CX0 j f2 fd2 ps2 sp2) (hj : j ≤ k) (b2 : Binds K fd2 ps2 [])
    (len : ∀ vs H Q E, sp vs H Q E → vs.length = ps.length)
    (hbody : ∀ (A : Around) (outer : List Env) (s : Shared) (H : Hp) (vs : List V) (Q : VK) (E : XK), Room k (A.deeper (envF ⟨name, qual, params, supStmt p0 p1 ap p2 p3 (a0 :: args) :: body, scope, [("__class__", cc)], cda⟩ f s.heap.objs.size)) → sp vs H Q E →
      ∃ (ta : TA) (t : TS) (C x dx : Addr) (fs : List (Str × V)), PA (ncx CX0 P w K mg base N ⟨name, qual, params, supStmt p0 p1 ap p2 p3 (a0 :: args) :: body, scope, [("__class__", cc)], cda⟩ f A outer s H E) (a0 :: args) ta ∧
        PSs (ncx CX0 P w K mg base N ⟨name, qual, params, supStmt p0 p1 ap p2 p3 (a0 :: args) :: body, scope, [("__class__", cc)], cda⟩ f A outer s H E) body t ∧ vs[0]? = some (.ref x) ∧ H x = some (.ins C dx fs) ∧ SupC K D C f2 ∧
        ta (startF N vs [some (.ref D)]) H fun zs H1 => sp2 (.ref x :: zs) H1 (fun _ H2 => t { nx := fun _ H' => Q .non H', rt := Q } (startF N vs [some (.ref D)]) H2) E0)
    (hst : ∀ env, starEach (a0 :: args) env = (false, eval a0 env) :: starEach args env := by intro env; rfl) (hpl : ∀ env, (backTo p2 (starEach args env)).any (·.1) = false := by intro env; rfl)
    (he : ∀ env, ∃ pl : Sem Bool, eval (.Call (.Attribute (.Call (.Name "super" p0) [] [] p1) "__init__" ap) (a0 :: args) [] p2) env = (do
      let ov ← attributeBase (.Call (.Name "super" p0) [] [] p1) "__init__" env (eval (.Call (.Name "super" p0) [] [] p1) env)
      standAt ap.atName
      let (f, first) ← holding [ov] (getMethod ov "__init__" pl)
      callWith p2 f first (backTo p2 (starEach (a0 :: args) env)) []) := by intro env; exact ⟨_, rfl⟩)
    (hsw : ∀ env, swapsWith (.Call (.Attribute (.Call (.Name "super" p0) [] [] p1) "__init__" ap) (a0 :: args) [] p2) none p3.line env = pure false := by intro env; rfl) :
    FnOk P w K mg base CX0 (k + 1) f (PySem.W.ksFn name qual params (supStmt p0 p1 ap p2 p3 (a0 :: args) :: body) scope dV kV doc pm an (.ref cda) ct cc) ps sp := by
  refine ⟨len, fun A outer s H args' us vs Q E hr e0 hb r hsp => ?_⟩
  have hl := len _ _ _ _ hsp
  have KX : K.In s.heap := e0.mod.kin.keeps fun b o e => (e0.bs b o e).1
  have lim : s.heap.NoLimit := e0.mod.nolimit.keeps fun b o e => (e0.bs b o e).1
  obtain ⟨ocl, ocd, csl, hcell⟩ := SF.cell
  obtain ⟨cdD, hD⟩ := SF.cls
  obtain ⟨ccl, cdd, vsC, ccs, file, tf, hcode, hvs, hfile⟩ := SF.code
  have hbase : K.In base := e0.mod.kin
  have CA : CellsAt [(("__class__" : Str), cc)] ["__class__"] [some (V.ref D)] s.heap H := by
    refine ⟨rfl, fun y c e => ?_, fun x y c e1 e2 => ?_, fun i y e => ?_⟩
    · simp only [List.lookup] at e
      split at e
      · cases e
        exact ⟨(e0.bs _ _ (hbase _ _ hcell)).2, _, _, KX _ _ hcell, rfl⟩
      · cases e
    · simp only [List.lookup] at e1 e2
      split at e1
      · rename_i q1
        split at e2
        · rename_i q2
          rw [eq_of_beq q1, eq_of_beq q2]
        · cases e2
      · cases e1
    · cases i with
      | zero =>
        cases e
        refine ⟨cc, rfl, fun v hv => ?_⟩
        cases hv
        exact ⟨.ref D, rfl, _, KX _ _ hcell, rfl⟩
      | succ i => simp at e
  refine PySem.ks_codeAny_call_defAt hr.depth (KX _ _ lk) rfl lim (PySem.W.codeRec_of KX hcd) rfl hb S.nocell (fun ⟨n, _⟩ hy => S.par n (List.of_mem_zip hy).1) (fun h₁ hns kp => ?_) S.co S.gen S.kind
  obtain ⟨ta, t, C, x, dx, fs, hta, ht, hx0, hxH, SC, hgo⟩ := hbody A outer s H vs Q E (hr.deeper _) hsp
  have I : Inv (ncx CX0 P w K mg base N ⟨name, qual, params, supStmt p0 p1 ap p2 p3 (a0 :: args) :: body, scope, [("__class__", cc)], cda⟩ f A outer s H E) [] (startF N vs [some (.ref D)]) H { s with heap := h₁, toks := s.toks + (ps.zip us).length } := inv_startN S hr.hd e0 hl r CA hns kp
  have J := ins_get I.hok hxH
  obtain ⟨mA, O, _⟩ := J
  obtain ⟨oX, J, _⟩ := O.look
  have hps : ps.Nodup := by
    have q := S.nd.sublist (List.take_sublist (ps.length + 1) N)
    rw [show ps.length + 1 = ps.length + (["__class__"] : List Str).length from rfl, S.pre] at q
    exact (List.nodup_append.mp q).1
  have hux : us[0]? = some (.ref x) := by
    obtain ⟨u, hu, rv⟩ := r.get hx0
    rw [hu, show u = Value.ref x from rv]
  have hself : (ps.zip us).reverse.lookup ar.arg = some (.ref x) := zip_look hps h0 hux
  have hkself : scope.names.lookup ar.arg = some .local := S.par _ (List.mem_of_getElem? h0)
  have hkcls : scope.names.lookup ("__class__" : Str) = some .free := S.frk _ (by simp)
  have KI : K.In h₁ := I.kIn
  obtain ⟨oD, hD1, hD2⟩ : ∃ oD, h₁.get? D = some oD ∧ oD.data = .cls cdD := by
    unfold PySem.W.clsIn at hD
    split at hD
    · rename_i c d cd' sl ho
      cases hD
      exact ⟨_, KI _ _ ho, rfl⟩
    · cases hD
  obtain ⟨pl, he⟩ := he (envF ⟨name, qual, params, supStmt p0 p1 ap p2 p3 (a0 :: args) :: body, scope, [("__class__", cc)], cda⟩ f s.heap.objs.size)
  refine PySem.ks_wpAt_execs_cons (PySem.ks_wpAt_Expr_any (PySem.ks_wpAt_MethodCall (pl := pl) ?_ he) I.quiet (hsw _))
  refine PySem.ks_wpAt_super_base (cc := cda) hsu hkcls (by decide) rfl (KI _ _ lk) rfl har rfl (KI _ _ hcode) rfl hvs hfile SF.top ?_
  obtain ⟨mb, m1, m2⟩ := I.mod.blt
  refine PySem.W.ks_loadName_global S.kind hsu (Calls.loadGlobal_builtin (by exact I.mod.glob.keeps I.bk) SF.mg (by exact m1.keeps I.bk) ((m2 "super" (by decide)).trans (by decide +kernel)) ⟨rfl, ?_⟩)
  refine wpAny_loadName_free S.kind hkcls rfl ⟨_, KI _ _ hcell, rfl⟩ ?_
  refine wpAny_loadName_local S.kind hkself hns hself ?_
  refine PySem.ks_wpAny_isType_cls hD1 hD2 ⟨rfl, ?_⟩
  refine PySem.ks_wpAny_call_super hD1 hD2 J.at_ J.cls (fun c e => ?_) (PySem.W.looks_mroIn KI SC.sub) (fun h' e1 k1 => ?_)
  · have := J.no
    unfold PySem.W.notCls at this
    rw [e] at this
    exact Bool.noConfusion this
  have I1 := I.kept (t' := s.toks + (ps.zip us).length) k1
  have KI1 : K.In h' := I1.kIn
  cases hc : PySem.W.clsIn K C with
  | none => have q := SC.at_; unfold PySem.W.ks_superIn at q; rw [hc] at q; cases q
  | some cd =>
  have hm := SC.at_
  unfold PySem.W.ks_superIn at hm
  rw [hc] at hm
  obtain ⟨of, hof, hofc⟩ : ∃ of, h'.get? f2 = some of ∧ of.cls = .type "function" := by
    have ht' : (K.lookup f2).map (·.cls) = some (.type "function") := SC.fn
    cases z : K.lookup f2 with
    | none => rw [z] at ht'; cases ht'
    | some of => rw [z] at ht'; exact ⟨of, KI1 _ _ z, Option.some.inj ht'⟩
  refine PySem.ks_wpAny_getMethod_super e1 (PySem.W.looks_opaque KI1 SF.any) (l₀ := cd.mro) ?_ rfl KI1 hm hof hofc (PySem.W.ks_ne KI J hc) (by decide) ?_
  · exact fun A Q E s k q => wpAny_bind ((PySem.W.looks_clsIn KI1 hc) A _ E s k (wpAny_pure q))
  have I2 := met_new (g := f2) (C := x) I1
  refine callwith_cm I2 (base_none I1 (Nat.le_refl _)) SC.fi (thn (hta.run p2 _ _ _ _ _ I2 hgo) fun us2 s2 hh => ?_) (hst _) (hpl _)
  obtain ⟨zs, H2, I3, r3, q3⟩ := hh
  refine ⟨⟨pin_at I3, I3.kIn⟩, ?_⟩
  have hl2 : ((Value.ref x :: us2) ++ []).length = ps2.length := by rw [List.append_nil, List.length_cons, ← r3.length]; exact F2.len _ _ _ _ q3
  have hb2 := b2 s2 (Value.ref x :: us2) I3.kIn hl2
  rw [List.append_nil] at hb2
  refine wpAny_call (PySem.W.method_call (pin_at I3) (codeAny_mono (F2.run _ _ s2 H2 ⟨.ref x :: us2, []⟩ (.ref x :: us2) (.ref x :: zs) _ E0 ((hr.deeper _).mono hj) I3.env0 hb2 (.cons rfl r3) q3) fun rr s' hq => ?_))
  cases rr with
  | error e => exact absurd hq (by intro z; exact z)
  | ok fl =>
    cases fl with
    | next => exact False.elim hq
    | brk => exact False.elim hq
    | cont => exact False.elim hq
    | ret u =>
      obtain ⟨v, H4, I4, rv, q4⟩ := I3.after hq
      have I5 : Inv (ncx CX0 P w K mg base N ⟨name, qual, params, supStmt p0 p1 ap p2 p3 (a0 :: args) :: body, scope, [("__class__", cc)], cda⟩ f A outer s H E) [] (startF N vs [some (.ref D)]) H4 s' := I4.pins_of fun p hp => absurd (show p ∈ ([] : List (Addr × Obj)) from hp) (by simp)
      refine wpAt_of_wpAny (wpAny_mono (ht.run [] s' (startF N vs [some (.ref D)]) H4 _ I5 q4) (fun fl s3 hs => ?_) fun e s3 hs => hs)
      have fin : ∀ {σ' : L2.St} {H' : Hp} {v : V} {u : Value}, Inv (ncx CX0 P w K mg base N ⟨name, qual, params, supStmt p0 p1 ap p2 p3 (a0 :: args) :: body, scope, [("__class__", cc)], cda⟩ f A outer s H E) [] σ' H' s3 → L2.RelV v u → Q v H' → CE outer P w H s Q u s3 :=
        fun {σ' H' v u} J rv q => ⟨v, H', J.os, J.bare, J.base, J.hok, rv, q⟩
      cases fl with
      | ret u =>
        obtain ⟨v, σ', H', J, rv, q⟩ := hs
        exact fin J rv q
      | next =>
        obtain ⟨σ', H', J, q⟩ := hs
        exact fin (v := V.non) (u := Value.none) J rfl q
      | brk =>
        obtain ⟨_, _, _, q⟩ := hs
        exact False.elim q
      | cont =>
        obtain ⟨_, _, _, q⟩ := hs
        exact False.elim q
/-- such a def, told by its text -/
structure FunS (P : Program) (K : PySem.W.Frag) (mg : Str → Option Value) (D : Addr) (x qual : Str) (st : Stmt) (f : Addr) (fd : FuncData) : Prop where
  ex : ∃ (oc : Value) (od : Option Addr) (kV doc pm : Value) (an : Option Addr) (cda cc : Addr) (ct : Value) (osl : Array (Option Value)),
    fd = PySem.W.ksFn x qual (defArgs st) (defBody st) (defScope st) .none kV doc pm an (.ref cda) ct cc ∧ K.lookup f = some ⟨oc, od, .func fd, osl⟩ ∧ PySem.W.codeIn K (.ref cda) qual = true ∧ SupF P K mg D cc cda
theorem FunS.ok {P : Program} {w : World} {K : PySem.W.Frag} {mg : Str → Option Value} {base : Heap} {k j : Nat} {f f2 D : Addr} {x qual : Str} {st : Stmt} {fd fd2 : FuncData} {N ps ps2 : List Str} {sp sp2 : Sp} {p0 p1 ap p2 p3 : Pos} {a0 : Expr} {args : List Expr} {ar : Arg} {body : List Stmt}
    (F : FunS P K mg D x qual st f fd) (hb : defBody st = supStmt p0 p1 ap p2 p3 (a0 :: args) :: body) (S : NScope N ps ["__class__"] (defScope st)) (har : ((defArgs st).posonlyargs ++ (defArgs st).args).head? = some ar) (h0 : ps[0]? = some ar.arg)
    (hsu : (defScope st).names.lookup ("super" : Str) = some .globalImplicit) (F2 : FnOk P w K mg base CX0 j f2 fd2 ps2 sp2) (hj : j ≤ k) (b2 : Binds K fd2 ps2 [])
    (len : ∀ vs H Q E, sp vs H Q E → vs.length = ps.length)
    (hbody : ∀ (FF : NF) (A : Around) (outer : List Env) (s : Shared) (H : Hp) (vs : List V) (Q : VK) (E : XK), FF.scope = defScope st → Room k (A.deeper (envF FF f s.heap.objs.size)) → sp vs H Q E →
      ∃ (ta : TA) (t : TS) (C x dx : Addr) (fs : List (Str × V)), PA (ncx CX0 P w K mg base N FF f A outer s H E) (a0 :: args) ta ∧
        PSs (ncx CX0 P w K mg base N FF f A outer s H E) body t ∧ vs[0]? = some (.ref x) ∧ H x = some (.ins C dx fs) ∧ SupC K D C f2 ∧
        ta (startF N vs [some (.ref D)]) H fun zs H1 => sp2 (.ref x :: zs) H1 (fun _ H2 => t { nx := fun _ H' => Q .non H', rt := Q } (startF N vs [some (.ref D)]) H2) E0)
    (hst : ∀ env, starEach (a0 :: args) env = (false, eval a0 env) :: starEach args env := by intro env; rfl) (hpl : ∀ env, (backTo p2 (starEach args env)).any (·.1) = false := by intro env; rfl)
    (he : ∀ env, ∃ pl : Sem Bool, eval (.Call (.Attribute (.Call (.Name "super" p0) [] [] p1) "__init__" ap) (a0 :: args) [] p2) env = (do
      let ov ← attributeBase (.Call (.Name "super" p0) [] [] p1) "__init__" env (eval (.Call (.Name "super" p0) [] [] p1) env)
      standAt ap.atName
      let (f, first) ← holding [ov] (getMethod ov "__init__" pl)
      callWith p2 f first (backTo p2 (starEach (a0 :: args) env)) []) := by intro env; exact ⟨_, rfl⟩)
    (hsw : ∀ env, swapsWith (.Call (.Attribute (.Call (.Name "super" p0) [] [] p1) "__init__" ap) (a0 :: args) [] p2) none p3.line env = pure false := by intro env; rfl) : FnOk P w K mg base CX0 (k + 1) f fd ps sp := by
  obtain ⟨oc, od, kV, doc, pm, an, cda, cc, ct, osl, rfl, lk, hcd, SF⟩ := F.ex
  rw [hb] at lk ⊢
  exact fn_sup lk hcd S har h0 hsu SF F2 hj b2 len (fun A outer s H vs Q E hr hsp => hbody _ A outer s H vs Q E rfl hr hsp) hst hpl he hsw
theorem FunS.binds {P : Program} {K : PySem.W.Frag} {mg : Str → Option Value} {f D : Addr} {x qual : Str} {st : Stmt} {fd : FuncData} {ps : List Str} (F : FunS P K mg D x qual st f fd)
    (h : ∀ (kV doc pm : Value) (an : Option Addr) (cdv ct : Value) (cc : Addr) (us : List Value), us.length = ps.length → bindArgs (PySem.W.ksFn x qual (defArgs st) (defBody st) (defScope st) .none kV doc pm an cdv ct cc) ⟨us, []⟩ = pure (ps.zip us)) : Binds K fd ps [] := by
  obtain ⟨oc, od, kV, doc, pm, an, cda, cc, ct, osl, rfl, lk, hcd, SF⟩ := F.ex
  exact .all (h kV doc pm an (.ref cda) ct cc)
end L2
namespace L2
open PySem PySem.Spec PyProof.Rows
/-- an own special method -/
structure OwnM (K : PySem.W.Frag) (C : Addr) (m : Str) (f : Addr) : Prop where
  at_ : PySem.W.findIn K (.ref C) m = some (some (.ref f))
  fn : PySem.W.isFn K (.ref f) = true
  fi : PySem.W.fnIn K f = true
section
variable {X : Cx} {CX : CXT} {k : Nat} {f C : Addr} {fd : FuncData} {ps : List Str} {sp : Sp} {E : St → XK} {Ec : XK}
/-- the callee runs, somewhere below the running body, with a wish at the slots -/
theorem run_fnAt {pins : List (Addr × Obj)} {σ : L2.St} {H : Hp} {s : Shared} {Q : VK} {us : List Value} {vs : List V} {A : Around} (F : FnOk X.prog X.w X.K X.mg X.base CX k f fd ps sp) (hr : Room k A) (hA : A.frames = X.A.frames) (hb : Binds X.K fd ps []) (hx : PassesAt CX X σ Ec)
    (I : Inv X pins σ H s) (r : Vals vs us) (h : sp vs H Q Ec) : codeAny (model X.prog X.w) A (.call (.ref f) ⟨us, []⟩) (fun r s' => match r with | .error e => X.xe e s' | .ok fl => match fl with | .ret u => EP X pins σ Q u s' | _ => False) s := by
  have e0 : L2.Env0 X.prog X.w X.K X.mg X.base A X.stack s H := by
    have e := I.env0
    exact ⟨by rw [hA]; exact e.frames, e.mod, e.bs, e.bsz, e.funs, e.frf, e.hok, e.bare⟩
  have hl : (us ++ []).length = ps.length := by rw [List.append_nil, ← r.length]; exact F.len _ _ _ _ h
  have hb' := hb s us I.kIn hl
  rw [List.append_nil] at hb'
  refine codeAny_mono (F.run A X.stack s H ⟨us, []⟩ us vs Q Ec hr e0 hb' r h) fun r s' hq => ?_
  cases r with
  | error e => exact hx pins H s e s' I hq
  | ok fl =>
    cases fl with
    | ret u => exact I.after hq
    | next => exact False.elim hq
    | brk => exact False.elim hq
    | cont => exact False.elim hq
theorem call_fnAt {pins : List (Addr × Obj)} {σ : L2.St} {H : Hp} {s : Shared} {Q : VK} {us : List Value} {vs : List V} {A : Around} (F : FnOk X.prog X.w X.K X.mg X.base CX k f fd ps sp) (hr : Room k A) (hA : A.frames = X.A.frames) (hb : Binds X.K fd ps []) (hx : PassesAt CX X σ Ec)
    (I : Inv X pins σ H s) (r : Vals vs us) (h : sp vs H Q Ec) : wpAny (model X.prog X.w) A (call (.ref f) us) (EP X pins σ Q) X.xe s :=
  wpAny_call (codeAny_mono (run_fnAt F hr hA hb hx I r h) fun r s' hq => by
    cases r with
    | error e => exact hq
    | ok fl => cases fl <;> first | exact hq | exact False.elim hq)
def tGetX (C : Addr) (sp : Sp) (E : St → XK) (ta tb : TE) : TE := fun σ H Q => ta σ H fun x H1 => tb σ H1 fun y H2 => ∃ (a dx : Addr) (fs : List (Str × V)), x = .ref a ∧ H2 a = some (.ins C dx fs) ∧ sp [.ref a, y] H2 Q (E σ)
theorem pe_getX {a b : Expr} {ta tb : TE} {pos : Pos} (ha : PE X a ta) (hb : PE X b tb) (hs : PySem.W.findIn X.K (.ref C) "__getitem__" = some (some (.ref f))) (hf : PySem.W.fnIn X.K f = true) (hfn : PySem.W.isFn X.K (.ref f) = true)
    (F : FnOk X.prog X.w X.K X.mg X.base CX k f fd ps sp) (hr : Room k X.A.in1) (hbd : Binds X.K fd ps []) (hx : ∀ σ, PassesAt CX X σ (E σ)) (hA : X.A.in1.frames = X.A.frames := by rfl)
    (hsl : ∀ (x : Addr) (i : Value), subscripted b true (.ref x) i = runValue (.builtin "lifetime.subscript" ⟨[.ref x, i], []⟩) := by intros; with_unfolding_all rfl) : PE X (.Subscript a b pos) (tGetX C sp E ta tb) := by
  refine ⟨fun pins s σ H Q I h => Subscript_ (binT ha hb I h fun v u s2 x y H2 I2 rx ry q => ?_)⟩
  obtain ⟨o, dx, fs, rfl, ho, q⟩ := q
  cases (show v = Value.ref o from rx)
  obtain ⟨mA, O, _⟩ := ins_get I2.hok ho
  obtain ⟨od, J, _⟩ := O.look
  obtain ⟨m, hF⟩ := I2.fr
  exact PySem.W.sub_K hF I2.ok.mod.kin J hs hf hfn (call_fnAt (vs := [.ref o, y]) F hr hA hbd (hx σ) I2 (.cons rfl (.cons ry .nil)) q) (hsl _ _)
/-- .. by values -/
def rGetO (C : Addr) (sp : Sp) (Ec : XK) : V → V → Hp → VK → Prop := fun x y H Q => ∃ (a dx : Addr) (fs : List (Str × V)), x = .ref a ∧ H a = some (.ins C dx fs) ∧ sp [.ref a, y] H Q Ec
theorem get_own (hq : PySem.W.noSeq X.K C = true) (hs : PySem.W.findIn X.K (.ref C) "__getitem__" = some (some (.ref f))) (hfn : PySem.W.isFn X.K (.ref f) = true)
    (F : FnOk X.prog X.w X.K X.mg X.base CX k f fd ps sp) (hr : Room k X.A) (hbd : Binds X.K fd ps []) (hx : ∀ σ, PassesAt CX X σ Ec) : PGet X (rGetO C sp Ec) := by
  intro pins s σ H x y v u Q I rx ry h
  obtain ⟨o, dx, fs, rfl, ho, q⟩ := h
  cases (show v = Value.ref o from rx)
  obtain ⟨mA, O, _⟩ := ins_get I.hok ho
  obtain ⟨od, J, _⟩ := O.look
  obtain ⟨m, hF⟩ := I.fr
  exact PySem.W.getItem_K hF I.ok.mod.kin J hq hs hfn (call_fnAt (vs := [.ref o, y]) F hr rfl hbd (hx σ) I (.cons rfl (.cons ry .nil)) q)
theorem set_run {pins : List (Addr × Obj)} {σ : L2.St} {H : Hp} {s : Shared} {Q : Hp → Prop} {o dx : Addr} {fs : List (Str × V)} {y z : V} {iv u : Value} (hq : PySem.W.noSeq X.K C = true) (hs : PySem.W.findIn X.K (.ref C) "__setitem__" = some (some (.ref f))) (hfn : PySem.W.isFn X.K (.ref f) = true)
    (F : FnOk X.prog X.w X.K X.mg X.base CX k f fd ps sp) (hr : Room k X.A) (hbd : Binds X.K fd ps []) (hx : PassesAt CX X σ Ec) (I : Inv X pins σ H s) (ho : H o = some (.ins C dx fs)) (ry : RelV y iv) (rz : RelV z u) (q : sp [.ref o, y, z] H (fun _ H' => Q H') Ec) :
    wpAny (model X.prog X.w) X.A (setItem (.ref o) iv u) (fun _ s' => ∃ H', Inv X pins σ H' s' ∧ Q H') X.xe s := by
  obtain ⟨mA, O, _⟩ := ins_get I.hok ho
  obtain ⟨od, J, _⟩ := O.look
  obtain ⟨m, hF⟩ := I.fr
  refine PySem.W.ksp_setItem hF I.ok.mod.kin J hq hs hfn (wpAny_mono (call_fnAt (vs := [.ref o, y, z]) F hr rfl hbd hx I (.cons rfl (.cons ry (.cons rz .nil))) q) (fun r s' hq => ?_) fun _ _ e => e)
  obtain ⟨v, H', I', rv, q⟩ := hq
  exact ⟨H', I', q⟩
def rSetO (C : Addr) (sp : Sp) (Ec : XK) : TSet := fun x y z H Q => ∃ (a dx : Addr) (fs : List (Str × V)), x = .ref a ∧ H a = some (.ins C dx fs) ∧ sp [.ref a, y, z] H (fun _ H' => Q H') Ec
theorem set_own (hq : PySem.W.noSeq X.K C = true) (hs : PySem.W.findIn X.K (.ref C) "__setitem__" = some (some (.ref f))) (hfn : PySem.W.isFn X.K (.ref f) = true)
    (F : FnOk X.prog X.w X.K X.mg X.base CX k f fd ps sp) (hr : Room k X.A) (hbd : Binds X.K fd ps []) (hx : ∀ σ, PassesAt CX X σ Ec) : PSet X (rSetO C sp Ec) := by
  intro pins s σ H x y z v iv u Q I rx ry rz h
  obtain ⟨o, dx, fs, rfl, ho, q⟩ := h
  cases (show v = Value.ref o from rx)
  exact set_run hq hs hfn F hr hbd (hx σ) I ho ry rz q
def gSetX (C : Addr) (sp : Sp) (E : St → XK) (to ti : TE) : TG := fun v σ H Q => to σ H fun o H1 => ti σ H1 fun i H2 => ∃ (a dx : Addr) (fs : List (Str × V)), o = .ref a ∧ H2 a = some (.ins C dx fs) ∧ sp [.ref a, i, v] H2 (fun _ H' => Q σ H') (E σ)
theorem pg_setX {o i : Expr} {to ti : TE} {pos : Pos} (ho : PE X o to) (hi : PE X i ti) (hq : PySem.W.noSeq X.K C = true) (hs : PySem.W.findIn X.K (.ref C) "__setitem__" = some (some (.ref f))) (hfn : PySem.W.isFn X.K (.ref f) = true)
    (F : FnOk X.prog X.w X.K X.mg X.base CX k f fd ps sp) (hr : Room k X.A) (hbd : Binds X.K fd ps []) (hx : ∀ σ, PassesAt CX X σ (E σ))
    (ha : ∀ v, assign (.Subscript o i pos) X.env v = (do
      let ov ← holding [v] (eval o X.env)
      let iv ← holding [v, ov] (eval i X.env)
      standAt pos
      holding [v, ov, iv] (setItem ov iv v)
      release [v, ov, iv] []) := by intro _; rfl) : PG X (.Subscript o i pos) (gSetX C sp E to ti) := by
  refine ⟨fun pins s σ H v u Q I r h => ?_⟩
  rw [ha]
  refine wpAny_bind (wpAny_holding (thn (ho.run pins s σ H _ I h) fun ov s1 ⟨x, H1, I1, r1, q1⟩ => ?_))
  refine wpAny_bind (wpAny_holding (thn (hi.run pins s1 σ H1 _ I1 q1) fun iv s2 ⟨y, H2, I2, r2, q2⟩ => ?_))
  obtain ⟨o', dx, fs, rfl, ho', q⟩ := q2
  cases (show ov = Value.ref o' from r1)
  refine wpAny_bind (wpAny_standAt (wpAny_bind (wpAny_holding (thn (set_run (Q := fun H' => Q σ H') hq hs hfn F hr hbd (hx σ) I2 ho' r2 r q) fun _ s3 ⟨H3, I3, q3⟩ => ?_))))
  exact wpAny_release ⟨σ, H3, I3, q3⟩
def rIpO (C : Addr) (sp : Sp) (Ec : XK) : TIp := fun x y H Q => ∃ (a dx : Addr) (fs : List (Str × V)), x = .ref a ∧ H a = some (.ins C dx fs) ∧ sp [.ref a, y] H Q Ec
theorem cmp_back {pins : List (Addr × Obj)} {σ : L2.St} {Q : VK} {u : Value} {s' : Shared} (h : EP X pins σ Q u s') : PySem.W.CmpBack (EP X pins σ Q) u s' := by
  have h2 := h
  obtain ⟨v, H', I, r, q⟩ := h2
  cases u with
  | notImplemented =>
    exfalso
    cases v with
    | int i => obtain ⟨_, z⟩ := (show ∃ t, Value.notImplemented = Value.int i t from r); cases z
    | str i => obtain ⟨_, z⟩ := (show ∃ t, Value.notImplemented = Value.str i t from r); cases z
    | byt i => obtain ⟨_, z⟩ := (show ∃ t, Value.notImplemented = Value.bytes i t from r); cases z
    | flt i => obtain ⟨_, z⟩ := (show ∃ t, Value.notImplemented = Value.float i t from r); cases z
    | _ => cases r
  | _ => exact h
theorem ip_own {op : Operator} (hc : PySem.W.selfFirst X.K C = true) (hs : PySem.W.findIn X.K (.ref C) (dunderI op.info.2) = some (some (.ref f))) (hfn : PySem.W.isFn X.K (.ref f) = true)
    (F : FnOk X.prog X.w X.K X.mg X.base CX k f fd ps sp) (hr : Room k X.A) (hbd : Binds X.K fd ps []) (hx : ∀ σ, PassesAt CX X σ Ec) : PIp X op (rIpO C sp Ec) := by
  intro pins s σ H x y v u Q I rx ry h
  obtain ⟨o, dx, fs, rfl, ho, q⟩ := h
  cases (show v = Value.ref o from rx)
  obtain ⟨mA, O, _⟩ := ins_get I.hok ho
  obtain ⟨od, J, _⟩ := O.look
  obtain ⟨m, hF⟩ := I.fr
  exact PySem.W.ksp_inplace hF I.ok.mod.kin J hc hs hfn (wpAny_mono (call_fnAt (vs := [.ref o, y]) F hr rfl hbd (hx σ) I (.cons rfl (.cons ry .nil)) q) (fun r s' hq => cmp_back hq) fun _ _ e => e)
theorem ins_plain {P : Program} {w : World} {H : Hp} {h : Heap} {a C dx : Addr} {fs : List (Str × V)} (hok : HOk P w H h) (e : H a = some (.ins C dx fs)) : ∃ ox od, PySem.W.InstAt h a ox C od ∧ ox.data = .plain := by
  obtain ⟨mA, O, _⟩ := ins_get hok e
  obtain ⟨od, J, _⟩ := O.look
  exact ⟨_, _, J, rfl⟩
def tCallO (C : Addr) (sp : Sp) (E : St → XK) (te : TE) (t : TA) : TE := fun σ H Q => te σ H fun x H1 => ∃ (a dx : Addr) (fs : List (Str × V)), x = .ref a ∧ H1 a = some (.ins C dx fs) ∧ t σ H1 fun vs H2 => H2 a = some (.ins C dx fs) ∧ sp (.ref a :: vs) H2 Q (E σ)
/-- the callee of a call that is no attribute -/
def Callee (X : Cx) (e : Expr) (args : List Expr) (pos : Pos) : Prop := ∀ {Q : Value → Shared → Prop} {E : Value → Shared → Prop} {s : Shared}, wpAny (model X.prog X.w) X.A (eval e X.env) (fun f s₁ => wpAny (model X.prog X.w) X.A (callWith pos f [] (backTo pos (starEach args X.env)) []) Q E s₁) E s →
  wpAny (model X.prog X.w) X.A (eval (.Call e args [] pos) X.env) Q E s
theorem callee_name {x : Str} {p pos : Pos} {args : List Expr} : Callee X (.Name x p) args pos := fun h => wpAny_Call_Name_kw h
theorem pe_callO0 {e : Expr} {pos : Pos} {te : TE} (hc : Callee X e [] pos) (he : PE X e te) (hs : PySem.W.findIn X.K (.ref C) "__call__" = some (some (.ref f))) (hfn : PySem.W.isFn X.K (.ref f) = true) (hf : PySem.W.fnIn X.K f = true)
    (F : FnOk X.prog X.w X.K X.mg X.base CX k f fd ps sp) (hr : Room k X.A) (hbd : Binds X.K fd ps []) (hx : ∀ σ, PassesAt CX X σ (E σ)) : PE X (.Call e [] [] pos) (tCallO C sp E te tNil) := by
  refine ⟨fun pins s σ H Q I h => hc (thn (he.run pins s σ H _ I h) fun u s1 ⟨x, H1, I1, rx, q⟩ => ?_)⟩
  obtain ⟨o, dx, fs, rfl, ho, _, q⟩ := q
  cases (show u = Value.ref o from rx)
  obtain ⟨ox, od, J, hp⟩ := ins_plain I1.hok ho
  refine PySem.W.kco_callWith0 I1.kIn J hp hs ?_
  exact wpAny_call (codeAny_mono (PySem.W.kco_code I1.kIn J hp hs hfn hf (run_fnAt (vs := [.ref o]) F hr rfl hbd (hx σ) I1 (.cons rfl .nil) q)) fun r s' hq => by
    cases r with
    | error e => exact hq
    | ok fl => cases fl <;> first | exact hq | exact False.elim hq)
end
end L2
namespace L2
open PySem PySem.Spec PyProof.Rows NdefX LamX
/-- a known object of which nothing but the object itself is said -/
abbrev frzO (o : Obj) : HO := .frz o (.own 0)
def lendH (os : Addr → Option Obj) (H : Hp) : Hp := fun b => match os b with
  | some o => some (frzO o)
  | none => H b
def backH (os : Addr → Option Obj) (H : Hp) : Hp := fun b => match os b with
  | some _ => none
  | none => H b
theorem lend_some {os : Addr → Option Obj} {H : Hp} {b : Addr} {o : Obj} (h : os b = some o) : lendH os H b = some (frzO o) := by unfold lendH; rw [h]
theorem lend_none {os : Addr → Option Obj} {H : Hp} {b : Addr} (h : os b = none) : lendH os H b = H b := by unfold lendH; rw [h]
theorem back_some {os : Addr → Option Obj} {H : Hp} {b : Addr} {o : Obj} (h : os b = some o) : backH os H b = none := by unfold backH; rw [h]
theorem back_none {os : Addr → Option Obj} {H : Hp} {b : Addr} (h : os b = none) : backH os H b = H b := by unfold backH; rw [h]
theorem back_lend {os : Addr → Option Obj} {H : Hp} (h : ∀ c o, os c = some o → H c = none) : backH os (lendH os H) = H := by
  funext b
  cases e : os b with
  | none => rw [back_none e, lend_none e]
  | some o => rw [back_some e, h b o e]
theorem lend_back {os : Addr → Option Obj} {H : Hp} (h : ∀ c o, os c = some o → H c = some (frzO o)) : lendH os (backH os H) = H := by
  funext b
  cases e : os b with
  | none => rw [lend_none e, back_none e]
  | some o => rw [lend_some e, h b o e]
section
variable {P : Program} {w : World} {os : Addr → Option Obj} {H H' : Hp} {s s' : Shared} {fs : List Addr} {outer : List Env} {Q : VK} {u : Value}
/-- where the lent things lie -/
structure LentAt (os : Addr → Option Obj) (fs : List Addr) (H : Hp) (h : Heap) : Prop where
  obj : ∀ c o, os c = some o → h.get? c = some o
  free : ∀ c o, os c = some o → H c = none
  fr : ∀ c o, os c = some o → c ∉ fs
theorem HOk.lend {h : Heap} (ok : HOk P w H h) (l : LentAt os fs H h) : HOk P w (lendH os H) h := fun a o e => by
  cases q : os a with
  | some ob =>
    rw [lend_some q] at e
    cases e
    exact ⟨l.obj a ob q, ob, l.obj a ob q⟩
  | none =>
    rw [lend_none q] at e
    have st : ∀ b o, H b = some o → lendH os H b = some o := fun b o hb => by
      cases qb : os b with
      | none => rw [lend_none qb]; exact hb
      | some ob => rw [l.free b ob qb] at hb; cases hb
    exact (ok a o e).stay (fun b u _ z => z) (fun b z => st b _ z) fun b xs z => st b _ z
theorem HOk.back {h : Heap} (ok : HOk P w H h) (hf : ∀ c o, os c = some o → H c = some (frzO o)) : HOk P w (backH os H) h := fun a o e => by
  cases q : os a with
  | some ob => rw [back_some q] at e; cases e
  | none =>
    rw [back_none q] at e
    have st : ∀ b o, H b = some o → (∀ ob, o ≠ frzO ob) → backH os H b = some o := fun b o hb n => by
      cases qb : os b with
      | none => rw [back_none qb]; exact hb
      | some ob => rw [hf b ob qb] at hb; cases hb; exact absurd rfl (n ob)
    exact (ok a o e).stay (fun b u _ z => z) (fun b z => st b _ z (by intro ob z; cases z)) fun b xs z => st b _ z (by intro ob z; cases z)
/-- a call with lent things ends: they are taken back -/
theorem CE.back (l : LentAt os (frs outer) H s.heap) (h : CE outer P w (lendH os H) s (fun v H' => (∀ c o, os c = some o → H' c = some (frzO o)) → Q v (backH os H')) u s') : CE outer P w H s Q u s' := by
  obtain ⟨v, H1, os', bare, un, hok, r, q⟩ := h
  have hf : ∀ c o, os c = some o → H1 c = some (frzO o) := fun c o e => un.frzs c o _ (lend_some e)
  refine ⟨v, backH os H1, os', bare, ⟨fun b o e n nf nx => ?_, fun b o e n nf nx => ?_, fun b o e n nx => ?_, un.there, fun b xs e => ?_, fun b o u e => ?_, fun b ps e => ?_⟩, HOk.back hok hf, r, q hf⟩
  · cases qb : os b with
    | none => exact un.keep b o e (by rw [lend_none qb]; exact n) nf nx
    | some ob =>
      have e2 := l.obj b ob qb
      rw [e] at e2
      cases e2
      exact (hok b _ (hf b o qb)).1
  · cases qb : os b with
    | none => exact un.slot b o e (by rw [lend_none qb]; exact n) nf nx
    | some ob => exact absurd nf (l.fr b ob qb)
  · cases qb : os b with
    | none => rw [back_none qb]; exact un.free b o e (by rw [lend_none qb]; exact n) nx
    | some ob => exact back_some qb
  · cases qb : os b with
    | none => rw [back_none qb]; exact un.tups b xs (by rw [lend_none qb]; exact e)
    | some ob => rw [l.free b ob qb] at e; cases e
  · cases qb : os b with
    | none => rw [back_none qb]; exact un.frzs b o u (by rw [lend_none qb]; exact e)
    | some ob => rw [l.free b ob qb] at e; cases e
  · cases qb : os b with
    | none =>
      obtain ⟨more, z⟩ := un.tbls b ps (by rw [lend_none qb]; exact e)
      exact ⟨more, by rw [back_none qb]; exact z⟩
    | some ob => rw [l.free b ob qb] at e; cases e
/-- a call from a frame that has the things as its own: seen from where they are lent -/
theorem CE.lend (hf : ∀ c o, os c = some o → H c = some (frzO o)) (ok : HOk P w H s.heap) (nf : ∀ c o, os c = some o → c ∉ frs outer) (h : CE outer P w (backH os H) s (fun v H' => Q v (lendH os H')) u s') : CE outer P w H s Q u s' := by
  obtain ⟨v, H1, os', bare, un, hok, r, q⟩ := h
  have ob0 : ∀ c o, os c = some o → s.heap.get? c = some o := fun c o e => (ok c _ (hf c o e)).1
  have ob1 : ∀ c o, os c = some o → s'.heap.get? c = some o := fun c o e => un.keep c o (ob0 c o e) (back_some e) (nf c o e) (by simp)
  have fr1 : ∀ c o, os c = some o → H1 c = none := fun c o e => un.free c o (ob0 c o e) (back_some e) (by simp)
  refine ⟨v, lendH os H1, os', bare, ⟨fun b o e n nf nx => ?_, fun b o e n nf nx => ?_, fun b o e n nx => ?_, un.there, fun b xs e => ?_, fun b o u e => ?_, fun b ps e => ?_⟩, HOk.lend (fs := []) hok ⟨ob1, fr1, fun _ _ _ z => by cases z⟩, r, q⟩
  · cases qb : os b with
    | none => exact un.keep b o e (by rw [back_none qb]; exact n) nf nx
    | some ob => rw [hf b ob qb] at n; cases n
  · cases qb : os b with
    | none => exact un.slot b o e (by rw [back_none qb]; exact n) nf nx
    | some ob => rw [hf b ob qb] at n; cases n
  · cases qb : os b with
    | none => rw [lend_none qb]; exact un.free b o e (by rw [back_none qb]; exact n) nx
    | some ob => rw [hf b ob qb] at n; cases n
  · cases qb : os b with
    | none => rw [lend_none qb]; exact un.tups b xs (by rw [back_none qb]; exact e)
    | some ob => rw [hf b ob qb] at e; cases e
  · cases qb : os b with
    | none => rw [lend_none qb]; exact un.frzs b o u (by rw [back_none qb]; exact e)
    | some ob =>
      rw [hf b ob qb] at e
      cases e
      exact lend_some qb
  · cases qb : os b with
    | none =>
      obtain ⟨more, z⟩ := un.tbls b ps (by rw [back_none qb]; exact e)
      exact ⟨more, by rw [lend_none qb]; exact z⟩
    | some ob => rw [hf b ob qb] at e; cases e
end
structure LentO (X : Cx) (σ : St) (os : Addr → Option Obj) : Prop where
  all : ∀ y c, X.env.cells.lookup y = some c → ∃ o, os c = some o
  only : ∀ c o, os c = some o → ∃ y, X.env.cells.lookup y = some c
  val : ∀ (i : Nat) (y : Str) (c : Addr) (v : V), X.N[i]? = some y → σ[i]? = some (some v) → X.env.cells.lookup y = some c → (X.env.scope.names.lookup y = some .cell ∨ X.env.scope.names.lookup y = some .free) → ∃ o u, os c = some o ∧ o.data = .cell (some u) ∧ RelV v u
  old : ∀ c o, os c = some o → ∀ o0, X.s_0.heap.get? c = some o0 → X.H_0 c = none → c ∉ X.ex → o0 = o
  dat : ∀ c o, os c = some o → ∃ x, o.data = .cell x
section
variable {X : Cx} {pins : List (Addr × Obj)} {σ : St} {H : Hp} {s : Shared}
open Classical in
theorem lend_ex (I : Inv X pins σ H s) (hc : ∀ y c, X.env.cells.lookup y = some c → X.base.get? c = none ∧ c ∉ X.fs) :
    ∃ os, LentO X σ os ∧ LentAt os (frs X.stack) H s.heap ∧ Env0 X.prog X.w X.K X.mg X.base X.A X.stack s (lendH os H) := by
  let os : Addr → Option Obj := fun c => if (∃ y, X.env.cells.lookup y = some c) then s.heap.get? c else none
  have at_ : ∀ {y c}, X.env.cells.lookup y = some c → os c = s.heap.get? c := fun {y c} e => if_pos ⟨y, e⟩
  have of_ : ∀ {c o}, os c = some o → (∃ y, X.env.cells.lookup y = some c) ∧ s.heap.get? c = some o := fun {c o} e => by
    by_cases h : ∃ y, X.env.cells.lookup y = some c
    · exact ⟨h, by rw [← (show os c = s.heap.get? c from if_pos h)]; exact e⟩
    · rw [show os c = none from if_neg h] at e; cases e
  have LA : LentAt os (frs X.stack) H s.heap := ⟨fun c o e => (of_ e).2, fun c o e => by
    obtain ⟨⟨y, hy⟩, _⟩ := of_ e
    exact I.freeC y c hy, fun c o e hm => by
    obtain ⟨⟨y, hy⟩, _⟩ := of_ e
    rcases List.mem_cons.mp (I.stkSub c hm) with z | z
    · exact I.cne y c hy z
    · exact (hc y c hy).2 z⟩
  refine ⟨os, ⟨fun y c e => ?_, fun c o e => (of_ e).1, fun i y c v h1 h2 h3 h4 => ?_, fun c o e o0 e0 n0 nx => ?_, fun c o e => ?_⟩, LA, ?_⟩
  · obtain ⟨v, o, ho, _⟩ := I.cell y c e
    exact ⟨o, by rw [at_ e]; exact ho⟩
  · obtain ⟨m, hn, hl⟩ := I.loc
    obtain ⟨u, r, l⟩ := hl i y v h1 h2 (h4.elim (fun z => .inr (.inl z)) fun z => .inr (.inr z))
    rcases l with ⟨z, _⟩ | ⟨_, a', ha', o, ho, hd⟩
    · have z' : X.env.scope.names.lookup y = some .local := z
      rcases h4 with k | k <;> rw [k] at z' <;> cases z'
    · rw [h3] at ha'
      cases ha'
      exact ⟨o, u, by rw [at_ h3]; exact ho, hd, r⟩
  · obtain ⟨⟨y, hy⟩, e1⟩ := of_ e
    have := I.base.keep c o0 e0 n0 (hc y c hy).2 nx
    rw [e1] at this
    exact (Option.some.inj this).symm
  · obtain ⟨⟨y, hy⟩, e1⟩ := of_ e
    obtain ⟨v, o', ho, hd⟩ := I.cell y c hy
    rw [e1] at ho
    cases ho
    exact ⟨_, hd⟩
  · have e := I.env0
    have nos : ∀ {b}, (∀ y, X.env.cells.lookup y ≠ some b) → os b = none := fun {b} h => if_neg fun ⟨y, hy⟩ => h y hy
    exact ⟨e.frames, e.mod, fun b o hb => ⟨(e.bs b o hb).1, by
      rw [lend_none (nos fun y hy => by rw [(hc y b hy).1] at hb; cases hb)]
      exact (e.bs b o hb).2⟩, e.bsz, e.funs, fun b hb => by
      cases q : os b with
      | none => rw [lend_none q]; exact e.frf b hb
      | some o => exact absurd hb (LA.fr b o q), HOk.lend e.hok LA, e.bare⟩
/-- what is asked of a call that is made with the running frame's cells lent -/
def lentS (X : Cx) (σ : St) (sp : Sp) (vs : List V) (H : Hp) (Q : VK) : Prop := ∀ os, LentO X σ os → (∀ c o, os c = some o → H c = none) → sp vs (lendH os H) (fun v H' => (∀ c o, os c = some o → H' c = some (frzO o)) → Q v (backH os H')) fun _ _ _ => False
/-- the cells of the running frame are its own -/
def OwnC (X : Cx) : Prop := ∀ y c, X.env.cells.lookup y = some c → X.base.get? c = none ∧ c ∉ X.fs
theorem own_cx (ok : X.Ok) (hf : ∀ x, X.fn x = true) : OwnC X := fun y c e => by
  have h := ok.cab y c (hf y) e
  exact ⟨Heap.get?_none_of_le (Nat.le_trans ok.bsz h), fun hb => by
    obtain ⟨_, o, ho, _⟩ := ok.funs.mem hb
    exact absurd (Nat.lt_of_lt_of_le (Heap.lt_size ho) h) (Nat.lt_irrefl _)⟩
variable {k : Nat} {f C : Addr} {fd : FuncData} {ps : List Str} {sp : Sp} {Q : VK}
theorem run_fnL {us : List Value} {vs : List V} (F : FnOk X.prog X.w X.K X.mg X.base CX0 k f fd ps sp) (hr : Room k X.A) (hb : Binds X.K fd ps []) (hc : X.Ok → OwnC X) (I : Inv X pins σ H s) (r : Vals vs us) (h : lentS X σ sp vs H Q) :
    codeAny (model X.prog X.w) X.A (.call (.ref f) ⟨us, []⟩) (fun r s' => match r with | .error e => X.xe e s' | .ok fl => match fl with | .ret u => EP X pins σ Q u s' | _ => False) s := by
  obtain ⟨os, lo, la, e0⟩ := lend_ex I (hc I.ok)
  have hs := h os lo la.free
  have hl : (us ++ []).length = ps.length := by rw [List.append_nil, ← r.length]; exact F.len _ _ _ _ hs
  have hb' := hb s us I.kIn hl
  rw [List.append_nil] at hb'
  refine codeAny_mono (F.run X.A X.stack s _ ⟨us, []⟩ us vs _ _ hr e0 hb' r hs) fun r s' hq => ?_
  cases r with
  | error e => exact False.elim hq
  | ok fl =>
    cases fl with
    | ret u => exact I.after (CE.back la hq)
    | next => exact False.elim hq
    | brk => exact False.elim hq
    | cont => exact False.elim hq
theorem call_fnL {us : List Value} {vs : List V} (F : FnOk X.prog X.w X.K X.mg X.base CX0 k f fd ps sp) (hr : Room k X.A) (hb : Binds X.K fd ps []) (hc : X.Ok → OwnC X) (I : Inv X pins σ H s) (r : Vals vs us) (h : lentS X σ sp vs H Q) :
    wpAny (model X.prog X.w) X.A (call (.ref f) us) (EP X pins σ Q) X.xe s :=
  wpAny_call (codeAny_mono (run_fnL F hr hb hc I r h) fun r s' hq => by
    cases r with
    | error e => exact hq
    | ok fl => cases fl <;> first | exact hq | exact False.elim hq)
variable {x : Str} {p pos apos : Pos} {o e : Expr} {es : List Expr} {ta te : TE} {t : TA} {m : Str}
/-- g(e, ..) with the cells lent -/
def tCallLent (X : Cx) (sp : Sp) (t : TA) : TE := fun σ H Q => t σ H fun vs H1 => lentS X σ sp vs H1 Q
theorem pe_callLent (F : FnOk X.prog X.w X.K X.mg X.base CX0 k f fd ps sp) (hr : Room k X.A) (hc : X.Ok → OwnC X) (hg : Gl X x) (hm : X.mg x = some (.ref f)) (hk : PySem.W.keepIn X.K (.ref f) = true) (hb : Binds X.K fd ps []) (ha : PA X (e :: es) t)
    (hdb : (x == ("__debug__" : Str)) = false := by decide) (he : starEach (e :: es) X.env = (false, eval e X.env) :: starEach es X.env := by rfl) (hpl : (backTo pos (starEach es X.env)).any (·.1) = false := by rfl) :
    PE X (.Call (.Name x p) (e :: es) [] pos) (tCallLent X sp t) := by
  refine ⟨fun pins s σ H Q I h => ?_⟩
  refine wpAny_Call_Name_kw (ld_glob I hg hm ?_ hdb)
  refine PySem.W.callWith_K (first := []) (h₀ := X.base) I.ok.mod.kin hk (thn (ha.run pos pins s σ H _ I h) fun us s2 ⟨vs, H2, I2, r, q2⟩ => ⟨I2.kIn, ?_⟩) he hpl
  exact call_fnL (us := us) (vs := vs) F hr hb hc I2 r q2
/-- o.m(e, ..) with the cells lent -/
def tMethL (X : Cx) (C : Addr) (m : Str) (sp : Sp) (ta : TE) (t : TA) : TE := fun σ H Q => ta σ H fun x H1 => ∃ a dx fs, x = .ref a ∧ H1 a = some (.ins C dx fs) ∧ fs.lookup m = none ∧ t σ H1 fun vs H2 => lentS X σ sp (x :: vs) H2 Q
theorem pe_methL {pl : Sem Bool} (he : PE X o ta) (c : Cls X.K C) (hm : Meth X.K C m f) (F : FnOk X.prog X.w X.K X.mg X.base CX0 k f fd ps sp) (hr : Room k X.A) (hc : X.Ok → OwnC X) (hb : Binds X.K fd ps []) (ha : PA X (e :: es) t)
    (hst : starEach (e :: es) X.env = (false, eval e X.env) :: starEach es X.env := by rfl) (hpl : (backTo pos (starEach es X.env)).any (·.1) = false := by rfl)
    (ht : eval (.Call (.Attribute o m apos) (e :: es) [] pos) X.env = (do
      let ov ← eval o X.env
      standAt apos.atName
      let (f, first) ← holding [ov] (getMethod ov m pl)
      callWith pos f first (backTo pos (starEach (e :: es) X.env)) (backToKw pos (keywordEach [] X.env))) := by rfl) :
    PE X (.Call (.Attribute o m apos) (e :: es) [] pos) (tMethL X C m sp ta t) := by
  refine ⟨fun pins s σ H Q I h => ?_⟩
  refine PySem.W.methodCall_KW (pl := pl) (thn (he.run pins s σ H _ I h) fun u s1 ⟨x, H1, I1, rx, a, dx, fs, ex, ea, l, q⟩ => ?_) ht
  subst ex
  obtain rfl : u = Value.ref a := rx
  refine getmeth_ok I1 ea c hm l ?_
  refine PySem.W.callWith_K (first := [.ref a]) (h₀ := X.base) I.ok.mod.kin hm.kp (thn (ha.run pos pins s1 σ H1 _ I1 q) fun us s2 ⟨vs, H2, I2, r, q2⟩ => ⟨I2.kIn, ?_⟩) hst hpl
  exact call_fnL (us := .ref a :: us) (vs := .ref a :: vs) F hr hb hc I2 (.cons rfl r) q2
theorem pe_meth0L {pl : Sem Bool} (he : PE X o ta) (c : Cls X.K C) (hm : Meth X.K C m f) (F : FnOk X.prog X.w X.K X.mg X.base CX0 k f fd ps sp) (hr : Room k X.A) (hc : X.Ok → OwnC X) (hb : Binds X.K fd ps [])
    (ht : eval (.Call (.Attribute o m apos) [] [] pos) X.env = (do
      let ov ← eval o X.env
      standAt apos.atName
      let (f, first) ← holding [ov] (getMethod ov m pl)
      callWith pos f first (backTo pos (starEach [] X.env)) (backToKw pos (keywordEach [] X.env))) := by rfl) :
    PE X (.Call (.Attribute o m apos) [] [] pos) (tMethL X C m sp ta tNil) := by
  refine ⟨fun pins s σ H Q I h => ?_⟩
  refine PySem.W.methodCall_KW (pl := pl) (thn (he.run pins s σ H _ I h) fun u s1 ⟨x, H1, I1, rx, a, dx, fs, ex, ea, l, q⟩ => ?_) ht
  subst ex
  obtain rfl : u = Value.ref a := rx
  refine getmeth_ok I1 ea c hm l ?_
  refine PySem.W.callWith_K0 (first := [.ref a]) I1.kIn hm.kp ?_
  exact call_fnL (us := [.ref a]) (vs := [.ref a]) F hr hb hc I1 (.cons rfl .nil) q
end
end L2
set_option maxHeartbeats 2000000
namespace L2
open PySem PySem.Spec PyProof.Rows NdefX LamX
section
variable {X : Cx} {pins : List (Addr × Obj)} {σ : St} {H : Hp} {s : Shared}
theorem inv_frz {o : Obj} {t' : Nat} (I : Inv X pins σ H s) (hfd : o.isFreed = false := by rfl) : Inv X pins σ (upd H s.heap.objs.size (frzO o)) { s with heap := s.heap.push o, toks := t' } := by
  have e : (s.heap.push o).get? s.heap.objs.size = some o := Heap.get?_push_size _ hfd
  exact I.laid (a := s.heap.objs.size) (fun b u e => Heap.get?_push_of_some _ e) (Nat.le_refl _) ⟨e, o, e⟩
theorem lam_makeF {T : List (Addr × Str)} {c P : Addr} {params : Arguments} {body : Expr} {scope : Scope} {pos : Pos} {E : Value → Shared → Prop} {Q : Value → Shared → Prop} (I : Inv X pins σ H s) (TB : TabB X.base X.mg c P) (hcode : X.env.code = .ref c)
    (hm : (P, X.env.qual ++ "<lambda>") ∈ T) (hu : ∀ p ∈ T, p.1 = P → p.2 = X.env.qual ++ "<lambda>") (hT : Tabs T H) (hdef : defaultsOf params X.env = ([], [])) (hfree : ∀ y ∈ scope.names, y.2 = .free → ∃ c, X.env.cells.lookup y.1 = some c)
    (h : ∀ (f c' : Addr) (pm ctv : Value) (H1 : Hp) (s' : Shared), Inv X pins σ H1 s' → ExtN H H1 → (∀ b, H1 b = Option.none → H b = Option.none) → Tabs T H1 → H f = none →
      H1 f = some (frzO (PySem.W.kla_obj "<lambda>" (X.env.qual ++ "<lambda>") params body scope (cloFrom X.env.cells scope.names []) pm c' ctv)) → H1 c' = some (CodeO c' (X.env.qual ++ "<lambda>")) → Q (.ref f) s') :
    wpAny (model X.prog X.w) X.A (eval (.Lambda params body scope pos) X.env) Q E s := by
  obtain ⟨ps, hP, ht, ha⟩ := hT _ hm
  refine PySem.W.kla_eval hdef ?_
  have bP : s.heap.BuiltinsAt X.mg P := TB.bm.keeps I.bk
  have hP' : s.heap.get? P = some { cls := .none, data := .fields ps } := I.hok P _ hP
  cases hc : codeAmong pos ps.toList with
  | none =>
    refine PySem.W.kla_makeFunction (mg := X.mg) (c := c) (P := P) (ps := ps) (closure_ok hfree) I.ok.glob (I.mod.glob.keeps I.bk) hcode (TB.code.keeps I.bk) hP' ht hc TB.gP bP fun c' ctv h' tk hx hge hlt hrec htb => ?_
    obtain ⟨c2, oc, vs, t, e2, hoc, hd, hv⟩ := hrec
    cases e2
    have nC : H c' = none := I.hok.fresh hge
    have I1 := inv_table (t' := tk) (more := #[rawInt pos.line, rawInt pos.col, .ref c']) (h' := h') I hP (fun b o hb e => hx b o hb e) htb hge ⟨oc, vs, t, hoc, hd, hv⟩
    have hE : ExtN H (upd (upd H P (.tbl (ps ++ #[rawInt pos.line, rawInt pos.col, .ref c']))) c' (CodeO c' (X.env.qual ++ "<lambda>"))) := fun b o e n => by
      rw [upd_ne (ne_of_none e nC), upd_ne (fun z => n ps (Option.some.inj (e.symm.trans (by rw [z]; exact hP))))]
      exact e
    have eL : (ps ++ #[rawInt pos.line, rawInt pos.col, .ref c']).toList = ps.toList ++ [rawInt pos.line, rawInt pos.col, .ref c'] := by simp
    have T1 : Tabs T (upd (upd H P (.tbl (ps ++ #[rawInt pos.line, rawInt pos.col, .ref c']))) c' (CodeO c' (X.env.qual ++ "<lambda>"))) := fun p hp => by
      by_cases hb : p.1 = P
      · rw [hu p hp hb, hb]
        refine ⟨_, by rw [upd_ne (ne_of_none hP nC), upd_same], by rw [eL]; exact PySem.TriplesOk_snoc _ _ _ _ ht, fun p' cv hcv => ?_⟩
        rw [eL] at hcv
        rcases among_app _ ht hcv with z | z
        · obtain ⟨c0, e1, e2⟩ := ha p' cv z
          exact ⟨c0, e1, hE _ _ e2 codeO_ne⟩
        · exact ⟨c', z, upd_same⟩
      · obtain ⟨ps', a1, a2, a3⟩ := hT p hp
        refine ⟨ps', by rw [upd_ne (ne_of_none a1 nC), upd_ne hb]; exact a1, a2, fun p' cv hcv => ?_⟩
        obtain ⟨c0, e1, e2⟩ := a3 p' cv hcv
        exact ⟨c0, e1, hE _ _ e2 codeO_ne⟩
    have nF := I1.hok.fresh (Nat.le_refl _)
    have I2 := inv_frz (t' := tk) (o := PySem.W.kla_obj "<lambda>" (X.env.qual ++ "<lambda>") params body scope (cloFrom X.env.cells scope.names []) ((X.mg "__name__").getD .none) c' ctv) I1
    refine h h'.objs.size c' _ ctv _ _ I2 (fun b o e n => ?_) (fun b e => upd_none (upd_none (upd_none e))) (T1.ext fun b o e => ?_) (I.hok.fresh (Nat.le_trans hge (Nat.le_of_lt hlt))) upd_same ?_
    · have e1 := hE b o e n
      exact (upd_ne (ne_of_none e1 nF)).trans e1
    · exact (upd_ne (ne_of_none e nF)).trans e
    · exact (upd_ne (Nat.ne_of_lt hlt)).trans upd_same
  | some cv =>
    obtain ⟨c', e, hco⟩ := ha pos cv hc
    subst e
    refine PySem.W.kla_makeFunctionHit (mg := X.mg) (c := c) (P := P) (ps := ps) (closure_ok hfree) I.ok.glob (I.mod.glob.keeps I.bk) hcode (TB.code.keeps I.bk) hP' ht hc bP fun ctv h' tk hx hsz => ?_
    have I1 : Inv X pins σ H { s with heap := h', toks := tk } := I.kept hx
    have nF : H h'.objs.size = none := I1.hok.fresh (Nat.le_refl _)
    have I2 := inv_frz (t' := tk) (o := PySem.W.kla_obj "<lambda>" (X.env.qual ++ "<lambda>") params body scope (cloFrom X.env.cells scope.names []) ((X.mg "__name__").getD .none) c' ctv) I1
    refine h h'.objs.size c' _ ctv _ _ I2 (fun b o e n => ?_) (fun b e => upd_none e) (hT.ext fun b o e => ?_) nF upd_same ?_
    · exact (upd_ne (ne_of_none e nF)).trans e
    · exact (upd_ne (ne_of_none e nF)).trans e
    · exact (upd_ne (ne_of_none hco nF)).trans hco
/-- a lambda as a value -/
def tLamF (X : Cx) (T : List (Addr × Str)) (params : Arguments) (body : Expr) (scope : Scope) : TE := fun σ H Q => Tabs T H ∧ ∀ (f c' : Addr) (pm ctv : Value) (H1 : Hp), ExtN H H1 → (∀ b, H1 b = Option.none → H b = Option.none) → Tabs T H1 → H f = none →
  H1 f = some (frzO (PySem.W.kla_obj "<lambda>" (X.env.qual ++ "<lambda>") params body scope (cloFrom X.env.cells scope.names []) pm c' ctv)) → H1 c' = some (CodeO c' (X.env.qual ++ "<lambda>")) → Q (.ref f) H1
theorem pe_lamF {T : List (Addr × Str)} {c P : Addr} {params : Arguments} {body : Expr} {scope : Scope} {pos : Pos} (TB : TabB X.base X.mg c P) (hcode : X.env.code = .ref c)
    (hm : (P, X.env.qual ++ "<lambda>") ∈ T) (hu : ∀ p ∈ T, p.1 = P → p.2 = X.env.qual ++ "<lambda>") (L : LamS X.env.scope scope) (hdef : defaultsOf params X.env = ([], []) := by rfl) : PE X (.Lambda params body scope pos) (tLamF X T params body scope) :=
  ⟨fun pins s σ H Q I h => lam_makeF I TB hcode hm hu h.1 hdef (L.has I.ok) fun f c' pm ctv H1 s' I1 e1 e2 e3 e4 e5 e6 => ⟨.ref f, H1, I1, rfl, h.2 f c' pm ctv H1 e1 e2 e3 e4 e5 e6⟩⟩
end
/-- the captured names' cells, known objects of H -/
structure CellsF (cl : List (Str × Addr)) (fr : List Str) (ws : List V) (os : Addr → Option Obj) (H : Hp) : Prop where
  len : ws.length = fr.length
  dom : ∀ y c, cl.lookup y = some c → ∃ o, os c = some o
  frz : ∀ c o, os c = some o → H c = some (frzO o) ∧ (∃ u, o.data = .cell u) ∧ ∃ y, cl.lookup y = some c
  inj : ∀ x y c, cl.lookup x = some c → cl.lookup y = some c → x = y
  has : ∀ (i : Nat) (y : Str), fr[i]? = some y → ∃ c, cl.lookup y = some c ∧ ∀ v, ws[i]? = some v → ∃ o u, os c = some o ∧ o.data = .cell (some u) ∧ RelV v u
section
variable {P : Program} {w : World} {K : PySem.W.Frag} {mg : Str → Option Value} {base : Heap} {N fr : List Str} {F : NF} {k : Nat} {params : Arguments} {body : Expr} {te : Cx → TE} {A : Around} {outer : List Env} {s : Shared} {H : Hp} {f : Addr} {pm ctv : Value} {Q : VK} {ws : List V} {os : Addr → Option Obj}
theorem Env0.back (e : Env0 P w K mg base A outer s H) (hf : ∀ c o, os c = some o → H c = some (frzO o)) : Env0 P w K mg base A outer s (backH os H) :=
  ⟨e.frames, e.mod, fun b o hb => ⟨(e.bs b o hb).1, by
    cases q : os b with
    | none => rw [back_none q]; exact (e.bs b o hb).2
    | some ob => exact back_some q⟩, e.bsz, e.funs, fun b hb => by
    cases q : os b with
    | none => rw [back_none q]; exact e.frf b hb
    | some ob => exact back_some q, HOk.back e.hok hf, e.bare⟩
theorem lam_run (S : NScope N [] fr F.scope) (hbind : ∀ pm ctv, bindArgs (PySem.W.kla_fn "<lambda>" F.qual params body F.scope F.cl pm (.ref F.c) ctv) ⟨[], []⟩ = pure [])
    (hbody : ∀ (f : Addr) (A : Around) (outer : List Env) (s : Shared) (H : Hp) (E : XK), Room k (A.deeper (envF F f s.heap.objs.size)) → OwnC (ncx CX0 P w K mg base N F f A outer s H E) → PE (ncx CX0 P w K mg base N F f A outer s H E) body (te (ncx CX0 P w K mg base N F f A outer s H E)))
    (hr : Room (k + 1) A) (e0 : Env0 P w K mg base A outer s H) (hf : H f = some (frzO (PySem.W.kla_obj "<lambda>" F.qual params body F.scope F.cl pm F.c ctv))) (hcd : H F.c = some (CodeO F.c F.qual)) (C : CellsF F.cl fr ws os H)
    (q : te (ncx CX0 P w K mg base N F f A outer s (backH os H) E0) (startF N [] (ws.map some)) (backH os H) fun v H' => Q v (lendH os H')) : codeAny (model P w) A (.call (.ref f) ⟨[], []⟩) (CR CX0 outer P w H s Q E0) s := by
  have lim : s.heap.NoLimit := e0.mod.nolimit.keeps fun b o e => (e0.bs b o e).1
  have hfr : ∀ c o, os c = some o → H c = some (frzO o) := fun c o e => (C.frz c o e).1
  have eB := e0.back hfr
  have ob0 : ∀ c o, os c = some o → s.heap.get? c = some o := fun c o e => (e0.hok c _ (hfr c o e)).1
  have nf : ∀ c o, os c = some o → c ∉ frs outer := fun c o e hb => by have := e0.frf c hb; rw [hfr c o e] at this; cases this
  have CA : CellsAt F.cl fr (ws.map some) s.heap (backH os H) := by
    refine ⟨by rw [List.length_map, C.len], fun y c e => ?_, C.inj, fun i y e => ?_⟩
    · obtain ⟨o, ho⟩ := C.dom y c e
      obtain ⟨_, ⟨u, hu⟩, _⟩ := C.frz c o ho
      exact ⟨back_some ho, u, o, ob0 c o ho, hu⟩
    · obtain ⟨c, hc, hv⟩ := C.has i y e
      refine ⟨c, hc, fun v ev => ?_⟩
      rw [List.getElem?_map] at ev
      cases ew : ws[i]? with
      | none => rw [ew] at ev; cases ev
      | some v' =>
        rw [ew] at ev
        cases ev
        obtain ⟨o, u, ho, hd, r⟩ := hv v ew
        exact ⟨u, r, o, ob0 c o ho, hd⟩
  have hobj := (e0.hok f _ hf).1
  have own : OwnC (ncx CX0 P w K mg base N F f A outer s (backH os H) E0) := fun y c hy => by
    obtain ⟨o, ho⟩ := C.dom y c hy
    refine ⟨?_, nf c o ho⟩
    show base.get? c = none
    cases hb : base.get? c with
    | none => rfl
    | some o' =>
      have := (e0.bs c o' hb).2
      rw [hfr c o ho] at this
      cases this
  have rc : codeAny (model P w) A (.call (.ref f) ⟨[], []⟩) (CR CX0 outer P w (backH os H) s (fun v H' => Q v (lendH os H')) E0) s := by
    refine PySem.W.kla_callFunE hr.depth hobj rfl S.co S.gen rfl (codeO_at e0.hok hcd) ?_
    rw [hbind pm ctv]
    refine wpAny_pure (wpAny_newFunctionEnv S.nocell (fun y hy => absurd hy (by simp)) (fun h₁ hns hsb => ⟨lim.fresh _ hsb, ?_⟩) S.kind)
    show codeAny _ _ (.expr body (envF F f s.heap.objs.size)) _ _
    have kp : ∀ b o, s.heap.get? b = some o → h₁.get? b = some o := fun b o e => hsb.extBut b o (Nat.ne_of_lt (Heap.lt_size e)) (Heap.get?_push_of_some _ e)
    have I : Inv (ncx CX0 P w K mg base N F f A outer s (backH os H) E0) [] (startF N [] (ws.map some)) (backH os H) { s with heap := h₁, toks := s.toks + (([] : List Str).zip ([] : List Value)).length } := inv_startN (ps := []) (us := []) (vs := []) S hr.hd eB rfl .nil CA hns kp
    refine PySem.W.kla_codeExpr (wpAny_mono ((hbody f A outer s (backH os H) E0 (hr.deeper _) own).run [] _ _ _ _ I q) (fun v s' hq => ?_) fun e s' hq => hq)
    obtain ⟨w', H', J', rv, q⟩ := hq
    exact ⟨w', H', J'.os, J'.bare, J'.base, J'.hok, rv, q⟩
  refine codeAny_mono rc fun r s' hq => ?_
  cases r with
  | error e => exact hq
  | ok fl =>
    cases fl with
    | ret u => exact CE.lend hfr e0.hok nf hq
    | next => exact hq
    | brk => exact hq
    | cont => exact hq
/-- «lambda: g(e, ..)», the values of the e's known: it promises what g does -/
theorem lam_call {sp : Sp} {vs : List V} {t : TA} (S : NScope N [] fr F.scope) (hbind : ∀ pm ctv, bindArgs (PySem.W.kla_fn "<lambda>" F.qual params body F.scope F.cl pm (.ref F.c) ctv) ⟨[], []⟩ = pure [])
    (hbody : ∀ (f : Addr) (A : Around) (outer : List Env) (s : Shared) (H : Hp) (E : XK), Room k (A.deeper (envF F f s.heap.objs.size)) → OwnC (ncx CX0 P w K mg base N F f A outer s H E) → PE (ncx CX0 P w K mg base N F f A outer s H E) body (tCallLent (ncx CX0 P w K mg base N F f A outer s H E) sp t))
    (hmono : ∀ (H : Hp) (Q Q' : VK), (∀ v H', Q v H' → Q' v H') → sp vs H Q E0 → sp vs H Q' E0)
    (hr : Room (k + 1) A) (e0 : Env0 P w K mg base A outer s H) (hf : H f = some (frzO (PySem.W.kla_obj "<lambda>" F.qual params body F.scope F.cl pm F.c ctv))) (hcd : H F.c = some (CodeO F.c F.qual)) (C : CellsF F.cl fr ws os H)
    (ht : ∀ (H : Hp) (Q : List V → Hp → Prop), Q vs H → t (startF N [] (ws.map some)) H Q) (q : sp vs H Q E0) : codeAny (model P w) A (.call (.ref f) ⟨[], []⟩) (CR CX0 outer P w H s Q E0) s := by
  have hfr : ∀ c o, os c = some o → H c = some (frzO o) := fun c o e => (C.frz c o e).1
  refine lam_run (te := fun X => tCallLent X sp t) S hbind hbody hr e0 hf hcd C ?_
  refine ht _ _ fun os' lo _ => ?_
  have eo : os' = os := by
    funext c
    cases q1 : os c with
    | none =>
      cases q2 : os' c with
      | none => rfl
      | some o' =>
        obtain ⟨y, hy⟩ := lo.only c o' q2
        obtain ⟨o, ho⟩ := C.dom y c hy
        rw [q1] at ho; cases ho
    | some o =>
      obtain ⟨h1, _, y, hy⟩ := C.frz c o q1
      obtain ⟨o', ho'⟩ := lo.all y c hy
      have := lo.old c o' ho' o (e0.hok c _ h1).1 (back_some q1) (by intro z; cases z)
      rw [ho', this]
  rw [eo, lend_back hfr]
  refine hmono _ _ _ (fun v H' hq hfr' => ?_) q
  show Q v (lendH os (backH os H'))
  rw [lend_back hfr']
  exact hq
end
/-- what is promised of the functions that stand in fields -/
structure WOk (P : Program) (w : World) (K : PySem.W.Frag) (mg : Str → Option Value) (base : Heap) (k : Nat) (wsp : Addr → Hp → VK → Prop) : Prop where
  fn : ∀ g H Q, wsp g H Q → ∃ (o : Obj) (fd : FuncData), H g = some (frzO o) ∧ o.cls = .type "function" ∧ o.data = .func fd
  mono : ∀ {g : Addr} {H : Hp} {Q Q' : VK}, (∀ v H', Q v H' → Q' v H') → wsp g H Q → wsp g H Q'
  run : ∀ (A : Around) (outer : List Env) (s : Shared) (H : Hp) (g : Addr) (Q : VK), Room k A → Env0 P w K mg base A outer s H → wsp g H Q → codeAny (model P w) A (.call (.ref g) ⟨[], []⟩) (CR CX0 outer P w H s Q E0) s
section
variable {X : Cx} {k : Nat} {C : Addr} {m : Str} {wsp : Addr → Hp → VK → Prop} {o : Expr} {ta : TE} {pos apos : Pos}
def tFCall (C : Addr) (m : Str) (wsp : Addr → Hp → VK → Prop) (ta : TE) : TE := fun σ H Q => ta σ H fun x H1 => ∃ a dx fs g, x = .ref a ∧ H1 a = some (.ins C dx fs) ∧ fs.lookup m = some (.ref g) ∧ wsp g H1 Q
theorem pe_fcall0 {pl : Sem Bool} (he : PE X o ta) (c : Cls X.K C) (hn : NoAttr X.K C m) (W : WOk X.prog X.w X.K X.mg X.base k wsp) (hr : Room k X.A)
    (ht : eval (.Call (.Attribute o m apos) [] [] pos) X.env = (do
      let ov ← eval o X.env
      standAt apos.atName
      let (f, first) ← holding [ov] (getMethod ov m pl)
      callWith pos f first (backTo pos (starEach [] X.env)) (backToKw pos (keywordEach [] X.env))) := by rfl) :
    PE X (.Call (.Attribute o m apos) [] [] pos) (tFCall C m wsp ta) := by
  refine ⟨fun pins s σ H Q I h => ?_⟩
  refine PySem.W.methodCall_KW (pl := pl) (thn (he.run pins s σ H _ I h) fun u s1 ⟨x, H1, I1, rx, a, dx, fs, g, ex, ea, l, q⟩ => ?_) ht
  subst ex
  obtain rfl : u = Value.ref a := rx
  obtain ⟨mA, O, _⟩ := ins_get I1.hok ea
  obtain ⟨od, J, _⟩ := O.look
  refine PySem.W.method_usual I1.kIn J (PySem.W.plainGet_of (c.get m)).1 (PySem.W.plainGet_of (c.get m)).2 hn rfl (getattr_ok I1 ea c hn l fun u2 s2 I2 r2 => ?_)
  obtain rfl : u2 = Value.ref g := r2
  obtain ⟨ob, fd, h1, h2, h3⟩ := W.fn g H1 Q q
  have hg := (I2.hok g _ h1).1
  obtain ⟨oc, od', dt, sl⟩ := ob
  cases h2
  cases h3
  refine PySem.W.callWith_F0 (first := []) ⟨_, _, _, _, hg⟩ ?_
  refine wpAny_call (codeAny_mono (W.run X.A X.stack s2 H1 g Q hr I2.env0 q) fun r s' hq => ?_)
  cases r with
  | error e => exact False.elim hq
  | ok fl =>
    cases fl with
    | ret u => exact I2.after hq
    | next => exact False.elim hq
    | brk => exact False.elim hq
    | cont => exact False.elim hq
end
end L2
set_option maxHeartbeats 2000000
namespace L2
open PySem PySem.Spec PyProof.Rows NdefX LamX
section
variable {X : Cx} {k : Nat} {C f : Addr} {fd : FuncData} {ps : List Str} {sp : Sp}
theorem callee_sub {o i : Expr} {p pos : Pos} {args : List Expr} : Callee X (.Subscript o i p) args pos := fun h => by
  have e : eval (.Call (.Subscript o i p) args [] pos) X.env = (do
    callWith pos (← eval (.Subscript o i p) X.env) [] (backTo pos (starEach args X.env)) (backToKw pos (keywordEach [] X.env))) := rfl
  rw [e]
  exact wpAny_bind h
/-- o() by its own __call__, the cells lent -/
def tCallOL (X : Cx) (C : Addr) (sp : Sp) (te : TE) : TE := fun σ H Q => te σ H fun x H1 => ∃ (a dx : Addr) (fs : List (Str × V)), x = .ref a ∧ H1 a = some (.ins C dx fs) ∧ lentS X σ sp [.ref a] H1 Q
theorem pe_callO0L {e : Expr} {pos : Pos} {te : TE} (hc : Callee X e [] pos) (he : PE X e te) (hs : PySem.W.findIn X.K (.ref C) "__call__" = some (some (.ref f))) (hfn : PySem.W.isFn X.K (.ref f) = true) (hf : PySem.W.fnIn X.K f = true)
    (F : FnOk X.prog X.w X.K X.mg X.base CX0 k f fd ps sp) (hr : Room k X.A) (ho : X.Ok → OwnC X) (hbd : Binds X.K fd ps []) : PE X (.Call e [] [] pos) (tCallOL X C sp te) := by
  refine ⟨fun pins s σ H Q I h => hc (thn (he.run pins s σ H _ I h) fun u s1 ⟨x, H1, I1, rx, q⟩ => ?_)⟩
  obtain ⟨o, dx, fs, rfl, hob, q⟩ := q
  cases (show u = Value.ref o from rx)
  obtain ⟨ox, od, J, hp⟩ := ins_plain I1.hok hob
  refine PySem.W.kco_callWith0 I1.kIn J hp hs ?_
  exact wpAny_call (codeAny_mono (PySem.W.kco_code I1.kIn J hp hs hfn hf (run_fnL (us := [.ref o]) (vs := [.ref o]) F hr hbd ho I1 (.cons rfl .nil) q)) fun r s' hq => by
    cases r with
    | error e => exact hq
    | ok fl => cases fl <;> first | exact hq | exact False.elim hq)
theorem s_callOL {te : TE} {σ : St} {H : Hp} {Q : VK} (h : te σ H fun x H1 => ∃ (a dx : Addr) (fs : List (Str × V)), x = .ref a ∧ H1 a = some (.ins C dx fs) ∧ lentS X σ sp [.ref a] H1 Q) : tCallOL X C sp te σ H Q := h
/-- lent: what is known stays -/
theorem lend_same {os : Addr → Option Obj} {H : Hp} (h : ∀ c o, os c = some o → H c = none) : ∀ x o, H x = some o → lendH os H x = some o := fun x o e => by
  cases q : os x with
  | none => rw [lend_none q]; exact e
  | some ob => rw [h x ob q] at e; cases e
/-- taken back: what is no lent thing stays -/
theorem back_keep {os : Addr → Option Obj} {H : Hp} (h : ∀ c o, os c = some o → H c = some (frzO o)) {x : Addr} {o : HO} (e : H x = some o) (n : ∀ ob, o ≠ frzO ob) : backH os H x = some o := by
  cases q : os x with
  | none => rw [back_none q]; exact e
  | some ob => rw [h x ob q] at e; cases e; exact absurd rfl (n ob)
theorem back_keep2 {os : Addr → Option Obj} {H : Hp} {x : Addr} {o : HO} (e : H x = some o) (n : os x = none) : backH os H x = some o := by
  rw [back_none n]; exact e
end
/-- a def whose code object is known -/
structure FunT (K : PySem.W.Frag) (x qual : Str) (st : Stmt) (f : Addr) (fd : FuncData) (c : Addr) : Prop where
  ex : ∃ (oc : Value) (od : Option Addr) (kV doc pm : Value) (an : Option Addr) (ct : Value) (osl : Array (Option Value)),
    fd = PySem.W.fnOf x qual (defArgs st) (defBody st) (defScope st) .none kV doc pm an (.ref c) ct ∧ K.lookup f = some ⟨oc, od, .func fd, osl⟩ ∧ PySem.W.codeIn K (.ref c) qual = true
  kp : PySem.W.keepIn K (.ref f) = true
section
variable {P : Program} {w : World} {K : PySem.W.Frag} {mg : Str → Option Value} {base : Heap}
theorem FunT.fn {x qual : Str} {st : Stmt} {f c : Addr} {fd : FuncData} (F : FunT K x qual st f fd c) : Fun K x qual st f fd := by
  obtain ⟨oc, od, kV, doc, pm, an, ct, osl, e, lk, hcd⟩ := F.ex
  exact ⟨⟨oc, od, kV, doc, pm, an, .ref c, ct, osl, e, lk, hcd⟩, F.kp⟩
theorem FunT.ok {x qual : Str} {st : Stmt} {f c : Addr} {fd : FuncData} {N ps : List Str} {k : Nat} {sp : Sp} (F : FunT K x qual st f fd c) (S : FnScope N ps (defScope st)) (len : ∀ vs H Q E, sp vs H Q E → vs.length = ps.length)
    (hbody : ∀ (A : Around) (outer : List Env) (s : Shared) (H : Hp) (vs : List V) (Q : VK) (E : XK), Room k (A.deeper (envOfC qual (defScope st) s.heap.objs.size f (.ref c))) → sp vs H Q E →
      ∃ t, PSs (cxOf CX0 P w K mg base N qual (defScope st) f (.ref c) A outer s H E).nox (defBody st) t ∧ t { nx := fun _ H' => Q .non H', rt := Q } (start N vs) H) : FnOk P w K mg base CX0 (k + 1) f fd ps sp := by
  obtain ⟨oc, od, kV, doc, pm, an, ct, osl, rfl, lk, hcd⟩ := F.ex
  refine fn_of lk hcd S len fun A outer s H vs Q E hr hsp => ?_
  obtain ⟨t, h, q⟩ := hbody A outer s H vs Q E hr hsp
  exact ⟨t, h.nox, q⟩
theorem fun_mkT {x qual : Str} {st : Stmt} {f c : Addr} {oc : Value} {od an : Option Addr} {osl : Array (Option Value)} {kV doc pm ct : Value} (l : K.lookup f = some ⟨oc, od, .func (PySem.W.fnOf x qual (defArgs st) (defBody st) (defScope st) .none kV doc pm an (.ref c) ct), osl⟩)
    (h : PySem.W.codeIn K (.ref c) qual = true) (k : PySem.W.keepIn K (.ref f) = true) : FunT K x qual st f (PySem.W.fnOf x qual (defArgs st) (defBody st) (defScope st) .none kV doc pm an (.ref c) ct) c := ⟨⟨oc, od, kV, doc, pm, an, ct, osl, rfl, l, h⟩, k⟩
/-- the cells of a def's frame are its own -/
theorem own_of {CX : CXT} {N : List Str} {q : Str} {sc : Scope} {f : Addr} {cd : Value} {A : Around} {outer : List Env} {s : Shared} {H : Hp} {E : XK} : (cxOf CX P w K mg base N q sc f cd A outer s H E).nox.Ok → OwnC (cxOf CX P w K mg base N q sc f cd A outer s H E).nox := fun ok => own_cx ok fun x => rfl
end
end L2
set_option maxHeartbeats 1000000
namespace Tr
open PySem PySem.Spec PyProof.Rows L2
def tkG (K : PySem.W.Frag) (x : Str) : Tok := match PySem.W.nsIn K mainGlobals x with
  | some (some (.int _ t)) => t
  | some (some (.str _ t)) => t
  | _ => 0
def tkC (K : PySem.W.Frag) (C : Addr) (x : Str) : Tok := match PySem.W.findIn K (.ref C) x with
  | some (some (.int _ t)) => t
  | some (some (.str _ t)) => t
  | _ => 0
/-- where a thing stands: a global's name, a class and its method; the def of a classmethod -/
def pl (p : Str × Option Str) (K : PySem.W.Frag) : Addr := He.fAd K p
def plc (C m : Str) (K : PySem.W.Frag) : Addr := He5.wf K (He.ga K C) "classmethod" m
def fdG (K : PySem.W.Frag) (p : Addr) : FuncData := match K.lookup p with
  | some ⟨_, _, .func fd, _⟩ => fd
  | _ => default
inductive Fx where
  | fa (f : He.Fa)
  | tup (x : Str) (vs : List Str)
  | noats (C : Str) (fs : List Str)
  | con (C f : Str) (i : Int)
  | cread (C : Str)
  | cinit (C : Str) (id : String)
  | cval (C f : Str) (i : Int)
  | oex (C : Str)
  | xf (C : Str)
  | init (C : Str)
  | oexb (C : Str) (b : PySem.OXB.XB)
  | excc (C : Str)
  | cinitT (T id : String)
  | kits (ns : List Str)
  | kitc (ns : List Str) (C : Str) (n : Nat)
  | kitt (ns : List Str) (T : String) (n : Nat) (ge : Bool)
  | kit (C D : Str) (b : Bool)
  | cm (C m : Str)
  | ins (C : Str)
  | kitn (C : Str) (Ts : List String)
  | own (C m : Str)
  | sf (C : Str)
  | nsq (C : Str)
  | propof (C f : Str)
  | supc (D C B : Str)
  | methP (D C m : Str)
  | kit1 (C : Str) (T : String) (b : Bool)
/-- a property's getter -/
def plp (C f : Str) (K : PySem.W.Frag) : Addr := match PySem.W.recIn K (He.ma K (He.ga K C) f) "property" with
  | some (.ref g :: _) => g
  | _ => 0
def propB (K : PySem.W.Frag) (C f : Str) : Bool := match PySem.W.recIn K (He.ma K (He.ga K C) f) "property" with
  | some (.ref _ :: _) => true
  | _ => false
def oexbB (K : PySem.W.Frag) (C : Addr) (b : PySem.OXB.XB) : Bool := (match K.lookup C with
  | some ⟨.type t, _, .cls cd, sl⟩ => (match cd.mro, sl.toList with
    | .ref C' :: bm, [_, _, _, _, some (.builtin n), _] => decide (t = "type") && (decide (C' = C) && (decide (n = b.newId) && (!cd.hasDel && (cd.hasDict && PySem.OXB.refsT b.bm bm))))
    | _, _ => false)
  | _ => false) && (He.eqO (PySem.W.findIn K (.ref C) "__setattr__") (some (some (.builtin "object.__setattr__"))) && (decide (PySem.W.subIn K (.ref C) (.type "BaseException") = some true) && (decide (PySem.W.typeIn K (.ref C) = some (.type "type")) && PySem.W.keepIn K (.ref C))))
def exccB (K : PySem.W.Frag) (C : Addr) : Bool := He.eqO (PySem.W.findIn K (.ref C) "__getattribute__") (some (some (.builtin "BaseException.__getattribute__"))) && (He.eqO (PySem.W.findIn K (.ref C) "__getattr__") (some none) && (decide (PySem.W.subIn K (.ref C) (.type "BaseException") = some true) && (PySem.W.hasDictIn K C &&
  (He.eqO (PySem.W.findIn K (.ref C) "__class__") (some (some (.builtin "object.__class__"))) && (He.eqO (PySem.W.specialIn K (.builtin "object.__class__") "__get__") (some (some (.builtin "getset_descriptor.__get__"))) && (decide (PySem.W.takesIn K (.builtin "object.__class__") = some true) && decide (PySem.W.mroIn K C (.type "object") = some true)))))))
def cinitTB (K : PySem.W.Frag) (T id : String) : Bool := match PySem.W.findCls K (.type T) (.type "type") "__init__" with
  | some (.val (.builtin s)) => decide (s = id)
  | _ => false
def oexB (K : PySem.W.Frag) (C : Addr) : Bool := (match K.lookup C with
  | some ⟨.type t, _, .cls cd, sl⟩ => (match cd.mro, sl.toList with
    | .ref C' :: bm, [_, _, _, _, some (.builtin n), _] => decide (t = "type") && (decide (C' = C) && (decide (n = "ValueError.__new__") && (!cd.hasDel && (cd.hasDict && PySem.HandSPX.refsVE bm))))
    | _, _ => false)
  | _ => false) && (He.eqO (PySem.W.findIn K (.ref C) "__setattr__") (some (some (.builtin "object.__setattr__"))) && (decide (PySem.W.subIn K (.ref C) (.type "BaseException") = some true) && (decide (PySem.W.typeIn K (.ref C) = some (.type "type")) && PySem.W.keepIn K (.ref C))))
def conB (K : PySem.W.Frag) (C : Addr) (f : Str) (i : Int) : Bool := match PySem.W.findIn K (.ref C) f with
  | some (some (.int j t)) => decide (j = i) && (He.eqO (PySem.W.specialIn K (.int j t) "__get__") (some none) && !(PySem.W.copiedNames.contains f))
  | _ => false
def tkV (K : PySem.W.Frag) (C : Addr) (x : Str) : Tok := match PySem.W.findCls K (.ref C) (.type "type") x with
  | some (.val (.int _ t)) => t
  | _ => 0
def cvalB (K : PySem.W.Frag) (C : Addr) (f : Str) (i : Int) : Bool := match PySem.W.findCls K (.ref C) (.type "type") f with
  | some (.val (.int j _)) => decide (j = i)
  | _ => false
def cinitB (K : PySem.W.Frag) (C : Addr) (id : String) : Bool := match PySem.W.findCls K (.ref C) (.type "type") "__init__" with
  | some (.val (.builtin s)) => decide (s = id)
  | _ => false
def Fx.ok (K : PySem.W.Frag) : Fx → Bool
  | .fa f => f.ok K
  | .tup x vs => He.tupB K x (vs.map He.Dv.str) && He.eqO (PySem.W.nsIn K mainGlobals x) (some (some (.ref (He.ga K x))))
  | .noats C fs => fs.all fun f => He.eqO (PySem.W.findIn K (.ref (He.ga K C)) f) (some none)
  | .con C f i => conB K (He.ga K C) f i
  | .cread C => PySem.W.readsIn K (He.ga K C) (.type "type") && He.eqO (PySem.W.specialIn K (.ref (He.ga K C)) "__getattribute__") (some (some (.builtin "type.__getattribute__")))
  | .cinit C id => cinitB K (He.ga K C) id
  | .cval C f i => cvalB K (He.ga K C) f i
  | .oex C => oexB K (He.ga K C)
  | .xf C => L2.xfB K (He.ga K C)
  | .init C => He.eqO (PySem.W.findIn K (.ref (He.ga K C)) "__init__") (some (some (.ref (He.ma K (He.ga K C) "__init__")))) && decide (PySem.W.typeIn K (.ref (He.ma K (He.ga K C) "__init__")) = some (.type "function"))
  | .oexb C b => oexbB K (He.ga K C) b
  | .excc C => exccB K (He.ga K C)
  | .cinitT T id => cinitTB K T id
  | .kits ns => (List.range ns.length).all fun i => (List.range ns.length).all fun j => decide (PySem.W.kitOne K (.ref (He.ga K (ns.getD i ""))) (.ref (He.ga K (ns.getD j ""))) = some (decide (i = j)))
  | .kitc ns C n => (List.range ns.length).all fun i => decide (PySem.W.kitOne K (.ref (He.ga K (ns.getD i ""))) (.ref (He.ga K C)) = some (decide (i < n)))
  | .kitt ns T n ge => (List.range ns.length).all fun i => decide (PySem.W.kitOne K (.ref (He.ga K (ns.getD i ""))) (.type T) = some (if ge then decide (n ≤ i) else decide (i < n)))
  | .kit C D b => decide (PySem.W.kitOne K (.ref (He.ga K C)) (.ref (He.ga K D)) = some b)
  | .ins C => He.eqO (PySem.W.findIn K (.ref (He.ga K C)) "__class__") (some (some (.builtin "object.__class__"))) && (He.eqO (PySem.W.specialIn K (.builtin "object.__class__") "__get__") (some (some (.builtin "getset_descriptor.__get__"))) && (decide (PySem.W.takesIn K (.builtin "object.__class__") = some true) && decide (PySem.W.mroIn K (He.ga K C) (.type "object") = some true)))
  | .own C m => He.eqO (PySem.W.findIn K (.ref (He.ga K C)) m) (some (some (.ref (He.ma K (He.ga K C) m)))) && (PySem.W.isFn K (.ref (He.ma K (He.ga K C) m)) && PySem.W.fnIn K (He.ma K (He.ga K C) m))
  | .sf C => PySem.W.selfFirst K (He.ga K C)
  | .nsq C => PySem.W.noSeq K (He.ga K C)
  | .propof C f => He.eqO (PySem.W.findIn K (.ref (He.ga K C)) f) (some (some (.ref (He.ma K (He.ga K C) f)))) && (He.eqO (PySem.W.specialIn K (.ref (He.ma K (He.ga K C) f)) "__get__") (some (some (.builtin "property.__get__"))) && (decide (PySem.W.takesIn K (.ref (He.ma K (He.ga K C) f)) = some true) && propB K C f))
  | .supc D C B => decide (PySem.W.mroIn K (He.ga K C) (.ref (He.ga K D)) = some true) && (He.eqO (PySem.W.ks_superIn K (He.ga K C) (He.ga K D) "__init__") (some (some (.ref (He.ma K (He.ga K B) "__init__")))) && (decide (PySem.W.typeIn K (.ref (He.ma K (He.ga K B) "__init__")) = some (.type "function")) && PySem.W.fnIn K (He.ma K (He.ga K B) "__init__")))
  | .methP D C m => decide (He.ma K (He.ga K C) m = He.ma K (He.ga K D) m) && (He.Fa.meth C m).ok K
  | .kit1 C T b => decide (PySem.W.kitOne K (.ref (He.ga K C)) (.type T) = some b)
  | .kitn C Ts => Ts.all fun T => decide (PySem.W.kitOne K (.type T) (.ref (He.ga K C)) = some false) && PySem.W.notFirst K (He.ga K C) (.type T)
  | .cm C m => He5.wrapB K (He.ga K C) "classmethod" "classmethod.__get__" m && PySem.W.fnIn K (He5.wf K (He.ga K C) "classmethod" m)
section
variable {K : PySem.W.Frag} {h : Heap} {mg : Str → Option Value}
theorem fx_int (X : K.In h) (G : h.Ns mainGlobals mg) {x : Str} {i : Int} (c : (Fx.fa (.int x i)).ok K = true) : mg x = some (.int i (tkG K x)) := by
  have c2 : (match PySem.W.nsIn K mainGlobals x with
    | some (some (.int j _)) => decide (j = i)
    | _ => false) = true := c
  unfold tkG
  split at c2
  · rename_i j t e
    have ej : j = i := of_decide_eq_true c2
    subst ej
    rw [e]
    exact PySem.W.mg_of X G e
  · cases c2
theorem fx_str (X : K.In h) (G : h.Ns mainGlobals mg) {x z : Str} (c : (Fx.fa (.str x z)).ok K = true) : mg x = some (.str z (tkG K x)) := by
  have c2 : (match PySem.W.nsIn K mainGlobals x with
    | some (some (.str y _)) => decide (y = z)
    | _ => false) = true := c
  unfold tkG
  split at c2
  · rename_i j t e
    have ej : j = z := of_decide_eq_true c2
    subst ej
    rw [e]
    exact PySem.W.mg_of X G e
  · cases c2
theorem fx_glo (X : K.In h) (G : h.Ns mainGlobals mg) {x : Str} (c : (Fx.fa (.glo x)).ok K = true) : mg x = some (.ref (He.ga K x)) := He.glo_ok X G c
theorem fx_free (X : K.In h) (G : h.Ns mainGlobals mg) {x : Str} (c : (Fx.fa (.free x)).ok K = true) : mg x = none := He.free_ok X G c
theorem fx_cls {x : Str} (c : (Fx.fa (.cls x)).ok K = true) : Cls K (He.ga K x) := He.cls_ok c
theorem fx_meth {x m : Str} (c : (Fx.fa (.meth x m)).ok K = true) : Meth K (He.ga K x) m (He.ma K (He.ga K x) m) := He.meth_ok c
theorem fx_mkr {x : Str} (c : (Fx.fa (.mkr x)).ok K = true) : Mk K (He.ga K x) (He.ma K (He.ga K x) "__init__") := He.mkr_ok c
theorem fx_exm {x y : Str} {b : Bool} (c : (Fx.fa (.exm x y b)).ok K = true) : PySem.W.exmOne K (.ref (He.ga K x)) (.ref (He.ga K y)) = some b := He.exm_ok c
theorem fx_tup {x : Str} {vs : List Str} (c : (Fx.tup x vs).ok K = true) (H : Hp) : SqT K H (He.ga K x) (vs.map V.str) := by
  have c1 := (He.ba c).1
  have e := He.tupB_ok c1 H
  rw [List.map_map] at e
  exact e
theorem fx_tupG (X : K.In h) (G : h.Ns mainGlobals mg) {x : Str} {vs : List Str} (c : (Fx.tup x vs).ok K = true) : mg x = some (.ref (He.ga K x)) := PySem.W.mg_of X G (He.eqO_ok (He.ba c).2)
theorem fx_noats {C : Str} {fs : List Str} (c : (Fx.noats C fs).ok K = true) (f : Str) (hf : f ∈ fs) : PySem.W.findIn K (.ref (He.ga K C)) f = some none := He.eqO_ok (List.all_eq_true.mp c f hf)
theorem fx_cval {C f : Str} {i : Int} (c : (Fx.cval C f i).ok K = true) : ClX.CVal K (He.ga K C) (.type "type") f (.int i) (.int i (tkV K (He.ga K C) f)) := by
  have c2 : cvalB K (He.ga K C) f i = true := c
  unfold cvalB at c2
  unfold tkV
  split at c2
  · rename_i j t e
    have ej : j = i := of_decide_eq_true c2
    subst ej
    exact ⟨e, ⟨t, rfl⟩⟩
  · cases c2
theorem fx_con {C f : Str} {i : Int} (c : (Fx.con C f i).ok K = true) : Con K (He.ga K C) f (.int i) (.int i (tkC K (He.ga K C) f)) := by
  have c2 : conB K (He.ga K C) f i = true := c
  unfold conB at c2
  unfold tkC
  split at c2
  · rename_i j t e
    obtain ⟨h1, h2⟩ := He.ba c2
    obtain ⟨h3, h4⟩ := He.ba h2
    have ej : j = i := of_decide_eq_true h1
    subst ej
    rw [e]
    exact ⟨e, ⟨t, rfl⟩, He.eqO_ok h3, by simpa using h4⟩
  · cases c2
theorem fx_cread {C : Str} (c : (Fx.cread C).ok K = true) : ClX.CRead K (He.ga K C) (.type "type") := ⟨(He.ba c).1, He.eqO_ok (He.ba c).2⟩
theorem fx_cinit {C : Str} {id : String} (c : (Fx.cinit C id).ok K = true) : PySem.W.findCls K (.ref (He.ga K C)) (.type "type") "__init__" = some (.val (.builtin id)) := by
  have c2 : cinitB K (He.ga K C) id = true := c
  unfold cinitB at c2
  split at c2
  · rename_i s e
    have es : s = id := of_decide_eq_true c2
    subst es
    exact e
  · cases c2
theorem fx_oex {C : Str} (c : (Fx.oex C).ok K = true) : OexC K (He.ga K C) := by
  have c2 : oexB K (He.ga K C) = true := c
  unfold oexB at c2
  obtain ⟨h1, h2⟩ := He.ba c2
  obtain ⟨h3, h4⟩ := He.ba h2
  obtain ⟨h5, h6⟩ := He.ba h4
  obtain ⟨h7, h8⟩ := He.ba h6
  refine ⟨?_, He.eqO_ok h3, of_decide_eq_true h5, of_decide_eq_true h7, h8⟩
  split at h1
  · rename_i t dd cd sl ho
    split at h1
    · rename_i C' bm k0 k1 k2 k3 n k5 hm hs
      obtain ⟨g1, g⟩ := He.ba h1
      obtain ⟨g2, g⟩ := He.ba g
      obtain ⟨g3, g⟩ := He.ba g
      obtain ⟨g4, g⟩ := He.ba g
      obtain ⟨g5, g6⟩ := He.ba g
      have e1 : t = "type" := of_decide_eq_true g1
      have e2 : C' = He.ga K C := of_decide_eq_true g2
      have e3 : n = "ValueError.__new__" := of_decide_eq_true g3
      have e4 : cd.hasDel = false := by simpa using g4
      subst e1 e2 e3
      obtain ⟨nm, bs, mro, ns, qn, hd, sn, sub, ab, col, del⟩ := cd
      have hm' : mro = .ref (He.ga K C) :: bm := hm
      have e4' : del = false := e4
      have e5 : hd = true := g5
      subst hm' e4' e5
      have hsl : sl = #[k0, k1, k2, k3, some (.builtin "ValueError.__new__"), k5] := by
        cases sl with
        | mk l =>
          have hl : l = [k0, k1, k2, k3, some (.builtin "ValueError.__new__"), k5] := hs
          rw [hl]
      subst hsl
      exact ⟨nm, qn, ns, bs, bm, sn, sub, ab, col, dd, k0, k1, k2, k3, k5, ho, g6⟩
    · cases h1
  · cases h1
theorem fx_oexb {C : Str} {b : PySem.OXB.XB} (c : (Fx.oexb C b).ok K = true) : OexB K (He.ga K C) b := by
  have c2 : oexbB K (He.ga K C) b = true := c
  unfold oexbB at c2
  obtain ⟨h1, h2⟩ := He.ba c2
  obtain ⟨h3, h4⟩ := He.ba h2
  obtain ⟨h5, h6⟩ := He.ba h4
  obtain ⟨h7, h8⟩ := He.ba h6
  refine ⟨?_, He.eqO_ok h3, of_decide_eq_true h5, of_decide_eq_true h7, h8⟩
  split at h1
  · rename_i t dd cd sl ho
    split at h1
    · rename_i C' bm k0 k1 k2 k3 n k5 hm hs
      obtain ⟨g1, g⟩ := He.ba h1
      obtain ⟨g2, g⟩ := He.ba g
      obtain ⟨g3, g⟩ := He.ba g
      obtain ⟨g4, g⟩ := He.ba g
      obtain ⟨g5, g6⟩ := He.ba g
      have e1 : t = "type" := of_decide_eq_true g1
      have e2 : C' = He.ga K C := of_decide_eq_true g2
      have e3 : n = b.newId := of_decide_eq_true g3
      have e4 : cd.hasDel = false := by simpa using g4
      subst e1 e2 e3
      obtain ⟨nm, bs, mro, ns, qn, hd, sn, sub, ab, col, del⟩ := cd
      have hm' : mro = .ref (He.ga K C) :: bm := hm
      have e4' : del = false := e4
      have e5 : hd = true := g5
      subst hm' e4' e5
      have hsl : sl = #[k0, k1, k2, k3, some (.builtin b.newId), k5] := by
        cases sl with
        | mk l =>
          have hl : l = [k0, k1, k2, k3, some (.builtin b.newId), k5] := hs
          rw [hl]
      subst hsl
      exact ⟨nm, qn, ns, bs, bm, sn, sub, ab, col, dd, k0, k1, k2, k3, k5, ho, g6⟩
    · cases h1
  · cases h1
theorem fx_excc {C : Str} (c : (Fx.excc C).ok K = true) : ExcC K (He.ga K C) := by
  have c2 : exccB K (He.ga K C) = true := c
  unfold exccB at c2
  obtain ⟨h1, c2⟩ := He.ba c2
  obtain ⟨h2, c2⟩ := He.ba c2
  obtain ⟨h3, c2⟩ := He.ba c2
  obtain ⟨h4, c2⟩ := He.ba c2
  obtain ⟨h5, c2⟩ := He.ba c2
  obtain ⟨h6, c2⟩ := He.ba c2
  obtain ⟨h7, h8⟩ := He.ba c2
  exact ⟨He.eqO_ok h1, He.eqO_ok h2, of_decide_eq_true h3, h4, He.eqO_ok h5, He.eqO_ok h6, of_decide_eq_true h7, of_decide_eq_true h8⟩
theorem fx_cinitT {T id : String} (c : (Fx.cinitT T id).ok K = true) : PySem.W.findCls K (.type T) (.type "type") "__init__" = some (.val (.builtin id)) := by
  have c2 : cinitTB K T id = true := c
  unfold cinitTB at c2
  split at c2
  · rename_i s e
    have es : s = id := of_decide_eq_true c2
    subst es
    exact e
  · cases c2
theorem fx_kits {ns : List Str} (c : (Fx.kits ns).ok K = true) (i : Nat) (hi : i < ns.length) (j : Nat) (hj : j < ns.length) : PySem.W.kitOne K (.ref (He.ga K (ns.getD i ""))) (.ref (He.ga K (ns.getD j ""))) = some (decide (i = j)) :=
  of_decide_eq_true (List.all_eq_true.mp (List.all_eq_true.mp c i (List.mem_range.mpr hi)) j (List.mem_range.mpr hj))
theorem fx_kitc {ns : List Str} {C : Str} {n : Nat} (c : (Fx.kitc ns C n).ok K = true) (i : Nat) (hi : i < ns.length) : PySem.W.kitOne K (.ref (He.ga K (ns.getD i ""))) (.ref (He.ga K C)) = some (decide (i < n)) :=
  of_decide_eq_true (List.all_eq_true.mp c i (List.mem_range.mpr hi))
theorem fx_kitt {ns : List Str} {T : String} {n : Nat} {ge : Bool} (c : (Fx.kitt ns T n ge).ok K = true) (i : Nat) (hi : i < ns.length) : PySem.W.kitOne K (.ref (He.ga K (ns.getD i ""))) (.type T) = some (if ge then decide (n ≤ i) else decide (i < n)) :=
  of_decide_eq_true (List.all_eq_true.mp c i (List.mem_range.mpr hi))
theorem fx_kit {C D : Str} {b : Bool} (c : (Fx.kit C D b).ok K = true) : PySem.W.kitOne K (.ref (He.ga K C)) (.ref (He.ga K D)) = some b := of_decide_eq_true c
theorem fx_cm {C m : Str} (c : (Fx.cm C m).ok K = true) : ClX.CMet K (He.ga K C) (.type "type") m (He.ma K (He.ga K C) m) (He5.wf K (He.ga K C) "classmethod" m) := He5.cmet_of (He.ba c).1 (He.ba c).2
theorem fx_ins1 {C : Str} (c : (Fx.ins C).ok K = true) : PySem.W.findIn K (.ref (He.ga K C)) "__class__" = some (some (.builtin "object.__class__")) := He.eqO_ok (He.ba c).1
theorem fx_ins2 {C : Str} (c : (Fx.ins C).ok K = true) : PySem.W.specialIn K (.builtin "object.__class__") "__get__" = some (some (.builtin "getset_descriptor.__get__")) := He.eqO_ok (He.ba (He.ba c).2).1
theorem fx_ins3 {C : Str} (c : (Fx.ins C).ok K = true) : PySem.W.takesIn K (.builtin "object.__class__") = some true := of_decide_eq_true (He.ba (He.ba (He.ba c).2).2).1
theorem fx_ins4 {C : Str} (c : (Fx.ins C).ok K = true) : PySem.W.mroIn K (He.ga K C) (.type "object") = some true := of_decide_eq_true (He.ba (He.ba (He.ba c).2).2).2
theorem fx_kitn {C : Str} {Ts : List String} (c : (Fx.kitn C Ts).ok K = true) (T : String) (hT : T ∈ Ts) : PySem.W.kitOne K (.type T) (.ref (He.ga K C)) = some false := of_decide_eq_true (He.ba (List.all_eq_true.mp c T hT)).1
theorem fx_notf {C : Str} {Ts : List String} (c : (Fx.kitn C Ts).ok K = true) (T : String) (hT : T ∈ Ts) : PySem.W.notFirst K (He.ga K C) (.type T) = true := (He.ba (List.all_eq_true.mp c T hT)).2
theorem fx_own {C m : Str} (c : (Fx.own C m).ok K = true) : OwnM K (He.ga K C) m (He.ma K (He.ga K C) m) := ⟨He.eqO_ok (He.ba c).1, (He.ba (He.ba c).2).1, (He.ba (He.ba c).2).2⟩
theorem fx_sf {C : Str} (c : (Fx.sf C).ok K = true) : PySem.W.selfFirst K (He.ga K C) = true := c
theorem fx_nsq {C : Str} (c : (Fx.nsq C).ok K = true) : PySem.W.noSeq K (He.ga K C) = true := c
theorem fx_propof {C f : Str} (c : (Fx.propof C f).ok K = true) : PropOf K (He.ga K C) f (He.ma K (He.ga K C) f) (plp C f K) := by
  obtain ⟨h1, c⟩ := He.ba c
  obtain ⟨h2, c⟩ := He.ba c
  obtain ⟨h3, h4⟩ := He.ba c
  refine ⟨He.eqO_ok h1, He.eqO_ok h2, of_decide_eq_true h3, ?_⟩
  unfold propB at h4
  unfold plp
  split at h4
  · rename_i g r e
    rw [e]
    exact ⟨r, rfl⟩
  · cases h4
theorem fx_methP {D C m : Str} (c : (Fx.methP D C m).ok K = true) : Meth K (He.ga K C) m (He.ma K (He.ga K D) m) := by
  obtain ⟨h1, h2⟩ := He.ba c
  rw [← of_decide_eq_true h1]
  exact He.meth_ok h2
theorem fx_supc {D C B : Str} (c : (Fx.supc D C B).ok K = true) : SupC K (He.ga K D) (He.ga K C) (He.ma K (He.ga K B) "__init__") := by
  obtain ⟨h1, c⟩ := He.ba c
  obtain ⟨h2, c⟩ := He.ba c
  obtain ⟨h3, h4⟩ := He.ba c
  exact ⟨of_decide_eq_true h1, He.eqO_ok h2, of_decide_eq_true h3, h4⟩
theorem fx_kit1 {C : Str} {T : String} {b : Bool} (c : (Fx.kit1 C T b).ok K = true) : PySem.W.kitOne K (.ref (He.ga K C)) (.type T) = some b := of_decide_eq_true c
theorem fx_xf {C : Str} (c : (Fx.xf C).ok K = true) : XfC K (He.ga K C) := xfB_ok c
theorem fx_init1 {C : Str} (c : (Fx.init C).ok K = true) : PySem.W.findIn K (.ref (He.ga K C)) "__init__" = some (some (.ref (He.ma K (He.ga K C) "__init__"))) := He.eqO_ok (He.ba c).1
theorem fx_init2 {C : Str} (c : (Fx.init C).ok K = true) : PySem.W.typeIn K (.ref (He.ma K (He.ga K C) "__init__")) = some (.type "function") := of_decide_eq_true (He.ba c).2
end
structure DefB where
  d : He5.DefA
  c : Option (Str × Str) := none
def fnS (K : PySem.W.Frag) (a : Addr) : He.FnW := match K.lookup a with
  | some ⟨_, _, .func fd, _⟩ => some (fd.name, fd.qualname, fd.params, fd.body, fd.scope, fd.globals, [], fd.builtins)
  | _ => none
def cellB (K : PySem.W.Frag) (cc D : Addr) : Bool := match K.lookup cc with
  | some ⟨_, _, .cell (some (.ref D')), _⟩ => decide (D' = D)
  | _ => false
def fileB (K : PySem.W.Frag) (cda : Addr) (file : Str) : Bool := match K.lookup cda with
  | some ⟨_, _, .fields vs, _⟩ => (match (vs[2]? : Option Value) with
    | some (Value.str f _) => decide (f = file)
    | _ => false)
  | _ => false
def clos (fd : FuncData) (K : PySem.W.Frag) (D : Addr) (qual file : Str) : Bool := match fd.closure, fd.code, fd.defaults with
  | [(x, cc)], .ref cda, .none => decide (x = "__class__") && (PySem.W.codeIn K (.ref cda) qual && (cellB K cc D && ((PySem.W.clsIn K D).isSome && (He.eqO (PySem.W.nsIn K PySem.cStatics "thirdparty.any") (some none) && fileB K cda file))))
  | _, _, _ => false
def supB (K : PySem.W.Frag) (f D : Addr) (qual file : Str) : Bool := match K.lookup f with
  | some ⟨_, _, .func fd, _⟩ => clos fd K D qual file
  | _ => false
def DefB.fn (K : PySem.W.Frag) (e : DefB) : He.FnW := match e.c with
  | none => He5.fnA K (e.d.at_ K)
  | some _ => fnS K (e.d.at_ K)
def DefB.ok (K : PySem.W.Frag) (e : DefB) : Bool := match e.c with
  | none => e.d.ok K
  | some (C, file) => supB K (e.d.at_ K) (He.ga K C) e.d.qual file
abbrev AlB : Type := Bool × List He.FnW
def obsB (fx : List Fx) (fn : List DefB) (K : PySem.W.Frag) : AlB := ((fx.all fun f => f.ok K) && fn.all fun d => d.ok K, fn.map fun d => d.fn K)
def valB (fn : List DefB) : AlB := (true, fn.map fun e => e.d.val)
def obsBG (n : Nat) (fx : List Fx) (fn : List DefB) (g : Addr → Option Obj) : AlB := obsB fx fn (He.frG g (cStatics :: He.asD g n))
def hookB (n : Nat) (fx : List Fx) (fn : List DefB) : PySem.W.Hook where
  α := AlB
  obs := fun s => obsBG n fx fn s.heap.get?
  val := fun _ => valB fn
  says := fun _ h => ∃ K : PySem.W.Frag, K.In h ∧ obsB fx fn K = valB fn
  of := fun _ _ e => ⟨_, He.frG_in, e⟩
  keeps := fun _ _ _ ⟨K, hK, c⟩ k => ⟨K, PySem.W.Frag.In.keeps hK k, c⟩
theorem obsBG_eq {n : Nat} {fx : List Fx} {fn : List DefB} {g : Addr → Option Obj} {s : Shared} (h : ∀ a, g a = s.heap.get? a) : obsBG n fx fn g = (hookB n fx fn).obs s := by
  have e : g = s.heap.get? := funext h
  rw [e]
  rfl
section
variable {fx : List Fx} {fn : List DefB} {K : PySem.W.Frag}
theorem says_fx (c : obsB fx fn K = valB fn) (i : Nat) {f : Fx} (hf : fx[i]? = some f) : f.ok K = true := by
  have c1 := (He.ba (show ((fx.all fun f => f.ok K) && fn.all fun d => d.ok K) = true from congrArg Prod.fst c)).1
  exact List.all_eq_true.mp c1 f (List.mem_of_getElem? hf)
theorem says_fn (c : obsB fx fn K = valB fn) (i : Nat) {d : DefB} (hd : fn[i]? = some d) : d.ok K = true ∧ d.fn K = d.d.val := by
  have c2 := (He.ba (show ((fx.all fun f => f.ok K) && fn.all fun d => d.ok K) = true from congrArg Prod.fst c)).2
  have e : fn.map (fun d => d.fn K) = fn.map (fun e => e.d.val) := congrArg Prod.snd c
  have e2 : (fn.map fun d => d.fn K)[i]? = (fn.map fun e => e.d.val)[i]? := by rw [e]
  rw [List.getElem?_map, List.getElem?_map, hd] at e2
  exact ⟨List.all_eq_true.mp c2 d (List.mem_of_getElem? hd), Option.some.inj e2⟩
/-- a def without defaults -/
def mkD (at_ : PySem.W.Frag → Addr) (x qual : Str) (st : Stmt) : DefB := ⟨⟨at_, x, qual, defArgs st, defBody st, defScope st, [], []⟩, none⟩
/-- a def of the class C whose body says super() -/
def mkS (at_ : PySem.W.Frag → Addr) (x qual : Str) (st : Stmt) (C file : Str) : DefB := ⟨⟨at_, x, qual, defArgs st, defBody st, defScope st, [], []⟩, some (C, file)⟩
theorem says_fun {x qual : Str} {st : Stmt} {p : PySem.W.Frag → Addr} (c : obsB fx fn K = valB fn) (i : Nat) (hd : fn[i]? = some (mkD p x qual st)) : Fun K x qual st (p K) (fdG K (p K)) := by
  obtain ⟨h1, h2⟩ := says_fn c i hd
  obtain ⟨fd, F⟩ := He5.DefA.funD h2 h1
  obtain ⟨oc, od, dV, kV, doc, pm, an, cdv, ct, osl, e1, e2, e3, e4, e5⟩ := F.ex
  have e0 : dV = .none := by
    rcases e4 with ⟨q1, q2⟩ | ⟨q1, _⟩
    · first | exact q1 | exact q2
    · exact absurd rfl q1
  subst e0
  have ef : fdG K (p K) = fd := by
    unfold fdG
    have e2' : K.lookup (p K) = some ⟨oc, od, .func fd, osl⟩ := e2
    rw [e2']
  rw [ef]
  exact ⟨⟨oc, od, kV, doc, pm, an, cdv, ct, osl, e1, e2, e3⟩, F.kp⟩
theorem says_funS {P : Program} {mg : Str → Option Value} {x qual C file : Str} {st : Stmt} {p : PySem.W.Frag → Addr} (c : obsB fx fn K = valB fn) (hP : P.main.file = file) (hT : (P.main.scope.names.lookup ("super" : Str)).isSome = false) (hm : mg "super" = none) (i : Nat) (hd : fn[i]? = some (mkS p x qual st C file)) : FunS P K mg (He.ga K C) x qual st (p K) (fdG K (p K)) := by
  obtain ⟨h1, h2⟩ := says_fn c i hd
  have g1 : supB K (p K) (He.ga K C) qual file = true := h1
  have g2 : fnS K (p K) = some (x, qual, defArgs st, .stmts (defBody st), defScope st, mainGlobals, [], builtinsNs) := h2
  unfold supB at g1
  unfold fnS at g2
  cases q : K.lookup (p K) with
  | none => rw [q] at g1; cases g1
  | some o =>
    obtain ⟨oc, od, dt, osl⟩ := o
    rw [q] at g1 g2
    cases dt with
    | func fd =>
      obtain ⟨n1, n2, n3, n4, n5, n6, n7, n8, n9, n10, n11, n12, n13, n14, n15⟩ := fd
      have g2' : (some (n1, n2, n3, n4, n5, n6, [], n15) : He.FnW) = some (x, qual, defArgs st, .stmts (defBody st), defScope st, mainGlobals, [], builtinsNs) := g2
      simp only [Option.some.injEq, Prod.mk.injEq] at g2'
      obtain ⟨r1, r2, r3, r4, r5, r6, _, r8⟩ := g2'
      subst r1 r2 r3 r4 r5 r6 r8
      have g3 : clos _ K (He.ga K C) _ file = true := g1
      unfold clos at g3
      split at g3
      · rename_i y cc cda u1 u2 u3
        obtain ⟨k1, g3⟩ := He.ba g3
        obtain ⟨k2, g3⟩ := He.ba g3
        obtain ⟨k3, g3⟩ := He.ba g3
        obtain ⟨k4, g3⟩ := He.ba g3
        obtain ⟨k5, k6⟩ := He.ba g3
        have e1 : y = "__class__" := of_decide_eq_true k1
        have v1 : n7 = [(y, cc)] := u1
        have v2 : n13 = .ref cda := u2
        have v3 : n8 = .none := u3
        subst e1 v1 v2 v3
        have ef : ∀ fd : FuncData, K.lookup (p K) = some ⟨oc, od, .func fd, osl⟩ → fdG K (p K) = fd := fun fd e => by
          unfold fdG
          rw [e]
        rw [ef _ q]
        refine ⟨oc, od, n9, n10, n11, n12, cda, cc, n14, osl, rfl, q, k2, ⟨?_, Option.isSome_iff_exists.mp k4, He.eqO_ok k5, ?_, hT, hm⟩⟩
        · unfold cellB at k3
          split at k3
          · rename_i t1 t2 D' t3 e
            have e4 : D' = He.ga K C := of_decide_eq_true k3
            subst e4
            exact ⟨_, _, _, e⟩
          · cases k3
        · unfold fileB at k6
          split at k6
          · rename_i t1 t2 vs t3 e
            split at k6
            · rename_i f tf e6
              have e7 : f = file := of_decide_eq_true k6
              subst e7
              exact ⟨_, _, _, _, _, _, e, e6, by rw [hP]; simp⟩
            · cases k6
          · cases k6
      · cases g3
    | _ => cases g1
end
end Tr
set_option maxHeartbeats 1000000
namespace Tr
open PySem PySem.Spec PyProof.Rows L2
/-- a def's code object, its table -/
def plcd (p : Str × Option Str) (K : PySem.W.Frag) : Addr := He.codeOf K p
def pltb (p : Str × Option Str) (K : PySem.W.Frag) : Addr := He.tabOf K (He.codeOf K p)
section
variable {K : PySem.W.Frag} {x qual : Str} {st : Stmt} {fd : FuncData} {p : Str × Option Str}
theorem fun_T (F : Fun K x qual st (pl p K) fd) : FunT K x qual st (pl p K) fd (plcd p K) := by
  obtain ⟨⟨oc, od, kV, doc, pm, an, cdv, ct, osl, e, lk, hcd⟩, kp⟩ := F
  obtain ⟨c, rfl⟩ := He.codeIn_ref hcd
  have e2 : plcd p K = c := He.codeOf_eq lk (by rw [e])
  rw [e2]
  exact ⟨⟨oc, od, kV, doc, pm, an, ct, osl, e, lk, hcd⟩, kp⟩
end
abbrev AlC : Type := AlB × Bool
def ndB : List Addr → Bool
  | [] => true
  | x :: l => l.all (fun y => !(x == y)) && ndB l
theorem ndB_of : ∀ {l : List Addr}, ndB l = true → l.Nodup
  | [], _ => List.nodup_nil
  | x :: l, h => by
    obtain ⟨h1, h2⟩ := He.ba h
    refine List.nodup_cons.mpr ⟨fun z => ?_, ndB_of h2⟩
    have := List.all_eq_true.mp h1 x z
    simp at this
def obsC (n : Nat) (fx : List Fx) (fn : List DefB) (tf : List He.Defn) (g : Addr → Option Obj) : AlC := (obsB fx fn (He.frT g (cStatics :: He.asD g n)), He.tabsB g tf (He.frT g (cStatics :: He.asD g n)) && ndB (tf.map fun p => (He.cT (He.frT g (cStatics :: He.asD g n)) p).2))
structure SaysC (fx : List Fx) (fn : List DefB) (tf : List He.Defn) (h : Heap) (K : PySem.W.Frag) : Prop where
  b : obsB fx fn K = valB fn
  hd : ∀ p ∈ tf, PySem.W.codeHdIn K (He.cT K p).1 (He.cT K p).2 = true
  out : ∀ p ∈ tf, K.lookup (He.cT K p).2 = none
  empty : ∀ p ∈ tf, h.get? (He.cT K p).2 = some { cls := .none, data := .fields #[] }
  nd : (tf.map fun p => (He.cT K p).2).Nodup
theorem SaysC.ne {fx : List Fx} {fn : List DefB} {tf : List He.Defn} {h : Heap} {K : PySem.W.Frag} (c : SaysC fx fn tf h K) (i j : Nat) {p q : He.Defn} (hi : tf[i]? = some p) (hj : tf[j]? = some q) (n : i ≠ j) : pltb p K ≠ pltb q K := fun e => by
  have h1 : (tf.map fun p => (He.cT K p).2)[i]? = some (pltb p K) := by rw [List.getElem?_map, hi]; rfl
  have h2 : (tf.map fun p => (He.cT K p).2)[j]? = some (pltb p K) := by rw [List.getElem?_map, hj, e]; rfl
  exact n ((List.getElem?_inj (List.getElem?_eq_some_iff.mp h1).1 c.nd).mp (h1.trans h2.symm))
theorem saysC_of {n : Nat} {fx : List Fx} {fn : List DefB} {tf : List He.Defn} {h : Heap} (e : obsC n fx fn tf h.get? = (valB fn, true)) : SaysC fx fn tf h (He.frT h.get? (cStatics :: He.asD h.get? n)) := by
  have e1 : obsB fx fn (He.frT h.get? (cStatics :: He.asD h.get? n)) = valB fn := congrArg (fun z : AlC => z.1) e
  have h20 := congrArg (fun z : AlC => z.2) e
  obtain ⟨h2, hnd⟩ := He.ba (show (He.tabsB h.get? tf (He.frT h.get? (cStatics :: He.asD h.get? n)) && ndB (tf.map fun p => (He.cT (He.frT h.get? (cStatics :: He.asD h.get? n)) p).2)) = true from h20)
  clear h20
  generalize he : cStatics :: He.asD h.get? n = as at e1 h2 hnd ⊢
  have key : ∀ p ∈ tf, PySem.W.codeHdIn (He.frT h.get? as) (He.cT (He.frT h.get? as) p).1 (He.cT (He.frT h.get? as) p).2 = true ∧ ∃ o, h.get? (He.cT (He.frT h.get? as) p).2 = some o ∧ He.emptyTab o = true := fun p hp => by
    obtain ⟨h3, h4⟩ := He.ba (List.all_eq_true.mp h2 p hp)
    refine ⟨h3, ?_⟩
    cases q : h.get? (He.cT (He.frT h.get? as) p).2 with
    | none =>
      rw [q] at h4
      cases h4
    | some o =>
      rw [q] at h4
      exact ⟨o, rfl, h4⟩
  exact ⟨e1, fun p hp => (key p hp).1, fun p hp => by
    obtain ⟨_, o, q, z⟩ := key p hp
    exact He.frT_none q z, fun p hp => by
    obtain ⟨_, o, q, z⟩ := key p hp
    rw [q, He.emptyTab_eq z], ndB_of hnd⟩
def hookC (n : Nat) (fx : List Fx) (fn : List DefB) (tf : List He.Defn) : PySem.W.Hook where
  α := AlC
  obs := fun s => obsC n fx fn tf s.heap.get?
  val := fun _ => (valB fn, true)
  says := fun _ h => ∃ K : PySem.W.Frag, K.In h ∧ SaysC fx fn tf h K
  of := fun _ _ e => ⟨_, He.frT_in, saysC_of e⟩
  keeps := fun _ _ _ ⟨K, hK, c⟩ k => ⟨K, PySem.W.Frag.In.keeps hK k, ⟨c.b, c.hd, c.out, fun p hp => k _ _ (c.empty p hp), c.nd⟩⟩
theorem obsC_eq {n : Nat} {fx : List Fx} {fn : List DefB} {tf : List He.Defn} {g : Addr → Option Obj} {s : Shared} (h : ∀ a, g a = s.heap.get? a) : obsC n fx fn tf g = (hookC n fx fn tf).obs s := by
  have e : g = s.heap.get? := funext h
  rw [e]
  rfl
end Tr
set_option maxHeartbeats 0
namespace Tr
open PySem PySem.Spec PyProof.Rows L2
def top (i : Nat) : Stmt := PySem.Challenge.pw_trackedreads_k73_effects_that_put_what_t.main.body.getD i (.Pass ⟨0, 0, 0, 0⟩)
def fx9 : List Fx := [.fa (.free "len"),
  .fa (.free "iter"),
  .fa (.free "list"),
  .fa (.free "range"),
  .fa (.free "tuple"),
  .fa (.free "RuntimeError"),
  .fa (.glo "TrackedError"),
  .cread "TrackedError",
  .cinit "TrackedError" "ValueError.__init__",
  .cinitT "RuntimeError" "RuntimeError.__init__",
  .fa (.glo "Desk"),
  .fa (.glo "Cell"),
  .fa (.glo "Kept"),
  .fa (.glo "Frame"),
  .fa (.glo "Runner"),
  .fa (.glo "Effect"),
  .fa (.cls "Cell"),
  .fa (.cls "Desk"),
  .fa (.cls "Kept"),
  .fa (.cls "Frame"),
  .fa (.cls "Effect"),
  .noats "Cell" ["desk", "name", "now"],
  .noats "Desk" ["used_names", "cells", "readable", "effects", "log", "frames", "batches", "moved"],
  .noats "Kept" ["desk", "name", "work", "noted", "runs", "kept_worth", "has_worth"],
  .noats "Frame" ["owner", "is_answer", "is_hushed", "noted"],
  .noats "Effect" ["desk", "name", "work", "noted", "runs", "report"],
  .fa (.free "super"),
  .supc "Cell" "Cell" "Thing",
  .fa (.mkr "Cell"),
  .own "Cell" "__call__",
  .propof "Cell" "value",
  .fa (.meth "Cell" "put"),
  .fa (.meth "Cell" "worth_now"),
  .fa (.mkr "Desk"),
  .fa (.meth "Desk" "check_placed"),
  .fa (.meth "Desk" "note"),
  .fa (.meth "Desk" "use_name"),
  .fa (.meth "Desk" "cell"),
  .fa (.meth "Desk" "settle"),
  .con "Desk" "MOST_RUNS" 100,
  .own "Desk" "__iter__",
  .own "Desk" "__len__",
  .fa (.meth "Desk" "kept"),
  .fa (.meth "Desk" "is_under_way"),
  .fa (.mkr "Frame"),
  .fa (.mkr "Kept"),
  .supc "Kept" "Kept" "Runner",
  .supc "Runner" "Kept" "Thing",
  .own "Kept" "__call__",
  .propof "Kept" "held",
  .fa (.meth "Kept" "worth_now"),
  .methP "Effect" "Kept" "is_out_of_order",
  .methP "Effect" "Kept" "run_work",
  .fa (.mkr "Effect"),
  .supc "Effect" "Effect" "Runner",
  .supc "Runner" "Effect" "Thing",
  .own "Effect" "__call__",
  .fa (.meth "Effect" "run_once"),
  .fa (.meth "Effect" "is_out_of_order"),
  .fa (.meth "Effect" "run_work"),
  .fa (.meth "Desk" "effect"),
  .fa (.glo "NoName"),
  .oexb "NoName" PySem.OXB.xbV,
  .xf "NoName",
  .noats "NoName" ["name"],
  .init "NoName",
  .fa (.glo "Taken"),
  .oexb "Taken" PySem.OXB.xbV,
  .xf "Taken",
  .noats "Taken" ["name"],
  .init "Taken",
  .fa (.glo "TooLong"),
  .oexb "TooLong" PySem.OXB.xbR,
  .xf "TooLong",
  .noats "TooLong" ["cells"],
  .init "TooLong",
  .fa (.glo "Misplaced"),
  .oexb "Misplaced" PySem.OXB.xbR,
  .xf "Misplaced",
  .noats "Misplaced" ["name"],
  .init "Misplaced",
  .fa (.glo "Busy"),
  .oexb "Busy" PySem.OXB.xbR,
  .xf "Busy",
  .noats "Busy" ["name"],
  .init "Busy",
  .fa (.free "abs"),
  .fa (.free "int"),
  .fa (.glo "_law_bag"),
  .fa (.glo "_law_take"),
  .fa (.glo "_law_of"),
  .fa (.meth "Desk" "quietly"),
  .fa (.free "max"),
  .fa (.free "min"),
  .fa (.glo "_law_up"),
  .fa (.glo "_law_due"),
  .fa (.glo "_law_work"),
  .fa (.glo "_law_right"),
  .fa (.glo "law")]
def fn9 : List DefB := [mkD (pl ("Thing", some "__init__")) "__init__" "Thing.__init__" (inClass (top 10) 0),
  mkS (pl ("Cell", some "__init__")) "__init__" "Cell.__init__" (inClass (top 11) 0) "Cell" PySem.Challenge.pw_trackedreads_k73_effects_that_put_what_t.main.file,
  mkD (pl ("Cell", some "__call__")) "__call__" "Cell.__call__" (inClass (top 11) 1),
  mkD (plp "Cell" "value") "value" "Cell.value" (inClass (top 11) 2),
  mkD (pl ("Cell", some "put")) "put" "Cell.put" (inClass (top 11) 4),
  mkD (pl ("Cell", some "worth_now")) "worth_now" "Cell.worth_now" (inClass (top 11) 5),
  mkD (pl ("Desk", some "__init__")) "__init__" "Desk.__init__" (inClass (top 15) 1),
  mkD (pl ("Desk", some "check_placed")) "check_placed" "Desk.check_placed" (inClass (top 15) 2),
  mkD (pl ("Desk", some "note")) "note" "Desk.note" (inClass (top 15) 4),
  mkD (pl ("Desk", some "use_name")) "use_name" "Desk.use_name" (inClass (top 15) 5),
  mkD (pl ("Desk", some "cell")) "cell" "Desk.cell" (inClass (top 15) 6),
  mkD (pl ("Desk", some "settle")) "settle" "Desk.settle" (inClass (top 15) 9),
  mkD (pl ("Desk", some "__iter__")) "__iter__" "Desk.__iter__" (inClass (top 15) 16),
  mkD (pl ("Desk", some "__len__")) "__len__" "Desk.__len__" (inClass (top 15) 17),
  mkD (pl ("Desk", some "kept")) "kept" "Desk.kept" (inClass (top 15) 7),
  mkD (pl ("Desk", some "is_under_way")) "is_under_way" "Desk.is_under_way" (inClass (top 15) 3),
  mkD (pl ("Frame", some "__init__")) "__init__" "Frame.__init__" (inClass (top 9) 0),
  mkS (pl ("Kept", some "__init__")) "__init__" "Kept.__init__" (inClass (top 13) 0) "Kept" PySem.Challenge.pw_trackedreads_k73_effects_that_put_what_t.main.file,
  mkS (pl ("Runner", some "__init__")) "__init__" "Runner.__init__" (inClass (top 12) 0) "Runner" PySem.Challenge.pw_trackedreads_k73_effects_that_put_what_t.main.file,
  mkD (pl ("Kept", some "__call__")) "__call__" "Kept.__call__" (inClass (top 13) 1),
  mkD (plp "Kept" "held") "held" "Kept.held" (inClass (top 13) 2),
  mkD (pl ("Kept", some "worth_now")) "worth_now" "Kept.worth_now" (inClass (top 13) 3),
  mkD (pl ("Effect", some "is_out_of_order")) "is_out_of_order" "Runner.is_out_of_order" (inClass (top 12) 1),
  mkD (pl ("Effect", some "run_work")) "run_work" "Runner.run_work" (inClass (top 12) 2),
  mkS (pl ("Effect", some "__init__")) "__init__" "Effect.__init__" (inClass (top 14) 0) "Effect" PySem.Challenge.pw_trackedreads_k73_effects_that_put_what_t.main.file,
  mkD (pl ("Effect", some "__call__")) "__call__" "Effect.__call__" (inClass (top 14) 1),
  mkD (pl ("Effect", some "run_once")) "run_once" "Effect.run_once" (inClass (top 14) 2),
  mkD (pl ("Desk", some "effect")) "effect" "Desk.effect" (inClass (top 15) 8),
  mkD (pl ("NoName", some "__init__")) "__init__" "NoName.__init__" (inClass (top 3) 0),
  mkD (pl ("Taken", some "__init__")) "__init__" "Taken.__init__" (inClass (top 4) 0),
  mkD (pl ("TooLong", some "__init__")) "__init__" "TooLong.__init__" (inClass (top 5) 0),
  mkD (pl ("Misplaced", some "__init__")) "__init__" "Misplaced.__init__" (inClass (top 6) 0),
  mkD (pl ("Busy", some "__init__")) "__init__" "Busy.__init__" (inClass (top 7) 0),
  mkD (pl ("_law_bag", none)) "_law_bag" "_law_bag" (top 17),
  mkD (pl ("_law_take", none)) "_law_take" "_law_take" (top 18),
  mkD (pl ("_law_of", none)) "_law_of" "_law_of" (top 19),
  mkD (pl ("Desk", some "quietly")) "quietly" "Desk.quietly" (inClass (top 15) 11),
  mkD (pl ("_law_up", none)) "_law_up" "_law_up" (top 20),
  mkD (pl ("_law_due", none)) "_law_due" "_law_due" (top 22),
  mkD (pl ("_law_work", none)) "_law_work" "_law_work" (top 21),
  mkD (pl ("_law_right", none)) "_law_right" "_law_right" (top 23),
  mkD (pl ("law", none)) "law" "law" (top 24)]
abbrev R9 : PySem.W.OpenRow := PySem.W.OpenLaw.row PySem.Challenge.rw_trackedreads_k73_effects_that_put_what_t
def tf9 : List He.Defn := [("_law_work", none), ("_law_right", none)]
abbrev hk9 : PySem.W.Hook := hookC 6 fx9 fn9 tf9
def ob9 (s : PySem.W.SharedT) : AlC := obsC 6 fx9 fn9 tf9 (HandSHeadRun.getT s)
theorem ob9_eq (s : PySem.W.SharedT) : ob9 s = hk9.obs s.abs := obsC_eq (HandSHeadRun.getT_eq s)
theorem run9 (w : World) : HandSHeadRun.RunEq R9 (PySem.W.view R9.prog [24]) hk9 ob9 20000 ("_wall" :: "TrackedError" :: "NoName" :: "Taken" :: "TooLong" :: "Misplaced" :: "Busy" :: "Frame" :: "Thing" :: "Cell" :: "Runner" :: "Kept" :: "Effect" :: "Desk" :: "_law_bag" :: "_law_take" :: "_law_of" :: "_law_up" :: "_law_work" :: "_law_due" :: "_law_right" :: ([] : List Str)) w := by
  intro os
  kernel_rfl
end Tr
section
open PySem PySem.W PySem.Calls PyProof.Rows
theorem Tr.fileEq : (PySem.W.OpenLaw.row PySem.Challenge.rw_trackedreads_k73_effects_that_put_what_t).prog.main.file = PySem.Challenge.pw_trackedreads_k73_effects_that_put_what_t.main.file := by first | rfl | kernel_rfl
theorem Tr.topEq : ((PySem.W.OpenLaw.row PySem.Challenge.rw_trackedreads_k73_effects_that_put_what_t).prog.main.scope.names.lookup ("super" : PySem.Str)).isSome = false := by first | decide +kernel | kernel_rfl
theorem Tr.nameEq : (HandSHeadRun.topDef (PySem.W.OpenLaw.row PySem.Challenge.rw_trackedreads_k73_effects_that_put_what_t).prog 24).name = ("law" : PySem.Str) := by kernel_rfl
theorem Tr.headE (hc : PySem.W.WalkO (view (OpenLaw.row PySem.Challenge.rw_trackedreads_k73_effects_that_put_what_t).prog [24]) ("_wall" :: "TrackedError" :: "NoName" :: "Taken" :: "TooLong" :: "Misplaced" :: "Busy" :: "Frame" :: "Thing" :: "Cell" :: "Runner" :: "Kept" :: "Effect" :: "Desk" :: "_law_bag" :: "_law_take" :: "_law_of" :: "_law_up" :: "_law_work" :: "_law_due" :: "_law_right" :: ([] : List Str)) (XL (view (OpenLaw.row PySem.Challenge.rw_trackedreads_k73_effects_that_put_what_t).prog [24]) []) Tr.hk9.says (OpenLaw.row PySem.Challenge.rw_trackedreads_k73_effects_that_put_what_t).toRowW (HandSHeadRun.topDef (OpenLaw.row PySem.Challenge.rw_trackedreads_k73_effects_that_put_what_t).prog 24) [] fun f vs => PySem.call f vs) : PySem.Challenge.rw_trackedreads_k73_effects_that_put_what_t.Holds := by
  w_on; o_law
  refine HandSHeadRun.head_any (r := OpenLaw.row PySem.Challenge.rw_trackedreads_k73_effects_that_put_what_t) (q := view (OpenLaw.row PySem.Challenge.rw_trackedreads_k73_effects_that_put_what_t).prog [24]) (H := Tr.hk9) (ob := Tr.ob9) (M := 20000) (loose := ("_wall" :: "TrackedError" :: "NoName" :: "Taken" :: "TooLong" :: "Misplaced" :: "Busy" :: "Frame" :: "Thing" :: "Cell" :: "Runner" :: "Kept" :: "Effect" :: "Desk" :: "_law_bag" :: "_law_take" :: "_law_of" :: "_law_up" :: "_law_work" :: "_law_due" :: "_law_right" :: ([] : List Str))) (d := HandSHeadRun.topDef (OpenLaw.row PySem.Challenge.rw_trackedreads_k73_effects_that_put_what_t).prog 24) (kwd := []) Tr.ob9_eq
    (by kernel_rfl) (fun s => by kernel_rfl) Tr.run9 (by kernel_rfl) (by kernel_rfl) (by kernel_rfl) (by rfl) (by first | assumption | decide +kernel) (by decide +kernel) ⟨rfl, rfl, rfl, rfl, rfl, by decide +kernel⟩ ?hw hc
  case hw => w_witness2
end
set_option maxHeartbeats 2000000
namespace Tr
open PySem PySem.Spec PyProof.Rows L2
section
variable {K : PySem.W.Frag} {H : Hp}
theorem dp_strs : ∀ (ls : List Str), DpAll K H (ls.map V.str) (ls.map PyData.str)
  | [] => .nil
  | x :: l => .cons (.str x) (dp_strs l)
theorem dp_ints : ∀ (ls : List Int), DpAll K H (ls.map V.int) (ls.map PyData.int)
  | [] => .nil
  | x :: l => .cons (.int x) (dp_ints l)
theorem dp_map {α : Type} {f : α → PyData} : ∀ {vs : List V} {ys : List α}, vs.length = ys.length → (∀ (i : Nat) (v : V) (y : α), vs[i]? = some v → ys[i]? = some y → Dp K H v (f y)) → DpAll K H vs (ys.map f)
  | [], [], _, _ => .nil
  | [], _ :: _, h, _ => by simp at h
  | _ :: _, [], h, _ => by simp at h
  | v :: vs, y :: ys, h, hd => .cons (hd 0 v y rfl rfl) (dp_map (by simpa using h) fun i v' y' h1 h2 => hd (i + 1) v' y' h1 h2)
theorem shaped_all {ds : List PyData} (h : ∀ d ∈ ds, d.canLay0 = true ∧ d.depth ≤ 10) : PyData.canLay0 (.tuple ds) = true ∧ PyData.depth (.tuple ds) ≤ 11 ∧ PyData.canLay0 (.list ds) = true ∧ PyData.depth (.list ds) ≤ 11 := by
  have h1 : ∀ (ds : List PyData), (∀ d ∈ ds, d.canLay0 = true ∧ d.depth ≤ 10) → PyData.canLayAll0 ds = true ∧ PyData.depthAll ds ≤ 10 := by
    intro ds
    induction ds with
    | nil => intro _; exact ⟨rfl, by simp [PyData.depthAll]⟩
    | cons d l ih =>
      intro h
      obtain ⟨i1, i2⟩ := ih fun x hx => h x (by simp [hx])
      obtain ⟨j1, j2⟩ := h d (by simp)
      exact ⟨by simp [PyData.canLayAll0, i1, j1], by simp only [PyData.depthAll]; omega⟩
  obtain ⟨i1, i2⟩ := h1 ds h
  exact ⟨by simp [PyData.canLay0, i1], by simp only [PyData.depth]; omega, by simp [PyData.canLay0, i1], by simp only [PyData.depth]; omega⟩
theorem shaped_tup {ds : List PyData} (h : ∀ d ∈ ds, d.canLay0 = true ∧ d.depth ≤ 10) : SeqAt.shaped (.tuple ds) = true := by
  obtain ⟨h1, h2, _⟩ := shaped_all h
  unfold SeqAt.shaped
  rw [h1]
  simp
  omega
theorem shaped_lst {ds : List PyData} (h : ∀ d ∈ ds, d.canLay0 = true ∧ d.depth ≤ 10) : SeqAt.shaped (.list ds) = true := by
  obtain ⟨_, _, h1, h2⟩ := shaped_all h
  unfold SeqAt.shaped
  rw [h1]
  simp
  omega
theorem lay_ints (xs : List Int) : ∀ d ∈ xs.map PyData.int, d.canLay0 = true ∧ d.depth ≤ 10 := by
  intro d hd
  obtain ⟨i, _, rfl⟩ := List.mem_map.mp hd
  exact ⟨by simp [PyData.canLay0], by simp [PyData.depth]⟩
theorem dp_nons : ∀ (n : Nat), DpAll K H (List.replicate n V.non) (List.replicate n PyData.none)
  | 0 => .nil
  | n + 1 => .cons .non (dp_nons n)
theorem lay_nons (n : Nat) : ∀ d ∈ List.replicate n PyData.none, d.canLay0 = true ∧ d.depth ≤ 10 := by
  intro d hd
  rw [(List.mem_replicate.mp hd).2]
  exact ⟨by simp [PyData.canLay0], by simp [PyData.depth]⟩
section
variable {p q : Addr} {d : PyData} {Q : VK}
theorem s_eqSame {x y : V} (h1 : Dp K H x d) (h2 : Dp K H y d) (hs : SeqAt.shaped d = true) (k : Q (.bl true) H) : rEqD K x y H Q :=
  ⟨d, d, h1, h2, hs, hs, by rw [SeqAt.eqv_refl d (SeqAt.canLay_of_shaped hs)]; exact k⟩
theorem s_neSameD {x y : V} (h1 : Dp K H x d) (h2 : Dp K H y d) (hs : SeqAt.shaped d = true) (k : Q (.bl false) H) : rNeD K x y H Q :=
  ⟨d, d, h1, h2, hs, hs, by rw [SeqAt.eqv_refl d (SeqAt.canLay_of_shaped hs)]; exact k⟩
/-- tuples of the same integers -/
theorem s_eqTI {xs : List Int} (hp : H p = some (.tup (xs.map V.int))) (hq : H q = some (.tup (xs.map V.int))) (k : Q (.bl true) H) : rEqU K (.ref p) (.ref q) H Q := by
  unfold rEqU
  rw [if_neg (by simp [scal])]
  simp only [hq]
  exact s_eqSame (.tup (SqT.of hp) (dp_ints xs)) (.tup (SqT.of hq) (dp_ints xs)) (shaped_tup (lay_ints xs)) k
theorem s_neTI {xs : List Int} (hp : H p = some (.tup (xs.map V.int))) (hq : H q = some (.tup (xs.map V.int))) (k : Q (.bl false) H) : rNeU K (.ref p) (.ref q) H Q := by
  unfold rNeU
  rw [if_neg (by simp [scal])]
  simp only [hq]
  exact s_neSameD (.tup (SqT.of hp) (dp_ints xs)) (.tup (SqT.of hq) (dp_ints xs)) (shaped_tup (lay_ints xs)) k
/-- lists with the same data -/
theorem s_eqLD {xs ys : List V} {ds : List PyData} (hp : H p = some (.lst xs)) (hq : H q = some (.lst ys)) (h1 : DpAll K H xs ds) (h2 : DpAll K H ys ds) (hs : ∀ d ∈ ds, d.canLay0 = true ∧ d.depth ≤ 10) (k : Q (.bl true) H) : rEqU K (.ref p) (.ref q) H Q := by
  unfold rEqU
  rw [if_neg (by simp [scal])]
  cases ys with
  | nil =>
    cases h2
    cases h1
    simp only [hq, hp]
    exact k
  | cons y ys =>
    simp only [hq]
    exact s_eqSame (.lst (SqL.of hp) h1) (.lst (SqL.of hq) h2) (shaped_lst hs) k
theorem s_neLD {xs ys : List V} {ds : List PyData} (hp : H p = some (.lst xs)) (hq : H q = some (.lst ys)) (h1 : DpAll K H xs ds) (h2 : DpAll K H ys ds) (hs : ∀ d ∈ ds, d.canLay0 = true ∧ d.depth ≤ 10) (k : Q (.bl false) H) : rNeU K (.ref p) (.ref q) H Q := by
  unfold rNeU
  rw [if_neg (by simp [scal])]
  cases ys with
  | nil =>
    cases h2
    cases h1
    simp only [hq, hp]
    exact k
  | cons y ys =>
    simp only [hq]
    exact s_neSameD (.lst (SqL.of hp) h1) (.lst (SqL.of hq) h2) (shaped_lst hs) k
theorem s_eqLI {xs : List Int} (hp : H p = some (.lst (xs.map V.int))) (hq : H q = some (.lst (xs.map V.int))) (k : Q (.bl true) H) : rEqU K (.ref p) (.ref q) H Q := s_eqLD hp hq (dp_ints xs) (dp_ints xs) (lay_ints xs) k
theorem s_neLI {xs : List Int} (hp : H p = some (.lst (xs.map V.int))) (hq : H q = some (.lst (xs.map V.int))) (k : Q (.bl false) H) : rNeU K (.ref p) (.ref q) H Q := s_neLD hp hq (dp_ints xs) (dp_ints xs) (lay_ints xs) k
/-- a tuple is a tuple -/
theorem s_isiTup {xs : List V} (hp : H p = some (.tup xs)) (k : Q (.bl true) H) : rIsi K [.ref p, .ty "tuple"] H Q :=
  ⟨_, _, _, _, true, rfl, .ty _, .base (.tup hp), kit_ty (by decide +kernel), k⟩
end
end
end Tr
set_option maxHeartbeats 2000000
namespace Tr
open PySem L2
abbrev Dt := PyData
/-- an error: its class (a place in the table of addresses), its one field -/
structure Er where
  c : Nat
  f : Option (Str × Dt)
/-- a thing on a desk; a work is known by what the law calls it -/
inductive Th (ω : Type) where
  | cell (now : Int)
  | kept (w : ω) (ns : List (Str × Dt)) (n : Nat) (held : Option Dt)
  | eff (w : ω) (ns : List (Str × Dt)) (n : Nat) (rep : Dt)
structure Fm where
  own : Str
  isA : Bool
  hush : Bool
structure DS (ω : Type) where
  names : List Str
  th : Str → Option (Th ω)
  cells : List Str
  rds : List Str
  efs : List Str
  log : List (Str × Dt)
  frs : List Fm
  ba : Nat
  mv : List Str
def DS.new {ω : Type} : DS ω := ⟨[], fun _ => none, [], [], [], [], [], 0, []⟩
section
variable {ω Λ α β : Type}
def Th.notes : Th ω → Option (List (Str × Dt))
  | .cell _ => none
  | .kept _ ns _ _ => some ns
  | .eff _ ns _ _ => some ns
def Th.work : Th ω → Option ω
  | .cell _ => none
  | .kept w _ _ _ => some w
  | .eff w _ _ _ => some w
def Th.putNotes (ns' : List (Str × Dt)) : Th ω → Th ω
  | .cell v => .cell v
  | .kept w _ n h => .kept w ns' n h
  | .eff w _ n r => .eff w ns' n r
def Th.inc : Th ω → Th ω
  | .cell v => .cell v
  | .kept w ns n h => .kept w ns (n + 1) h
  | .eff w ns n r => .eff w ns (n + 1) r
def DS.setTh (S : DS ω) (nm : Str) (t : Th ω) : DS ω := { S with th := fun m => if m = nm then some t else S.th m }
abbrev SW (ω Λ : Type) := DS ω × Λ
/-- none: too many of something, or not covered here -/
abbrev Rs (ω Λ α : Type) := Option (Except Er α × SW ω Λ)
abbrev MM (ω Λ α : Type) := SW ω Λ → Rs ω Λ α
def MM.ok (v : α) : MM ω Λ α := fun s => some (.ok v, s)
def MM.err (e : Er) : MM ω Λ α := fun s => some (.error e, s)
def MM.bind (m : MM ω Λ α) (f : α → MM ω Λ β) : MM ω Λ β := fun s => match m s with
  | none => none
  | some (.error e, s') => some (.error e, s')
  | some (.ok v, s') => f v s'
/-- what raises is not covered -/
def MM.calm (m : MM ω Λ α) : MM ω Λ α := fun s => match m s with
  | some (.ok v, s') => some (.ok v, s')
  | _ => none
/-- behind it, raised or not -/
def MM.fin (m : MM ω Λ α) (f : DS ω → DS ω) : MM ω Λ α := fun s => match m s with
  | none => none
  | some (r, s') => some (r, (f s'.1, s'.2))
def eNoName (v : Dt) : Er := ⟨22, some ("name", v)⟩
def eTaken (v : Str) : Er := ⟨70, some ("name", .str v)⟩
def eTooLong (ns : List Str) : Er := ⟨72, some ("cells", .tuple (ns.map PyData.str))⟩
def eMisplaced (v : Str) : Er := ⟨74, some ("name", .str v)⟩
def eBusy (v : Str) : Er := ⟨76, some ("name", .str v)⟩
def placedM : MM ω Λ Unit := fun s => match s.1.frs.getLast? with
  | some f => if f.isA then some (.error (eMisplaced f.own), s) else some (.ok (), s)
  | none => some (.ok (), s)
def noteM (nm : Str) (v : Dt) : MM ω Λ Unit := fun s => match s.1.frs.getLast? with
  | none => some (.ok (), s)
  | some f => if f.hush then some (.ok (), s) else match s.1.th f.own with
    | none => none
    | some t => match t.notes with
      | none => none
      | some ns => if nm ∈ ns.map (·.1) then some (.ok (), s) else if ns.length < 200 then some (.ok (), (s.1.setTh f.own (t.putNotes (ns ++ [(nm, v)])), s.2)) else none
/-- one run of a work -/
def runM (wk : ω → MM ω Λ Dt) (isA : Bool) (nm : Str) : MM ω Λ Dt := fun s => match s.1.th nm with
  | none => none
  | some t => match t.work with
    | none => none
    | some w => if s.1.frs.any (fun f => decide (f.own = nm)) = true ∨ 200 ≤ s.1.frs.length then none else
      MM.bind (MM.fin (wk w) fun S => { S with frs := S.frs.dropLast })
        (fun d s2 => match s2.1.th nm with
          | none => none
          | some t2 => if t2.work.isSome = true then some (.ok d, (s2.1.setTh nm t2.inc, s2.2)) else none)
        ({ (s.1.setTh nm (t.putNotes [])) with frs := s.1.frs ++ [⟨nm, isA, false⟩] }, s.2)
/-- is_out_of_order, the notes from here on; wo: worth_now of what is read -/
def oooM (wo : Str → MM ω Λ Dt) (nm : Str) : List (Str × Dt) → MM ω Λ Bool
  | [] => MM.ok false
  | (x, d) :: r => fun s => if (s.1.th nm).isSome = true ∧ x ∈ s.1.rds then MM.bind (wo x) (fun v => if PyData.eqv v d then oooM wo nm r else MM.ok true) s else none
def stale (wo : Str → MM ω Λ Dt) (nm : Str) : MM ω Λ Bool := fun s => match s.1.th nm with
  | none => none
  | some t => match t.notes with
    | none => none
    | some ns => oooM wo nm ns s
/-- the answer is worked out -/
def againM (wk : ω → MM ω Λ Dt) (nm : Str) : MM ω Λ Dt := fun s => match s.1.th nm with
  | some (.kept w ns n _) => MM.bind (runM wk true nm) (fun d s2 => match s2.1.th nm with
      | some (.kept w2 ns2 n2 _) => some (.ok d, (s2.1.setTh nm (.kept w2 ns2 n2 (some d)), s2.2))
      | _ => none) (s.1.setTh nm (.kept w ns n none), s.2)
  | _ => none
/-- worth_now -/
def worthM (wk : ω → MM ω Λ Dt) (wo : Str → MM ω Λ Dt) (nm : Str) : MM ω Λ Dt := fun s => match s.1.th nm with
  | some (.cell v) => some (.ok (.int v), s)
  | some (.kept _ _ _ held) => if s.1.frs.any (fun f => decide (f.own = nm)) = true then some (.error (eBusy nm), s) else match held with
    | none => againM wk nm s
    | some _ => MM.bind (stale wo nm) (fun b s2 => if b then againM wk nm s2 else match s2.1.th nm with
        | some (.kept _ _ _ held2) => some (.ok (held2.getD .none), s2)
        | _ => none) s
  | _ => none
/-- a read by a call -/
def readM (wk : ω → MM ω Λ Dt) (wo : Str → MM ω Λ Dt) (nm : Str) : MM ω Λ Dt := MM.bind (worthM wk wo nm) fun v => MM.bind (noteM nm v) fun _ => MM.ok v
def valueM (nm : Str) : MM ω Λ Dt := fun s => match s.1.th nm with
  | some (.cell v) => some (.ok (.int v), s)
  | _ => none
/-- a run of an effect, with its report -/
def onceM (wk : ω → MM ω Λ Dt) (nm : Str) : MM ω Λ Dt := fun s => match s.1.th nm with
  | some (.eff _ _ _ _) => MM.bind (runM wk false nm) (fun d s => match s.1.th nm with
    | some (.eff w ns n _) => if s.1.log.length < 9000 then some (.ok d, ({ (s.1.setTh nm (.eff w ns n d)) with log := s.1.log ++ [(nm, d)] }, s.2)) else none
    | _ => none) s
  | _ => none
/-- those that are due, of some -/
def dueM (wo : Str → MM ω Λ Dt) : List Str → MM ω Λ (List Str)
  | [] => MM.ok []
  | x :: r => fun s => match s.1.th x with
    | some (.eff _ _ _ _) => MM.bind (MM.calm (stale wo x)) (fun b => MM.bind (dueM wo r) fun l => MM.ok (if b then x :: l else l)) s
    | _ => none
def endM : MM ω Λ Unit := fun s => some (.error (eTooLong (s.1.cells.filter fun c => decide (c ∈ s.1.mv))), s)
def nextM (f : Str → MM ω Λ Unit) : List Str → MM ω Λ Unit
  | [] => MM.ok ()
  | x :: _ => f x
/-- the rounds of a settling; so many are left -/
def roundsM (wk : ω → MM ω Λ Dt) (wo : Str → MM ω Λ Dt) : Nat → MM ω Λ Unit
  | 0 => fun s => MM.bind (dueM wo s.1.efs) (nextM fun _ => endM) s
  | n + 1 => fun s => MM.bind (dueM wo s.1.efs) (nextM fun x => MM.bind (onceM wk x) fun _ => roundsM wk wo n) s
def settleM (wk : ω → MM ω Λ Dt) (wo : Str → MM ω Λ Dt) : MM ω Λ Unit := MM.bind placedM fun _ s =>
  if 0 < s.1.ba ∨ s.1.frs ≠ [] then some (.ok (), s) else roundsM wk wo 100 ({ s.1 with mv := [] }, s.2)
def putM (wk : ω → MM ω Λ Dt) (wo : Str → MM ω Λ Dt) (nm : Str) (v : Int) : MM ω Λ Unit := MM.bind placedM fun _ s => match s.1.th nm with
  | some (.cell u) => if s.1.mv.length < 9000 then settleM wk wo ({ (s.1.setTh nm (.cell v)) with mv := if v = u then s.1.mv else s.1.mv ++ [nm] }, s.2) else none
  | _ => none
/-- an effect is called -/
def callEM (wk : ω → MM ω Λ Dt) (wo : Str → MM ω Λ Dt) (nm : Str) : MM ω Λ Dt := MM.bind placedM fun _ s => match s.1.th nm with
  | some (.eff _ _ _ _) => if s.1.frs.any (fun f => decide (f.own = nm)) = true then some (.error (eBusy nm), s) else
      MM.bind (onceM wk nm) (fun d => MM.bind (settleM wk wo) fun _ => MM.ok d) s
  | _ => none
def togetherM (wk : ω → MM ω Λ Dt) (wo : Str → MM ω Λ Dt) (body : MM ω Λ α) : MM ω Λ α := MM.bind placedM fun _ s =>
  MM.bind (MM.fin body fun S => { S with ba := s.1.ba }) (fun d => MM.bind (settleM wk wo) fun _ => MM.ok d) ({ s.1 with ba := s.1.ba + 1 }, s.2)
def hushLast (b : Bool) : List Fm → List Fm
  | [] => []
  | [f] => [{ f with hush := b }]
  | f :: r => f :: hushLast b r
def quietlyM (body : MM ω Λ α) : MM ω Λ α := fun s => match s.1.frs.getLast? with
  | none => body s
  | some f => MM.fin body (fun S => { S with frs := hushLast f.hush S.frs }) ({ s.1 with frs := hushLast true s.1.frs }, s.2)
def useM (nm : Str) : MM ω Λ Unit := MM.bind placedM fun _ s => if nm ∈ s.1.names then some (.error (eTaken nm), s) else if s.1.names.length < 200 then some (.ok (), ({ s.1 with names := s.1.names ++ [nm] }, s.2)) else none
def cellM (nm : Str) (v : Int) : MM ω Λ Unit := MM.bind (useM nm) fun _ s => if s.1.cells.length < 200 ∧ s.1.rds.length < 200 then some (.ok (), ({ (s.1.setTh nm (.cell v)) with cells := s.1.cells ++ [nm], rds := s.1.rds ++ [nm] }, s.2)) else none
def keptM (nm : Str) (w : ω) : MM ω Λ Unit := MM.bind (useM nm) fun _ s => if s.1.rds.length < 200 then some (.ok (), ({ (s.1.setTh nm (.kept w [] 0 none)) with rds := s.1.rds ++ [nm] }, s.2)) else none
def effM (wk : ω → MM ω Λ Dt) (wo : Str → MM ω Λ Dt) (nm : Str) (w : ω) : MM ω Λ Unit := MM.bind (useM nm) fun _ s =>
  MM.bind (onceM wk nm) (fun _ s2 => if s2.1.efs.length < 200 then settleM wk wo ({ s2.1 with efs := s2.1.efs ++ [nm] }, s2.2) else none) (s.1.setTh nm (.eff w [] 0 .none), s.2)
theorem MM.bind_assoc {α β γ : Type} {m : MM ω Λ α} {f : α → MM ω Λ β} {h : β → MM ω Λ γ} : MM.bind (MM.bind m f) h = MM.bind m (fun v => MM.bind (f v) h) := by
  funext s
  unfold MM.bind
  cases m s with
  | none => rfl
  | some p =>
    obtain ⟨r, s'⟩ := p
    cases r <;> rfl
theorem MM.bind_ok' {α β : Type} {v : α} {f : α → MM ω Λ β} : MM.bind (MM.ok v) f = f v := rfl
theorem setTh_at {S : DS ω} {nm : Str} {t : Th ω} : (S.setTh nm t).th nm = some t := if_pos rfl
theorem setTh_ne {S : DS ω} {nm m : Str} {t : Th ω} (h : m ≠ nm) : (S.setTh nm t).th m = S.th m := if_neg h
end
mutual
inductive Dv (H : Hp) : V → Dt → Prop
  | non : Dv H .non .none
  | bl (b : Bool) : Dv H (.bl b) (.bool b)
  | int (i : Int) : Dv H (.int i) (.int i)
  | str (x : Str) : Dv H (.str x) (.str x)
  | tup {a : Addr} {xs : List V} {ds : List Dt} : H a = some (.tup xs) → DvAll H xs ds → Dv H (.ref a) (.tuple ds)
inductive DvAll (H : Hp) : List V → List Dt → Prop
  | nil : DvAll H [] []
  | cons {v : V} {vs : List V} {d : Dt} {ds : List Dt} : Dv H v d → DvAll H vs ds → DvAll H (v :: vs) (d :: ds)
end
section
variable {H H' : Hp}
mutual
theorem Dv.stay (f : ∀ x l, H x = some (.tup l) → H' x = some (.tup l)) : ∀ (d : Dt) (v : V), Dv H v d → Dv H' v d
  | .none, _, h => by cases h; exact .non
  | .bool b, _, h => by cases h; exact .bl b
  | .int i, _, h => by cases h; exact .int i
  | .str x, _, h => by cases h; exact .str x
  | .tuple ds, _, h => by
    cases h with
    | tup h1 h2 => exact .tup (f _ _ h1) (DvAll.stay f ds _ h2)
  | .list ds, _, h => by cases h
  | .dict ds, _, h => by cases h
theorem DvAll.stay (f : ∀ x l, H x = some (.tup l) → H' x = some (.tup l)) : ∀ (ds : List Dt) (vs : List V), DvAll H vs ds → DvAll H' vs ds
  | [], _, h => by cases h; exact .nil
  | d :: ds, _, h => by
    cases h with
    | cons h1 h2 => exact .cons (Dv.stay f d _ h1) (DvAll.stay f ds _ h2)
end
mutual
theorem Dv.dp {K : PySem.W.Frag} : ∀ (d : Dt) (v : V), Dv H v d → Dp K H v d
  | .none, _, h => by cases h; exact .non
  | .bool b, _, h => by cases h; exact .bl b
  | .int i, _, h => by cases h; exact .int i
  | .str x, _, h => by cases h; exact .str x
  | .tuple ds, _, h => by
    cases h with
    | tup h1 h2 => exact .tup (SqT.of h1) (DvAll.dp ds _ h2)
  | .list ds, _, h => by cases h
  | .dict ds, _, h => by cases h
theorem DvAll.dp {K : PySem.W.Frag} : ∀ (ds : List Dt) (vs : List V), DvAll H vs ds → DpAll K H vs ds
  | [], _, h => by cases h; exact .nil
  | d :: ds, _, h => by
    cases h with
    | cons h1 h2 => exact .cons (Dv.dp d _ h1) (DvAll.dp ds _ h2)
end
theorem DvAll.len : ∀ {vs : List V} {ds : List Dt}, DvAll H vs ds → vs.length = ds.length
  | [], _, h => by cases h; rfl
  | v :: vs, _, h => by
    cases h with
    | cons h1 h2 => rw [List.length_cons, List.length_cons, DvAll.len h2]
theorem DvAll.get : ∀ {vs : List V} {ds : List Dt} {i : Nat} {v : V} {d : Dt}, DvAll H vs ds → vs[i]? = some v → ds[i]? = some d → Dv H v d
  | _, _, _, _, _, .nil, h, _ => by simp at h
  | _, _, 0, _, _, .cons h _, h1, h2 => by cases h1; cases h2; exact h
  | _, _, i + 1, _, _, .cons _ h, h1, h2 => DvAll.get h h1 h2
theorem DvAll.app : ∀ {vs ws : List V} {ds es : List Dt}, DvAll H vs ds → DvAll H ws es → DvAll H (vs ++ ws) (ds ++ es)
  | _, _, _, _, .nil, h => h
  | _, _, _, _, .cons a b, h => .cons a (DvAll.app b h)
theorem DvAll.ints : ∀ (xs : List Int), DvAll H (xs.map V.int) (xs.map PyData.int)
  | [] => .nil
  | x :: xs => .cons (.int x) (DvAll.ints xs)
theorem DvAll.strs : ∀ (xs : List Str), DvAll H (xs.map V.str) (xs.map PyData.str)
  | [] => .nil
  | x :: xs => .cons (.str x) (DvAll.strs xs)
end
abbrev Shp (d : Dt) : Prop := SeqAt.shaped d = true
structure DvS (H : Hp) (v : V) (d : Dt) : Prop where
  dv : Dv H v d
  sh : Shp d
theorem DvS.int {H : Hp} (i : Int) : DvS H (.int i) (.int i) := ⟨.int i, by simp [Shp, SeqAt.shaped, PyData.canLay0, PyData.depth]⟩
theorem DvS.str {H : Hp} (i : Str) (h : PyData.strOk i = true) : DvS H (.str i) (.str i) := ⟨.str i, by simp [Shp, SeqAt.shaped, PyData.canLay0, PyData.depth, h]⟩
theorem DvS.non {H : Hp} : DvS H .non .none := ⟨.non, by simp [Shp, SeqAt.shaped, PyData.canLay0, PyData.depth]⟩
theorem DvS.bl {H : Hp} (b : Bool) : DvS H (.bl b) (.bool b) := ⟨.bl b, by simp [Shp, SeqAt.shaped, PyData.canLay0, PyData.depth]⟩
theorem DvS.stay {H H' : Hp} {v : V} {d : Dt} (h : DvS H v d) (f : ∀ x l, H x = some (.tup l) → H' x = some (.tup l)) : DvS H' v d := ⟨h.dv.stay f, h.sh⟩
theorem DvS.intI {H : Hp} {v : V} {i : Int} (h : DvS H v (.int i)) : v = .int i := by cases h.dv; rfl
theorem DvS.nonI {H : Hp} {v : V} (h : DvS H v .none) : v = .non := by cases h.dv; rfl
theorem DvS.blI {H : Hp} {v : V} {b : Bool} (h : DvS H v (.bool b)) : v = .bl b := by cases h.dv; rfl
theorem DvS.strI {H : Hp} {v : V} {b : Str} (h : DvS H v (.str b)) : v = .str b := by cases h.dv; rfl
/-- a value compared with another, by the one rule -/
theorem s_neDv {K : PySem.W.Frag} {H : Hp} {v u : V} {d e : Dt} {Q : VK} (h1 : DvS H v d) (h2 : DvS H u e) (k : Q (.bl (!PyData.eqv d e)) H) : rNeD K v u H Q :=
  ⟨d, e, h1.dv.dp _ _, h2.dv.dp _ _, h1.sh, h2.sh, k⟩
end Tr
set_option maxHeartbeats 2000000
namespace Tr
open PySem L2
/-- what is kept beside the state: where things and works stand, what the desk owns, what the law's works change -/
structure Gh where
  d : Addr
  adr : Str → Option Addr
  wad : Str → Option Addr
  fas : List Addr
  T : Addr → Prop
  L : Addr → Prop
  P : Addr → Prop
structure Cn where
  dd : Addr
  un : Addr
  cs : Addr
  rd : Addr
  ef : Addr
  lg : Addr
  mv : Addr
  fr : Addr
  nad : Str → Addr
  idx : Str → Addr
  fdx : Nat → Addr
  lgs : List V
  vn : Str → List V
  vh : Str → V
def Mut : HO → Prop
  | .lst _ => True
  | .ins _ _ _ => True
  | .dK _ => True
  | .dT _ => True
  | .set _ _ => True
  | _ => False
/-- .. or a table of code objects -/
def MutL : HO → Prop
  | .tbl _ => True
  | o => Mut o
theorem Mut.l {o : HO} (m : Mut o) : MutL o := by cases o <;> first | exact m | trivial
/-- what never changes -/
def Imm : HO → Prop
  | .tup _ => True
  | .frz _ _ => True
  | .ext _ => True
  | _ => False
structure Step (g : Gh) (H : Hp) (g' : Gh) (H' : Hp) : Prop where
  d : g'.d = g.d
  fas : g'.fas = g.fas
  adr : ∀ n x, g.adr n = some x → g'.adr n = some x
  wad : ∀ n x, g.wad n = some x → g'.wad n = some x
  T : ∀ x, g.T x → g'.T x
  L : ∀ x, g.L x → g'.L x
  P : ∀ x, g.P x → g'.P x
  nT : ∀ x, g'.T x → g.T x ∨ H x = none
  nL : ∀ x, g'.L x → g.L x ∨ H x = none
  nP : ∀ x, g'.P x → g.P x ∨ H x = none
  st0 : ∀ x o, H x = some o → (∀ ps, o ≠ .tbl ps) → ¬ g.T x → ¬ g.L x → H' x = some o
  tb : ∀ x ps, H x = some (.tbl ps) → ¬ g.T x → ∃ more, H' x = some (.tbl (ps ++ more)) ∧ (more = #[] ∨ g.L x)
  oc : ∀ x o, H x = some o → ∃ o', H' x = some o'
/-- a step that changes nothing of the law's -/
structure DStep (g : Gh) (H : Hp) (g' : Gh) (H' : Hp) : Prop extends Step g H g' H' where
  stD : ∀ x o, H x = some o → ¬ g.T x → H' x = some o
  eL : g'.L = g.L
section
variable {g g1 g2 g' : Gh} {H H1 H2 H' : Hp} {x : Addr}
theorem Step.none (s : Step g H g' H') {x : Addr} (h : H' x = none) : H x = none := by
  cases e : H x with
  | none => rfl
  | some o =>
    obtain ⟨o', h'⟩ := s.oc x o e
    rw [h] at h'
    cases h'
theorem Step.st (s : Step g H g' H') (x : Addr) (o : HO) (h : H x = some o) (h1 : ¬ g.T x) (h2 : ¬ g.L x) (nt : ∀ ps, o ≠ .tbl ps := by intro ps z; cases z) : H' x = some o := s.st0 x o h nt h1 h2
theorem Step.refl : Step g H g H := ⟨rfl, rfl, fun _ _ h => h, fun _ _ h => h, fun _ h => h, fun _ h => h, fun _ h => h, fun _ h => .inl h, fun _ h => .inl h, fun _ h => .inl h, fun _ _ h _ _ _ => h, fun _ ps h _ => ⟨#[], (by rw [Array.append_empty]; exact h), .inl rfl⟩, fun _ o h => ⟨o, h⟩⟩
theorem Step.tr (s : Step g H g1 H1) (t : Step g1 H1 g2 H2) : Step g H g2 H2 where
  d := t.d.trans s.d
  fas := t.fas.trans s.fas
  adr := fun n x h => t.adr n x (s.adr n x h)
  wad := fun n x h => t.wad n x (s.wad n x h)
  T := fun x h => t.T x (s.T x h)
  L := fun x h => t.L x (s.L x h)
  P := fun x h => t.P x (s.P x h)
  nT := fun x h => (t.nT x h).elim (s.nT x) fun z => .inr (s.none z)
  nL := fun x h => (t.nL x h).elim (s.nL x) fun z => .inr (s.none z)
  nP := fun x h => (t.nP x h).elim (s.nP x) fun z => .inr (s.none z)
  st0 := fun x o h n h1 h2 => t.st0 x o (s.st0 x o h n h1 h2) n (fun z => (s.nT x z).elim h1 fun y => by rw [h] at y; cases y) fun z => (s.nL x z).elim h2 fun y => by rw [h] at y; cases y
  tb := fun x ps h h1 => by
    obtain ⟨m1, e1, q1⟩ := s.tb x ps h h1
    obtain ⟨m2, e2, q2⟩ := t.tb x _ e1 fun z => (s.nT x z).elim h1 fun y => by rw [h] at y; cases y
    exact ⟨m1 ++ m2, by rw [← Array.append_assoc]; exact e2, q1.elim (fun z1 => (q2.elim (fun z2 => .inl (by rw [z1, z2]; rfl)) fun z2 => (s.nL x z2).elim .inr fun y => by rw [h] at y; cases y)) .inr⟩
  oc := fun x o h => by
    obtain ⟨o', h'⟩ := s.oc x o h
    exact t.oc x o' h'
theorem Step.notT (s : Step g H g' H') {x : Addr} {o : HO} (h : H x = some o) (n : ¬ g.T x) : ¬ g'.T x := fun z => (s.nT x z).elim n fun y => by rw [h] at y; cases y
theorem Step.notL (s : Step g H g' H') {x : Addr} {o : HO} (h : H x = some o) (n : ¬ g.L x) : ¬ g'.L x := fun z => (s.nL x z).elim n fun y => by rw [h] at y; cases y
theorem Step.notP (s : Step g H g' H') {x : Addr} {o : HO} (h : H x = some o) (n : ¬ g.P x) : ¬ g'.P x := fun z => (s.nP x z).elim n fun y => by rw [h] at y; cases y
/-- elsewhere -/
theorem Step.off (s : Step g H g' H') {x : Addr} {o : HO} (n : H x = Option.none) : Step g H g' (L2.upd H' x o) :=
  ⟨s.d, s.fas, s.adr, s.wad, s.T, s.L, s.P, s.nT, s.nL, s.nP, (fun y o' h nt h1 h2 => by rw [upd_ne (ne_of_none h n)]; exact s.st0 y o' h nt h1 h2), (fun y ps h h1 => by rw [upd_ne (ne_of_none h n)]; exact s.tb y ps h h1), fun y o' h => by rw [upd_ne (ne_of_none h n)]; exact s.oc y o' h⟩
/-- of no concern here -/
structure Out (g : Gh) (x : Addr) : Prop where
  t : ¬ g.T x
  l : ¬ g.L x
  p : ¬ g.P x
theorem Out.step (h : Out g x) (s : Step g H g' H') {o : HO} (e : H x = some o) : Out g' x := ⟨s.notT e h.t, s.notL e h.l, s.notP e h.p⟩
theorem DStep.refl : DStep g H g H := ⟨Step.refl, fun _ _ h _ => h, rfl⟩
theorem DStep.tr (s : DStep g H g1 H1) (t : DStep g1 H1 g2 H2) : DStep g H g2 H2 :=
  ⟨s.toStep.tr t.toStep, fun x o h n => t.stD x o (s.stD x o h n) (s.toStep.notT h n), t.eL.trans s.eL⟩
theorem DStep.same (s : Same H H') : DStep g H g H' := ⟨⟨rfl, rfl, fun _ _ h => h, fun _ _ h => h, fun _ h => h, fun _ h => h, fun _ h => h, fun _ h => .inl h, fun _ h => .inl h, fun _ h => .inl h, fun _ _ h _ _ _ => s _ _ h, fun _ ps h _ => ⟨#[], (by rw [Array.append_empty]; exact s _ _ h), .inl rfl⟩, fun _ o h => ⟨o, s _ _ h⟩⟩, fun _ _ h _ => s _ _ h, rfl⟩
theorem DStep.upd {x : Addr} {o : HO} (h : g.T x) : DStep g H g (upd H x o) := by
  have st : ∀ y o', H y = some o' → ¬ g.T y → L2.upd H x o y = some o' := fun y o' e n => by rw [upd_ne (by rintro rfl; exact n h)]; exact e
  refine ⟨⟨rfl, rfl, fun _ _ h => h, fun _ _ h => h, fun _ h => h, fun _ h => h, fun _ h => h, fun _ h => .inl h, fun _ h => .inl h, fun _ h => .inl h, fun y o' e _ n _ => st y o' e n, fun y ps e n => ⟨#[], (by rw [Array.append_empty]; exact st y _ e n), .inl rfl⟩, fun y o' e => ?_⟩, st, rfl⟩
  by_cases c : y = x
  · exact ⟨o, by rw [c, upd_same]⟩
  · exact ⟨o', by rw [upd_ne c]; exact e⟩
end
/-- all that a law's works lean on stays -/
structure WStep (g : Gh) (H : Hp) (g' : Gh) (H' : Hp) : Prop where
  d : g'.d = g.d
  adr : ∀ n x, g.adr n = some x → g'.adr n = some x
  P : ∀ x, g.P x → g'.P x
  im : ∀ x o, H x = some o → Imm o → H' x = some o
  pi : ∀ x o, H x = some o → g.P x → H' x = some o
/-- what a law says of its works and of what they change -/
structure LawP (ω Λ : Type) where
  LA : Λ → Gh → Hp → Prop
  CL : ω → Addr → Gh → Hp → Prop
  la_st : ∀ {l : Λ} {g g' : Gh} {H H' : Hp}, LA l g H → WStep g H g' H' → (∀ x o, H x = some o → g.L x → H' x = some o) → g'.L = g.L → LA l g' H'
  cl_st : ∀ {w : ω} {f : Addr} {g g' : Gh} {H H' : Hp}, CL w f g H → WStep g H g' H' → CL w f g' H'
  cl_fn : ∀ {w : ω} {f : Addr} {g : Gh} {H : Hp}, CL w f g H → ∃ (o : Obj) (fd : FuncData), H f = some (frzO o) ∧ o.cls = .type "function" ∧ o.data = .func fd
section
variable {ω Λ α β : Type}
def gA (g : Gh) (n : Str) : Addr := (g.adr n).getD 0
def wA (g : Gh) (n : Str) : Addr := (g.wad n).getD 0
def kvU (g : Gh) (n : Str) : Key × V := (.inr n, .ref (gA g n))
def notesU (ks : List Str) (vs : List V) : List (Key × V) := (ks.zip vs).map fun p => (.inr p.1, p.2)
def cellU (d : Addr) (nm : Str) (v : Int) : List (Str × V) := [("desk", .ref d), ("name", .str nm), ("now", .int v)]
def frameU (owner : Str) (ia hu : Bool) (nt : Addr) : List (Str × V) := [("owner", .str owner), ("is_answer", .bl ia), ("is_hushed", .bl hu), ("noted", .ref nt)]
def keptU (d : Addr) (nm : Str) (f nt : Addr) (n : Int) (kw : V) (hw : Bool) : List (Str × V) := [("desk", .ref d), ("name", .str nm), ("work", .ref f), ("noted", .ref nt), ("runs", .int n), ("kept_worth", kw), ("has_worth", .bl hw)]
def effU (d : Addr) (nm : Str) (f nt : Addr) (n : Int) (rp : V) : List (Str × V) := [("desk", .ref d), ("name", .str nm), ("work", .ref f), ("noted", .ref nt), ("runs", .int n), ("report", rp)]
def deskU (c : Cn) (ba : Int) : List (Str × V) := [("used_names", .ref c.un), ("cells", .ref c.cs), ("readable", .ref c.rd), ("effects", .ref c.ef), ("log", .ref c.lg), ("frames", .ref c.fr), ("batches", .int ba), ("moved", .ref c.mv)]
def thO (a : Nat → Addr) (g : Gh) (c : Cn) (n : Str) : Th ω → HO
  | .cell v => .ins (a 2) (c.idx n) (cellU g.d n v)
  | .kept _ _ k h => .ins (a 40) (c.idx n) (keptU g.d n (wA g n) (c.nad n) (k : Nat) (c.vh n) h.isSome)
  | .eff _ _ k _ => .ins (a 60) (c.idx n) (effU g.d n (wA g n) (c.nad n) (k : Nat) (c.vh n))
inductive Sl where
  | d | un | cs | rd | ef | lg | mv
  | th (n : Str)
  | nt (n : Str)
  | fm (i : Nat)
def slot (a : Nat → Addr) (g : Gh) (S : DS ω) (c : Cn) : Sl → Option (Addr × HO)
  | .d => some (g.d, .ins (a 3) c.dd (deskU c (S.ba : Nat)))
  | .un => some (c.un, .lst (S.names.map V.str))
  | .cs => some (c.cs, .dK (S.cells.map (kvU g)))
  | .rd => some (c.rd, .dK (S.rds.map (kvU g)))
  | .ef => some (c.ef, .lst (S.efs.map fun n => V.ref (gA g n)))
  | .lg => some (c.lg, .lst c.lgs)
  | .mv => some (c.mv, .lst (S.mv.map V.str))
  | .th n => (S.th n).map fun t => (gA g n, thO a g c n t)
  | .nt n => ((S.th n).bind Th.notes).map fun ns => (c.nad n, .dK (notesU (ns.map (·.1)) (c.vn n)))
  | .fm i => match S.frs[i]?, g.fas[i]? with
    | some f, some x => some (x, .ins (a 49) (c.fdx i) (frameU f.own f.isA f.hush (c.nad f.own)))
    | _, _ => none
def LogU (H : Hp) (lgs : List V) (L : List (Str × Dt)) : Prop := lgs.length = L.length ∧ ∀ (i : Nat) (v : V) (p : Str × Dt), lgs[i]? = some v → L[i]? = some p → ∃ t u, v = .ref t ∧ H t = some (.tup [.str p.1, u]) ∧ DvS H u p.2
structure VR (S : DS ω) (c : Cn) (H : Hp) : Prop where
  log : LogU H c.lgs S.log
  nts : ∀ n t ns, S.th n = some t → t.notes = some ns → DvAll H (c.vn n) (ns.map (·.2)) ∧ ∀ p ∈ ns, Shp p.2
  hld : ∀ n w ns k h, S.th n = some (.kept w ns k h) → DvS H (c.vh n) (h.getD .none)
  rep : ∀ n w ns k r, S.th n = some (.eff w ns k r) → DvS H (c.vh n) r
structure SOk (g : Gh) (S : DS ω) : Prop where
  cel : ∀ n ∈ S.cells, ∃ v, S.th n = some (.cell v)
  rdi : ∀ n ∈ S.rds, ∃ t, S.th n = some t ∧ ∀ w ns k r, t ≠ .eff w ns k r
  rdc : ∀ n v, S.th n = some (.cell v) → n ∈ S.rds ∧ n ∈ S.cells
  rdk : ∀ n w ns k h, S.th n = some (.kept w ns k h) → n ∈ S.rds
  efi : ∀ n ∈ S.efs, ∃ w ns k r, S.th n = some (.eff w ns k r)
  nam : ∀ n t, S.th n = some t → n ∈ S.names
  adr : ∀ n t, S.th n = some t → ∃ x, g.adr n = some x
  wad : ∀ n t w, S.th n = some t → t.work = some w → ∃ f, g.wad n = some f
  fre : ∀ n, S.th n = none → g.adr n = none ∧ g.wad n = none
  frn : ∀ f ∈ S.frs, ∃ t ns, S.th f.own = some t ∧ t.notes = some ns
  fl : S.frs.length = g.fas.length
  ndc : S.cells.Nodup
  ndr : S.rds.Nodup
  b1 : S.names.length ≤ 200
  b2 : S.cells.length ≤ 200
  b3 : S.rds.length ≤ 200
  b4 : S.efs.length ≤ 200
  b5 : S.log.length ≤ 9000
  b6 : S.frs.length ≤ 200
  b7 : S.mv.length ≤ 9000
  b8 : ∀ n t ns, S.th n = some t → t.notes = some ns → ns.length ≤ 200
structure Wc (a : Nat → Addr) (Y : LawP ω Λ) (g : Gh) (st : SW ω Λ) (c : Cn) (H : Hp) : Prop where
  sl : ∀ s x o, slot a g st.1 c s = some (x, o) → H x = some o
  inj : ∀ s s' x o o', slot a g st.1 c s = some (x, o) → slot a g st.1 c s' = some (x, o') → s = s'
  inT : ∀ s x o, slot a g st.1 c s = some (x, o) → g.T x
  frl : H c.fr = some (.lst (g.fas.map V.ref))
  frP : g.P c.fr
  pp : ∀ x, g.P x → (∃ o, H x = some o ∧ ∀ ps, o ≠ .tbl ps) ∧ ¬ g.T x ∧ ¬ g.L x
  vr : VR st.1 c H
  ok : SOk g st.1
  la : Y.LA st.2 g H
  lo : ∀ x, g.L x → ∃ o, H x = some o ∧ MutL o
  dj : ∀ x, g.T x → ¬ g.L x
  mu : ∀ x, g.T x → ∃ o, H x = some o ∧ Mut o
  cl : ∀ n t w f, st.1.th n = some t → t.work = some w → g.wad n = some f → Y.CL w f g H
def Wld (a : Nat → Addr) (Y : LawP ω Λ) (g : Gh) (st : SW ω Λ) (H : Hp) : Prop := ∃ c, Wc a Y g st c H
def Post (a : Nat → Addr) (Y : LawP ω Λ) (g : Gh) (H : Hp) (K : α → SW ω Λ → Gh → Hp → Prop) (EE : Er → SW ω Λ → Gh → Hp → Prop) : Rs ω Λ α → Prop
  | none => False
  | some (.ok v, s) => ∀ g' H', Wld a Y g' s H' → Step g H g' H' → K v s g' H'
  | some (.error e, s) => ∀ g' H', Wld a Y g' s H' → Step g H g' H' → EE e s g' H'
variable {a : Nat → Addr} {Y : LawP ω Λ} {g g1 g' : Gh} {H H1 H' : Hp} {K K' : α → SW ω Λ → Gh → Hp → Prop} {EE EE' : Er → SW ω Λ → Gh → Hp → Prop} {st s : SW ω Λ} {c c' : Cn} {S S' : DS ω} {l : Λ}
theorem Post.ok {v : α} (h : Post a Y g H K EE (some (.ok v, s))) (w : Wld a Y g' s H') (t : Step g H g' H') : K v s g' H' := h g' H' w t
theorem Post.err {e : Er} (h : Post a Y g H K EE (some (.error e, s))) (w : Wld a Y g' s H') (t : Step g H g' H') : EE e s g' H' := h g' H' w t
theorem Post.of_eq {r r' : Rs ω Λ α} (e : r = r') (h : Post a Y g H K EE r') : Post a Y g H K EE r := e ▸ h
theorem Post.mkOk {v : α} (h : ∀ g' H', Wld a Y g' s H' → Step g H g' H' → K v s g' H') : Post a Y g H K EE (some (.ok v, s)) := h
theorem Post.mkErr {e : Er} (h : ∀ g' H', Wld a Y g' s H' → Step g H g' H' → EE e s g' H') : Post a Y g H K EE (some (.error e, s)) := h
theorem Post.imp {r : Rs ω Λ α} (h : Post a Y g H K EE r) (h1 : ∀ v s g' H', Wld a Y g' s H' → Step g H g' H' → K v s g' H' → K' v s g' H') (h2 : ∀ e s g' H', Wld a Y g' s H' → Step g H g' H' → EE e s g' H' → EE' e s g' H') : Post a Y g H K' EE' r := by
  match r, h with
  | none, h => exact h
  | some (.ok v, s), h => exact fun g' H' w t => h1 v s g' H' w t (h g' H' w t)
  | some (.error e, s), h => exact fun g' H' w t => h2 e s g' H' w t (h g' H' w t)
theorem Post.impE {r : Rs ω Λ α} (h : Post a Y g H K EE r) (h1 : ∀ v s g' H', r = some (.ok v, s) → Wld a Y g' s H' → Step g H g' H' → K v s g' H' → K' v s g' H') (h2 : ∀ e s g' H', r = some (.error e, s) → Wld a Y g' s H' → Step g H g' H' → EE e s g' H' → EE' e s g' H') : Post a Y g H K' EE' r := by
  match r, h with
  | none, h => exact h
  | some (.ok v, s), h => exact fun g' H' w t => h1 v s g' H' rfl w t (h g' H' w t)
  | some (.error e, s), h => exact fun g' H' w t => h2 e s g' H' rfl w t (h g' H' w t)
theorem Post.from {r : Rs ω Λ α} (h : Post a Y g H K EE r) (t0 : Step g H g1 H1) : Post a Y g1 H1 K EE r := by
  match r, h with
  | none, h => exact h
  | some (.ok v, s), h => exact fun g' H' w t => h g' H' w (t0.tr t)
  | some (.error e, s), h => exact fun g' H' w t => h g' H' w (t0.tr t)
theorem Post.bind {β : Type} {m : MM ω Λ β} {f : β → MM ω Λ α} (h : Post a Y g H K EE (MM.bind m f s)) : Post a Y g H (fun v s1 g1 H1 => Post a Y g1 H1 K EE (f v s1)) EE (m s) := by
  unfold MM.bind at h
  cases e : m s with
  | none => rw [e] at h; exact h
  | some p =>
    rw [e] at h
    obtain ⟨r, s1⟩ := p
    cases r with
    | error er => exact h
    | ok v => exact fun g' H' w t => Post.from h t
theorem Post.calm {β : Type} {m : MM ω Λ β} {f : β → MM ω Λ α} (h : Post a Y g H K EE (MM.bind (MM.calm m) f s)) : Post a Y g H (fun v s1 g1 H1 => Post a Y g1 H1 K EE (f v s1)) (fun _ _ _ _ => False) (m s) := by
  unfold MM.bind MM.calm at h
  cases e : m s with
  | none => rw [e] at h; exact h
  | some p =>
    rw [e] at h
    obtain ⟨r, s1⟩ := p
    cases r with
    | error er => exact h.elim
    | ok v => exact fun g' H' w t => Post.from h t
/-- .. what follows seen from where one began -/
theorem Post.bindB {β : Type} {m : MM ω Λ β} {f : β → MM ω Λ α} (h : Post a Y g H K EE (MM.bind m f s)) (t : Step g H g1 H1) : Post a Y g1 H1 (fun v s1 _ _ => Post a Y g H K EE (f v s1)) EE (m s) := by
  unfold MM.bind at h
  cases e : m s with
  | none => rw [e] at h; exact h
  | some p =>
    rw [e] at h
    obtain ⟨r, s1⟩ := p
    cases r with
    | error er => exact Post.from h t
    | ok v => exact fun g' H' _ _ => h
theorem Post.calmB {β : Type} {m : MM ω Λ β} {f : β → MM ω Λ α} (h : Post a Y g H K EE (MM.bind (MM.calm m) f s)) : Post a Y g1 H1 (fun v s1 _ _ => Post a Y g H K EE (f v s1)) (fun _ _ _ _ => False) (m s) := by
  unfold MM.bind MM.calm at h
  cases e : m s with
  | none => rw [e] at h; exact h
  | some p =>
    rw [e] at h
    obtain ⟨r, s1⟩ := p
    cases r with
    | error er => exact h.elim
    | ok v => exact fun g' H' _ _ => h
abbrev DtQ (Q : VK) : Dt → SW ω Λ → Gh → Hp → Prop := fun v _ _ H' => ∀ u, DvS H' u v → Q u H'
abbrev UnQ (Q : VK) : Unit → SW ω Λ → Gh → Hp → Prop := fun _ _ _ H' => Q .non H'
abbrev BoQ (Q : VK) : Bool → SW ω Λ → Gh → Hp → Prop := fun b _ _ H' => Q (.bl b) H'
def ErAt (H : Hp) (g : Gh) (e : Er) (d : Option Addr) : Prop := match e.f with
  | none => d = none
  | some (f, v) => ∃ x u, d = some x ∧ H x = some (.xd [(f, u)]) ∧ Dv H u v ∧ ¬ g.T x ∧ ¬ g.L x
def ErQ (a : Nat → Addr) (E : XK) : Er → SW ω Λ → Gh → Hp → Prop := fun e _ g' H' => ∀ d, ErAt H' g' e d → E (.ref (a e.c)) d H'
theorem Mut.not_tup {H : Hp} {x : Addr} {xs : List V} {P : Prop} (h : H x = some (.tup xs)) (m : ∃ o, H x = some o ∧ Mut o) : P := by
  obtain ⟨o, e, mo⟩ := m
  rw [h] at e
  cases e
  exact mo.elim
theorem Mut.not_frz {H : Hp} {x : Addr} {ob : Obj} {u : HO} {P : Prop} (h : H x = some (.frz ob u)) (m : ∃ o, H x = some o ∧ Mut o) : P := by
  obtain ⟨o, e, mo⟩ := m
  rw [h] at e
  cases e
  exact mo.elim
theorem MutL.not_tup {H : Hp} {x : Addr} {xs : List V} {P : Prop} (h : H x = some (.tup xs)) (m : ∃ o, H x = some o ∧ MutL o) : P := by
  obtain ⟨o, e, mo⟩ := m
  rw [h] at e
  cases e
  exact mo.elim
theorem MutL.not_frz {H : Hp} {x : Addr} {ob : Obj} {u : HO} {P : Prop} (h : H x = some (.frz ob u)) (m : ∃ o, H x = some o ∧ MutL o) : P := by
  obtain ⟨o, e, mo⟩ := m
  rw [h] at e
  cases e
  exact mo.elim
theorem Wc.tupS (w : Wc a Y g st c H) (s : Step g H g' H') {x : Addr} {xs : List V} (h : H x = some (.tup xs)) : H' x = some (.tup xs) :=
  s.st x _ h (fun z => Mut.not_tup h (w.mu x z)) fun z => MutL.not_tup h (w.lo x z)
theorem Wc.frzS (w : Wc a Y g st c H) (s : Step g H g' H') {x : Addr} {ob : Obj} {u : HO} (h : H x = some (.frz ob u)) : H' x = some (.frz ob u) :=
  s.st x _ h (fun z => Mut.not_frz h (w.mu x z)) fun z => MutL.not_frz h (w.lo x z)
theorem Wld.tupS (w : Wld a Y g st H) (s : Step g H g' H') {x : Addr} {xs : List V} (h : H x = some (.tup xs)) : H' x = some (.tup xs) := w.elim fun _ w => w.tupS s h
theorem Wld.frzS (w : Wld a Y g st H) (s : Step g H g' H') {x : Addr} {ob : Obj} {u : HO} (h : H x = some (.frz ob u)) : H' x = some (.frz ob u) := w.elim fun _ w => w.frzS s h
theorem Wld.dvS (w : Wld a Y g st H) (s : Step g H g' H') {v : V} {d : Dt} (h : DvS H v d) : DvS H' v d := h.stay fun _ _ e => w.tupS s e
theorem LogU.stay {L : List (Str × Dt)} {lgs : List V} (h : LogU H lgs L) (f : ∀ x l, H x = some (.tup l) → H' x = some (.tup l)) : LogU H' lgs L := ⟨h.1, fun i v p h1 h2 => by
  obtain ⟨t, u, e, h3, h4⟩ := h.2 i v p h1 h2
  exact ⟨t, u, e, f _ _ h3, h4.stay f⟩⟩
theorem VR.stay (h : VR S c H) (f : ∀ x l, H x = some (.tup l) → H' x = some (.tup l)) : VR S c H' :=
  ⟨h.log.stay f, fun n t ns h1 h2 => ⟨(h.nts n t ns h1 h2).1.stay f, (h.nts n t ns h1 h2).2⟩, fun n w ns k hd h1 => (h.hld n w ns k hd h1).stay f, fun n w ns k r h1 => (h.rep n w ns k r h1).stay f⟩
theorem Wc.frT (w : Wc a Y g st c H) : ¬ g.T c.fr := (w.pp _ w.frP).2.1
theorem Wc.frL (w : Wc a Y g st c H) : ¬ g.L c.fr := (w.pp _ w.frP).2.2
theorem Wc.immS (w : Wc a Y g st c H) (s : Step g H g' H') {x : Addr} {o : HO} (h : H x = some o) (i : Imm o) : H' x = some o := by
  cases o with
  | tup xs => exact w.tupS s h
  | frz ob u => exact w.frzS s h
  | ext φ =>
    refine s.st x _ h (fun z => ?_) (fun z => ?_)
    · obtain ⟨o', e, m⟩ := w.mu x z
      rw [h] at e
      cases e
      exact m.elim
    · obtain ⟨o', e, m⟩ := w.lo x z
      rw [h] at e
      cases e
      exact m.elim
  | _ => exact i.elim
theorem Wc.ws (w : Wc a Y g st c H) (s : Step g H g' H') : WStep g H g' H' := ⟨s.d, s.adr, s.P, fun x o h i => w.immS s h i, fun x o h p => by
  obtain ⟨⟨o', e, n⟩, h1, h2⟩ := w.pp x p
  rw [h] at e
  cases e
  exact s.st0 x o h n h1 h2⟩
theorem WStep.fas {F F' : List Addr} (s : WStep g H g' H') : WStep { g with fas := F } H { g' with fas := F' } H' := ⟨s.d, s.adr, s.P, s.im, s.pi⟩
/-- new objects beside it -/
theorem Wc.same (w : Wc a Y g st c H) (s : Same H H') : Wc a Y g st c H' where
  sl := fun t x o h => s _ _ (w.sl t x o h)
  inj := w.inj
  inT := w.inT
  frl := s _ _ w.frl
  frP := w.frP
  pp := fun x p => ⟨(w.pp x p).1.imp fun o e => ⟨s _ _ e.1, e.2⟩, (w.pp x p).2⟩
  vr := w.vr.stay fun _ _ e => s _ _ e
  ok := w.ok
  la := Y.la_st w.la (w.ws (DStep.same s).toStep) (fun x o e _ => s _ _ e) rfl
  lo := fun x h => by obtain ⟨o, e, m⟩ := w.lo x h; exact ⟨o, s _ _ e, m⟩
  dj := w.dj
  mu := fun x h => by obtain ⟨o, e, m⟩ := w.mu x h; exact ⟨o, s _ _ e, m⟩
  cl := fun n t wk f h1 h2 h3 => Y.cl_st (w.cl n t wk f h1 h2 h3) (w.ws (DStep.same s).toStep)
theorem Wld.same (w : Wld a Y g st H) (s : Same H H') : Wld a Y g st H' := w.elim fun c w => ⟨c, w.same s⟩
/-- one thing of the desk changes where it stands -/
theorem Wc.set (w : Wc a Y g (S, l) c H) (s0 : Sl) {x0 : Addr} {o0 : HO} (m0 : Mut o0) (h0 : ∃ o, slot a g S c s0 = some (x0, o)) (h0' : slot a g S' c' s0 = some (x0, o0)) (hs : ∀ s, s ≠ s0 → slot a g S' c' s = slot a g S c s) (hfr : c'.fr = c.fr)
    (vr : VR S' c' H) (ok : SOk g S') (wk : ∀ n t k, S'.th n = some t → t.work = some k → ∃ t', S.th n = some t' ∧ t'.work = some k) : Wc a Y g (S', l) c' (upd H x0 o0) := by
  obtain ⟨o, h0⟩ := h0
  have t0 : g.T x0 := w.inT _ _ _ h0
  have ds : DStep g H g (upd H x0 o0) := DStep.upd t0
  have tp : ∀ x xs, H x = some (.tup xs) → upd H x0 o0 x = some (.tup xs) := fun x xs h => w.tupS ds.toStep h
  refine ⟨fun s x o' h => ?_, fun s s' x o1 o2 h1 h2 => ?_, fun s x o' h => ?_, ?_, ?_, fun x p => ?_, vr.stay tp, ok, Y.la_st w.la (w.ws ds.toStep) (fun x o' e z => ds.stD x o' e fun q => w.dj x q z) rfl, fun x h => ?_, w.dj, fun x h => ?_, fun n t k f h1 h2 h3 => ?_⟩
  · by_cases e : s = s0
    · subst e
      rw [h0'] at h
      cases h
      exact upd_same
    · rw [hs s e] at h
      rw [upd_ne (fun z => e (w.inj s s0 _ _ _ (z ▸ h) h0))]
      exact w.sl s x o' h
  · by_cases e : s = s0
    · by_cases e' : s' = s0
      · rw [e, e']
      · subst e
        rw [h0'] at h1
        cases h1
        rw [hs s' e'] at h2
        exact (w.inj s' _ _ _ _ h2 h0).symm
    · by_cases e' : s' = s0
      · subst e'
        rw [h0'] at h2
        cases h2
        rw [hs s e] at h1
        exact w.inj s _ _ _ _ h1 h0
      · rw [hs s e] at h1
        rw [hs s' e'] at h2
        exact w.inj s s' x _ _ h1 h2
  · by_cases e : s = s0
    · subst e
      rw [h0'] at h
      cases h
      exact t0
    · rw [hs s e] at h
      exact w.inT s x _ h
  · rw [hfr, upd_ne (fun z => w.frT (by rw [z]; exact t0))]
    exact w.frl
  · rw [hfr]; exact w.frP
  · obtain ⟨⟨o1, e, n⟩, h1, h2⟩ := w.pp x p
    exact ⟨⟨o1, ds.stD x o1 e h1, n⟩, h1, h2⟩
  · obtain ⟨o1, e, m⟩ := w.lo x h
    exact ⟨o1, by rw [upd_ne (fun z => w.dj _ t0 (by rw [← z]; exact h))]; exact e, m⟩
  · by_cases e : x = x0
    · exact ⟨o0, by rw [e, upd_same], m0⟩
    · obtain ⟨o1, e1, m⟩ := w.mu x h
      exact ⟨o1, by rw [upd_ne e]; exact e1, m⟩
  · obtain ⟨t', e1, e2⟩ := wk n t k h1 h2
    exact Y.cl_st (w.cl n t' k f e1 e2 h3) (w.ws ds.toStep)
/-- what is of no concern changes -/
theorem Wc.other (w : Wc a Y g st c H) {x : Addr} {o o' : HO} (h : H x = some o) (ou : Out g x) (im : ¬ Imm o) : Wc a Y g st c (upd H x o') := by
  have im' : ∀ y u, H y = some u → Imm u → upd H x o' y = some u := fun y u e i => by rw [upd_ne (fun z => im (by rw [z, h] at e; cases e; exact i))]; exact e
  have ot : ∀ y u, H y = some u → y ≠ x → upd H x o' y = some u := fun y u e n => by rw [upd_ne n]; exact e
  have ws : WStep g H g (upd H x o') := ⟨rfl, fun _ _ h => h, fun _ h => h, im', fun y u e p => ot y u e fun z => ou.p (z ▸ p)⟩
  exact ⟨fun s y u e => ot y u (w.sl s y u e) (fun z => ou.t (z ▸ w.inT s y u e)), w.inj, w.inT, ot _ _ w.frl (fun z => ou.p (z ▸ w.frP)), w.frP, fun y p => ⟨(w.pp y p).1.imp fun u e => ⟨ot y u e.1 fun z => ou.p (z ▸ p), e.2⟩, (w.pp y p).2⟩, w.vr.stay fun y l e => im' y _ e trivial, w.ok,
    Y.la_st w.la ws (fun y u e q => ot y u e fun z => ou.l (z ▸ q)) rfl, fun y q => (w.lo y q).imp fun u e => ⟨ot y u e.1 fun z => ou.l (z ▸ q), e.2⟩, w.dj, fun y q => (w.mu y q).imp fun u e => ⟨ot y u e.1 fun z => ou.t (z ▸ q), e.2⟩, fun n t k f h1 h2 h3 => Y.cl_st (w.cl n t k f h1 h2 h3) ws⟩
theorem Wld.other (w : Wld a Y g st H) {x : Addr} {o o' : HO} (h : H x = some o) (ou : Out g x) (im : ¬ Imm o) : Wld a Y g st (upd H x o') := w.elim fun c w => ⟨c, w.other h ou im⟩
theorem Wc.out (w : Wc a Y g st c H) {x : Addr} (n : H x = none) : Out g x :=
  ⟨(fun z => by obtain ⟨o, e, _⟩ := w.mu x z; rw [n] at e; cases e), (fun z => by obtain ⟨o, e, _⟩ := w.lo x z; rw [n] at e; cases e), (fun z => by obtain ⟨⟨o, e, _⟩, _⟩ := w.pp x z; rw [n] at e; cases e)⟩
theorem Wld.out (w : Wld a Y g st H) {x : Addr} (n : H x = none) : Out g x := w.elim fun _ w => w.out n
def Gh.pin (g : Gh) (x : Addr) : Gh := { g with P := fun y => g.P y ∨ y = x }
theorem slot_pin {x : Addr} {S : DS ω} (s : Sl) : slot a (g.pin x) S c s = slot a g S c s := by cases s <;> rfl
theorem SOk.pin {x : Addr} (h : SOk g S) : SOk (g.pin x) S := ⟨h.cel, h.rdi, h.rdc, h.rdk, h.efi, h.nam, h.adr, h.wad, h.fre, h.frn, h.fl, h.ndc, h.ndr, h.b1, h.b2, h.b3, h.b4, h.b5, h.b6, h.b7, h.b8⟩
/-- what is leant on from now on -/
theorem Wc.pin (w : Wc a Y g (S, l) c H) {x : Addr} {o : HO} (h : H x = some o) (nT : ¬ g.T x) (nL : ¬ g.L x) (nt : ∀ ps, o ≠ .tbl ps := by intro ps z; cases z) : Wc a Y (g.pin x) (S, l) c H := by
  have ws : WStep g H (g.pin x) H := ⟨rfl, fun _ _ h => h, fun _ h => .inl h, fun _ _ h _ => h, fun _ _ h _ => h⟩
  exact ⟨fun s y u e => w.sl s y u (by rw [← slot_pin (x := x)]; exact e), fun s s' y u u' e e' => w.inj s s' y u u' (by rw [← slot_pin (x := x)]; exact e) (by rw [← slot_pin (x := x)]; exact e'), fun s y u e => w.inT s y u (by rw [← slot_pin (x := x)]; exact e), w.frl, .inl w.frP,
    fun y p => p.elim (w.pp y) fun e => ⟨⟨o, by rw [e]; exact h, nt⟩, by rw [e]; exact nT, by rw [e]; exact nL⟩, w.vr, SOk.pin w.ok, Y.la_st w.la ws (fun _ _ h _ => h) rfl, w.lo, w.dj, w.mu, fun n t k f h1 h2 h3 => Y.cl_st (w.cl n t k f h1 h2 h3) ws⟩
theorem DStep.samePin {z : Addr} (s : Same H H') (n : H z = none) : DStep g H (g.pin z) H' :=
  ⟨⟨rfl, rfl, fun _ _ h => h, fun _ _ h => h, fun _ h => h, fun _ h => h, fun _ h => .inl h, fun _ h => .inl h, fun _ h => .inl h, fun _ h => h.imp id fun e => by rw [e]; exact n, fun _ _ h _ _ _ => s _ _ h, fun _ ps h _ => ⟨#[], (by rw [Array.append_empty]; exact s _ _ h), .inl rfl⟩, fun _ o h => ⟨o, s _ _ h⟩⟩, fun _ _ h _ => s _ _ h, rfl⟩
def Gh.more (g : Gh) (x : Addr) : Gh := { g with T := fun y => g.T y ∨ y = x }
theorem DStep.new {x : Addr} {o : HO} (n : H x = none) : DStep g H (g.more x) (L2.upd H x o) := by
  have st : ∀ y o', H y = some o' → L2.upd H x o y = some o' := fun y o' e => by rw [upd_ne (ne_of_none e n)]; exact e
  exact ⟨⟨rfl, rfl, fun _ _ h => h, fun _ _ h => h, fun _ h => .inl h, fun _ h => h, fun _ h => h, fun y h => h.imp id (fun z => by rw [z]; exact n), fun _ h => .inl h, fun _ h => .inl h, fun y o' e _ _ _ => st y o' e, fun y ps e _ => ⟨#[], (by rw [Array.append_empty]; exact st y _ e), .inl rfl⟩, fun y o' e => ⟨o', st y o' e⟩⟩, fun y o' e _ => st y o' e, rfl⟩
theorem slot_more {x : Addr} {S : DS ω} (s : Sl) : slot a (g.more x) S c s = slot a g S c s := by
  cases s <;> rfl
theorem SOk.more {x : Addr} (h : SOk g S) : SOk (g.more x) S := ⟨h.cel, h.rdi, h.rdc, h.rdk, h.efi, h.nam, h.adr, h.wad, h.fre, h.frn, h.fl, h.ndc, h.ndr, h.b1, h.b2, h.b3, h.b4, h.b5, h.b6, h.b7, h.b8⟩
end
end Tr
set_option maxHeartbeats 2000000
namespace Tr
open PySem L2
section
variable {ω Λ α β : Type}
variable {a : Nat → Addr} {Y : LawP ω Λ} {g g1 g' : Gh} {H H1 H' : Hp} {st s : SW ω Λ} {c c' : Cn} {S S' : DS ω} {l : Λ}
theorem Wc.gen (w : Wc a Y g (S, l) c H) (P : Sl → Prop) (ds : DStep { g with fas := g'.fas } H g' H')
    (hs : ∀ s, ¬ P s → slot a g' S' c' s = slot a g S c s) (hk : ∀ s x o, ¬ P s → slot a g S c s = some (x, o) → H' x = some o)
    (hp : ∀ s x o, P s → slot a g' S' c' s = some (x, o) → H' x = some o ∧ g'.T x)
    (ip : ∀ s s' x o o', P s → slot a g' S' c' s = some (x, o) → slot a g' S' c' s' = some (x, o') → s = s')
    (frl : H' c'.fr = some (.lst (g'.fas.map V.ref))) (frP : g'.P c'.fr) (vr : VR S' c' H) (ok : SOk g' S') (mu : ∀ x, g'.T x → ∃ o, H' x = some o ∧ Mut o) (px : ∀ x, g'.P x → H x = none → ∃ o, H' x = some o ∧ (∀ ps, o ≠ .tbl ps) ∧ ¬ g'.T x)
    (cl : ∀ n t k f, S'.th n = some t → t.work = some k → g'.wad n = some f → (∃ t', S.th n = some t' ∧ t'.work = some k ∧ g.wad n = some f) ∨ Y.CL k f g H) : Wc a Y g' (S', l) c' H' where
  sl := fun s x o h => by
    by_cases e : P s
    · exact (hp s x o e h).1
    · exact hk s x o e (by rw [← hs s e]; exact h)
  inj := fun s s' x o o' h h' => by
    by_cases e : P s
    · exact ip s s' x o o' e h h'
    · by_cases e' : P s'
      · exact (ip s' s x o' o e' h' h).symm
      · exact w.inj s s' x o o' (by rw [← hs s e]; exact h) (by rw [← hs s' e']; exact h')
  inT := fun s x o h => by
    by_cases e : P s
    · exact (hp s x o e h).2
    · exact ds.T x (w.inT s x o (by rw [← hs s e]; exact h))
  frl := frl
  frP := frP
  pp := fun x p => by
    rcases ds.nP x p with z | z
    · obtain ⟨⟨o, e, n⟩, h1, h2⟩ := w.pp x z
      exact ⟨⟨o, ds.stD x o e h1, n⟩, ds.toStep.notT e h1, by rw [ds.eL]; exact h2⟩
    · obtain ⟨o, h1, n, h2⟩ := px x p z
      exact ⟨⟨o, h1, n⟩, h2, by rw [ds.eL]; exact (w.out z).l⟩
  vr := vr.stay fun x xs h => ds.stD x _ h fun z => Mut.not_tup h (w.mu x z)
  ok := ok
  la := Y.la_st w.la ⟨ds.d, ds.adr, ds.P, fun x o h i => ds.stD x o h (fun z => by
    obtain ⟨o', e, m⟩ := w.mu x z
    rw [h] at e
    cases e
    cases o <;> first | exact i | exact m), fun x o h p => ds.stD x o h (w.pp x p).2.1⟩ (fun x o h z => ds.stD x o h fun q => w.dj x q z) ds.eL
  lo := fun x h => by
    rw [ds.eL] at h
    obtain ⟨o, e, m⟩ := w.lo x h
    exact ⟨o, ds.stD x o e (fun z => w.dj x z h), m⟩
  dj := fun x h h' => by
    rw [ds.eL] at h'
    rcases ds.nT x h with z | z
    · exact w.dj x z h'
    · obtain ⟨o, e, _⟩ := w.lo x h'
      rw [z] at e
      cases e
  mu := mu
  cl := fun n t k f h1 h2 h3 => by
    have ws : WStep g H g' H' := ⟨ds.d, ds.adr, ds.P, fun x o h i => ds.stD x o h (fun z => by
      obtain ⟨o', e, m⟩ := w.mu x z
      rw [h] at e
      cases e
      cases o <;> first | exact i | exact m), fun x o h p => ds.stD x o h (w.pp x p).2.1⟩
    rcases cl n t k f h1 h2 h3 with ⟨t', e1, e2, e3⟩ | z
    · exact Y.cl_st (w.cl n t' k f e1 e2 e3) ws
    · exact Y.cl_st z ws
theorem gA_at {n : Str} {x : Addr} (h : g.adr n = some x) : gA g n = x := by unfold gA; rw [h]; rfl
theorem wA_at {n : Str} {x : Addr} (h : g.wad n = some x) : wA g n = x := by unfold wA; rw [h]; rfl
theorem Wc.desk (w : Wc a Y g (S, l) c H) : H g.d = some (.ins (a 3) c.dd (deskU c (S.ba : Nat))) := w.sl .d _ _ rfl
theorem Wc.un (w : Wc a Y g (S, l) c H) : H c.un = some (.lst (S.names.map V.str)) := w.sl .un _ _ rfl
theorem Wc.cs (w : Wc a Y g (S, l) c H) : H c.cs = some (.dK (S.cells.map (kvU g))) := w.sl .cs _ _ rfl
theorem Wc.rd (w : Wc a Y g (S, l) c H) : H c.rd = some (.dK (S.rds.map (kvU g))) := w.sl .rd _ _ rfl
theorem Wc.ef (w : Wc a Y g (S, l) c H) : H c.ef = some (.lst (S.efs.map fun n => V.ref (gA g n))) := w.sl .ef _ _ rfl
theorem Wc.lg (w : Wc a Y g (S, l) c H) : H c.lg = some (.lst c.lgs) := w.sl .lg _ _ rfl
theorem Wc.mv (w : Wc a Y g (S, l) c H) : H c.mv = some (.lst (S.mv.map V.str)) := w.sl .mv _ _ rfl
theorem slot_th {n : Str} {t : Th ω} (h : S.th n = some t) : slot a g S c (.th n) = some (gA g n, thO a g c n t) := by
  show (S.th n).map _ = _
  rw [h]; rfl
theorem Wc.th (w : Wc a Y g (S, l) c H) {n : Str} {t : Th ω} (h : S.th n = some t) : H (gA g n) = some (thO a g c n t) := w.sl (.th n) _ _ (slot_th h)
theorem slot_nt {n : Str} {t : Th ω} {ns : List (Str × Dt)} (h : S.th n = some t) (e : t.notes = some ns) : slot a g S c (.nt n) = some (c.nad n, .dK (notesU (ns.map (·.1)) (c.vn n))) := by
  show ((S.th n).bind Th.notes).map _ = _
  rw [h]
  show (t.notes).map _ = _
  rw [e]; rfl
theorem Wc.nt (w : Wc a Y g (S, l) c H) {n : Str} {t : Th ω} {ns : List (Str × Dt)} (h : S.th n = some t) (e : t.notes = some ns) : H (c.nad n) = some (.dK (notesU (ns.map (·.1)) (c.vn n))) := w.sl (.nt n) _ _ (slot_nt h e)
theorem slot_fm {i : Nat} {f : Fm} {x : Addr} (h : S.frs[i]? = some f) (e : g.fas[i]? = some x) : slot a g S c (.fm i) = some (x, .ins (a 49) (c.fdx i) (frameU f.own f.isA f.hush (c.nad f.own))) := by
  show (match S.frs[i]?, g.fas[i]? with
    | some f, some x => some (x, HO.ins (a 49) (c.fdx i) (frameU f.own f.isA f.hush (c.nad f.own)))
    | _, _ => none) = _
  rw [h, e]
theorem Wc.fm (w : Wc a Y g (S, l) c H) {i : Nat} {f : Fm} {x : Addr} (h : S.frs[i]? = some f) (e : g.fas[i]? = some x) : H x = some (.ins (a 49) (c.fdx i) (frameU f.own f.isA f.hush (c.nad f.own))) := w.sl (.fm i) _ _ (slot_fm h e)
/-- the innermost frame -/
theorem Wc.last (w : Wc a Y g (S, l) c H) {f : Fm} (h : S.frs.getLast? = some f) : ∃ i x, S.frs[i]? = some f ∧ g.fas[i]? = some x ∧ (g.fas.map V.ref).getLast? = some (.ref x) ∧ H x = some (.ins (a 49) (c.fdx i) (frameU f.own f.isA f.hush (c.nad f.own))) := by
  have hl : S.frs.length = g.fas.length := w.ok.fl
  rw [List.getLast?_eq_getElem?] at h
  have h1 : S.frs.length - 1 < g.fas.length := by
    obtain ⟨z, _⟩ := List.getElem?_eq_some_iff.mp h
    omega
  obtain ⟨x, hx⟩ : ∃ x, g.fas[S.frs.length - 1]? = some x := ⟨_, List.getElem?_eq_getElem h1⟩
  refine ⟨_, x, h, hx, ?_, w.fm h hx⟩
  rw [List.getLast?_eq_getElem?, List.length_map, ← hl, List.getElem?_map, hx]
  rfl
theorem Wc.nofr (w : Wc a Y g (S, l) c H) : S.frs = [] ↔ g.fas = [] := by
  have : S.frs.length = g.fas.length := w.ok.fl
  constructor
  · intro h
    rw [h] at this
    exact List.eq_nil_of_length_eq_zero this.symm
  · intro h
    rw [h] at this
    exact List.eq_nil_of_length_eq_zero this
theorem slot_setTh {n : Str} {t t' : Th ω} (h : S.th n = some t) (hn : t'.notes = t.notes) : ∀ s, s ≠ .th n → slot a g (S.setTh n t') c s = slot a g S c s := fun s hs => by
  cases s with
  | th m =>
    have hm : m ≠ n := fun e => hs (by rw [e])
    show ((S.setTh n t').th m).map _ = (S.th m).map _
    rw [setTh_ne hm]
  | nt m =>
    show (((S.setTh n t').th m).bind _).map _ = ((S.th m).bind _).map _
    by_cases e : m = n
    · subst e
      rw [setTh_at, h]
      show (t'.notes).map _ = (t.notes).map _
      rw [hn]
    · rw [setTh_ne e]
  | _ => rfl
theorem SOk.setTh {n : Str} {t t' : Th ω} (o : SOk g S) (h : S.th n = some t) (hc : ∀ v, t = .cell v → ∃ v', t' = .cell v') (hk : ∀ w ns k hd, t = .kept w ns k hd → ∃ ns' k' hd', t' = .kept w ns' k' hd') (he : ∀ w ns k r, t = .eff w ns k r → ∃ ns' k' r', t' = .eff w ns' k' r')
    (hb : ∀ ns, t'.notes = some ns → ns.length ≤ 200) : SOk g (S.setTh n t') := by
  have hw : t'.work = t.work := by
    cases t with
    | cell v => obtain ⟨v', rfl⟩ := hc v rfl; rfl
    | kept w ns k hd => obtain ⟨ns', k', hd', rfl⟩ := hk w ns k hd rfl; rfl
    | eff w ns k r => obtain ⟨ns', k', r', rfl⟩ := he w ns k r rfl; rfl
  have hno : t.notes ≠ none → t'.notes ≠ none := by
    cases t with
    | cell v => exact fun z => absurd rfl z
    | kept w ns k hd => obtain ⟨ns', k', hd', rfl⟩ := hk w ns k hd rfl; exact fun _ z => by cases z
    | eff w ns k r => obtain ⟨ns', k', r', rfl⟩ := he w ns k r rfl; exact fun _ z => by cases z
  refine ⟨fun m hm => ?_, fun m hm => ?_, fun m v hm => ?_, fun m w ns k hd hm => ?_, fun m hm => ?_, fun m u hm => ?_, fun m u hm => ?_, fun m u w hm hw' => ?_, fun m hm => ?_, fun f hf => ?_, o.fl, o.ndc, o.ndr, o.b1, o.b2, o.b3, o.b4, o.b5, o.b6, o.b7, fun m u ns hm hu => ?_⟩
  · obtain ⟨v, e⟩ := o.cel m hm
    by_cases z : m = n
    · subst z
      rw [h] at e
      cases e
      obtain ⟨v', rfl⟩ := hc v rfl
      exact ⟨v', setTh_at⟩
    · exact ⟨v, by rw [setTh_ne z]; exact e⟩
  · obtain ⟨u, e, ne⟩ := o.rdi m hm
    by_cases z : m = n
    · subst z
      rw [h] at e
      cases e
      refine ⟨t', setTh_at, fun w ns k r q => ?_⟩
      cases t with
      | cell v => obtain ⟨v', rfl⟩ := hc v rfl; cases q
      | kept w ns k hd => obtain ⟨ns', k', hd', rfl⟩ := hk w ns k hd rfl; cases q
      | eff w ns k r => exact ne _ _ _ _ rfl
    · exact ⟨u, by rw [setTh_ne z]; exact e, ne⟩
  · by_cases z : m = n
    · subst z
      rw [setTh_at] at hm
      cases hm
      cases t with
      | cell v0 => exact o.rdc m v0 h
      | kept w ns k hd => obtain ⟨ns', k', hd', q⟩ := hk w ns k hd rfl; cases q
      | eff w ns k r => obtain ⟨ns', k', r', q⟩ := he w ns k r rfl; cases q
    · rw [setTh_ne z] at hm
      exact o.rdc m v hm
  · by_cases z : m = n
    · subst z
      rw [setTh_at] at hm
      cases hm
      cases t with
      | cell v0 => obtain ⟨v', q⟩ := hc v0 rfl; cases q
      | kept w0 ns0 k0 hd0 => exact o.rdk m _ _ _ _ h
      | eff w ns k r => obtain ⟨ns', k', r', q⟩ := he w ns k r rfl; cases q
    · rw [setTh_ne z] at hm
      exact o.rdk m _ _ _ _ hm
  · obtain ⟨w, ns, k, r, e⟩ := o.efi m hm
    by_cases z : m = n
    · subst z
      rw [h] at e
      cases e
      obtain ⟨ns', k', r', rfl⟩ := he w ns k r rfl
      exact ⟨_, _, _, _, setTh_at⟩
    · exact ⟨w, ns, k, r, by rw [setTh_ne z]; exact e⟩
  · by_cases z : m = n
    · rw [z]; exact o.nam n t h
    · rw [setTh_ne z] at hm; exact o.nam m u hm
  · by_cases z : m = n
    · rw [z]; exact o.adr n t h
    · rw [setTh_ne z] at hm; exact o.adr m u hm
  · by_cases z : m = n
    · subst z
      rw [setTh_at] at hm
      cases hm
      exact o.wad m t w h (by rw [← hw]; exact hw')
    · rw [setTh_ne z] at hm; exact o.wad m u w hm hw'
  · by_cases z : m = n
    · subst z; rw [setTh_at] at hm; cases hm
    · rw [setTh_ne z] at hm; exact o.fre m hm
  · obtain ⟨u, ns, e1, e2⟩ := o.frn f hf
    by_cases z : f.own = n
    · rw [z] at e1
      rw [h] at e1
      cases e1
      cases q : t'.notes with
      | none => exact absurd q (hno (by rw [e2]; intro z; cases z))
      | some ns' => exact ⟨t', ns', by rw [z]; exact setTh_at, q⟩
    · exact ⟨u, ns, by rw [setTh_ne z]; exact e1, e2⟩
  · by_cases z : m = n
    · subst z
      rw [setTh_at] at hm
      cases hm
      exact hb ns hu
    · rw [setTh_ne z] at hm; exact o.b8 m u ns hm hu
theorem work_setTh {n : Str} {t t' : Th ω} (h : S.th n = some t) (hw : t'.work = t.work) : ∀ m u k, (S.setTh n t').th m = some u → u.work = some k → ∃ u', S.th m = some u' ∧ u'.work = some k := fun m u k h1 h2 => by
  by_cases z : m = n
  · subst z
    rw [setTh_at] at h1
    cases h1
    exact ⟨t, h, by rw [← hw]; exact h2⟩
  · rw [setTh_ne z] at h1
    exact ⟨u, h1, h2⟩
end
end Tr
set_option maxHeartbeats 2000000
namespace Tr
open PySem L2
section
variable {ω Λ α β : Type}
variable {a : Nat → Addr} {Y : LawP ω Λ} {g g1 g' : Gh} {H H1 H' : Hp} {st s : SW ω Λ} {c c' : Cn} {S S' : DS ω} {l : Λ}
theorem VR.setTh {n : Str} {t' : Th ω} (v : VR S c H) (hl : c'.lgs = c.lgs) (hvn : ∀ m, m ≠ n → c'.vn m = c.vn m) (hvh : ∀ m, m ≠ n → c'.vh m = c.vh m)
    (h1 : ∀ ns, t'.notes = some ns → DvAll H (c'.vn n) (ns.map (·.2)) ∧ ∀ p ∈ ns, Shp p.2) (h2 : ∀ w ns k h, t' = .kept w ns k h → DvS H (c'.vh n) (h.getD .none)) (h3 : ∀ w ns k r, t' = .eff w ns k r → DvS H (c'.vh n) r) : VR (S.setTh n t') c' H := by
  refine ⟨by rw [hl]; exact v.log, fun m t ns e1 e2 => ?_, fun m w ns k h e1 => ?_, fun m w ns k r e1 => ?_⟩
  · by_cases z : m = n
    · subst z; rw [setTh_at] at e1; cases e1; exact h1 ns e2
    · rw [setTh_ne z] at e1; rw [hvn m z]; exact v.nts m t ns e1 e2
  · by_cases z : m = n
    · subst z; rw [setTh_at] at e1; cases e1; exact h2 _ _ _ _ rfl
    · rw [setTh_ne z] at e1; rw [hvh m z]; exact v.hld m w ns k h e1
  · by_cases z : m = n
    · subst z; rw [setTh_at] at e1; cases e1; exact h3 _ _ _ _ rfl
    · rw [setTh_ne z] at e1; rw [hvh m z]; exact v.rep m w ns k r e1
theorem notesU_app {ks : List Str} {vs : List V} {k : Str} {v : V} (h : ks.length = vs.length) : notesU (ks ++ [k]) (vs ++ [v]) = notesU ks vs ++ [(.inr k, v)] := by
  unfold notesU
  rw [List.zip_append h, List.map_append]
  rfl
theorem notesU_keys : ∀ {ks : List Str} {vs : List V}, ks.length = vs.length → (notesU ks vs).map (·.1) = ks.map (Sum.inr (α := Int))
  | [], _, _ => rfl
  | k :: ks, [], h => by simp at h
  | k :: ks, v :: vs, h => by
    have := notesU_keys (ks := ks) (vs := vs) (by simpa using h)
    show Sum.inr k :: (notesU ks vs).map (·.1) = _
    rw [this]
    rfl
theorem valV_none_iff : ∀ {kv : List (Key × V)} {k : Key}, valV kv k = none ↔ k ∉ kv.map (·.1)
  | [], k => by simp [valV_nil]
  | p :: r, k => by
    by_cases e : p.1 = k
    · rw [valV_pos e]
      simp [e]
    · rw [valV_neg e, valV_none_iff (kv := r)]
      simp only [List.map_cons, List.mem_cons, not_or]
      exact ⟨fun h => ⟨fun z => e z.symm, h⟩, fun h => h.2⟩
theorem inr_mem {ks : List Str} {k : Str} : (Sum.inr k : Key) ∈ ks.map (Sum.inr (α := Int)) ↔ k ∈ ks := by
  constructor
  · intro h
    obtain ⟨x, hx, e⟩ := List.mem_map.mp h
    cases e
    exact hx
  · exact fun h => List.mem_map.mpr ⟨k, h, rfl⟩
theorem Th.putNotes_notes {t : Th ω} {ns ns' : List (Str × Dt)} (e : t.notes = some ns) : (t.putNotes ns').notes = some ns' := by
  cases t with
  | cell v => cases e
  | kept w n k h => rfl
  | eff w n k r => rfl
theorem Th.putNotes_work {t : Th ω} {ns' : List (Str × Dt)} : (t.putNotes ns').work = t.work := by
  cases t <;> rfl
theorem Th.inc_notes {t : Th ω} : t.inc.notes = t.notes := by cases t <;> rfl
theorem Th.inc_work {t : Th ω} : t.inc.work = t.work := by cases t <;> rfl
theorem Wc.vlen (w : Wc a Y g (S, l) c H) {n : Str} {t : Th ω} {ns : List (Str × Dt)} (h : S.th n = some t) (e : t.notes = some ns) : (ns.map (·.1)).length = (c.vn n).length := by
  have := (w.vr.nts n t ns h e).1.len
  rw [List.length_map] at this ⊢
  exact this.symm
theorem SOk.putNotes {n : Str} {t : Th ω} {ns : List (Str × Dt)} (o : SOk g S) (h : S.th n = some t) (hb : ns.length ≤ 200) : SOk g (S.setTh n (t.putNotes ns)) := by
  refine o.setTh h (fun v e => ?_) (fun w ns k hd e => ?_) (fun w ns k r e => ?_) fun ns' e => ?_
  · subst e; exact ⟨_, rfl⟩
  · subst e; exact ⟨_, _, _, rfl⟩
  · subst e; exact ⟨_, _, _, rfl⟩
  · cases t with
    | cell v => cases e
    | kept w n k hd => cases e; exact hb
    | eff w n k r => cases e; exact hb
theorem noteM_cell {nm m : Str} {v : Dt} {u : Int} {s s' : SW ω Λ} {x : Unit} (h : noteM nm v s = some (.ok x, s')) (hc : s.1.th m = some (.cell u)) : s'.1.th m = some (.cell u) := by
  unfold noteM at h
  split at h
  · cases h; exact hc
  · split at h
    · cases h; exact hc
    · split at h
      · cases h
      · rename_i t ht
        split at h
        · cases h
        · rename_i ns hns
          split at h
          · cases h; exact hc
          · split at h
            · cases h
              rename_i f _ _ _ _
              show (s.1.setTh _ _).th m = _
              rw [setTh_ne]
              · exact hc
              · rintro rfl
                rw [ht] at hc
                cases hc
                cases hns
            · cases h
def Cn.setVn (c : Cn) (n : Str) (vs : List V) : Cn := { c with vn := fun m => if m = n then vs else c.vn m }
def Cn.setVh (c : Cn) (n : Str) (v : V) : Cn := { c with vh := fun m => if m = n then v else c.vh m }
/-- a run notes -/
theorem Wc.note (w : Wc a Y g (S, l) c H) {n nm : Str} {t : Th ω} {ns : List (Str × Dt)} {v : V} {d : Dt} (h : S.th n = some t) (e : t.notes = some ns) (hn : nm ∉ ns.map (·.1)) (hl : ns.length < 200) (hv : DvS H v d) :
    Wc a Y g (S.setTh n (t.putNotes (ns ++ [(nm, d)])), l) (c.setVn n (c.vn n ++ [v])) (upd H (c.nad n) (.dK (notesU (ns.map (·.1)) (c.vn n) ++ [(.inr nm, v)]))) := by
  have h3 := w.vr.nts n t ns h e
  refine w.set (.nt n) trivial ⟨_, slot_nt h e⟩ ?_ (fun s hs => ?_) rfl ?_ (w.ok.putNotes h (by rw [List.length_append]; simp; omega)) (work_setTh h Th.putNotes_work)
  · rw [slot_nt (t := t.putNotes (ns ++ [(nm, d)])) setTh_at (Th.putNotes_notes e), List.map_append]
    show some (c.nad n, HO.dK (notesU _ (if n = n then c.vn n ++ [v] else c.vn n))) = _
    rw [if_pos rfl]
    show some (c.nad n, HO.dK (notesU (ns.map (·.1) ++ [nm]) _)) = _
    rw [notesU_app (w.vlen h e)]
  · cases s with
    | th m =>
      show ((S.setTh n _).th m).map _ = (S.th m).map _
      by_cases z : m = n
      · subst z
        rw [setTh_at, h]
        cases t <;> rfl
      · rw [setTh_ne z]
        cases S.th m with
        | none => rfl
        | some t' => cases t' <;> rfl
    | nt m =>
      have z : m ≠ n := fun z => hs (by rw [z])
      show (((S.setTh n _).th m).bind _).map _ = ((S.th m).bind _).map _
      rw [setTh_ne z]
      show Option.map (fun ns => (c.nad m, HO.dK (notesU _ (if m = n then _ else c.vn m)))) _ = _
      rw [if_neg z]
    | _ => rfl
  · refine w.vr.setTh rfl (fun m z => if_neg z) (fun m _ => rfl) (fun ns' e' => ?_) (fun wk ns' k hd e' => ?_) (fun wk ns' k r e' => ?_)
    · rw [Th.putNotes_notes e] at e'
      cases e'
      show DvAll H (if n = n then c.vn n ++ [v] else c.vn n) _ ∧ _
      rw [if_pos rfl, List.map_append]
      refine ⟨h3.1.app (.cons hv.dv .nil), fun p hp => ?_⟩
      rcases List.mem_append.mp hp with z | z
      · exact h3.2 p z
      · rw [List.mem_singleton.mp z]; exact hv.sh
    · cases t with
      | cell v => cases e'
      | kept w' n' k' hd' => cases e'; exact w.vr.hld n _ _ _ _ h
      | eff w' n' k' r' => cases e'
    · cases t with
      | cell v => cases e'
      | kept w' n' k' hd' => cases e'
      | eff w' n' k' r' => cases e'; exact w.vr.rep n _ _ _ _ h
theorem SOk.set {S' : DS ω} (o : SOk g S) (h1 : S'.th = S.th) (h2 : S'.cells = S.cells) (h3 : S'.rds = S.rds) (h4 : ∀ n ∈ S'.efs, ∃ w ns k r, S.th n = some (.eff w ns k r)) (h5 : ∀ n ∈ S.names, n ∈ S'.names) (h6 : S'.frs = S.frs)
    (b1 : S'.names.length ≤ 200) (b4 : S'.efs.length ≤ 200) (b5 : S'.log.length ≤ 9000) (b7 : S'.mv.length ≤ 9000) : SOk g S' :=
  ⟨by rw [h1, h2]; exact o.cel, by rw [h1, h3]; exact o.rdi, by rw [h1, h2, h3]; exact o.rdc, by rw [h1, h3]; exact o.rdk, by rw [h1]; exact h4, by rw [h1]; exact fun n t e => h5 n (o.nam n t e), by rw [h1]; exact o.adr, by rw [h1]; exact o.wad, by rw [h1]; exact o.fre,
    by rw [h1, h6]; exact o.frn, by rw [h6]; exact o.fl, by rw [h2]; exact o.ndc, by rw [h3]; exact o.ndr, b1, by rw [h2]; exact o.b2, by rw [h3]; exact o.b3, b4, b5, by rw [h6]; exact o.b6, b7, by rw [h1]; exact o.b8⟩
theorem Wc.names (w : Wc a Y g (S, l) c H) {nm : Str} (hl : S.names.length < 200) : Wc a Y g ({ S with names := S.names ++ [nm] }, l) c (upd H c.un (.lst ((S.names ++ [nm]).map V.str))) :=
  w.set .un trivial ⟨_, rfl⟩ rfl (fun s hs => by cases s <;> first | rfl | exact absurd rfl hs) rfl ⟨w.vr.log, w.vr.nts, w.vr.hld, w.vr.rep⟩ (w.ok.set rfl rfl rfl w.ok.efi (fun n hn => List.mem_append_left _ hn) rfl (by show (S.names ++ [nm]).length ≤ 200; rw [List.length_append]; simp; omega) w.ok.b4 w.ok.b5 w.ok.b7) fun _ t _ h1 h2 => ⟨t, h1, h2⟩
theorem Wc.moved (w : Wc a Y g (S, l) c H) {nm : Str} (hl : S.mv.length < 9000) : Wc a Y g ({ S with mv := S.mv ++ [nm] }, l) c (upd H c.mv (.lst ((S.mv ++ [nm]).map V.str))) :=
  w.set .mv trivial ⟨_, rfl⟩ rfl (fun s hs => by cases s <;> first | rfl | exact absurd rfl hs) rfl ⟨w.vr.log, w.vr.nts, w.vr.hld, w.vr.rep⟩ (w.ok.set rfl rfl rfl w.ok.efi (fun n hn => hn) rfl w.ok.b1 w.ok.b4 w.ok.b5 (by show (S.mv ++ [nm]).length ≤ 9000; rw [List.length_append]; simp; omega)) fun _ t _ h1 h2 => ⟨t, h1, h2⟩
theorem Wc.effs (w : Wc a Y g (S, l) c H) {nm : Str} (hl : S.efs.length < 200) (he : ∃ w ns k r, S.th nm = some (.eff w ns k r)) : Wc a Y g ({ S with efs := S.efs ++ [nm] }, l) c (upd H c.ef (.lst ((S.efs ++ [nm]).map fun n => V.ref (gA g n)))) :=
  w.set .ef trivial ⟨_, rfl⟩ rfl (fun s hs => by cases s <;> first | rfl | exact absurd rfl hs) rfl ⟨w.vr.log, w.vr.nts, w.vr.hld, w.vr.rep⟩ (w.ok.set rfl rfl rfl (fun n hn => by
    rcases List.mem_append.mp hn with z | z
    · exact w.ok.efi n z
    · rw [List.mem_singleton.mp z]; exact he) (fun n hn => hn) rfl w.ok.b1 (by show (S.efs ++ [nm]).length ≤ 200; rw [List.length_append]; simp; omega) w.ok.b5 w.ok.b7) fun _ t _ h1 h2 => ⟨t, h1, h2⟩
theorem Wc.batch (w : Wc a Y g (S, l) c H) (b : Nat) : Wc a Y g ({ S with ba := b }, l) c (upd H g.d (.ins (a 3) c.dd (deskU c (b : Nat)))) :=
  w.set .d trivial ⟨_, rfl⟩ rfl (fun s hs => by cases s <;> first | rfl | exact absurd rfl hs) rfl ⟨w.vr.log, w.vr.nts, w.vr.hld, w.vr.rep⟩ (w.ok.set rfl rfl rfl w.ok.efi (fun n hn => hn) rfl w.ok.b1 w.ok.b4 w.ok.b5 w.ok.b7) fun _ t _ h1 h2 => ⟨t, h1, h2⟩
theorem LogU.snoc {lgs : List V} {L : List (Str × Dt)} {t : Addr} {nm : Str} {u : V} {d : Dt} (h : LogU H lgs L) (h1 : H t = some (.tup [.str nm, u])) (h2 : DvS H u d) : LogU H (lgs ++ [.ref t]) (L ++ [(nm, d)]) := by
  have hl := h.1
  refine ⟨by simp [h.1], fun i v p e1 e2 => ?_⟩
  by_cases hi : i < lgs.length
  · rw [List.getElem?_append_left hi] at e1
    rw [List.getElem?_append_left (by omega)] at e2
    exact h.2 i v p e1 e2
  · rw [List.getElem?_append_right (by omega)] at e1 e2
    have e0 : i - lgs.length = 0 := by
      have h5 := (List.getElem?_eq_some_iff.mp e1).1
      simp at h5
      omega
    rw [e0] at e1
    rw [show i - L.length = 0 by omega] at e2
    cases e1
    cases e2
    exact ⟨t, u, rfl, h1, h2⟩
theorem Wc.logs (w : Wc a Y g (S, l) c H) {nm : Str} {t : Addr} {u : V} {d : Dt} (hl : S.log.length < 9000) (h1 : H t = some (.tup [.str nm, u])) (h2 : DvS H u d) : Wc a Y g ({ S with log := S.log ++ [(nm, d)] }, l) { c with lgs := c.lgs ++ [.ref t] } (upd H c.lg (.lst (c.lgs ++ [.ref t]))) :=
  w.set .lg trivial ⟨_, rfl⟩ rfl (fun s hs => by
    cases s with
    | lg => exact absurd rfl hs
    | th m => show (S.th m).map _ = (S.th m).map _; cases S.th m with
      | none => rfl
      | some t => cases t <;> rfl
    | _ => rfl) rfl ⟨w.vr.log.snoc h1 h2, w.vr.nts, w.vr.hld, w.vr.rep⟩ (w.ok.set rfl rfl rfl w.ok.efi (fun n hn => hn) rfl w.ok.b1 w.ok.b4 (by show (S.log ++ [(nm, d)]).length ≤ 9000; rw [List.length_append]; simp; omega) w.ok.b7) fun _ t _ h1 h2 => ⟨t, h1, h2⟩
theorem thO_setVh {n m : Str} {v : V} {t : Th ω} (h : m ≠ n) : thO a g (c.setVh n v) m t = thO a g c m t := by
  have e : (c.setVh n v).vh m = c.vh m := if_neg h
  cases t with
  | cell v => rfl
  | kept w ns k hd => show HO.ins _ _ (keptU _ _ _ _ _ ((c.setVh n v).vh m) _) = _; rw [e]; rfl
  | eff w ns k r => show HO.ins _ _ (effU _ _ _ _ _ ((c.setVh n v).vh m)) = _; rw [e]; rfl
/-- a thing's own fields -/
theorem Wc.thing (w : Wc a Y g (S, l) c H) {n : Str} {t t' : Th ω} {v : V} (h : S.th n = some t) (hn : t'.notes = t.notes) (hw : t'.work = t.work) (ok : SOk g (S.setTh n t')) (hv : ∀ w ns k hd, t' = .kept w ns k hd → DvS H v (hd.getD .none)) (he : ∀ w ns k r, t' = .eff w ns k r → DvS H v r) :
    Wc a Y g (S.setTh n t', l) (c.setVh n v) (upd H (gA g n) (thO a g (c.setVh n v) n t')) := by
  refine w.set (.th n) ?_ ⟨_, slot_th h⟩ (slot_th setTh_at) (fun s hs => ?_) rfl ?_ ok (work_setTh h hw)
  · cases t' <;> trivial
  · rw [← slot_setTh (t' := t') h hn s hs]
    cases s with
    | th m =>
      have z : m ≠ n := fun z => hs (by rw [z])
      show ((S.setTh n t').th m).map _ = ((S.setTh n t').th m).map _
      rw [setTh_ne z]
      cases S.th m with
      | none => rfl
      | some u => show some (gA g m, thO a g (c.setVh n v) m u) = some (gA g m, thO a g c m u); rw [thO_setVh z]
    | _ => rfl
  · refine w.vr.setTh rfl (fun m _ => rfl) (fun m z => if_neg z) (fun ns e => ?_) (fun wk ns k hd e => ?_) (fun wk ns k r e => ?_)
    · rw [hn] at e; exact w.vr.nts n t ns h e
    · show DvS H (if n = n then v else _) _
      rw [if_pos rfl]; exact hv _ _ _ _ e
    · show DvS H (if n = n then v else _) _
      rw [if_pos rfl]; exact he _ _ _ _ e
end
end Tr
set_option maxHeartbeats 2000000
namespace Tr
open PySem L2
section
variable {ω Λ α β : Type}
variable {a : Nat → Addr} {Y : LawP ω Λ} {g g1 g' : Gh} {H H1 H' : Hp} {st s : SW ω Λ} {c c' : Cn} {S S' : DS ω} {l : Λ}
theorem Wc.freeS (w : Wc a Y g (S, l) c H) {x : Addr} (n : H x = none) : ∀ s y o, slot a g S c s = some (y, o) → y ≠ x := fun s y o h e => by
  have := w.sl s y o h
  rw [e, n] at this
  cases this
theorem Wc.ofT (w : Wc a Y g (S, l) c H) {x : Addr} (n : ¬ g.T x) : ∀ s y o, slot a g S c s = some (y, o) → y ≠ x := fun s y o h e => n (e ▸ w.inT s y o h)
theorem Wc.Tfree (w : Wc a Y g (S, l) c H) {x : Addr} (n : H x = none) : ¬ g.T x ∧ ¬ g.L x :=
  ⟨(fun z => by obtain ⟨o, e, _⟩ := w.mu x z; rw [n] at e; cases e), (fun z => by obtain ⟨o, e, _⟩ := w.lo x z; rw [n] at e; cases e)⟩
theorem Wc.dT (w : Wc a Y g (S, l) c H) : g.T g.d := w.inT .d _ _ rfl
/-- a new list of what moved -/
theorem Wc.newMv (w : Wc a Y g (S, l) c H) {z : Addr} (nz : H z = none) : Wc a Y (g.more z) ({ S with mv := [] }, l) { c with mv := z } (upd (upd H z (.lst [])) g.d (.ins (a 3) c.dd (deskU { c with mv := z } (S.ba : Nat)))) ∧
    DStep g H (g.more z) (upd (upd H z (.lst [])) g.d (.ins (a 3) c.dd (deskU { c with mv := z } (S.ba : Nat)))) := by
  have zd : z ≠ g.d := (w.freeS nz .d _ _ rfl).symm
  have ds : DStep g H (g.more z) (upd (upd H z (.lst [])) g.d (.ins (a 3) c.dd (deskU { c with mv := z } (S.ba : Nat)))) := DStep.tr (DStep.new (o := .lst []) nz) (DStep.upd (.inl w.dT))
  obtain ⟨tz, lz⟩ := w.Tfree nz
  have hs : ∀ s, ¬ (s = .d ∨ s = .mv) → slot a (g.more z) { S with mv := [] } { c with mv := z } s = slot a g S c s := fun s hs => by
    cases s with
    | d => exact absurd (Or.inl rfl) hs
    | mv => exact absurd (Or.inr rfl) hs
    | th m =>
      show (S.th m).map _ = (S.th m).map _
      cases S.th m with
      | none => rfl
      | some u => cases u <;> rfl
    | _ => rfl
  refine ⟨w.gen (fun s => s = .d ∨ s = .mv) ds hs (fun s x o hs h => ?_) (fun s x o hs h => ?_) (fun s s' x o o' hs' h h' => ?_) ?_ w.frP ⟨w.vr.log, w.vr.nts, w.vr.hld, w.vr.rep⟩ (SOk.more (S := { S with mv := [] }) (w.ok.set rfl rfl rfl w.ok.efi (fun n hn => hn) rfl w.ok.b1 w.ok.b4 w.ok.b5 (Nat.zero_le _))) (fun x h => ?_) (fun x p n => absurd p (w.out n).p) (fun n t k f h1 h2 h3 => .inl ⟨t, h1, h2, h3⟩), ds⟩
  · have h1 := w.sl s x o h
    rw [upd_ne (fun e => hs (.inl (w.inj s .d x o _ h (by rw [e]; rfl)))), upd_ne (w.freeS nz s x o h)]
    exact h1
  · rcases hs with rfl | rfl
    · cases h; exact ⟨upd_same, .inl w.dT⟩
    · cases h; exact ⟨by rw [upd_ne zd]; exact upd_same, .inr rfl⟩
  · have key : ∀ s' o', slot a (g.more z) { S with mv := [] } { c with mv := z } s' = some (z, o') → s' = .mv := fun s' o' h => by
      by_cases q : s' = .mv
      · exact q
      · by_cases q2 : s' = .d
        · subst q2
          exact absurd (Prod.mk.inj (Option.some.inj h)).1.symm zd
        · rw [hs s' (fun q' => q'.elim q2 q)] at h
          exact absurd rfl (w.freeS nz _ z o' h)
    have key2 : ∀ s' o', slot a (g.more z) { S with mv := [] } { c with mv := z } s' = some (g.d, o') → s' = .d := fun s' o' h => by
      by_cases q : s' = .mv
      · subst q
        exact absurd (Prod.mk.inj (Option.some.inj h)).1 zd
      · by_cases q2 : s' = .d
        · exact q2
        · rw [hs s' (fun q' => q'.elim q2 q)] at h
          exact (w.inj s' .d g.d o' _ h rfl)
    rcases hs' with rfl | rfl
    · cases h; exact (key2 s' o' h').symm
    · cases h; exact (key s' o' h').symm
  · rw [upd_ne (fun e => w.frT (by rw [e]; exact w.dT)), upd_ne (ne_of_none w.frl nz)]; exact w.frl
  · by_cases e : x = g.d
    · exact ⟨.ins (a 3) c.dd _, by rw [e, upd_same], trivial⟩
    · by_cases e2 : x = z
      · exact ⟨.lst [], by rw [e2, upd_ne zd, upd_same], trivial⟩
      · obtain ⟨o, h1, h2⟩ := w.mu x (h.elim id fun z' => absurd z' e2)
        exact ⟨o, by rw [upd_ne e, upd_ne e2]; exact h1, h2⟩
def Cn.setNad (c : Cn) (n : Str) (x : Addr) : Cn := { c with nad := (fun m => if m = n then x else c.nad m), vn := (fun m => if m = n then [] else c.vn m) }
theorem thO_nad {n m : Str} {x : Addr} {t : Th ω} (h : m ≠ n) : thO a g (c.setNad n x) m t = thO a g c m t := by
  have e : (c.setNad n x).nad m = c.nad m := if_neg h
  cases t with
  | cell v => rfl
  | kept w ns k hd => show HO.ins _ _ (keptU _ _ _ ((c.setNad n x).nad m) _ _ _) = _; rw [e]; rfl
  | eff w ns k r => show HO.ins _ _ (effU _ _ _ ((c.setNad n x).nad m) _ _) = _; rw [e]; rfl
/-- fresh notes -/
theorem Wc.fresh (w : Wc a Y g (S, l) c H) {n : Str} {t : Th ω} {ns : List (Str × Dt)} {nt frm dxf : Addr} {fs : List (Str × V)} (h : S.th n = some t) (e : t.notes = some ns) (hf : ∀ f ∈ S.frs, f.own ≠ n) (s1 : Same H H1) (nn : H nt = none) (nf : H frm = none) (nnf : nt ≠ frm) (hn : H1 nt = some (.dK [])) (hfr : H1 frm = some (.ins (a 49) dxf fs)) :
    Wc a Y ((g.more nt).more frm) (S.setTh n (t.putNotes []), l) (c.setNad n nt) (upd H1 (gA g n) (thO a g (c.setNad n nt) n (t.putNotes []))) ∧ DStep g H ((g.more nt).more frm) (upd H1 (gA g n) (thO a g (c.setNad n nt) n (t.putNotes []))) ∧
      ∀ s y o, slot a ((g.more nt).more frm) (S.setTh n (t.putNotes [])) (c.setNad n nt) s = some (y, o) → y ≠ frm := by
  have hx := w.th h
  have hxT : g.T (gA g n) := w.inT _ _ _ (slot_th h)
  have xn : nt ≠ gA g n := (ne_of_none hx nn).symm
  have xf : frm ≠ gA g n := (ne_of_none hx nf).symm
  have e' : (t.putNotes []).notes = some [] := Th.putNotes_notes e
  have st1 : ∀ y o, H y = some o → y ≠ gA g n → upd H1 (gA g n) (thO a g (c.setNad n nt) n (t.putNotes [])) y = some o := fun y o h1 h2 => by rw [upd_ne h2]; exact s1 _ _ h1
  have ds : DStep g H ((g.more nt).more frm) (upd H1 (gA g n) (thO a g (c.setNad n nt) n (t.putNotes []))) := by
    refine ⟨⟨rfl, rfl, fun _ _ h => h, fun _ _ h => h, fun _ h => .inl (.inl h), fun _ h => h, fun _ h => h, fun y h => ?_, fun _ h => .inl h, fun _ h => .inl h, fun y o h1 _ h2 _ => st1 y o h1 (fun z => h2 (by rw [z]; exact hxT)), fun y ps h1 h2 => ⟨#[], (by rw [Array.append_empty]; exact st1 y _ h1 (fun z => h2 (by rw [z]; exact hxT))), .inl rfl⟩, fun y o h1 => ?_⟩, fun y o h1 h2 => st1 y o h1 (fun z => h2 (by rw [z]; exact hxT)), rfl⟩
    · rcases h with (h | h) | h
      · exact .inl h
      · exact .inr (by rw [h]; exact nn)
      · exact .inr (by rw [h]; exact nf)
    · by_cases z : y = gA g n
      · exact ⟨_, by rw [z, upd_same]⟩
      · exact ⟨o, st1 y o h1 z⟩
  have hs : ∀ s, ¬ (s = .th n ∨ s = .nt n) → slot a ((g.more nt).more frm) (S.setTh n (t.putNotes [])) (c.setNad n nt) s = slot a g S c s := fun s hs => by
    cases s with
    | th m =>
      have z : m ≠ n := fun z => hs (.inl (by rw [z]))
      show ((S.setTh n _).th m).map _ = (S.th m).map _
      rw [setTh_ne z]
      cases S.th m with
      | none => rfl
      | some u => show some (_, thO a g (c.setNad n nt) m u) = some (_, thO a g c m u); rw [thO_nad z]; rfl
    | nt m =>
      have z : m ≠ n := fun z => hs (.inr (by rw [z]))
      show (((S.setTh n _).th m).bind _).map _ = ((S.th m).bind _).map _
      rw [setTh_ne z]
      show Option.map (fun ns => ((if m = n then nt else c.nad m), HO.dK (notesU _ (if m = n then _ else c.vn m)))) _ = _
      rw [if_neg z, if_neg z]
    | fm i =>
      show (match S.frs[i]?, g.fas[i]? with
        | some f, some x => some (x, HO.ins (a 49) (c.fdx i) (frameU f.own f.isA f.hush (if f.own = n then nt else c.nad f.own)))
        | _, _ => none) = (match S.frs[i]?, g.fas[i]? with
        | some f, some x => some (x, HO.ins (a 49) (c.fdx i) (frameU f.own f.isA f.hush (c.nad f.own)))
        | _, _ => none)
      cases ef : S.frs[i]? with
      | none => rfl
      | some f =>
        cases g.fas[i]? with
        | none => rfl
        | some x =>
          show some (x, HO.ins _ _ (frameU _ _ _ (if f.own = n then nt else c.nad f.own))) = _
          rw [if_neg (hf f (List.mem_of_getElem? ef))]
    | _ => rfl
  have slN : slot a ((g.more nt).more frm) (S.setTh n (t.putNotes [])) (c.setNad n nt) (.nt n) = some (nt, .dK []) := by
    rw [slot_nt (t := t.putNotes []) setTh_at e']
    show some ((if n = n then nt else _), HO.dK (notesU [] _)) = _
    rw [if_pos rfl]
    rfl
  have slT : slot a ((g.more nt).more frm) (S.setTh n (t.putNotes [])) (c.setNad n nt) (.th n) = some (gA g n, thO a g (c.setNad n nt) n (t.putNotes [])) := slot_th setTh_at
  have old : ∀ s y o, slot a ((g.more nt).more frm) (S.setTh n (t.putNotes [])) (c.setNad n nt) s = some (y, o) → s = .nt n ∨ ∃ o', slot a g S c s = some (y, o') := fun s y o h1 => by
    by_cases z : s = .nt n
    · exact .inl z
    · by_cases z2 : s = .th n
      · subst z2
        rw [slT] at h1
        cases h1
        exact .inr ⟨_, slot_th h⟩
      · rw [hs s (fun q => q.elim z2 z)] at h1
        exact .inr ⟨o, h1⟩
  refine ⟨w.gen (fun s => s = .th n ∨ s = .nt n) ds hs (fun s x o hs h1 => ?_) (fun s x o hs h1 => ?_) (fun s s' x o o' hs h1 h2 => ?_) ?_ w.frP ?_ (w.ok.putNotes h (Nat.zero_le _)).more.more (fun x hx => ?_) (fun x p n => absurd p (w.out n).p) (fun m u k f h1 h2 h3 => ?_), ds, fun s y o h1 => ?_⟩
  · exact st1 x o (w.sl s x o h1) (fun z => hs (.inl (w.inj s (.th n) x o _ h1 (by rw [z]; exact slot_th h))))
  · rcases hs with rfl | rfl
    · rw [slT] at h1; cases h1; exact ⟨upd_same, .inl (.inl hxT)⟩
    · rw [slN] at h1; cases h1; exact ⟨by rw [upd_ne xn]; exact hn, .inl (.inr rfl)⟩
  · rcases hs with rfl | rfl
    · rw [slT] at h1
      cases h1
      rcases old s' _ _ h2 with z | ⟨o1, z⟩
      · subst z
        rw [slN] at h2
        exact absurd (show nt = gA g n from (Prod.mk.inj (Option.some.inj h2)).1) xn
      · exact (w.inj s' (.th n) _ _ _ z (slot_th h)).symm
    · rw [slN] at h1
      cases h1
      rcases old s' _ _ h2 with z | ⟨o1, z⟩
      · exact z.symm
      · exact absurd rfl (w.freeS nn _ _ _ z)
  · rw [upd_ne (fun z => w.frT (by rw [show c.fr = gA g n from z]; exact hxT))]; exact s1 _ _ w.frl
  · refine w.vr.setTh rfl (fun m z => if_neg z) (fun m _ => rfl) (fun ns' q => ?_) (fun wk ns' k hd q => ?_) (fun wk ns' k r q => ?_)
    · rw [e'] at q
      cases q
      show DvAll H (if n = n then [] else _) _ ∧ _
      rw [if_pos rfl]
      exact ⟨.nil, fun p hp => by cases hp⟩
    · cases t with
      | cell v => cases q
      | kept w' n' k' hd' => cases q; exact w.vr.hld n _ _ _ _ h
      | eff w' n' k' r' => cases q
    · cases t with
      | cell v => cases q
      | kept w' n' k' hd' => cases q
      | eff w' n' k' r' => cases q; exact w.vr.rep n _ _ _ _ h
  · by_cases z : x = gA g n
    · refine ⟨_, by rw [z, upd_same], ?_⟩
      cases t <;> trivial
    · rcases hx with (q | q) | q
      · obtain ⟨o, h1, h2⟩ := w.mu x q
        exact ⟨o, st1 x o h1 z, h2⟩
      · exact ⟨.dK [], by rw [upd_ne z, show x = nt from q]; exact hn, trivial⟩
      · exact ⟨.ins (a 49) dxf fs, by rw [upd_ne z, show x = frm from q]; exact hfr, trivial⟩
  · obtain ⟨u', q1, q2⟩ := work_setTh (t' := t.putNotes []) h Th.putNotes_work m u k h1 h2
    exact .inl ⟨u', q1, q2, h3⟩
  · rcases old s y o h1 with z | ⟨o1, z⟩
    · subst z
      rw [slN] at h1
      exact fun q => nnf (by cases h1; exact q)
    · exact w.freeS nf _ _ _ z
def Gh.fr (g : Gh) (l : List Addr) : Gh := { g with fas := l }
theorem Step.frs {H H' : Hp} (s : Step g H g' H') (F : List Addr) : Step (g.fr F) H (g'.fr F) H' := ⟨s.d, rfl, s.adr, s.wad, s.T, s.L, s.P, s.nT, s.nL, s.nP, s.st0, s.tb, s.oc⟩
/-- a frame more -/
theorem Wc.push (w : Wc a Y g (S, l) c H) {n : Str} {t : Th ω} {ns : List (Str × Dt)} {ia : Bool} {frm dxf z : Addr} (h : S.th n = some t) (e : t.notes = some ns) (hl : S.frs.length < 200) (hF : H frm = some (.ins (a 49) dxf (frameU n ia false (c.nad n)))) (hT : g.T frm) (nS : ∀ s y o, slot a g S c s = some (y, o) → y ≠ frm)
    (hz : H z = some (.lst ((g.fas ++ [frm]).map V.ref))) (zP : g.P z) :
    Wc a Y (g.fr (g.fas ++ [frm])) ({ S with frs := S.frs ++ [⟨n, ia, false⟩] }, l) { c with fr := z, fdx := fun i => if i = S.frs.length then dxf else c.fdx i } (upd H g.d (.ins (a 3) c.dd (deskU { c with fr := z } (S.ba : Nat)))) := by
  have hfl : S.frs.length = g.fas.length := w.ok.fl
  have ds : DStep (g.fr (g.fas ++ [frm])) H (g.fr (g.fas ++ [frm])) (upd H g.d (.ins (a 3) c.dd (deskU { c with fr := z } (S.ba : Nat)))) := DStep.upd (show (g.fr _).T g.d from w.dT)
  have fmN : slot a (g.fr (g.fas ++ [frm])) { S with frs := S.frs ++ [⟨n, ia, false⟩] } { c with fr := z, fdx := fun i => if i = S.frs.length then dxf else c.fdx i } (.fm S.frs.length) = some (frm, .ins (a 49) dxf (frameU n ia false (c.nad n))) := by
    rw [slot_fm (f := ⟨n, ia, false⟩) (x := frm) (by show (S.frs ++ [_])[S.frs.length]? = _; simp) (by show (g.fas ++ [frm])[S.frs.length]? = _; rw [hfl]; simp)]
    show some (frm, HO.ins (a 49) (if S.frs.length = S.frs.length then dxf else _) _) = _
    rw [if_pos rfl]
  have hs : ∀ s, ¬ (s = .d ∨ s = .fm S.frs.length) → slot a (g.fr (g.fas ++ [frm])) { S with frs := S.frs ++ [⟨n, ia, false⟩] } { c with fr := z, fdx := fun i => if i = S.frs.length then dxf else c.fdx i } s = slot a g S c s := fun s hs => by
    cases s with
    | d => exact absurd (Or.inl rfl) hs
    | th m =>
      show (S.th m).map _ = (S.th m).map _
      cases S.th m with
      | none => rfl
      | some u => cases u <;> rfl
    | fm i =>
      have hi : i ≠ S.frs.length := fun q => hs (.inr (by rw [q]))
      show (match (S.frs ++ [_])[i]?, (g.fas ++ [frm])[i]? with
        | some f, some x => some (x, HO.ins (a 49) (if i = S.frs.length then dxf else c.fdx i) (frameU f.own f.isA f.hush (c.nad f.own)))
        | _, _ => none) = (match S.frs[i]?, g.fas[i]? with
        | some f, some x => some (x, HO.ins (a 49) (c.fdx i) (frameU f.own f.isA f.hush (c.nad f.own)))
        | _, _ => none)
      rw [if_neg hi]
      by_cases q : i < S.frs.length
      · rw [List.getElem?_append_left q, List.getElem?_append_left (by omega)]
      · rw [List.getElem?_eq_none (by simp; omega), List.getElem?_eq_none (show S.frs.length ≤ i by omega)]
    | _ => rfl
  have old : ∀ s y o, slot a (g.fr (g.fas ++ [frm])) { S with frs := S.frs ++ [⟨n, ia, false⟩] } { c with fr := z, fdx := fun i => if i = S.frs.length then dxf else c.fdx i } s = some (y, o) → s = .fm S.frs.length ∨ ∃ o', slot a g S c s = some (y, o') := fun s y o h1 => by
    by_cases q : s = .fm S.frs.length
    · exact .inl q
    · by_cases q2 : s = .d
      · subst q2; cases h1; exact .inr ⟨_, rfl⟩
      · rw [hs s (fun q' => q'.elim q2 q)] at h1; exact .inr ⟨o, h1⟩
  refine w.gen (fun s => s = .d ∨ s = .fm S.frs.length) ds hs (fun s x o hs h1 => ?_) (fun s x o hs h1 => ?_) (fun s s' x o o' hs h1 h2 => ?_) ?_ zP ⟨w.vr.log, w.vr.nts, w.vr.hld, w.vr.rep⟩ ?_ (fun x hx => ?_) (fun x p n => absurd p (w.out n).p) (fun m u k f h1 h2 h3 => .inl ⟨u, h1, h2, h3⟩)
  · rw [upd_ne (fun q => hs (.inl (w.inj s .d x o _ h1 (by rw [q]; rfl))))]; exact w.sl s x o h1
  · rcases hs with rfl | rfl
    · cases h1; exact ⟨upd_same, w.dT⟩
    · rw [fmN] at h1
      cases h1
      exact ⟨by rw [upd_ne (nS .d _ _ rfl).symm]; exact hF, hT⟩
  · rcases hs with rfl | rfl
    · cases h1
      rcases old s' _ _ h2 with q | ⟨o1, q⟩
      · subst q
        rw [fmN] at h2
        exact absurd (show g.d = frm from (Prod.mk.inj (Option.some.inj h2)).1.symm) (nS .d _ _ rfl)
      · exact (w.inj s' .d _ _ _ q rfl).symm
    · rw [fmN] at h1
      cases h1
      rcases old s' _ _ h2 with q | ⟨o1, q⟩
      · exact q.symm
      · exact absurd rfl (nS _ _ _ q)
  · show upd H g.d _ z = _
    rw [upd_ne (fun q => (w.pp z zP).2.1 (by rw [q]; exact w.dT))]; exact hz
  · have o := w.ok
    refine ⟨o.cel, o.rdi, o.rdc, o.rdk, o.efi, o.nam, o.adr, o.wad, o.fre, fun f hf => ?_, ?_, o.ndc, o.ndr, o.b1, o.b2, o.b3, o.b4, o.b5, ?_, o.b7, o.b8⟩
    · rcases List.mem_append.mp hf with q | q
      · exact o.frn f q
      · rw [List.mem_singleton.mp q]; exact ⟨t, ns, h, e⟩
    · show (S.frs ++ [_]).length = (g.fas ++ [frm]).length
      rw [List.length_append, List.length_append, hfl]; rfl
    · show (S.frs ++ [_]).length ≤ 200
      rw [List.length_append]; simp; omega
  · obtain ⟨o, h1, h2⟩ := w.mu x hx
    by_cases q : x = g.d
    · exact ⟨.ins (a 3) c.dd _, by rw [q, upd_same], trivial⟩
    · exact ⟨o, by rw [upd_ne q]; exact h1, h2⟩
/-- the frame goes -/
theorem Wc.pop (w : Wc a Y g (S, l) c H) {fas : List Addr} {frm z : Addr} (hfa : g.fas = fas ++ [frm]) (hz : H z = some (.lst (fas.map V.ref))) (zP : g.P z) :
    Wc a Y (g.fr fas) ({ S with frs := S.frs.dropLast }, l) { c with fr := z } (upd H g.d (.ins (a 3) c.dd (deskU { c with fr := z } (S.ba : Nat)))) := by
  have hfl : S.frs.length = g.fas.length := w.ok.fl
  rw [hfa, List.length_append] at hfl
  have ds : DStep (g.fr fas) H (g.fr fas) (upd H g.d (.ins (a 3) c.dd (deskU { c with fr := z } (S.ba : Nat)))) := DStep.upd (show (g.fr _).T g.d from w.dT)
  have dl : S.frs.dropLast.length = fas.length := by rw [List.length_dropLast, hfl]; simp
  have hs : ∀ s, ¬ (s = .d ∨ s = .fm fas.length) → slot a (g.fr fas) { S with frs := S.frs.dropLast } { c with fr := z } s = slot a g S c s := fun s hs => by
    cases s with
    | d => exact absurd (Or.inl rfl) hs
    | th m =>
      show (S.th m).map _ = (S.th m).map _
      cases S.th m with
      | none => rfl
      | some u => cases u <;> rfl
    | fm i =>
      have hi : i ≠ fas.length := fun q => hs (.inr (by rw [q]))
      show (match S.frs.dropLast[i]?, fas[i]? with
        | some f, some x => some (x, HO.ins (a 49) (c.fdx i) (frameU f.own f.isA f.hush (c.nad f.own)))
        | _, _ => none) = (match S.frs[i]?, g.fas[i]? with
        | some f, some x => some (x, HO.ins (a 49) (c.fdx i) (frameU f.own f.isA f.hush (c.nad f.own)))
        | _, _ => none)
      rw [hfa]
      by_cases q : i < fas.length
      · rw [List.getElem?_append_left q, List.getElem?_dropLast, if_pos (by simp at hfl; omega)]
      · rw [List.getElem?_eq_none (show S.frs.dropLast.length ≤ i by omega), List.getElem?_eq_none (show S.frs.length ≤ i by simp at hfl; omega)]
    | _ => rfl
  have fmN : slot a (g.fr fas) { S with frs := S.frs.dropLast } { c with fr := z } (.fm fas.length) = none := by
    show (match S.frs.dropLast[fas.length]?, fas[fas.length]? with
        | some f, some x => some (x, HO.ins (a 49) (c.fdx fas.length) (frameU f.own f.isA f.hush (c.nad f.own)))
        | _, _ => none) = none
    rw [List.getElem?_eq_none (show S.frs.dropLast.length ≤ fas.length by omega)]
  refine w.gen (fun s => s = .d ∨ s = .fm fas.length) ds hs (fun s x o hs h1 => ?_) (fun s x o hs h1 => ?_) (fun s s' x o o' hs' h1 h2 => ?_) ?_ zP ⟨w.vr.log, w.vr.nts, w.vr.hld, w.vr.rep⟩ ?_ (fun x hx => ?_) (fun x p n => absurd p (w.out n).p) (fun m u k f h1 h2 h3 => .inl ⟨u, h1, h2, h3⟩)
  · rw [upd_ne (fun q => hs (.inl (w.inj s .d x o _ h1 (by rw [q]; rfl))))]; exact w.sl s x o h1
  · rcases hs with rfl | rfl
    · cases h1; exact ⟨upd_same, w.dT⟩
    · rw [fmN] at h1; cases h1
  · rcases hs' with rfl | rfl
    · cases h1
      by_cases q : s' = .d
      · exact q.symm
      · by_cases q2 : s' = .fm fas.length
        · subst q2; rw [fmN] at h2; cases h2
        · rw [hs s' (fun q' => q'.elim q q2)] at h2
          exact (w.inj s' .d _ _ _ h2 rfl).symm
    · rw [fmN] at h1; cases h1
  · show upd H g.d _ z = _
    rw [upd_ne (fun q => (w.pp z zP).2.1 (by rw [q]; exact w.dT))]; exact hz
  · have o := w.ok
    exact ⟨o.cel, o.rdi, o.rdc, o.rdk, o.efi, o.nam, o.adr, o.wad, o.fre, fun f hf => o.frn f (List.dropLast_subset _ hf), dl, o.ndc, o.ndr, o.b1, o.b2, o.b3, o.b4, o.b5, by
      have h6 : S.frs.length ≤ 200 := o.b6
      show S.frs.dropLast.length ≤ 200
      rw [List.length_dropLast]; omega, o.b7, o.b8⟩
  · obtain ⟨o, h1, h2⟩ := w.mu x hx
    by_cases q : x = g.d
    · exact ⟨.ins (a 3) c.dd _, by rw [q, upd_same], trivial⟩
    · exact ⟨o, by rw [upd_ne q]; exact h1, h2⟩
end
end Tr
set_option maxHeartbeats 2000000
namespace Tr
open PySem L2
section
variable {ω Λ α β : Type}
variable {a : Nat → Addr} {Y : LawP ω Λ} {g g1 g' : Gh} {H H1 H' : Hp} {st s : SW ω Λ} {c c' : Cn} {S S' : DS ω} {l : Λ}
theorem hush_len {b : Bool} : ∀ {fs : List Fm}, (hushLast b fs).length = fs.length
  | [] => rfl
  | [_] => rfl
  | _ :: f2 :: r => by
    show (hushLast b (f2 :: r)).length + 1 = _
    rw [hush_len]
    rfl
theorem hush_get {b : Bool} : ∀ {fs : List Fm} {j : Nat}, (hushLast b fs)[j]? = if j + 1 = fs.length then fs[j]?.map (fun f => { f with hush := b }) else fs[j]?
  | [], j => by simp [hushLast]
  | [f], j => by
    cases j with
    | zero => rfl
    | succ j => rw [if_neg (by simp)]; rfl
  | f :: f2 :: r, j => by
    cases j with
    | zero => rw [if_neg (by simp)]; rfl
    | succ j =>
      show (hushLast b (f2 :: r))[j]? = _
      rw [hush_get]
      simp only [List.length_cons, Nat.add_right_cancel_iff, List.getElem?_cons_succ]
theorem hush_own {b : Bool} {fs : List Fm} {f : Fm} (h : f ∈ hushLast b fs) : ∃ f' ∈ fs, f'.own = f.own := by
  obtain ⟨j, hj⟩ := List.getElem?_of_mem h
  rw [hush_get] at hj
  split at hj
  · cases e : fs[j]? with
    | none => rw [e] at hj; cases hj
    | some f' => rw [e] at hj; cases hj; exact ⟨f', List.mem_of_getElem? e, rfl⟩
  · exact ⟨f, List.mem_of_getElem? hj, rfl⟩
/-- the innermost frame is hushed, or no more -/
theorem Wc.hush (w : Wc a Y g (S, l) c H) {f : Fm} {i : Nat} {x : Addr} (b : Bool) (h1 : S.frs[i]? = some f) (h2 : g.fas[i]? = some x) (h3 : i + 1 = S.frs.length) :
    Wc a Y g ({ S with frs := hushLast b S.frs }, l) c (upd H x (.ins (a 49) (c.fdx i) (frameU f.own f.isA b (c.nad f.own)))) := by
  refine w.set (.fm i) trivial ⟨_, slot_fm h1 h2⟩ ?_ (fun s hs => ?_) rfl ⟨w.vr.log, w.vr.nts, w.vr.hld, w.vr.rep⟩ ?_ (fun _ t _ h1 h2 => ⟨t, h1, h2⟩)
  · exact slot_fm (S := { S with frs := hushLast b S.frs }) (f := { f with hush := b }) (by show (hushLast b S.frs)[i]? = _; rw [hush_get, if_pos h3, h1]; rfl) h2
  · cases s with
    | fm j =>
      have hj : j ≠ i := fun q => hs (by rw [q])
      show (match (hushLast b S.frs)[j]?, g.fas[j]? with
        | some f, some x => some (x, HO.ins (a 49) (c.fdx j) (frameU f.own f.isA f.hush (c.nad f.own)))
        | _, _ => none) = (match S.frs[j]?, g.fas[j]? with
        | some f, some x => some (x, HO.ins (a 49) (c.fdx j) (frameU f.own f.isA f.hush (c.nad f.own)))
        | _, _ => none)
      rw [hush_get, if_neg (by omega)]
    | _ => rfl
  · have o := w.ok
    exact ⟨o.cel, o.rdi, o.rdc, o.rdk, o.efi, o.nam, o.adr, o.wad, o.fre, (fun f hf => by
      obtain ⟨f', m, e⟩ := hush_own hf
      rw [← e]
      exact o.frn f' m), (by show (hushLast b S.frs).length = _; rw [hush_len]; exact o.fl), o.ndc, o.ndr, o.b1, o.b2, o.b3, o.b4, o.b5, (by show (hushLast b S.frs).length ≤ _; rw [hush_len]; exact o.b6), o.b7, o.b8⟩
def Gh.add (g : Gh) (n : Str) (x f nt : Addr) : Gh := { g with adr := (fun m => if m = n then some x else g.adr m), wad := (fun m => if m = n then some f else g.wad m), T := (fun y => g.T y ∨ y = x ∨ y = nt) }
def Cn.add (c : Cn) (n : Str) (dx nt : Addr) : Cn := { c with idx := (fun m => if m = n then dx else c.idx m), nad := (fun m => if m = n then nt else c.nad m), vn := (fun m => if m = n then [] else c.vn m), vh := (fun m => if m = n then .non else c.vh m) }
theorem gA_add {n m : Str} {x f nt : Addr} (h : m ≠ n) : gA (g.add n x f nt) m = gA g m := by
  show (if m = n then some x else g.adr m).getD 0 = _
  rw [if_neg h]; rfl
theorem gA_add_at {n : Str} {x f nt : Addr} : gA (g.add n x f nt) n = x := by
  show (if n = n then some x else g.adr n).getD 0 = _
  rw [if_pos rfl]; rfl
theorem wA_add_at {n : Str} {x f nt : Addr} : wA (g.add n x f nt) n = f := by
  show (if n = n then some f else g.wad n).getD 0 = _
  rw [if_pos rfl]; rfl
theorem wA_add {n m : Str} {x f nt : Addr} (h : m ≠ n) : wA (g.add n x f nt) m = wA g m := by
  show (if m = n then some f else g.wad m).getD 0 = _
  rw [if_neg h]; rfl
theorem kvU_add {n m : Str} {x f nt : Addr} (h : m ≠ n) : kvU (g.add n x f nt) m = kvU g m := by unfold kvU; rw [gA_add h]
theorem thO_add {n m : Str} {x f nt dx : Addr} {t : Th ω} (h : m ≠ n) : thO a (g.add n x f nt) (c.add n dx nt) m t = thO a g c m t := by
  have e1 : (c.add n dx nt).nad m = c.nad m := if_neg h
  have e2 : (c.add n dx nt).idx m = c.idx m := if_neg h
  have e3 : (c.add n dx nt).vh m = c.vh m := if_neg h
  cases t with
  | cell v => show HO.ins _ ((c.add n dx nt).idx m) _ = _; rw [e2]; rfl
  | kept w ns k hd => show HO.ins _ ((c.add n dx nt).idx m) (keptU _ _ (wA (g.add n x f nt) m) ((c.add n dx nt).nad m) _ ((c.add n dx nt).vh m) _) = _; rw [e1, e2, e3, wA_add h]; rfl
  | eff w ns k r => show HO.ins _ ((c.add n dx nt).idx m) (effU _ _ (wA (g.add n x f nt) m) ((c.add n dx nt).nad m) _ ((c.add n dx nt).vh m)) = _; rw [e1, e2, e3, wA_add h]; rfl
theorem SOk.add (o : SOk g S) {n : Str} {t : Th ω} {x f nt : Addr} {cells' rds' : List Str} (h0 : S.th n = none) (hn : n ∈ S.names) (ht : ∀ ns, t.notes = some ns → ns = [])
    (hc : (∃ v, t = .cell v) ∧ cells' = S.cells ++ [n] ∧ S.cells.length < 200 ∨ (∀ v, t ≠ .cell v) ∧ cells' = S.cells) (hr : (∀ w ns k r, t ≠ .eff w ns k r) ∧ rds' = S.rds ++ [n] ∧ S.rds.length < 200 ∨ (∃ w ns k r, t = .eff w ns k r) ∧ rds' = S.rds) :
    SOk (g.add n x f nt) { (S.setTh n t) with cells := cells', rds := rds' } := by
  have nn : ∀ {m : Str} {u : Th ω}, S.th m = some u → m ≠ n := fun {m u} e z => by rw [z, h0] at e; cases e
  have th' : ∀ {m : Str} {u : Th ω}, S.th m = some u → ({ (S.setTh n t) with cells := cells', rds := rds' } : DS ω).th m = some u := fun {m u} e => by
    show (S.setTh n t).th m = _
    rw [setTh_ne (nn e)]; exact e
  have thn : ({ (S.setTh n t) with cells := cells', rds := rds' } : DS ω).th n = some t := setTh_at
  have back : ∀ {m : Str} {u : Th ω}, ({ (S.setTh n t) with cells := cells', rds := rds' } : DS ω).th m = some u → (m = n ∧ u = t) ∨ (m ≠ n ∧ S.th m = some u) := fun {m u} e => by
    by_cases z : m = n
    · subst z; rw [thn] at e; cases e; exact .inl ⟨rfl, rfl⟩
    · exact .inr ⟨z, by rw [← setTh_ne z (t := t)]; exact e⟩
  have sc : ∀ m ∈ S.cells, m ∈ cells' := fun m hm => by
    rcases hc with ⟨_, rfl, _⟩ | ⟨_, rfl⟩
    · exact List.mem_append_left _ hm
    · exact hm
  have sr : ∀ m ∈ S.rds, m ∈ rds' := fun m hm => by
    rcases hr with ⟨_, rfl, _⟩ | ⟨_, rfl⟩
    · exact List.mem_append_left _ hm
    · exact hm
  refine ⟨fun m hm => ?_, fun m hm => ?_, fun m v e => ?_, fun m w ns k h e => ?_, fun m hm => ?_, fun m u e => ?_, fun m u e => ?_, fun m u w e hw => ?_, fun m e => ?_, fun fr hf => ?_, o.fl, ?_, ?_, o.b1, ?_, ?_, o.b4, o.b5, o.b6, o.b7, fun m u ns e hu => ?_⟩
  · rcases hc with ⟨⟨v, rfl⟩, rfl, _⟩ | ⟨_, rfl⟩
    · rcases List.mem_append.mp hm with z | z
      · obtain ⟨v', e⟩ := o.cel m z; exact ⟨v', th' e⟩
      · rw [List.mem_singleton.mp z]; exact ⟨v, thn⟩
    · obtain ⟨v', e⟩ := o.cel m hm; exact ⟨v', th' e⟩
  · rcases hr with ⟨ne, rfl, _⟩ | ⟨_, rfl⟩
    · rcases List.mem_append.mp hm with z | z
      · obtain ⟨u, e, q⟩ := o.rdi m z; exact ⟨u, th' e, q⟩
      · rw [List.mem_singleton.mp z]; exact ⟨t, thn, ne⟩
    · obtain ⟨u, e, q⟩ := o.rdi m hm; exact ⟨u, th' e, q⟩
  · rcases back e with ⟨rfl, rfl⟩ | ⟨_, e'⟩
    · constructor
      · rcases hr with ⟨_, rfl, _⟩ | ⟨⟨w, ns, k, r, q⟩, _⟩
        · exact List.mem_append_right _ List.mem_cons_self
        · cases q
      · rcases hc with ⟨_, rfl, _⟩ | ⟨q, _⟩
        · exact List.mem_append_right _ List.mem_cons_self
        · exact absurd rfl (q v)
    · exact ⟨sr _ (o.rdc m v e').1, sc _ (o.rdc m v e').2⟩
  · rcases back e with ⟨rfl, rfl⟩ | ⟨_, e'⟩
    · rcases hr with ⟨_, rfl, _⟩ | ⟨⟨_, _, _, _, q⟩, _⟩
      · exact List.mem_append_right _ List.mem_cons_self
      · cases q
    · exact sr _ (o.rdk m _ _ _ _ e')
  · obtain ⟨w, ns, k, r, e⟩ := o.efi m hm; exact ⟨w, ns, k, r, th' e⟩
  · rcases back e with ⟨rfl, _⟩ | ⟨_, e'⟩
    · exact hn
    · exact o.nam m u e'
  · rcases back e with ⟨rfl, _⟩ | ⟨z, e'⟩
    · exact ⟨x, if_pos rfl⟩
    · obtain ⟨y, q⟩ := o.adr m u e'; exact ⟨y, by show (if m = n then _ else g.adr m) = _; rw [if_neg z]; exact q⟩
  · rcases back e with ⟨rfl, _⟩ | ⟨z, e'⟩
    · exact ⟨f, if_pos rfl⟩
    · obtain ⟨y, q⟩ := o.wad m u w e' hw; exact ⟨y, by show (if m = n then _ else g.wad m) = _; rw [if_neg z]; exact q⟩
  · have z : m ≠ n := fun z => by rw [z, thn] at e; cases e
    have e' : S.th m = none := by rw [← setTh_ne z (t := t)]; exact e
    constructor
    · show (if m = n then _ else g.adr m) = _; rw [if_neg z]; exact (o.fre m e').1
    · show (if m = n then _ else g.wad m) = _; rw [if_neg z]; exact (o.fre m e').2
  · obtain ⟨u, ns, e1, e2⟩ := o.frn fr hf; exact ⟨u, ns, th' e1, e2⟩
  · rcases hc with ⟨⟨v, rfl⟩, rfl, _⟩ | ⟨_, rfl⟩
    · refine List.nodup_append.mpr ⟨o.ndc, by simp, fun m hm k hk q => ?_⟩
      rw [List.mem_singleton.mp hk] at q
      obtain ⟨v', e⟩ := o.cel m hm
      exact nn e q
    · exact o.ndc
  · rcases hr with ⟨_, rfl, _⟩ | ⟨_, rfl⟩
    · refine List.nodup_append.mpr ⟨o.ndr, by simp, fun m hm k hk q => ?_⟩
      rw [List.mem_singleton.mp hk] at q
      obtain ⟨v', e, _⟩ := o.rdi m hm
      exact nn e q
    · exact o.ndr
  · rcases hc with ⟨_, rfl, z⟩ | ⟨_, rfl⟩
    · show (S.cells ++ [n]).length ≤ 200; rw [List.length_append]; simp; omega
    · exact o.b2
  · rcases hr with ⟨_, rfl, z⟩ | ⟨_, rfl⟩
    · show (S.rds ++ [n]).length ≤ 200; rw [List.length_append]; simp; omega
    · exact o.b3
  · rcases back e with ⟨rfl, rfl⟩ | ⟨_, e'⟩
    · rw [ht ns hu]; exact Nat.zero_le _
    · exact o.b8 m u ns e' hu
theorem Wc.newTh (w : Wc a Y g (S, l) c H) {n : Str} {t : Th ω} {x f nt dx : Addr} {cells' rds' : List Str} (h0 : S.th n = none) (hn : n ∈ S.names) (nx : H x = none) (nn : H nt = none) (hnt : t.notes ≠ none → nt ≠ x) (hnx : t.notes = none → nt = x) (ht : ∀ ns, t.notes = some ns → ns = [])
    (hc : (∃ v, t = .cell v) ∧ cells' = S.cells ++ [n] ∧ S.cells.length < 200 ∨ (∀ v, t ≠ .cell v) ∧ cells' = S.cells) (hr : (∀ w ns k r, t ≠ .eff w ns k r) ∧ rds' = S.rds ++ [n] ∧ S.rds.length < 200 ∨ (∃ w ns k r, t = .eff w ns k r) ∧ rds' = S.rds)
    (hh : ∀ w ns k h, t = .kept w ns k h → h = none) (hrp : ∀ w ns k r, t = .eff w ns k r → r = .none)
    (hx : H' x = some (thO a (g.add n x f nt) (c.add n dx nt) n t)) (hN : t.notes ≠ none → H' nt = some (.dK [])) (hcs : H' c.cs = some (.dK (cells'.map (kvU (g.add n x f nt))))) (hrd : H' c.rd = some (.dK (rds'.map (kvU (g.add n x f nt)))))
    (hst : ∀ y o, H y = some o → y ≠ c.cs → y ≠ c.rd → H' y = some o) (cl : ∀ k, t.work = some k → Y.CL k f g H) :
    Wc a Y (g.add n x f nt) ({ (S.setTh n t) with cells := cells', rds := rds' }, l) (c.add n dx nt) H' ∧ DStep g H (g.add n x f nt) H' := by
  have o := w.ok
  have csT : g.T c.cs := w.inT .cs _ _ rfl
  have rdT : g.T c.rd := w.inT .rd _ _ rfl
  have nm : ∀ {m : Str} {u : Th ω}, S.th m = some u → m ≠ n := fun {m u} e z => by rw [z, h0] at e; cases e
  have stD : ∀ y o, H y = some o → ¬ g.T y → H' y = some o := fun y o' e nT => hst y o' e (fun z => nT (by rw [z]; exact csT)) (fun z => nT (by rw [z]; exact rdT))
  have ds : DStep g H (g.add n x f nt) H' := by
    refine ⟨⟨rfl, rfl, fun m y e => ?_, fun m y e => ?_, fun y h => .inl h, fun _ h => h, fun _ h => h, fun y h => ?_, fun _ h => .inl h, fun _ h => .inl h, fun y o' e _ nT _ => stD y o' e nT, fun y ps e nT => ⟨#[], (by rw [Array.append_empty]; exact stD y _ e nT), .inl rfl⟩, fun y o' e => ?_⟩, stD, rfl⟩
    · show (if m = n then _ else g.adr m) = _
      rw [if_neg (fun z => by rw [z, (o.fre n h0).1] at e; cases e)]; exact e
    · show (if m = n then _ else g.wad m) = _
      rw [if_neg (fun z => by rw [z, (o.fre n h0).2] at e; cases e)]; exact e
    · rcases h with h | h | h
      · exact .inl h
      · exact .inr (by rw [h]; exact nx)
      · exact .inr (by rw [h]; exact nn)
    · by_cases z1 : y = c.cs
      · exact ⟨_, by rw [z1]; exact hcs⟩
      · by_cases z2 : y = c.rd
        · exact ⟨_, by rw [z2]; exact hrd⟩
        · exact ⟨o', hst y o' e z1 z2⟩
  have map_same : ∀ ns : List Str, (∀ m ∈ ns, ∃ u, S.th m = some u) → ns.map (kvU (g.add n x f nt)) = ns.map (kvU g) := fun ns h => List.map_congr_left fun m hm => by
    obtain ⟨u, e⟩ := h m hm
    exact kvU_add (nm e)
  let S' : DS ω := { (S.setTh n t) with cells := cells', rds := rds' }
  have slT : slot a (g.add n x f nt) S' (c.add n dx nt) (.th n) = some (x, thO a (g.add n x f nt) (c.add n dx nt) n t) := by
    rw [slot_th (t := t) (show S'.th n = some t from setTh_at), gA_add_at]
  have slN : ∀ ns, t.notes = some ns → slot a (g.add n x f nt) S' (c.add n dx nt) (.nt n) = some (nt, .dK []) := fun ns e => by
    rw [slot_nt (t := t) (show S'.th n = some t from setTh_at) e]
    show some ((if n = n then nt else _), HO.dK (notesU _ (if n = n then [] else _))) = _
    rw [if_pos rfl, if_pos rfl, ht ns e]; rfl
  have slN0 : t.notes = none → slot a (g.add n x f nt) S' (c.add n dx nt) (.nt n) = none := fun e => by
    show ((S'.th n).bind _).map _ = none
    rw [show S'.th n = some t from setTh_at]
    show (t.notes).map _ = none
    rw [e]; rfl
  have hs : ∀ s, ¬ (s = .th n ∨ s = .nt n ∨ s = .cs ∨ s = .rd) → slot a (g.add n x f nt) S' (c.add n dx nt) s = slot a g S c s := fun s hs => by
    cases s with
    | cs => exact absurd (Or.inr (Or.inr (Or.inl rfl))) hs
    | rd => exact absurd (Or.inr (Or.inr (Or.inr rfl))) hs
    | th m =>
      have z : m ≠ n := fun z => hs (.inl (by rw [z]))
      show ((S.setTh n t).th m).map _ = (S.th m).map _
      rw [setTh_ne z]
      cases S.th m with
      | none => rfl
      | some u => show some (gA (g.add n x f nt) m, thO a (g.add n x f nt) (c.add n dx nt) m u) = some (gA g m, thO a g c m u); rw [thO_add z, gA_add z]
    | nt m =>
      have z : m ≠ n := fun z => hs (.inr (.inl (by rw [z])))
      show (((S.setTh n t).th m).bind _).map _ = ((S.th m).bind _).map _
      rw [setTh_ne z]
      show Option.map (fun ns => ((if m = n then nt else c.nad m), HO.dK (notesU _ (if m = n then _ else c.vn m)))) _ = _
      rw [if_neg z, if_neg z]
    | ef =>
      show some (c.ef, HO.lst (S.efs.map fun n' => V.ref (gA (g.add n x f nt) n'))) = some (c.ef, HO.lst (S.efs.map fun n' => V.ref (gA g n')))
      rw [List.map_congr_left fun m hm => by
        obtain ⟨_, _, _, _, e⟩ := o.efi m hm
        show V.ref (gA (g.add n x f nt) m) = V.ref (gA g m)
        rw [gA_add (nm e)]]
    | fm i =>
      show (match S.frs[i]?, g.fas[i]? with
        | some f, some x => some (x, HO.ins (a 49) (c.fdx i) (frameU f.own f.isA f.hush (if f.own = n then nt else c.nad f.own)))
        | _, _ => none) = (match S.frs[i]?, g.fas[i]? with
        | some f, some x => some (x, HO.ins (a 49) (c.fdx i) (frameU f.own f.isA f.hush (c.nad f.own)))
        | _, _ => none)
      cases ef : S.frs[i]? with
      | none => rfl
      | some fm =>
        cases g.fas[i]? with
        | none => rfl
        | some y =>
          obtain ⟨u, _, e1, _⟩ := o.frn fm (List.mem_of_getElem? ef)
          show some (y, HO.ins _ _ (frameU _ _ _ (if fm.own = n then nt else c.nad fm.own))) = _
          rw [if_neg (nm e1)]
    | _ => rfl
  have slC : slot a (g.add n x f nt) S' (c.add n dx nt) .cs = some (c.cs, .dK (cells'.map (kvU (g.add n x f nt)))) := rfl
  have slR : slot a (g.add n x f nt) S' (c.add n dx nt) .rd = some (c.rd, .dK (rds'.map (kvU (g.add n x f nt)))) := rfl
  have old : ∀ s y o, slot a (g.add n x f nt) S' (c.add n dx nt) s = some (y, o) → (s = .th n ∧ y = x) ∨ (s = .nt n ∧ y = nt ∧ t.notes ≠ none) ∨ ∃ o', slot a g S c s = some (y, o') := fun s y o' h1 => by
    by_cases z : s = .th n
    · subst z; rw [slT] at h1; cases h1; exact .inl ⟨rfl, rfl⟩
    · by_cases z2 : s = .nt n
      · subst z2
        cases e : t.notes with
        | none => rw [slN0 e] at h1; cases h1
        | some ns => rw [slN ns e] at h1; cases h1; exact .inr (.inl ⟨rfl, rfl, fun q => by cases q⟩)
      · by_cases z3 : s = .cs
        · subst z3; rw [slC] at h1; cases h1; exact .inr (.inr ⟨_, rfl⟩)
        · by_cases z4 : s = .rd
          · subst z4; rw [slR] at h1; cases h1; exact .inr (.inr ⟨_, rfl⟩)
          · rw [hs s (by rintro (q | q | q | q) <;> contradiction)] at h1
            exact .inr (.inr ⟨o', h1⟩)
  have inj' : ∀ s s' y o o', slot a (g.add n x f nt) S' (c.add n dx nt) s = some (y, o) → slot a (g.add n x f nt) S' (c.add n dx nt) s' = some (y, o') → s = s' := fun s s' y o1 o2 h1 h2 => by
    rcases old s y o1 h1 with ⟨rfl, rfl⟩ | ⟨rfl, rfl, e1⟩ | ⟨p1, q1⟩
    · rcases old s' _ o2 h2 with ⟨rfl, _⟩ | ⟨rfl, q, e2⟩ | ⟨p2, q2⟩
      · rfl
      · exact absurd q.symm (hnt e2)
      · exact absurd rfl (w.freeS nx _ _ _ q2)
    · rcases old s' _ o2 h2 with ⟨rfl, q⟩ | ⟨rfl, q, e2⟩ | ⟨p2, q2⟩
      · exact absurd q (hnt e1)
      · rfl
      · exact absurd rfl (w.freeS nn _ _ _ q2)
    · rcases old s' _ o2 h2 with ⟨rfl, rfl⟩ | ⟨rfl, rfl, e2⟩ | ⟨p2, q2⟩
      · exact absurd rfl (w.freeS nx _ _ _ q1)
      · exact absurd rfl (w.freeS nn _ _ _ q1)
      · exact w.inj s s' _ _ _ q1 q2
  refine ⟨w.gen (S' := S') (fun s => s = .th n ∨ s = .nt n ∨ s = .cs ∨ s = .rd) ds hs (fun s y o' hs h1 => ?_) (fun s y o' hs h1 => ?_) (fun s s' y o1 o2 _ h1 h2 => inj' s s' y o1 o2 h1 h2) ?_ w.frP ?_ (o.add h0 hn ht hc hr) (fun y hy => ?_) (fun x p n => absurd p (w.out n).p) (fun m u k fm h1 h2 h3 => ?_), ds⟩
  · exact hst y o' (w.sl s y o' h1) (fun z => hs (.inr (.inr (.inl (w.inj s .cs y o' _ h1 (by rw [z]; rfl)))))) (fun z => hs (.inr (.inr (.inr (w.inj s .rd y o' _ h1 (by rw [z]; rfl))))))
  · rcases hs with rfl | rfl | rfl | rfl
    · rw [slT] at h1; cases h1; exact ⟨hx, .inr (.inl rfl)⟩
    · cases e : t.notes with
      | none => rw [slN0 e] at h1; cases h1
      | some ns => rw [slN ns e] at h1; cases h1; exact ⟨hN (by rw [e]; intro z; cases z), .inr (.inr rfl)⟩
    · rw [slC] at h1; cases h1; exact ⟨hcs, .inl csT⟩
    · rw [slR] at h1; cases h1; exact ⟨hrd, .inl rdT⟩
  · exact stD _ _ w.frl w.frT
  · have v2 : VR (S.setTh n t) (c.add n dx nt) H := by
      refine w.vr.setTh rfl (fun m z => if_neg z) (fun m z => if_neg z) (fun ns q => ?_) (fun wk ns k hd q => ?_) (fun wk ns k r q => ?_)
      · rw [ht ns q]
        show DvAll H (if n = n then [] else _) _ ∧ _
        rw [if_pos rfl]
        exact ⟨.nil, fun p hp => by cases hp⟩
      · rw [hh _ _ _ _ q]
        show DvS H (if n = n then V.non else _) _
        rw [if_pos rfl]; exact .non
      · rw [hrp _ _ _ _ q]
        show DvS H (if n = n then V.non else _) _
        rw [if_pos rfl]; exact .non
    exact ⟨v2.log, v2.nts, v2.hld, v2.rep⟩
  · have hxM : Mut (thO a (g.add n x f nt) (c.add n dx nt) n t) := by cases t <;> trivial
    rcases hy with z | z | z
    · obtain ⟨o', h1, h2⟩ := w.mu y z
      by_cases z1 : y = c.cs
      · exact ⟨.dK _, by rw [z1]; exact hcs, trivial⟩
      · by_cases z2 : y = c.rd
        · exact ⟨.dK _, by rw [z2]; exact hrd, trivial⟩
        · exact ⟨o', hst y o' h1 z1 z2, h2⟩
    · exact ⟨_, by rw [show y = x from z]; exact hx, hxM⟩
    · cases e : t.notes with
      | none =>
        have q : y = x := (show y = nt from z).trans (hnx e)
        exact ⟨_, by rw [q]; exact hx, hxM⟩
      | some ns => exact ⟨.dK [], by rw [show y = nt from z]; exact hN (by rw [e]; intro q; cases q), trivial⟩
  · have h1 : (S.setTh n t).th m = some u := h1
    by_cases z : m = n
    · subst z
      rw [setTh_at] at h1
      cases h1
      have h3 : (if m = m then some f else g.wad m) = some fm := h3
      rw [if_pos rfl] at h3
      cases h3
      exact .inr (cl k h2)
    · rw [setTh_ne z] at h1
      have h3 : (if m = n then some f else g.wad m) = some fm := h3
      rw [if_neg z] at h3
      exact .inl ⟨u, h1, h2, h3⟩
end
end Tr
set_option maxHeartbeats 2000000
namespace L2
open PySem PySem.Spec PyProof.Rows
/-- the call's node, an argument starred, whatever keeps the callee -/
theorem ks_callA {M : Model} {A : Around} {E : Value → Shared → Prop} {s : Shared} {f : Value} {first : List Value} {pos : Pos} {Q : Value → Shared → Prop} {args : List (Bool × Sem Value)} (hst : args.any (·.1) = true)
    (h : wpAny M A (evalArgs f true args []) (fun a s₁ => (∃ k, PySem.W.Looks M s₁.heap (keeperOf f) k) ∧ wpAny M A (call f (first ++ a.pos) a.kw) Q E s₁) E s) : wpAny M A (callWith pos f first args []) Q E s := by
  unfold callWith
  refine wpAny_bind (wpAny_holding (wpAny_mono h (fun a s₁ h₁ => wpAny_bind (wpAny_standAt ?_)) fun _ _ x => x))
  obtain ⟨⟨k, L⟩, h₁⟩ := h₁
  simp only [hst, Bool.true_or]
  refine wpAny_bind (L.here ?_)
  have tail : ∀ {t : Sem Value}, wpAny M A t Q E s₁ → wpAny M A (t >>= fun r => holding [r] point >>= fun _ => pure r) Q E s₁ :=
    fun ht => wpAny_bind (wpAny_mono ht (fun r s₂ hr => wpAny_bind (wpAny_holding (wpAny_point (wpAny_pure hr)))) fun _ _ x => x)
  have marked (mk : Value) : wpAny M A (callMarked mk f (first ++ a.pos) a.kw) Q E s₁ := by unfold callMarked; exact Calls.wpAny_keep h₁
  cases k <;> dsimp only <;> first | exact tail (marked _) | exact tail (wpAny_operateT h₁)
/-- what is promised of values that are called -/
structure COk (P : Program) (w : World) (K : PySem.W.Frag) (mg : Str → Option Value) (base : Heap) (k : Nat) (wsp : V → List V → Hp → VK → Prop) : Prop where
  mono : ∀ {v : V} {vs : List V} {H : Hp} {Q Q' : VK}, (∀ u H', Q u H' → Q' u H') → wsp v vs H Q → wsp v vs H Q'
  run : ∀ (X : Cx), X.prog = P → X.w = w → X.K = K → X.mg = mg → X.base = base → Room k X.A → ∀ (pins : List (Addr × Obj)) (σ : L2.St) (H : Hp) (s : Shared) (v : V) (u : Value) (vs : List V) (us : List Value) (Q : VK), Inv X pins σ H s → RelV v u → Vals vs us → wsp v vs H Q →
    (∃ kk, PySem.W.Looks (model X.prog X.w) s.heap (keeperOf u) kk) ∧ wpAny (model X.prog X.w) X.A (call u us) (EP X pins σ Q) X.xe s
def tCallVS (K : PySem.W.Frag) (i : Nat) (wsp : V → List V → Hp → VK → Prop) (te : TE) : TE := fun σ H Q => ∃ v, σ[i]? = some (some v) ∧ te σ H fun y H1 => ∃ a xs, y = V.ref a ∧ (SqT K H1 a xs ∨ SqL K H1 a xs) ∧ wsp v xs H1 Q
theorem pe_callVS {X : Cx} {k i : Nat} {wsp : V → List V → Hp → VK → Prop} {x : Str} {e : Expr} {te : TE} {p sp_ pos : Pos} (W : COk X.prog X.w X.K X.mg X.base k wsp) (hr : Room k X.A) (hN : X.N[i]? = some x) (hv : Vis X.env.scope x) (he : PE X e te)
    (hd : (x == ("__debug__" : Str)) = false := by decide) (hcd : (x == ("__classdict__" : Str)) = false := by decide) (hst : starEach [.Starred e sp_] X.env = [(true, eval e X.env)] := by rfl) :
    PE X (.Call (.Name x p) [.Starred e sp_] [] pos) (tCallVS X.K i wsp te) := by
  refine ⟨fun pins s σ H Q I h => ?_⟩
  obtain ⟨v, hs, h⟩ := h
  refine wpAny_Call_Name_kw (thn ((pe_var (pos := p) (i := i) hN hv hd hcd).run pins s σ H (fun v1 H1 => v1 = v ∧ H1 = H) I ⟨v, hs, rfl, rfl⟩) fun u s1 ⟨v1, H1, I1, r1, ev, eH⟩ => ?_)
  subst ev
  rw [eH] at I1
  rw [hst]
  refine ks_callA rfl (PySem.W.ks_lone (thn (he.run pins s1 σ H _ I1 h) fun w s2 ⟨y, H2, I2, ry, a, xs, ey, hx, q⟩ => ?_))
  subst ey
  obtain rfl : w = Value.ref a := ry
  exact StX.star_any I2 hx fun us s3 I3 rv => W.run X rfl rfl rfl rfl rfl hr pins σ H2 s3 _ u xs us Q I3 r1 rv q
section
variable {P : Program} {w : World} {K : PySem.W.Frag} {mg : Str → Option Value} {base : Heap} {k : Nat}
/-- one of two kinds -/
theorem COk.or {w1 w2 : V → List V → Hp → VK → Prop} (W1 : COk P w K mg base k w1) (W2 : COk P w K mg base k w2) : COk P w K mg base k (fun v vs H Q => w1 v vs H Q ∨ w2 v vs H Q) :=
  ⟨fun hq h => h.imp (W1.mono hq) (W2.mono hq), fun X e1 e2 e3 e4 e5 hr pins σ H s v u vs us Q I r rv h => h.elim (W1.run X e1 e2 e3 e4 e5 hr pins σ H s v u vs us Q I r rv) (W2.run X e1 e2 e3 e4 e5 hr pins σ H s v u vs us Q I r rv)⟩
/-- an instance, by its class's own __call__ -/
theorem cok_ins {C g : Addr} {sp : Sp} (c : StX.CallO K C g) (F : FnR P w K mg base CX0 k g sp) (hm : ∀ vs H Q Q', (∀ v H', Q v H' → Q' v H') → sp vs H Q E0 → sp vs H Q' E0) : COk P w K mg base k (fun v vs H Q => ∃ a dx fs, v = V.ref a ∧ H a = some (.ins C dx fs) ∧ sp (V.ref a :: vs) H Q E0) := by
  refine ⟨fun hq ⟨a, dx, fs, e, h1, h2⟩ => ⟨a, dx, fs, e, h1, hm _ _ _ _ hq h2⟩, fun X e1 e2 e3 e4 e5 hr pins σ H s v u vs us Q I r rv ⟨a, dx, fs, e, h1, h2⟩ => ?_⟩
  subst e1 e2 e3 e4 e5 e
  obtain rfl : u = Value.ref a := r
  obtain ⟨ox, od, J, hd⟩ := StX.insC_at I (.inr ⟨dx, fs, h1⟩)
  exact ⟨⟨_, PySem.W.kco_keeper J hd⟩, StX.run_callO c F hr pass0 I (.inr ⟨dx, fs, h1⟩) rv h2⟩
/-- a def of the module -/
theorem cok_def {f : Addr} {sp : Sp} (hk : PySem.W.keepIn K (.ref f) = true) (F : FnR P w K mg base CX0 k f sp) (hm : ∀ vs H Q Q', (∀ v H', Q v H' → Q' v H') → sp vs H Q E0 → sp vs H Q' E0) : COk P w K mg base k (fun v vs H Q => v = V.ref f ∧ sp vs H Q E0) := by
  refine ⟨fun hq ⟨e, h2⟩ => ⟨e, hm _ _ _ _ hq h2⟩, fun X e1 e2 e3 e4 e5 hr pins σ H s v u vs us Q I r rv ⟨e, h2⟩ => ?_⟩
  subst e1 e2 e3 e4 e5 e
  obtain rfl : u = Value.ref f := r
  obtain ⟨kk, _, L⟩ := PySem.W.keeps_K hk s.heap I.kIn
  exact ⟨⟨kk, L⟩, wpAny_call (run_fnR F hr pass0 I rv h2)⟩
/-- a closure that promises what a field's function does -/
theorem cok_wok {wsp0 : Addr → Hp → VK → Prop} (W : WOk P w K mg base k wsp0) : COk P w K mg base k (fun v vs H Q => ∃ g, v = V.ref g ∧ vs = [] ∧ wsp0 g H Q) := by
  refine ⟨fun hq ⟨g, e1, e2, h⟩ => ⟨g, e1, e2, W.mono hq h⟩, fun X e1 e2 e3 e4 e5 hr pins σ H s v u vs us Q I r rv ⟨g, ev, evs, h⟩ => ?_⟩
  subst e1 e2 e3 e4 e5 ev evs
  obtain rfl : u = Value.ref g := r
  obtain ⟨ob, fd, h1, h2, h3⟩ := W.fn g H Q h
  have hg := (I.hok g _ h1).1
  obtain ⟨oc, od', dt, sl⟩ := ob
  cases h2
  cases h3
  cases rv
  obtain ⟨kk, _, L⟩ := PySem.W.keeps_F (M := model X.prog X.w) s.heap ⟨_, _, _, _, hg⟩
  refine ⟨⟨kk, L⟩, wpAny_call (codeAny_mono (W.run X.A X.stack s H g Q hr I.env0 h) fun r s' hq => ?_)⟩
  cases r with
  | error e => exact False.elim hq
  | ok fl =>
    cases fl with
    | ret u => exact I.after hq
    | next => exact False.elim hq
    | brk => exact False.elim hq
    | cont => exact False.elim hq
/-- a def with a star parameter, by its body -/
theorem Fun.star {x qual : Str} {st : Stmt} {f : Addr} {fd : FuncData} {N ps : List Str} {pv : Str} {sp : Sp} (F : Fun K x qual st f fd) (S : FnScope N (ps ++ [pv]) (defScope st))
    (hb : ∀ (kV doc pm : Value) (an : Option Addr) (cdv ct : Value) (us rest : List Value), us.length = ps.length → bindArgs (PySem.W.fnOf x qual (defArgs st) (defBody st) (defScope st) .none kV doc pm an cdv ct) ⟨us ++ rest, []⟩ = (newTuple rest >>= fun t => pure (ps.zip us ++ [(pv, t)])))
    (hbody : ∀ (cdv : Value) (A : Around) (outer : List Env) (s : Shared) (H : Hp) (vs : List V) (Q : VK) (E : XK), Room k (A.deeper (envOfC qual (defScope st) s.heap.objs.size f cdv)) → sp vs H Q E →
      ∃ t, PSs (cxOf CX0 P w K mg base N qual (defScope st) f cdv A outer s H E).nox (defBody st) t ∧ t { nx := fun _ H' => Q .non H', rt := Q } (start N vs) H) :
    FnR P w K mg base CX0 (k + 1) f (fun vs H Q E => ∃ ws rest, vs = ws ++ rest ∧ ws.length = ps.length ∧ rest.length ≤ sizeLine ∧ ∀ p, H p = Option.none → sp (ws ++ [V.ref p]) (upd H p (.tup rest)) Q E) := by
  obtain ⟨⟨oc, od, kV, doc, pm, an, cdv, ct, osl, rfl, lk, hcd⟩, _⟩ := F
  refine StX.fn_star lk hcd S StX.cxUp_none (hb kV doc pm an cdv ct) fun A outer s H vs Q E hr h => ?_
  obtain ⟨t, h1, h2⟩ := hbody cdv A outer s H vs Q E hr h
  exact ⟨t, h1.nox, h2⟩
end
end L2
set_option maxHeartbeats 2000000
namespace L2
open PySem PySem.Spec PyProof.Rows
/-- what is promised of the functions that stand in fields -/
structure WOkX (P : Program) (w : World) (K : PySem.W.Frag) (mg : Str → Option Value) (base : Heap) (k : Nat) (wsp : Addr → Hp → VK → XK → Prop) : Prop where
  fn : ∀ g H Q E, wsp g H Q E → ∃ (o : Obj) (fd : FuncData), H g = some (frzO o) ∧ o.cls = .type "function" ∧ o.data = .func fd
  run : ∀ (A : Around) (outer : List Env) (s : Shared) (H : Hp) (g : Addr) (Q : VK) (E : XK), Room k A → Env0 P w K mg base A outer s H → wsp g H Q E → codeAny (model P w) A (.call (.ref g) ⟨[], []⟩) (CR (L2.CX P w) outer P w H s Q E) s
theorem WOkX.up {P : Program} {w : World} {K : PySem.W.Frag} {mg : Str → Option Value} {base : Heap} {j k : Nat} {wsp : Addr → Hp → VK → XK → Prop} (W : WOkX P w K mg base j wsp) (h : j ≤ k) : WOkX P w K mg base k wsp :=
  ⟨W.fn, fun A outer s H g Q E hr => W.run A outer s H g Q E (hr.mono h)⟩
section
variable {X : Cx} {k : Nat} {C : Addr} {m : Str} {wsp : Addr → Hp → VK → XK → Prop} {o : Expr} {ta : TE} {pos apos : Pos} {E : St → XK}
def tFCallX (C : Addr) (m : Str) (wsp : Addr → Hp → VK → XK → Prop) (E : St → XK) (ta : TE) : TE := fun σ H Q => ta σ H fun x H1 => ∃ a dx fs g, x = .ref a ∧ H1 a = some (.ins C dx fs) ∧ fs.lookup m = some (.ref g) ∧ wsp g H1 Q (E σ)
theorem s_fcallX {σ : St} {H : Hp} {Q : VK} (h : ta σ H fun x H1 => ∃ a dx fs g, x = .ref a ∧ H1 a = some (.ins C dx fs) ∧ fs.lookup m = some (.ref g) ∧ wsp g H1 Q (E σ)) : tFCallX C m wsp E ta σ H Q := h
/-- o.m(), m a field that holds a function -/
theorem pe_fcallX {pl : Sem Bool} (he : PE X o ta) (c : Cls X.K C) (hn : NoAttr X.K C m) (W : WOkX X.prog X.w X.K X.mg X.base k wsp) (hr : Room k X.A) (hx : ∀ σ, PassesAt (L2.CX X.prog X.w) X σ (E σ))
    (ht : eval (.Call (.Attribute o m apos) [] [] pos) X.env = (do
      let ov ← eval o X.env
      standAt apos.atName
      let (f, first) ← holding [ov] (getMethod ov m pl)
      callWith pos f first (backTo pos (starEach [] X.env)) (backToKw pos (keywordEach [] X.env))) := by rfl) :
    PE X (.Call (.Attribute o m apos) [] [] pos) (tFCallX C m wsp E ta) := by
  refine ⟨fun pins s σ H Q I h => PySem.W.methodCall_KW (pl := pl) (thn (he.run pins s σ H _ I h) fun u s1 ⟨x, H1, I1, rx, a, dx, fs, g, ex, ea, l, q⟩ => ?_) ht⟩
  obtain rfl : u = Value.ref a := by rw [ex] at rx; exact rx
  obtain ⟨_, O, _⟩ := ins_get I1.hok ea
  obtain ⟨_, J, _⟩ := O.look
  refine PySem.W.method_usual I1.kIn J (PySem.W.plainGet_of (c.get m)).1 (PySem.W.plainGet_of (c.get m)).2 hn rfl (getattr_ok I1 ea c hn l fun u2 s2 I2 r2 => ?_)
  obtain rfl : u2 = Value.ref g := r2
  obtain ⟨⟨oc, od', dt, sl⟩, fd, h1, h2, h3⟩ := W.fn g H1 Q _ q
  have hg := (I2.hok g _ h1).1
  cases h2
  cases h3
  refine PySem.W.callWith_F0 (first := []) ⟨_, _, _, _, hg⟩ (wpAny_call (codeAny_mono (W.run X.A X.stack s2 H1 g Q (E σ) hr I2.env0 q) fun r s' hq => ?_))
  match r, hq with
  | .error e, hq => exact hx σ pins H1 s2 e s' I2 hq
  | .ok (.ret u), hq => exact I2.after hq
  | .ok .next, hq => exact hq.elim
  | .ok .brk, hq => exact hq.elim
  | .ok .cont, hq => exact hq.elim
end
def tFinX (tb : WX → TS) (tf tfs : TS) (Wout : WX) : TS := fun D σ H => tb (wFin tfs Wout) { nx := fun σ1 H1 => tf D σ1 H1, rt := fun _ _ => False } σ H
theorem ps_finX {X : Cx} {body : List Stmt} {f₀ : Stmt} {fs : List Stmt} {pos : Pos} {tb : WX → TS} {tf tfs : TS} {Wout : WX} (hs : X.stack = X.env :: X.outer) (hf : X.env.frame = some X.env.locals) (hex : X.ex = []) (tk : Takes X Wout)
    (hb : ∀ (W : WX) (pn : List (Addr × Obj)) (xe : Value → Shared → Prop), Takes (X.tr pn xe) W → PassesOwn (model X.prog X.w) X.A X.env xe → PSs (X.tr pn xe) body (tb W))
    (hfin : PSs X.nox (f₀ :: fs) tf) (hsu : ∀ (a : Addr) (pn : List (Addr × Obj)), PSs (X.suite a pn) (f₀ :: fs) tfs) : PS X (.Try body [] [] (f₀ :: fs) pos) (tFinX tb tf tfs Wout) := by
  refine ⟨fun pins s σ H D I h => wpAny_Try_finally ?_⟩
  have ok := I.ok
  have hb2 := hb (wFin tfs Wout) (X.pn ++ pins) (fun x s₁ => wpAny (model X.prog X.w) X.A (noteFrame x X.env) (fun _ s₂ => FinallyRaised X.prog X.w X.A X.xe X.env (f₀ :: fs) (SP X pins D) x s₂) (FinallyRaised X.prog X.w X.A X.xe X.env (f₀ :: fs) (SP X pins D)) s₁) (fun u s' xx => fin_exc hs hf hex ok tk hsu xx) PassesOwn.looking
  refine wpAny_mono (hb2.run [] s σ H { nx := fun σ1 H1 => tf D σ1 H1, rt := fun _ _ => False } (I.toTry _) h) (fun g s1 z => ?_) fun x s1 hx => hx
  match g, z with
  | .ret u, z => exact (show False from z.elim fun _ z => z.elim fun _ z => z.elim fun _ z => z.2.2).elim
  | .brk, z => exact (show False from z.elim fun _ z => z.elim fun _ z => z.2).elim
  | .cont, z => exact (show False from z.elim fun _ z => z.elim fun _ z => z.2).elim
  | .next, z =>
    obtain ⟨σ1, H1, J1, q1⟩ := z
    refine wpAny_execs_nil (wpAny_mono (hfin.run pins s1 σ1 H1 D ((J1.ofTry ok).wish _) q1) (fun g2 s2 q2 => ?_) fun _ _ e => e.elim)
    have q3 : SP X pins D g2 s2 := q2.unwish
    cases g2 <;> exact q3
theorem s_finX {tb : WX → TS} {tf tfs : TS} {Wout : WX} {D : Ends} {σ : St} {H : Hp} (h : tb (wFin tfs Wout) ⟨fun σ1 H1 => tf D σ1 H1, fun _ _ => False, fun _ _ => False, fun _ _ => False⟩ σ H) : tFinX tb tf tfs Wout D σ H := h
end L2
namespace L2
open PySem PySem.Spec PyProof.Rows
section
variable {X : Cx} {k1 k2 : Nat} {f1 f2 C1 C2 : Addr} {fd1 fd2 : FuncData} {ps1 ps2 : List Str} {sp1 sp2 : Sp} {o : Expr} {ta : TE} {m : Str} {pos apos : Pos} {CX1 CX2 : CXT} {E : XK}
def tMeth2X (C1 C2 : Addr) (sp1 sp2 : Sp) (m : Str) (E : XK) (ta : TE) : TE := fun σ H Q => ta σ H fun x H1 => ∃ a dx fs, x = .ref a ∧ fs.lookup m = none ∧ ((H1 a = some (.ins C1 dx fs) ∧ sp1 [.ref a] H1 Q E) ∨ (H1 a = some (.ins C2 dx fs) ∧ sp2 [.ref a] H1 Q E))
theorem s_meth2X {σ : L2.St} {H : Hp} {Q : VK} (h : ta σ H fun x H1 => ∃ a dx fs, x = .ref a ∧ fs.lookup m = none ∧ ((H1 a = some (.ins C1 dx fs) ∧ sp1 [.ref a] H1 Q E) ∨ (H1 a = some (.ins C2 dx fs) ∧ sp2 [.ref a] H1 Q E))) : tMeth2X C1 C2 sp1 sp2 m E ta σ H Q := h
/-- o.m(), o of one of two classes, that may raise -/
theorem pe_meth02X {pl : Sem Bool} (he : PE X o ta) (c1 : Cls X.K C1) (hm1 : Meth X.K C1 m f1) (F1 : FnOk X.prog X.w X.K X.mg X.base CX1 k1 f1 fd1 ps1 sp1) (hr1 : Room k1 X.A) (hb1 : Binds X.K fd1 ps1 []) (hx1 : Passes CX1 X E)
    (c2 : Cls X.K C2) (hm2 : Meth X.K C2 m f2) (F2 : FnOk X.prog X.w X.K X.mg X.base CX2 k2 f2 fd2 ps2 sp2) (hr2 : Room k2 X.A) (hb2 : Binds X.K fd2 ps2 []) (hx2 : Passes CX2 X E)
    (ht : eval (.Call (.Attribute o m apos) [] [] pos) X.env = (do
      let ov ← eval o X.env
      standAt apos.atName
      let (f, first) ← holding [ov] (getMethod ov m pl)
      callWith pos f first (backTo pos (starEach [] X.env)) (backToKw pos (keywordEach [] X.env))) := by rfl) :
    PE X (.Call (.Attribute o m apos) [] [] pos) (tMeth2X C1 C2 sp1 sp2 m E ta) := by
  refine ⟨fun pins s σ H Q I h => PySem.W.methodCall_KW (pl := pl) (thn (he.run pins s σ H _ I h) fun u s1 ⟨x, H1, I1, rx, a, dx, fs, ex, l, h⟩ => ?_) ht⟩
  obtain rfl : u = Value.ref a := by rw [ex] at rx; exact rx
  rcases h with ⟨ea, q⟩ | ⟨ea, q⟩
  · exact getmeth_ok I1 ea c1 hm1 l (PySem.W.callWith_K0 (first := [.ref a]) I1.kIn hm1.kp (run_fn (us := [.ref a]) (vs := [.ref a]) (ds := []) (dvs := []) F1 hr1 hb1 .nil hx1 I1 (.cons rfl .nil) q))
  · exact getmeth_ok I1 ea c2 hm2 l (PySem.W.callWith_K0 (first := [.ref a]) I1.kIn hm2.kp (run_fn (us := [.ref a]) (vs := [.ref a]) (ds := []) (dvs := []) F2 hr2 hb2 .nil hx2 I1 (.cons rfl .nil) q))
end
end L2
set_option maxHeartbeats 2000000
namespace L2
open PySem PySem.Spec PyProof.Rows
/-- what is promised of values that are called -/
structure COkX (P : Program) (w : World) (K : PySem.W.Frag) (mg : Str → Option Value) (base : Heap) (k : Nat) (wsp : V → List V → Hp → VK → XK → Prop) : Prop where
  run : ∀ (X : Cx), X.prog = P → X.w = w → X.K = K → X.mg = mg → X.base = base → Room k X.A → ∀ (pins : List (Addr × Obj)) (σ : L2.St) (H : Hp) (s : Shared) (v : V) (u : Value) (vs : List V) (us : List Value) (Q : VK) (E : XK), PassesAt (L2.CX P w) X σ E → Inv X pins σ H s → RelV v u → Vals vs us → wsp v vs H Q E →
    (∃ kk, PySem.W.Looks (model X.prog X.w) s.heap (keeperOf u) kk) ∧ wpAny (model X.prog X.w) X.A (call u us) (EP X pins σ Q) X.xe s
def tCallVX (K : PySem.W.Frag) (i : Nat) (wsp : V → List V → Hp → VK → XK → Prop) (E : L2.St → XK) (te : TE) : TE := fun σ H Q => ∃ v, σ[i]? = some (some v) ∧ te σ H fun y H1 => ∃ a xs, y = V.ref a ∧ (SqT K H1 a xs ∨ SqL K H1 a xs) ∧ wsp v xs H1 Q (E σ)
theorem s_callVX {K : PySem.W.Frag} {i : Nat} {wsp : V → List V → Hp → VK → XK → Prop} {E : L2.St → XK} {te : TE} {σ : L2.St} {H : Hp} {Q : VK} (v : V) (hv : σ[i]? = some (some v)) (h : te σ H fun y H1 => ∃ a xs, y = V.ref a ∧ (SqT K H1 a xs ∨ SqL K H1 a xs) ∧ wsp v xs H1 Q (E σ)) : tCallVX K i wsp E te σ H Q := ⟨v, hv, h⟩
theorem pe_callVX {X : Cx} {k i : Nat} {wsp : V → List V → Hp → VK → XK → Prop} {E : L2.St → XK} {x : Str} {e : Expr} {te : TE} {p sp_ pos : Pos} (W : COkX X.prog X.w X.K X.mg X.base k wsp) (hr : Room k X.A) (hx : ∀ σ, PassesAt (L2.CX X.prog X.w) X σ (E σ)) (hN : X.N[i]? = some x) (hv : Vis X.env.scope x) (he : PE X e te)
    (hd : (x == ("__debug__" : Str)) = false := by decide) (hcd : (x == ("__classdict__" : Str)) = false := by decide) (hst : starEach [.Starred e sp_] X.env = [(true, eval e X.env)] := by rfl) :
    PE X (.Call (.Name x p) [.Starred e sp_] [] pos) (tCallVX X.K i wsp E te) := by
  refine ⟨fun pins s σ H Q I h => ?_⟩
  obtain ⟨v, hs, h⟩ := h
  refine wpAny_Call_Name_kw (thn ((pe_var (pos := p) (i := i) hN hv hd hcd).run pins s σ H (fun v1 H1 => v1 = v ∧ H1 = H) I ⟨v, hs, rfl, rfl⟩) fun u s1 ⟨v1, H1, I1, r1, ev, eH⟩ => ?_)
  rw [eH] at I1
  rw [ev] at r1
  rw [hst]
  refine ks_callA rfl (PySem.W.ks_lone (thn (he.run pins s1 σ H _ I1 h) fun w s2 ⟨y, H2, I2, ry, a, xs, ey, hx2, q⟩ => ?_))
  obtain rfl : w = Value.ref a := by rw [ey] at ry; exact ry
  exact StX.star_any I2 hx2 fun us s3 I3 rv => W.run X rfl rfl rfl rfl rfl hr pins σ H2 s3 _ u xs us Q _ (hx σ) I3 r1 rv q
section
variable {P : Program} {w : World} {K : PySem.W.Frag} {mg : Str → Option Value} {base : Heap} {k : Nat}
theorem COkX.up {j : Nat} {wsp : V → List V → Hp → VK → XK → Prop} (W : COkX P w K mg base j wsp) (h : j ≤ k) : COkX P w K mg base k wsp :=
  ⟨fun X e1 e2 e3 e4 e5 hr => W.run X e1 e2 e3 e4 e5 (hr.mono h)⟩
theorem COkX.or {w1 w2 : V → List V → Hp → VK → XK → Prop} (W1 : COkX P w K mg base k w1) (W2 : COkX P w K mg base k w2) : COkX P w K mg base k (fun v vs H Q E => w1 v vs H Q E ∨ w2 v vs H Q E) :=
  ⟨fun X e1 e2 e3 e4 e5 hr pins σ H s v u vs us Q E hx I r rv h => h.elim (W1.run X e1 e2 e3 e4 e5 hr pins σ H s v u vs us Q E hx I r rv) (W2.run X e1 e2 e3 e4 e5 hr pins σ H s v u vs us Q E hx I r rv)⟩
theorem COkX.imp {w1 w2 : V → List V → Hp → VK → XK → Prop} (W1 : COkX P w K mg base k w1) (h : ∀ v vs H Q E, w2 v vs H Q E → w1 v vs H Q E) : COkX P w K mg base k w2 :=
  ⟨fun X e1 e2 e3 e4 e5 hr pins σ H s v u vs us Q E hx I r rv q => W1.run X e1 e2 e3 e4 e5 hr pins σ H s v u vs us Q E hx I r rv (h _ _ _ _ _ q)⟩
/-- what is called, at the slots: from a promise by values -/
theorem run_fnRA {X : Cx} {pins : List (Addr × Obj)} {σ : L2.St} {H : Hp} {s : Shared} {CX : CXT} {k : Nat} {f : Addr} {sp : Sp} {E : XK} {Q : VK} {us : List Value} {vs : List V} (F : FnR X.prog X.w X.K X.mg X.base CX k f sp) (hr : Room k X.A) (hx : PassesAt CX X σ E) (I : Inv X pins σ H s) (r : Vals vs us) (h : sp vs H Q E) :
    codeAny (model X.prog X.w) X.A (.call (.ref f) ⟨us, []⟩) (fun r s' => match r with | .ok (.ret v) => EP X pins σ Q v s' | .ok _ => False | .error e => X.xe e s') s := by
  refine codeAny_mono (F X.A X.stack s H us vs Q E hr I.env0 r h) fun r s' hq => ?_
  match r, hq with
  | .error e, hq => exact hx pins H s e s' I hq
  | .ok (.ret u), hq => exact I.after hq
  | .ok .next, hq => exact hq.elim
  | .ok .brk, hq => exact hq.elim
  | .ok .cont, hq => exact hq.elim
/-- an instance, by its class's own __call__ -/
theorem cokx_ins {C g : Addr} {sp : Sp} {CX : CXT} (c : StX.CallO K C g) (F : FnR P w K mg base CX k g sp) (hcx : ∀ (X : Cx) (σ : L2.St) (E : XK), X.prog = P → X.w = w → PassesAt (L2.CX P w) X σ E → PassesAt CX X σ E) :
    COkX P w K mg base k (fun v vs H Q E => ∃ a dx fs, v = V.ref a ∧ H a = some (.ins C dx fs) ∧ sp (V.ref a :: vs) H Q E) := by
  refine ⟨fun X e1 e2 e3 e4 e5 hr pins σ H s v u vs us Q E hx I r rv ⟨a, dx, fs, e, h1, h2⟩ => ?_⟩
  have hx2 := hcx X σ E e1 e2 hx
  subst e1 e2 e3 e4 e5 e
  obtain rfl : u = Value.ref a := r
  obtain ⟨ox, od, J, hd⟩ := StX.insC_at I (.inr ⟨dx, fs, h1⟩)
  exact ⟨⟨_, PySem.W.kco_keeper J hd⟩, wpAny_call (PySem.W.kco_code I.kIn J hd c.at_ c.fn c.fi (run_fnRA (us := .ref a :: us) (vs := .ref a :: vs) F hr hx2 I (.cons rfl rv) h2))⟩
/-- a def of the module -/
theorem cokx_def {f : Addr} {sp : Sp} {CX : CXT} (hk : PySem.W.keepIn K (.ref f) = true) (F : FnR P w K mg base CX k f sp) (hcx : ∀ (X : Cx) (σ : L2.St) (E : XK), X.prog = P → X.w = w → PassesAt (L2.CX P w) X σ E → PassesAt CX X σ E) : COkX P w K mg base k (fun v vs H Q E => v = V.ref f ∧ sp vs H Q E) := by
  refine ⟨fun X e1 e2 e3 e4 e5 hr pins σ H s v u vs us Q E hx I r rv ⟨e, h2⟩ => ?_⟩
  have hx2 := hcx X σ E e1 e2 hx
  subst e1 e2 e3 e4 e5 e
  obtain rfl : u = Value.ref f := r
  obtain ⟨kk, _, L⟩ := PySem.W.keeps_K hk s.heap I.kIn
  exact ⟨⟨kk, L⟩, wpAny_call (run_fnRA F hr hx2 I rv h2)⟩
/-- a closure that is known -/
theorem cokx_wok {wsp0 : Addr → Hp → VK → XK → Prop} (W : WOkX P w K mg base k wsp0) : COkX P w K mg base k (fun v vs H Q E => ∃ g, v = V.ref g ∧ vs = [] ∧ wsp0 g H Q E) := by
  refine ⟨fun X e1 e2 e3 e4 e5 hr pins σ H s v u vs us Q E hx I r rv ⟨g, ev, evs, h⟩ => ?_⟩
  subst e1 e2 e3 e4 e5 ev evs
  obtain rfl : u = Value.ref g := r
  obtain ⟨⟨oc, od', dt, sl⟩, fd, h1, h2, h3⟩ := W.fn g H Q _ h
  have hg := (I.hok g _ h1).1
  cases h2
  cases h3
  cases rv
  obtain ⟨kk, _, L⟩ := PySem.W.keeps_F (M := model X.prog X.w) s.heap ⟨_, _, _, _, hg⟩
  refine ⟨⟨kk, L⟩, wpAny_call (codeAny_mono (W.run X.A X.stack s H g Q _ hr I.env0 h) fun r s' hq => ?_)⟩
  match r, hq with
  | .error e, hq => exact hx pins H s e s' I hq
  | .ok (.ret u), hq => exact I.after hq
  | .ok .next, hq => exact hq.elim
  | .ok .brk, hq => exact hq.elim
  | .ok .cont, hq => exact hq.elim
theorem hcx0 (X : Cx) (σ : L2.St) (E : XK) : X.prog = P → X.w = w → PassesAt (L2.CX P w) X σ E → PassesAt CX0 X σ E := fun _ _ _ _ _ _ _ _ _ z => z.elim
theorem hcxX (X : Cx) (σ : L2.St) (E : XK) : X.prog = P → X.w = w → PassesAt (L2.CX P w) X σ E → PassesAt (L2.CX P w) X σ E := fun _ _ h => h
/-- what is promised of a def with a star parameter, by its body -/
theorem Fun.starX {x qual : Str} {st : Stmt} {f : Addr} {fd : FuncData} {N ps : List Str} {pv : Str} {sp : Sp} (F : Fun K x qual st f fd) (S : FnScope N (ps ++ [pv]) (defScope st))
    (hb : ∀ (kV doc pm : Value) (an : Option Addr) (cdv ct : Value) (us rest : List Value), us.length = ps.length → bindArgs (PySem.W.fnOf x qual (defArgs st) (defBody st) (defScope st) .none kV doc pm an cdv ct) ⟨us ++ rest, []⟩ = (newTuple rest >>= fun t => pure (ps.zip us ++ [(pv, t)])))
    (hbody : ∀ (cdv : Value) (A : Around) (outer : List Env) (s : Shared) (H : Hp) (vs : List V) (Q : VK) (E : XK), Room k (A.deeper (envOfC qual (defScope st) s.heap.objs.size f cdv)) → sp vs H Q E →
      ∃ t, PSs (cxOf (L2.CX P w) P w K mg base N qual (defScope st) f cdv A outer s H E) (defBody st) t ∧ t { nx := fun _ H' => Q .non H', rt := Q } (start N vs) H) :
    FnR P w K mg base (L2.CX P w) (k + 1) f (fun vs H Q E => ∃ ws rest, vs = ws ++ rest ∧ ws.length = ps.length ∧ rest.length ≤ sizeLine ∧ ∀ p, H p = Option.none → sp (ws ++ [V.ref p]) (upd H p (.tup rest)) Q E) := by
  obtain ⟨⟨oc, od, kV, doc, pm, an, cdv, ct, osl, rfl, lk, hcd⟩, _⟩ := F
  exact StX.fn_star lk hcd S StX.cxUp (hb kV doc pm an cdv ct) fun A outer s H vs Q E hr h => hbody cdv A outer s H vs Q E hr h
end
section
variable {X : Cx} {CX : CXT} {k : Nat} {f C : Addr} {sp : Sp} {E : L2.St → XK} {m : Str} {pos apos : Pos} {e o : Expr} {es : List Expr} {ta : TE} {t : TA}
/-- o.m(e, ..), the method's promise by values -/
def tMethRX (C : Addr) (m : Str) (sp : Sp) (E : L2.St → XK) (ta : TE) (t : TA) : TE := fun σ H Q => ta σ H fun x H1 => ∃ a dx fs, x = .ref a ∧ H1 a = some (.ins C dx fs) ∧ fs.lookup m = none ∧ t σ H1 fun vs H2 => sp (x :: vs) H2 Q (E σ)
theorem s_methRX {σ : L2.St} {H : Hp} {Q : VK} (h : ta σ H fun x H1 => ∃ a dx fs, x = .ref a ∧ H1 a = some (.ins C dx fs) ∧ fs.lookup m = none ∧ t σ H1 fun vs H2 => sp (x :: vs) H2 Q (E σ)) : tMethRX C m sp E ta t σ H Q := h
theorem pe_methRX {pl : Sem Bool} (he : PE X o ta) (c : Cls X.K C) (hm : Meth X.K C m f) (F : FnR X.prog X.w X.K X.mg X.base CX k f sp) (hr : Room k X.A) (hx : ∀ σ, PassesAt CX X σ (E σ)) (ha : PA X (e :: es) t)
    (hst : starEach (e :: es) X.env = (false, eval e X.env) :: starEach es X.env := by rfl) (hpl : (backTo pos (starEach es X.env)).any (·.1) = false := by rfl)
    (ht : eval (.Call (.Attribute o m apos) (e :: es) [] pos) X.env = (do
      let ov ← eval o X.env
      standAt apos.atName
      let (f, first) ← holding [ov] (getMethod ov m pl)
      callWith pos f first (backTo pos (starEach (e :: es) X.env)) (backToKw pos (keywordEach [] X.env))) := by rfl) :
    PE X (.Call (.Attribute o m apos) (e :: es) [] pos) (tMethRX C m sp E ta t) := by
  refine ⟨fun pins s σ H Q I h => PySem.W.methodCall_KW (pl := pl) (thn (he.run pins s σ H _ I h) fun u s1 ⟨x, H1, I1, rx, a, dx, fs, ex, ea, l, q⟩ => ?_) ht⟩
  obtain rfl : u = Value.ref a := by rw [ex] at rx; exact rx
  subst ex
  refine getmeth_ok I1 ea c hm l (PySem.W.callWith_K (first := [.ref a]) (h₀ := X.base) I.ok.mod.kin hm.kp (thn (ha.run pos pins s1 σ H1 _ I1 q) fun us s2 ⟨vs, H2, I2, r, q2⟩ => ⟨I2.kIn, ?_⟩) hst hpl)
  exact wpAny_call (run_fnRA (us := .ref a :: us) (vs := .ref a :: vs) F hr (hx σ) I2 (.cons rfl r) q2)
end
end L2
namespace L2
open PySem PySem.Spec PyProof.Rows
theorem pe_callVXK {X : Cx} {K : PySem.W.Frag} {k i : Nat} {wsp : V → List V → Hp → VK → XK → Prop} {E : L2.St → XK} {x : Str} {e : Expr} {te : TE} {p sp_ pos : Pos} (W : COkX X.prog X.w X.K X.mg X.base k wsp) (hr : Room k X.A) (hx : ∀ σ, PassesAt (L2.CX X.prog X.w) X σ (E σ)) (hK : X.K = K) (hN : X.N[i]? = some x) (hv : Vis X.env.scope x) (he : PE X e te)
    (hd : (x == ("__debug__" : Str)) = false := by decide) (hcd : (x == ("__classdict__" : Str)) = false := by decide) (hst : starEach [.Starred e sp_] X.env = [(true, eval e X.env)] := by rfl) :
    PE X (.Call (.Name x p) [.Starred e sp_] [] pos) (tCallVX K i wsp E te) := hK ▸ pe_callVX W hr hx hN hv he hd hcd hst
end L2
set_option maxHeartbeats 1000000
namespace Tr
open PySem PySem.Spec PyProof.Rows L2
/-- an expression that gives v and changes nothing -/
def PuV (te : TE) (σ : L2.St) (v : V) : Prop := ∀ H Q, Q v H → te σ H Q
def PuS (ta : TA) (σ : L2.St) (zs : List V) : Prop := ∀ H Q, Q zs H → ta σ H Q
section
variable {σ : L2.St} {te te' : TE} {ta : TA} {v : V} {z z' : Str} {vs : List V} {i : Nat}
theorem qv_var (h : σ[i]? = some (some v)) : PuV (tVar i) σ v := fun H Q q => ⟨_, h, q⟩
theorem qv_c : PuV (tC v) σ v := fun H Q q => q
theorem qv_add (h : PuV te σ (.str z)) (h' : PuV te' σ (.str z')) (hl : z.length + z'.length ≤ 100000) : PuV (tOp rAddU te te') σ (.str (z ++ z')) := fun H Q q => h H _ (h' H _ ⟨sz_le hl, q⟩)
theorem qs_nil : PuS tNil σ [] := fun H Q q => q
theorem qs_cons (h : PuV te σ v) (h' : PuS ta σ vs) : PuS (tCons te ta) σ (v :: vs) := fun H Q q => h H _ (h' H _ q)
theorem qs_go {H : Hp} {Q : List V → Hp → Prop} (h : PuS ta σ vs) (q : Q vs H) : ta σ H Q := h H Q q
theorem qv_go {H : Hp} {Q : VK} (h : PuV te σ v) (q : Q v H) : te σ H Q := h H Q q
end
/-- an item of a tuple: a value, or a list of texts -/
inductive El where
  | v (x : V)
  | ls (zs : List Str)
def ElAt (H0 H : Hp) (x : V) : El → Prop
  | .v y => x = y
  | .ls zs => ∃ l, x = .ref l ∧ H l = some (.lst (zs.map V.str)) ∧ H0 l = none
def ElsAt (H0 H : Hp) : List V → List El → Prop
  | [], [] => True
  | x :: xs, e :: es => ElAt H0 H x e ∧ ElsAt H0 H xs es
  | _, _ => False
theorem ElAt.fr {H0 H H' : Hp} {x : V} {S : List Addr} (f : ∀ x o, H x = some o → x ∉ S → H' x = some o) (hS : ∀ x ∈ S, H0 x ≠ none) : ∀ {e : El}, ElAt H0 H x e → ElAt H0 H' x e
  | .v _, h => h
  | .ls _, ⟨l, e, h1, h2⟩ => ⟨l, e, f _ _ h1 fun q => hS l q h2, h2⟩
theorem ElsAt.fr {H0 H H' : Hp} {S : List Addr} (f : ∀ x o, H x = some o → x ∉ S → H' x = some o) (hS : ∀ x ∈ S, H0 x ≠ none) : ∀ {xs : List V} {es : List El}, ElsAt H0 H xs es → ElsAt H0 H' xs es
  | [], [], _ => trivial
  | _ :: _, _ :: _, ⟨h1, h2⟩ => ⟨ElAt.fr f hS h1, ElsAt.fr f hS h2⟩
  | [], _ :: _, h => h.elim
  | _ :: _, [], h => h.elim
theorem ElAt.free {H1 H0 H : Hp} {x : V} (s : Same H1 H0) : ∀ {e : El}, ElAt H0 H x e → ElAt H1 H x e
  | .v _, h => h
  | .ls _, ⟨l, e, h1, h2⟩ => ⟨l, e, h1, s.free h2⟩
theorem ElsAt.free {H1 H0 H : Hp} (s : Same H1 H0) : ∀ {xs : List V} {es : List El}, ElsAt H0 H xs es → ElsAt H1 H xs es
  | [], [], _ => trivial
  | _ :: _, _ :: _, ⟨h1, h2⟩ => ⟨ElAt.free s h1, ElsAt.free s h2⟩
  | [], _ :: _, h => h.elim
  | _ :: _, [], h => h.elim
theorem ElsAt.len {H0 H : Hp} : ∀ {xs : List V} {es : List El}, ElsAt H0 H xs es → xs.length = es.length
  | [], [], _ => rfl
  | _ :: _, _ :: _, ⟨_, h2⟩ => by rw [List.length_cons, List.length_cons, ElsAt.len h2]
  | [], _ :: _, h => h.elim
  | _ :: _, [], h => h.elim
/-- the items of one tuple -/
def PuT (ta : TA) (σ : L2.St) (es : List El) : Prop := ∀ H Q, (∀ us H', Same H H' → ElsAt H H' us es → Q us H') → ta σ H Q
section
variable {σ : L2.St} {te : TE} {ta tr : TA} {v : V} {zs : List Str} {es : List El}
theorem pt_nil : PuT tNil σ [] := fun H Q q => q [] H (Same.refl _) trivial
theorem pt_v (h : PuV te σ v) (hr : PuT tr σ es) : PuT (tCons te tr) σ (.v v :: es) := fun H Q q => s_cons (h H _ (hr H _ fun us H' s e => q _ H' s ⟨rfl, e⟩))
theorem pt_ls (h : PuS ta σ (zs.map V.str)) (hl : zs.length ≤ 1000) (hr : PuT tr σ es) : PuT (tCons (tLst ta) tr) σ (.ls zs :: es) := by
  intro H Q q
  refine s_cons (s_lst (h H _ ?_))
  refine ⟨sz_le (by rw [List.length_map]; omega), fun l nl => ?_⟩
  refine hr _ _ fun us H' s' he => ?_
  have s1 : Same H (upd H l (.lst (zs.map V.str))) := Same.new nl
  exact q _ H' (s1.trans s') ⟨⟨l, rfl, s' _ _ upd_same, nl⟩, he.free s1⟩
end
/-- a list of tuples -/
def RowsAt (H0 H : Hp) (us : List V) (rows : List (List El)) : Prop := us.length = rows.length ∧ ∀ (i : Nat) (x : V) (es : List El), us[i]? = some x → rows[i]? = some es → ∃ t vs, x = .ref t ∧ H t = some (.tup vs) ∧ H0 t = none ∧ ElsAt H0 H vs es
theorem RowsAt.fr {H0 H H' : Hp} {us : List V} {rows : List (List El)} {S : List Addr} (h : RowsAt H0 H us rows) (f : ∀ x o, H x = some o → x ∉ S → H' x = some o) (hS : ∀ x ∈ S, H0 x ≠ none) : RowsAt H0 H' us rows :=
  ⟨h.1, fun i x es hx hp => by
    obtain ⟨t, vs, e, h1, h2, h3⟩ := h.2 i x es hx hp
    exact ⟨t, vs, e, f _ _ h1 fun q => hS t q h2, h2, h3.fr f hS⟩⟩
theorem RowsAt.same {H0 H H' : Hp} {us : List V} {rows : List (List El)} (h : RowsAt H0 H us rows) (s : Same H H') : RowsAt H0 H' us rows := h.fr (S := []) (fun x o hx _ => s _ _ hx) (fun x hx => by cases hx)
def PuR (ta : TA) (σ : L2.St) (rows : List (List El)) : Prop := ∀ H Q, (∀ us H', Same H H' → RowsAt H H' us rows → Q us H') → ta σ H Q
section
variable {σ : L2.St} {ta tr : TA} {es : List El} {rows : List (List El)}
theorem pr_nil : PuR tNil σ [] := fun H Q q => q [] H (Same.refl _) ⟨rfl, fun i x p h => by simp at h⟩
theorem pr_cons (h : PuT ta σ es) (hl : es.length ≤ 1000) (hr : PuR tr σ rows) : PuR (tCons (tTup ta) tr) σ (es :: rows) := by
  intro H Q q
  refine s_cons (s_tup (h H _ fun vs H1 s1 he => ?_))
  refine ⟨sz_le (by rw [he.len]; omega), fun t nt => ?_⟩
  have s2 : Same H1 (upd H1 t (.tup vs)) := Same.new nt
  refine hr _ _ fun us H' s' hp => ?_
  refine q _ H' ((s1.trans s2).trans s') ⟨by rw [List.length_cons, List.length_cons, hp.1], fun i x es' hx hpp => ?_⟩
  cases i with
  | zero =>
    cases hx
    cases hpp
    exact ⟨t, vs, rfl, s' _ _ upd_same, s1.free nt, he.fr (S := []) (fun x o hx _ => s' _ _ (s2 _ _ hx)) (fun x hx => by cases hx)⟩
  | succ i =>
    obtain ⟨t', vs', e, h1, h2, h3⟩ := hp.2 i x es' hx hpp
    exact ⟨t', vs', e, h1, (s1.trans s2).free h2, h3.free (s1.trans s2)⟩
theorem pr_go {H : Hp} {Q : List V → Hp → Prop} (h : PuR ta σ rows) (q : ∀ us H', Same H H' → RowsAt H H' us rows → Q us H') : ta σ H Q := h H Q q
end
end Tr
set_option maxHeartbeats 2000000
namespace L2
open PySem PySem.Spec PyProof.Rows
/-- what raises nothing -/
theorem FnOk.calm {P : Program} {w : World} {K : PySem.W.Frag} {mg : Str → Option Value} {base : Heap} {k : Nat} {f : Addr} {fd : FuncData} {ps : List Str} {sp : Sp} (F : FnOk P w K mg base (L2.CX P w) k f fd ps sp) : FnOk P w K mg base CX0 k f fd ps (fun vs H Q _ => sp vs H Q E0) :=
  ⟨fun vs H Q E q => F.len vs H Q E0 q, fun A outer s H args us vs Q E hr he hb hv hs => codeAny_mono (F.run A outer s H args us vs Q E0 hr he hb hv hs) fun r s' hq => by
    match r, hq with
    | .error e, hq =>
      obtain ⟨_, _, _, _, _, _, _, _, _, _, _, _, f⟩ := hq
      exact f.elim
    | .ok fl, hq => cases fl <;> exact hq⟩
theorem FnR.calm {P : Program} {w : World} {K : PySem.W.Frag} {mg : Str → Option Value} {base : Heap} {k : Nat} {f : Addr} {sp : Sp} (F : FnR P w K mg base (L2.CX P w) k f sp) : FnR P w K mg base CX0 k f (fun vs H Q _ => sp vs H Q E0) :=
  fun A outer s H us vs Q E hr e0 r hs => codeAny_mono (F A outer s H us vs Q E0 hr e0 r hs) fun r s' hq => by
    match r, hq with
    | .error e, hq =>
      obtain ⟨_, _, _, _, _, _, _, _, _, _, _, _, f⟩ := hq
      exact f.elim
    | .ok fl, hq => cases fl <;> exact hq
/-- works that raise nothing -/
theorem WOkX.of {P : Program} {w : World} {K : PySem.W.Frag} {mg : Str → Option Value} {base : Heap} {k : Nat} {wsp : Addr → Hp → VK → Prop} (W : WOk P w K mg base k wsp) : WOkX P w K mg base k (fun f H Q _ => wsp f H Q) :=
  ⟨fun g H Q _ h => W.fn g H Q h, fun A outer s H g Q E hr e0 h => codeAny_mono (W.run A outer s H g Q hr e0 h) fun r s' hq => by
    match r, hq with
    | .error e, hq => exact hq.elim
    | .ok fl, hq => cases fl <;> exact hq⟩
theorem WOkX.imp {P : Program} {w : World} {K : PySem.W.Frag} {mg : Str → Option Value} {base : Heap} {k : Nat} {wsp wsp' : Addr → Hp → VK → XK → Prop} (W : WOkX P w K mg base k wsp) (h : ∀ f H Q E, wsp' f H Q E → wsp f H Q E) : WOkX P w K mg base k wsp' :=
  ⟨fun g H Q E q => W.fn g H Q E (h _ _ _ _ q), fun A outer s H g Q E hr e0 q => W.run A outer s H g Q E hr e0 (h _ _ _ _ q)⟩
end L2
namespace Tr
open PySem L2 LamX NdefX
/-- all but what stands at S stays -/
def Fr (H H' : Hp) (S : List Addr) : Prop := ∀ x o, H x = some o → x ∉ S → H' x = some o
theorem Fr.same {H H' : Hp} {S : List Addr} (s : Same H H') : Fr H H' S := fun x o h _ => s _ _ h
theorem Fr.tr {H H1 H2 : Hp} {S : List Addr} (f : Fr H H1 S) (g : Fr H1 H2 S) : Fr H H2 S := fun x o h hx => g _ _ (f _ _ h hx) hx
section
variable {ω Λ α β : Type}
variable {a : Nat → Addr} {Y : LawP ω Λ} {g g1 g' : Gh} {H H1 H' : Hp} {st s : SW ω Λ} {c c' : Cn} {S S' : DS ω} {l l' : Λ}
/-- what is of no concern changes -/
theorem Wld.fr {L : List Addr} (w : Wld a Y g st H) (f : Fr H H' L) (hL : ∀ x ∈ L, Out g x ∧ ∀ o, H x = some o → ¬ Imm o) : Wld a Y g st H' := by
  obtain ⟨c, w⟩ := w
  have im' : ∀ y u, H y = some u → Imm u → H' y = some u := fun y u e i => f y u e fun z => (hL y z).2 u e i
  have ot : ∀ y u, H y = some u → (∀ x ∈ L, y ≠ x) → H' y = some u := fun y u e n => f y u e fun z => n y z rfl
  have ws : WStep g H g H' := ⟨rfl, fun _ _ h => h, fun _ h => h, im', fun y u e p => ot y u e fun x hx z => (hL x hx).1.p (z ▸ p)⟩
  exact ⟨c, fun s y u e => ot y u (w.sl s y u e) (fun x hx z => (hL x hx).1.t (z ▸ w.inT s y u e)), w.inj, w.inT, ot _ _ w.frl (fun x hx z => (hL x hx).1.p (z ▸ w.frP)), w.frP, fun y p => ⟨(w.pp y p).1.imp fun u e => ⟨ot y u e.1 fun x hx z => (hL x hx).1.p (z ▸ p), e.2⟩, (w.pp y p).2⟩, w.vr.stay fun y l e => im' y _ e trivial, w.ok,
    Y.la_st w.la ws (fun y u e q => ot y u e fun x hx z => (hL x hx).1.l (z ▸ q)) rfl, fun y q => (w.lo y q).imp fun u e => ⟨ot y u e.1 fun x hx z => (hL x hx).1.l (z ▸ q), e.2⟩, w.dj, fun y q => (w.mu y q).imp fun u e => ⟨ot y u e.1 fun x hx z => (hL x hx).1.t (z ▸ q), e.2⟩, fun n t k f h1 h2 h3 => Y.cl_st (w.cl n t k f h1 h2 h3) ws⟩
/-- tables grow -/
theorem Wld.extL (w : Wld a Y g st H) (f : ExtN H H') (hL : ∀ y ps, H y = some (.tbl ps) → g.L y → ∃ ps', H' y = some (.tbl ps')) (la : Y.LA st.2 g H') : Wld a Y g st H' := by
  obtain ⟨c, w⟩ := w
  have mt : ∀ {o : HO}, Mut o → ∀ ps, o ≠ .tbl ps := fun m ps z => by rw [z] at m; exact m
  have im' : ∀ y u, H y = some u → Imm u → H' y = some u := fun y u e i => f y u e fun ps z => by rw [z] at i; exact i
  have ws : WStep g H g H' := ⟨rfl, fun _ _ h => h, fun _ h => h, im', fun y u e p => by
    obtain ⟨⟨o, e', n⟩, _⟩ := w.pp y p
    rw [e] at e'
    cases e'
    exact f y u e n⟩
  refine ⟨c, fun s y u e => ?_, w.inj, w.inT, f _ _ w.frl (by intros; simp), w.frP, fun y p => ⟨(w.pp y p).1.imp fun u e => ⟨f y u e.1 e.2, e.2⟩, (w.pp y p).2⟩, w.vr.stay fun y l e => im' y _ e trivial, w.ok,
    la, fun y q => ?_, w.dj, fun y q => (w.mu y q).imp fun u e => ⟨f y u e.1 (mt e.2), e.2⟩, fun n t k f h1 h2 h3 => Y.cl_st (w.cl n t k f h1 h2 h3) ws⟩
  · obtain ⟨o, e', m⟩ := w.mu y (w.inT s y u e)
    have e2 := w.sl s y u e
    rw [e2] at e'
    cases e'
    exact f y u e2 (mt m)
  · obtain ⟨o, e', m⟩ := w.lo y q
    by_cases h : ∃ ps, o = .tbl ps
    · obtain ⟨ps, rfl⟩ := h
      obtain ⟨ps', z⟩ := hL y ps e' q
      exact ⟨_, z, trivial⟩
    · exact ⟨o, f y o e' fun ps z => h ⟨ps, z⟩, m⟩
theorem Wld.extN (w : Wld a Y g st H) (f : ExtN H H') (hL : ∀ y ps, g.L y → H y ≠ some (.tbl ps)) : Wld a Y g st H' := by
  refine w.extL f (fun y ps e q => (hL y ps q e).elim) ?_
  obtain ⟨c, w⟩ := w
  refine Y.la_st w.la ⟨rfl, fun _ _ h => h, fun _ h => h, fun y u e i => f y u e fun ps z => by rw [z] at i; exact i, fun y u e p => ?_⟩ (fun y u e q => f y u e fun ps z => hL y ps q (by rw [← z]; exact e)) rfl
  obtain ⟨⟨o, e', n⟩, _⟩ := w.pp y p
  rw [e] at e'
  cases e'
  exact f y u e n
def Gh.pinA (g : Gh) (A : Addr → Prop) : Gh := { g with P := fun y => g.P y ∨ A y }
theorem slot_pinA {A : Addr → Prop} {S : DS ω} (s : Sl) : slot a (g.pinA A) S c s = slot a g S c s := by cases s <;> rfl
theorem SOk.pinA {A : Addr → Prop} (h : SOk g S) : SOk (g.pinA A) S := ⟨h.cel, h.rdi, h.rdc, h.rdk, h.efi, h.nam, h.adr, h.wad, h.fre, h.frn, h.fl, h.ndc, h.ndr, h.b1, h.b2, h.b3, h.b4, h.b5, h.b6, h.b7, h.b8⟩
/-- what is leant on from now on -/
theorem Wld.pinA {A : Addr → Prop} (w : Wld a Y g (S, l) H) (hA : ∀ x, A x → (∃ o, H x = some o ∧ ∀ ps, o ≠ .tbl ps) ∧ ¬ g.T x ∧ ¬ g.L x) : Wld a Y (g.pinA A) (S, l) H := by
  obtain ⟨c, w⟩ := w
  have ws : WStep g H (g.pinA A) H := ⟨rfl, fun _ _ h => h, fun _ h => .inl h, fun _ _ h _ => h, fun _ _ h _ => h⟩
  exact ⟨c, fun s y u e => w.sl s y u (by rw [← slot_pinA (A := A)]; exact e), fun s s' y u u' e e' => w.inj s s' y u u' (by rw [← slot_pinA (A := A)]; exact e) (by rw [← slot_pinA (A := A)]; exact e'), fun s y u e => w.inT s y u (by rw [← slot_pinA (A := A)]; exact e), w.frl, .inl w.frP,
    fun y p => p.elim (w.pp y) (hA y), w.vr, SOk.pinA w.ok, Y.la_st w.la ws (fun _ _ h _ => h) rfl, w.lo, w.dj, w.mu, fun n t k f h1 h2 h3 => Y.cl_st (w.cl n t k f h1 h2 h3) ws⟩
/-- what the law's works change is told anew -/
def Gh.lawL (g : Gh) (L : Addr → Prop) : Gh := { g with L := L }
theorem slot_lawL {L : Addr → Prop} {S : DS ω} (s : Sl) : slot a (g.lawL L) S c s = slot a g S c s := by cases s <;> rfl
theorem SOk.lawL {L : Addr → Prop} (h : SOk g S) : SOk (g.lawL L) S := ⟨h.cel, h.rdi, h.rdc, h.rdk, h.efi, h.nam, h.adr, h.wad, h.fre, h.frn, h.fl, h.ndc, h.ndr, h.b1, h.b2, h.b3, h.b4, h.b5, h.b6, h.b7, h.b8⟩
theorem Wld.law {L : Addr → Prop} (w : Wld a Y g (S, l) H) (ws : WStep g H g H') (st' : ∀ x o, H x = some o → (g.T x ∨ x = x) → ¬ g.L x → ¬ L x → H' x = some o) (hL : ∀ x, L x → (∃ o, H' x = some o ∧ MutL o) ∧ ¬ g.T x ∧ ¬ g.P x) (hT : ∀ x, g.T x → ¬ L x) (la : Y.LA l' (g.lawL L) H') : Wld a Y (g.lawL L) (S, l') H' := by
  obtain ⟨c, w⟩ := w
  have ws2 : WStep g H (g.lawL L) H' := ⟨rfl, fun _ _ h => h, fun _ h => h, ws.im, ws.pi⟩
  have keep : ∀ x o, H x = some o → g.T x → H' x = some o := fun x o e t => st' x o e (.inl t) (w.dj x t) (hT x t)
  have wsI : ∀ x xs, H x = some (.tup xs) → H' x = some (.tup xs) := fun x xs e => ws.im x _ e trivial
  exact ⟨c, fun s y u e => keep y u (w.sl s y u (by rw [← slot_lawL (L := L)]; exact e)) (w.inT s y u (by rw [← slot_lawL (L := L)]; exact e)), fun s s' y u u' e e' => w.inj s s' y u u' (by rw [← slot_lawL (L := L)]; exact e) (by rw [← slot_lawL (L := L)]; exact e'), fun s y u e => w.inT s y u (by rw [← slot_lawL (L := L)]; exact e), ws.pi _ _ w.frl w.frP, w.frP,
    fun y p => by
      obtain ⟨⟨o, e, n⟩, h1, _⟩ := w.pp y p
      exact ⟨⟨o, ws.pi y o e p, n⟩, h1, fun z => (hL y z).2.2 p⟩, w.vr.stay wsI, SOk.lawL w.ok, la, fun x h => (hL x h).1, fun x t => hT x t, fun x t => (w.mu x t).imp fun o e => ⟨keep x o e.1 t, e.2⟩, fun n t k f h1 h2 h3 => Y.cl_st (w.cl n t k f h1 h2 h3) ws2⟩
end
end Tr
set_option maxHeartbeats 2000000
namespace L2
open PySem PySem.Spec PyProof.Rows NdefX LamX
open Classical in
/-- the lent cells that a function captured -/
noncomputable def osR (cl : List (Str × Addr)) (os : Addr → Option Obj) : Addr → Option Obj := fun c => if (∃ y, cl.lookup y = some c) then os c else none
theorem osR_some {cl : List (Str × Addr)} {os : Addr → Option Obj} {c : Addr} {o : Obj} (h : osR cl os c = some o) : (∃ y, cl.lookup y = some c) ∧ os c = some o := by
  unfold osR at h
  split at h
  · exact ⟨by assumption, h⟩
  · cases h
theorem osR_at {cl : List (Str × Addr)} {os : Addr → Option Obj} {c : Addr} {y : Str} (h : cl.lookup y = some c) : osR cl os c = os c := if_pos ⟨y, h⟩
theorem cells_nd : ∀ (names : List (Str × NameKind)) (n : Nat) (acc : List (Str × Addr)), (acc.map (·.2)).Nodup → (∀ p ∈ acc, p.2 < n) → ((cellsFrom n names acc).map (·.2)).Nodup
  | [], _, _, h, _ => h
  | (x, k) :: r, n, acc, h, hl => by
    unfold cellsFrom
    split
    · refine cells_nd r (n + 1) _ ?_ fun p hp => ?_
      · rw [List.map_cons, List.nodup_cons]
        refine ⟨fun z => ?_, h⟩
        obtain ⟨p, hp, e⟩ := List.mem_map.mp z
        have := hl p hp
        rw [show p.2 = n from e] at this
        exact Nat.lt_irrefl _ this
      · rcases List.mem_cons.mp hp with rfl | hp
        · exact Nat.lt_succ_self _
        · exact Nat.lt_succ_of_lt (hl p hp)
    · exact cells_nd r n acc h hl
theorem nd_eq {α : Type} : ∀ {l : List (α × Addr)} {x y : α} {c : Addr}, (l.map (·.2)).Nodup → (x, c) ∈ l → (y, c) ∈ l → x = y
  | [], _, _, _, _, h, _ => by cases h
  | p :: l, x, y, c, nd, h1, h2 => by
    rw [List.map_cons, List.nodup_cons] at nd
    rcases List.mem_cons.mp h1 with e1 | m1
    · rcases List.mem_cons.mp h2 with e2 | m2
      · rw [← e1] at e2; exact (Prod.mk.inj e2).1.symm
      · exact absurd (List.mem_map.mpr ⟨_, m2, by rw [← e1]⟩) nd.1
    · rcases List.mem_cons.mp h2 with e2 | m2
      · exact absurd (List.mem_map.mpr ⟨_, m1, by rw [← e2]⟩) nd.1
      · exact nd_eq nd.2 m1 m2
section
variable {X : Cx} {σ : St} {os : Addr → Option Obj} {H : Hp} {N fr : List Str} {ws : List V} {scope : Scope} {L : Nat}
theorem CellsF.of_lent (S : NScope N [] fr scope) (hcells : X.env.cells = cellsFrom (L + 1) X.env.scope.names []) (hk : ∀ y ∈ fr, X.env.scope.names.lookup y = some .cell) (lo : LentO X σ os) (len : ws.length = fr.length)
    (hv : ∀ (i : Nat) (y : Str) (v : V), fr[i]? = some y → ws[i]? = some v → ∃ j : Nat, X.N[j]? = some y ∧ σ[j]? = some (some v)) : CellsF (cloFrom X.env.cells scope.names []) fr ws (osR (cloFrom X.env.cells scope.names []) os) (lendH os H) := by
  have has : ∀ y ∈ fr, ∃ c, X.env.cells.lookup y = some c := fun y hy => by rw [hcells]; exact cell_has (hk y hy)
  have sub : ∀ {y : Str} {c : Addr}, (cloFrom X.env.cells scope.names []).lookup y = some c → y ∈ fr ∧ X.env.cells.lookup y = some c := fun {y c} h => by
    rcases cloFrom_mem (PySem.mem_of_lookup h) with z | ⟨h1, h2⟩
    · cases z
    · have hy := S.free _ h1 rfl
      obtain ⟨c1, hc⟩ := has y hy
      rw [hc] at h2
      rw [h2]
      exact ⟨hy, hc⟩
  have look : ∀ {y : Str}, y ∈ fr → ∃ c, (cloFrom X.env.cells scope.names []).lookup y = some c := fun {y} hy =>
    mem_lookup (cloFrom_has (cells := X.env.cells) (acc := []) (PySem.mem_of_lookup (S.frk y hy)))
  have inj : ∀ x y c, X.env.cells.lookup x = some c → X.env.cells.lookup y = some c → x = y := fun x y c h1 h2 => by
    rw [hcells] at h1 h2
    exact nd_eq (cells_nd _ _ _ (by simp) (fun p hp => by cases hp)) (PySem.mem_of_lookup h1) (PySem.mem_of_lookup h2)
  have dat : ∀ {y : Str} {c : Addr}, y ∈ fr → X.env.cells.lookup y = some c → ∀ (i : Nat), fr[i]? = some y → ∀ v, ws[i]? = some v → ∃ o u, os c = some o ∧ o.data = .cell (some u) ∧ RelV v u := fun {y c} hy hc i hi v hw => by
    obtain ⟨j, hj, hs⟩ := hv i y v hi hw
    exact lo.val j y c v hj hs hc (.inl (hk y hy))
  refine ⟨len, fun y c h => ?_, fun c o h => ?_, fun x y c h1 h2 => inj x y c (sub h1).2 (sub h2).2, fun i y hi => ?_⟩
  · obtain ⟨o, ho⟩ := lo.all y c (sub h).2
    exact ⟨o, by rw [osR_at h]; exact ho⟩
  · obtain ⟨⟨y, hy⟩, ho⟩ := osR_some h
    obtain ⟨hyf, hc⟩ := sub hy
    refine ⟨lend_some ho, ?_, y, hy⟩
    obtain ⟨i, hi⟩ := List.mem_iff_getElem?.mp hyf
    have hl : i < ws.length := by rw [len]; exact (List.getElem?_eq_some_iff.mp hi).1
    obtain ⟨o', u, ho', hd, _⟩ := dat hyf hc i hi _ (List.getElem?_eq_getElem hl)
    rw [ho] at ho'
    cases ho'
    exact ⟨some u, hd⟩
  · have hy := List.mem_of_getElem? hi
    obtain ⟨c, hc⟩ := look hy
    refine ⟨c, hc, fun v hw => ?_⟩
    obtain ⟨o, u, ho, hd, r⟩ := dat hy (sub hc).2 i hi v hw
    exact ⟨o, u, by rw [osR_at hc]; exact ho, hd, r⟩
end
section
variable {cl : List (Str × Addr)} {fr : List Str} {ws : List V} {os : Addr → Option Obj} {H H' : Hp}
theorem CellsF.keep (C : CellsF cl fr ws os H) (f : ∀ c o, os c = some o → H c = some (frzO o) → H' c = some (frzO o)) : CellsF cl fr ws os H' :=
  ⟨C.len, C.dom, fun c o h => by
    obtain ⟨h1, h2⟩ := C.frz c o h
    exact ⟨f c o h h1, h2⟩, C.inj, C.has⟩
end
/-- a lambda's object, its code object -/
def LamO (g : Addr) (H : Hp) (qual : Str) (params : Arguments) (body : Expr) (scope : Scope) (cl : List (Str × Addr)) (c : Addr) : Prop := ∃ pm ctv : Value, H g = some (frzO (PySem.W.kla_obj "<lambda>" qual params body scope cl pm c ctv)) ∧ H c = some (CodeO c qual)
/-- .. with its cells, that are lent -/
def wspL (sp : Sp) (qual : Str) (params : Arguments) (body : Expr) (scope : Scope) (fr : List Str) : Addr → Hp → VK → Prop := fun g H Q => ∃ (ws : List V) (cl : List (Str × Addr)) (c : Addr) (os : Addr → Option Obj), LamO g H qual params body scope cl c ∧ CellsF cl fr ws os H ∧ sp ws H Q E0
section
variable {P : Program} {w : World} {K : PySem.W.Frag} {mg : Str → Option Value} {base : Heap} {N fr : List Str} {k : Nat} {params : Arguments} {body : Expr} {scope : Scope} {qual : Str} {sp : Sp} {t : TA}
theorem wok_lam (S : NScope N [] fr scope) (hbind : ∀ (cl : List (Str × Addr)) (pm : Value) (c : Addr) (ctv : Value), bindArgs (PySem.W.kla_fn "<lambda>" qual params body scope cl pm (.ref c) ctv) ⟨[], []⟩ = pure [])
    (hbody : ∀ (cl : List (Str × Addr)) (c : Addr) (f : Addr) (A : Around) (outer : List Env) (s : Shared) (H : Hp) (E : XK), Room k (A.deeper (envF ⟨"<lambda>", qual, params, [], scope, cl, c⟩ f s.heap.objs.size)) →
      OwnC (ncx CX0 P w K mg base N ⟨"<lambda>", qual, params, [], scope, cl, c⟩ f A outer s H E) → PE (ncx CX0 P w K mg base N ⟨"<lambda>", qual, params, [], scope, cl, c⟩ f A outer s H E) body (tCallLent (ncx CX0 P w K mg base N ⟨"<lambda>", qual, params, [], scope, cl, c⟩ f A outer s H E) sp t))
    (hmono : ∀ (vs : List V) (H : Hp) (Q Q' : VK), (∀ v H', Q v H' → Q' v H') → sp vs H Q E0 → sp vs H Q' E0)
    (ht : ∀ (ws : List V) (H : Hp) (Q : List V → Hp → Prop), ws.length = fr.length → Q ws H → t (startF N [] (ws.map some)) H Q) : WOk P w K mg base (k + 1) (wspL sp qual params body scope fr) := by
  refine ⟨fun g H Q ⟨ws, cl, c, os, ⟨pm, ctv, h1, h2⟩, C, q⟩ => ⟨_, _, h1, rfl, rfl⟩, fun {g H Q Q'} hq ⟨ws, cl, c, os, h, C, q⟩ => ⟨ws, cl, c, os, h, C, hmono _ _ _ _ hq q⟩, fun A outer s H g Q hr e0 ⟨ws, cl, c, os, ⟨pm, ctv, h1, h2⟩, C, q⟩ => ?_⟩
  exact lam_call (F := ⟨"<lambda>", qual, params, [], scope, cl, c⟩) (N := N) (fr := fr) (k := k) (params := params) (body := body) (t := t) S (fun pm ctv => hbind cl pm c ctv) (fun f A outer s H E hr ho => hbody cl c f A outer s H E hr ho) (fun H Q Q' h => hmono ws H Q Q' h) hr e0 h1 h2 C (fun H Q hq => ht ws H Q C.len hq) q
end
end L2
set_option maxHeartbeats 2000000
namespace L2
open PySem PySem.Spec PyProof.Rows NdefX LamX
/-- behind the last call of a frame: what the frame's end wants, no more -/
def TPost (X : Cx) (Q : VK) (u : Value) (s' : Shared) : Prop := ∃ v H', s'.os = X.s_0.os ∧ AllBare s'.gens ∧ Un X.fs X.ex X.H_0 H' X.s_0.heap s'.heap ∧ HOk X.prog X.w H' s'.heap ∧ RelV v u ∧ Q v H'
/-- an expression that ends the frame -/
structure PTail (X : Cx) (e : Expr) (t : TE) : Prop where
  run : ∀ (s : Shared) (σ : St) (H : Hp) (Q : VK), Inv X [] σ H s → t σ H Q → wpAny (model X.prog X.w) X.A (eval e X.env) (TPost X Q) X.xe s
section
variable {X : Cx} {σ : St} {H : Hp} {s s' : Shared} {Q : VK} {u : Value} {os : Addr → Option Obj}
theorem tail_join (I : Inv X [] σ H s) (hx : X.ex = []) (hf : ∀ x, X.fn x = true) (lo : LentO X σ os) (free : ∀ c o, os c = some o → H c = none) (c : CE X.stack X.prog X.w (lendH os H) s Q u s') : TPost X Q u s' := by
  obtain ⟨v, H1, ho, bare, un, hok, r, q⟩ := c
  have osn : ∀ b o, X.s_0.heap.get? b = some o → os b = none := fun b o h => by
    cases e : os b with
    | none => rfl
    | some ob =>
      obtain ⟨y, hy⟩ := lo.only b ob e
      exact absurd (Nat.lt_of_lt_of_le (Heap.lt_size h) (I.ok.cab y b (hf y) hy)) (Nat.lt_irrefl _)
  have ls := lend_same free
  have sub : ∀ b, b ∈ X.fs → b ∈ frs X.stack := fun b hb => by
    rcases I.ok.stk with e | ⟨e, e2⟩
    · rw [e]; exact hb
    · rw [e]
      unfold frs
      rw [List.filterMap_cons]
      split
      · exact hb
      · exact List.mem_cons_of_mem _ hb
  have nst : ∀ b o, X.s_0.heap.get? b = some o → b ∉ X.fs → b ∉ frs X.stack := fun b o h hb hm => by
    rcases List.mem_cons.mp (I.stkSub b hm) with z | z
    · rw [z] at h
      exact absurd (Nat.lt_of_lt_of_le (Heap.lt_size h) I.ok.above) (Nat.lt_irrefl _)
    · exact hb z
  refine ⟨v, H1, ho.trans I.os, bare, ⟨fun b o h n nf nx => ?_, fun b o h n nf nx => ?_, fun b o h n nx => ?_, fun b o h nx => ?_, fun b xs h => ?_, fun b o u h => ?_, fun b ps h => ?_⟩, hok, r, q⟩
  · have h1 := I.base.keep b o h n nf nx
    have n1 := I.base.free b o h n nx
    exact un.keep b o h1 (by rw [lend_none (osn b o h)]; exact n1) (nst b o h nf) (by simp)
  · obtain ⟨sl, h1⟩ := I.base.slot b o h n nf nx
    have n1 := I.base.free b o h n nx
    obtain ⟨sl2, h2⟩ := un.slot b _ h1 (by rw [lend_none (osn b o h)]; exact n1) (sub b nf) (by simp)
    exact ⟨sl2, h2⟩
  · obtain ⟨o1, h1⟩ := I.base.there b o h nx
    have n1 := I.base.free b o h n nx
    exact un.free b o1 h1 (by rw [lend_none (osn b o h)]; exact n1) (by simp)
  · obtain ⟨o1, h1⟩ := I.base.there b o h nx
    exact un.there b o1 h1 (by simp)
  · exact un.tups b xs (ls _ _ (I.base.tups b xs h))
  · exact un.frzs b o u (ls _ _ (I.base.frzs b o u h))
  · obtain ⟨m1, h1⟩ := I.base.tbls b ps h
    obtain ⟨m2, h2⟩ := un.tbls b _ (ls _ _ h1)
    exact ⟨m1 ++ m2, by rw [h2, Array.append_assoc]⟩
end
section
variable {X : Cx} {k : Nat} {f C : Addr} {fd : FuncData} {ps : List Str} {sp : Sp} {o e : Expr} {es : List Expr} {ta : TE} {t : TA} {m : Str} {pos apos : Pos}
def tTailM (X : Cx) (C : Addr) (m : Str) (sp : Sp) (ta : TE) (t : TA) : TE := fun σ H Q => ta σ H fun x H1 => ∃ a dx fs, x = .ref a ∧ H1 a = some (.ins C dx fs) ∧ fs.lookup m = none ∧ t σ H1 fun vs H2 => ∀ os, LentO X σ os → (∀ c o, os c = some o → H2 c = none) → sp (x :: vs) (lendH os H2) Q E0
theorem call_fnT {pins : List (Addr × Obj)} {σ : St} {H : Hp} {s : Shared} {Q : VK} {us : List Value} {vs : List V} (F : FnOk X.prog X.w X.K X.mg X.base CX0 k f fd ps sp) (hr : Room k X.A) (hb : Binds X.K fd ps []) (hf : ∀ x, X.fn x = true) (hx : X.ex = []) (I : Inv X [] σ H s) (r : Vals vs us)
    (h : ∀ os, LentO X σ os → (∀ c o, os c = some o → H c = none) → sp vs (lendH os H) Q E0) : wpAny (model X.prog X.w) X.A (call (.ref f) us) (TPost X Q) X.xe s := by
  obtain ⟨os, lo, la, e0⟩ := lend_ex I (own_cx I.ok hf)
  have hs := h os lo la.free
  have hl : (us ++ []).length = ps.length := by rw [List.append_nil, ← r.length]; exact F.len _ _ _ _ hs
  have hb' := hb s us I.kIn hl
  rw [List.append_nil] at hb'
  refine wpAny_call (codeAny_mono (F.run X.A X.stack s _ ⟨us, []⟩ us vs _ _ hr e0 hb' r hs) fun r s' hq => ?_)
  cases r with
  | error e => exact False.elim hq
  | ok fl =>
    cases fl with
    | ret u => exact tail_join I hx hf lo la.free hq
    | next => exact False.elim hq
    | brk => exact False.elim hq
    | cont => exact False.elim hq
theorem pt_methL {pl : Sem Bool} (he : PE X o ta) (c : Cls X.K C) (hm : Meth X.K C m f) (F : FnOk X.prog X.w X.K X.mg X.base CX0 k f fd ps sp) (hr : Room k X.A) (hf : ∀ x, X.fn x = true) (hx : X.ex = []) (hb : Binds X.K fd ps []) (ha : PA X (e :: es) t)
    (hst : starEach (e :: es) X.env = (false, eval e X.env) :: starEach es X.env := by rfl) (hpl : (backTo pos (starEach es X.env)).any (·.1) = false := by rfl)
    (ht : eval (.Call (.Attribute o m apos) (e :: es) [] pos) X.env = (do
      let ov ← eval o X.env
      standAt apos.atName
      let (f, first) ← holding [ov] (getMethod ov m pl)
      callWith pos f first (backTo pos (starEach (e :: es) X.env)) (backToKw pos (keywordEach [] X.env))) := by rfl) :
    PTail X (.Call (.Attribute o m apos) (e :: es) [] pos) (tTailM X C m sp ta t) := by
  refine ⟨fun s σ H Q I h => ?_⟩
  refine PySem.W.methodCall_KW (pl := pl) (thn (he.run [] s σ H _ I h) fun u s1 ⟨x, H1, I1, rx, a, dx, fs, ex, ea, l, q⟩ => ?_) ht
  subst ex
  obtain rfl : u = Value.ref a := rx
  refine getmeth_ok I1 ea c hm l ?_
  refine PySem.W.callWith_K (first := [.ref a]) (h₀ := X.base) I.ok.mod.kin hm.kp (thn (ha.run pos [] s1 σ H1 _ I1 q) fun us s2 ⟨vs, H2, I2, r, q2⟩ => ⟨I2.kIn, ?_⟩) hst hpl
  exact call_fnT (pins := []) (us := .ref a :: us) (vs := .ref a :: vs) F hr hb hf hx I2 (.cons rfl r) q2
end
section
variable {P : Program} {w : World} {K : PySem.W.Frag} {mg : Str → Option Value} {base : Heap}
/-- a def whose body is one return -/
theorem FunT.okL {x qual : Str} {st : Stmt} {f c : Addr} {fd : FuncData} {N ps : List Str} {k : Nat} {sp : Sp} {e : Expr} {pos : Pos} (F : FunT K x qual st f fd c) (S : FnScope N ps (defScope st)) (hbd : defBody st = [.Return (some e) pos]) (len : ∀ vs H Q E, sp vs H Q E → vs.length = ps.length)
    (hbody : ∀ (A : Around) (outer : List Env) (s : Shared) (H : Hp) (vs : List V) (Q : VK) (E : XK), Room k (A.deeper (envOfC qual (defScope st) s.heap.objs.size f (.ref c))) → sp vs H Q E →
      ∃ t, PTail (cxOf CX0 P w K mg base N qual (defScope st) f (.ref c) A outer s H E) e t ∧ t (start N vs) H Q) : FnOk P w K mg base CX0 (k + 1) f fd ps sp := by
  obtain ⟨oc, od, kV, doc, pm, an, ct, osl, rfl, lk, hcd⟩ := F.ex
  refine ⟨len, fun A outer s H args us vs Q E hr e0 hb r hsp => ?_⟩
  have hl := len _ _ _ _ hsp
  have KX : K.In s.heap := e0.mod.kin.keeps fun b o e => (e0.bs b o e).1
  have lim : s.heap.NoLimit := e0.mod.nolimit.keeps fun b o e => (e0.bs b o e).1
  have hkind : ∀ y ∈ ps.zip us, (defScope st).names.lookup y.1 = some .local ∨ ((defScope st).names.lookup y.1 = some .cell ∧ ((cellsFrom (s.heap.objs.size + 1) (defScope st).names []).lookup y.1).isSome = true) := fun ⟨n, v⟩ hy => by
    rcases S.par n (List.of_mem_zip hy).1 with q | q
    · exact .inl q
    · exact .inr ⟨q, PySem.W.cellsFrom_some _ _ _ (.inl q)⟩
  refine codeAny_call_function hr.depth (KX _ _ lk) rfl S.co S.gen rfl (PySem.W.codeRec_of KX hcd) (hb _ _ _ _ ?_)
  refine wpAny_newFunctionEnv_cells S.kind hkind fun env he s1 x => ?_
  subst he
  refine ⟨lim.keeps x.toInCall.keep, codeAny_func ?_⟩
  obtain ⟨t, ht, hq⟩ := hbody A outer s H vs Q E (hr.deeper _) hsp
  have I : Inv (cxOf CX0 P w K mg base N qual (defScope st) f (.ref c) A outer s H E) [] (start N vs) H s1 := inv_start S hr.hd e0 hl r x
  rw [hbd]
  have h1 : wpAny (model P w) (A.deeper (envOfC qual (defScope st) s.heap.objs.size f (.ref c))) (execs [.Return (some e) pos] (envOfC qual (defScope st) s.heap.objs.size f (.ref c)))
      (fun fl s' => match fl with | .ret u => TPost (cxOf CX0 P w K mg base N qual (defScope st) f (.ref c) A outer s H E) Q u s' | _ => False) (cxOf CX0 P w K mg base N qual (defScope st) f (.ref c) A outer s H E).xe s1 :=
    wpAny_execs_cons (wpAny_Return_some (thn (ht.run s1 (start N vs) H Q I hq) fun v s' h => h))
  refine wpAny_mono h1 (fun fl s' hs => ?_) fun e s' hs => hs
  cases fl with
  | ret u =>
    obtain ⟨v, H', os, bare, un, hok, rv, q⟩ := hs
    exact ⟨v, H', os, bare, un, hok, rv, q⟩
  | next => exact False.elim hs
  | brk => exact False.elim hs
  | cont => exact False.elim hs
end
end L2
set_option maxHeartbeats 2000000
namespace L2
open PySem PySem.Spec PyProof.Rows NdefX LamX
/-- only the table at P may grow -/
def ExtT (P : Addr) (H H' : Hp) : Prop := ∀ x ps, H x = some (.tbl ps) → ∃ more, H' x = some (.tbl (ps ++ more)) ∧ (more = #[] ∨ x = P)
theorem ExtT.of {P : Addr} {H H' : Hp} (h : ∀ x o, H x = some o → H' x = some o) : ExtT P H H' := fun x ps e => ⟨#[], by rw [Array.append_empty]; exact h _ _ e, .inl rfl⟩
section
variable {X : Cx} {pins : List (Addr × Obj)} {σ : L2.St} {H : Hp} {s : Shared}
theorem lam_makeW {T : List (Addr × Str)} {c P : Addr} {params : Arguments} {body : Expr} {scope : Scope} {pos : Pos} {E : Value → Shared → Prop} {Q : Value → Shared → Prop} (I : Inv X pins σ H s) (TB : TabB X.base X.mg c P) (hcode : X.env.code = .ref c)
    (hm : (P, X.env.qual ++ "<lambda>") ∈ T) (hu : ∀ p ∈ T, p.1 = P → p.2 = X.env.qual ++ "<lambda>") (hT : Tabs T H) (hdef : defaultsOf params X.env = ([], [])) (hfree : ∀ y ∈ scope.names, y.2 = .free → ∃ c, X.env.cells.lookup y.1 = some c)
    (h : ∀ (f c' : Addr) (pm ctv : Value) (H1 : Hp) (s' : Shared), Inv X pins σ H1 s' → ExtN H H1 → ExtT P H H1 → (∀ b, H1 b = Option.none → H b = Option.none) → Tabs T H1 → H f = none →
      H1 f = some (frzO (PySem.W.kla_obj "<lambda>" (X.env.qual ++ "<lambda>") params body scope (cloFrom X.env.cells scope.names []) pm c' ctv)) → H1 c' = some (CodeO c' (X.env.qual ++ "<lambda>")) → Q (.ref f) s') :
    wpAny (model X.prog X.w) X.A (eval (.Lambda params body scope pos) X.env) Q E s := by
  obtain ⟨ps, hP, ht, ha⟩ := hT _ hm
  refine PySem.W.kla_eval hdef ?_
  have bP : s.heap.BuiltinsAt X.mg P := TB.bm.keeps I.bk
  have hP' : s.heap.get? P = some { cls := .none, data := .fields ps } := I.hok P _ hP
  cases hc : codeAmong pos ps.toList with
  | none =>
    refine PySem.W.kla_makeFunction (mg := X.mg) (c := c) (P := P) (ps := ps) (closure_ok hfree) I.ok.glob (I.mod.glob.keeps I.bk) hcode (TB.code.keeps I.bk) hP' ht hc TB.gP bP fun c' ctv h' tk hx hge hlt hrec htb => ?_
    obtain ⟨c2, oc, vs, t, e2, hoc, hd, hv⟩ := hrec
    cases e2
    have nC : H c' = none := I.hok.fresh hge
    have I1 := inv_table (t' := tk) (more := #[rawInt pos.line, rawInt pos.col, .ref c']) (h' := h') I hP (fun b o hb e => hx b o hb e) htb hge ⟨oc, vs, t, hoc, hd, hv⟩
    have hE : ExtN H (upd (upd H P (.tbl (ps ++ #[rawInt pos.line, rawInt pos.col, .ref c']))) c' (CodeO c' (X.env.qual ++ "<lambda>"))) := fun b o e n => by
      rw [upd_ne (ne_of_none e nC), upd_ne (fun z => n ps (Option.some.inj (e.symm.trans (by rw [z]; exact hP))))]
      exact e
    have eL : (ps ++ #[rawInt pos.line, rawInt pos.col, .ref c']).toList = ps.toList ++ [rawInt pos.line, rawInt pos.col, .ref c'] := by simp
    have T1 : Tabs T (upd (upd H P (.tbl (ps ++ #[rawInt pos.line, rawInt pos.col, .ref c']))) c' (CodeO c' (X.env.qual ++ "<lambda>"))) := fun p hp => by
      by_cases hb : p.1 = P
      · rw [hu p hp hb, hb]
        refine ⟨_, by rw [upd_ne (ne_of_none hP nC), upd_same], by rw [eL]; exact PySem.TriplesOk_snoc _ _ _ _ ht, fun p' cv hcv => ?_⟩
        rw [eL] at hcv
        rcases among_app _ ht hcv with z | z
        · obtain ⟨c0, e1, e2⟩ := ha p' cv z
          exact ⟨c0, e1, hE _ _ e2 codeO_ne⟩
        · exact ⟨c', z, upd_same⟩
      · obtain ⟨ps', a1, a2, a3⟩ := hT p hp
        refine ⟨ps', by rw [upd_ne (ne_of_none a1 nC), upd_ne hb]; exact a1, a2, fun p' cv hcv => ?_⟩
        obtain ⟨c0, e1, e2⟩ := a3 p' cv hcv
        exact ⟨c0, e1, hE _ _ e2 codeO_ne⟩
    have X1 : ExtT P H (upd (upd H P (.tbl (ps ++ #[rawInt pos.line, rawInt pos.col, .ref c']))) c' (CodeO c' (X.env.qual ++ "<lambda>"))) := fun x qs e => by
      by_cases hb : x = P
      · rw [hb] at e
        rw [hP] at e
        cases e
        exact ⟨_, by rw [hb, upd_ne (ne_of_none hP nC), upd_same], .inr hb⟩
      · exact ⟨#[], by rw [upd_ne (ne_of_none e nC), upd_ne hb, Array.append_empty]; exact e, .inl rfl⟩
    have nF := I1.hok.fresh (Nat.le_refl _)
    have I2 := inv_frz (t' := tk) (o := PySem.W.kla_obj "<lambda>" (X.env.qual ++ "<lambda>") params body scope (cloFrom X.env.cells scope.names []) ((X.mg "__name__").getD .none) c' ctv) I1
    refine h h'.objs.size c' _ ctv _ _ I2 (fun b o e n => ?_) (fun x qs e => ?_) (fun b e => upd_none (upd_none (upd_none e))) (T1.ext fun b o e => ?_) (I.hok.fresh (Nat.le_trans hge (Nat.le_of_lt hlt))) upd_same ?_
    · have e1 := hE b o e n
      exact (upd_ne (ne_of_none e1 nF)).trans e1
    · obtain ⟨m, e1, e2⟩ := X1 x qs e
      exact ⟨m, (upd_ne (ne_of_none e1 nF)).trans e1, e2⟩
    · exact (upd_ne (ne_of_none e nF)).trans e
    · exact (upd_ne (Nat.ne_of_lt hlt)).trans upd_same
  | some cv =>
    obtain ⟨c', e, hco⟩ := ha pos cv hc
    subst e
    refine PySem.W.kla_makeFunctionHit (mg := X.mg) (c := c) (P := P) (ps := ps) (closure_ok hfree) I.ok.glob (I.mod.glob.keeps I.bk) hcode (TB.code.keeps I.bk) hP' ht hc bP fun ctv h' tk hx hsz => ?_
    have I1 : Inv X pins σ H { s with heap := h', toks := tk } := I.kept hx
    have nF : H h'.objs.size = none := I1.hok.fresh (Nat.le_refl _)
    have I2 := inv_frz (t' := tk) (o := PySem.W.kla_obj "<lambda>" (X.env.qual ++ "<lambda>") params body scope (cloFrom X.env.cells scope.names []) ((X.mg "__name__").getD .none) c' ctv) I1
    refine h h'.objs.size c' _ ctv _ _ I2 (fun b o e n => ?_) (ExtT.of fun b o e => ?_) (fun b e => upd_none e) (hT.ext fun b o e => ?_) nF upd_same ?_
    · exact (upd_ne (ne_of_none e nF)).trans e
    · exact (upd_ne (ne_of_none e nF)).trans e
    · exact (upd_ne (ne_of_none e nF)).trans e
    · exact (upd_ne (ne_of_none hco nF)).trans hco
/-- a lambda as a value -/
def tLamW (X : Cx) (T : List (Addr × Str)) (P : Addr) (params : Arguments) (body : Expr) (scope : Scope) : TE := fun σ H Q => Tabs T H ∧ ∀ (f c' : Addr) (pm ctv : Value) (H1 : Hp), ExtN H H1 → ExtT P H H1 → (∀ b, H1 b = Option.none → H b = Option.none) → Tabs T H1 → H f = none →
  H1 f = some (frzO (PySem.W.kla_obj "<lambda>" (X.env.qual ++ "<lambda>") params body scope (cloFrom X.env.cells scope.names []) pm c' ctv)) → H1 c' = some (CodeO c' (X.env.qual ++ "<lambda>")) → Q (.ref f) H1
theorem pe_lamW {T : List (Addr × Str)} {c P : Addr} {params : Arguments} {body : Expr} {scope : Scope} {pos : Pos} (TB : TabB X.base X.mg c P) (hcode : X.env.code = .ref c)
    (hm : (P, X.env.qual ++ "<lambda>") ∈ T) (hu : ∀ p ∈ T, p.1 = P → p.2 = X.env.qual ++ "<lambda>") (L : LamS X.env.scope scope) (hdef : defaultsOf params X.env = ([], []) := by rfl) : PE X (.Lambda params body scope pos) (tLamW X T P params body scope) :=
  ⟨fun pins s σ H Q I h => lam_makeW I TB hcode hm hu h.1 hdef (L.has I.ok) fun f c' pm ctv H1 s' I1 e1 e2 e3 e4 e5 e6 e7 => ⟨.ref f, H1, I1, rfl, h.2 f c' pm ctv H1 e1 e2 e3 e4 e5 e6 e7⟩⟩
end
section
variable {X : Cx} {pins : List (Addr × Obj)} {σ : L2.St} {H : Hp} {s : Shared} {k : Nat} {f C : Addr} {sp : Sp} {Q : VK}
theorem call_fnRL {us : List Value} {vs : List V} (F : FnR X.prog X.w X.K X.mg X.base CX0 k f sp) (hr : Room k X.A) (hc : X.Ok → OwnC X) (I : Inv X pins σ H s) (r : Vals vs us) (h : lentS X σ sp vs H Q) :
    wpAny (model X.prog X.w) X.A (call (.ref f) us) (EP X pins σ Q) X.xe s := by
  obtain ⟨os, lo, la, e0⟩ := lend_ex I (hc I.ok)
  have hs := h os lo la.free
  refine wpAny_call (codeAny_mono (F X.A X.stack s _ us vs _ _ hr e0 r hs) fun r s' hq => ?_)
  match r, hq with
  | .error e, hq => exact hq.elim
  | .ok (.ret u), hq => exact I.after (CE.back la hq)
  | .ok .next, hq => exact hq.elim
  | .ok .brk, hq => exact hq.elim
  | .ok .cont, hq => exact hq.elim
variable {m : Str} {pos apos : Pos} {e o : Expr} {es : List Expr} {ta : TE} {t : TA}
/-- o.m(e, ..) with the cells lent, the method's promise by values -/
def tMethRL (X : Cx) (C : Addr) (m : Str) (sp : Sp) (ta : TE) (t : TA) : TE := fun σ H Q => ta σ H fun x H1 => ∃ a dx fs, x = .ref a ∧ H1 a = some (.ins C dx fs) ∧ fs.lookup m = none ∧ t σ H1 fun vs H2 => lentS X σ sp (x :: vs) H2 Q
theorem s_methRL {H : Hp} {Q : VK} (h : ta σ H fun x H1 => ∃ a dx fs, x = .ref a ∧ H1 a = some (.ins C dx fs) ∧ fs.lookup m = none ∧ t σ H1 fun vs H2 => lentS X σ sp (x :: vs) H2 Q) : tMethRL X C m sp ta t σ H Q := h
theorem pe_methRL {pl : Sem Bool} (he : PE X o ta) (c : Cls X.K C) (hm : Meth X.K C m f) (F : FnR X.prog X.w X.K X.mg X.base CX0 k f sp) (hr : Room k X.A) (hc : X.Ok → OwnC X) (ha : PA X (e :: es) t)
    (hst : starEach (e :: es) X.env = (false, eval e X.env) :: starEach es X.env := by rfl) (hpl : (backTo pos (starEach es X.env)).any (·.1) = false := by rfl)
    (ht : eval (.Call (.Attribute o m apos) (e :: es) [] pos) X.env = (do
      let ov ← eval o X.env
      standAt apos.atName
      let (f, first) ← holding [ov] (getMethod ov m pl)
      callWith pos f first (backTo pos (starEach (e :: es) X.env)) (backToKw pos (keywordEach [] X.env))) := by rfl) :
    PE X (.Call (.Attribute o m apos) (e :: es) [] pos) (tMethRL X C m sp ta t) := by
  refine ⟨fun pins s σ H Q I h => PySem.W.methodCall_KW (pl := pl) (thn (he.run pins s σ H _ I h) fun u s1 ⟨x, H1, I1, rx, a, dx, fs, ex, ea, l, q⟩ => ?_) ht⟩
  obtain rfl : u = Value.ref a := by rw [ex] at rx; exact rx
  subst ex
  refine getmeth_ok I1 ea c hm l (PySem.W.callWith_K (first := [.ref a]) (h₀ := X.base) I.ok.mod.kin hm.kp (thn (ha.run pos pins s1 σ H1 _ I1 q) fun us s2 ⟨vs, H2, I2, r, q2⟩ => ⟨I2.kIn, ?_⟩) hst hpl)
  exact call_fnRL (us := .ref a :: us) (vs := .ref a :: vs) F hr hc I2 (.cons rfl r) q2
theorem s_methL {fd : FuncData} {ps : List Str} {H : Hp} {Q : VK} (h : ta σ H fun x H1 => ∃ a dx fs, x = .ref a ∧ H1 a = some (.ins C dx fs) ∧ fs.lookup m = none ∧ t σ H1 fun vs H2 => lentS X σ sp (x :: vs) H2 Q) : tMethL X C m sp ta t σ H Q := h
end
end L2
set_option maxHeartbeats 2000000
namespace Tr
open PySem L2 LamX NdefX
section
variable {ω Λ : Type} {Y Y0 : LawP ω Λ} {a : Nat → Addr} {g g' : Gh} {st st' : SW ω Λ} {H H' H1 : Hp} {T : List (Addr × Str)}
/-- tables that works may fill are the law's -/
def TabsL (T : List (Addr × Str)) (g : Gh) (H : Hp) : Prop := (∀ p ∈ T, g.L p.1) ∧ Tabs T H
theorem TabsL.kept (h : TabsL T g H) (ws : WStep g H g' H') (keep : ∀ x o, H x = some o → g.L x → H' x = some o) (eL : g'.L = g.L) : TabsL T g' H' :=
  ⟨fun p hp => by rw [eL]; exact h.1 p hp, fun p hp => by
    obtain ⟨ps, e1, e2, e3⟩ := h.2 p hp
    refine ⟨ps, keep _ _ e1 (h.1 p hp), e2, fun pos cv hc => ?_⟩
    obtain ⟨c, q1, q2⟩ := e3 pos cv hc
    exact ⟨c, q1, ws.im _ _ q2 trivial⟩⟩
theorem TabsL.back {os : Addr → Option Obj} (h : TabsL T g H) (hf : ∀ c o, os c = some o → H c = some (frzO o)) : TabsL T g (backH os H) :=
  ⟨h.1, fun p hp => by
    obtain ⟨ps, e1, e2, e3⟩ := h.2 p hp
    refine ⟨ps, back_keep hf e1 (fun ob z => by cases z), e2, fun pos cv hc => ?_⟩
    obtain ⟨c, q1, q2⟩ := e3 pos cv hc
    exact ⟨c, q1, back_keep hf q2 (fun ob z => by cases z)⟩⟩
/-- a lambda is made -/
theorem Wld.lam {P : Addr} (W : Wld a Y g st H) (ext : ExtN H H1) (et : ExtT P H H1) (nn : ∀ b, H1 b = none → H b = none) (gP : g.L P) (la : Y.LA st.2 g H1) : Wld a Y g st H1 ∧ Step g H g H1 := by
  refine ⟨W.extL ext (fun y ps e _ => (et y ps e).elim fun m z => ⟨_, z.1⟩) la, ⟨rfl, rfl, fun _ _ h => h, fun _ _ h => h, fun _ h => h, fun _ h => h, fun _ h => h, fun _ h => .inl h, fun _ h => .inl h, fun _ h => .inl h, fun x o e n _ _ => ext x o e n, fun x ps e _ => ?_, fun x o e => ?_⟩⟩
  · obtain ⟨m, e1, e2⟩ := et x ps e
    exact ⟨m, e1, e2.imp id fun z => by rw [z]; exact gP⟩
  · by_cases h : ∃ ps, o = .tbl ps
    · obtain ⟨ps, rfl⟩ := h
      obtain ⟨m, e1, _⟩ := et x ps e
      exact ⟨_, e1⟩
    · exact ⟨o, ext x o e fun ps z => h ⟨ps, z⟩⟩
theorem Wld.ws (W : Wld a Y g st H) (s : Step g H g' H') : WStep g H g' H' := W.elim fun _ w => w.ws s
/-- another law about the same works -/
theorem Wld.mapY (W : Wld a Y0 g st H) (hla : Y0.LA st.2 g H → Y.LA st.2 g H) (hcl : ∀ n t w f, st.1.th n = some t → t.work = some w → g.wad n = some f → Y0.CL w f g H → Y.CL w f g H) : Wld a Y g st H := by
  obtain ⟨c, w⟩ := W
  exact ⟨c, w.sl, w.inj, w.inT, w.frl, w.frP, w.pp, w.vr, w.ok, hla w.la, w.lo, w.dj, w.mu, fun n t k f h1 h2 h3 => hcl n t k f h1 h2 h3 (w.cl n t k f h1 h2 h3)⟩
variable {os : Addr → Option Obj}
theorem Wld.lend (W : Wld a Y0 g st H) (free : ∀ c o, os c = some o → H c = none) (hla : Y0.LA st.2 g (lendH os H) → Y.LA st.2 g (lendH os H))
    (hcl : ∀ n t w f, st.1.th n = some t → t.work = some w → g.wad n = some f → Y0.CL w f g (lendH os H) → Y.CL w f g (lendH os H)) : Wld a Y g st (lendH os H) := (W.same (lend_same free)).mapY hla hcl
theorem Step.lent (t : Step g (lendH os H) g' H') (free : ∀ c o, os c = some o → H c = Option.none) : Step g H g' (backH os H') := by
  have ls : Same H (lendH os H) := lend_same free
  have on : ∀ {x o}, H x = some o → os x = Option.none := fun {x o} e => by
    cases q : os x with
    | none => rfl
    | some ob => rw [free x ob q] at e; cases e
  refine ⟨t.d, t.fas, t.adr, t.wad, t.T, t.L, t.P, fun x h => (t.nT x h).imp id fun z => ls.free z, fun x h => (t.nL x h).imp id fun z => ls.free z, fun x h => (t.nP x h).imp id fun z => ls.free z, fun x o e nt h1 h2 => ?_, fun x ps e h1 => ?_, fun x o e => ?_⟩
  · rw [back_none (on e)]
    exact t.st0 x o (ls _ _ e) nt h1 h2
  · rw [back_none (on e)]
    exact t.tb x ps (ls _ _ e) h1
  · rw [back_none (on e)]
    exact t.oc x o (ls _ _ e)
theorem Wld.backS (W0 : Wld a Y0 g st H) (free : ∀ c o, os c = some o → H c = none) (W' : Wld a Y g' st' H') (t : Step g (lendH os H) g' H') (hf : ∀ c o, os c = some o → H' c = some (frzO o))
    (hla : Y.LA st'.2 g' H' → Y0.LA st'.2 g' (backH os H')) (hcl : ∀ n t w f, st'.1.th n = some t → t.work = some w → g'.wad n = some f → Y0.CL w f g' (backH os H')) : Wld a Y0 g' st' (backH os H') ∧ Step g H g' (backH os H') := by
  have ts := t.lent free
  refine ⟨?_, ts⟩
  obtain ⟨c0, w0⟩ := W0
  obtain ⟨c, w⟩ := W'
  have kp : ∀ x o, H' x = some o → (∀ ob, o ≠ frzO ob) → backH os H' x = some o := fun x o e n => back_keep hf e n
  have nP : ∀ x, g'.P x → os x = none := fun x p => by
    cases q : os x with
    | none => rfl
    | some ob =>
      rcases t.nP x p with z | z
      · obtain ⟨⟨o, e, _⟩, _⟩ := w0.pp x z
        rw [free x ob q] at e
        cases e
      · rw [lend_some q] at z
        cases z
  have mk : ∀ x o, H' x = some o → Mut o → backH os H' x = some o := fun x o e m => kp x o e fun ob z => by rw [z] at m; exact m
  have tk : ∀ x l, H' x = some (.tup l) → backH os H' x = some (.tup l) := fun x l e => kp x _ e fun ob z => by cases z
  refine ⟨c, fun s x o e => ?_, w.inj, w.inT, ?_, w.frP, fun x p => ?_, w.vr.stay tk, w.ok, hla w.la, fun x q => ?_, w.dj, fun x q => ?_, hcl⟩
  · obtain ⟨o', e', m⟩ := w.mu x (w.inT s x o e)
    have e2 := w.sl s x o e
    rw [e2] at e'
    cases e'
    exact mk x o e2 m
  · exact kp _ _ w.frl fun ob z => by cases z
  · obtain ⟨⟨o, e, n⟩, r⟩ := w.pp x p
    exact ⟨⟨o, by rw [back_none (nP x p)]; exact e, n⟩, r⟩
  · obtain ⟨o, e, m⟩ := w.lo x q
    exact ⟨o, kp x o e (fun ob z => by rw [z] at m; exact m), m⟩
  · obtain ⟨o, e, m⟩ := w.mu x q
    exact ⟨o, mk x o e m, m⟩
/-- .. of the works that there were -/
theorem Wld.backO (W0 : Wld a Y0 g st H) (free : ∀ c o, os c = some o → H c = none) (W' : Wld a Y g' st' H') (t : Step g (lendH os H) g' H') (hf : ∀ c o, os c = some o → H' c = some (frzO o))
    (hla : Y.LA st'.2 g' H' → Y0.LA st'.2 g' (backH os H')) (hcl : ∀ n t w, st'.1.th n = some t → t.work = some w → ∃ t0, st.1.th n = some t0 ∧ t0.work = some w) : Wld a Y0 g' st' (backH os H') ∧ Step g H g' (backH os H') := by
  refine W0.backS free W' t hf hla fun n u w f h1 h2 h3 => ?_
  obtain ⟨t0, e1, e2⟩ := hcl n u w h1 h2
  obtain ⟨c0, w0⟩ := W0
  obtain ⟨f0, e3⟩ := w0.ok.wad n t0 w e1 e2
  have e4 := t.wad n f0 e3
  rw [h3] at e4
  cases e4
  exact Y0.cl_st (w0.cl n t0 w f e1 e2 e3) (w0.ws (t.lent free))
/-- a lambda is no lent cell -/
theorem LamO.back {X : Cx} {σ : L2.St} {f c : Addr} {qual : Str} {params : Arguments} {body : Expr} {scope : Scope} {cl : List (Str × Addr)} (l : LamO f H qual params body scope cl c) (lo : LentO X σ os) (hf : ∀ c o, os c = some o → H c = some (frzO o)) : LamO f (backH os H) qual params body scope cl c := by
  obtain ⟨pm, ctv, h1, h2⟩ := l
  refine ⟨pm, ctv, ?_, back_keep hf h2 fun ob z => by cases z⟩
  cases q : os f with
  | none => rw [back_none q]; exact h1
  | some ob =>
    obtain ⟨x, hx⟩ := lo.dat f ob q
    have e := hf f ob q
    rw [h1] at e
    have e2 : PySem.W.kla_obj "<lambda>" qual params body scope cl pm c ctv = ob := by
      simpa [frzO] using e
    rw [← e2] at hx
    cases hx
end
end Tr
set_option maxHeartbeats 2000000
namespace Tr
open PySem PySem.Spec PyProof.Rows L2
open AutoSeq1 (wpAny_loadPart')
/-- the iterator's object, the enumerate's -/
abbrev tio (l : Addr) : Obj := { cls := .type "tuple_iterator", data := .fields #[.ref l, .int 0 0] }
abbrev eno (n : Addr) : Obj := { cls := .type "enumerate", data := .fields #[.none, .bool false, .ref n, rawInt 0, .none, .none] }
theorem meets_enumT (l : Addr) (its : Array Value) (n : Nat) (dct : Option Addr) (sl : Array (Option Value)) :
    Meets (Builtin.«enumerate.__new__» ⟨[.type "enumerate", .ref l], []⟩)
      (fun _ R s => s.heap.get? l = some { cls := .type "tuple", dict := dct, data := .seq its n, slots := sl } ∧
        R (.ok (.ret (.ref (s.heap.push (tio l)).objs.size))) { s with heap := (s.heap.push (tio l)).push (eno s.heap.objs.size) }) :=
  .of_wp fun prog w A R s h => by
    obtain ⟨hp, g, d, tk, os⟩ := s
    obtain ⟨hl, h⟩ := h
    have hsub := PySem.sub_enumerate
    have hT : Heap.IsTuple (Shared.heap ⟨hp, g, d, tk, os⟩) l its := ⟨_, hl, rfl, n, rfl⟩
    wp_walk using wpAny_loadPart' hl
    refine PySem.wpAny_stack_any fun st => wpAny_pure ?_
    split
    case h_1 =>
      rename_i c _ _ _ _ _
      cases (c == Value.type "enumerate") <;> (wp_walk using wpAny_loadPart' hl, wpAny_pyIter_tuple hT; exact ⟨_, rfl, h⟩)
    case h_2 => wp_walk using wpAny_loadPart' hl, wpAny_pyIter_tuple hT; exact ⟨_, rfl, h⟩
theorem call_enumT {prog : Program} {w : World} {A : Around} {E : Value → Shared → Prop} {s : Shared} {l : Addr} {its : Array Value} {Q : Value → Shared → Prop} (hT : s.heap.IsTuple l its)
    (h : ∀ h', IsEnum h' (s.heap.objs.size + 1) s.heap.objs.size 0 .none → h'.IsTupleIter s.heap.objs.size l 0 → (∀ b o, s.heap.get? b = some o → h'.get? b = some o) → Q (.ref (s.heap.objs.size + 1)) { s with heap := h' }) :
    wpAny (model prog w) A (call (.type "enumerate") [.ref l]) Q E s := by
  obtain ⟨⟨c, dct, dt, sl⟩, hl, hc, n, hd⟩ := hT
  have hc' : c = .type "tuple" := hc
  have hd' : dt = .seq its n := hd
  subst hc' hd'
  refine callType_new F.called_enumerate (by decide) (F.typeCall_enumerate_1 _) (F.newCall_enumerate_1 _)
    (fun obj => F.args_object_init_2 obj _) F.entry_enumerate_new (meets_enumT l its n dct sl) ⟨hl, ?_⟩
  have hz : (s.heap.push (tio l)).objs.size = s.heap.objs.size + 1 := Heap.size_push ..
  show _ ∧ _
  rw [hz]
  have he : IsEnum ((s.heap.push (tio l)).push (eno s.heap.objs.size)) (s.heap.objs.size + 1) s.heap.objs.size 0 .none := by
    have z := Heap.get?_push_size (s.heap.push (tio l)) (o := eno s.heap.objs.size) rfl
    rw [hz] at z
    exact z
  refine ⟨⟨_, he, rfl⟩, h _ he ⟨_, Heap.get?_push_of_some _ (Heap.get?_push_size _ rfl), rfl, rfl⟩ fun b o x => ?_⟩
  exact Heap.get?_push_of_some _ (Heap.get?_push_of_some _ x)
theorem draws_tup {prog : Program} {w : World} {A : Around} (hh : A.handled = none) (it l : Addr) (hne : l ≠ it) (its : Array Value) :
    Draws prog w A it [it, l] its.size (fun i v => its[i]? = some v) (fun i h => h.IsTupleIter it l i ∧ h.IsTuple l its) where
  live := fun _ _ st => by
    obtain ⟨o, ho, _⟩ := st.1
    exact ⟨o, ho⟩
  frame := fun _ _ _ st hk => by
    obtain ⟨⟨o, ho, r⟩, ⟨o2, ho2, r2⟩⟩ := st
    exact ⟨⟨o, hk it (by simp) o ho, r⟩, ⟨o2, hk l (by simp) o2 ho2, r2⟩⟩
  item := fun i s Q E hi st hQ => by
    refine RZ.nextOf_tuple_item st.1 st.2 (x := its[i]) (by simp [hi]) fun h' hit' hs' => ?_
    obtain ⟨o2, ho2, r2⟩ := st.2
    exact hQ _ h' s.toks (by simp [hi]) ⟨hit', o2, (hs'.2 l hne).trans ho2, r2⟩ hs'
  done := fun s Q E st hE => RZ.nextOf_tuple_end hh st.1 st.2 (by simp) hE
/-- the tuple at a as it stands at each turn, each item in a new pair -/
def IteT (K : PySem.W.Frag) (a : Addr) : It :=
  ⟨fun i H => ∃ (xs : List V) (x : V), SqT K H a xs ∧ xs[i]? = some x,
   fun i H v H' => ∃ T x, v = .ref T ∧ H T = none ∧ H' = upd H T (.tup [.int (i : Nat), x]) ∧ ∀ xs, SqT K H a xs → xs[i]? = some x,
   fun i H => ∃ xs : List V, SqT K H a xs ∧ xs.length ≤ i⟩
theorem turn_enumT {P : Program} {w : World} {K : PySem.W.Frag} {elts : List Expr} {kk : Nat} {tpos : Pos} (a e it : Addr) (ha : a ≠ it) (hae : a ≠ e) :
    Turn P w K (.Tuple elts kk tpos) (IteT K a) [e, it] e (fun i h => (∃ old, IsEnum h e it ((i : Nat) : Int) old) ∧ h.IsTupleIter it a i ∧ e ≠ it) where
  mem := by simp
  obj := fun i h st b hb => by
    obtain ⟨⟨old, he⟩, ⟨o, ho, hc, hd⟩, _⟩ := st
    have e' : b = e ∨ b = it := by simpa using hb
    rcases e' with rfl | rfl
    · exact ⟨_, he, fun v q => nomatch q⟩
    · exact ⟨o, ho, fun v q => by rw [hd] at q; cases q⟩
  keep := fun i h h' st k => by
    obtain ⟨⟨old, he⟩, ⟨o, ho, r⟩, hne⟩ := st
    exact ⟨⟨old, k e (by simp) _ he⟩, ⟨o, k it (by simp) o ho, r⟩, hne⟩
  item := by
    intro X hP hw hK hc i pins s σ H E I hf st hg
    subst hP hw hK
    obtain ⟨⟨old, he⟩, hit, hne⟩ := st
    obtain ⟨xs, x, hq, hx⟩ := hg
    obtain ⟨its, rv, p, hz⟩ := I.tuple hq
    obtain ⟨u, hu, ru⟩ := rv.get hx
    have p' : s.heap.IsTuple a its.toArray := p
    have hel : e < s.heap.objs.size := Heap.lt_size he
    have hil : it < s.heap.objs.size := by obtain ⟨_, q, _⟩ := hit; exact Heap.lt_size q
    have hlt : i < its.toArray.size := by
      have := (List.getElem?_eq_some_iff.mp hu).1
      simpa using this
    have D := draws_tup (prog := X.prog) (w := X.w) (A := X.A.in1) (I.ok.hd hc) it a ha its.toArray
    refine wpAny_pyNext_enum_itemD D he ⟨hit, p'⟩ hlt hne (by simp [hne, Ne.symm hae]) fun y h' tk hy ho hst hT hsz hk => ?_
    have ey : y = u := by
      rw [List.getElem?_toArray, hu] at hy
      exact (Option.some.inj hy).symm
    subst ey
    refine ⟨_, rfl, wpAny_letOwnedTupleGo_enum (s := { s with heap := h', toks := tk + 1 }) ho fun h'' he' sb => ?_⟩
    have hT2 : h''.get? s.heap.objs.size = some { cls := .type "tuple", data := .seq #[.int i tk, y] } := (sb.2 _ (Nat.ne_of_gt hel)).trans hT
    have new : ObjOk X.prog X.w (upd H s.heap.objs.size (.tup [.int (i : Nat), x])) h'' s.heap.objs.size (.tup [.int (i : Nat), x]) :=
      ⟨by show 2 ≤ sizeLine; decide, [.int i tk, y], .cons ⟨_, rfl⟩ (.cons ru .nil), ⟨_, hT2, rfl, _, rfl⟩⟩
    have keep : ∀ b ob, b ∉ [e, it] → s.heap.get? b = some ob → h''.get? b = some ob := fun b ob hb q => by
      have b1 : b ≠ e := fun z => hb (by simp [z])
      have b2 : b ≠ it := fun z => hb (by simp [z])
      exact (sb.2 b b1).trans (hk b ob b1 b2 q)
    have I1 : Inv X pins σ (upd H s.heap.objs.size (.tup [.int (i : Nat), x])) { s with heap := h'', toks := tk + 1 } :=
      I.turnedNew (ch := [e, it]) keep hf (Nat.le_refl _) new
    have e1 : ((i + 1 : Nat) : Int) = (i : Int) + 1 := by omega
    obtain ⟨o2, ho2, r2⟩ := hst.1
    refine ⟨.ref s.heap.objs.size, _, I1, rfl, ⟨_, x, rfl, I.hok.fresh (Nat.le_refl _), rfl, fun ys hy => ?_⟩, ⟨⟨y, by rw [e1]; exact he'⟩, ⟨o2, (sb.2 it (Ne.symm hne)).trans ho2, r2⟩, hne⟩, fun b hb => ?_⟩
    · rw [I.tuple_inj hy hq]
      exact hx
    · have hb' : b < s.heap.objs.size := by
        have z : b = e ∨ b = it := by simpa using hb
        rcases z with rfl | rfl
        · exact hel
        · exact hil
      rw [upd_ne (Nat.ne_of_lt hb')]
      exact (hf b hb).1
  done := by
    intro X hP hw hK hc i pins s σ H E I hf st hg
    subst hP hw hK
    obtain ⟨⟨old, he⟩, hit, hne⟩ := st
    obtain ⟨xs, hq, hx⟩ := hg
    obtain ⟨its, rv, p, hz⟩ := I.tuple hq
    have p' : s.heap.IsTuple a its.toArray := p
    obtain ⟨f0, f1, f2, f3, f4, f5⟩ := hf it (by simp)
    have hl := rv.length
    have hT : s.TypeIs (.ref e) "enumerate" := ⟨_, he, rfl⟩
    unfold pyNext
    refine wpAny_bind (wpAny_attempt (wpAny_callSpecial?_slot (name := Str.ofString "__next__") hT F.slot_enumerate_next
      (wpAny_call_entry F.slot_enumerate_next hT F.entry_enumerate_next ?_ (F.args_enumerate_next_1 _))))
    show wpAny _ _ (field (.ref e) 2 >>= _) _ _ _
    refine wpAny_bind (wpAny_field he rfl (x := .ref it) rfl (wpAny_bind ?_))
    refine RZ.nextOf_tuple_end (I.ok.hd hc) hit p' (by simp; omega) fun h' ex eb hx' => ?_
    obtain ⟨o, ho, hcl⟩ := hx'
    refine wpAny_bind (wpAny_isInstance (T := "StopIteration") (b := true) ⟨o, ho, hcl⟩ isSubtype_stop (wpAny_pure ?_))
    exact ⟨rfl, I.turned (t' := s.toks) (fun b o hb q => eb b o hb q) f0 f1 f3 f4 f5⟩
  self := fun A i s Q E st h => by
    obtain ⟨⟨_, he⟩, _⟩ := st
    exact wpAny_pyIter_enum he h
def iEnumT (K : PySem.W.Frag) (ta : TA) : TI := fun σ H R => ta σ H fun vs H1 => ∃ a xs, vs = [.ref a] ∧ SqT K H1 a xs ∧ R (IteT K a) H1
theorem pi_enumT {X : Cx} {e : Expr} {ta : TA} {p pos tpos : Pos} {elts : List Expr} {kk : Nat} (hg : Gl X "enumerate") (hm : X.mg "enumerate" = none)
    (ha : PA X [e] ta) (hs : starEach [e] X.env = [(false, eval e X.env)] := by rfl) :
    PI X (.Tuple elts kk tpos) (.Call (.Name "enumerate" p) [e] [] pos) (iEnumT X.K ta) := by
  constructor
  intro pins s σ H R I h
  refine Call_ (ld_blt I hg hm boot_enumerate (PyProof.Rows.callWith_type1 (thn (ha.run pos pins s σ H _ I h) fun us s1 hh => ?_) hs rfl))
  obtain ⟨vs, H1, I1, r1, a, xs, ex, hq, q⟩ := hh
  subst ex
  cases r1 with
  | cons r rr =>
    cases rr
    cases r
    obtain ⟨its, rv, p', hz⟩ := I1.tuple hq
    have pt : s1.heap.IsTuple a its.toArray := p'
    have hal : a < s1.heap.objs.size := by obtain ⟨_, z, _⟩ := pt; exact Heap.lt_size z
    refine call_enumT pt fun h' he hit hk => wpAny_pyIter_enum he ?_
    have I2 : Inv X pins σ H1 { s1 with heap := h' } := I1.kept (t' := s1.toks) hk
    refine ⟨s1.heap.objs.size + 1, [s1.heap.objs.size + 1, s1.heap.objs.size], _, _, H1, rfl, I2,
      turn_enumT a (s1.heap.objs.size + 1) s1.heap.objs.size (Nat.ne_of_lt hal) (Nat.ne_of_lt (Nat.lt_succ_of_lt hal)), ⟨⟨.none, he⟩, hit, Nat.succ_ne_self _⟩, fun b hb => ?_, q⟩
    have z : b = s1.heap.objs.size + 1 ∨ b = s1.heap.objs.size := by simpa using hb
    have hle : s1.heap.objs.size ≤ b := by
      rcases z with rfl | rfl
      · exact Nat.le_succ _
      · exact Nat.le_refl _
    exact I1.fpOk hle (I1.hok.fresh hle)
theorem walk_enumT {K : PySem.W.Frag} {a : Addr} {xs : List V} : Walk (IteT K a) xs.length (fun H => SqT K H a xs) (YPair (fun i => some (.int (i : Nat))) (fun i => xs[i]?)) := by
  refine ⟨fun i _ hi q => ⟨xs, xs[i], q, by simp [hi]⟩, fun _ q => ⟨xs, q, Nat.le_refl _⟩, fun i H v H' _ q y => ?_⟩
  obtain ⟨T, x, h1, h2, h3, h4⟩ := y
  exact ⟨T, .int (i : Nat), x, h1, h2, h3, rfl, h4 xs q⟩
/-- for i, x in enumerate(t), t a tuple of the slot j -/
theorem s_forEnumT {σ : L2.St} {H : Hp} {K : PySem.W.Frag} {p : Addr} {xs : List V} {g : TG} {tb : TS} {j : Nat} {na : L2.St → Hp → Prop} {rt : VK} {bk ct : L2.St → Hp → Prop} (hv : σ[j]? = some (some (.ref p))) (hp : H p = some (.tup xs)) (Pv : Nat → L2.St → Hp → Prop) (h0 : Pv 0 σ H)
    (hG : ∀ i σ H, i ≤ xs.length → Pv i σ H → H p = some (.tup xs))
    (hs : ∀ i x T σ H, xs[i]? = some x → Pv i σ H → H T = none → g (.ref T) σ (upd H T (.tup [.int (i : Nat), x])) fun σ2 H2 => tb ⟨Pv (i + 1), rt, na, Pv (i + 1)⟩ σ2 H2)
    (hd : ∀ σ H, Pv xs.length σ H → na σ H) : tFor (iEnumT K (tCons (tVar j) tNil)) g tb ⟨na, rt, bk, ct⟩ σ H := by
  refine ⟨_, hv, p, xs, rfl, SqT.of hp, ?_⟩
  refine for_it (D := ⟨na, rt, bk, ct⟩) (walk_enumT (xs := xs)) Pv h0 (fun i σ H hi pv => SqT.of (hG i σ H hi pv)) ?_ hd
  rintro i x σ H H' hi pv ⟨T, x1, y1, rfl, hT, rfl, e1, e2⟩
  cases e1
  exact hs i y1 T σ H e2 pv hT
end Tr
namespace Tr
open PySem PySem.Spec PyProof.Rows L2
section
variable {X : Cx} {CX : CXT} {k : Nat} {f C : Addr} {fd : FuncData} {ps : List Str} {sp : Sp} {E : XK}
/-- the callee runs, somewhere below the running body -/
theorem run_fnA {pins : List (Addr × Obj)} {σ : L2.St} {H : Hp} {s : Shared} {Q : VK} {us : List Value} {vs : List V} {A : Around} (F : FnOk X.prog X.w X.K X.mg X.base CX k f fd ps sp) (hr : Room k A) (hA : A.frames = X.A.frames) (hb : Binds X.K fd ps []) (hx : Passes CX X E)
    (I : Inv X pins σ H s) (r : Vals vs us) (h : sp vs H Q E) : wpAny (model X.prog X.w) A (call (.ref f) us) (EP X pins σ Q) X.xe s := by
  have e0 : L2.Env0 X.prog X.w X.K X.mg X.base A X.stack s H := by
    have e := I.env0
    exact ⟨by rw [hA]; exact e.frames, e.mod, e.bs, e.bsz, e.funs, e.frf, e.hok, e.bare⟩
  have hl : (us ++ []).length = ps.length := by rw [List.append_nil, ← r.length]; exact F.len _ _ _ _ h
  have hb' := hb s us I.kIn hl
  rw [List.append_nil] at hb'
  refine wpAny_call (codeAny_mono (F.run A X.stack s H ⟨us, []⟩ us vs Q E hr e0 hb' r h) fun r s' hq => ?_)
  cases r with
  | error e => exact hx pins σ H s e s' I hq
  | ok fl =>
    cases fl with
    | ret u => exact I.after hq
    | next => exact False.elim hq
    | brk => exact False.elim hq
    | cont => exact False.elim hq
/-- x in o -/
def rInO (C : Addr) (sp : Sp) (E : XK) (neg : Bool) : R2 := fun x y H Q => ∃ (o dx : Addr) (fs : List (Str × V)), y = .ref o ∧ H o = some (.ins C dx fs) ∧ sp [.ref o, x] H (fun v H' => ∃ b, v = .bl b ∧ Q (.bl (if neg then !b else b)) H') E
theorem op_inO (hs : PySem.W.findIn X.K (.ref C) "__contains__" = some (some (.ref f))) (hf : PySem.W.isFn X.K (.ref f) = true) (F : FnOk X.prog X.w X.K X.mg X.base CX k f fd ps sp) (hr : Room k X.A) (hb : Binds X.K fd ps []) (hx : Passes CX X E) : OpR X (compareOp .In) (rInO C sp E false) := by
  intro pins s σ H x y v u Q I rx ry h
  obtain ⟨o, dx, fs, rfl, ho, h⟩ := h
  cases ry
  obtain ⟨mA, J, _⟩ := ins_get I.hok ho
  obtain ⟨od, J, _⟩ := J.look
  obtain ⟨m, hF⟩ := I.fr
  refine PySem.W.in_K hF I.ok.mod.kin J hs hf (wpAny_mono (run_fnA (vs := [.ref o, x]) F hr rfl hb hx I (.cons rfl (.cons rx .nil)) h) (fun r s' hq => ?_) fun _ _ e => e)
  obtain ⟨z, H', I', rz, b, rfl, q⟩ := hq
  cases rz
  exact wpAny_pure ⟨.bl b, H', I', rfl, q⟩
theorem op_ninO (hs : PySem.W.findIn X.K (.ref C) "__contains__" = some (some (.ref f))) (hf : PySem.W.isFn X.K (.ref f) = true) (F : FnOk X.prog X.w X.K X.mg X.base CX k f fd ps sp) (hr : Room k X.A) (hb : Binds X.K fd ps []) (hx : Passes CX X E) : OpR X (compareOp .NotIn) (rInO C sp E true) := by
  intro pins s σ H x y v u Q I rx ry h
  obtain ⟨o, dx, fs, rfl, ho, h⟩ := h
  cases ry
  obtain ⟨mA, J, _⟩ := ins_get I.hok ho
  obtain ⟨od, J, _⟩ := J.look
  obtain ⟨m, hF⟩ := I.fr
  refine PySem.W.notIn_K hF I.ok.mod.kin J hs hf (wpAny_mono (run_fnA (vs := [.ref o, x]) F hr rfl hb hx I (.cons rfl (.cons rx .nil)) h) (fun r s' hq => ?_) fun _ _ e => e)
  obtain ⟨z, H', I', rz, b, rfl, q⟩ := hq
  cases rz
  exact wpAny_pure ⟨.bl (!b), H', I', rfl, q⟩
/-- len(o) -/
def rLenO (C : Addr) (sp : Sp) (E : XK) : List V → Hp → VK → Prop := fun xs H Q => ∃ (o dx : Addr) (fs : List (Str × V)), xs = [.ref o] ∧ H o = some (.ins C dx fs) ∧ sp [.ref o] H (fun v H' => ∃ n : Int, v = .int n ∧ (0 ≤ n ∧ n < 2 ^ 63) ∧ Q (.int n) H') E
theorem call_lenO (hs : PySem.W.findIn X.K (.ref C) "__len__" = some (some (.ref f))) (hf : PySem.W.isFn X.K (.ref f) = true) (F : FnOk X.prog X.w X.K X.mg X.base CX k f fd ps sp) (hr : Room k X.A.in1) (hA : X.A.in1.frames = X.A.frames) (hb : Binds X.K fd ps []) (hx : Passes CX X E) : CallR X (.builtin "len") (rLenO C sp E) := by
  intro pins s σ H xs us Q I r h
  obtain ⟨o, dx, fs, rfl, ho, h⟩ := h
  cases r with
  | cons r1 r2 =>
  cases r2
  cases r1
  obtain ⟨mA, J, _⟩ := ins_get I.hok ho
  obtain ⟨od, J, _⟩ := J.look
  obtain ⟨m, hF⟩ := I.fr
  refine PySem.W.len_K hF I.ok.mod.kin J hs hf (wpAny_mono (run_fnA (vs := [.ref o]) F hr hA hb hx I (.cons rfl .nil) h) (fun r s' hq => ?_) fun _ _ e => e)
  obtain ⟨z, H', I', rz, n, rfl, hn, q⟩ := hq
  obtain ⟨t, rfl⟩ := rz
  exact ⟨hn, .int n, H', I'.tok _, ⟨_, rfl⟩, q⟩
end
end Tr
namespace L2
open PySem PySem.Spec PyProof.Rows
section
variable {X : Cx} {CI CL : CXT} {n : Nat} {C fi fl q it l : Addr} {fdI fdL : FuncData} {psI psL : List Str} {spI spL : Sp} {pins : List (Addr × Obj)} {σ : L2.St} {A1 : Around} {xs : List V}
theorem it_loop {Rs : Result → Shared → Prop} (hc : X.calm = true) (hd : A1.in1.handled = none) : ∀ (m i : Nat) (acc : List V) (H : Hp) (s : Shared), xs.length - i = m → i ≤ xs.length → acc.length + (xs.length - i) ≤ sizeLine → Inv X pins σ H s → H q = some (.lst acc) → H it = some (ItO l it i) → H l = some (.lst xs) → q ≠ l → q ≠ it → l ≠ it →
    (∀ H' s', Inv X pins σ H' s' → H' q = some (.lst (acc ++ xs.drop i)) → (∀ b, b ≠ q → b ≠ it → H' b = H b) → Rs (.ok (.ret .none)) s') → codeAny (model X.prog X.w) A1 (.builtin "list.extend.loop" ⟨[.ref q, .ref it, .none], []⟩) Rs s := by
  intro m
  induction m with
  | zero =>
    intro i acc H s hm hi hz I hq hit hl n1 n2 n3 hR
    have e : i = xs.length := by omega
    subst e
    refine codeAny_builtin PySem.F.entry_extend_loop ?_
    rw [Around.under_plainId PySem.F.plain_extend_loop _]
    show wpAny _ A1.in1 (pyNext (.ref it) >>= _) _ _ s
    obtain ⟨its, rv, pl, hz2⟩ := I.list (SqL.of hl)
    have mu : Mut (H it) := by rw [hit]; exact True.intro
    refine wpAny_bind (DSub.py_end hd (itO_get I hit) pl.isList (by rw [List.getElem?_toArray]; exact rv.none_of (by simp)) fun h' e1 sb => ?_)
    have I2 : Inv X pins σ (upd H it (ItE it xs.length)) { s with heap := h' } := I.write (x := it) (e := it) (t' := s.toks) mu (.inl rfl) (fun b o nb z => sb b o nb z) ⟨_, e1⟩ (itE_ok e1)
    exact wpAny_pure (hR _ _ I2 (by rw [upd_ne n2, hq]; simp) fun b _ hb => upd_ne hb)
  | succ m ih =>
    intro i acc H s hm hi hz I hq hit hl n1 n2 n3 hR
    have hlt : i < xs.length := by omega
    obtain ⟨x, hx⟩ : ∃ x, xs[i]? = some x := ⟨_, List.getElem?_eq_getElem hlt⟩
    refine codeAny_builtin PySem.F.entry_extend_loop ?_
    rw [Around.under_plainId PySem.F.plain_extend_loop _]
    show wpAny _ A1.in1 (pyNext (.ref it) >>= _) _ _ s
    obtain ⟨its, rv, pl, hz2⟩ := I.list (SqL.of hl)
    obtain ⟨u, hu, ru⟩ := rv.get hx
    have mu : Mut (H it) := by rw [hit]; exact True.intro
    refine wpAny_bind (DSub.py_item (itO_get I hit) pl.isList (by rw [List.getElem?_toArray]; exact hu) fun h' e1 sb => ?_)
    have I2 : Inv X pins σ (upd H it (ItO l it (i + 1))) { s with heap := h' } := I.write (x := it) (e := it) (t' := s.toks) mu (.inl rfl) (fun b o nb z => (sb.2 b nb).trans z) ⟨_, e1⟩ (itO_ok e1)
    show wpAny _ A1.in1 (updateSeq q (·.push u) >>= _) _ _ _
    have hq2 : upd H it (ItO l it (i + 1)) q = some (.lst acc) := by rw [upd_ne n2]; exact hq
    obtain ⟨z, its2, k, r2, hl2, e2⟩ := I2.lstM hq2
    refine wpAny_bind (wpAny_updateSeq e2 rfl (wpAny_pure ⟨plainId_quiet PySem.F.plain_extend_loop _, ?_⟩) (by rw [List.size_toArray]; omega) (by show (its2.toArray.push u).size ≤ sizeLine + 1; rw [Array.size_push, List.size_toArray]; omega))
    refine ih (i + 1) (acc ++ [x]) _ _ (by omega) hlt (by rw [List.length_append, List.length_singleton]; omega) (I2.lset (its' := its2 ++ [u]) (t' := s.toks) hq2 e2 (by simp) (r2.append (.cons ru .nil)) (by rw [List.length_append, List.length_singleton]; omega)) upd_same (by rw [upd_ne (Ne.symm n2)]; exact upd_same) (by rw [upd_ne (Ne.symm n1), upd_ne n3]; exact hl) n1 n2 n3 fun H' s' I' h1 h2 => hR H' s' I' ?_ fun b b1 b2 => by rw [h2 b b1 b2, upd_ne b1, upd_ne b2]
    have ed : xs.drop i = x :: xs.drop (i + 1) := by
      obtain ⟨hi2, e⟩ := List.getElem?_eq_some_iff.mp hx
      rw [← e]; exact List.drop_eq_getElem_cons hi2
    rw [h1, ed]; simp
theorem len_hint {M : World} {K : PySem.W.Frag} {pg : Program} {A : Around} {E : Value → Shared → Prop} {s : Shared} {Q : Bool → Shared → Prop} {h0 : Heap} {L0 : Addr} {m0 : Str → Option Value} {ox : Obj} {od : Option Obj} {a : Addr} (F : Fr h0 L0 s.heap m0) (X0 : K.In h0) (J : PySem.W.InstAt s.heap a ox C od)
    (hl : PySem.W.findIn K (.ref C) "__len__" = some (some (.ref fl))) (hf : PySem.W.isFn K (.ref fl) = true)
    (h : wpAny (model pg M) A (call (.builtin "len") [.ref a]) (fun v s' => ∃ (k : Nat) (t : Tok), v = .int k t ∧ k ≤ sizeLine ∧ Q ((k : Int) != 0) s') (fun e s' => False) s) : wpAny (model pg M) A (Builtin.List.listLengthHint (.ref a)) Q E s := by
  have X := X0.keeps F.keep
  unfold Builtin.List.listLengthHint
  refine wpAny_bind (wpAny_bind (J.type.here ((PySem.W.looks_findIn X hl).here ?_)))
  refine PySem.W.KFB.if_not rfl ?_
  refine wpAny_ite_split (fun _ => ?_) (fun z => absurd rfl z)
  refine wpAny_bind (wpAny_rule ?_)
  refine wpAny_bind (wpAny_attempt (wpAny_mono h (fun v s' hv => ?_) fun e s' z => z.elim))
  obtain ⟨k, t, rfl, hk, q⟩ := hv
  refine wpAny_bind (wpAny_of_eq (a := some (k : Int)) (by first | rfl | kernel_rfl) ?_)
  refine wpAny_ite_split (fun z => ?_) (fun _ => wpAny_pure q)
  exact absurd z (by unfold Builtin.List.listTooLong; rw [decide_eq_true_eq]; have : ((k : Nat) : Int).toNat = k := Int.toNat_natCast k; omega)
/-- list(o) -/
def rListIt (C : Addr) (spI spL : Sp) : List V → Hp → VK → Prop := fun vs H Q => ∃ (a dx : Addr) (fs : List (Str × V)), vs = [.ref a] ∧ H a = some (.ins C dx fs) ∧ ∀ q, H q = none →
  spI [.ref a] (upd H q (.lst [])) (fun v H1 => ∃ (it l : Addr) (xs : List V), v = .ref it ∧ H1 it = some (ItO l it 0) ∧ H1 l = some (.lst xs) ∧ H1 q = some (.lst []) ∧ q ≠ l ∧ q ≠ it ∧ H1 a = some (.ins C dx fs) ∧
    spL [.ref a] H1 (fun v2 H2 => ∃ k : Nat, v2 = .int k ∧ k ≤ sizeLine ∧ H2 = H1) E0 ∧ ∀ H3, (∀ b, b ≠ q → b ≠ it → H3 b = H1 b) → H3 q = some (.lst xs) → Q (.ref q) H3) E0
theorem call_listIt (hsI : PySem.W.findIn X.K (.ref C) "__iter__" = some (some (.ref fi))) (hfI : PySem.W.isFn X.K (.ref fi) = true) (hsL : PySem.W.findIn X.K (.ref C) "__len__" = some (some (.ref fl))) (hfL : PySem.W.isFn X.K (.ref fl) = true)
    (FI : FnOk X.prog X.w X.K X.mg X.base CX0 n fi fdI psI spI) (bI : Binds X.K fdI psI []) (FL : FnOk X.prog X.w X.K X.mg X.base CX0 n fl fdL psL spL) (bL : Binds X.K fdL psL []) (hr : Room (n + 4) X.A) (hcalm : X.calm = true) : CallR X (.type "list") (rListIt C spI spL) := by
  intro pins s σ H xs us Q I rv h
  obtain ⟨a, dx, fs, rfl, ha, hq⟩ := h
  obtain ⟨u, rfl, ru⟩ := rv.one
  cases ru
  have px : ∀ σ, PassesAt CX0 X σ E0 := fun σ pins H s e s' _ z => z.elim
  refine callType_codes (Q₁ := fun obj s₁ => obj = .ref s.heap.objs.size ∧ s₁ = { s with heap := s.heap.push { cls := .type "list", data := .seq #[] } }) PySem.F.called_list (PySem.F.typeCall_list_1 _) PySem.F.entry_list_init
    (code_list_new _ ⟨rfl, rfl⟩) fun obj s₁ h₁ => ?_
  obtain ⟨rfl, rfl⟩ := h₁
  have hS : (s.heap.push { cls := .type "list", data := .seq #[] }).get? s.heap.objs.size = some { cls := .type "list", data := .seq #[] } := Heap.get?_push_size _ rfl
  refine ⟨⟨_, hS, rfl⟩, PySem.F.args_list_init_2 _ _, ?_⟩
  have fr : H s.heap.objs.size = none := I.hok.fresh (Nat.le_refl _)
  have hsp := hq _ fr
  have I1 : Inv X pins σ (upd H s.heap.objs.size (.lst [])) { s with heap := s.heap.push { cls := .type "list", data := .seq #[] } } := I.lnew (its := []) (t' := s.toks) .nil (Nat.zero_le _)
  show wpAny _ _ (do let old ← Builtin.List.listItems (.ref s.heap.objs.size); Builtin.List.listUpdate (.ref s.heap.objs.size) (fun _ => #[]); letGo old.toList.reverse; Builtin.List.listExtendWith (.ref s.heap.objs.size) (.ref a) .none) _ _ _
  refine wpAny_bind ?_
  unfold Builtin.List.listItems
  refine wpAny_bind (wpAny_seqItems hS rfl (wpAny_pure ?_))
  show wpAny _ _ (updateSeq s.heap.objs.size (fun _ => #[]) >>= fun _ => letGo (#[] : Array Value).toList.reverse >>= fun _ => Builtin.List.listExtendWith (.ref s.heap.objs.size) (.ref a) .none) _ _ _
  refine wpAny_bind (wpAny_updateSeq hS rfl ?_)
  have I2 := I1.lset (f := fun _ => #[]) (its := []) (its' := []) (ys := []) (t' := s.toks) upd_same hS rfl .nil (Nat.zero_le _)
  rw [upd_upd] at I2
  refine wpAny_bind (wpAny_letGo ?_)
  have ha2 : upd H s.heap.objs.size (.lst []) a = some (.ins C dx fs) := by rw [upd_ne (ne_of_none ha fr)]; exact ha
  have hne : s.heap.objs.size ≠ a := Ne.symm (ne_of_none ha fr)
  generalize s.heap.objs.size = q at *
  generalize upd H q (.lst []) = Hq at *
  obtain ⟨mA, J, _⟩ := ins_get I2.hok ha2
  obtain ⟨od, J, _⟩ := J.look
  obtain ⟨m0, hF⟩ := I2.fr
  unfold Builtin.List.listExtendWith
  refine wpAny_bind (J.type.here ?_)
  have h1 : Builtin.List.listSameRef (.ref q) (.ref a) = false := by simp [Builtin.List.listSameRef, hne]
  have h2 : (Value.ref C == Value.type "list") = false := rfl
  have h3 : (Value.ref C == Value.type "tuple") = false := rfl
  simp only [h1, h2, h3, Bool.or_false, Bool.false_eq_true, if_false]
  refine wpAny_bind (PySem.W.owit_iter hF I2.ok.mod.kin J hsI hfI ?_)
  refine wpAny_mono (call_fnAt (vs := [.ref a]) FI (hr.in1.in1.mono (by omega)) rfl bI (px σ) I2 (.cons rfl .nil) hsp) (fun r s3 hr3 => ?_) fun e s3 he => he
  obtain ⟨v, H1, I3, rv3, it, l, xs, rfl, hit, hl, hq1, nql, nqi, ha1, hsp2, hk⟩ := hr3
  cases (show r = Value.ref it from rv3)
  have hh : X.A.in1.in1.handled = none := I.ok.hd hcalm
  have nli : l ≠ it := ne_of hl hit (fun z => nomatch z)
  unfold PySem.W.OwitIt
  refine wpAny_specialOf (T := "list_iterator") (DSub.iter_of (itO_get I3 hit)).typeIs slot_listiter_next.lookup ?_
  obtain ⟨mA2, J2, _⟩ := ins_get I3.hok ha1
  obtain ⟨od2, J2, _⟩ := J2.look
  obtain ⟨m2, hF2⟩ := I3.fr
  refine wpAny_bind (wpAny_holding (len_hint hF2 I3.ok.mod.kin J2 hsL hfL (PySem.W.len_K hF2 I3.ok.mod.kin J2 hsL hfL (wpAny_mono (call_fnAt (X := X.wish fun _ _ => False) (vs := [.ref a]) FL (hr.in1.in1.in1.mono (by omega)) rfl bL (fun pins H s e s' _ z => z.elim) (I3.wish _) (.cons rfl .nil) hsp2) (fun r4 s4 hr4 => ?_) fun e s4 he => he)))) 
  obtain ⟨v4, H4, I4, rv4, k, rfl, hk4, e4H⟩ := hr4
  rw [e4H] at I4
  obtain ⟨t4, rfl⟩ := rv4
  refine ⟨by rw [sizeLine_eq] at hk4; omega, k, _, rfl, hk4, ?_⟩
  have I5 : Inv X pins σ H1 { s4 with toks := s4.toks + 1 } := (I4.unwish).tok _
  have last : ∀ s5, Inv X pins σ H1 s5 → codeAny (model X.prog X.w) X.A.in1 (.builtin "list.extend.loop" ⟨[.ref q, .ref it, .none], []⟩) (wants (fun r s₂ => r = .none ∧ EP X pins σ Q (.ref q) s₂) X.xe) s5 := fun s5 I => by
    obtain ⟨_, _, _, hz⟩ := I.list (SqL.of hl)
    exact it_loop hcalm hh _ 0 [] H1 s5 rfl (Nat.zero_le _) (by simpa using hz) I hq1 hit hl nql nqi nli fun H' s' I' e1 e2 => ⟨rfl, .ref q, H', I', rfl, hk H' e2 (by simpa using e1)⟩
  refine wpAny_ite_split (fun _ => ?_) (fun _ => wpAny_pure ⟨plainId_quiet PySem.F.plain_extend_loop _, last _ I5⟩)
  refine wpAny_bind (wpAny_rule ?_)
  refine wpAny_bind ?_
  show wpAny _ _ (updateSeq q (·.push .none) >>= fun _ => updateSeq q (·.pop)) _ _ _
  obtain ⟨z, its, kk, r3, hl3, e3⟩ := I5.lstM hq1
  cases r3
  refine wpAny_bind (wpAny_updateSeq e3 rfl ?_)
  have I6 := I5.lset (f := (·.push Value.none)) (its' := [Value.none]) (ys := [.non]) (t' := s4.toks + 1) hq1 e3 (by simp) (.cons rfl .nil) (by rw [List.length_singleton, sizeLine_eq]; decide)
  obtain ⟨z4, its4, k4, r4, hl4, e4⟩ := I6.lstM upd_same
  obtain ⟨u4, rfl, ru4⟩ := r4.one
  refine wpAny_updateSeq e4 rfl ?_ (by show 1 ≤ sizeLine; rw [sizeLine_eq]; decide) (by show 0 ≤ sizeLine + 1; exact Nat.zero_le _)
  refine wpAny_pure ⟨plainId_quiet PySem.F.plain_extend_loop _, last _ ?_⟩
  have I7 := I6.lset (f := (·.pop)) (its := [u4]) (its' := []) (ys := []) (t' := s4.toks + 1) upd_same e4 (by rfl) .nil (Nat.zero_le _)
  rw [upd_upd] at I7
  have hH : upd H1 q (.lst []) = H1 := by
    funext b
    by_cases hb : b = q
    · rw [hb, upd_same, hq1]
    · rw [upd_ne hb]
  rw [hH] at I7
  exact I7
end
end L2
namespace L2
open PySem PySem.Spec PyProof.Rows
section
variable {X : Cx} {e : Expr} {te : TE} {p pos apos cpos : Pos}
def tListVals (te : TE) : TE := fun σ H Q => te σ H fun x H1 => ∃ (d : Addr) (kvs : List (Key × V)), x = .ref d ∧ H1 d = some (.dK kvs) ∧ ∀ q, H1 q = none → Q (.ref q) (upd H1 q (.lst (kvs.map (·.2))))
theorem kv_vals {kvs : List (Key × V)} {vs : List (Key × Value)} (kv : KV kvs vs) : Vals (kvs.map (·.2)) (vs.map (·.2)) := by
  induction kv with
  | nil => exact .nil
  | cons r _ ih => exact .cons r.2 ih
theorem pe_listVals (hc : X.calm = true) (he : PE X e te) (hg : Gl X "list") (hm : X.mg "list" = none) (hv : bootBuiltins "list" = some (.type "list")) (hbase : attributeBase e "values" X.env (eval e X.env) = eval e X.env := by rfl) (hline : (apos.endLine == cpos.line) = true := by rfl)
    (hs : starEach [.Call (.Attribute e "values" apos) [] [] cpos] X.env = (false, eval (.Call (.Attribute e "values" apos) [] [] cpos) X.env) :: starEach [] X.env := by rfl) :
    PE X (.Call (.Name "list" p) [.Call (.Attribute e "values" apos) [] [] cpos] [] pos) (tListVals te) := by
  refine ⟨fun pins s σ H Q I hq => ?_⟩
  refine wpAny_Call_Name_kw (ld_blt I hg hm hv ?_)
  refine PyProof.Rows.callWith_type1 ?_ hs rfl
  rw [hs]
  show wpAny _ _ (spliced ((false, eval (.Call (.Attribute e "values" apos) [] [] cpos) X.env) :: backTo pos (starEach [] X.env))) _ _ s
  refine Calls.spliced_cons ?_
  refine wpAny_Call_method (T := "dict") (id := "dict.values") hbase rfl hline F.plainAttrs_dict F.slot_dict_values F.type_dict_values (thn (he.run pins s σ H _ I hq) fun u s1 ⟨x, H1, I1, rx, d, kvs, ex, hd, q⟩ => ?_)
  subst ex
  obtain rfl : u = Value.ref d := rx
  obtain ⟨hz, hs0, vs, kv, hdo⟩ := I1.hok d _ hd
  obtain ⟨ep, hat⟩ := hdo.dictAt
  have lk : kvs.length = vs.length := Paired.length kv
  have I2 : Inv X pins σ H1 { s1 with heap := s1.heap.push { cls := .type "dict_values", data := .fields #[.ref d] } } := I1.kept (t' := s1.toks) fun b ob q => Heap.get?_push_of_some _ q
  refine ⟨hdo.typeIs, hdo.mapOf.noDict, ?_⟩
  show wpAny _ _ (callWith cpos (.builtin "dict.values") [.ref d] [] []) _ X.xe s1
  refine method_meetsIn F.slot_dict_values F.entry_dict_values rfl (PySem.evalArgs_none ⟨rfl, hdo.typeIs, F.args_dict_values_1 _, _, meets_dict_values (mixKind X.prog X.w) d hs0, ⟨vs, hdo⟩, ?_⟩)
  refine Calls.spliced_nil ?_
  refine PySem.W.kdl_call (PySem.W.kdl_values (knd := mixKind X.prog X.w) (kvs := vs) (ep := ep)) (I1.ok.hd hc) ⟨⟨_, Heap.get?_push_size _ rfl, rfl, rfl⟩, hat.push _⟩ (by omega) fun h' tk acc c hk hS hacc => ?_
  have hvals : acc.toList = vs.map (·.2) := by
    apply List.ext_getElem?
    intro i
    rw [List.getElem?_map, Array.getElem?_toList]
    cases ei : acc[i]? with
    | none =>
      have : vs.length ≤ i := by rw [Array.getElem?_eq_none_iff, hacc.1] at ei; exact ei
      rw [List.getElem?_eq_none this]; rfl
    | some v =>
      obtain ⟨k, hk2⟩ := hacc.2 i v ei
      rw [hk2]; rfl
  have I3 := I2.laid (t' := tk) (o := .lst (kvs.map (·.2))) hk (Nat.le_refl _) ⟨by rw [List.length_map]; exact hz, vs.map (·.2), c, kv_vals kv, by rw [hS]; rw [← hvals]⟩
  exact ⟨.ref _, _, I3, rfl, q _ (I2.hok.fresh (Nat.le_refl _))⟩
end
end L2
namespace L2
open PySem PySem.Spec PyProof.Rows
def tFin0 (tb tf : TS) : TS := fun D σ H => tb ⟨fun σ1 H1 => tf D σ1 H1, fun _ _ => False, fun _ _ => False, fun _ _ => False⟩ σ H
theorem ps_fin0 {X : Cx} {body : List Stmt} {f₀ : Stmt} {fs : List Stmt} {pos : Pos} {tb tf : TS} (hb : PSs X.nox body tb) (hf : PSs X.nox (f₀ :: fs) tf) : PS X (.Try body [] [] (f₀ :: fs) pos) (tFin0 tb tf) := by
  refine ⟨fun pins s σ H D I h => ?_⟩
  refine wpAny_Try_finally ?_
  refine wpAny_mono (hb.run pins s σ H _ (I.wish _) h) (fun g s1 z => ?_) fun _ _ e => False.elim e
  cases g with
  | ret u =>
    obtain ⟨_, _, _, _, _, q⟩ := z
    exact False.elim q
  | brk =>
    obtain ⟨_, _, _, q⟩ := z
    exact False.elim q
  | cont =>
    obtain ⟨_, _, _, q⟩ := z
    exact False.elim q
  | next =>
    obtain ⟨σ1, H1, J1, q1⟩ := z
    refine wpAny_execs_nil ?_
    refine wpAny_mono (hf.run pins s1 σ1 H1 D (J1.unwish.wish _) q1) (fun g2 s2 q2 => ?_) fun _ _ e => False.elim e
    have q3 : SP X pins D g2 s2 := q2.unwish
    cases g2 <;> exact q3
end L2
set_option maxHeartbeats 4000000

namespace Tr
open PySem L2 OXB
abbrev s_NoName___init__ : Stmt := (inClass (top 3) 0)
abbrev N_NoName___init__ : List Str := ["self", "name"]
theorem sc_NoName___init__ : FnScope ["self", "name"] ["self", "name"] (defScope s_NoName___init__) := ⟨rfl, rfl, rfl, by decide +kernel, rfl, by decide +kernel, by decide +kernel⟩
abbrev s_Taken___init__ : Stmt := (inClass (top 4) 0)
abbrev N_Taken___init__ : List Str := ["self", "name"]
theorem sc_Taken___init__ : FnScope ["self", "name"] ["self", "name"] (defScope s_Taken___init__) := ⟨rfl, rfl, rfl, by decide +kernel, rfl, by decide +kernel, by decide +kernel⟩
abbrev s_TooLong___init__ : Stmt := (inClass (top 5) 0)
abbrev N_TooLong___init__ : List Str := ["self", "cells"]
theorem sc_TooLong___init__ : FnScope ["self", "cells"] ["self", "cells"] (defScope s_TooLong___init__) := ⟨rfl, rfl, rfl, by decide +kernel, rfl, by decide +kernel, by decide +kernel⟩
abbrev s_Misplaced___init__ : Stmt := (inClass (top 6) 0)
abbrev N_Misplaced___init__ : List Str := ["self", "name"]
theorem sc_Misplaced___init__ : FnScope ["self", "name"] ["self", "name"] (defScope s_Misplaced___init__) := ⟨rfl, rfl, rfl, by decide +kernel, rfl, by decide +kernel, by decide +kernel⟩
abbrev s_Busy___init__ : Stmt := (inClass (top 7) 0)
abbrev N_Busy___init__ : List Str := ["self", "name"]
theorem sc_Busy___init__ : FnScope ["self", "name"] ["self", "name"] (defScope s_Busy___init__) := ⟨rfl, rfl, rfl, by decide +kernel, rfl, by decide +kernel, by decide +kernel⟩
abbrev s_Thing___init__ : Stmt := (inClass (top 10) 0)
abbrev N_Thing___init__ : List Str := ["self", "desk", "name"]
theorem sc_Thing___init__ : FnScope ["self", "desk", "name"] ["self", "desk", "name"] (defScope s_Thing___init__) := ⟨rfl, rfl, rfl, by decide +kernel, rfl, by decide +kernel, by decide +kernel⟩
abbrev s_Frame___init__ : Stmt := (inClass (top 9) 0)
abbrev N_Frame___init__ : List Str := ["self", "owner", "is_answer"]
theorem sc_Frame___init__ : FnScope ["self", "owner", "is_answer"] ["self", "owner", "is_answer"] (defScope s_Frame___init__) := ⟨rfl, rfl, rfl, by decide +kernel, rfl, by decide +kernel, by decide +kernel⟩
abbrev s_Cell___call__ : Stmt := (inClass (top 11) 1)
abbrev N_Cell___call__ : List Str := ["self"]
theorem sc_Cell___call__ : FnScope ["self"] ["self"] (defScope s_Cell___call__) := ⟨rfl, rfl, rfl, by decide +kernel, rfl, by decide +kernel, by decide +kernel⟩
abbrev s_Cell_put : Stmt := (inClass (top 11) 4)
abbrev N_Cell_put : List Str := ["self", "value"]
theorem sc_Cell_put : FnScope ["self", "value"] ["self", "value"] (defScope s_Cell_put) := ⟨rfl, rfl, rfl, by decide +kernel, rfl, by decide +kernel, by decide +kernel⟩
abbrev s_Cell_worth_now : Stmt := (inClass (top 11) 5)
abbrev N_Cell_worth_now : List Str := ["self"]
theorem sc_Cell_worth_now : FnScope ["self"] ["self"] (defScope s_Cell_worth_now) := ⟨rfl, rfl, rfl, by decide +kernel, rfl, by decide +kernel, by decide +kernel⟩
abbrev s_Cell___iadd__ : Stmt := (inClass (top 11) 6)
abbrev N_Cell___iadd__ : List Str := ["self", "number"]
theorem sc_Cell___iadd__ : FnScope ["self", "number"] ["self", "number"] (defScope s_Cell___iadd__) := ⟨rfl, rfl, rfl, by decide +kernel, rfl, by decide +kernel, by decide +kernel⟩
abbrev s_Runner_is_out_of_order : Stmt := (inClass (top 12) 1)
abbrev N_Runner_is_out_of_order : List Str := ["self", "name", "worth"]
theorem sc_Runner_is_out_of_order : FnScope ["self", "name", "worth"] ["self"] (defScope s_Runner_is_out_of_order) := ⟨rfl, rfl, rfl, by decide +kernel, rfl, by decide +kernel, by decide +kernel⟩
abbrev s_Runner_run_work : Stmt := (inClass (top 12) 2)
abbrev N_Runner_run_work : List Str := ["self", "is_answer", "desk", "frame", "before", "told"]
theorem sc_Runner_run_work : FnScope ["self", "is_answer", "desk", "frame", "before", "told"] ["self", "is_answer"] (defScope s_Runner_run_work) := ⟨rfl, rfl, rfl, by decide +kernel, rfl, by decide +kernel, by decide +kernel⟩
abbrev s_Kept___call__ : Stmt := (inClass (top 13) 1)
abbrev N_Kept___call__ : List Str := ["self", "worth"]
theorem sc_Kept___call__ : FnScope ["self", "worth"] ["self"] (defScope s_Kept___call__) := ⟨rfl, rfl, rfl, by decide +kernel, rfl, by decide +kernel, by decide +kernel⟩
abbrev s_Kept_worth_now : Stmt := (inClass (top 13) 3)
abbrev N_Kept_worth_now : List Str := ["self", "worth"]
theorem sc_Kept_worth_now : FnScope ["self", "worth"] ["self"] (defScope s_Kept_worth_now) := ⟨rfl, rfl, rfl, by decide +kernel, rfl, by decide +kernel, by decide +kernel⟩
abbrev s_Effect___call__ : Stmt := (inClass (top 14) 1)
abbrev N_Effect___call__ : List Str := ["self", "told"]
theorem sc_Effect___call__ : FnScope ["self", "told"] ["self"] (defScope s_Effect___call__) := ⟨rfl, rfl, rfl, by decide +kernel, rfl, by decide +kernel, by decide +kernel⟩
abbrev s_Effect_run_once : Stmt := (inClass (top 14) 2)
abbrev N_Effect_run_once : List Str := ["self", "told"]
theorem sc_Effect_run_once : FnScope ["self", "told"] ["self"] (defScope s_Effect_run_once) := ⟨rfl, rfl, rfl, by decide +kernel, rfl, by decide +kernel, by decide +kernel⟩
abbrev s_Desk___init__ : Stmt := (inClass (top 15) 1)
abbrev N_Desk___init__ : List Str := ["self"]
theorem sc_Desk___init__ : FnScope ["self"] ["self"] (defScope s_Desk___init__) := ⟨rfl, rfl, rfl, by decide +kernel, rfl, by decide +kernel, by decide +kernel⟩
abbrev s_Desk_check_placed : Stmt := (inClass (top 15) 2)
abbrev N_Desk_check_placed : List Str := ["self"]
theorem sc_Desk_check_placed : FnScope ["self"] ["self"] (defScope s_Desk_check_placed) := ⟨rfl, rfl, rfl, by decide +kernel, rfl, by decide +kernel, by decide +kernel⟩
abbrev s_Desk_is_under_way : Stmt := (inClass (top 15) 3)
abbrev N_Desk_is_under_way : List Str := ["self", "name", "frame"]
theorem sc_Desk_is_under_way : FnScope ["self", "name", "frame"] ["self", "name"] (defScope s_Desk_is_under_way) := ⟨rfl, rfl, rfl, by decide +kernel, rfl, by decide +kernel, by decide +kernel⟩
abbrev s_Desk_note : Stmt := (inClass (top 15) 4)
abbrev N_Desk_note : List Str := ["self", "name", "worth", "frame"]
theorem sc_Desk_note : FnScope ["self", "name", "worth", "frame"] ["self", "name", "worth"] (defScope s_Desk_note) := ⟨rfl, rfl, rfl, by decide +kernel, rfl, by decide +kernel, by decide +kernel⟩
abbrev s_Desk_use_name : Stmt := (inClass (top 15) 5)
abbrev N_Desk_use_name : List Str := ["self", "name"]
theorem sc_Desk_use_name : FnScope ["self", "name"] ["self", "name"] (defScope s_Desk_use_name) := ⟨rfl, rfl, rfl, by decide +kernel, rfl, by decide +kernel, by decide +kernel⟩
abbrev s_Desk_cell : Stmt := (inClass (top 15) 6)
abbrev N_Desk_cell : List Str := ["self", "name", "value", "made"]
theorem sc_Desk_cell : FnScope ["self", "name", "value", "made"] ["self", "name", "value"] (defScope s_Desk_cell) := ⟨rfl, rfl, rfl, by decide +kernel, rfl, by decide +kernel, by decide +kernel⟩
abbrev s_Desk_kept : Stmt := (inClass (top 15) 7)
abbrev N_Desk_kept : List Str := ["self", "name", "work", "made"]
theorem sc_Desk_kept : FnScope ["self", "name", "work", "made"] ["self", "name", "work"] (defScope s_Desk_kept) := ⟨rfl, rfl, rfl, by decide +kernel, rfl, by decide +kernel, by decide +kernel⟩
abbrev s_Desk_effect : Stmt := (inClass (top 15) 8)
abbrev N_Desk_effect : List Str := ["self", "name", "work", "made"]
theorem sc_Desk_effect : FnScope ["self", "name", "work", "made"] ["self", "name", "work"] (defScope s_Desk_effect) := ⟨rfl, rfl, rfl, by decide +kernel, rfl, by decide +kernel, by decide +kernel⟩
abbrev s_Desk_settle : Stmt := (inClass (top 15) 9)
abbrev N_Desk_settle : List Str := ["self", "turn", "due", "effect", "name"]
theorem sc_Desk_settle : FnScope ["self", "turn", "due", "effect", "name"] ["self"] (defScope s_Desk_settle) := ⟨rfl, rfl, rfl, by decide +kernel, rfl, by decide +kernel, by decide +kernel⟩
abbrev s_Desk___getitem__ : Stmt := (inClass (top 15) 13)
abbrev N_Desk___getitem__ : List Str := ["self", "name", "cell"]
theorem sc_Desk___getitem__ : FnScope ["self", "name", "cell"] ["self", "name"] (defScope s_Desk___getitem__) := ⟨rfl, rfl, rfl, by decide +kernel, rfl, by decide +kernel, by decide +kernel⟩
abbrev s_Desk___setitem__ : Stmt := (inClass (top 15) 14)
abbrev N_Desk___setitem__ : List Str := ["self", "name", "worth", "cell"]
theorem sc_Desk___setitem__ : FnScope ["self", "name", "worth", "cell"] ["self", "name", "worth"] (defScope s_Desk___setitem__) := ⟨rfl, rfl, rfl, by decide +kernel, rfl, by decide +kernel, by decide +kernel⟩
abbrev s_Desk___contains__ : Stmt := (inClass (top 15) 15)
abbrev N_Desk___contains__ : List Str := ["self", "thing"]
theorem sc_Desk___contains__ : FnScope ["self", "thing"] ["self", "thing"] (defScope s_Desk___contains__) := ⟨rfl, rfl, rfl, by decide +kernel, rfl, by decide +kernel, by decide +kernel⟩
abbrev s_Desk___iter__ : Stmt := (inClass (top 15) 16)
abbrev N_Desk___iter__ : List Str := ["self"]
theorem sc_Desk___iter__ : FnScope ["self"] ["self"] (defScope s_Desk___iter__) := ⟨rfl, rfl, rfl, by decide +kernel, rfl, by decide +kernel, by decide +kernel⟩
abbrev s_Desk___len__ : Stmt := (inClass (top 15) 17)
abbrev N_Desk___len__ : List Str := ["self"]
theorem sc_Desk___len__ : FnScope ["self"] ["self"] (defScope s_Desk___len__) := ⟨rfl, rfl, rfl, by decide +kernel, rfl, by decide +kernel, by decide +kernel⟩

abbrev s_Cell___init__ : Stmt := (inClass (top 11) 0)
abbrev s_Cell_valueG : Stmt := (inClass (top 11) 2)
theorem sc_Cell_valueG : FnScope ["self"] ["self"] (defScope s_Cell_valueG) := ⟨rfl, rfl, rfl, by decide +kernel, rfl, by decide +kernel, by decide +kernel⟩
abbrev s_Runner___init__ : Stmt := (inClass (top 12) 0)
abbrev s_Kept___init__ : Stmt := (inClass (top 13) 0)
abbrev s_Kept_heldG : Stmt := (inClass (top 13) 2)
theorem sc_Kept_heldG : FnScope ["self"] ["self"] (defScope s_Kept_heldG) := ⟨rfl, rfl, rfl, by decide +kernel, rfl, by decide +kernel, by decide +kernel⟩
abbrev s_Effect___init__ : Stmt := (inClass (top 14) 0)
/-- what the top has made of the desk -/
structure Tu (P : Program) (K : PySem.W.Frag) (mg : Str → Option Value) (a : Nat → Addr) (fd : Nat → FuncData) (tk : Nat → Tok) : Prop where
  b_len : mg "len" = none
  b_iter : mg "iter" = none
  b_list : mg "list" = none
  b_range : mg "range" = none
  b_tuple : mg "tuple" = none
  b_RuntimeError : mg "RuntimeError" = none
  g_TrackedError : mg "TrackedError" = some (.ref (a 24))
  cr_TrackedError : ClX.CRead K (a 24) (.type "type")
  vi_TrackedError : PySem.W.findCls K (.ref (a 24)) (.type "type") "__init__" = some (.val (.builtin "ValueError.__init__"))
  vi_RuntimeError : PySem.W.findCls K (.type "RuntimeError") (.type "type") "__init__" = some (.val (.builtin "RuntimeError.__init__"))
  g_Desk : mg "Desk" = some (.ref (a 3))
  g_Cell : mg "Cell" = some (.ref (a 2))
  g_Kept : mg "Kept" = some (.ref (a 40))
  g_Frame : mg "Frame" = some (.ref (a 49))
  g_Runner : mg "Runner" = some (.ref (a 53))
  g_Effect : mg "Effect" = some (.ref (a 60))
  cl_Cell : Cls K (a 2)
  cl_Desk : Cls K (a 3)
  cl_Kept : Cls K (a 40)
  cl_Frame : Cls K (a 49)
  cl_Effect : Cls K (a 60)
  f_Cell : ∀ f, f ∈ (["desk", "name", "now"] : List Str) → NoAttr K (a 2) f
  f_Desk : ∀ f, f ∈ (["used_names", "cells", "readable", "effects", "log", "frames", "batches", "moved"] : List Str) → NoAttr K (a 3) f
  f_Kept : ∀ f, f ∈ (["desk", "name", "work", "noted", "runs", "kept_worth", "has_worth"] : List Str) → NoAttr K (a 40) f
  f_Frame : ∀ f, f ∈ (["owner", "is_answer", "is_hushed", "noted"] : List Str) → NoAttr K (a 49) f
  f_Effect : ∀ f, f ∈ (["desk", "name", "work", "noted", "runs", "report"] : List Str) → NoAttr K (a 60) f
  F_Thing___init__ : Fun K "__init__" "Thing.__init__" s_Thing___init__ (a 4) (fd 4)
  F_Cell___init__ : FunS P K mg (a 2) "__init__" "Cell.__init__" s_Cell___init__ (a 5) (fd 5)
  sc_Cell : SupC K (a 2) (a 2) (a 4)
  mk_Cell : L2.Mk K (a 2) (a 5)
  F_Cell___call__ : Fun K "__call__" "Cell.__call__" s_Cell___call__ (a 6) (fd 6)
  o_Cell___call__ : OwnM K (a 2) "__call__" (a 6)
  p_Cell_value : PropOf K (a 2) "value" (a 7) (a 8)
  F_Cell_value : Fun K "value" "Cell.value" s_Cell_valueG (a 8) (fd 8)
  m_Cell_put : Meth K (a 2) "put" (a 9)
  F_Cell_put : Fun K "put" "Cell.put" s_Cell_put (a 9) (fd 9)
  m_Cell_worth_now : Meth K (a 2) "worth_now" (a 25)
  F_Cell_worth_now : Fun K "worth_now" "Cell.worth_now" s_Cell_worth_now (a 25) (fd 25)
  mk_Desk : L2.Mk K (a 3) (a 11)
  F_Desk___init__ : Fun K "__init__" "Desk.__init__" s_Desk___init__ (a 11) (fd 11)
  m_Desk_check_placed : Meth K (a 3) "check_placed" (a 12)
  F_Desk_check_placed : Fun K "check_placed" "Desk.check_placed" s_Desk_check_placed (a 12) (fd 12)
  m_Desk_note : Meth K (a 3) "note" (a 13)
  F_Desk_note : Fun K "note" "Desk.note" s_Desk_note (a 13) (fd 13)
  m_Desk_use_name : Meth K (a 3) "use_name" (a 14)
  F_Desk_use_name : Fun K "use_name" "Desk.use_name" s_Desk_use_name (a 14) (fd 14)
  m_Desk_cell : Meth K (a 3) "cell" (a 15)
  F_Desk_cell : Fun K "cell" "Desk.cell" s_Desk_cell (a 15) (fd 15)
  m_Desk_settle : Meth K (a 3) "settle" (a 16)
  F_Desk_settle : Fun K "settle" "Desk.settle" s_Desk_settle (a 16) (fd 16)
  k_MOST_RUNS : Con K (a 3) "MOST_RUNS" (.int 100) (.int 100 (tk 0))
  o_Desk___iter__ : OwnM K (a 3) "__iter__" (a 20)
  F_Desk___iter__ : Fun K "__iter__" "Desk.__iter__" s_Desk___iter__ (a 20) (fd 20)
  o_Desk___len__ : OwnM K (a 3) "__len__" (a 21)
  F_Desk___len__ : Fun K "__len__" "Desk.__len__" s_Desk___len__ (a 21) (fd 21)
  m_Desk_kept : Meth K (a 3) "kept" (a 51)
  F_Desk_kept : Fun K "kept" "Desk.kept" s_Desk_kept (a 51) (fd 51)
  m_Desk_is_under_way : Meth K (a 3) "is_under_way" (a 52)
  F_Desk_is_under_way : Fun K "is_under_way" "Desk.is_under_way" s_Desk_is_under_way (a 52) (fd 52)
  mk_Frame : L2.Mk K (a 49) (a 50)
  F_Frame___init__ : Fun K "__init__" "Frame.__init__" s_Frame___init__ (a 50) (fd 50)
  mk_Kept : L2.Mk K (a 40) (a 41)
  F_Kept___init__ : FunS P K mg (a 40) "__init__" "Kept.__init__" s_Kept___init__ (a 41) (fd 41)
  sc_Kept : SupC K (a 40) (a 40) (a 46)
  F_Runner___init__ : FunS P K mg (a 53) "__init__" "Runner.__init__" s_Runner___init__ (a 46) (fd 46)
  sc_Runner : SupC K (a 53) (a 40) (a 4)
  o_Kept___call__ : OwnM K (a 40) "__call__" (a 42)
  F_Kept___call__ : Fun K "__call__" "Kept.__call__" s_Kept___call__ (a 42) (fd 42)
  p_Kept_held : PropOf K (a 40) "held" (a 43) (a 44)
  F_Kept_held : Fun K "held" "Kept.held" s_Kept_heldG (a 44) (fd 44)
  m_Kept_worth_now : Meth K (a 40) "worth_now" (a 45)
  F_Kept_worth_now : Fun K "worth_now" "Kept.worth_now" s_Kept_worth_now (a 45) (fd 45)
  m_Kept_is_out_of_order : Meth K (a 40) "is_out_of_order" (a 47)
  F_Runner_is_out_of_order : Fun K "is_out_of_order" "Runner.is_out_of_order" s_Runner_is_out_of_order (a 47) (fd 47)
  m_Kept_run_work : Meth K (a 40) "run_work" (a 48)
  F_Runner_run_work : Fun K "run_work" "Runner.run_work" s_Runner_run_work (a 48) (fd 48)
  mk_Effect : L2.Mk K (a 60) (a 61)
  F_Effect___init__ : FunS P K mg (a 60) "__init__" "Effect.__init__" s_Effect___init__ (a 61) (fd 61)
  sc_Effect : SupC K (a 60) (a 60) (a 46)
  sc_RunnerE : SupC K (a 53) (a 60) (a 4)
  o_Effect___call__ : OwnM K (a 60) "__call__" (a 62)
  F_Effect___call__ : Fun K "__call__" "Effect.__call__" s_Effect___call__ (a 62) (fd 62)
  m_Effect_run_once : Meth K (a 60) "run_once" (a 63)
  F_Effect_run_once : Fun K "run_once" "Effect.run_once" s_Effect_run_once (a 63) (fd 63)
  m_Effect_is_out_of_order : Meth K (a 60) "is_out_of_order" (a 47)
  m_Effect_run_work : Meth K (a 60) "run_work" (a 48)
  m_Desk_effect : Meth K (a 3) "effect" (a 64)
  F_Desk_effect : Fun K "effect" "Desk.effect" s_Desk_effect (a 64) (fd 64)
  g_NoName : mg "NoName" = some (.ref (a 22))
  ox_NoName : OexB K (a 22) xbV
  xf_NoName : XfC K (a 22)
  no_NoName_name : PySem.W.findIn K (.ref (a 22)) "name" = some none
  ini_NoName : PySem.W.findIn K (.ref (a 22)) "__init__" = some (some (.ref (a 23)))
  inf_NoName : PySem.W.typeIn K (.ref (a 23)) = some (.type "function")
  F_NoName___init__ : Fun K "__init__" "NoName.__init__" s_NoName___init__ (a 23) (fd 23)
  g_Taken : mg "Taken" = some (.ref (a 70))
  ox_Taken : OexB K (a 70) xbV
  xf_Taken : XfC K (a 70)
  no_Taken_name : PySem.W.findIn K (.ref (a 70)) "name" = some none
  ini_Taken : PySem.W.findIn K (.ref (a 70)) "__init__" = some (some (.ref (a 71)))
  inf_Taken : PySem.W.typeIn K (.ref (a 71)) = some (.type "function")
  F_Taken___init__ : Fun K "__init__" "Taken.__init__" s_Taken___init__ (a 71) (fd 71)
  g_TooLong : mg "TooLong" = some (.ref (a 72))
  ox_TooLong : OexB K (a 72) xbR
  xf_TooLong : XfC K (a 72)
  no_TooLong_cells : PySem.W.findIn K (.ref (a 72)) "cells" = some none
  ini_TooLong : PySem.W.findIn K (.ref (a 72)) "__init__" = some (some (.ref (a 73)))
  inf_TooLong : PySem.W.typeIn K (.ref (a 73)) = some (.type "function")
  F_TooLong___init__ : Fun K "__init__" "TooLong.__init__" s_TooLong___init__ (a 73) (fd 73)
  g_Misplaced : mg "Misplaced" = some (.ref (a 74))
  ox_Misplaced : OexB K (a 74) xbR
  xf_Misplaced : XfC K (a 74)
  no_Misplaced_name : PySem.W.findIn K (.ref (a 74)) "name" = some none
  ini_Misplaced : PySem.W.findIn K (.ref (a 74)) "__init__" = some (some (.ref (a 75)))
  inf_Misplaced : PySem.W.typeIn K (.ref (a 75)) = some (.type "function")
  F_Misplaced___init__ : Fun K "__init__" "Misplaced.__init__" s_Misplaced___init__ (a 75) (fd 75)
  g_Busy : mg "Busy" = some (.ref (a 76))
  ox_Busy : OexB K (a 76) xbR
  xf_Busy : XfC K (a 76)
  no_Busy_name : PySem.W.findIn K (.ref (a 76)) "name" = some none
  ini_Busy : PySem.W.findIn K (.ref (a 76)) "__init__" = some (some (.ref (a 77)))
  inf_Busy : PySem.W.typeIn K (.ref (a 77)) = some (.type "function")
  F_Busy___init__ : Fun K "__init__" "Busy.__init__" s_Busy___init__ (a 77) (fd 77)
section
variable {P : Program} {w : World} {K : PySem.W.Frag} {mg : Str → Option Value} {base : Heap} {a : Nat → Addr} {fd : Nat → FuncData} {tk : Nat → Tok}
theorem Tu.ce (T : Tu P K mg a fd tk) {f : Str} (h : f ∈ (["desk", "name", "now"] : List Str)) : FldOk K (a 2) f := ⟨T.cl_Cell, T.f_Cell f h⟩
theorem Tu.de (T : Tu P K mg a fd tk) {f : Str} (h : f ∈ (["used_names", "cells", "readable", "effects", "log", "frames", "batches", "moved"] : List Str)) : FldOk K (a 3) f := ⟨T.cl_Desk, T.f_Desk f h⟩
theorem Tu.ke (T : Tu P K mg a fd tk) {f : Str} (h : f ∈ (["desk", "name", "work", "noted", "runs", "kept_worth", "has_worth"] : List Str)) : FldOk K (a 40) f := ⟨T.cl_Kept, T.f_Kept f h⟩
theorem Tu.fe (T : Tu P K mg a fd tk) {f : Str} (h : f ∈ (["owner", "is_answer", "is_hushed", "noted"] : List Str)) : FldOk K (a 49) f := ⟨T.cl_Frame, T.f_Frame f h⟩
theorem Tu.ee (T : Tu P K mg a fd tk) {f : Str} (h : f ∈ (["desk", "name", "work", "noted", "runs", "report"] : List Str)) : FldOk K (a 60) f := ⟨T.cl_Effect, T.f_Effect f h⟩
local macro_rules | `(tactic| walk_at "ne") => `(tactic| first | assumption | (exact Ne.symm (by assumption)) | (refine ne_of_none (by assumption) (by assumption)) | (refine Ne.symm (ne_of_none (by assumption) (by assumption))))
local macro_rules | `(tactic| walk_at "hl") => `(tactic| first | assumption | with_reducible exact upd_same | ((with_reducible refine' Eq.trans (upd_ne ?hne) ?hrest); (case hne => walk_at "ne"); (case hrest => walk_at "hl")) | (refine' get_same ?hs ?hg; (case hs => assumption); (case hg => assumption)))
local macro_rules | `(tactic| walk_at "at") => `(tactic| first | with_reducible exact atI_0 _ _ | with_reducible exact atI_1 _ _ _ | with_reducible exact atI_2 _ _ _ _ | with_reducible exact atI_3 _ _ _ _ _ | assumption)
local macro_rules | `(tactic| walk_at "rd1") => `(tactic| first
  | with_reducible refine s_seq ?_ | with_reducible refine s_next ?_ | with_reducible refine s_if ?_ | with_reducible refine s_ret ?_ | with_reducible refine s_retN ?_ | with_reducible refine s_drop ?_ | with_reducible refine s_asg ?_ | with_reducible refine s_brk ?_ | with_reducible refine s_cont ?_
  | with_reducible refine s_gname ?_ | with_reducible refine s_c ?_ | with_reducible refine s_op ?_ | with_reducible refine s_un ?_ | with_reducible refine s_neg ?_ | with_reducible refine s_test ?_ | with_reducible refine s_tb ?_ | with_reducible refine s_not ?_ | with_reducible refine s_and ?_ | with_reducible refine s_or ?_ | with_reducible refine s_yes ?_
  | ((with_reducible refine' s_var ?hv ?_); (case hv => exact rfl))
  | with_reducible refine s_ifx ?_ | with_reducible refine s_andV ?_ | with_reducible refine s_orV ?_ | with_reducible refine s_notV ?_ | with_reducible refine s_chain ?_ | with_reducible refine s_nil ?_ | with_reducible refine s_cons ?_ | with_reducible refine s_lst ?_ | with_reducible refine s_tup ?_ | with_reducible refine s_cb ?_ | with_reducible refine s_call ?_ | with_reducible refine s_meth ?_ | with_reducible refine s_make ?_
  | with_reducible refine s_dnewK ?_ | with_reducible refine s_sl ?_ | with_reducible refine s_po0 ?_ | with_reducible refine s_po1 ?_ | with_reducible refine s_bm ?_ | with_reducible refine s_bm0 ?_
  | with_reducible refine s_bl ?_ | with_reducible refine s_int ?_ | with_reducible refine s_I0 ?_ | with_reducible refine s_addI ?_ | with_reducible refine s_intI ?_ | with_reducible refine s_intB ?_
  | with_reducible refine s_m1 ?_ | with_reducible refine s_lc ?_ | with_reducible refine s_ilist ?_ | with_reducible refine s_for ?_ | with_reducible refine s_irng ?_ | with_reducible refine s_match ?_ | with_reducible refine s_starT ?_ | with_reducible refine s_isS ?_ | with_reducible refine s_isiSS ?_ | with_reducible refine s_fldU ?_ | with_reducible refine s_sfldU ?_
  | ((with_reducible refine' s_eqS ?hq ?_); (case hq => exact rfl)) | ((with_reducible refine' s_neS ?hq ?_); (case hq => exact rfl))
  | ((with_reducible refine' s_isN ?hq ?_); (case hq => exact rfl)) | ((with_reducible refine' s_notN ?hq ?_); (case hq => exact rfl))
  | ((with_reducible refine' s_eqNil ?h1 ?h2 ?_); (case h1 => walk_at "hl"); (case h2 => walk_at "hl")) | ((with_reducible refine' s_neNil ?h1 ?h2 ?_); (case h1 => walk_at "hl"); (case h2 => walk_at "hl"))
  | ((with_reducible refine' s_ixL ?h1 ?h2 ?_); (case h1 => walk_at "hl"); (case h2 => walk_at "at")) | ((with_reducible refine' s_ixT ?h1 ?h2 ?_); (case h1 => walk_at "hl"); (case h2 => walk_at "at"))
  | ((with_reducible refine' s_inS ?h1 ?_); (case h1 => walk_at "hl")) | ((with_reducible refine' s_ninS ?h1 ?_); (case h1 => walk_at "hl")) | with_reducible refine s_inW ?_
  | ((with_reducible refine' s_lenL ?h1 ?_); (case h1 => walk_at "hl")) | ((with_reducible refine' s_lenT ?h1 ?_); (case h1 => walk_at "hl"))
  | ((with_reducible refine' s_tyL ?h1 ?_); (case h1 => walk_at "hl"))
  | ((with_reducible refine' s_fldM ?h1 ?h2 ?h3 ?_); (case h1 => walk_at "hl"); (case h2 => walk_at "fok"); (case h3 => walk_at "flk"))
  | ((with_reducible refine' s_setM ?h1 ?h2 ?h3 ?h4 ?_); (case h1 => walk_at "hl"); (case h2 => walk_at "fok"); (case h4 => walk_at "put"); (case h3 => exact Nat.le_of_ble_eq_true rfl))
  | ((with_reducible refine' s_starM ?h1 ?_); (case h1 => walk_at "hl"))
  | ((with_reducible refine' s_recv ?h1 ?h2 ?_); (case h1 => walk_at "hl"); (case h2 => exact rfl))
  | ((with_reducible refine' s_sz ?h1 ?_); (case h1 => (simp; done))))
local macro_rules | `(tactic| walk_at "rd") => `(tactic| repeat (walk_at "rd1"))
local macro_rules | `(tactic| walk_at "fok") => `(tactic| assumption)
local macro_rules | `(tactic| walk_at "flk") => `(tactic| rfl)
local macro_rules | `(tactic| walk_at "put") => `(tactic| exact rfl)

local macro_rules | `(tactic| walk_at "fok") => `(tactic| first | assumption | exact Tu.ce (by assumption) (by decide) | exact Tu.de (by assumption) (by decide) | exact Tu.ke (by assumption) (by decide) | exact Tu.fe (by assumption) (by decide) | exact Tu.ee (by assumption) (by decide))
theorem upd3 {H : Hp} {x n : Addr} {A o B : HO} (h : n ≠ x) : upd (upd (upd H x A) n o) x B = upd (upd H n o) x B := by
  funext b
  by_cases e : b = x
  · rw [e, upd_same, upd_same]
  · rw [upd_ne e, upd_ne e]
    by_cases e2 : b = n
    · rw [e2, upd_same, upd_same]
    · rw [upd_ne e2, upd_ne e2, upd_ne e]
theorem ixN_lastM {n : Nat} (h : 0 < n) : ixN n (-1) = some (n - 1) := by
  unfold ixN
  rw [if_neg (by omega), if_pos (by omega)]
  congr 1
  omega
theorem atI_lastM {xs : List V} {v : V} (h : xs.getLast? = some v) : atI xs (-1) = some v := by
  have h0 : 0 < xs.length := by
    cases xs with
    | nil => cases h
    | cons x l => simp
  unfold atI
  rw [ixN_lastM h0]
  show xs[xs.length - 1]? = some v
  rw [← List.getLast?_eq_getElem?]
  exact h
theorem s_dnin {σ : L2.St} {H : Hp} {Q : VK} {ty td : TE} (h : ty σ H fun y H1 => td σ H1 fun x H2 => ∃ a o, x = .ref a ∧ DGet H2 a y o ∧ Q (.bl (!o.isSome)) H2) : tDNotIn ty td σ H Q := h
theorem s_dput {σ : L2.St} {H : Hp} {td ty tv : TE} {na : L2.St → Hp → Prop} {rt : VK} {bk ct : L2.St → Hp → Prop} (h : tv σ H fun v H1 => td σ H1 fun x H2 => ty σ H2 fun y H3 => ∃ a H4, x = .ref a ∧ DPut H3 a y v H4 ∧ na σ H4) : sDPut td ty tv ⟨na, rt, bk, ct⟩ σ H := h
theorem s_dget {σ : L2.St} {H : Hp} {Q : VK} {td ty : TE} (h : td σ H fun x H1 => ty σ H1 fun y H2 => ∃ a v, x = .ref a ∧ DGet H2 a y (some v) ∧ Q v H2) : tDGet td ty σ H Q := h
theorem passF {X : Cx} : Passes CX0 X (fun _ _ _ => False) := fun _ _ _ _ _ _ _ h => h.elim
theorem s_veB {b : XB} {σ : L2.St} {H : Hp} {Q : VK} {ta : TA} (h : ta σ H fun vs H1 => ∃ (a C : Addr) (ws : List V), vs = .ref a :: ws ∧ ws.length ≤ 1000 ∧ OexB K C b ∧ H1 a = some (exo a C none) ∧ Q .non H1) : tVeB K b ta σ H Q := h
theorem s_osB {b : XB} {σ : L2.St} {H : Hp} {f : Str} {to te : TE} {na : L2.St → Hp → Prop} {rt : VK} {bk ct : L2.St → Hp → Prop} (h : te σ H fun y H1 => to σ H1 fun x H2 => ∃ a C : Addr, x = .ref a ∧ OexB K C b ∧ PySem.W.findIn K (.ref C) f = some none ∧
  ((H2 a = some (exo a C none) ∧ ∀ dx, H2 dx = none → dx ≠ a → na σ (upd (upd H2 dx (exd dx [(f, y)])) a (exo a C (some dx)))) ∨
    ∃ (dx : Addr) (fs : List (Str × V)), H2 a = some (exo a C (some dx)) ∧ H2 dx = some (exd dx fs) ∧ fs.length ≤ 900 ∧ na σ (upd H2 dx (exd dx ((f, y) :: fs))))) : tOsB K b f to te ⟨na, rt, bk, ct⟩ σ H := h
def spX1 (C : Addr) (f : Str) : Sp := fun vs H Q _ => ∃ (x : Addr) (v : V), vs = [.ref x, v] ∧ H x = some (exo x C none) ∧ ∀ d, H d = none → d ≠ x → Q .non (upd (upd H d (exd d [(f, v)])) x (exo x C (some d)))
theorem s_mkO {σ : L2.St} {H : Hp} {C : Addr} {sp : Sp} {ta : TA} {Q : XK} (h : ta σ H fun vs H1 => vs.length ≤ 1000 ∧ ∀ a, H1 a = none → sp (.ref a :: (vs ++ [])) (upd H1 a (exo a C none))
  (fun v H2 => v = .non ∧ ∃ (d : Addr) (fs : List (Str × V)), H2 a = some (exo a C (some d)) ∧ H2 d = some (exd d fs) ∧ H1 d = none ∧ Q (.ref C) (some d) (upd (del H2 a) d (.xd fs))) (fun _ _ _ => False)) : tMkO C sp [] ta σ H Q := h
theorem s_raiseX {H : Hp} {C : Addr} {f : Str} {W : XK} {z : V} (q : ∀ d H', H d = none → Same H H' → H' d = some (.xd [(f, z)]) → W (.ref C) (some d) H') :
    ([z]).length ≤ 1000 ∧ ∀ x, H x = none → spX1 C f (.ref x :: ([z] ++ [])) (upd H x (exo x C none))
      (fun v H2 => v = .non ∧ ∃ (d : Addr) (fs : List (Str × V)), H2 x = some (exo x C (some d)) ∧ H2 d = some (exd d fs) ∧ H d = none ∧ W (.ref C) (some d) (upd (del H2 x) d (.xd fs))) (fun _ _ _ => False) := by
  refine ⟨by simp, fun x hx => ⟨x, z, rfl, upd_same, fun d hd hn => ⟨rfl, d, [(f, z)], upd_same, ?_, ?_, ?_⟩⟩⟩
  · rw [upd_ne hn]; exact upd_same
  · rw [upd_ne hn] at hd; exact hd
  · rw [upd_ne hn] at hd
    refine q d _ hd (fun b o hb => ?_) upd_same
    have b1 : b ≠ d := by rintro rfl; rw [hd] at hb; cases hb
    have b2 : b ≠ x := by rintro rfl; rw [hx] at hb; cases hb
    rw [upd_ne b1, del_ne b2, upd_ne b2, upd_ne b1, upd_ne b2]
    exact hb
theorem ok_NoName___init__ (T : Tu P K mg a fd tk) : FnOk P w K mg base CX0 1 (a 23) (fd 23) ["self", "name"] (spX1 (a 22) "name") := by
  refine T.F_NoName___init__.ok sc_NoName___init__ (fun vs H Q E h => ?_) (fun cdv A outer s H vs Q E hr h => ?_)
  · obtain ⟨x, v, rfl, _⟩ := h
    rfl
  · obtain ⟨x, v, rfl, hx, k⟩ := h
    refine ⟨_, (pss_cons (ps_expr (pe_ownInitB xbV_ok (by rfl) T.g_TrackedError T.cr_TrackedError T.vi_TrackedError (pa_cons (pv 0) (pa_cons pe_str pa_nil))))
  (pss_one (ps_ostB xbV_ok (pv 0) (pv 1)))), ?_⟩
    walk_at "rd"
    refine s_veB ?_
    walk_at "rd"
    refine ⟨x, (a 22), [_], rfl, by simp, T.ox_NoName, hx, ?_⟩
    refine s_osB ?_
    walk_at "rd"
    exact ⟨x, (a 22), rfl, T.ox_NoName, T.no_NoName_name, .inl ⟨hx, fun d hd hn => k d hd hn⟩⟩
theorem b_NoName___init__ (T : Tu P K mg a fd tk) : Binds K (fd 23) ["self", "name"] [] := T.F_NoName___init__.binds fun _ _ _ _ _ _ us hl => match us, hl with | [_, _], _ => rfl
theorem ok_Taken___init__ (T : Tu P K mg a fd tk) : FnOk P w K mg base CX0 1 (a 71) (fd 71) ["self", "name"] (spX1 (a 70) "name") := by
  refine T.F_Taken___init__.ok sc_Taken___init__ (fun vs H Q E h => ?_) (fun cdv A outer s H vs Q E hr h => ?_)
  · obtain ⟨x, v, rfl, _⟩ := h
    rfl
  · obtain ⟨x, v, rfl, hx, k⟩ := h
    refine ⟨_, (pss_cons (ps_expr (pe_ownInitB xbV_ok (by rfl) T.g_TrackedError T.cr_TrackedError T.vi_TrackedError (pa_cons (pv 0) (pa_cons pe_str pa_nil))))
  (pss_one (ps_ostB xbV_ok (pv 0) (pv 1)))), ?_⟩
    walk_at "rd"
    refine s_veB ?_
    walk_at "rd"
    refine ⟨x, (a 70), [_], rfl, by simp, T.ox_Taken, hx, ?_⟩
    refine s_osB ?_
    walk_at "rd"
    exact ⟨x, (a 70), rfl, T.ox_Taken, T.no_Taken_name, .inl ⟨hx, fun d hd hn => k d hd hn⟩⟩
theorem b_Taken___init__ (T : Tu P K mg a fd tk) : Binds K (fd 71) ["self", "name"] [] := T.F_Taken___init__.binds fun _ _ _ _ _ _ us hl => match us, hl with | [_, _], _ => rfl
theorem ok_TooLong___init__ (T : Tu P K mg a fd tk) : FnOk P w K mg base CX0 1 (a 73) (fd 73) ["self", "cells"] (spX1 (a 72) "cells") := by
  refine T.F_TooLong___init__.ok sc_TooLong___init__ (fun vs H Q E h => ?_) (fun cdv A outer s H vs Q E hr h => ?_)
  · obtain ⟨x, v, rfl, _⟩ := h
    rfl
  · obtain ⟨x, v, rfl, hx, k⟩ := h
    refine ⟨_, (pss_cons (ps_expr (pe_reinit (by rfl) T.b_RuntimeError T.vi_RuntimeError (pa_cons (pv 0) (pa_cons pe_str pa_nil))))
  (pss_one (ps_ostB xbR_ok (pv 0) (pv 1)))), ?_⟩
    walk_at "rd"
    refine s_veB ?_
    walk_at "rd"
    refine ⟨x, (a 72), [_], rfl, by simp, T.ox_TooLong, hx, ?_⟩
    refine s_osB ?_
    walk_at "rd"
    exact ⟨x, (a 72), rfl, T.ox_TooLong, T.no_TooLong_cells, .inl ⟨hx, fun d hd hn => k d hd hn⟩⟩
theorem b_TooLong___init__ (T : Tu P K mg a fd tk) : Binds K (fd 73) ["self", "cells"] [] := T.F_TooLong___init__.binds fun _ _ _ _ _ _ us hl => match us, hl with | [_, _], _ => rfl
theorem ok_Misplaced___init__ (T : Tu P K mg a fd tk) : FnOk P w K mg base CX0 1 (a 75) (fd 75) ["self", "name"] (spX1 (a 74) "name") := by
  refine T.F_Misplaced___init__.ok sc_Misplaced___init__ (fun vs H Q E h => ?_) (fun cdv A outer s H vs Q E hr h => ?_)
  · obtain ⟨x, v, rfl, _⟩ := h
    rfl
  · obtain ⟨x, v, rfl, hx, k⟩ := h
    refine ⟨_, (pss_cons (ps_expr (pe_reinit (by rfl) T.b_RuntimeError T.vi_RuntimeError (pa_cons (pv 0) (pa_cons pe_str pa_nil))))
  (pss_one (ps_ostB xbR_ok (pv 0) (pv 1)))), ?_⟩
    walk_at "rd"
    refine s_veB ?_
    walk_at "rd"
    refine ⟨x, (a 74), [_], rfl, by simp, T.ox_Misplaced, hx, ?_⟩
    refine s_osB ?_
    walk_at "rd"
    exact ⟨x, (a 74), rfl, T.ox_Misplaced, T.no_Misplaced_name, .inl ⟨hx, fun d hd hn => k d hd hn⟩⟩
theorem b_Misplaced___init__ (T : Tu P K mg a fd tk) : Binds K (fd 75) ["self", "name"] [] := T.F_Misplaced___init__.binds fun _ _ _ _ _ _ us hl => match us, hl with | [_, _], _ => rfl
theorem ok_Busy___init__ (T : Tu P K mg a fd tk) : FnOk P w K mg base CX0 1 (a 77) (fd 77) ["self", "name"] (spX1 (a 76) "name") := by
  refine T.F_Busy___init__.ok sc_Busy___init__ (fun vs H Q E h => ?_) (fun cdv A outer s H vs Q E hr h => ?_)
  · obtain ⟨x, v, rfl, _⟩ := h
    rfl
  · obtain ⟨x, v, rfl, hx, k⟩ := h
    refine ⟨_, (pss_cons (ps_expr (pe_reinit (by rfl) T.b_RuntimeError T.vi_RuntimeError (pa_cons (pv 0) (pa_cons pe_str pa_nil))))
  (pss_one (ps_ostB xbR_ok (pv 0) (pv 1)))), ?_⟩
    walk_at "rd"
    refine s_veB ?_
    walk_at "rd"
    refine ⟨x, (a 76), [_], rfl, by simp, T.ox_Busy, hx, ?_⟩
    refine s_osB ?_
    walk_at "rd"
    exact ⟨x, (a 76), rfl, T.ox_Busy, T.no_Busy_name, .inl ⟨hx, fun d hd hn => k d hd hn⟩⟩
theorem b_Busy___init__ (T : Tu P K mg a fd tk) : Binds K (fd 77) ["self", "name"] [] := T.F_Busy___init__.binds fun _ _ _ _ _ _ us hl => match us, hl with | [_, _], _ => rfl
section
variable {ω Λ : Type} {Y : LawP ω Λ}
theorem Wc.free {g : Gh} {st : SW ω Λ} {c : Cn} {H : Hp} (W : Wc a Y g st c H) {d : Addr} (n : H d = none) : ¬ g.T d ∧ ¬ g.L d :=
  ⟨(fun z => by obtain ⟨o, e, _⟩ := W.mu d z; rw [n] at e; cases e), (fun z => by obtain ⟨o, e, _⟩ := W.lo d z; rw [n] at e; cases e)⟩
/-- a raise -/
theorem Post.raise {α : Type} {g : Gh} {st : SW ω Λ} {H H' : Hp} {K : α → SW ω Λ → Gh → Hp → Prop} {E : XK} {cc : Nat} {f : Str} {v : Dt} {u : V} {d : Addr} (k : Post a Y g H K (ErQ a E) (some (.error ⟨cc, some (f, v)⟩, st))) (W : Wld a Y g st H) (nd : H d = none) (s : Same H H')
    (hd : H' d = some (.xd [(f, u)])) (hv : Dv H' u v) : E (.ref (a cc)) (some d) H' := by
  obtain ⟨c, Wcc⟩ := id W
  obtain ⟨h1, h2⟩ := Wcc.free nd
  exact k g H' (W.same s) (DStep.same s).toStep (some d) ⟨d, u, rfl, hd, hv, h1, h2⟩
def spPlacedU (a : Nat → Addr) (Y : LawP ω Λ) : Sp := fun vs H Q E => ∃ g st, vs = [.ref g.d] ∧ Wld a Y g st H ∧ Post a Y g H (UnQ Q) (ErQ a E) (placedM st)
theorem ok_Desk_check_placed (T : Tu P K mg a fd tk) : FnOk P w K mg base (L2.CX P w) 3 (a 12) (fd 12) ["self"] (spPlacedU a Y) := by
  refine T.F_Desk_check_placed.okX sc_Desk_check_placed (fun vs H Q E h => ?_) (fun cdv A outer s H vs Q E hr h => ?_)
  · obtain ⟨g, st, rfl, _⟩ := h
    rfl
  · obtain ⟨g, ⟨S, l⟩, rfl, W, k⟩ := h
    refine ⟨_, (pss_one (ps_if (PW.pt (pw_and (pt_cmpR op_gt (pe_callB uLen (by rfl) T.b_len bt_len (pa_cons (pe_fldU K (pv 0)) pa_nil)) pe_int (nomark _)) (pw_and1 (pt_val (pe_fldU K (pe_ix uIx (pe_fldU K (pv 0)) (pe_un un_neg pe_int) (fun _ _ => rfl))))))) (pss_one (ps_raise rfl (takes_of rfl rfl rfl rfl) (pmk_oexB xbR_ok T.ox_Misplaced T.ini_Misplaced T.inf_Misplaced (ok_Misplaced___init__ T) (hr.mono (by omega)) (b_Misplaced___init__ T) .nil passF (by rfl) T.g_Misplaced (pa_cons (pe_fldU K (pe_ix uIx (pe_fldU K (pv 0)) (pe_un un_neg pe_int) (fun _ _ => rfl))) pa_nil)))) pss_nil)), ?_⟩
    obtain ⟨c, Wc⟩ := id W
    have hob := Wc.desk
    have hfr := Wc.frl
    have hfl : S.frs.length = g.fas.length := Wc.ok.fl
    have b6 : S.frs.length ≤ 200 := Wc.ok.b6
    unfold placedM at k
    walk_at "rd"
    cases e : S.frs.getLast? with
    | none =>
      have e1 : S.frs = [] := by simpa using e
      have e2 : g.fas = [] := Wc.nofr.mp e1
      have k := (show Post a Y g H (UnQ Q) (ErQ a E) (some (.ok (), (S, l))) from by simp only [e] at k; exact k)
      refine ifF (by rw [e2]; rfl) ?_
      refine ifF rfl ?_
      walk_at "rd"
      exact k.ok W Step.refl
    | some f =>
      obtain ⟨i, x, h1, h2, h3, hx⟩ := Wc.last e
      have hne : g.fas ≠ [] := by rintro z; rw [z] at h2; simp at h2
      have hpos : 0 < g.fas.length := List.length_pos_iff.mpr hne
      refine ifT (by rw [List.length_map]; simp; omega) ?_
      walk_at "rd"
      refine s_ixL hfr (atI_lastM h3) ?_
      walk_at "rd"
      cases ia : f.isA with
      | false =>
        have k := (show Post a Y g H (UnQ Q) (ErQ a E) (some (.ok (), (S, l))) from by simp only [e, ia] at k; exact k)
        refine ifF rfl ?_
        walk_at "rd"
        exact k.ok W Step.refl
      | true =>
        have k := (show Post a Y g H (UnQ Q) (ErQ a E) (some (.error (eMisplaced f.own), (S, l))) from by simp only [e, ia] at k; exact k)
        refine ifT rfl ?_
        walk_at "rd"
        refine s_mkO ?_
        walk_at "rd"
        refine s_ixL hfr (atI_lastM h3) ?_
        walk_at "rd"
        exact s_raiseX fun d H' nd s hd => k.raise W nd s hd (.str _)
theorem b_Desk_check_placed (T : Tu P K mg a fd tk) : Binds K (fd 12) ["self"] [] := T.F_Desk_check_placed.binds fun _ _ _ _ _ _ us hl => match us, hl with | [_], _ => rfl
end
end
end Tr
set_option maxHeartbeats 4000000

namespace Tr
open PySem L2 OXB
section
variable {P : Program} {w : World} {K : PySem.W.Frag} {mg : Str → Option Value} {base : Heap} {a : Nat → Addr} {fd : Nat → FuncData} {tk : Nat → Tok}
local macro_rules | `(tactic| walk_at "ne") => `(tactic| first | assumption | (exact Ne.symm (by assumption)) | (refine ne_of_none (by assumption) (by assumption)) | (refine Ne.symm (ne_of_none (by assumption) (by assumption))))
local macro_rules | `(tactic| walk_at "hl") => `(tactic| first | assumption | with_reducible exact upd_same | ((with_reducible refine' Eq.trans (upd_ne ?hne) ?hrest); (case hne => walk_at "ne"); (case hrest => walk_at "hl")) | (refine' get_same ?hs ?hg; (case hs => assumption); (case hg => assumption)))
local macro_rules | `(tactic| walk_at "at") => `(tactic| first | with_reducible exact atI_0 _ _ | with_reducible exact atI_1 _ _ _ | with_reducible exact atI_2 _ _ _ _ | with_reducible exact atI_3 _ _ _ _ _ | assumption)
local macro_rules | `(tactic| walk_at "rd1") => `(tactic| first
  | with_reducible refine s_seq ?_ | with_reducible refine s_next ?_ | with_reducible refine s_if ?_ | with_reducible refine s_ret ?_ | with_reducible refine s_retN ?_ | with_reducible refine s_drop ?_ | with_reducible refine s_asg ?_ | with_reducible refine s_brk ?_ | with_reducible refine s_cont ?_
  | with_reducible refine s_gname ?_ | with_reducible refine s_c ?_ | with_reducible refine s_op ?_ | with_reducible refine s_un ?_ | with_reducible refine s_neg ?_ | with_reducible refine s_test ?_ | with_reducible refine s_tb ?_ | with_reducible refine s_not ?_ | with_reducible refine s_and ?_ | with_reducible refine s_or ?_ | with_reducible refine s_yes ?_
  | ((with_reducible refine' s_var ?hv ?_); (case hv => exact rfl))
  | with_reducible refine s_ifx ?_ | with_reducible refine s_andV ?_ | with_reducible refine s_orV ?_ | with_reducible refine s_notV ?_ | with_reducible refine s_chain ?_ | with_reducible refine s_nil ?_ | with_reducible refine s_cons ?_ | with_reducible refine s_lst ?_ | with_reducible refine s_tup ?_ | with_reducible refine s_cb ?_ | with_reducible refine s_call ?_ | with_reducible refine s_meth ?_ | with_reducible refine s_make ?_
  | with_reducible refine s_dnewK ?_ | with_reducible refine s_sl ?_ | with_reducible refine s_po0 ?_ | with_reducible refine s_po1 ?_ | with_reducible refine s_bm ?_ | with_reducible refine s_bm0 ?_
  | with_reducible refine s_bl ?_ | with_reducible refine s_int ?_ | with_reducible refine s_I0 ?_ | with_reducible refine s_addI ?_ | with_reducible refine s_intI ?_ | with_reducible refine s_intB ?_
  | with_reducible refine s_m1 ?_ | with_reducible refine s_lc ?_ | with_reducible refine s_ilist ?_ | with_reducible refine s_for ?_ | with_reducible refine s_irng ?_ | with_reducible refine s_match ?_ | with_reducible refine s_starT ?_ | with_reducible refine s_isS ?_ | with_reducible refine s_isiSS ?_ | with_reducible refine s_fldU ?_ | with_reducible refine s_sfldU ?_
  | ((with_reducible refine' s_eqS ?hq ?_); (case hq => exact rfl)) | ((with_reducible refine' s_neS ?hq ?_); (case hq => exact rfl))
  | ((with_reducible refine' s_isN ?hq ?_); (case hq => exact rfl)) | ((with_reducible refine' s_notN ?hq ?_); (case hq => exact rfl))
  | ((with_reducible refine' s_eqNil ?h1 ?h2 ?_); (case h1 => walk_at "hl"); (case h2 => walk_at "hl")) | ((with_reducible refine' s_neNil ?h1 ?h2 ?_); (case h1 => walk_at "hl"); (case h2 => walk_at "hl"))
  | ((with_reducible refine' s_ixL ?h1 ?h2 ?_); (case h1 => walk_at "hl"); (case h2 => walk_at "at")) | ((with_reducible refine' s_ixT ?h1 ?h2 ?_); (case h1 => walk_at "hl"); (case h2 => walk_at "at"))
  | ((with_reducible refine' s_inS ?h1 ?_); (case h1 => walk_at "hl")) | ((with_reducible refine' s_ninS ?h1 ?_); (case h1 => walk_at "hl")) | with_reducible refine s_inW ?_
  | ((with_reducible refine' s_lenL ?h1 ?_); (case h1 => walk_at "hl")) | ((with_reducible refine' s_lenT ?h1 ?_); (case h1 => walk_at "hl"))
  | ((with_reducible refine' s_tyL ?h1 ?_); (case h1 => walk_at "hl"))
  | ((with_reducible refine' s_fldM ?h1 ?h2 ?h3 ?_); (case h1 => walk_at "hl"); (case h2 => walk_at "fok"); (case h3 => walk_at "flk"))
  | ((with_reducible refine' s_setM ?h1 ?h2 ?h3 ?h4 ?_); (case h1 => walk_at "hl"); (case h2 => walk_at "fok"); (case h4 => walk_at "put"); (case h3 => exact Nat.le_of_ble_eq_true rfl))
  | ((with_reducible refine' s_starM ?h1 ?_); (case h1 => walk_at "hl"))
  | ((with_reducible refine' s_recv ?h1 ?h2 ?_); (case h1 => walk_at "hl"); (case h2 => exact rfl))
  | ((with_reducible refine' s_sz ?h1 ?_); (case h1 => (simp; done))))
local macro_rules | `(tactic| walk_at "rd") => `(tactic| repeat (walk_at "rd1"))
local macro_rules | `(tactic| walk_at "fok") => `(tactic| assumption)
local macro_rules | `(tactic| walk_at "flk") => `(tactic| rfl)
local macro_rules | `(tactic| walk_at "put") => `(tactic| exact rfl)

local macro_rules | `(tactic| walk_at "fok") => `(tactic| first | assumption | exact Tu.ce (by assumption) (by decide) | exact Tu.de (by assumption) (by decide) | exact Tu.ke (by assumption) (by decide) | exact Tu.fe (by assumption) (by decide) | exact Tu.ee (by assumption) (by decide))
def spThing (K : PySem.W.Frag) : Sp := fun vs H Q _ => ∃ (x C dx : Addr) (v1 v2 : V), vs = [.ref x, v1, v2] ∧ H x = some (.ins C dx []) ∧ FldOk K C "desk" ∧ FldOk K C "name" ∧ Q .non (upd H x (.ins C dx [("desk", v1), ("name", v2)]))
theorem ok_Thing___init__ (T : Tu P K mg a fd tk) : FnOk P w K mg base CX0 1 (a 4) (fd 4) ["self", "desk", "name"] (spThing K) := by
  refine T.F_Thing___init__.ok sc_Thing___init__ (fun vs H Q E h => ?_) (fun cdv A outer s H vs Q E hr h => ?_)
  · obtain ⟨x, C, dx, v1, v2, rfl, _⟩ := h
    rfl
  · obtain ⟨x, C, dx, v1, v2, rfl, hx, f1, f2, k⟩ := h
    refine ⟨_, (pss_cons (ps_fldU K (pv 0) (pv 1))
  (pss_one (ps_fldU K (pv 0) (pv 2)))), ?_⟩
    walk_at "rd"
    rw [upd_upd]
    exact k
theorem b_Thing___init__ (T : Tu P K mg a fd tk) : Binds K (fd 4) ["self", "desk", "name"] [] := T.F_Thing___init__.binds fun _ _ _ _ _ _ us hl => match us, hl with | [_, _, _], _ => rfl
def spCellI (a : Nat → Addr) : Sp := fun vs H Q _ => ∃ (x dx : Addr) (v1 v2 v3 : V), vs = [.ref x, v1, v2, v3] ∧ H x = some (.ins (a 2) dx []) ∧ Q .non (upd H x (.ins (a 2) dx [("desk", v1), ("name", v2), ("now", v3)]))
theorem ok_Cell___init__ (T : Tu P K mg a fd tk) : FnOk P w K mg base CX0 2 (a 5) (fd 5) ["self", "desk", "name", "worth"] (spCellI a) := by
  refine T.F_Cell___init__.ok (N := ["self", "desk", "name", "worth", "__class__"]) rfl (NdefX.nscope_by (by decide +kernel)) rfl rfl (by decide +kernel) (ok_Thing___init__ T) (Nat.le_refl _) (b_Thing___init__ T) (fun vs H Q E h => ?_) (fun FF A outer s H vs Q E hs hr h => ?_)
  · obtain ⟨x, dx, v1, v2, v3, rfl, _⟩ := h
    rfl
  · obtain ⟨x, dx, v1, v2, v3, rfl, hx, k⟩ := h
    have vis : ∀ {y : Str}, (defScope s_Cell___init__).names.lookup y = some .local → Vis FF.scope y := fun {y} e => by rw [hs]; exact .inl e
    refine ⟨_, _, a 2, x, dx, [], pa_cons (pv 1 rfl (vis (by decide +kernel))) (pa_cons (pv 2 rfl (vis (by decide +kernel))) pa_nil), pss_one (ps_fldU K (pv 0 rfl (vis (by decide +kernel))) (pv 3 rfl (vis (by decide +kernel)))), rfl, hx, T.sc_Cell, ?_⟩
    walk_at "rd"
    refine ⟨x, a 2, dx, v1, v2, rfl, hx, T.ce (by decide), T.ce (by decide), ?_⟩
    walk_at "rd"
    rw [upd_upd]
    exact k
theorem b_Cell___init__ (T : Tu P K mg a fd tk) : Binds K (fd 5) ["self", "desk", "name", "worth"] [] := T.F_Cell___init__.binds fun _ _ _ _ _ _ _ us hl => match us, hl with | [_, _, _, _], _ => rfl
/-- of a kept answer -/
def spRunnerI (a : Nat → Addr) : Sp := fun vs H Q _ => ∃ (x dx : Addr) (v1 v2 v3 : V), vs = [.ref x, v1, v2, v3] ∧ H x = some (.ins (a 40) dx []) ∧ ∀ nt, H nt = none → nt ≠ x → Q .non (upd (upd H nt (.dK [])) x (.ins (a 40) dx [("desk", v1), ("name", v2), ("work", v3), ("noted", .ref nt), ("runs", .int 0)]))
theorem ok_Runner___init__ (T : Tu P K mg a fd tk) : FnOk P w K mg base CX0 2 (a 46) (fd 46) ["self", "desk", "name", "work"] (spRunnerI a) := by
  refine T.F_Runner___init__.ok (N := ["self", "desk", "name", "work", "__class__"]) rfl (NdefX.nscope_by (by decide +kernel)) rfl rfl (by decide +kernel) (ok_Thing___init__ T) (Nat.le_refl _) (b_Thing___init__ T) (fun vs H Q E h => ?_) (fun FF A outer s H vs Q E hs hr h => ?_)
  · obtain ⟨x, dx, v1, v2, v3, rfl, _⟩ := h
    rfl
  · obtain ⟨x, dx, v1, v2, v3, rfl, hx, k⟩ := h
    have vis : ∀ {y : Str}, (defScope s_Runner___init__).names.lookup y = some .local → Vis FF.scope y := fun {y} e => by rw [hs]; exact .inl e
    refine ⟨_, _, a 40, x, dx, [], pa_cons (pv 1 rfl (vis (by decide +kernel))) (pa_cons (pv 2 rfl (vis (by decide +kernel))) pa_nil),
      pss_cons (ps_fldU K (pv 0 rfl (vis (by decide +kernel))) (pv 3 rfl (vis (by decide +kernel)))) (pss_cons (ps_fldU K (pv 0 rfl (vis (by decide +kernel))) pe_dnewK) (pss_one (ps_fldU K (pv 0 rfl (vis (by decide +kernel))) pe_int))), rfl, hx, T.sc_Runner, ?_⟩
    walk_at "rd"
    refine ⟨x, a 40, dx, v1, v2, rfl, hx, T.ke (by decide), T.ke (by decide), ?_⟩
    walk_at "rd"
    rw [upd_upd]
    intro nt nnt
    have nx : nt ≠ x := by rintro rfl; rw [upd_same] at nnt; cases nnt
    rw [upd_ne nx] at nnt
    walk_at "rd"
    rw [upd_upd, upd3 nx]
    exact k nt nnt nx
theorem b_Runner___init__ (T : Tu P K mg a fd tk) : Binds K (fd 46) ["self", "desk", "name", "work"] [] := T.F_Runner___init__.binds fun _ _ _ _ _ _ _ us hl => match us, hl with | [_, _, _, _], _ => rfl
def spKeptI (a : Nat → Addr) : Sp := fun vs H Q _ => ∃ (x dx : Addr) (v1 v2 v3 : V), vs = [.ref x, v1, v2, v3] ∧ H x = some (.ins (a 40) dx []) ∧ ∀ nt, H nt = none → nt ≠ x → Q .non (upd (upd H nt (.dK [])) x (.ins (a 40) dx [("desk", v1), ("name", v2), ("work", v3), ("noted", .ref nt), ("runs", .int 0), ("kept_worth", .non), ("has_worth", .bl false)]))
theorem ok_Kept___init__ (T : Tu P K mg a fd tk) : FnOk P w K mg base CX0 3 (a 41) (fd 41) ["self", "desk", "name", "work"] (spKeptI a) := by
  refine T.F_Kept___init__.ok (N := ["self", "desk", "name", "work", "__class__"]) rfl (NdefX.nscope_by (by decide +kernel)) rfl rfl (by decide +kernel) (ok_Runner___init__ T) (Nat.le_refl _) (b_Runner___init__ T) (fun vs H Q E h => ?_) (fun FF A outer s H vs Q E hs hr h => ?_)
  · obtain ⟨x, dx, v1, v2, v3, rfl, _⟩ := h
    rfl
  · obtain ⟨x, dx, v1, v2, v3, rfl, hx, k⟩ := h
    have vis : ∀ {y : Str}, (defScope s_Kept___init__).names.lookup y = some .local → Vis FF.scope y := fun {y} e => by rw [hs]; exact .inl e
    refine ⟨_, _, a 40, x, dx, [], pa_cons (pv 1 rfl (vis (by decide +kernel))) (pa_cons (pv 2 rfl (vis (by decide +kernel))) (pa_cons (pv 3 rfl (vis (by decide +kernel))) pa_nil)),
      pss_cons (ps_fldU K (pv 0 rfl (vis (by decide +kernel))) pe_non) (pss_one (ps_fldU K (pv 0 rfl (vis (by decide +kernel))) pe_bl)), rfl, hx, T.sc_Kept, ?_⟩
    walk_at "rd"
    refine ⟨x, dx, v1, v2, v3, rfl, hx, fun nt nnt nx => ?_⟩
    walk_at "rd"
    rw [upd_upd, upd_upd]
    exact k nt nnt nx
theorem b_Kept___init__ (T : Tu P K mg a fd tk) : Binds K (fd 41) ["self", "desk", "name", "work"] [] := T.F_Kept___init__.binds fun _ _ _ _ _ _ _ us hl => match us, hl with | [_, _, _, _], _ => rfl
def spFrameI (a : Nat → Addr) : Sp := fun vs H Q _ => ∃ (x dx : Addr) (owner : Str) (ia : Bool), vs = [.ref x, .str owner, .bl ia] ∧ H x = some (.ins (a 49) dx []) ∧ ∀ nt, H nt = none → nt ≠ x → Q .non (upd (upd H nt (.dK [])) x (.ins (a 49) dx (frameU owner ia false nt)))
theorem ok_Frame___init__ (T : Tu P K mg a fd tk) : FnOk P w K mg base CX0 1 (a 50) (fd 50) ["self", "owner", "is_answer"] (spFrameI a) := by
  refine T.F_Frame___init__.ok sc_Frame___init__ (fun vs H Q E h => ?_) (fun cdv A outer s H vs Q E hr h => ?_)
  · obtain ⟨x, dx, o, ia, rfl, _⟩ := h
    rfl
  · obtain ⟨x, dx, o, ia, rfl, hx, k⟩ := h
    refine ⟨_, (pss_cons (ps_fldU K (pv 0) (pv 1))
  (pss_cons (ps_fldU K (pv 0) (pv 2))
  (pss_cons (ps_fldU K (pv 0) pe_bl)
  (pss_one (ps_fldU K (pv 0) pe_dnewK))))), ?_⟩
    walk_at "rd"
    intro nt nnt
    have nx : nt ≠ x := by rintro rfl; rw [upd_same] at nnt; cases nnt
    rw [upd_upd, upd_upd, upd_ne nx] at nnt
    walk_at "rd"
    rw [upd_upd, upd_upd, upd3 nx]
    exact k nt nnt nx
theorem b_Frame___init__ (T : Tu P K mg a fd tk) : Binds K (fd 50) ["self", "owner", "is_answer"] [] := T.F_Frame___init__.binds fun _ _ _ _ _ _ us hl => match us, hl with | [_, _, _], _ => rfl
/-- of an effect -/
def spRunnerE (a : Nat → Addr) : Sp := fun vs H Q _ => ∃ (x dx : Addr) (v1 v2 v3 : V), vs = [.ref x, v1, v2, v3] ∧ H x = some (.ins (a 60) dx []) ∧ ∀ nt, H nt = none → nt ≠ x → Q .non (upd (upd H nt (.dK [])) x (.ins (a 60) dx [("desk", v1), ("name", v2), ("work", v3), ("noted", .ref nt), ("runs", .int 0)]))
theorem ok_Runner___init__E (T : Tu P K mg a fd tk) : FnOk P w K mg base CX0 2 (a 46) (fd 46) ["self", "desk", "name", "work"] (spRunnerE a) := by
  refine T.F_Runner___init__.ok (N := ["self", "desk", "name", "work", "__class__"]) rfl (NdefX.nscope_by (by decide +kernel)) rfl rfl (by decide +kernel) (ok_Thing___init__ T) (Nat.le_refl _) (b_Thing___init__ T) (fun vs H Q E h => ?_) (fun FF A outer s H vs Q E hs hr h => ?_)
  · obtain ⟨x, dx, v1, v2, v3, rfl, _⟩ := h
    rfl
  · obtain ⟨x, dx, v1, v2, v3, rfl, hx, k⟩ := h
    have vis : ∀ {y : Str}, (defScope s_Runner___init__).names.lookup y = some .local → Vis FF.scope y := fun {y} e => by rw [hs]; exact .inl e
    refine ⟨_, _, a 60, x, dx, [], pa_cons (pv 1 rfl (vis (by decide +kernel))) (pa_cons (pv 2 rfl (vis (by decide +kernel))) pa_nil),
      pss_cons (ps_fldU K (pv 0 rfl (vis (by decide +kernel))) (pv 3 rfl (vis (by decide +kernel)))) (pss_cons (ps_fldU K (pv 0 rfl (vis (by decide +kernel))) pe_dnewK) (pss_one (ps_fldU K (pv 0 rfl (vis (by decide +kernel))) pe_int))), rfl, hx, T.sc_RunnerE, ?_⟩
    walk_at "rd"
    refine ⟨x, a 60, dx, v1, v2, rfl, hx, T.ee (by decide), T.ee (by decide), ?_⟩
    walk_at "rd"
    rw [upd_upd]
    intro nt nnt
    have nx : nt ≠ x := by rintro rfl; rw [upd_same] at nnt; cases nnt
    rw [upd_ne nx] at nnt
    walk_at "rd"
    rw [upd_upd, upd3 nx]
    exact k nt nnt nx
theorem b_Runner___init__E (T : Tu P K mg a fd tk) : Binds K (fd 46) ["self", "desk", "name", "work"] [] := T.F_Runner___init__.binds fun _ _ _ _ _ _ _ us hl => match us, hl with | [_, _, _, _], _ => rfl
def spEffI (a : Nat → Addr) : Sp := fun vs H Q _ => ∃ (x dx : Addr) (v1 v2 v3 : V), vs = [.ref x, v1, v2, v3] ∧ H x = some (.ins (a 60) dx []) ∧ ∀ nt, H nt = none → nt ≠ x → Q .non (upd (upd H nt (.dK [])) x (.ins (a 60) dx [("desk", v1), ("name", v2), ("work", v3), ("noted", .ref nt), ("runs", .int 0), ("report", .non)]))
theorem ok_Effect___init__ (T : Tu P K mg a fd tk) : FnOk P w K mg base CX0 3 (a 61) (fd 61) ["self", "desk", "name", "work"] (spEffI a) := by
  refine T.F_Effect___init__.ok (N := ["self", "desk", "name", "work", "__class__"]) rfl (NdefX.nscope_by (by decide +kernel)) rfl rfl (by decide +kernel) (ok_Runner___init__E T) (Nat.le_refl _) (b_Runner___init__E T) (fun vs H Q E h => ?_) (fun FF A outer s H vs Q E hs hr h => ?_)
  · obtain ⟨x, dx, v1, v2, v3, rfl, _⟩ := h
    rfl
  · obtain ⟨x, dx, v1, v2, v3, rfl, hx, k⟩ := h
    have vis : ∀ {y : Str}, (defScope s_Effect___init__).names.lookup y = some .local → Vis FF.scope y := fun {y} e => by rw [hs]; exact .inl e
    refine ⟨_, _, a 60, x, dx, [], pa_cons (pv 1 rfl (vis (by decide +kernel))) (pa_cons (pv 2 rfl (vis (by decide +kernel))) (pa_cons (pv 3 rfl (vis (by decide +kernel))) pa_nil)),
      pss_one (ps_fldU K (pv 0 rfl (vis (by decide +kernel))) pe_non), rfl, hx, T.sc_Effect, ?_⟩
    walk_at "rd"
    refine ⟨x, dx, v1, v2, v3, rfl, hx, fun nt nnt nx => ?_⟩
    walk_at "rd"
    rw [upd_upd]
    exact k nt nnt nx
theorem b_Effect___init__ (T : Tu P K mg a fd tk) : Binds K (fd 61) ["self", "desk", "name", "work"] [] := T.F_Effect___init__.binds fun _ _ _ _ _ _ _ us hl => match us, hl with | [_, _, _, _], _ => rfl

section
variable {ω Λ : Type} {Y : LawP ω Λ}
def spUnderU (a : Nat → Addr) (Y : LawP ω Λ) : Sp := fun vs H Q _ => ∃ g st nm, vs = [.ref g.d, .str nm] ∧ Wld a Y g st H ∧ ∀ H', Same H H' → Q (.bl (st.1.frs.any fun f => decide (f.own = nm))) H'
theorem ok_Desk_is_under_way (T : Tu P K mg a fd tk) : FnOk P w K mg base CX0 1 (a 52) (fd 52) ["self", "name"] (spUnderU a Y) := by
  refine T.F_Desk_is_under_way.ok sc_Desk_is_under_way (fun vs H Q E h => ?_) (fun cdv A outer s H vs Q E hr h => ?_)
  · obtain ⟨g, st, nm, rfl, _⟩ := h
    rfl
  · obtain ⟨g, ⟨S, l⟩, nm, rfl, W, k⟩ := h
    refine ⟨_, (pss_one (ps_ret (pe_cmpR (uIn K) (pv 1) (pe_lc (own := [("frame", 2)]) rfl sc_Desk_is_under_way.nd (pi_list (pe_fldU K (pv 0))) (blkOk_by (N := N_Desk_is_under_way) (sc := defScope s_Desk_is_under_way) (by decide +kernel)) (fun _ _ _ _ _ => (pg_name (i := 2) sc_Desk_is_under_way.nd rfl (by first | exact Or.inl rfl | exact Or.inr rfl))) (fun _ _ _ _ _ => pts_nil) (fun _ _ _ _ _ => (pe_fldU K (pv 2)))) (by rfl)))), ?_⟩
    obtain ⟨c, Wc⟩ := id W
    have hob := Wc.desk
    have hfr := Wc.frl
    have hfl : S.frs.length = g.fas.length := Wc.ok.fl
    have b6 : S.frs.length ≤ 200 := Wc.ok.b6
    walk_at "rd"
    refine s_lcM S.frs (fun f => some (.str f.own)) hfr (by rw [List.length_map, hfl]) (by omega) (fun i o x H2 R R0 ho hx s2 kk _ => ?_) (fun q H2 s2 nq hq => ?_)
    · rw [List.getElem?_map] at hx
      cases ef : g.fas[i]? with
      | none => rw [ef] at hx; cases hx
      | some f =>
      rw [ef] at hx
      cases hx
      have hf2 := s2 _ _ (Wc.fm ho ef)
      walk_at "rd"
      refine ⟨rfl, ?_⟩
      walk_at "rd"
      refine ifT rfl ?_
      walk_at "rd"
      exact kk _ rfl _ (.refl _)
    · rw [fm_some] at hq
      have e1 : S.frs.map (fun f => V.str f.own) = (S.frs.map (·.own)).map V.str := by simp
      rw [e1] at hq
      walk_at "rd"
      have e2 : (S.frs.map (·.own)).contains nm = S.frs.any fun f => decide (f.own = nm) := by
        rw [List.contains_eq_any_beq, List.any_map]
        congr 1
        funext f
        show (nm == f.own) = _
        by_cases z : f.own = nm
        · simp [z]
        · rw [decide_eq_false z]
          exact beq_false_of_ne fun q => z q.symm
      rw [e2]
      exact k _ s2
theorem b_Desk_is_under_way (T : Tu P K mg a fd tk) : Binds K (fd 52) ["self", "name"] [] := T.F_Desk_is_under_way.binds fun _ _ _ _ _ _ us hl => match us, hl with | [_, _], _ => rfl
def spNoteU (a : Nat → Addr) (Y : LawP ω Λ) : Sp := fun vs H Q _ => ∃ g st nm v d EE, vs = [.ref g.d, .str nm, v] ∧ Wld a Y g st H ∧ DvS H v d ∧ Post a Y g H (UnQ Q) EE (noteM nm d st)
theorem ok_Desk_note (T : Tu P K mg a fd tk) : FnOk P w K mg base CX0 1 (a 13) (fd 13) ["self", "name", "worth"] (spNoteU a Y) := by
  refine T.F_Desk_note.ok sc_Desk_note (fun vs H Q E h => ?_) (fun cdv A outer s H vs Q E hr h => ?_)
  · obtain ⟨g, st, nm, v, d, EE, rfl, _⟩ := h
    rfl
  · obtain ⟨g, ⟨S, l⟩, nm, v, d, EE, rfl, W, hv, k⟩ := h
    refine ⟨_, (pss_cons (ps_if (pt_cmpR (uEq K hr.units) (pe_callB uLen (by rfl) T.b_len bt_len (pa_cons (pe_fldU K (pv 0)) pa_nil)) pe_int (nomark _)) (pss_one ps_retN) pss_nil)
  (pss_cons (ps_asg (pe_ix uIx (pe_fldU K (pv 0)) (pe_un un_neg pe_int) (fun _ _ => rfl)) (pg_name (i := 3) sc_Desk_note.nd rfl (by first | exact Or.inl rfl | exact Or.inr rfl)))
  (pss_one (ps_if (PW.pt (pw_and (pt_not (pt_val (pe_fldU K (pv 3)))) (pw_and1 (pt_cmp (pc_dnotin (hu_of hr) (pv 1) (pe_fldU K (pv 3))))))) (pss_one (ps_dput (hu_of hr) (pe_fldU K (pv 3)) (pv 1) (pv 2) rfl)) pss_nil)))), ?_⟩
    obtain ⟨c, Wc⟩ := id W
    have hob := Wc.desk
    have hfr := Wc.frl
    have hfl : S.frs.length = g.fas.length := Wc.ok.fl
    have b6 : S.frs.length ≤ 200 := Wc.ok.b6
    unfold noteM at k
    walk_at "rd"
    cases e : S.frs.getLast? with
    | none =>
      have e1 : S.frs = [] := by simpa using e
      have e2 : g.fas = [] := Wc.nofr.mp e1
      have k := (show Post a Y g H (UnQ Q) EE (some (.ok (), (S, l))) from by simp only [e] at k; exact k)
      refine ifT (by rw [e2]; rfl) ?_
      walk_at "rd"
      exact k.ok W Step.refl
    | some f =>
      obtain ⟨i, x, h1, h2, h3, hx⟩ := Wc.last e
      have hne : g.fas ≠ [] := by rintro z; rw [z] at h2; simp at h2
      have hpos : 0 < g.fas.length := List.length_pos_iff.mpr hne
      refine ifF (by rw [List.length_map]; simp; omega) ?_
      walk_at "rd"
      refine s_ixL hfr (atI_lastM h3) ?_
      walk_at "rd"
      cases ih : f.hush with
      | true =>
        have k := (show Post a Y g H (UnQ Q) EE (some (.ok (), (S, l))) from by simp only [e, ih] at k; exact k)
        refine ifF rfl ?_
        refine ifF rfl ?_
        walk_at "rd"
        exact k.ok W Step.refl
      | false =>
        refine ifT rfl ?_
        walk_at "rd"
        refine s_dnin ?_
        walk_at "rd"
        obtain ⟨t, ns, ht, hns⟩ := Wc.ok.frn f (List.mem_of_getElem? h1)
        have ht : S.th f.own = some t := ht
        have hnt := Wc.nt ht hns
        have vl := Wc.vlen ht hns
        have b8 := Wc.ok.b8 _ t ns ht hns
        refine ⟨c.nad f.own, _, rfl, DGet.k (k := .inr nm) hnt, ?_⟩
        have hkeys : (Sum.inr nm : Key) ∈ (notesU (ns.map (·.1)) (c.vn f.own)).map (·.1) ↔ nm ∈ ns.map (·.1) := by rw [notesU_keys vl]; exact inr_mem
        cases ev : valV (notesU (ns.map (·.1)) (c.vn f.own)) (.inr nm) with
        | some z =>
          have hm : nm ∈ ns.map (·.1) := hkeys.mp (Classical.not_not.mp fun q => by rw [valV_none_iff.mpr q] at ev; cases ev)
          have k := (show Post a Y g H (UnQ Q) EE (some (.ok (), (S, l))) from by simp only [e, ih, ht, hns, if_pos hm, Bool.false_eq_true, if_false] at k; exact k)
          refine ⟨_, rfl, ?_⟩
          refine ifF rfl ?_
          walk_at "rd"
          exact k.ok W Step.refl
        | none =>
          have hm : nm ∉ ns.map (·.1) := fun q => valV_none_iff.mp ev (hkeys.mpr q)
          have k : Post a Y g H (UnQ Q) EE (if ns.length < 200 then some (.ok (), (S.setTh f.own (t.putNotes (ns ++ [(nm, d)])), l)) else none) := by
            simp only [e, ih, ht, hns, if_neg hm, Bool.false_eq_true, if_false] at k
            exact k
          by_cases hl : ns.length < 200
          · rw [if_pos hl] at k
            refine ⟨_, rfl, ?_⟩
            refine ifT rfl ?_
            refine s_dput ?_
            walk_at "rd"
            refine ⟨c.nad f.own, _, rfl, DPut.k (k := .inr nm) hnt (sz_lt (by unfold notesU; simp; omega)), ?_⟩
            rw [putK_new _ ev]
            exact k.ok ⟨_, Wc.note ht hns hm hl hv⟩ (DStep.upd (Wc.inT _ _ _ (slot_nt ht hns))).toStep
          · rw [if_neg hl] at k
            exact k.elim
theorem b_Desk_note (T : Tu P K mg a fd tk) : Binds K (fd 13) ["self", "name", "worth"] [] := T.F_Desk_note.binds fun _ _ _ _ _ _ us hl => match us, hl with | [_, _, _], _ => rfl
def spUseU (a : Nat → Addr) (Y : LawP ω Λ) : Sp := fun vs H Q E => ∃ g st nm, vs = [.ref g.d, .str nm] ∧ Wld a Y g st H ∧ Post a Y g H (UnQ Q) (ErQ a E) (useM nm st)
theorem ok_Desk_use_name (T : Tu P K mg a fd tk) : FnOk P w K mg base (L2.CX P w) 4 (a 14) (fd 14) ["self", "name"] (spUseU a Y) := by
  refine T.F_Desk_use_name.okX sc_Desk_use_name (fun vs H Q E h => ?_) (fun cdv A outer s H vs Q E hr h => ?_)
  · obtain ⟨g, st, nm, rfl, _⟩ := h
    rfl
  · obtain ⟨g, ⟨S, l⟩, nm, rfl, W, k⟩ := h
    refine ⟨_, (pss_cons (ps_expr (pe_meth0 (pv 0) T.cl_Desk T.m_Desk_check_placed (ok_Desk_check_placed T (Y := Y)) (hr.mono (by omega)) (b_Desk_check_placed T) .nil (passes_call (takes_of rfl rfl rfl rfl) fun _ _ _ _ h => h)))
  (pss_cons (ps_if (pt_cmpR (uIn K) (pv 1) (pe_fldU K (pv 0)) (by rfl)) (pss_one (ps_raise rfl (takes_of rfl rfl rfl rfl) (pmk_oexB xbV_ok T.ox_Taken T.ini_Taken T.inf_Taken (ok_Taken___init__ T) (hr.mono (by omega)) (b_Taken___init__ T) .nil passF (by rfl) T.g_Taken (pa_cons (pv 1) pa_nil)))) pss_nil)
  (pss_one (ps_expr (pe_bm PySem.F.plainAttrs_list PySem.F.slot_list_append PySem.F.type_list_append uAppend (pe_fldU K (pv 0)) (pa_cons (pv 1) pa_nil)))))), ?_⟩
    obtain ⟨c, Wc⟩ := id W
    have hob := Wc.desk
    walk_at "rd"
    refine ⟨g, (S, l), rfl, W, (Post.bind k).imp (fun v s1 g1 H1 W1 t1 k1 => ?_) (fun _ _ _ _ _ _ z => z)⟩
    obtain ⟨S1, l1⟩ := s1
    obtain ⟨c1, Wc1⟩ := id W1
    have hob1 := Wc1.desk
    have hun1 := Wc1.un
    rw [t1.d] at hob1
    walk_at "rd"
    by_cases hn : nm ∈ S1.names
    · have k1 : Post a Y g1 H1 (UnQ Q) (ErQ a E) (some (.error (eTaken nm), (S1, l1))) := by
        have k1 := k1; simp only [if_pos hn] at k1; exact k1
      refine ifT (by simpa using hn) ?_
      walk_at "rd"
      refine s_mkO ?_
      walk_at "rd"
      exact s_raiseX fun d H' nd s hd => k1.raise W1 nd s hd (.str _)
    · by_cases hl : S1.names.length < 200
      · have k1 : Post a Y g1 H1 (UnQ Q) (ErQ a E) (some (.ok (), ({ S1 with names := S1.names ++ [nm] }, l1))) := by
          have k1 := k1; simp only [if_neg hn, if_pos hl] at k1; exact k1
        refine ifF (by simpa using hn) ?_
        walk_at "rd"
        refine s_app hun1 (sz_lt (by rw [List.length_map]; omega)) ?_
        have e : S1.names.map V.str ++ [.str nm] = (S1.names ++ [nm]).map V.str := by simp
        rw [e]
        exact k1.ok ⟨_, Wc1.names hl⟩ (DStep.upd (Wc1.inT .un _ _ rfl)).toStep
      · exact (show False from by have k1 := k1; simp only [if_neg hn, if_neg hl] at k1; exact k1).elim
theorem b_Desk_use_name (T : Tu P K mg a fd tk) : Binds K (fd 14) ["self", "name"] [] := T.F_Desk_use_name.binds fun _ _ _ _ _ _ us hl => match us, hl with | [_, _], _ => rfl
end
end
end Tr
set_option maxHeartbeats 4000000

namespace Tr
open PySem L2 OXB
section
variable {P : Program} {w : World} {K : PySem.W.Frag} {mg : Str → Option Value} {base : Heap} {a : Nat → Addr} {fd : Nat → FuncData} {tk : Nat → Tok}
local macro_rules | `(tactic| walk_at "ne") => `(tactic| first | assumption | (exact Ne.symm (by assumption)) | (refine ne_of_none (by assumption) (by assumption)) | (refine Ne.symm (ne_of_none (by assumption) (by assumption))))
local macro_rules | `(tactic| walk_at "hl") => `(tactic| first | assumption | with_reducible exact upd_same | ((with_reducible refine' Eq.trans (upd_ne ?hne) ?hrest); (case hne => walk_at "ne"); (case hrest => walk_at "hl")) | (refine' get_same ?hs ?hg; (case hs => assumption); (case hg => assumption)))
local macro_rules | `(tactic| walk_at "at") => `(tactic| first | with_reducible exact atI_0 _ _ | with_reducible exact atI_1 _ _ _ | with_reducible exact atI_2 _ _ _ _ | with_reducible exact atI_3 _ _ _ _ _ | assumption)
local macro_rules | `(tactic| walk_at "rd1") => `(tactic| first
  | with_reducible refine s_seq ?_ | with_reducible refine s_next ?_ | with_reducible refine s_if ?_ | with_reducible refine s_ret ?_ | with_reducible refine s_retN ?_ | with_reducible refine s_drop ?_ | with_reducible refine s_asg ?_ | with_reducible refine s_brk ?_ | with_reducible refine s_cont ?_
  | with_reducible refine s_gname ?_ | with_reducible refine s_c ?_ | with_reducible refine s_op ?_ | with_reducible refine s_un ?_ | with_reducible refine s_neg ?_ | with_reducible refine s_test ?_ | with_reducible refine s_tb ?_ | with_reducible refine s_not ?_ | with_reducible refine s_and ?_ | with_reducible refine s_or ?_ | with_reducible refine s_yes ?_
  | ((with_reducible refine' s_var ?hv ?_); (case hv => exact rfl))
  | with_reducible refine s_ifx ?_ | with_reducible refine s_andV ?_ | with_reducible refine s_orV ?_ | with_reducible refine s_notV ?_ | with_reducible refine s_chain ?_ | with_reducible refine s_nil ?_ | with_reducible refine s_cons ?_ | with_reducible refine s_lst ?_ | with_reducible refine s_tup ?_ | with_reducible refine s_cb ?_ | with_reducible refine s_call ?_ | with_reducible refine s_meth ?_ | with_reducible refine s_make ?_
  | with_reducible refine s_dnewK ?_ | with_reducible refine s_sl ?_ | with_reducible refine s_po0 ?_ | with_reducible refine s_po1 ?_ | with_reducible refine s_bm ?_ | with_reducible refine s_bm0 ?_
  | with_reducible refine s_bl ?_ | with_reducible refine s_int ?_ | with_reducible refine s_I0 ?_ | with_reducible refine s_addI ?_ | with_reducible refine s_intI ?_ | with_reducible refine s_intB ?_
  | with_reducible refine s_m1 ?_ | with_reducible refine s_lc ?_ | with_reducible refine s_ilist ?_ | with_reducible refine s_for ?_ | with_reducible refine s_irng ?_ | with_reducible refine s_match ?_ | with_reducible refine s_starT ?_ | with_reducible refine s_isS ?_ | with_reducible refine s_isiSS ?_ | with_reducible refine s_fldU ?_ | with_reducible refine s_sfldU ?_
  | ((with_reducible refine' s_eqS ?hq ?_); (case hq => exact rfl)) | ((with_reducible refine' s_neS ?hq ?_); (case hq => exact rfl))
  | ((with_reducible refine' s_isN ?hq ?_); (case hq => exact rfl)) | ((with_reducible refine' s_notN ?hq ?_); (case hq => exact rfl))
  | ((with_reducible refine' s_eqNil ?h1 ?h2 ?_); (case h1 => walk_at "hl"); (case h2 => walk_at "hl")) | ((with_reducible refine' s_neNil ?h1 ?h2 ?_); (case h1 => walk_at "hl"); (case h2 => walk_at "hl"))
  | ((with_reducible refine' s_ixL ?h1 ?h2 ?_); (case h1 => walk_at "hl"); (case h2 => walk_at "at")) | ((with_reducible refine' s_ixT ?h1 ?h2 ?_); (case h1 => walk_at "hl"); (case h2 => walk_at "at"))
  | ((with_reducible refine' s_inS ?h1 ?_); (case h1 => walk_at "hl")) | ((with_reducible refine' s_ninS ?h1 ?_); (case h1 => walk_at "hl")) | with_reducible refine s_inW ?_
  | ((with_reducible refine' s_lenL ?h1 ?_); (case h1 => walk_at "hl")) | ((with_reducible refine' s_lenT ?h1 ?_); (case h1 => walk_at "hl"))
  | ((with_reducible refine' s_tyL ?h1 ?_); (case h1 => walk_at "hl"))
  | ((with_reducible refine' s_fldM ?h1 ?h2 ?h3 ?_); (case h1 => walk_at "hl"); (case h2 => walk_at "fok"); (case h3 => walk_at "flk"))
  | ((with_reducible refine' s_setM ?h1 ?h2 ?h3 ?h4 ?_); (case h1 => walk_at "hl"); (case h2 => walk_at "fok"); (case h4 => walk_at "put"); (case h3 => exact Nat.le_of_ble_eq_true rfl))
  | ((with_reducible refine' s_starM ?h1 ?_); (case h1 => walk_at "hl"))
  | ((with_reducible refine' s_recv ?h1 ?h2 ?_); (case h1 => walk_at "hl"); (case h2 => exact rfl))
  | ((with_reducible refine' s_sz ?h1 ?_); (case h1 => (simp; done))))
local macro_rules | `(tactic| walk_at "rd") => `(tactic| repeat (walk_at "rd1"))
local macro_rules | `(tactic| walk_at "fok") => `(tactic| assumption)
local macro_rules | `(tactic| walk_at "flk") => `(tactic| rfl)
local macro_rules | `(tactic| walk_at "put") => `(tactic| exact rfl)

local macro_rules | `(tactic| walk_at "fok") => `(tactic| first | assumption | exact Tu.ce (by assumption) (by decide) | exact Tu.de (by assumption) (by decide) | exact Tu.ke (by assumption) (by decide) | exact Tu.fe (by assumption) (by decide) | exact Tu.ee (by assumption) (by decide))
section
variable {ω Λ : Type} {Y : LawP ω Λ}
theorem s_fldaug {ta tv : TE} {rd : V → V → Hp → VK → Prop} {f : Str} {na : L2.St → Hp → Prop} {rt : VK} {bk ct : L2.St → Hp → Prop} {σ : L2.St} {H : Hp} (h : ta σ H fun x H1 => ∃ a C dx fs v, x = .ref a ∧ H1 a = some (.ins C dx fs) ∧ Cls K C ∧ NoAttr K C f ∧ fs.lookup f = some v ∧
  tv σ H1 fun y H2 => rd v y H2 fun z H3 => ∃ dx' fs', H3 a = some (.ins C dx' fs') ∧ fs'.length < 1000 ∧ na σ (upd H3 a (.ins C dx' (putF f z fs')))) : sFldAug K ta tv rd f ⟨na, rt, bk, ct⟩ σ H := h
/-- a law's work, by what it does -/
def wspU (a : Nat → Addr) (Y : LawP ω Λ) (wk : ω → MM ω Λ Dt) : Addr → Hp → VK → XK → Prop := fun f H Q E => ∃ g st w, Wld a Y g st H ∧ Y.CL w f g H ∧ Post a Y g H (DtQ Q) (ErQ a E) (wk w st)
theorem ErAt.stay {H H' : Hp} {g g' : Gh} {e : Er} {d : Option Addr} (h : ErAt H g e d) (f : ∀ x o, H x = some o → ¬ g.T x → ¬ g.L x → H' x = some o ∧ ¬ g'.T x ∧ ¬ g'.L x) (tp : ∀ x l, H x = some (.tup l) → H' x = some (.tup l)) : ErAt H' g' e d := by
  unfold ErAt at h ⊢
  split at h
  · exact h
  · obtain ⟨x, u, e1, e2, e3, e4, e5⟩ := h
    obtain ⟨f1, f2, f3⟩ := f x _ e2 e4 e5
    exact ⟨x, u, e1, f1, e3.stay tp, f2, f3⟩
theorem MM.fin_some {α : Type} {m : MM ω Λ α} {f : DS ω → DS ω} {s : SW ω Λ} {r : Except Er α} {s' : SW ω Λ} (h : m s = some (r, s')) : MM.fin m f s = some (r, (f s'.1, s'.2)) := by unfold MM.fin; rw [h]
theorem MM.fin_none {α : Type} {m : MM ω Λ α} {f : DS ω → DS ω} {s : SW ω Λ} (h : m s = none) : MM.fin m f s = none := by unfold MM.fin; rw [h]
theorem MM.bind_none {α β : Type} {m : MM ω Λ α} {f : α → MM ω Λ β} {s : SW ω Λ} (h : m s = none) : MM.bind m f s = none := by unfold MM.bind; rw [h]
theorem MM.bind_ok {α β : Type} {m : MM ω Λ α} {f : α → MM ω Λ β} {s s' : SW ω Λ} {v : α} (h : m s = some (.ok v, s')) : MM.bind m f s = f v s' := by unfold MM.bind; rw [h]
theorem MM.bind_err {α β : Type} {m : MM ω Λ α} {f : α → MM ω Λ β} {s s' : SW ω Λ} {e : Er} (h : m s = some (.error e, s')) : MM.bind m f s = some (.error e, s') := by unfold MM.bind; rw [h]
section
variable {kw : Nat} {wk : ω → MM ω Λ Dt}
/-- a run of a kept answer -/
def spRunK (a : Nat → Addr) (Y : LawP ω Λ) (wk : ω → MM ω Λ Dt) : Sp := fun vs H Q E => ∃ g st nm ia wi ns n h0, vs = [.ref (gA g nm), .bl ia] ∧ Wld a Y g st H ∧ st.1.th nm = some (.kept wi ns n h0) ∧ Post a Y g H (DtQ Q) (ErQ a E) (runM wk ia nm st)
theorem ok_runK (T : Tu P K mg a fd tk) (W : WOkX P w K mg base kw (wspU a Y wk)) : FnOk P w K mg base (L2.CX P w) (kw + 3) (a 48) (fd 48) ["self", "is_answer"] (spRunK a Y wk) := by
  refine T.F_Runner_run_work.okX sc_Runner_run_work (fun vs H Q E h => ?_) (fun cdv A outer s H vs Q E hr h => ?_)
  · obtain ⟨g, st, nm, ia, wi, ns, n, h0, rfl, _⟩ := h
    rfl
  · obtain ⟨g, ⟨S, l⟩, nm, ia, wi, ns, n, h0, rfl, WD, hth, k⟩ := h
    have hth : S.th nm = some (.kept wi ns n h0) := hth
    refine ⟨_, (pss_cons (ps_asg (pe_fldU K (pv 0)) (pg_name (i := 2) sc_Runner_run_work.nd rfl (by first | exact Or.inl rfl | exact Or.inr rfl)))
  (pss_cons (ps_asg (pe_make T.mk_Frame (ok_Frame___init__ T) (hr.mono (by omega)) (by rfl) T.g_Frame (b_Frame___init__ T) .nil pass0 (pa_cons (pe_fldU K (pv 0)) (pa_cons (pv 1) pa_nil))) (pg_name (i := 3) sc_Runner_run_work.nd rfl (by first | exact Or.inl rfl | exact Or.inr rfl)))
  (pss_cons (ps_fldU K (pv 0) (pe_fldU K (pv 3)))
  (pss_cons (ps_asg (pe_fldU K (pv 2)) (pg_name (i := 4) sc_Runner_run_work.nd rfl (by first | exact Or.inl rfl | exact Or.inr rfl)))
  (pss_cons (ps_fldU K (pv 2) (pe_op uAdd (pv 4) (pe_lst (pa_cons (pv 3) pa_nil))))
  (pss_cons (ps_finX rfl rfl rfl (takes_of rfl rfl rfl rfl) (fun W0 pn xe tk _ => pss_one (ps_asg (pe_fcallX (C := a 40) (E := WE W0) (pv 0) T.cl_Kept (T.f_Kept _ (by decide)) W (hr.mono (by omega)) (fun σ => passAt tk σ)) (pg_name (i := 5) sc_Runner_run_work.nd rfl (Or.inl rfl))))
    (pss_one (ps_fldU K (pv 2) (pv 4))) (fun a0 pn => pss_one (ps_fldU K (pv 2) (pv 4))))
  (pss_cons (ps_fldaug (pv 0) pe_int in_add)
  (pss_one (ps_ret (pv 5)))))))))), ?_⟩
    obtain ⟨c, Wc⟩ := id WD
    have hob := Wc.desk
    have hx := Wc.th hth
    have hx : H (gA g nm) = some (.ins (a 40) (c.idx nm) (keptU g.d nm (wA g nm) (c.nad nm) (n : Nat) (c.vh nm) h0.isSome)) := hx
    have hfr := Wc.frl
    have hfl : S.frs.length = g.fas.length := Wc.ok.fl
    have b6 : S.frs.length ≤ 200 := Wc.ok.b6
    unfold runM at k
    simp only [hth] at k
    simp only [Th.work] at k
    by_cases hb : (S.frs.any fun f => decide (f.own = nm)) = true ∨ 200 ≤ S.frs.length
    · rw [if_pos hb] at k; exact k.elim
    rw [if_neg hb] at k
    have hnf : ∀ f ∈ S.frs, f.own ≠ nm := fun f hf z => hb (.inl (List.any_eq_true.mpr ⟨f, hf, by simpa using z⟩))
    have h200 : S.frs.length < 200 := by omega
    walk_at "rd"
    intro frm dxf nfrm ndxf hne
    refine ⟨frm, dxf, nm, ia, rfl, upd_same, fun nt2 nnt2 nt2f => ⟨rfl, ?_⟩⟩
    rw [upd_ne nt2f] at nnt2
    have nt2x : nt2 ≠ dxf := by rintro rfl; rw [upd_same] at nnt2; cases nnt2
    rw [upd_ne nt2x] at nnt2
    rw [upd3 nt2f]
    have s1 : Same H (upd (upd (upd H dxf (.own frm)) nt2 (.dK [])) frm (.ins (a 49) dxf (frameU nm ia false nt2))) := fun b o hb => by
      rw [upd_ne (by rintro rfl; rw [nfrm] at hb; cases hb), upd_ne (by rintro rfl; rw [nnt2] at hb; cases hb), upd_ne (by rintro rfl; rw [ndxf] at hb; cases hb)]; exact hb
    have hfrm : upd (upd (upd H dxf (.own frm)) nt2 (.dK [])) frm (.ins (a 49) dxf (frameU nm ia false nt2)) frm = some (.ins (a 49) dxf (frameU nm ia false nt2)) := upd_same
    have hn2 : upd (upd (upd H dxf (.own frm)) nt2 (.dK [])) frm (.ins (a 49) dxf (frameU nm ia false nt2)) nt2 = some (.dK []) := by rw [upd_ne nt2f]; exact upd_same
    generalize upd (upd (upd H dxf (.own frm)) nt2 (.dK [])) frm (.ins (a 49) dxf (frameU nm ia false nt2)) = H1 at s1 hfrm hn2 ⊢
    have hx1 := s1 _ _ hx
    walk_at "rd"
    have e1 : putF (Str.ofString "noted") (V.ref nt2) (keptU g.d nm (wA g nm) (c.nad nm) (n : Nat) (c.vh nm) h0.isSome) = keptU g.d nm (wA g nm) nt2 (n : Nat) (c.vh nm) h0.isSome := rfl
    rw [e1]
    obtain ⟨W2, d2, nS⟩ := Wc.fresh (t := .kept wi ns n h0) hth rfl hnf s1 nnt2 nfrm nt2f hn2 hfrm
    have e2 : thO a g (c.setNad nm nt2) nm ((Th.kept wi ns n h0).putNotes [] : Th ω) = .ins (a 40) (c.idx nm) (keptU g.d nm (wA g nm) nt2 (n : Nat) (c.vh nm) h0.isSome) := by
      show HO.ins _ _ (keptU _ _ _ (if nm = nm then nt2 else _) _ _ _) = _
      rw [if_pos rfl]; rfl
    rw [e2] at W2 d2
    have hfrm2 := d2.toStep
    have fx : frm ≠ gA g nm := by rintro rfl; rw [hx] at nfrm; cases nfrm
    have hfrm3 : upd H1 (gA g nm) (.ins (a 40) (c.idx nm) (keptU g.d nm (wA g nm) nt2 (n : Nat) (c.vh nm) h0.isSome)) frm = some (.ins (a 49) dxf (frameU nm ia false nt2)) := by rw [upd_ne fx]; exact hfrm
    generalize upd H1 (gA g nm) (.ins (a 40) (c.idx nm) (keptU g.d nm (wA g nm) nt2 (n : Nat) (c.vh nm) h0.isSome)) = H2 at W2 d2 hfrm3 ⊢
    have hob2 : H2 g.d = some (.ins (a 3) c.dd (deskU c (S.ba : Nat))) := W2.desk
    have hfr2 : H2 c.fr = some (.lst (g.fas.map V.ref)) := W2.frl
    walk_at "rd"
    intro q nq
    have sq := Same.new (o := .lst [.ref frm]) nq
    have hq : upd H2 q (.lst [.ref frm]) q = some (.lst [.ref frm]) := upd_same
    generalize upd H2 q (.lst [.ref frm]) = H3 at sq hq ⊢
    walk_at "rd"
    refine s_addL (sq _ _ hfr2) hq (sz_le (by rw [List.length_map]; simp; omega)) fun z nz => ?_
    have e3 : g.fas.map V.ref ++ [.ref frm] = (g.fas ++ [frm]).map V.ref := by simp
    rw [e3]
    have nz2 : H2 z = none := sq.free nz
    have s4 : Same H2 (upd H3 z (.lst ((g.fas ++ [frm]).map V.ref))) := sq.trans (Same.new nz)
    have hz4 : upd H3 z (.lst ((g.fas ++ [frm]).map V.ref)) z = some (.lst ((g.fas ++ [frm]).map V.ref)) := upd_same
    generalize upd H3 z (.lst ((g.fas ++ [frm]).map V.ref)) = H4 at s4 hz4 ⊢
    have zT := W2.out nz2
    have W4 := (W2.same s4).pin hz4 zT.t zT.l
    have hob4 : H4 g.d = some (.ins (a 3) c.dd (deskU c (S.ba : Nat))) := s4 _ _ hob2
    walk_at "rd"
    have e4 : putF (Str.ofString "frames") (V.ref z) (deskU c (S.ba : Nat)) = deskU { c with fr := z } (S.ba : Nat) := rfl
    rw [e4]
    have W5 := W4.push (t := (Th.kept wi ns n h0).putNotes []) (ns := []) (ia := ia) (dxf := dxf) setTh_at rfl h200 (by
      have : (c.setNad nm nt2).nad nm = nt2 := if_pos rfl
      rw [this]
      exact s4 _ _ hfrm3) (.inr rfl) (fun s y o h => nS s y o (by rw [← slot_pin (x := z)]; exact h)) hz4 (.inr rfl)
    have e5 : deskU { c.setNad nm nt2 with fr := z } ((S.ba : Nat) : Int) = deskU { c with fr := z } (S.ba : Nat) := rfl
    have W5 : Tr.Wc a Y _ _ _ (upd H4 g.d (.ins (a 3) c.dd (deskU { c with fr := z } (S.ba : Nat)))) := W5
    have st5 : Step (g.fr (g.fas ++ [frm])) H ((((g.more nt2).more frm).pin z).fr (g.fas ++ [frm])) (upd H4 g.d (.ins (a 3) c.dd (deskU { c with fr := z } (S.ba : Nat)))) :=
      (d2.toStep.frs (g.fas ++ [frm])).tr (((DStep.samePin (z := z) s4 nz2).toStep.frs (g.fas ++ [frm])).tr (DStep.upd (show ((((g.more nt2).more frm).pin z).fr (g.fas ++ [frm])).T g.d from .inl (.inl Wc.dT))).toStep)
    generalize upd H4 g.d (.ins (a 3) c.dd (deskU { c with fr := z } (S.ba : Nat))) = H5 at W5 st5 ⊢
    have hx5 := W5.th (n := nm) (t := (Th.kept wi ns n h0).putNotes []) setTh_at
    have hx5 : H5 (gA g nm) = some (.ins (a 40) (c.idx nm) (keptU g.d nm (wA g nm) (if nm = nm then nt2 else c.nad nm) (n : Nat) (c.vh nm) h0.isSome)) := hx5
    have hfr5 : H5 c.fr = some (.lst (g.fas.map V.ref)) := st5.st _ _ hfr Wc.frT Wc.frL
    have frT5 := st5.notT hfr Wc.frT
    have frL5 := st5.notL hfr Wc.frL
    obtain ⟨f, hf⟩ := Wc.ok.wad nm _ wi hth rfl
    obtain ⟨x0, hx0⟩ := Wc.ok.adr nm _ hth
    have wf : wA g nm = f := wA_at hf
    have xx : gA g nm = x0 := gA_at hx0
    have CLf := W5.cl nm _ wi f setTh_at rfl hf
    refine s_seq (s_finX ?_)
    walk_at "rd"
    refine s_fcallX ?_
    walk_at "rd"
    refine ⟨gA g nm, c.idx nm, _, f, rfl, hx5, by rw [wf]; rfl, ⟨_, _, wi, ⟨_, W5⟩, CLf, ?_⟩⟩
    cases er : wk wi ({ (S.setTh nm ((Th.kept wi ns n h0).putNotes [])) with frs := S.frs ++ [⟨nm, ia, false⟩] }, l) with
    | none => rw [MM.bind_none (MM.fin_none er)] at k; exact k.elim
    | some p =>
    obtain ⟨r, ⟨S2, l2⟩⟩ := p
    have pop : ∀ {g6 : Gh} {H6 : Hp} {c6 : Cn}, Tr.Wc a Y g6 (S2, l2) c6 H6 → Step ((((g.more nt2).more frm).pin z).fr (g.fas ++ [frm])) H5 g6 H6 →
        Tr.Wc a Y (g6.fr g.fas) ({ S2 with frs := S2.frs.dropLast }, l2) { c6 with fr := c.fr } (upd H6 g.d (.ins (a 3) c6.dd (deskU { c6 with fr := c.fr } (S2.ba : Nat)))) ∧ Step g H (g6.fr g.fas) (upd H6 g.d (.ins (a 3) c6.dd (deskU { c6 with fr := c.fr } (S2.ba : Nat)))) ∧ g6.T g.d := fun {g6 H6 c6} W6 st6 => by
      have hd6 : g6.d = g.d := st6.d
      have ed : g6.T g.d := by rw [← hd6]; exact W6.dT
      have hz := st6.st _ _ hfr5 frT5 frL5
      have W7 := W6.pop (fas := g.fas) (frm := frm) (z := c.fr) st6.fas hz (st6.P _ (.inl Wc.frP))
      rw [hd6] at W7
      have st7 := st5.tr (st6.tr (DStep.upd (o := .ins (a 3) c6.dd (deskU { c6 with fr := c.fr } (S2.ba : Nat))) ed).toStep)
      exact ⟨W7, st7.frs g.fas, ed⟩
    cases r with
    | error e =>
      rw [MM.bind_err (MM.fin_some er)] at k
      refine Post.of_eq er (Post.mkErr fun g6 H6 WD6 st6 d hE => ?_)
      obtain ⟨c6, W6⟩ := id WD6
      have hob6 := W6.desk
      rw [st6.d] at hob6
      have hob6 : H6 g.d = some (.ins (a 3) c6.dd (deskU c6 (S2.ba : Nat))) := hob6
      obtain ⟨W7, st7, ed⟩ := pop W6 st6
      show wFin _ _ _ _ _ _
      unfold wFin
      walk_at "rd"
      have e7 : putF (Str.ofString "frames") (V.ref c.fr) (deskU c6 (S2.ba : Nat)) = deskU { c6 with fr := c.fr } (S2.ba : Nat) := rfl
      rw [e7]
      exact k.err ⟨_, W7⟩ st7 d (hE.stay (fun x o h1 h2 h3 => ⟨by rw [upd_ne (fun z => h2 (by rw [z]; exact ed))]; exact h1, h2, h3⟩) fun x xs h1 => W6.tupS (DStep.upd ed).toStep h1)
    | ok d =>
      rw [MM.bind_ok (MM.fin_some er)] at k
      refine Post.of_eq er (Post.mkOk fun g6 H6 WD6 st6 u hu => ?_)
      obtain ⟨c6, W6⟩ := id WD6
      have hob6 := W6.desk
      rw [st6.d] at hob6
      have hob6 : H6 g.d = some (.ins (a 3) c6.dd (deskU c6 (S2.ba : Nat))) := hob6
      obtain ⟨W7, st7, ed⟩ := pop W6 st6
      have hu7 := hu.stay (fun x xs h1 => W6.tupS (DStep.upd (o := .ins (a 3) c6.dd (deskU { c6 with fr := c.fr } (S2.ba : Nat))) ed).toStep h1)
      walk_at "rd"
      have e7 : putF (Str.ofString "frames") (V.ref c.fr) (deskU c6 (S2.ba : Nat)) = deskU { c6 with fr := c.fr } (S2.ba : Nat) := rfl
      rw [e7]
      show sFldAug _ _ _ _ _ _ _ (upd H6 g.d (.ins (a 3) c6.dd (deskU { c6 with fr := c.fr } (S2.ba : Nat))))
      generalize upd H6 g.d (.ins (a 3) c6.dd (deskU { c6 with fr := c.fr } (S2.ba : Nat))) = H7 at W7 st7 hu7 ⊢
      have gA7 : gA (g6.fr g.fas) nm = gA g nm := by rw [xx]; exact gA_at (st7.adr _ _ hx0)
      cases et : S2.th nm with
      | none => have k := k; simp only [et] at k; exact k.elim
      | some t2 =>
      have hx7 := W7.th (n := nm) (t := t2) et
      rw [gA7] at hx7
      have k := (show Post a Y g H (DtQ Q) (ErQ a E) (if t2.work.isSome = true then some (.ok d, (({ S2 with frs := S2.frs.dropLast } : DS ω).setTh nm t2.inc, l2)) else none) from by
        have k := k
        simp only [et] at k
        exact k)
      have ok8 : SOk (g6.fr g.fas) (({ S2 with frs := S2.frs.dropLast } : DS ω).setTh nm t2.inc) := by
        refine W7.ok.setTh et (fun v e => ?_) (fun w ns k hd e => ?_) (fun w ns k r e => ?_) fun ns' e => ?_
        · subst e; exact ⟨_, rfl⟩
        · subst e; exact ⟨_, _, _, rfl⟩
        · subst e; exact ⟨_, _, _, rfl⟩
        · rw [Th.inc_notes] at e; exact W7.ok.b8 nm t2 ns' et e
      have W8 := W7.thing (t := t2) (t' := t2.inc) (v := c6.vh nm) et Th.inc_notes Th.inc_work ok8 (fun w2 ns2 n2 hd2 e => by
        cases t2 with
        | cell v => cases e
        | kept w3 ns3 n3 hd3 => cases e; exact W7.vr.hld nm _ _ _ _ et
        | eff w3 ns3 n3 r3 => cases e) (fun w2 ns2 n2 hd2 e => by
        cases t2 with
        | cell v => cases e
        | kept w3 ns3 n3 hd3 => cases e
        | eff w3 ns3 n3 r3 => cases e; exact W7.vr.rep nm _ _ _ _ et)
      rw [gA7] at W8
      have xT : (g6.fr g.fas).T (gA g nm) := by rw [← gA7]; exact W7.inT _ _ _ (slot_th et)
      have hd7 : (g6.fr g.fas).d = g.d := st6.d
      have vhs : ({ c6 with fr := c.fr } : Cn).setVh nm (c6.vh nm) = ({ c6 with fr := c.fr } : Cn) := by
        unfold Cn.setVh
        congr 1
        funext m
        split
        · rename_i z; rw [z]
        · rfl
      rw [vhs] at W8
      cases t2 with
      | cell v => exact k.elim
      | kept w2 ns2 n2 hd2 =>
        have k := (show Post a Y g H (DtQ Q) (ErQ a E) (some (.ok d, (({ S2 with frs := S2.frs.dropLast } : DS ω).setTh nm (Th.inc (.kept w2 ns2 n2 hd2)), l2))) from k)
        have hx7 : H7 (gA g nm) = some (.ins (a 40) (c6.idx nm) (keptU g6.d nm (wA g6 nm) (c6.nad nm) (n2 : Nat) (c6.vh nm) hd2.isSome)) := hx7
        refine s_fldaug ?_
        walk_at "rd"
        refine ⟨gA g nm, a 40, _, _, .int (n2 : Nat), rfl, hx7, T.cl_Kept, T.f_Kept _ (by decide), rfl, ?_⟩
        walk_at "rd"
        refine ⟨(n2 : Nat), 1, rfl, rfl, ?_⟩
        refine ⟨_, _, hx7, by simp [keptU], ?_⟩
        walk_at "rd"
        exact k.ok ⟨_, W8⟩ (st7.tr (DStep.upd xT).toStep) u (hu7.stay fun x xs h1 => W7.tupS (DStep.upd xT).toStep h1)
      | eff w2 ns2 n2 hd2 =>
        have k := (show Post a Y g H (DtQ Q) (ErQ a E) (some (.ok d, (({ S2 with frs := S2.frs.dropLast } : DS ω).setTh nm (Th.inc (.eff w2 ns2 n2 hd2)), l2))) from k)
        have hx7 : H7 (gA g nm) = some (.ins (a 60) (c6.idx nm) (effU g6.d nm (wA g6 nm) (c6.nad nm) (n2 : Nat) (c6.vh nm))) := hx7
        refine s_fldaug ?_
        walk_at "rd"
        refine ⟨gA g nm, a 60, _, _, .int (n2 : Nat), rfl, hx7, T.cl_Effect, T.f_Effect _ (by decide), rfl, ?_⟩
        walk_at "rd"
        refine ⟨(n2 : Nat), 1, rfl, rfl, ?_⟩
        refine ⟨_, _, hx7, by simp [effU], ?_⟩
        walk_at "rd"
        exact k.ok ⟨_, W8⟩ (st7.tr (DStep.upd xT).toStep) u (hu7.stay fun x xs h1 => W7.tupS (DStep.upd xT).toStep h1)
theorem b_runK (T : Tu P K mg a fd tk) : Binds K (fd 48) ["self", "is_answer"] [] := T.F_Runner_run_work.binds fun _ _ _ _ _ _ us hl => match us, hl with | [_, _], _ => rfl

end
end
end
end Tr
set_option maxHeartbeats 4000000

namespace Tr
open PySem L2 OXB
section
variable {P : Program} {w : World} {K : PySem.W.Frag} {mg : Str → Option Value} {base : Heap} {a : Nat → Addr} {fd : Nat → FuncData} {tk : Nat → Tok}
local macro_rules | `(tactic| walk_at "ne") => `(tactic| first | assumption | (exact Ne.symm (by assumption)) | (refine ne_of_none (by assumption) (by assumption)) | (refine Ne.symm (ne_of_none (by assumption) (by assumption))))
local macro_rules | `(tactic| walk_at "hl") => `(tactic| first | assumption | with_reducible exact upd_same | ((with_reducible refine' Eq.trans (upd_ne ?hne) ?hrest); (case hne => walk_at "ne"); (case hrest => walk_at "hl")) | (refine' get_same ?hs ?hg; (case hs => assumption); (case hg => assumption)))
local macro_rules | `(tactic| walk_at "at") => `(tactic| first | with_reducible exact atI_0 _ _ | with_reducible exact atI_1 _ _ _ | with_reducible exact atI_2 _ _ _ _ | with_reducible exact atI_3 _ _ _ _ _ | assumption)
local macro_rules | `(tactic| walk_at "rd1") => `(tactic| first
  | with_reducible refine s_seq ?_ | with_reducible refine s_next ?_ | with_reducible refine s_if ?_ | with_reducible refine s_ret ?_ | with_reducible refine s_retN ?_ | with_reducible refine s_drop ?_ | with_reducible refine s_asg ?_ | with_reducible refine s_brk ?_ | with_reducible refine s_cont ?_
  | with_reducible refine s_gname ?_ | with_reducible refine s_c ?_ | with_reducible refine s_op ?_ | with_reducible refine s_un ?_ | with_reducible refine s_neg ?_ | with_reducible refine s_test ?_ | with_reducible refine s_tb ?_ | with_reducible refine s_not ?_ | with_reducible refine s_and ?_ | with_reducible refine s_or ?_ | with_reducible refine s_yes ?_
  | ((with_reducible refine' s_var ?hv ?_); (case hv => exact rfl))
  | with_reducible refine s_ifx ?_ | with_reducible refine s_andV ?_ | with_reducible refine s_orV ?_ | with_reducible refine s_notV ?_ | with_reducible refine s_chain ?_ | with_reducible refine s_nil ?_ | with_reducible refine s_cons ?_ | with_reducible refine s_lst ?_ | with_reducible refine s_tup ?_ | with_reducible refine s_cb ?_ | with_reducible refine s_call ?_ | with_reducible refine s_meth ?_ | with_reducible refine s_make ?_
  | with_reducible refine s_dnewK ?_ | with_reducible refine s_sl ?_ | with_reducible refine s_po0 ?_ | with_reducible refine s_po1 ?_ | with_reducible refine s_bm ?_ | with_reducible refine s_bm0 ?_
  | with_reducible refine s_bl ?_ | with_reducible refine s_int ?_ | with_reducible refine s_I0 ?_ | with_reducible refine s_addI ?_ | with_reducible refine s_intI ?_ | with_reducible refine s_intB ?_
  | with_reducible refine s_m1 ?_ | with_reducible refine s_lc ?_ | with_reducible refine s_ilist ?_ | with_reducible refine s_for ?_ | with_reducible refine s_irng ?_ | with_reducible refine s_match ?_ | with_reducible refine s_starT ?_ | with_reducible refine s_isS ?_ | with_reducible refine s_isiSS ?_ | with_reducible refine s_fldU ?_ | with_reducible refine s_sfldU ?_
  | ((with_reducible refine' s_eqS ?hq ?_); (case hq => exact rfl)) | ((with_reducible refine' s_neS ?hq ?_); (case hq => exact rfl))
  | ((with_reducible refine' s_isN ?hq ?_); (case hq => exact rfl)) | ((with_reducible refine' s_notN ?hq ?_); (case hq => exact rfl))
  | ((with_reducible refine' s_eqNil ?h1 ?h2 ?_); (case h1 => walk_at "hl"); (case h2 => walk_at "hl")) | ((with_reducible refine' s_neNil ?h1 ?h2 ?_); (case h1 => walk_at "hl"); (case h2 => walk_at "hl"))
  | ((with_reducible refine' s_ixL ?h1 ?h2 ?_); (case h1 => walk_at "hl"); (case h2 => walk_at "at")) | ((with_reducible refine' s_ixT ?h1 ?h2 ?_); (case h1 => walk_at "hl"); (case h2 => walk_at "at"))
  | ((with_reducible refine' s_inS ?h1 ?_); (case h1 => walk_at "hl")) | ((with_reducible refine' s_ninS ?h1 ?_); (case h1 => walk_at "hl")) | with_reducible refine s_inW ?_
  | ((with_reducible refine' s_lenL ?h1 ?_); (case h1 => walk_at "hl")) | ((with_reducible refine' s_lenT ?h1 ?_); (case h1 => walk_at "hl"))
  | ((with_reducible refine' s_tyL ?h1 ?_); (case h1 => walk_at "hl"))
  | ((with_reducible refine' s_fldM ?h1 ?h2 ?h3 ?_); (case h1 => walk_at "hl"); (case h2 => walk_at "fok"); (case h3 => walk_at "flk"))
  | ((with_reducible refine' s_setM ?h1 ?h2 ?h3 ?h4 ?_); (case h1 => walk_at "hl"); (case h2 => walk_at "fok"); (case h4 => walk_at "put"); (case h3 => exact Nat.le_of_ble_eq_true rfl))
  | ((with_reducible refine' s_starM ?h1 ?_); (case h1 => walk_at "hl"))
  | ((with_reducible refine' s_recv ?h1 ?h2 ?_); (case h1 => walk_at "hl"); (case h2 => exact rfl))
  | ((with_reducible refine' s_sz ?h1 ?_); (case h1 => (simp; done))))
local macro_rules | `(tactic| walk_at "rd") => `(tactic| repeat (walk_at "rd1"))
local macro_rules | `(tactic| walk_at "fok") => `(tactic| assumption)
local macro_rules | `(tactic| walk_at "flk") => `(tactic| rfl)
local macro_rules | `(tactic| walk_at "put") => `(tactic| exact rfl)

local macro_rules | `(tactic| walk_at "fok") => `(tactic| first | assumption | exact Tu.ce (by assumption) (by decide) | exact Tu.de (by assumption) (by decide) | exact Tu.ke (by assumption) (by decide) | exact Tu.fe (by assumption) (by decide) | exact Tu.ee (by assumption) (by decide))
section
variable {ω Λ : Type} {Y : LawP ω Λ}
section
variable {kw : Nat} {wk : ω → MM ω Λ Dt}
/-- a run of an effect -/
def spRunE (a : Nat → Addr) (Y : LawP ω Λ) (wk : ω → MM ω Λ Dt) : Sp := fun vs H Q E => ∃ g st nm ia wi ns n h0, vs = [.ref (gA g nm), .bl ia] ∧ Wld a Y g st H ∧ st.1.th nm = some (.eff wi ns n h0) ∧ Post a Y g H (DtQ Q) (ErQ a E) (runM wk ia nm st)
theorem ok_runE (T : Tu P K mg a fd tk) (W : WOkX P w K mg base kw (wspU a Y wk)) : FnOk P w K mg base (L2.CX P w) (kw + 3) (a 48) (fd 48) ["self", "is_answer"] (spRunE a Y wk) := by
  refine T.F_Runner_run_work.okX sc_Runner_run_work (fun vs H Q E h => ?_) (fun cdv A outer s H vs Q E hr h => ?_)
  · obtain ⟨g, st, nm, ia, wi, ns, n, h0, rfl, _⟩ := h
    rfl
  · obtain ⟨g, ⟨S, l⟩, nm, ia, wi, ns, n, h0, rfl, WD, hth, k⟩ := h
    have hth : S.th nm = some (.eff wi ns n h0) := hth
    refine ⟨_, (pss_cons (ps_asg (pe_fldU K (pv 0)) (pg_name (i := 2) sc_Runner_run_work.nd rfl (by first | exact Or.inl rfl | exact Or.inr rfl)))
  (pss_cons (ps_asg (pe_make T.mk_Frame (ok_Frame___init__ T) (hr.mono (by omega)) (by rfl) T.g_Frame (b_Frame___init__ T) .nil pass0 (pa_cons (pe_fldU K (pv 0)) (pa_cons (pv 1) pa_nil))) (pg_name (i := 3) sc_Runner_run_work.nd rfl (by first | exact Or.inl rfl | exact Or.inr rfl)))
  (pss_cons (ps_fldU K (pv 0) (pe_fldU K (pv 3)))
  (pss_cons (ps_asg (pe_fldU K (pv 2)) (pg_name (i := 4) sc_Runner_run_work.nd rfl (by first | exact Or.inl rfl | exact Or.inr rfl)))
  (pss_cons (ps_fldU K (pv 2) (pe_op uAdd (pv 4) (pe_lst (pa_cons (pv 3) pa_nil))))
  (pss_cons (ps_finX rfl rfl rfl (takes_of rfl rfl rfl rfl) (fun W0 pn xe tk _ => pss_one (ps_asg (pe_fcallX (C := a 60) (E := WE W0) (pv 0) T.cl_Effect (T.f_Effect _ (by decide)) W (hr.mono (by omega)) (fun σ => passAt tk σ)) (pg_name (i := 5) sc_Runner_run_work.nd rfl (Or.inl rfl))))
    (pss_one (ps_fldU K (pv 2) (pv 4))) (fun a0 pn => pss_one (ps_fldU K (pv 2) (pv 4))))
  (pss_cons (ps_fldaug (pv 0) pe_int in_add)
  (pss_one (ps_ret (pv 5)))))))))), ?_⟩
    obtain ⟨c, Wc⟩ := id WD
    have hob := Wc.desk
    have hx := Wc.th hth
    have hx : H (gA g nm) = some (.ins (a 60) (c.idx nm) (effU g.d nm (wA g nm) (c.nad nm) (n : Nat) (c.vh nm))) := hx
    have hfr := Wc.frl
    have hfl : S.frs.length = g.fas.length := Wc.ok.fl
    have b6 : S.frs.length ≤ 200 := Wc.ok.b6
    unfold runM at k
    simp only [hth] at k
    simp only [Th.work] at k
    by_cases hb : (S.frs.any fun f => decide (f.own = nm)) = true ∨ 200 ≤ S.frs.length
    · rw [if_pos hb] at k; exact k.elim
    rw [if_neg hb] at k
    have hnf : ∀ f ∈ S.frs, f.own ≠ nm := fun f hf z => hb (.inl (List.any_eq_true.mpr ⟨f, hf, by simpa using z⟩))
    have h200 : S.frs.length < 200 := by omega
    walk_at "rd"
    intro frm dxf nfrm ndxf hne
    refine ⟨frm, dxf, nm, ia, rfl, upd_same, fun nt2 nnt2 nt2f => ⟨rfl, ?_⟩⟩
    rw [upd_ne nt2f] at nnt2
    have nt2x : nt2 ≠ dxf := by rintro rfl; rw [upd_same] at nnt2; cases nnt2
    rw [upd_ne nt2x] at nnt2
    rw [upd3 nt2f]
    have s1 : Same H (upd (upd (upd H dxf (.own frm)) nt2 (.dK [])) frm (.ins (a 49) dxf (frameU nm ia false nt2))) := fun b o hb => by
      rw [upd_ne (by rintro rfl; rw [nfrm] at hb; cases hb), upd_ne (by rintro rfl; rw [nnt2] at hb; cases hb), upd_ne (by rintro rfl; rw [ndxf] at hb; cases hb)]; exact hb
    have hfrm : upd (upd (upd H dxf (.own frm)) nt2 (.dK [])) frm (.ins (a 49) dxf (frameU nm ia false nt2)) frm = some (.ins (a 49) dxf (frameU nm ia false nt2)) := upd_same
    have hn2 : upd (upd (upd H dxf (.own frm)) nt2 (.dK [])) frm (.ins (a 49) dxf (frameU nm ia false nt2)) nt2 = some (.dK []) := by rw [upd_ne nt2f]; exact upd_same
    generalize upd (upd (upd H dxf (.own frm)) nt2 (.dK [])) frm (.ins (a 49) dxf (frameU nm ia false nt2)) = H1 at s1 hfrm hn2 ⊢
    have hx1 := s1 _ _ hx
    walk_at "rd"
    have e1 : putF (Str.ofString "noted") (V.ref nt2) (effU g.d nm (wA g nm) (c.nad nm) (n : Nat) (c.vh nm)) = effU g.d nm (wA g nm) nt2 (n : Nat) (c.vh nm) := rfl
    rw [e1]
    obtain ⟨W2, d2, nS⟩ := Wc.fresh (t := .eff wi ns n h0) hth rfl hnf s1 nnt2 nfrm nt2f hn2 hfrm
    have e2 : thO a g (c.setNad nm nt2) nm ((Th.eff wi ns n h0).putNotes [] : Th ω) = .ins (a 60) (c.idx nm) (effU g.d nm (wA g nm) nt2 (n : Nat) (c.vh nm)) := by
      show HO.ins _ _ (effU _ _ _ (if nm = nm then nt2 else _) _ _) = _
      rw [if_pos rfl]; rfl
    rw [e2] at W2 d2
    have hfrm2 := d2.toStep
    have fx : frm ≠ gA g nm := by rintro rfl; rw [hx] at nfrm; cases nfrm
    have hfrm3 : upd H1 (gA g nm) (.ins (a 60) (c.idx nm) (effU g.d nm (wA g nm) nt2 (n : Nat) (c.vh nm))) frm = some (.ins (a 49) dxf (frameU nm ia false nt2)) := by rw [upd_ne fx]; exact hfrm
    generalize upd H1 (gA g nm) (.ins (a 60) (c.idx nm) (effU g.d nm (wA g nm) nt2 (n : Nat) (c.vh nm))) = H2 at W2 d2 hfrm3 ⊢
    have hob2 : H2 g.d = some (.ins (a 3) c.dd (deskU c (S.ba : Nat))) := W2.desk
    have hfr2 : H2 c.fr = some (.lst (g.fas.map V.ref)) := W2.frl
    walk_at "rd"
    intro q nq
    have sq := Same.new (o := .lst [.ref frm]) nq
    have hq : upd H2 q (.lst [.ref frm]) q = some (.lst [.ref frm]) := upd_same
    generalize upd H2 q (.lst [.ref frm]) = H3 at sq hq ⊢
    walk_at "rd"
    refine s_addL (sq _ _ hfr2) hq (sz_le (by rw [List.length_map]; simp; omega)) fun z nz => ?_
    have e3 : g.fas.map V.ref ++ [.ref frm] = (g.fas ++ [frm]).map V.ref := by simp
    rw [e3]
    have nz2 : H2 z = none := sq.free nz
    have s4 : Same H2 (upd H3 z (.lst ((g.fas ++ [frm]).map V.ref))) := sq.trans (Same.new nz)
    have hz4 : upd H3 z (.lst ((g.fas ++ [frm]).map V.ref)) z = some (.lst ((g.fas ++ [frm]).map V.ref)) := upd_same
    generalize upd H3 z (.lst ((g.fas ++ [frm]).map V.ref)) = H4 at s4 hz4 ⊢
    have zT := W2.out nz2
    have W4 := (W2.same s4).pin hz4 zT.t zT.l
    have hob4 : H4 g.d = some (.ins (a 3) c.dd (deskU c (S.ba : Nat))) := s4 _ _ hob2
    walk_at "rd"
    have e4 : putF (Str.ofString "frames") (V.ref z) (deskU c (S.ba : Nat)) = deskU { c with fr := z } (S.ba : Nat) := rfl
    rw [e4]
    have W5 := W4.push (t := (Th.eff wi ns n h0).putNotes []) (ns := []) (ia := ia) (dxf := dxf) setTh_at rfl h200 (by
      have : (c.setNad nm nt2).nad nm = nt2 := if_pos rfl
      rw [this]
      exact s4 _ _ hfrm3) (.inr rfl) (fun s y o h => nS s y o (by rw [← slot_pin (x := z)]; exact h)) hz4 (.inr rfl)
    have e5 : deskU { c.setNad nm nt2 with fr := z } ((S.ba : Nat) : Int) = deskU { c with fr := z } (S.ba : Nat) := rfl
    have W5 : Tr.Wc a Y _ _ _ (upd H4 g.d (.ins (a 3) c.dd (deskU { c with fr := z } (S.ba : Nat)))) := W5
    have st5 : Step (g.fr (g.fas ++ [frm])) H ((((g.more nt2).more frm).pin z).fr (g.fas ++ [frm])) (upd H4 g.d (.ins (a 3) c.dd (deskU { c with fr := z } (S.ba : Nat)))) :=
      (d2.toStep.frs (g.fas ++ [frm])).tr (((DStep.samePin (z := z) s4 nz2).toStep.frs (g.fas ++ [frm])).tr (DStep.upd (show ((((g.more nt2).more frm).pin z).fr (g.fas ++ [frm])).T g.d from .inl (.inl Wc.dT))).toStep)
    generalize upd H4 g.d (.ins (a 3) c.dd (deskU { c with fr := z } (S.ba : Nat))) = H5 at W5 st5 ⊢
    have hx5 := W5.th (n := nm) (t := (Th.eff wi ns n h0).putNotes []) setTh_at
    have hx5 : H5 (gA g nm) = some (.ins (a 60) (c.idx nm) (effU g.d nm (wA g nm) (if nm = nm then nt2 else c.nad nm) (n : Nat) (c.vh nm))) := hx5
    have hfr5 : H5 c.fr = some (.lst (g.fas.map V.ref)) := st5.st _ _ hfr Wc.frT Wc.frL
    have frT5 := st5.notT hfr Wc.frT
    have frL5 := st5.notL hfr Wc.frL
    obtain ⟨f, hf⟩ := Wc.ok.wad nm _ wi hth rfl
    obtain ⟨x0, hx0⟩ := Wc.ok.adr nm _ hth
    have wf : wA g nm = f := wA_at hf
    have xx : gA g nm = x0 := gA_at hx0
    have CLf := W5.cl nm _ wi f setTh_at rfl hf
    refine s_seq (s_finX ?_)
    walk_at "rd"
    refine s_fcallX ?_
    walk_at "rd"
    refine ⟨gA g nm, c.idx nm, _, f, rfl, hx5, by rw [wf]; rfl, ⟨_, _, wi, ⟨_, W5⟩, CLf, ?_⟩⟩
    cases er : wk wi ({ (S.setTh nm ((Th.eff wi ns n h0).putNotes [])) with frs := S.frs ++ [⟨nm, ia, false⟩] }, l) with
    | none => rw [MM.bind_none (MM.fin_none er)] at k; exact k.elim
    | some p =>
    obtain ⟨r, ⟨S2, l2⟩⟩ := p
    have pop : ∀ {g6 : Gh} {H6 : Hp} {c6 : Cn}, Tr.Wc a Y g6 (S2, l2) c6 H6 → Step ((((g.more nt2).more frm).pin z).fr (g.fas ++ [frm])) H5 g6 H6 →
        Tr.Wc a Y (g6.fr g.fas) ({ S2 with frs := S2.frs.dropLast }, l2) { c6 with fr := c.fr } (upd H6 g.d (.ins (a 3) c6.dd (deskU { c6 with fr := c.fr } (S2.ba : Nat)))) ∧ Step g H (g6.fr g.fas) (upd H6 g.d (.ins (a 3) c6.dd (deskU { c6 with fr := c.fr } (S2.ba : Nat)))) ∧ g6.T g.d := fun {g6 H6 c6} W6 st6 => by
      have hd6 : g6.d = g.d := st6.d
      have ed : g6.T g.d := by rw [← hd6]; exact W6.dT
      have hz := st6.st _ _ hfr5 frT5 frL5
      have W7 := W6.pop (fas := g.fas) (frm := frm) (z := c.fr) st6.fas hz (st6.P _ (.inl Wc.frP))
      rw [hd6] at W7
      have st7 := st5.tr (st6.tr (DStep.upd (o := .ins (a 3) c6.dd (deskU { c6 with fr := c.fr } (S2.ba : Nat))) ed).toStep)
      exact ⟨W7, st7.frs g.fas, ed⟩
    cases r with
    | error e =>
      rw [MM.bind_err (MM.fin_some er)] at k
      refine Post.of_eq er (Post.mkErr fun g6 H6 WD6 st6 d hE => ?_)
      obtain ⟨c6, W6⟩ := id WD6
      have hob6 := W6.desk
      rw [st6.d] at hob6
      have hob6 : H6 g.d = some (.ins (a 3) c6.dd (deskU c6 (S2.ba : Nat))) := hob6
      obtain ⟨W7, st7, ed⟩ := pop W6 st6
      show wFin _ _ _ _ _ _
      unfold wFin
      walk_at "rd"
      have e7 : putF (Str.ofString "frames") (V.ref c.fr) (deskU c6 (S2.ba : Nat)) = deskU { c6 with fr := c.fr } (S2.ba : Nat) := rfl
      rw [e7]
      exact k.err ⟨_, W7⟩ st7 d (hE.stay (fun x o h1 h2 h3 => ⟨by rw [upd_ne (fun z => h2 (by rw [z]; exact ed))]; exact h1, h2, h3⟩) fun x xs h1 => W6.tupS (DStep.upd ed).toStep h1)
    | ok d =>
      rw [MM.bind_ok (MM.fin_some er)] at k
      refine Post.of_eq er (Post.mkOk fun g6 H6 WD6 st6 u hu => ?_)
      obtain ⟨c6, W6⟩ := id WD6
      have hob6 := W6.desk
      rw [st6.d] at hob6
      have hob6 : H6 g.d = some (.ins (a 3) c6.dd (deskU c6 (S2.ba : Nat))) := hob6
      obtain ⟨W7, st7, ed⟩ := pop W6 st6
      have hu7 := hu.stay (fun x xs h1 => W6.tupS (DStep.upd (o := .ins (a 3) c6.dd (deskU { c6 with fr := c.fr } (S2.ba : Nat))) ed).toStep h1)
      walk_at "rd"
      have e7 : putF (Str.ofString "frames") (V.ref c.fr) (deskU c6 (S2.ba : Nat)) = deskU { c6 with fr := c.fr } (S2.ba : Nat) := rfl
      rw [e7]
      show sFldAug _ _ _ _ _ _ _ (upd H6 g.d (.ins (a 3) c6.dd (deskU { c6 with fr := c.fr } (S2.ba : Nat))))
      generalize upd H6 g.d (.ins (a 3) c6.dd (deskU { c6 with fr := c.fr } (S2.ba : Nat))) = H7 at W7 st7 hu7 ⊢
      have gA7 : gA (g6.fr g.fas) nm = gA g nm := by rw [xx]; exact gA_at (st7.adr _ _ hx0)
      cases et : S2.th nm with
      | none => have k := k; simp only [et] at k; exact k.elim
      | some t2 =>
      have hx7 := W7.th (n := nm) (t := t2) et
      rw [gA7] at hx7
      have k := (show Post a Y g H (DtQ Q) (ErQ a E) (if t2.work.isSome = true then some (.ok d, (({ S2 with frs := S2.frs.dropLast } : DS ω).setTh nm t2.inc, l2)) else none) from by
        have k := k
        simp only [et] at k
        exact k)
      have ok8 : SOk (g6.fr g.fas) (({ S2 with frs := S2.frs.dropLast } : DS ω).setTh nm t2.inc) := by
        refine W7.ok.setTh et (fun v e => ?_) (fun w ns k hd e => ?_) (fun w ns k r e => ?_) fun ns' e => ?_
        · subst e; exact ⟨_, rfl⟩
        · subst e; exact ⟨_, _, _, rfl⟩
        · subst e; exact ⟨_, _, _, rfl⟩
        · rw [Th.inc_notes] at e; exact W7.ok.b8 nm t2 ns' et e
      have W8 := W7.thing (t := t2) (t' := t2.inc) (v := c6.vh nm) et Th.inc_notes Th.inc_work ok8 (fun w2 ns2 n2 hd2 e => by
        cases t2 with
        | cell v => cases e
        | kept w3 ns3 n3 hd3 => cases e; exact W7.vr.hld nm _ _ _ _ et
        | eff w3 ns3 n3 r3 => cases e) (fun w2 ns2 n2 hd2 e => by
        cases t2 with
        | cell v => cases e
        | kept w3 ns3 n3 hd3 => cases e
        | eff w3 ns3 n3 r3 => cases e; exact W7.vr.rep nm _ _ _ _ et)
      rw [gA7] at W8
      have xT : (g6.fr g.fas).T (gA g nm) := by rw [← gA7]; exact W7.inT _ _ _ (slot_th et)
      have hd7 : (g6.fr g.fas).d = g.d := st6.d
      have vhs : ({ c6 with fr := c.fr } : Cn).setVh nm (c6.vh nm) = ({ c6 with fr := c.fr } : Cn) := by
        unfold Cn.setVh
        congr 1
        funext m
        split
        · rename_i z; rw [z]
        · rfl
      rw [vhs] at W8
      cases t2 with
      | cell v => exact k.elim
      | kept w2 ns2 n2 hd2 =>
        have k := (show Post a Y g H (DtQ Q) (ErQ a E) (some (.ok d, (({ S2 with frs := S2.frs.dropLast } : DS ω).setTh nm (Th.inc (.kept w2 ns2 n2 hd2)), l2))) from k)
        have hx7 : H7 (gA g nm) = some (.ins (a 40) (c6.idx nm) (keptU g6.d nm (wA g6 nm) (c6.nad nm) (n2 : Nat) (c6.vh nm) hd2.isSome)) := hx7
        refine s_fldaug ?_
        walk_at "rd"
        refine ⟨gA g nm, a 40, _, _, .int (n2 : Nat), rfl, hx7, T.cl_Kept, T.f_Kept _ (by decide), rfl, ?_⟩
        walk_at "rd"
        refine ⟨(n2 : Nat), 1, rfl, rfl, ?_⟩
        refine ⟨_, _, hx7, by simp [keptU], ?_⟩
        walk_at "rd"
        exact k.ok ⟨_, W8⟩ (st7.tr (DStep.upd xT).toStep) u (hu7.stay fun x xs h1 => W7.tupS (DStep.upd xT).toStep h1)
      | eff w2 ns2 n2 hd2 =>
        have k := (show Post a Y g H (DtQ Q) (ErQ a E) (some (.ok d, (({ S2 with frs := S2.frs.dropLast } : DS ω).setTh nm (Th.inc (.eff w2 ns2 n2 hd2)), l2))) from k)
        have hx7 : H7 (gA g nm) = some (.ins (a 60) (c6.idx nm) (effU g6.d nm (wA g6 nm) (c6.nad nm) (n2 : Nat) (c6.vh nm))) := hx7
        refine s_fldaug ?_
        walk_at "rd"
        refine ⟨gA g nm, a 60, _, _, .int (n2 : Nat), rfl, hx7, T.cl_Effect, T.f_Effect _ (by decide), rfl, ?_⟩
        walk_at "rd"
        refine ⟨(n2 : Nat), 1, rfl, rfl, ?_⟩
        refine ⟨_, _, hx7, by simp [effU], ?_⟩
        walk_at "rd"
        exact k.ok ⟨_, W8⟩ (st7.tr (DStep.upd xT).toStep) u (hu7.stay fun x xs h1 => W7.tupS (DStep.upd xT).toStep h1)
theorem b_runE (T : Tu P K mg a fd tk) : Binds K (fd 48) ["self", "is_answer"] [] := T.F_Runner_run_work.binds fun _ _ _ _ _ _ us hl => match us, hl with | [_, _], _ => rfl

end
end
end
end Tr
set_option maxHeartbeats 4000000

namespace Tr
open PySem L2 OXB
section
variable {P : Program} {w : World} {K : PySem.W.Frag} {mg : Str → Option Value} {base : Heap} {a : Nat → Addr} {fd : Nat → FuncData} {tk : Nat → Tok}
local macro_rules | `(tactic| walk_at "ne") => `(tactic| first | assumption | (exact Ne.symm (by assumption)) | (refine ne_of_none (by assumption) (by assumption)) | (refine Ne.symm (ne_of_none (by assumption) (by assumption))))
local macro_rules | `(tactic| walk_at "hl") => `(tactic| first | assumption | with_reducible exact upd_same | ((with_reducible refine' Eq.trans (upd_ne ?hne) ?hrest); (case hne => walk_at "ne"); (case hrest => walk_at "hl")) | (refine' get_same ?hs ?hg; (case hs => assumption); (case hg => assumption)))
local macro_rules | `(tactic| walk_at "at") => `(tactic| first | with_reducible exact atI_0 _ _ | with_reducible exact atI_1 _ _ _ | with_reducible exact atI_2 _ _ _ _ | with_reducible exact atI_3 _ _ _ _ _ | assumption)
local macro_rules | `(tactic| walk_at "rd1") => `(tactic| first
  | with_reducible refine s_seq ?_ | with_reducible refine s_next ?_ | with_reducible refine s_if ?_ | with_reducible refine s_ret ?_ | with_reducible refine s_retN ?_ | with_reducible refine s_drop ?_ | with_reducible refine s_asg ?_ | with_reducible refine s_brk ?_ | with_reducible refine s_cont ?_
  | with_reducible refine s_gname ?_ | with_reducible refine s_c ?_ | with_reducible refine s_op ?_ | with_reducible refine s_un ?_ | with_reducible refine s_neg ?_ | with_reducible refine s_test ?_ | with_reducible refine s_tb ?_ | with_reducible refine s_not ?_ | with_reducible refine s_and ?_ | with_reducible refine s_or ?_ | with_reducible refine s_yes ?_
  | ((with_reducible refine' s_var ?hv ?_); (case hv => exact rfl))
  | with_reducible refine s_ifx ?_ | with_reducible refine s_andV ?_ | with_reducible refine s_orV ?_ | with_reducible refine s_notV ?_ | with_reducible refine s_chain ?_ | with_reducible refine s_nil ?_ | with_reducible refine s_cons ?_ | with_reducible refine s_lst ?_ | with_reducible refine s_tup ?_ | with_reducible refine s_cb ?_ | with_reducible refine s_call ?_ | with_reducible refine s_meth ?_ | with_reducible refine s_make ?_
  | with_reducible refine s_dnewK ?_ | with_reducible refine s_sl ?_ | with_reducible refine s_po0 ?_ | with_reducible refine s_po1 ?_ | with_reducible refine s_bm ?_ | with_reducible refine s_bm0 ?_
  | with_reducible refine s_bl ?_ | with_reducible refine s_int ?_ | with_reducible refine s_I0 ?_ | with_reducible refine s_addI ?_ | with_reducible refine s_intI ?_ | with_reducible refine s_intB ?_
  | with_reducible refine s_m1 ?_ | with_reducible refine s_lc ?_ | with_reducible refine s_ilist ?_ | with_reducible refine s_for ?_ | with_reducible refine s_irng ?_ | with_reducible refine s_match ?_ | with_reducible refine s_starT ?_ | with_reducible refine s_isS ?_ | with_reducible refine s_isiSS ?_ | with_reducible refine s_fldU ?_ | with_reducible refine s_sfldU ?_
  | ((with_reducible refine' s_eqS ?hq ?_); (case hq => exact rfl)) | ((with_reducible refine' s_neS ?hq ?_); (case hq => exact rfl))
  | ((with_reducible refine' s_isN ?hq ?_); (case hq => exact rfl)) | ((with_reducible refine' s_notN ?hq ?_); (case hq => exact rfl))
  | ((with_reducible refine' s_eqNil ?h1 ?h2 ?_); (case h1 => walk_at "hl"); (case h2 => walk_at "hl")) | ((with_reducible refine' s_neNil ?h1 ?h2 ?_); (case h1 => walk_at "hl"); (case h2 => walk_at "hl"))
  | ((with_reducible refine' s_ixL ?h1 ?h2 ?_); (case h1 => walk_at "hl"); (case h2 => walk_at "at")) | ((with_reducible refine' s_ixT ?h1 ?h2 ?_); (case h1 => walk_at "hl"); (case h2 => walk_at "at"))
  | ((with_reducible refine' s_inS ?h1 ?_); (case h1 => walk_at "hl")) | ((with_reducible refine' s_ninS ?h1 ?_); (case h1 => walk_at "hl")) | with_reducible refine s_inW ?_
  | ((with_reducible refine' s_lenL ?h1 ?_); (case h1 => walk_at "hl")) | ((with_reducible refine' s_lenT ?h1 ?_); (case h1 => walk_at "hl"))
  | ((with_reducible refine' s_tyL ?h1 ?_); (case h1 => walk_at "hl"))
  | ((with_reducible refine' s_fldM ?h1 ?h2 ?h3 ?_); (case h1 => walk_at "hl"); (case h2 => walk_at "fok"); (case h3 => walk_at "flk"))
  | ((with_reducible refine' s_setM ?h1 ?h2 ?h3 ?h4 ?_); (case h1 => walk_at "hl"); (case h2 => walk_at "fok"); (case h4 => walk_at "put"); (case h3 => exact Nat.le_of_ble_eq_true rfl))
  | ((with_reducible refine' s_starM ?h1 ?_); (case h1 => walk_at "hl"))
  | ((with_reducible refine' s_recv ?h1 ?h2 ?_); (case h1 => walk_at "hl"); (case h2 => exact rfl))
  | ((with_reducible refine' s_sz ?h1 ?_); (case h1 => (simp; done))))
local macro_rules | `(tactic| walk_at "rd") => `(tactic| repeat (walk_at "rd1"))
local macro_rules | `(tactic| walk_at "fok") => `(tactic| assumption)
local macro_rules | `(tactic| walk_at "flk") => `(tactic| rfl)
local macro_rules | `(tactic| walk_at "put") => `(tactic| exact rfl)

local macro_rules | `(tactic| walk_at "fok") => `(tactic| first | assumption | exact Tu.ce (by assumption) (by decide) | exact Tu.de (by assumption) (by decide) | exact Tu.ke (by assumption) (by decide) | exact Tu.fe (by assumption) (by decide) | exact Tu.ee (by assumption) (by decide))
section
variable {ω Λ : Type} {Y : LawP ω Λ}
theorem rNeU_dv {H : Hp} {v u : V} {d e : Dt} {Q : VK} (h1 : DvS H v d) (h2 : DvS H u e) (k : Q (.bl (!PyData.eqv d e)) H) : rNeU K v u H Q := by
  have kD : rNeD K v u H Q := s_neDv h1 h2 k
  unfold rNeU
  by_cases c : scal v u = true
  · rw [if_pos c]
    have e0 : decide (v = u) = PyData.eqv d e := by
      obtain ⟨q1, _⟩ := h1
      obtain ⟨q2, _⟩ := h2
      cases q1 <;> cases q2 <;> first | (simp [scal] at c; done) | (simp [PyData.eqv]; done) | (simp only [PyData.eqv, V.int.injEq, V.bl.injEq, V.str.injEq]; rfl)
    rw [e0]; exact k
  · rw [if_neg c]
    split
    · rename_i q
      obtain ⟨q2, _⟩ := h2
      cases q2 with
      | tup h3 h4 =>
        simp only [h3]
        exact kD
    · exact kD
theorem rEqU_dv {H : Hp} {v u : V} {d e : Dt} {Q : VK} (h1 : DvS H v d) (h2 : DvS H u e) (k : Q (.bl (PyData.eqv d e)) H) : rEqU K v u H Q := by
  have kD : rEqD K v u H Q := ⟨d, e, h1.dv.dp _ _, h2.dv.dp _ _, h1.sh, h2.sh, k⟩
  unfold rEqU
  by_cases c : scal v u = true
  · rw [if_pos c]
    have e0 : decide (v = u) = PyData.eqv d e := by
      obtain ⟨q1, _⟩ := h1
      obtain ⟨q2, _⟩ := h2
      cases q1 <;> cases q2 <;> first | (simp [scal] at c; done) | (simp [PyData.eqv]; done) | (simp only [PyData.eqv, V.int.injEq, V.bl.injEq, V.str.injEq]; rfl)
    rw [e0]; exact k
  · rw [if_neg c]
    split
    · rename_i q
      obtain ⟨q2, _⟩ := h2
      cases q2 with
      | tup h3 h4 =>
        simp only [h3]
        exact kD
    · exact kD
local macro_rules | `(tactic| walk_at "flk") => `(tactic| first | exact rfl | assumption)
theorem s_listItems {te : TE} {σ : L2.St} {H : Hp} {Q : VK} (h : te σ H fun x H1 => LiI.rItemsL x H1 Q) : LiI.tListItems te σ H Q := h
/-- the desk's field of a thing -/
theorem Wc.deskF (T : Tu P K mg a fd tk) {g : Gh} {S : DS ω} {l : Λ} {c : Cn} {H : Hp} (W : Wc a Y g (S, l) c H) {n : Str} {t : Th ω} (h : S.th n = some t) : ∃ C dx fs, H (gA g n) = some (.ins C dx fs) ∧ fs.lookup (Str.ofString "desk") = some (.ref g.d) ∧ FldOk K C (Str.ofString "desk") := by
  have hx := W.th h
  cases t with
  | cell v => exact ⟨_, _, _, hx, rfl, T.ce (by decide)⟩
  | kept w ns k hd => exact ⟨_, _, _, hx, rfl, T.ke (by decide)⟩
  | eff w ns k r => exact ⟨_, _, _, hx, rfl, T.ee (by decide)⟩
theorem kv_lookup {g : Gh} : ∀ {ns : List Str} {n : Str}, n ∈ ns → valV (ns.map (kvU g)) (.inr n) = some (.ref (gA g n))
  | m :: ns, n, h => by
    by_cases e : m = n
    · subst e
      exact valV_pos (p := kvU g m) rfl
    · rw [List.map_cons, valV_neg (p := kvU g m) (fun z => e (by cases z; rfl))]
      exact kv_lookup ((List.mem_cons.mp h).resolve_left fun z => e z.symm)
def spWorthC (a : Nat → Addr) (Y : LawP ω Λ) : Sp := fun vs H Q _ => ∃ g st nm v, vs = [.ref (gA g nm)] ∧ Wld a Y g st H ∧ st.1.th nm = some (.cell v) ∧ Q (.int v) H
theorem ok_Cell_worth_now (T : Tu P K mg a fd tk) : FnOk P w K mg base CX0 1 (a 25) (fd 25) ["self"] (spWorthC a Y) := by
  refine T.F_Cell_worth_now.ok sc_Cell_worth_now (fun vs H Q E h => ?_) (fun cdv A outer s H vs Q E hr h => ?_)
  · obtain ⟨g, st, nm, v, rfl, _⟩ := h
    rfl
  · obtain ⟨g, ⟨S, l⟩, nm, v, rfl, ⟨c, Wc⟩, ht, k⟩ := h
    have hc : H (gA g nm) = some (.ins (a 2) (c.idx nm) (cellU g.d nm v)) := Wc.th ht
    refine ⟨_, (pss_one (ps_ret (pe_fldU K (pv 0)))), ?_⟩
    walk_at "rd"
    exact k
theorem b_Cell_worth_now (T : Tu P K mg a fd tk) : Binds K (fd 25) ["self"] [] := T.F_Cell_worth_now.binds fun _ _ _ _ _ _ us hl => match us, hl with | [_], _ => rfl
theorem ok_Cell_value (T : Tu P K mg a fd tk) : FnOk P w K mg base CX0 1 (a 8) (fd 8) ["self"] (spWorthC a Y) := by
  refine T.F_Cell_value.ok sc_Cell_valueG (fun vs H Q E h => ?_) (fun cdv A outer s H vs Q E hr h => ?_)
  · obtain ⟨g, st, nm, v, rfl, _⟩ := h
    rfl
  · obtain ⟨g, ⟨S, l⟩, nm, v, rfl, ⟨c, Wc⟩, ht, k⟩ := h
    have hc : H (gA g nm) = some (.ins (a 2) (c.idx nm) (cellU g.d nm v)) := Wc.th ht
    refine ⟨_, pss_one (ps_ret (pe_fldU K (pv 0))), ?_⟩
    walk_at "rd"
    exact k
theorem b_Cell_value (T : Tu P K mg a fd tk) : Binds K (fd 8) ["self"] [] := T.F_Cell_value.binds fun _ _ _ _ _ _ us hl => match us, hl with | [_], _ => rfl
/-- worth_now of an answer, as it stands -/
def spWorthU (a : Nat → Addr) (Y : LawP ω Λ) (wo : Str → MM ω Λ Dt) : Sp := fun vs H Q E => ∃ g st nm wi ns n h, vs = [.ref (gA g nm)] ∧ Wld a Y g st H ∧ st.1.th nm = some (.kept wi ns n h) ∧ Post a Y g H (DtQ Q) (ErQ a E) (wo nm st)
/-- what is read of cells -/
def WoC (wo : Str → MM ω Λ Dt) : Prop := ∀ nm s v, s.1.th nm = some (.cell v) → wo nm s = some (.ok (.int v), s)
theorem b_Kept_worth_now (T : Tu P K mg a fd tk) : Binds K (fd 45) ["self"] [] := T.F_Kept_worth_now.binds fun _ _ _ _ _ _ us hl => match us, hl with | [_], _ => rfl
section
variable {kk : Nat} {wo : Str → MM ω Λ Dt}
def spOooK (a : Nat → Addr) (Y : LawP ω Λ) (wo : Str → MM ω Λ Dt) : Sp := fun vs H Q E => ∃ g st nm wi ns n h0, vs = [.ref (gA g nm)] ∧ Wld a Y g st H ∧ st.1.th nm = some (.kept wi ns n h0) ∧ Post a Y g H (BoQ Q) (ErQ a E) (stale wo nm st)
theorem ok_oooK (T : Tu P K mg a fd tk) (FW : FnOk P w K mg base (L2.CX P w) kk (a 45) (fd 45) ["self"] (spWorthU a Y wo)) (hwo : WoC wo) : FnOk P w K mg base (L2.CX P w) (kk + 2) (a 47) (fd 47) ["self"] (spOooK a Y wo) := by
  refine T.F_Runner_is_out_of_order.okX sc_Runner_is_out_of_order (fun vs H Q E h => ?_) (fun cdv A outer s H vs Q E hr h => ?_)
  · obtain ⟨g, st, nm, wi, ns, n, h0, rfl, _⟩ := h
    rfl
  · obtain ⟨g, ⟨S, l⟩, nm, wi, ns, n, h0, rfl, WD, ht, k⟩ := h
    have ht : S.th nm = some (.kept wi ns n h0) := ht
    have k : Post a Y g H (BoQ Q) (ErQ a E) (oooM wo nm ns (S, l)) := by
      unfold stale at k
      simp only [ht] at k
      exact k
    refine ⟨_, (pss_cons (ps_for (passes_of rfl) rfl (pi_list (LiI.pe_listItems rfl (pe_fldU K (pv 0)) (by rfl) T.b_list bt_list)) (pg_tupU (n := 2) rfl (pgs_cons (pg_name (i := 1) sc_Runner_is_out_of_order.nd rfl (by first | exact Or.inl rfl | exact Or.inr rfl)) (pgs_cons (pg_name (i := 2) sc_Runner_is_out_of_order.nd rfl (by first | exact Or.inl rfl | exact Or.inr rfl)) pgs_nil)))
   (pss_one (ps_if (pt_cmpR (uNe K hr.units) (pe_meth02X (pe_dget (hu_of hr) (pe_fldU K (pe_fldU K (pv 0))) (pv 1) (fun _ _ => rfl)) T.cl_Cell T.m_Cell_worth_now (ok_Cell_worth_now T (Y := Y)) (hr.mono (by omega)) (b_Cell_worth_now T) (fun _ _ _ _ _ _ _ h => h.elim) T.cl_Kept T.m_Kept_worth_now FW (hr.mono (by omega)) (b_Kept_worth_now T) (passes_call (takes_of rfl rfl rfl rfl) fun _ _ _ _ h => h)) (pv 2) (nomark _)) (pss_one (ps_ret pe_bl)) pss_nil)))
  (pss_one (ps_ret pe_bl))), ?_⟩
    obtain ⟨c, Wc⟩ := id WD
    have hx : H (gA g nm) = some (.ins (a 40) (c.idx nm) (keptU g.d nm (wA g nm) (c.nad nm) (n : Nat) (c.vh nm) h0.isSome)) := Wc.th ht
    have hnt := Wc.nt ht rfl
    have vl := Wc.vlen ht rfl
    have hvs := (Wc.vr.nts nm _ ns ht rfl)
    have b8 := Wc.ok.b8 nm _ ns ht rfl
    obtain ⟨x0, hx0⟩ := Wc.ok.adr nm _ ht
    have xx : gA g nm = x0 := gA_at hx0
    walk_at "rd"
    refine s_listItems ?_
    walk_at "rd"
    refine ⟨c.nad nm, _, rfl, hnt, fun H1 q ts s1 nq nts nqt hq pr => ?_⟩
    have lts : ts.length = (notesU (ns.map (·.1)) (c.vn nm)).length := pr.length
    have lnu : (notesU (ns.map (·.1)) (c.vn nm)).length = ns.length := by unfold notesU; rw [List.length_map, List.length_zip, ← vl, List.length_map]; omega
    have W1 := WD.same s1
    have k1 := k.from (DStep.same s1).toStep
    have qT := (Wc.same (H' := H1) s1)
    have hqn : ¬ g.T q ∧ ¬ g.L q := Wc.Tfree nq
    have htn : ∀ t ∈ ts, ∀ xs, H1 t = some (.tup xs) → ¬ g.T t ∧ ¬ g.L t := fun t ht' xs e => ⟨fun z => Mut.not_tup e (qT.mu t z), fun z => MutL.not_tup e (qT.lo t z)⟩
    refine s_forL hq (fun i σ H' => ∃ v1 v2 g' st', σ = [some (.ref (gA g nm)), v1, v2] ∧ Wld a Y g' st' H' ∧ Step g H1 g' H' ∧ Post a Y g' H' (BoQ Q) (ErQ a E) (oooM wo nm (ns.drop i) st')) ⟨none, none, g, (S, l), rfl, W1, Step.refl, k1⟩ ?_ ?_ ?_
    · rintro i σ H' _ ⟨_, _, g', st', _, _, t', _⟩
      exact t'.st _ _ hq hqn.1 hqn.2
    · rintro i y σ H2 hy ⟨v1, v2, g2, ⟨S2, l2⟩, rfl, WD2, t2, k2⟩
      rw [List.getElem?_map] at hy
      cases et : ts[i]? with
      | none => rw [et] at hy; cases hy
      | some t =>
      rw [et] at hy
      cases hy
      obtain ⟨kq, ek, htt⟩ := LiI.paired_get pr et
      have hi : i < ns.length := by rw [← lnu, ← lts]; exact (List.getElem?_eq_some_iff.mp et).1
      obtain ⟨pp, ep⟩ : ∃ pp, ns[i]? = some pp := ⟨_, List.getElem?_eq_getElem hi⟩
      have hiv : i < (c.vn nm).length := by rw [← vl, List.length_map]; exact hi
      obtain ⟨vv, evv⟩ : ∃ vv, (c.vn nm)[i]? = some vv := ⟨_, List.getElem?_eq_getElem hiv⟩
      have ekq : kq = (.inr pp.1, vv) := by
        unfold notesU at ek
        have hz : ((ns.map (·.1)).zip (c.vn nm))[i]? = some (pp.1, vv) := List.getElem?_zip_eq_some.mpr ⟨by rw [List.getElem?_map, ep]; rfl, evv⟩
        rw [List.getElem?_map, hz] at ek
        cases ek
        rfl
      subst ekq
      have ht1 : H1 t = some (.tup [.str pp.1, vv]) := htt
      have ht2 := W1.tupS t2 ht1
      have dvv : DvS H vv pp.2 := ⟨hvs.1.get evv (by rw [List.getElem?_map, ep]; rfl), hvs.2 pp (List.mem_of_getElem? ep)⟩
      have dv2 : DvS H2 vv pp.2 := W1.dvS t2 (dvv.stay fun _ _ e => s1 _ _ e)
      have ed : ns.drop i = pp :: ns.drop (i + 1) := List.drop_eq_getElem?_toList_append.trans (by rw [ep]; rfl)
      rw [ed] at k2
      have k2 : Post a Y g2 H2 (BoQ Q) (ErQ a E) (if (S2.th nm).isSome = true ∧ pp.1 ∈ S2.rds then MM.bind (wo pp.1) (fun v => if PyData.eqv v pp.2 then oooM wo nm (ns.drop (i + 1)) else MM.ok true) (S2, l2) else none) := k2
      by_cases hc : (S2.th nm).isSome = true ∧ pp.1 ∈ S2.rds
      rotate_left
      · rw [if_neg hc] at k2; exact k2.elim
      rw [if_pos hc] at k2
      obtain ⟨c2, Wc2⟩ := id WD2
      obtain ⟨tn, htn2⟩ := Option.isSome_iff_exists.mp hc.1
      obtain ⟨C2, dx2, fs2, hx2, hlk2, hfk2⟩ := Wc2.deskF T htn2
      have gA2 : gA g2 nm = gA g nm := by rw [xx]; exact gA_at (t2.adr _ _ hx0)
      rw [gA2] at hx2
      rw [t2.d] at hlk2
      have hob2 := Wc2.desk
      rw [t2.d] at hob2
      have hrd2 := Wc2.rd
      obtain ⟨tp, htp, hne⟩ := Wc2.ok.rdi _ hc.2
      have htp : S2.th pp.1 = some tp := htp
      refine s_gtup2 ht2 rfl ?_
      walk_at "rd"
      refine s_meth2X ?_
      refine s_dget ?_
      walk_at "rd"
      refine ⟨c2.rd, _, rfl, (show DGet H2 c2.rd (kV (.inr pp.1)) (some (.ref (gA g2 pp.1))) from by have := DGet.k (k := .inr pp.1) hrd2; rwa [kv_lookup hc.2] at this), ?_⟩
      have kb := Post.bind k2
      cases tp with
      | eff w' ns' k' r' => exact absurd rfl (hne _ _ _ _)
      | cell v =>
        rw [hwo pp.1 (S2, l2) v htp] at kb
        have hc2 : H2 (gA g2 pp.1) = some (.ins (a 2) (c2.idx pp.1) (cellU g2.d pp.1 v)) := Wc2.th htp
        refine ⟨gA g2 pp.1, _, _, rfl, rfl, .inl ⟨hc2, g2, (S2, l2), pp.1, v, rfl, WD2, htp, ?_⟩⟩
        walk_at "rd"
        refine rNeU_dv (DvS.int v) dv2 ⟨_, rfl, ?_⟩
        have k3 := kb.ok WD2 Step.refl
        cases e : PyData.eqv (.int v) pp.2 with
        | true =>
          refine ifF rfl ?_
          walk_at "rd"
          have k3 := k3
          simp only [e, if_true] at k3
          exact ⟨_, _, g2, _, rfl, WD2, t2, k3⟩
        | false =>
          refine ifT rfl ?_
          walk_at "rd"
          have k3 := k3
          simp only [e, Bool.false_eq_true, if_false] at k3
          exact k3.ok WD2 Step.refl
      | kept w' ns' k' r' =>
        have hc2 : H2 (gA g2 pp.1) = some (.ins (a 40) (c2.idx pp.1) (keptU g2.d pp.1 (wA g2 pp.1) (c2.nad pp.1) (k' : Nat) (c2.vh pp.1) r'.isSome)) := Wc2.th htp
        refine ⟨gA g2 pp.1, _, _, rfl, rfl, .inr ⟨hc2, g2, (S2, l2), pp.1, _, _, _, _, rfl, WD2, htp, kb.imp (fun v' s3 g3 H3 WD3 t3 k3 => ?_) fun _ _ _ _ _ _ z => z⟩⟩
        intro u hu
        walk_at "rd"
        refine rNeU_dv hu (WD2.dvS t3 dv2) ⟨_, rfl, ?_⟩
        cases e : PyData.eqv v' pp.2 with
        | true =>
          refine ifF rfl ?_
          walk_at "rd"
          have k3 := k3
          simp only [e, if_true] at k3
          exact ⟨_, _, g3, _, rfl, WD3, t2.tr t3, k3⟩
        | false =>
          refine ifT rfl ?_
          walk_at "rd"
          have k3 := k3
          simp only [e, Bool.false_eq_true, if_false] at k3
          exact k3.ok WD3 Step.refl
    · rintro σ H2 ⟨v1, v2, g2, st2, rfl, WD2, t2, k2⟩
      have en : (ts.map V.ref).length = ns.length := by rw [List.length_map, lts, lnu]
      rw [en, List.drop_length] at k2
      walk_at "rd"
      exact k2.ok WD2 Step.refl
theorem b_oooK (T : Tu P K mg a fd tk) : Binds K (fd 47) ["self"] [] := T.F_Runner_is_out_of_order.binds fun _ _ _ _ _ _ us hl => match us, hl with | [_], _ => rfl
def spOooE (a : Nat → Addr) (Y : LawP ω Λ) (wo : Str → MM ω Λ Dt) : Sp := fun vs H Q E => ∃ g st nm wi ns n h0, vs = [.ref (gA g nm)] ∧ Wld a Y g st H ∧ st.1.th nm = some (.eff wi ns n h0) ∧ Post a Y g H (BoQ Q) (ErQ a E) (stale wo nm st)
theorem ok_oooE (T : Tu P K mg a fd tk) (FW : FnOk P w K mg base (L2.CX P w) kk (a 45) (fd 45) ["self"] (spWorthU a Y wo)) (hwo : WoC wo) : FnOk P w K mg base (L2.CX P w) (kk + 2) (a 47) (fd 47) ["self"] (spOooE a Y wo) := by
  refine T.F_Runner_is_out_of_order.okX sc_Runner_is_out_of_order (fun vs H Q E h => ?_) (fun cdv A outer s H vs Q E hr h => ?_)
  · obtain ⟨g, st, nm, wi, ns, n, h0, rfl, _⟩ := h
    rfl
  · obtain ⟨g, ⟨S, l⟩, nm, wi, ns, n, h0, rfl, WD, ht, k⟩ := h
    have ht : S.th nm = some (.eff wi ns n h0) := ht
    have k : Post a Y g H (BoQ Q) (ErQ a E) (oooM wo nm ns (S, l)) := by
      unfold stale at k
      simp only [ht] at k
      exact k
    refine ⟨_, (pss_cons (ps_for (passes_of rfl) rfl (pi_list (LiI.pe_listItems rfl (pe_fldU K (pv 0)) (by rfl) T.b_list bt_list)) (pg_tupU (n := 2) rfl (pgs_cons (pg_name (i := 1) sc_Runner_is_out_of_order.nd rfl (by first | exact Or.inl rfl | exact Or.inr rfl)) (pgs_cons (pg_name (i := 2) sc_Runner_is_out_of_order.nd rfl (by first | exact Or.inl rfl | exact Or.inr rfl)) pgs_nil)))
   (pss_one (ps_if (pt_cmpR (uNe K hr.units) (pe_meth02X (pe_dget (hu_of hr) (pe_fldU K (pe_fldU K (pv 0))) (pv 1) (fun _ _ => rfl)) T.cl_Cell T.m_Cell_worth_now (ok_Cell_worth_now T (Y := Y)) (hr.mono (by omega)) (b_Cell_worth_now T) (fun _ _ _ _ _ _ _ h => h.elim) T.cl_Kept T.m_Kept_worth_now FW (hr.mono (by omega)) (b_Kept_worth_now T) (passes_call (takes_of rfl rfl rfl rfl) fun _ _ _ _ h => h)) (pv 2) (nomark _)) (pss_one (ps_ret pe_bl)) pss_nil)))
  (pss_one (ps_ret pe_bl))), ?_⟩
    obtain ⟨c, Wc⟩ := id WD
    have hx : H (gA g nm) = some (.ins (a 60) (c.idx nm) (effU g.d nm (wA g nm) (c.nad nm) (n : Nat) (c.vh nm))) := Wc.th ht
    have hnt := Wc.nt ht rfl
    have vl := Wc.vlen ht rfl
    have hvs := (Wc.vr.nts nm _ ns ht rfl)
    have b8 := Wc.ok.b8 nm _ ns ht rfl
    obtain ⟨x0, hx0⟩ := Wc.ok.adr nm _ ht
    have xx : gA g nm = x0 := gA_at hx0
    walk_at "rd"
    refine s_listItems ?_
    walk_at "rd"
    refine ⟨c.nad nm, _, rfl, hnt, fun H1 q ts s1 nq nts nqt hq pr => ?_⟩
    have lts : ts.length = (notesU (ns.map (·.1)) (c.vn nm)).length := pr.length
    have lnu : (notesU (ns.map (·.1)) (c.vn nm)).length = ns.length := by unfold notesU; rw [List.length_map, List.length_zip, ← vl, List.length_map]; omega
    have W1 := WD.same s1
    have k1 := k.from (DStep.same s1).toStep
    have qT := (Wc.same (H' := H1) s1)
    have hqn : ¬ g.T q ∧ ¬ g.L q := Wc.Tfree nq
    have htn : ∀ t ∈ ts, ∀ xs, H1 t = some (.tup xs) → ¬ g.T t ∧ ¬ g.L t := fun t ht' xs e => ⟨fun z => Mut.not_tup e (qT.mu t z), fun z => MutL.not_tup e (qT.lo t z)⟩
    refine s_forL hq (fun i σ H' => ∃ v1 v2 g' st', σ = [some (.ref (gA g nm)), v1, v2] ∧ Wld a Y g' st' H' ∧ Step g H1 g' H' ∧ Post a Y g' H' (BoQ Q) (ErQ a E) (oooM wo nm (ns.drop i) st')) ⟨none, none, g, (S, l), rfl, W1, Step.refl, k1⟩ ?_ ?_ ?_
    · rintro i σ H' _ ⟨_, _, g', st', _, _, t', _⟩
      exact t'.st _ _ hq hqn.1 hqn.2
    · rintro i y σ H2 hy ⟨v1, v2, g2, ⟨S2, l2⟩, rfl, WD2, t2, k2⟩
      rw [List.getElem?_map] at hy
      cases et : ts[i]? with
      | none => rw [et] at hy; cases hy
      | some t =>
      rw [et] at hy
      cases hy
      obtain ⟨kq, ek, htt⟩ := LiI.paired_get pr et
      have hi : i < ns.length := by rw [← lnu, ← lts]; exact (List.getElem?_eq_some_iff.mp et).1
      obtain ⟨pp, ep⟩ : ∃ pp, ns[i]? = some pp := ⟨_, List.getElem?_eq_getElem hi⟩
      have hiv : i < (c.vn nm).length := by rw [← vl, List.length_map]; exact hi
      obtain ⟨vv, evv⟩ : ∃ vv, (c.vn nm)[i]? = some vv := ⟨_, List.getElem?_eq_getElem hiv⟩
      have ekq : kq = (.inr pp.1, vv) := by
        unfold notesU at ek
        have hz : ((ns.map (·.1)).zip (c.vn nm))[i]? = some (pp.1, vv) := List.getElem?_zip_eq_some.mpr ⟨by rw [List.getElem?_map, ep]; rfl, evv⟩
        rw [List.getElem?_map, hz] at ek
        cases ek
        rfl
      subst ekq
      have ht1 : H1 t = some (.tup [.str pp.1, vv]) := htt
      have ht2 := W1.tupS t2 ht1
      have dvv : DvS H vv pp.2 := ⟨hvs.1.get evv (by rw [List.getElem?_map, ep]; rfl), hvs.2 pp (List.mem_of_getElem? ep)⟩
      have dv2 : DvS H2 vv pp.2 := W1.dvS t2 (dvv.stay fun _ _ e => s1 _ _ e)
      have ed : ns.drop i = pp :: ns.drop (i + 1) := List.drop_eq_getElem?_toList_append.trans (by rw [ep]; rfl)
      rw [ed] at k2
      have k2 : Post a Y g2 H2 (BoQ Q) (ErQ a E) (if (S2.th nm).isSome = true ∧ pp.1 ∈ S2.rds then MM.bind (wo pp.1) (fun v => if PyData.eqv v pp.2 then oooM wo nm (ns.drop (i + 1)) else MM.ok true) (S2, l2) else none) := k2
      by_cases hc : (S2.th nm).isSome = true ∧ pp.1 ∈ S2.rds
      rotate_left
      · rw [if_neg hc] at k2; exact k2.elim
      rw [if_pos hc] at k2
      obtain ⟨c2, Wc2⟩ := id WD2
      obtain ⟨tn, htn2⟩ := Option.isSome_iff_exists.mp hc.1
      obtain ⟨C2, dx2, fs2, hx2, hlk2, hfk2⟩ := Wc2.deskF T htn2
      have gA2 : gA g2 nm = gA g nm := by rw [xx]; exact gA_at (t2.adr _ _ hx0)
      rw [gA2] at hx2
      rw [t2.d] at hlk2
      have hob2 := Wc2.desk
      rw [t2.d] at hob2
      have hrd2 := Wc2.rd
      obtain ⟨tp, htp, hne⟩ := Wc2.ok.rdi _ hc.2
      have htp : S2.th pp.1 = some tp := htp
      refine s_gtup2 ht2 rfl ?_
      walk_at "rd"
      refine s_meth2X ?_
      refine s_dget ?_
      walk_at "rd"
      refine ⟨c2.rd, _, rfl, (show DGet H2 c2.rd (kV (.inr pp.1)) (some (.ref (gA g2 pp.1))) from by have := DGet.k (k := .inr pp.1) hrd2; rwa [kv_lookup hc.2] at this), ?_⟩
      have kb := Post.bind k2
      cases tp with
      | eff w' ns' k' r' => exact absurd rfl (hne _ _ _ _)
      | cell v =>
        rw [hwo pp.1 (S2, l2) v htp] at kb
        have hc2 : H2 (gA g2 pp.1) = some (.ins (a 2) (c2.idx pp.1) (cellU g2.d pp.1 v)) := Wc2.th htp
        refine ⟨gA g2 pp.1, _, _, rfl, rfl, .inl ⟨hc2, g2, (S2, l2), pp.1, v, rfl, WD2, htp, ?_⟩⟩
        walk_at "rd"
        refine rNeU_dv (DvS.int v) dv2 ⟨_, rfl, ?_⟩
        have k3 := kb.ok WD2 Step.refl
        cases e : PyData.eqv (.int v) pp.2 with
        | true =>
          refine ifF rfl ?_
          walk_at "rd"
          have k3 := k3
          simp only [e, if_true] at k3
          exact ⟨_, _, g2, _, rfl, WD2, t2, k3⟩
        | false =>
          refine ifT rfl ?_
          walk_at "rd"
          have k3 := k3
          simp only [e, Bool.false_eq_true, if_false] at k3
          exact k3.ok WD2 Step.refl
      | kept w' ns' k' r' =>
        have hc2 : H2 (gA g2 pp.1) = some (.ins (a 40) (c2.idx pp.1) (keptU g2.d pp.1 (wA g2 pp.1) (c2.nad pp.1) (k' : Nat) (c2.vh pp.1) r'.isSome)) := Wc2.th htp
        refine ⟨gA g2 pp.1, _, _, rfl, rfl, .inr ⟨hc2, g2, (S2, l2), pp.1, _, _, _, _, rfl, WD2, htp, kb.imp (fun v' s3 g3 H3 WD3 t3 k3 => ?_) fun _ _ _ _ _ _ z => z⟩⟩
        intro u hu
        walk_at "rd"
        refine rNeU_dv hu (WD2.dvS t3 dv2) ⟨_, rfl, ?_⟩
        cases e : PyData.eqv v' pp.2 with
        | true =>
          refine ifF rfl ?_
          walk_at "rd"
          have k3 := k3
          simp only [e, if_true] at k3
          exact ⟨_, _, g3, _, rfl, WD3, t2.tr t3, k3⟩
        | false =>
          refine ifT rfl ?_
          walk_at "rd"
          have k3 := k3
          simp only [e, Bool.false_eq_true, if_false] at k3
          exact k3.ok WD3 Step.refl
    · rintro σ H2 ⟨v1, v2, g2, st2, rfl, WD2, t2, k2⟩
      have en : (ts.map V.ref).length = ns.length := by rw [List.length_map, lts, lnu]
      rw [en, List.drop_length] at k2
      walk_at "rd"
      exact k2.ok WD2 Step.refl
theorem b_oooE (T : Tu P K mg a fd tk) : Binds K (fd 47) ["self"] [] := T.F_Runner_is_out_of_order.binds fun _ _ _ _ _ _ us hl => match us, hl with | [_], _ => rfl

end
end
end
end Tr
set_option maxHeartbeats 4000000

namespace Tr
open PySem L2 OXB
section
variable {P : Program} {w : World} {K : PySem.W.Frag} {mg : Str → Option Value} {base : Heap} {a : Nat → Addr} {fd : Nat → FuncData} {tk : Nat → Tok}
local macro_rules | `(tactic| walk_at "ne") => `(tactic| first | assumption | (exact Ne.symm (by assumption)) | (refine ne_of_none (by assumption) (by assumption)) | (refine Ne.symm (ne_of_none (by assumption) (by assumption))))
local macro_rules | `(tactic| walk_at "hl") => `(tactic| first | assumption | with_reducible exact upd_same | ((with_reducible refine' Eq.trans (upd_ne ?hne) ?hrest); (case hne => walk_at "ne"); (case hrest => walk_at "hl")) | (refine' get_same ?hs ?hg; (case hs => assumption); (case hg => assumption)))
local macro_rules | `(tactic| walk_at "at") => `(tactic| first | with_reducible exact atI_0 _ _ | with_reducible exact atI_1 _ _ _ | with_reducible exact atI_2 _ _ _ _ | with_reducible exact atI_3 _ _ _ _ _ | assumption)
local macro_rules | `(tactic| walk_at "rd1") => `(tactic| first
  | with_reducible refine s_seq ?_ | with_reducible refine s_next ?_ | with_reducible refine s_if ?_ | with_reducible refine s_ret ?_ | with_reducible refine s_retN ?_ | with_reducible refine s_drop ?_ | with_reducible refine s_asg ?_ | with_reducible refine s_brk ?_ | with_reducible refine s_cont ?_
  | with_reducible refine s_gname ?_ | with_reducible refine s_c ?_ | with_reducible refine s_op ?_ | with_reducible refine s_un ?_ | with_reducible refine s_neg ?_ | with_reducible refine s_test ?_ | with_reducible refine s_tb ?_ | with_reducible refine s_not ?_ | with_reducible refine s_and ?_ | with_reducible refine s_or ?_ | with_reducible refine s_yes ?_
  | ((with_reducible refine' s_var ?hv ?_); (case hv => exact rfl))
  | with_reducible refine s_ifx ?_ | with_reducible refine s_andV ?_ | with_reducible refine s_orV ?_ | with_reducible refine s_notV ?_ | with_reducible refine s_chain ?_ | with_reducible refine s_nil ?_ | with_reducible refine s_cons ?_ | with_reducible refine s_lst ?_ | with_reducible refine s_tup ?_ | with_reducible refine s_cb ?_ | with_reducible refine s_call ?_ | with_reducible refine s_meth ?_ | with_reducible refine s_make ?_
  | with_reducible refine s_dnewK ?_ | with_reducible refine s_sl ?_ | with_reducible refine s_po0 ?_ | with_reducible refine s_po1 ?_ | with_reducible refine s_bm ?_ | with_reducible refine s_bm0 ?_
  | with_reducible refine s_bl ?_ | with_reducible refine s_int ?_ | with_reducible refine s_I0 ?_ | with_reducible refine s_addI ?_ | with_reducible refine s_intI ?_ | with_reducible refine s_intB ?_
  | with_reducible refine s_m1 ?_ | with_reducible refine s_lc ?_ | with_reducible refine s_ilist ?_ | with_reducible refine s_for ?_ | with_reducible refine s_irng ?_ | with_reducible refine s_match ?_ | with_reducible refine s_starT ?_ | with_reducible refine s_isS ?_ | with_reducible refine s_isiSS ?_ | with_reducible refine s_fldU ?_ | with_reducible refine s_sfldU ?_
  | ((with_reducible refine' s_eqS ?hq ?_); (case hq => exact rfl)) | ((with_reducible refine' s_neS ?hq ?_); (case hq => exact rfl))
  | ((with_reducible refine' s_isN ?hq ?_); (case hq => exact rfl)) | ((with_reducible refine' s_notN ?hq ?_); (case hq => exact rfl))
  | ((with_reducible refine' s_eqNil ?h1 ?h2 ?_); (case h1 => walk_at "hl"); (case h2 => walk_at "hl")) | ((with_reducible refine' s_neNil ?h1 ?h2 ?_); (case h1 => walk_at "hl"); (case h2 => walk_at "hl"))
  | ((with_reducible refine' s_ixL ?h1 ?h2 ?_); (case h1 => walk_at "hl"); (case h2 => walk_at "at")) | ((with_reducible refine' s_ixT ?h1 ?h2 ?_); (case h1 => walk_at "hl"); (case h2 => walk_at "at"))
  | ((with_reducible refine' s_inS ?h1 ?_); (case h1 => walk_at "hl")) | ((with_reducible refine' s_ninS ?h1 ?_); (case h1 => walk_at "hl")) | with_reducible refine s_inW ?_
  | ((with_reducible refine' s_lenL ?h1 ?_); (case h1 => walk_at "hl")) | ((with_reducible refine' s_lenT ?h1 ?_); (case h1 => walk_at "hl"))
  | ((with_reducible refine' s_tyL ?h1 ?_); (case h1 => walk_at "hl"))
  | ((with_reducible refine' s_fldM ?h1 ?h2 ?h3 ?_); (case h1 => walk_at "hl"); (case h2 => walk_at "fok"); (case h3 => walk_at "flk"))
  | ((with_reducible refine' s_setM ?h1 ?h2 ?h3 ?h4 ?_); (case h1 => walk_at "hl"); (case h2 => walk_at "fok"); (case h4 => walk_at "put"); (case h3 => exact Nat.le_of_ble_eq_true rfl))
  | ((with_reducible refine' s_starM ?h1 ?_); (case h1 => walk_at "hl"))
  | ((with_reducible refine' s_recv ?h1 ?h2 ?_); (case h1 => walk_at "hl"); (case h2 => exact rfl))
  | ((with_reducible refine' s_sz ?h1 ?_); (case h1 => (simp; done))))
local macro_rules | `(tactic| walk_at "rd") => `(tactic| repeat (walk_at "rd1"))
local macro_rules | `(tactic| walk_at "fok") => `(tactic| assumption)
local macro_rules | `(tactic| walk_at "flk") => `(tactic| rfl)
local macro_rules | `(tactic| walk_at "put") => `(tactic| exact rfl)

local macro_rules | `(tactic| walk_at "fok") => `(tactic| first | assumption | exact Tu.ce (by assumption) (by decide) | exact Tu.de (by assumption) (by decide) | exact Tu.ke (by assumption) (by decide) | exact Tu.fe (by assumption) (by decide) | exact Tu.ee (by assumption) (by decide))
section
variable {ω Λ : Type} {Y : LawP ω Λ}
theorem s_seqK {t1 t2 : TS} {na : L2.St → Hp → Prop} {rt : VK} {bk ct : L2.St → Hp → Prop} {σ : L2.St} {H : Hp} (σ1 : L2.St) (S : Hp → Prop) (h2 : ∀ H', S H' → t2 ⟨na, rt, bk, ct⟩ σ1 H') (h1 : ∀ R : L2.St → Hp → Prop, (∀ H', S H' → R σ1 H') → t1 ⟨R, rt, bk, ct⟩ σ H) : tSeq t1 t2 ⟨na, rt, bk, ct⟩ σ H := h1 _ h2
section
variable {k : Nat} {wk : ω → MM ω Λ Dt} {wo : Str → MM ω Λ Dt}
theorem ok_Kept_worth_now (T : Tu P K mg a fd tk) (W : WOkX P w K mg base k (wspU a Y wk)) (FW : FnOk P w K mg base (L2.CX P w) k (a 45) (fd 45) ["self"] (spWorthU a Y wo)) (hwo : WoC wo) :
    FnOk P w K mg base (L2.CX P w) (k + 4) (a 45) (fd 45) ["self"] (spWorthU a Y (worthM wk wo)) := by
  refine T.F_Kept_worth_now.okX sc_Kept_worth_now (fun vs H Q E h => ?_) (fun cdv A outer s H vs Q E hr h => ?_)
  · obtain ⟨g, st, nm, wi, ns, n, h0, rfl, _⟩ := h
    rfl
  · obtain ⟨g, ⟨S, l⟩, nm, wi, ns, n, h0, rfl, WD, ht, kp⟩ := h
    have ht : S.th nm = some (.kept wi ns n h0) := ht
    refine ⟨_, (pss_cons (ps_if (pt_val (pe_meth (pe_fldU K (pv 0)) T.cl_Desk T.m_Desk_is_under_way (ok_Desk_is_under_way T (Y := Y)) (hr.mono (by omega)) (b_Desk_is_under_way T) .nil pass0 (pa_cons (pe_fldU K (pv 0)) pa_nil))) (pss_one (ps_raise rfl (takes_of rfl rfl rfl rfl) (pmk_oexB xbR_ok T.ox_Busy T.ini_Busy T.inf_Busy (ok_Busy___init__ T) (hr.mono (by omega)) (b_Busy___init__ T) .nil passF (by rfl) T.g_Busy (pa_cons (pe_fldU K (pv 0)) pa_nil)))) pss_nil)
  (pss_cons (ps_if (PW.pt (pw_and (pt_val (pe_fldU K (pv 0))) (pw_and1 (pt_not (pt_val (pe_meth0 (pv 0) T.cl_Kept T.m_Kept_is_out_of_order (ok_oooK T FW hwo) (hr.mono (by omega)) (b_oooK T) .nil (passes_call (takes_of rfl rfl rfl rfl) fun _ _ _ _ h => h))))))) (pss_one (ps_ret (pe_fldU K (pv 0)))) pss_nil)
  (pss_cons (ps_fldU K (pv 0) pe_non)
  (pss_cons (ps_fldU K (pv 0) pe_bl)
  (pss_cons (ps_asg (pe_meth (pv 0) T.cl_Kept T.m_Kept_run_work (ok_runK T W) (hr.mono (by omega)) (b_runK T) .nil (passes_call (takes_of rfl rfl rfl rfl) fun _ _ _ _ h => h) (pa_cons pe_bl pa_nil)) (pg_name (i := 1) sc_Kept_worth_now.nd rfl (by first | exact Or.inl rfl | exact Or.inr rfl)))
  (pss_cons (ps_fldU K (pv 0) (pv 1))
  (pss_cons (ps_fldU K (pv 0) pe_bl)
  (pss_one (ps_ret (pv 1)))))))))), ?_⟩
    obtain ⟨c, Wc⟩ := id WD
    have hx : H (gA g nm) = some (.ins (a 40) (c.idx nm) (keptU g.d nm (wA g nm) (c.nad nm) (n : Nat) (c.vh nm) h0.isSome)) := Wc.th ht
    obtain ⟨x0, hx0⟩ := Wc.ok.adr nm _ ht
    have xx : gA g nm = x0 := gA_at hx0
    have hob := Wc.desk
    unfold worthM at kp
    simp only [ht] at kp
    walk_at "rd"
    refine ⟨g, (S, l), nm, rfl, WD, fun H1 s1 => ?_⟩
    have W1 := WD.same s1
    have hx1 := s1 _ _ hx
    walk_at "rd"
    by_cases hb : (S.frs.any fun f => decide (f.own = nm)) = true
    · rw [if_pos hb] at kp
      refine ifT hb ?_
      walk_at "rd"
      refine s_mkO ?_
      walk_at "rd"
      exact s_raiseX fun d H' nd s2 hd => kp.raise WD (s1.free nd) (s1.trans s2) hd (.str _)
    rw [if_neg hb] at kp
    have kp1 := kp.from (DStep.same s1).toStep
    refine ifF (by simpa using hb) ?_
    refine s_next ?_
    refine s_seqK (L2.start (N_Kept_worth_now) [.ref (gA g nm)]) (fun H2 => ∃ g2 st2, Wld a Y g2 st2 H2 ∧ Step g H g2 H2 ∧ Post a Y g2 H2 (DtQ Q) (ErQ a E) (againM wk nm st2)) (fun H2 hR => ?_) fun R hR => ?_
    · obtain ⟨g2, ⟨S2, l2⟩, WD2, t2, k2⟩ := hR
      obtain ⟨c2, Wc2⟩ := id WD2
      have gA2 : gA g2 nm = gA g nm := by rw [xx]; exact gA_at (t2.adr _ _ hx0)
      unfold againM at k2
      cases e2 : S2.th nm with
      | none => simp only [e2] at k2; exact k2.elim
      | some t3 =>
      cases t3 with
      | cell v => simp only [e2] at k2; exact k2.elim
      | eff w' ns' k' r' => simp only [e2] at k2; exact k2.elim
      | kept w' ns' k' r' =>
      simp only [e2] at k2
      have hx2 : H2 (gA g2 nm) = some (.ins (a 40) (c2.idx nm) (keptU g2.d nm (wA g2 nm) (c2.nad nm) (k' : Nat) (c2.vh nm) r'.isSome)) := Wc2.th e2
      have ok3 : SOk g2 (S2.setTh nm (.kept w' ns' k' none)) := by
        refine Wc2.ok.setTh e2 (fun v e => ?_) (fun w ns k hd e => ?_) (fun w ns k r e => ?_) fun ns' e => ?_
        · cases e
        · cases e; exact ⟨_, _, _, rfl⟩
        · cases e
        · exact Wc2.ok.b8 nm _ ns' e2 e
      have W3 := Wc2.thing (t := .kept w' ns' k' r') (t' := .kept w' ns' k' none) (v := .non) e2 rfl rfl ok3 (fun w2 ns2 n2 hd2 e => by cases e; exact .non) (fun _ _ _ _ e => by cases e)
      have e3 : thO a g2 (c2.setVh nm .non) nm (.kept w' ns' k' none : Th ω) = .ins (a 40) (c2.idx nm) (keptU g2.d nm (wA g2 nm) (c2.nad nm) (k' : Nat) .non false) := by
        show HO.ins _ _ (keptU _ _ _ _ _ (if nm = nm then V.non else _) _) = _
        rw [if_pos rfl]; rfl
      rw [e3] at W3
      have xT : g2.T (gA g2 nm) := Wc2.inT _ _ _ (slot_th e2)
      have st3 : Step g2 H2 g2 (upd H2 (gA g2 nm) (.ins (a 40) (c2.idx nm) (keptU g2.d nm (wA g2 nm) (c2.nad nm) (k' : Nat) .non false))) := (DStep.upd xT).toStep
      rw [gA2] at hx2 W3 st3
      walk_at "rd"
      rw [upd_upd]
      have ep : putF (Str.ofString "has_worth") (V.bl false) (putF (Str.ofString "kept_worth") V.non (keptU g2.d nm (wA g2 nm) (c2.nad nm) (k' : Nat) (c2.vh nm) r'.isSome)) = keptU g2.d nm (wA g2 nm) (c2.nad nm) (k' : Nat) .non false := rfl
      rw [ep]
      have hx3 : upd H2 (gA g nm) (.ins (a 40) (c2.idx nm) (keptU g2.d nm (wA g2 nm) (c2.nad nm) (k' : Nat) .non false)) (gA g nm) = some (.ins (a 40) (c2.idx nm) (keptU g2.d nm (wA g2 nm) (c2.nad nm) (k' : Nat) .non false)) := upd_same
      generalize upd H2 (gA g nm) (.ins (a 40) (c2.idx nm) (keptU g2.d nm (wA g2 nm) (c2.nad nm) (k' : Nat) .non false)) = H3 at W3 st3 hx3 ⊢
      have k3 := k2.from st3
      refine ⟨g2, _, nm, true, w', ns', k', none, by rw [gA2], ⟨_, W3⟩, setTh_at, (Post.bind k3).imp (fun d s4 g4 H4 WD4 t4 k4 => ?_) fun _ _ _ _ _ _ z => z⟩
      obtain ⟨S4, l4⟩ := s4
      intro u hu
      obtain ⟨c4, Wc4⟩ := id WD4
      have t24 := t2.tr (st3.tr t4)
      have gA4 : gA g4 nm = gA g nm := by rw [xx]; exact gA_at (t24.adr _ _ hx0)
      cases e4 : S4.th nm with
      | none => simp only [e4] at k4; exact k4.elim
      | some t5 =>
      cases t5 with
      | cell v => simp only [e4] at k4; exact k4.elim
      | eff w' ns' k' r' => simp only [e4] at k4; exact k4.elim
      | kept w5 ns5 n5 r5 =>
      simp only [e4] at k4
      have hx4 : H4 (gA g4 nm) = some (.ins (a 40) (c4.idx nm) (keptU g4.d nm (wA g4 nm) (c4.nad nm) (n5 : Nat) (c4.vh nm) r5.isSome)) := Wc4.th e4
      have ok5 : SOk g4 (S4.setTh nm (.kept w5 ns5 n5 (some d))) := by
        refine Wc4.ok.setTh e4 (fun v e => ?_) (fun w ns k hd e => ?_) (fun w ns k r e => ?_) fun ns' e => ?_
        · cases e
        · cases e; exact ⟨_, _, _, rfl⟩
        · cases e
        · exact Wc4.ok.b8 nm _ ns' e4 e
      have W5 := Wc4.thing (t := .kept w5 ns5 n5 r5) (t' := .kept w5 ns5 n5 (some d)) (v := u) e4 rfl rfl ok5 (fun w2 ns2 n2 hd2 e => by cases e; exact hu) (fun _ _ _ _ e => by cases e)
      have e5 : thO a g4 (c4.setVh nm u) nm (.kept w5 ns5 n5 (some d) : Th ω) = .ins (a 40) (c4.idx nm) (keptU g4.d nm (wA g4 nm) (c4.nad nm) (n5 : Nat) u true) := by
        show HO.ins _ _ (keptU _ _ _ _ _ (if nm = nm then u else _) _) = _
        rw [if_pos rfl]; rfl
      rw [e5] at W5
      have xT4 : g4.T (gA g4 nm) := Wc4.inT _ _ _ (slot_th e4)
      have st5 : Step g4 H4 g4 (upd H4 (gA g4 nm) (.ins (a 40) (c4.idx nm) (keptU g4.d nm (wA g4 nm) (c4.nad nm) (n5 : Nat) u true))) := (DStep.upd xT4).toStep
      rw [gA4] at hx4 W5 st5
      walk_at "rd"
      rw [upd_upd]
      have ep5 : putF (Str.ofString "has_worth") (V.bl true) (putF (Str.ofString "kept_worth") u (keptU g4.d nm (wA g4 nm) (c4.nad nm) (n5 : Nat) (c4.vh nm) r5.isSome)) = keptU g4.d nm (wA g4 nm) (c4.nad nm) (n5 : Nat) u true := rfl
      rw [ep5]
      exact k4.ok ⟨_, W5⟩ st5 u (WD4.dvS st5 hu)
    · walk_at "rd"
      cases h0 with
      | none =>
        refine ifF rfl ?_
        refine ifF rfl ?_
        exact hR _ ⟨g, (S, l), W1, (DStep.same s1).toStep, kp1⟩
      | some d0 =>
        refine ifT rfl ?_
        walk_at "rd"
        refine ⟨g, (S, l), nm, wi, ns, n, some d0, rfl, W1, ht, (Post.bind kp1).imp (fun b s2 g2 H2 WD2 t2 k2 => ?_) fun _ _ _ _ _ _ z => z⟩
        obtain ⟨S2, l2⟩ := s2
        cases b with
        | false =>
          walk_at "rd"
          refine ifT rfl ?_
          have k2 := k2
          simp only [Bool.false_eq_true, if_false] at k2
          obtain ⟨c2, Wc2⟩ := id WD2
          have gA2 : gA g2 nm = gA g nm := by rw [xx]; exact gA_at (t2.adr _ _ hx0)
          cases e2 : S2.th nm with
          | none => simp only [e2] at k2; exact k2.elim
          | some t3 =>
          cases t3 with
          | cell v => simp only [e2] at k2; exact k2.elim
          | eff w' ns' k' r' => simp only [e2] at k2; exact k2.elim
          | kept w' ns' k' r' =>
          simp only [e2] at k2
          have hx2 : H2 (gA g2 nm) = some (.ins (a 40) (c2.idx nm) (keptU g2.d nm (wA g2 nm) (c2.nad nm) (k' : Nat) (c2.vh nm) r'.isSome)) := Wc2.th e2
          rw [gA2] at hx2
          walk_at "rd"
          exact k2.ok WD2 Step.refl _ (Wc2.vr.hld nm _ _ _ _ e2)
        | true =>
          walk_at "rd"
          refine ifF rfl ?_
          have k2 := k2
          simp only [if_true] at k2
          exact hR _ ⟨g2, (S2, l2), WD2, (DStep.same s1).toStep.tr t2, k2⟩
/-- a read by a call -/
def spReadU (a : Nat → Addr) (Y : LawP ω Λ) (wk : ω → MM ω Λ Dt) (wo : Str → MM ω Λ Dt) : Sp := fun vs H Q E => ∃ g st nm wi ns n h0, vs = [.ref (gA g nm)] ∧ Wld a Y g st H ∧ st.1.th nm = some (.kept wi ns n h0) ∧ Post a Y g H (DtQ Q) (ErQ a E) (readM wk wo nm st)
theorem ok_Kept___call__ (T : Tu P K mg a fd tk) (W : WOkX P w K mg base k (wspU a Y wk)) (FW : FnOk P w K mg base (L2.CX P w) k (a 45) (fd 45) ["self"] (spWorthU a Y wo)) (hwo : WoC wo) :
    FnOk P w K mg base (L2.CX P w) (k + 5) (a 42) (fd 42) ["self"] (spReadU a Y wk wo) := by
  refine T.F_Kept___call__.okX sc_Kept___call__ (fun vs H Q E h => ?_) (fun cdv A outer s H vs Q E hr h => ?_)
  · obtain ⟨g, st, nm, wi, ns, n, h0, rfl, _⟩ := h
    rfl
  · obtain ⟨g, ⟨S, l⟩, nm, wi, ns, n, h0, rfl, WD, ht, kp⟩ := h
    have ht : S.th nm = some (.kept wi ns n h0) := ht
    refine ⟨_, (pss_cons (ps_asg (pe_meth0 (pv 0) T.cl_Kept T.m_Kept_worth_now (ok_Kept_worth_now T W FW hwo) (hr.mono (by omega)) (b_Kept_worth_now T) .nil (passes_call (takes_of rfl rfl rfl rfl) fun _ _ _ _ h => h)) (pg_name (i := 1) sc_Kept___call__.nd rfl (by first | exact Or.inl rfl | exact Or.inr rfl)))
  (pss_cons (ps_expr (pe_meth (pe_fldU K (pv 0)) T.cl_Desk T.m_Desk_note (ok_Desk_note T (Y := Y)) (hr.mono (by omega)) (b_Desk_note T) .nil pass0 (pa_cons (pe_fldU K (pv 0)) (pa_cons (pv 1) pa_nil))))
  (pss_one (ps_ret (pv 1))))), ?_⟩
    obtain ⟨c, Wc⟩ := id WD
    have hx : H (gA g nm) = some (.ins (a 40) (c.idx nm) (keptU g.d nm (wA g nm) (c.nad nm) (n : Nat) (c.vh nm) h0.isSome)) := Wc.th ht
    obtain ⟨x0, hx0⟩ := Wc.ok.adr nm _ ht
    have xx : gA g nm = x0 := gA_at hx0
    unfold readM at kp
    walk_at "rd"
    refine ⟨g, (S, l), nm, wi, ns, n, h0, rfl, WD, ht, (Post.bind kp).imp (fun d s2 g2 H2 WD2 t2 k2 => ?_) fun _ _ _ _ _ _ z => z⟩
    obtain ⟨S2, l2⟩ := s2
    intro u hu
    obtain ⟨c2, Wc2⟩ := id WD2
    have gA2 : gA g2 nm = gA g nm := by rw [xx]; exact gA_at (t2.adr _ _ hx0)
    have kb := Post.bind k2
    cases e2 : S2.th nm with
    | none =>
      have a2 := Wc2.ok.fre nm e2
      rw [t2.adr _ _ hx0] at a2
      cases a2.1
    | some t3 =>
    have hx2 := Wc2.th e2
    rw [gA2] at hx2
    have hob2 := Wc2.desk
    walk_at "rd"
    cases t3 with
    | cell v =>
      have hx2 : H2 (gA g nm) = some (.ins (a 2) (c2.idx nm) (cellU g2.d nm v)) := hx2
      walk_at "rd"
      refine ⟨g2, (S2, l2), nm, u, d, _, rfl, WD2, hu, kb.imp (fun _ s3 g3 H3 WD3 t3 k3 => ?_) fun _ _ _ _ _ _ z => z⟩
      walk_at "rd"
      exact k3.ok WD3 Step.refl u (WD2.dvS t3 hu)
    | kept w' ns' k' r' =>
      have hx2 : H2 (gA g nm) = some (.ins (a 40) (c2.idx nm) (keptU g2.d nm (wA g2 nm) (c2.nad nm) (k' : Nat) (c2.vh nm) r'.isSome)) := hx2
      walk_at "rd"
      refine ⟨g2, (S2, l2), nm, u, d, _, rfl, WD2, hu, kb.imp (fun _ s3 g3 H3 WD3 t3 k3 => ?_) fun _ _ _ _ _ _ z => z⟩
      walk_at "rd"
      exact k3.ok WD3 Step.refl u (WD2.dvS t3 hu)
    | eff w' ns' k' r' =>
      have hx2 : H2 (gA g nm) = some (.ins (a 60) (c2.idx nm) (effU g2.d nm (wA g2 nm) (c2.nad nm) (k' : Nat) (c2.vh nm))) := hx2
      walk_at "rd"
      refine ⟨g2, (S2, l2), nm, u, d, _, rfl, WD2, hu, kb.imp (fun _ s3 g3 H3 WD3 t3 k3 => ?_) fun _ _ _ _ _ _ z => z⟩
      walk_at "rd"
      exact k3.ok WD3 Step.refl u (WD2.dvS t3 hu)
theorem b_Kept___call__ (T : Tu P K mg a fd tk) : Binds K (fd 42) ["self"] [] := T.F_Kept___call__.binds fun _ _ _ _ _ _ us hl => match us, hl with | [_], _ => rfl
end
/-- a cell is read by a call -/
def readCM (nm : Str) : MM ω Λ Dt := MM.bind (valueM nm) fun v => MM.bind (noteM nm v) fun _ => MM.ok v
def spReadC (a : Nat → Addr) (Y : LawP ω Λ) : Sp := fun vs H Q _ => ∃ g st nm v EE, vs = [.ref (gA g nm)] ∧ Wld a Y g st H ∧ st.1.th nm = some (.cell v) ∧ Post a Y g H (DtQ Q) EE (readCM nm st)
theorem ok_Cell___call__ (T : Tu P K mg a fd tk) : FnOk P w K mg base CX0 2 (a 6) (fd 6) ["self"] (spReadC a Y) := by
  refine T.F_Cell___call__.ok sc_Cell___call__ (fun vs H Q E h => ?_) (fun cdv A outer s H vs Q E hr h => ?_)
  · obtain ⟨g, st, nm, v, EE, rfl, _⟩ := h
    rfl
  · obtain ⟨g, ⟨S, l⟩, nm, v, EE, rfl, WD, ht, kp⟩ := h
    have ht : S.th nm = some (.cell v) := ht
    refine ⟨_, (pss_cons (ps_expr (pe_meth (pe_fldU K (pv 0)) T.cl_Desk T.m_Desk_note (ok_Desk_note T (Y := Y)) (hr.mono (by omega)) (b_Desk_note T) .nil pass0 (pa_cons (pe_fldU K (pv 0)) (pa_cons (pe_fldU K (pv 0)) pa_nil))))
  (pss_one (ps_ret (pe_fldU K (pv 0))))), ?_⟩
    obtain ⟨c, Wc⟩ := id WD
    have hx : H (gA g nm) = some (.ins (a 2) (c.idx nm) (cellU g.d nm v)) := Wc.th ht
    obtain ⟨x0, hx0⟩ := Wc.ok.adr nm _ ht
    have xx : gA g nm = x0 := gA_at hx0
    have kp : Post a Y g H (DtQ Q) EE (MM.bind (noteM nm (.int v)) (fun _ => MM.ok (.int v)) (S, l)) := by
      unfold readCM at kp
      rw [MM.bind_ok (v := .int v) (s' := (S, l)) (by unfold valueM; simp only [ht])] at kp
      exact kp
    have hob := Wc.desk
    walk_at "rd"
    refine ⟨g, (S, l), nm, .int v, .int v, EE, rfl, WD, DvS.int v, (Post.bind kp).impE (fun _ s2 g2 H2 eN WD2 t2 k2 => ?_) fun _ _ _ _ _ _ _ z => z⟩
    obtain ⟨S2, l2⟩ := s2
    obtain ⟨c2, Wc2⟩ := id WD2
    have e2 : S2.th nm = some (.cell v) := noteM_cell eN ht
    have hx2 := Wc2.th e2
    rw [show gA g2 nm = gA g nm from by rw [xx]; exact gA_at (t2.adr _ _ hx0)] at hx2
    have hx2 : H2 (gA g nm) = some (.ins (a 2) (c2.idx nm) (cellU g2.d nm v)) := hx2
    walk_at "rd"
    exact k2.ok WD2 Step.refl _ (DvS.int v)
theorem b_Cell___call__ (T : Tu P K mg a fd tk) : Binds K (fd 6) ["self"] [] := T.F_Cell___call__.binds fun _ _ _ _ _ _ us hl => match us, hl with | [_], _ => rfl
end
end
end Tr
set_option maxHeartbeats 2000000
namespace L2
open PySem PySem.Spec PyProof.Rows
theorem passNX {P : Program} {w : World} {X : Cx} : Passes (L2.CX P w) X (fun _ _ _ => False) := fun _ _ _ _ _ _ _ h => by
  obtain ⟨_, _, _, _, _, _, _, _, _, _, _, _, f⟩ := h
  exact f.elim
end L2
namespace Tr
open PySem PySem.Spec PyProof.Rows L2
section
variable {K : PySem.W.Frag} {σ : L2.St} {H : Hp} {Q : VK}
def mKeysL (R : It → Hp → Prop) (x : V) (H1 : Hp) : Prop := ∃ d o, x = .ref d ∧ ((∃ kvs, H1 d = some (.frz o (.dK kvs)) ∧ R (Itk d o kvs) H1) ∨ ∃ kvs, H1 d = some (.frz o (.dT kvs)) ∧ R (Itkt d o kvs) H1)
theorem s_ikeysL {td : TE} {R : It → Hp → Prop} (h : td σ H fun x H1 => mKeysL R x H1) : iKeys td σ H R := h
theorem s_lockL {t : TE} {d : Addr} {u : HO} (hd : H d = some u) (mu : L2.Mut (some u)) (h : ∀ od, t σ (upd H d (.frz od u)) fun v H' => H' d = some (.frz od u) ∧ Q v (upd H' d u)) : tLockE t σ H Q := ⟨d, u, hd, mu, h⟩
theorem s_lcKeys (h : Key × V → Option V) {d : Addr} {o : Obj} {kvs : List (Key × V)} {g : TG} {tt : TT} {te : TE} {vs : List Nat} (hp : H d = some (.frz o (.dK kvs))) (hz : kvs.length ≤ 100000)
    (hs : ∀ (i : Nat) (p : Key × V) (H2 : Hp) (R : VK) (R0 : Hp → Prop), kvs[i]? = some p → Same H H2 → (∀ v, h p = some v → ∀ H4, Same H2 H4 → R v H4) → (h p = none → ∀ H3, Same H2 H3 → R0 H3) →
      g (kV p.1) (wipe σ vs) H2 fun σ2 H3 => wipe σ2 vs = wipe σ vs ∧ tt σ2 H3 fun b H4 => if b = true then te σ2 H4 R else R0 H4)
    (hd : ∀ D H', Same H H' → H D = none → H' D = some (.lst (kvs.filterMap h)) → Q (.ref D) H') : mKeysL (LcGo g tt te vs σ Q) (.ref d) H := by
  refine ⟨d, o, rfl, .inl ⟨kvs, hp, fun D hD => ?_⟩⟩
  refine lc_fm kvs h (walk_keys (kvs := kvs)) rfl (sz_le hz) hD (fun H' s' => s' _ _ hp) ?_ (fun H' s' hD' => hd D H' s' hD hD')
  rintro i b x H2 H' R R0 hb s2 ⟨rfl, k, v, hk, rfl⟩ k1 k2
  rw [hb] at hk
  cases hk
  exact hs i _ H' R R0 hb s2 k1 k2
/-- over a list; anything may happen on the way -/
theorem s_lcW {p : Addr} {xs : List V} {g : TG} {tt : TT} {te : TE} {vs : List Nat} (hp : H p = some (.lst xs)) (Pv : Addr → Nat → Hp → Prop) (h0 : ∀ D, H D = none → Pv D 0 (upd H D (.lst []))) (hl : ∀ D i H', i ≤ xs.length → Pv D i H' → H' p = some (.lst xs))
    (hs : ∀ D i x H', xs[i]? = some x → Pv D i H' → g x (wipe σ vs) H' fun σ2 H2 => wipe σ2 vs = wipe σ vs ∧ tt σ2 H2 fun b H3 => if b = true then te σ2 H3 fun y H4 => ∃ acc, H4 D = some (.lst acc) ∧ acc.length < sizeLine ∧ Pv D (i + 1) (upd H4 D (.lst (acc ++ [y]))) else Pv D (i + 1) H3)
    (hd : ∀ D H', Pv D xs.length H' → Q (.ref D) H') : mList K (LcGo g tt te vs σ Q) (.ref p) H :=
  ⟨p, rfl, ⟨xs, SqL.of hp⟩, fun D hD => lc_list (K := K) (Pv D) (h0 D hD) (fun i H' hi q => SqL.of (hl D i H' hi q)) (hs D) (hd D)⟩
end
end Tr
set_option maxHeartbeats 4000000

namespace Tr
open PySem L2 OXB
section
variable {P : Program} {w : World} {K : PySem.W.Frag} {mg : Str → Option Value} {base : Heap} {a : Nat → Addr} {fd : Nat → FuncData} {tk : Nat → Tok}
local macro_rules | `(tactic| walk_at "ne") => `(tactic| first | assumption | (exact Ne.symm (by assumption)) | (refine ne_of_none (by assumption) (by assumption)) | (refine Ne.symm (ne_of_none (by assumption) (by assumption))))
local macro_rules | `(tactic| walk_at "hl") => `(tactic| first | assumption | with_reducible exact upd_same | ((with_reducible refine' Eq.trans (upd_ne ?hne) ?hrest); (case hne => walk_at "ne"); (case hrest => walk_at "hl")) | (refine' get_same ?hs ?hg; (case hs => assumption); (case hg => assumption)))
local macro_rules | `(tactic| walk_at "at") => `(tactic| first | with_reducible exact atI_0 _ _ | with_reducible exact atI_1 _ _ _ | with_reducible exact atI_2 _ _ _ _ | with_reducible exact atI_3 _ _ _ _ _ | assumption)
local macro_rules | `(tactic| walk_at "rd1") => `(tactic| first
  | with_reducible refine s_seq ?_ | with_reducible refine s_next ?_ | with_reducible refine s_if ?_ | with_reducible refine s_ret ?_ | with_reducible refine s_retN ?_ | with_reducible refine s_drop ?_ | with_reducible refine s_asg ?_ | with_reducible refine s_brk ?_ | with_reducible refine s_cont ?_
  | with_reducible refine s_gname ?_ | with_reducible refine s_c ?_ | with_reducible refine s_op ?_ | with_reducible refine s_un ?_ | with_reducible refine s_neg ?_ | with_reducible refine s_test ?_ | with_reducible refine s_tb ?_ | with_reducible refine s_not ?_ | with_reducible refine s_and ?_ | with_reducible refine s_or ?_ | with_reducible refine s_yes ?_
  | ((with_reducible refine' s_var ?hv ?_); (case hv => exact rfl))
  | with_reducible refine s_ifx ?_ | with_reducible refine s_andV ?_ | with_reducible refine s_orV ?_ | with_reducible refine s_notV ?_ | with_reducible refine s_chain ?_ | with_reducible refine s_nil ?_ | with_reducible refine s_cons ?_ | with_reducible refine s_lst ?_ | with_reducible refine s_tup ?_ | with_reducible refine s_cb ?_ | with_reducible refine s_call ?_ | with_reducible refine s_meth ?_ | with_reducible refine s_make ?_
  | with_reducible refine s_dnewK ?_ | with_reducible refine s_sl ?_ | with_reducible refine s_po0 ?_ | with_reducible refine s_po1 ?_ | with_reducible refine s_bm ?_ | with_reducible refine s_bm0 ?_
  | with_reducible refine s_bl ?_ | with_reducible refine s_int ?_ | with_reducible refine s_I0 ?_ | with_reducible refine s_addI ?_ | with_reducible refine s_intI ?_ | with_reducible refine s_intB ?_
  | with_reducible refine s_m1 ?_ | with_reducible refine s_lc ?_ | with_reducible refine s_ilist ?_ | with_reducible refine s_for ?_ | with_reducible refine s_irng ?_ | with_reducible refine s_match ?_ | with_reducible refine s_starT ?_ | with_reducible refine s_isS ?_ | with_reducible refine s_isiSS ?_ | with_reducible refine s_fldU ?_ | with_reducible refine s_sfldU ?_
  | ((with_reducible refine' s_eqS ?hq ?_); (case hq => exact rfl)) | ((with_reducible refine' s_neS ?hq ?_); (case hq => exact rfl))
  | ((with_reducible refine' s_isN ?hq ?_); (case hq => exact rfl)) | ((with_reducible refine' s_notN ?hq ?_); (case hq => exact rfl))
  | ((with_reducible refine' s_eqNil ?h1 ?h2 ?_); (case h1 => walk_at "hl"); (case h2 => walk_at "hl")) | ((with_reducible refine' s_neNil ?h1 ?h2 ?_); (case h1 => walk_at "hl"); (case h2 => walk_at "hl"))
  | ((with_reducible refine' s_ixL ?h1 ?h2 ?_); (case h1 => walk_at "hl"); (case h2 => walk_at "at")) | ((with_reducible refine' s_ixT ?h1 ?h2 ?_); (case h1 => walk_at "hl"); (case h2 => walk_at "at"))
  | ((with_reducible refine' s_inS ?h1 ?_); (case h1 => walk_at "hl")) | ((with_reducible refine' s_ninS ?h1 ?_); (case h1 => walk_at "hl")) | with_reducible refine s_inW ?_
  | ((with_reducible refine' s_lenL ?h1 ?_); (case h1 => walk_at "hl")) | ((with_reducible refine' s_lenT ?h1 ?_); (case h1 => walk_at "hl"))
  | ((with_reducible refine' s_tyL ?h1 ?_); (case h1 => walk_at "hl"))
  | ((with_reducible refine' s_fldM ?h1 ?h2 ?h3 ?_); (case h1 => walk_at "hl"); (case h2 => walk_at "fok"); (case h3 => walk_at "flk"))
  | ((with_reducible refine' s_setM ?h1 ?h2 ?h3 ?h4 ?_); (case h1 => walk_at "hl"); (case h2 => walk_at "fok"); (case h4 => walk_at "put"); (case h3 => exact Nat.le_of_ble_eq_true rfl))
  | ((with_reducible refine' s_starM ?h1 ?_); (case h1 => walk_at "hl"))
  | ((with_reducible refine' s_recv ?h1 ?h2 ?_); (case h1 => walk_at "hl"); (case h2 => exact rfl))
  | ((with_reducible refine' s_sz ?h1 ?_); (case h1 => (simp; done))))
local macro_rules | `(tactic| walk_at "rd") => `(tactic| repeat (walk_at "rd1"))
local macro_rules | `(tactic| walk_at "fok") => `(tactic| assumption)
local macro_rules | `(tactic| walk_at "flk") => `(tactic| rfl)
local macro_rules | `(tactic| walk_at "put") => `(tactic| exact rfl)

local macro_rules | `(tactic| walk_at "fok") => `(tactic| first | assumption | exact Tu.ce (by assumption) (by decide) | exact Tu.de (by assumption) (by decide) | exact Tu.ke (by assumption) (by decide) | exact Tu.fe (by assumption) (by decide) | exact Tu.ee (by assumption) (by decide))
section
variable {ω Λ : Type} {Y : LawP ω Λ}
section
variable {k : Nat} {wk : ω → MM ω Λ Dt} {wo : Str → MM ω Λ Dt}
/-- a run of an effect, with its report -/
def spOnceU (a : Nat → Addr) (Y : LawP ω Λ) (wk : ω → MM ω Λ Dt) : Sp := fun vs H Q E => ∃ g st nm, vs = [.ref (gA g nm)] ∧ Wld a Y g st H ∧ Post a Y g H (DtQ Q) (ErQ a E) (onceM wk nm st)
theorem onceM_some {α : Type} {g : Gh} {H : Hp} {K : Dt → SW ω Λ → Gh → Hp → Prop} {EE : Er → SW ω Λ → Gh → Hp → Prop} {nm : Str} {st : SW ω Λ} (h : Post a Y g H K EE (onceM wk nm st)) : ∃ w ns n r, st.1.th nm = some (.eff w ns n r) := by
  unfold onceM at h
  split at h
  · rename_i w ns n r e; exact ⟨w, ns, n, r, e⟩
  · exact h.elim
theorem ok_Effect_run_once (T : Tu P K mg a fd tk) (W : WOkX P w K mg base k (wspU a Y wk)) : FnOk P w K mg base (L2.CX P w) (k + 4) (a 63) (fd 63) ["self"] (spOnceU a Y wk) := by
  refine T.F_Effect_run_once.okX sc_Effect_run_once (fun vs H Q E h => ?_) (fun cdv A outer s H vs Q E hr h => ?_)
  · obtain ⟨g, st, nm, rfl, _⟩ := h
    rfl
  · obtain ⟨g, ⟨S, l⟩, nm, rfl, WD, kp⟩ := h
    obtain ⟨wi, ns, n, h0, ht⟩ := onceM_some (α := Unit) kp
    have ht : S.th nm = some (.eff wi ns n h0) := ht
    unfold onceM at kp
    simp only [ht] at kp
    refine ⟨_, (pss_cons (ps_asg (pe_meth (pv 0) T.cl_Effect T.m_Effect_run_work (ok_runE T W) (hr.mono (by omega)) (b_runE T) .nil (passes_call (takes_of rfl rfl rfl rfl) fun _ _ _ _ h => h) (pa_cons pe_bl pa_nil)) (pg_name (i := 1) sc_Effect_run_once.nd rfl (by first | exact Or.inl rfl | exact Or.inr rfl)))
  (pss_cons (ps_fldU K (pv 0) (pv 1))
  (pss_cons (ps_expr (pe_bm PySem.F.plainAttrs_list PySem.F.slot_list_append PySem.F.type_list_append uAppend (pe_fldU K (pe_fldU K (pv 0))) (pa_cons (pe_tup (pa_cons (pe_fldU K (pv 0)) (pa_cons (pv 1) pa_nil))) pa_nil)))
  (pss_one (ps_ret (pv 1)))))), ?_⟩
    obtain ⟨c, Wc⟩ := id WD
    have hx : H (gA g nm) = some (.ins (a 60) (c.idx nm) (effU g.d nm (wA g nm) (c.nad nm) (n : Nat) (c.vh nm))) := Wc.th ht
    obtain ⟨x0, hx0⟩ := Wc.ok.adr nm _ ht
    have xx : gA g nm = x0 := gA_at hx0
    walk_at "rd"
    refine ⟨g, (S, l), nm, false, wi, ns, n, h0, rfl, WD, ht, (Post.bind kp).imp (fun d s2 g2 H2 WD2 t2 k2 => ?_) fun _ _ _ _ _ _ z => z⟩
    obtain ⟨S2, l2⟩ := s2
    intro u hu
    obtain ⟨c2, Wc2⟩ := id WD2
    have gA2 : gA g2 nm = gA g nm := by rw [xx]; exact gA_at (t2.adr _ _ hx0)
    cases e2 : S2.th nm with
    | none => simp only [e2] at k2; exact k2.elim
    | some t3 =>
    cases t3 with
    | cell v => simp only [e2] at k2; exact k2.elim
    | kept w' ns' k' r' => simp only [e2] at k2; exact k2.elim
    | eff w' ns' k' r' =>
    simp only [e2] at k2
    by_cases hl : S2.log.length < 9000
    rotate_left
    · rw [if_neg hl] at k2; exact k2.elim
    rw [if_pos hl] at k2
    have hx2 : H2 (gA g2 nm) = some (.ins (a 60) (c2.idx nm) (effU g2.d nm (wA g2 nm) (c2.nad nm) (k' : Nat) (c2.vh nm))) := Wc2.th e2
    have ok3 : SOk g2 (S2.setTh nm (.eff w' ns' k' d)) := by
      refine Wc2.ok.setTh e2 (fun v e => ?_) (fun w ns k hd e => ?_) (fun w ns k r e => ?_) fun ns' e => ?_
      · cases e
      · cases e
      · cases e; exact ⟨_, _, _, rfl⟩
      · exact Wc2.ok.b8 nm _ ns' e2 e
    have W3 := Wc2.thing (t := .eff w' ns' k' r') (t' := .eff w' ns' k' d) (v := u) e2 rfl rfl ok3 (fun _ _ _ _ e => by cases e) (fun w2 ns2 n2 hd2 e => by cases e; exact hu)
    have e3 : thO a g2 (c2.setVh nm u) nm (.eff w' ns' k' d : Th ω) = .ins (a 60) (c2.idx nm) (effU g2.d nm (wA g2 nm) (c2.nad nm) (k' : Nat) u) := by
      show HO.ins _ _ (effU _ _ _ _ _ (if nm = nm then u else _)) = _
      rw [if_pos rfl]; rfl
    rw [e3] at W3
    have xT : g2.T (gA g2 nm) := Wc2.inT _ _ _ (slot_th e2)
    have st3 : Step g2 H2 g2 (upd H2 (gA g2 nm) (.ins (a 60) (c2.idx nm) (effU g2.d nm (wA g2 nm) (c2.nad nm) (k' : Nat) u))) := (DStep.upd xT).toStep
    rw [gA2] at hx2 W3 st3
    walk_at "rd"
    have ep : putF (Str.ofString "report") u (effU g2.d nm (wA g2 nm) (c2.nad nm) (k' : Nat) (c2.vh nm)) = effU g2.d nm (wA g2 nm) (c2.nad nm) (k' : Nat) u := rfl
    rw [ep]
    have hx3 : upd H2 (gA g nm) (.ins (a 60) (c2.idx nm) (effU g2.d nm (wA g2 nm) (c2.nad nm) (k' : Nat) u)) (gA g nm) = some (.ins (a 60) (c2.idx nm) (effU g2.d nm (wA g2 nm) (c2.nad nm) (k' : Nat) u)) := upd_same
    have hu3 := WD2.dvS st3 hu
    generalize upd H2 (gA g nm) (.ins (a 60) (c2.idx nm) (effU g2.d nm (wA g2 nm) (c2.nad nm) (k' : Nat) u)) = H3 at W3 st3 hx3 hu3 ⊢
    have hob3 := W3.desk
    have hlg3 := W3.lg
    walk_at "rd"
    intro t nt
    have s4 := Same.new (o := .tup [.str nm, u]) nt
    have ht4 : upd H3 t (.tup [.str nm, u]) t = some (.tup [.str nm, u]) := upd_same
    generalize upd H3 t (.tup [.str nm, u]) = H4 at s4 ht4 ⊢
    have W4 := W3.same s4
    have hu4 : DvS H4 u d := hu3.stay fun _ _ e => s4 _ _ e
    have hlg4 := W4.lg
    have b5 : c2.lgs.length = S2.log.length := Wc2.vr.log.1
    walk_at "rd"
    refine s_app hlg4 (sz_lt (by show c2.lgs.length < 100000; omega)) ?_
    have W5 := W4.logs (nm := nm) (t := t) (u := u) (d := d) hl ht4 hu4
    have lT : g2.T c2.lg := W4.inT .lg _ _ rfl
    have st5 : Step g2 H4 g2 (upd H4 c2.lg (.lst (c2.lgs ++ [.ref t]))) := (DStep.upd lT).toStep
    walk_at "rd"
    exact k2.ok ⟨_, W5⟩ (st3.tr ((DStep.same s4).toStep.tr st5)) u (WD2.dvS (st3.tr ((DStep.same s4).toStep.tr st5)) hu)
theorem b_Effect_run_once (T : Tu P K mg a fd tk) : Binds K (fd 63) ["self"] [] := T.F_Effect_run_once.binds fun _ _ _ _ _ _ us hl => match us, hl with | [_], _ => rfl
def spSettleU (a : Nat → Addr) (Y : LawP ω Λ) (wk : ω → MM ω Λ Dt) (wo : Str → MM ω Λ Dt) : Sp := fun vs H Q E => ∃ g st, vs = [.ref g.d] ∧ Wld a Y g st H ∧ Post a Y g H (UnQ Q) (ErQ a E) (settleM wk wo st)
theorem s_con {σ : L2.St} {H : Hp} {Q : VK} {ta : TE} {f : Str} (h : ta σ H fun x H1 => ∃ a C dx fs v u, x = .ref a ∧ H1 a = some (.ins C dx fs) ∧ Cls K C ∧ Con K C f v u ∧ fs.lookup f = none ∧ Q v H1) : tCon K ta f σ H Q := h
theorem ok_Desk_settle (T : Tu P K mg a fd tk) (W : WOkX P w K mg base k (wspU a Y wk)) (FW : FnOk P w K mg base (L2.CX P w) k (a 45) (fd 45) ["self"] (spWorthU a Y wo)) (hwo : WoC wo) : FnOk P w K mg base (L2.CX P w) (k + 5) (a 16) (fd 16) ["self"] (spSettleU a Y wk wo) := by
  refine T.F_Desk_settle.okX sc_Desk_settle (fun vs H Q E h => ?_) (fun cdv A outer s H vs Q E hr h => ?_)
  · obtain ⟨g, st, rfl, _⟩ := h
    rfl
  · obtain ⟨g, ⟨S, l⟩, rfl, WD, kp⟩ := h
    refine ⟨_, (pss_cons (ps_expr (pe_meth0 (pv 0) T.cl_Desk T.m_Desk_check_placed (ok_Desk_check_placed T (Y := Y)) (hr.mono (by omega)) (b_Desk_check_placed T) .nil (passes_call (takes_of rfl rfl rfl rfl) fun _ _ _ _ h => h)))
  (pss_cons (ps_if (PW.pt (pw_or (pt_cmpR op_gt (pe_fldU K (pv 0)) pe_int (nomark _)) (pw_or1 (pt_cmpR op_gt (pe_callB uLen (by rfl) T.b_len bt_len (pa_cons (pe_fldU K (pv 0)) pa_nil)) pe_int (nomark _))))) (pss_one ps_retN) pss_nil)
  (pss_cons (ps_fldU K (pv 0) (pe_lst pa_nil))
  (pss_one (ps_for (passes_of rfl) rfl (pi_range1 (by rfl) T.b_range (pa_cons (pe_op uAdd (pe_con (pv 0) rfl) pe_int) pa_nil)) (pg_name (i := 1) sc_Desk_settle.nd rfl (by first | exact Or.inl rfl | exact Or.inr rfl))
   (pss_cons (ps_setLc (i := 2) (own := [("effect", 3)]) rfl sc_Desk_settle.nd rfl rfl (sw_true rfl rfl rfl (by decide +kernel)) (pi_list (pe_callTy uList (by rfl) T.b_list bt_list (pa_cons (pe_fldU K (pv 0)) pa_nil))) (blkOk_by (N := N_Desk_settle) (sc := defScope s_Desk_settle) (by decide +kernel)) (fun _ _ _ _ _ => (pg_name (i := 3) sc_Desk_settle.nd rfl (by first | exact Or.inl rfl | exact Or.inr rfl))) (fun _ _ _ _ _ => (pts_one (pt_val (pe_meth0 (pv 3) T.cl_Effect T.m_Effect_is_out_of_order (ok_oooE T FW hwo) (hr.mono (by omega)) (b_oooE T) .nil passNX)))) (fun _ _ _ _ _ => (pv 3)))
  (pss_cons (ps_if (pt_cmpR (uEq K hr.units) (pe_callB uLen (by rfl) T.b_len bt_len (pa_cons (pv 2) pa_nil)) pe_int (nomark _)) (pss_one ps_retN) pss_nil)
  (pss_cons (ps_if (pt_cmpR (uEq K hr.units) (pv 1) (pe_con (pv 0) rfl) (nomark _)) (pss_one (ps_raise rfl (takes_of rfl rfl rfl rfl) (pmk_oexB xbR_ok T.ox_TooLong T.ini_TooLong T.inf_TooLong (ok_TooLong___init__ T) (hr.mono (by omega)) (b_TooLong___init__ T) .nil passF (by rfl) T.g_TooLong (pa_cons (pe_callTy uTuple (by rfl) T.b_tuple bt_tuple (pa_cons (pe_lock (pe_lc (own := [("name", 4)]) rfl sc_Desk_settle.nd (pi_keys (pe_fldU K (pv 0))) (blkOk_by (N := N_Desk_settle) (sc := defScope s_Desk_settle) (by decide +kernel)) (fun _ _ _ _ _ => (pg_name (i := 4) sc_Desk_settle.nd rfl (by first | exact Or.inl rfl | exact Or.inr rfl))) (fun _ _ _ _ _ => (pts_one (pt_cmpR (uIn K) (pv 4) (pe_fldU K (pv 0)) (by rfl)))) (fun _ _ _ _ _ => (pv 4)))) pa_nil)) pa_nil)))) pss_nil)
  (pss_one (ps_expr (pe_meth0 (pe_ix uIx (pv 2) pe_int (fun _ _ => rfl)) T.cl_Effect T.m_Effect_run_once (ok_Effect_run_once T W) (hr.mono (by omega)) (b_Effect_run_once T) .nil (passes_call (takes_of rfl rfl rfl rfl) fun _ _ _ _ h => h)))))))))))), ?_⟩
    obtain ⟨c, Wc⟩ := id WD
    have hob := Wc.desk
    unfold settleM at kp
    walk_at "rd"
    refine ⟨g, (S, l), rfl, WD, (Post.bind kp).impE (fun _ s1 g1 H1 eP WD1 t1 k1 => ?_) fun _ _ _ _ _ _ _ z => z⟩
    have es1 : s1 = (S, l) := by
      unfold placedM at eP
      split at eP
      · split at eP
        · cases eP
        · cases eP; rfl
      · cases eP; rfl
    subst es1
    obtain ⟨c1, Wc1⟩ := id WD1
    have hob1 := Wc1.desk
    have hfr1 := Wc1.frl
    rw [t1.d] at hob1
    have hfl : S.frs.length = g1.fas.length := Wc1.ok.fl
    have b6 : S.frs.length ≤ 200 := Wc1.ok.b6
    walk_at "rd"
    by_cases hb : 0 < S.ba
    · rw [if_pos (.inl hb)] at k1
      refine ifT (by simpa using hb) ?_
      refine ifT rfl ?_
      walk_at "rd"
      exact k1.ok WD1 Step.refl
    refine ifF (by simpa using hb) ?_
    walk_at "rd"
    by_cases hf : S.frs = []
    rotate_left
    · rw [if_pos (.inr hf)] at k1
      have : 0 < g1.fas.length := by rw [← hfl]; exact List.length_pos_iff.mpr hf
      refine ifT (by rw [List.length_map]; simp; omega) ?_
      walk_at "rd"
      exact k1.ok WD1 Step.refl
    rw [if_neg (fun z => z.elim hb fun z => z hf)] at k1
    have ef : g1.fas = [] := Wc1.nofr.mp hf
    refine ifF (by rw [ef]; rfl) ?_
    walk_at "rd"
    intro z nz
    obtain ⟨W2, d2⟩ := Wc1.newMv nz
    have hobz : upd H1 z (.lst []) g.d = some (.ins (a 3) c1.dd (deskU c1 (S.ba : Nat))) := by rw [upd_ne (ne_of_none hob1 nz)]; exact hob1
    walk_at "rd"
    have ep : putF (Str.ofString "moved") (V.ref z) (deskU c1 (S.ba : Nat)) = deskU { c1 with mv := z } (S.ba : Nat) := rfl
    rw [ep]
    rw [t1.d] at W2 d2
    generalize upd (upd H1 z (.lst [])) g.d (.ins (a 3) c1.dd (deskU { c1 with mv := z } (S.ba : Nat))) = H2 at W2 d2 ⊢
    have t12 := t1.tr d2.toStep
    have k2 := k1.from d2.toStep
    have hob2 := W2.desk
    rw [t12.d] at hob2
    refine s_con ?_
    walk_at "rd"
    refine ⟨g.d, a 3, _, _, _, _, rfl, hob2, T.cl_Desk, T.k_MOST_RUNS, rfl, ?_⟩
    walk_at "rd"
    refine s_forR (by decide) (by decide) (fun i σ H' => ∃ v1 v2 v3 g' st', σ = [some (.ref g.d), v1, v2, v3, none] ∧ i ≤ 101 ∧ Wld a Y g' st' H' ∧ Step (g1.more z) H2 g' H' ∧ (i ≤ 100 → Post a Y g' H' (UnQ Q) (ErQ a E) (roundsM wk wo (100 - i) st')) ∧ (i = 101 → False)) ⟨none, none, none, _, _, rfl, by omega, ⟨_, W2⟩, Step.refl, fun _ => k2, by omega⟩ ?_ ?_
    rotate_left
    · rintro σ H' ⟨_, _, _, _, _, _, _, _, _, _, z⟩
      exact (z rfl).elim
    rintro i σ H' hi ⟨v1, v2, v3, g3, ⟨S3, l3⟩, rfl, _, WD3, t3, k3, _⟩
    have hi : i ≤ 100 := by have : (i : Int) < 101 := hi; omega
    have k3 := k3 hi
    obtain ⟨c3, Wc3⟩ := id WD3
    have hd3 : g3.d = g.d := t3.d.trans t12.d
    have hob3 := Wc3.desk
    rw [hd3] at hob3
    have hef3 := Wc3.ef
    have b4 : S3.efs.length ≤ 200 := Wc3.ok.b4
    obtain ⟨NX, k3, hNX⟩ : ∃ NX : Str → MM ω Λ Unit, Post a Y g3 H' (UnQ Q) (ErQ a E) (MM.bind (dueM wo S3.efs) (nextM NX) (S3, l3)) ∧ (i = 100 ∧ NX = (fun _ => endM) ∨ i < 100 ∧ NX = fun x => MM.bind (onceM wk x) fun _ => roundsM wk wo (99 - i)) := by
      by_cases h100 : i = 100
      · subst h100
        rw [show 100 - 100 = 0 from rfl] at k3
        unfold roundsM at k3
        exact ⟨_, k3, .inl ⟨rfl, rfl⟩⟩
      · rw [show 100 - i = (99 - i) + 1 by omega] at k3
        unfold roundsM at k3
        exact ⟨_, k3, .inr ⟨by omega, rfl⟩⟩
    walk_at "rd"
    refine s_listL hef3 fun q nq => ?_
    have sq := Same.new (o := .lst (S3.efs.map fun n => V.ref (gA g3 n))) nq
    have hq : upd H' q (.lst (S3.efs.map fun n => V.ref (gA g3 n))) q = some (.lst (S3.efs.map fun n => V.ref (gA g3 n))) := upd_same
    have ouq := Wc3.out nq
    generalize upd H' q (.lst (S3.efs.map fun n => V.ref (gA g3 n))) = H4 at sq hq ⊢
    have WD4 := WD3.same sq
    have k4 := k3.from (DStep.same sq).toStep
    have t4 : Step (g1.more z) H2 g3 H4 := t3.tr (DStep.same sq).toStep
    walk_at "rd"
    refine s_lcW hq (fun D j H5 => ∃ g5 st5 ls, Wld a Y g5 st5 H5 ∧ Step g3 H4 g5 H5 ∧ H4 D = none ∧ Out g5 D ∧ ls.length ≤ j ∧ (∀ x ∈ ls, x ∈ S3.efs) ∧ H5 D = some (.lst (ls.map fun n => V.ref (gA g3 n))) ∧ Post a Y g3 H4 (UnQ Q) (ErQ a E) (MM.bind (dueM wo (S3.efs.drop j)) (fun l' => nextM NX (ls ++ l')) st5)) (fun D nD => ?_) (fun D j H5 _ hP => ?_) (fun D j x H5 hx hP => ?_) (fun D H5 hP => ?_)
    · exact ⟨g3, (S3, l3), [], WD4.same (Same.new nD), (DStep.same (Same.new nD)).toStep, nD, WD4.out nD, Nat.le_refl _, by simp, upd_same, k4⟩
    · obtain ⟨g5, st5, ls, WD5, t5, _⟩ := hP
      exact t5.st _ _ hq ouq.t ouq.l
    · obtain ⟨g5, ⟨S5, l5⟩, ls, WD5, t5, nD, oD, hls, hmem, hD, k5⟩ := hP
      rw [List.getElem?_map] at hx
      cases ex : S3.efs[j]? with
      | none => rw [ex] at hx; cases hx
      | some nm =>
      rw [ex] at hx
      cases hx
      have hjl : j < S3.efs.length := (List.getElem?_eq_some_iff.mp ex).1
      have ed : S3.efs.drop j = nm :: S3.efs.drop (j + 1) := List.drop_eq_getElem?_toList_append.trans (by rw [ex]; rfl)
      rw [ed] at k5
      have k5 : Post a Y g3 H4 (UnQ Q) (ErQ a E) (MM.bind (fun s : SW ω Λ => match s.1.th nm with
        | some (.eff _ _ _ _) => MM.bind (MM.calm (stale wo nm)) (fun b => MM.bind (dueM wo (S3.efs.drop (j + 1))) fun l => MM.ok (if b then nm :: l else l)) s
        | _ => none) (fun l' => nextM NX (ls ++ l')) (S5, l5)) := k5
      obtain ⟨w5, ns5, n5, r5, e5⟩ : ∃ w5 ns5 n5 r5, S5.th nm = some (.eff w5 ns5 n5 r5) := by
        unfold MM.bind at k5
        cases e : S5.th nm with
        | none => simp only [e] at k5; exact k5.elim
        | some t => cases t with
          | eff w ns n r => exact ⟨_, _, _, _, rfl⟩
          | cell v => simp only [e] at k5; exact k5.elim
          | kept w ns n r => simp only [e] at k5; exact k5.elim
      have k5 : Post a Y g3 H4 (UnQ Q) (ErQ a E) (MM.bind (MM.calm (stale wo nm)) (fun b => MM.bind (dueM wo (S3.efs.drop (j + 1))) fun l' => nextM NX ((if b then ls ++ [nm] else ls) ++ l')) (S5, l5)) := by
        have e : MM.bind (MM.bind (MM.calm (stale wo nm)) (fun b => MM.bind (dueM wo (S3.efs.drop (j + 1))) fun l => MM.ok (if b then nm :: l else l))) (fun l' => nextM NX (ls ++ l')) = MM.bind (MM.calm (stale wo nm)) (fun b => MM.bind (dueM wo (S3.efs.drop (j + 1))) fun l' => nextM NX ((if b then ls ++ [nm] else ls) ++ l')) := by
          rw [MM.bind_assoc]
          congr 1
          funext b
          rw [MM.bind_assoc]
          congr 1
          funext l'
          rw [MM.bind_ok']
          cases b <;> simp
        rw [← e]
        unfold MM.bind at k5 ⊢
        simp only [e5] at k5
        exact k5
      obtain ⟨c5, Wc5⟩ := id WD5
      obtain ⟨y0, hy0⟩ := Wc3.ok.adr nm _ (Wc3.ok.efi nm (List.mem_of_getElem? ex)).choose_spec.choose_spec.choose_spec.choose_spec
      have gA5 : gA g5 nm = gA g3 nm := by rw [gA_at hy0]; exact gA_at (t5.adr _ _ hy0)
      have hx5 : H5 (gA g5 nm) = some (.ins (a 60) (c5.idx nm) (effU g5.d nm (wA g5 nm) (c5.nad nm) (n5 : Nat) (c5.vh nm))) := Wc5.th e5
      rw [gA5] at hx5
      walk_at "rd"
      refine ⟨rfl, ?_⟩
      walk_at "rd"
      refine ⟨g5, (S5, l5), nm, w5, ns5, n5, r5, by rw [gA5], WD5, e5, (Post.calmB k5).imp (fun b s6 g6 H6 WD6 t6 k6 => ?_) fun _ _ _ _ _ _ z => z.elim⟩
      have hD6 := t6.st _ _ hD oD.t oD.l
      have oD6 := oD.step t6 hD
      refine ⟨b, rfl, ?_⟩
      cases b with
      | true =>
        refine ifT rfl ?_
        walk_at "rd"
        refine ⟨_, hD6, sz_lt (by rw [List.length_map]; omega), g6, s6, ls ++ [nm], WD6.other hD6 oD6 (fun z => z), (t5.tr t6).off nD, nD, oD6, by rw [List.length_append]; simp; omega, fun x hx => ?_, by rw [List.map_append]; exact upd_same, ?_⟩
        · rcases List.mem_append.mp hx with q | q
          · exact hmem x q
          · rw [List.mem_singleton.mp q]; exact List.mem_of_getElem? ex
        · exact k6
      | false =>
        refine ifF rfl ?_
        exact ⟨g6, s6, ls, WD6, t5.tr t6, nD, oD6, by omega, hmem, hD6, k6⟩
    · obtain ⟨g5, ⟨S5, l5⟩, ls, WD5, t5, nD, oD, hls, hmem, hD, k5⟩ := hP
      rw [List.length_map, List.drop_length] at k5
      have k5 : Post a Y g3 H4 (UnQ Q) (ErQ a E) (nextM NX ls (S5, l5)) := by
        have k5 := k5
        unfold dueM at k5
        rw [MM.bind_ok', List.append_nil] at k5
        exact k5
      obtain ⟨c5, Wc5⟩ := id WD5
      have hob5 := Wc5.desk
      rw [t5.d, hd3] at hob5
      have t25 := t4.tr t5
      walk_at "rd"
      cases ls with
      | nil =>
        refine ifT rfl ?_
        walk_at "rd"
        exact k5.ok WD5 t5
      | cons nm ls =>
      refine ifF (by simp; omega) ?_
      walk_at "rd"
      refine s_con ?_
      walk_at "rd"
      refine ⟨g.d, a 3, _, _, _, _, rfl, hob5, T.cl_Desk, T.k_MOST_RUNS, rfl, ?_⟩
      walk_at "rd"
      rcases hNX with ⟨rfl, eNX⟩ | ⟨hi1, eNX⟩
      · rw [eNX] at k5
        have k5 : Post a Y g3 H4 (UnQ Q) (ErQ a E) (some (.error (eTooLong (S5.cells.filter fun c => decide (c ∈ S5.mv))), (S5, l5))) := k5
        refine ifT (by decide) ?_
        walk_at "rd"
        have hcs5 : H5 c5.cs = some (.dK (S5.cells.map (kvU g5))) := Wc5.cs
        have hmv5 : H5 c5.mv = some (.lst (S5.mv.map V.str)) := Wc5.mv
        have b2 : S5.cells.length ≤ 200 := Wc5.ok.b2
        have b7 : S5.mv.length ≤ 9000 := Wc5.ok.b7
        refine s_mkO ?_
        walk_at "rd"
        refine s_lockL hcs5 trivial fun od => ?_
        have hobF : upd H5 c5.cs (.frz od (.dK (S5.cells.map (kvU g5)))) g.d = some (.ins (a 3) c5.dd (deskU c5 (S5.ba : Nat))) := by rw [upd_ne (ne_of hob5 hcs5 (by intro z; cases z))]; exact hob5
        have hmvF : upd H5 c5.cs (.frz od (.dK (S5.cells.map (kvU g5)))) c5.mv = some (.lst (S5.mv.map V.str)) := by rw [upd_ne (ne_of hmv5 hcs5 (by intro z; cases z))]; exact hmv5
        have hcsF : upd H5 c5.cs (.frz od (.dK (S5.cells.map (kvU g5)))) c5.cs = some (.frz od (.dK (S5.cells.map (kvU g5)))) := upd_same
        have keepF : ∀ x o, H5 x = some o → x ≠ c5.cs → upd H5 c5.cs (.frz od (.dK (S5.cells.map (kvU g5)))) x = some o := fun x o e n => by rw [upd_ne n]; exact e
        generalize upd H5 c5.cs (.frz od (.dK (S5.cells.map (kvU g5)))) = H6 at hobF hmvF hcsF keepF ⊢
        walk_at "rd"
        refine s_ikeysL ?_
        walk_at "rd"
        refine s_lcKeys (fun p => match p.1 with
          | .inr n => if n ∈ S5.mv then some (.str n) else none
          | .inl _ => none) hcsF (by rw [List.length_map]; omega) (fun j p H7 R R0 hp s7 kk kk0 => ?_) (fun D2 H7 s7 nD2 hD2 => ?_)
        · rw [List.getElem?_map] at hp
          cases en : S5.cells[j]? with
          | none => rw [en] at hp; cases hp
          | some n =>
          rw [en] at hp
          cases hp
          have hob7 := s7 _ _ hobF
          have hmv7 := s7 _ _ hmvF
          rw [show kV (kvU g5 n).1 = V.str n from rfl]
          walk_at "rd"
          refine ⟨rfl, ?_⟩
          walk_at "rd"
          by_cases hin : n ∈ S5.mv
          · refine ifT (by simpa using hin) ?_
            walk_at "rd"
            exact kk (.str n) (by show (if n ∈ S5.mv then _ else _) = _; rw [if_pos hin]) _ (.refl _)
          · refine ifF (by simpa using hin) ?_
            exact kk0 (by show (if n ∈ S5.mv then _ else _) = _; rw [if_neg hin]) _ (.refl _)
        · refine ⟨s7 _ _ hcsF, ?_⟩
          have efm : (S5.cells.map (kvU g5)).filterMap (fun p => match p.1 with
              | .inr n => if n ∈ S5.mv then some (V.str n) else none
              | .inl _ => none) = (S5.cells.filter fun c => decide (c ∈ S5.mv)).map V.str := by
            induction S5.cells with
            | nil => rfl
            | cons n r ih =>
              rw [List.map_cons, List.filter_cons, List.filterMap_cons]
              by_cases hin : n ∈ S5.mv
              · simp only [kvU, if_pos hin, decide_eq_true hin, if_true, List.map_cons]
                rw [← ih]
              · simp only [kvU, if_neg hin, decide_eq_false hin, Bool.false_eq_true, if_false]
                rw [← ih]
          rw [efm] at hD2
          have sF : Same H5 (upd H7 c5.cs (.dK (S5.cells.map (kvU g5)))) := fun x o e => by
            by_cases z : x = c5.cs
            · rw [z, upd_same, ← hcs5, ← z]; exact e
            · rw [upd_ne z]; exact s7 _ _ (keepF x o e z)
          have hDF : upd H7 c5.cs (.dK (S5.cells.map (kvU g5))) D2 = some (.lst ((S5.cells.filter fun c => decide (c ∈ S5.mv)).map V.str)) := by
            rw [upd_ne (ne_of_none hcsF nD2).symm]; exact hD2
          generalize upd H7 c5.cs (.dK (S5.cells.map (kvU g5))) = H8 at sF hDF ⊢
          walk_at "rd"
          refine s_tupleL hDF fun tt ntt => ?_
          have s9 := Same.new (o := .tup ((S5.cells.filter fun c => decide (c ∈ S5.mv)).map V.str)) ntt
          have htt : upd H8 tt (.tup ((S5.cells.filter fun c => decide (c ∈ S5.mv)).map V.str)) tt = some (.tup ((S5.cells.filter fun c => decide (c ∈ S5.mv)).map V.str)) := upd_same
          generalize upd H8 tt (.tup ((S5.cells.filter fun c => decide (c ∈ S5.mv)).map V.str)) = H9 at s9 htt ⊢
          walk_at "rd"
          refine s_raiseX fun d H' nd s10 hd => ?_
          have s59 := sF.trans s9
          exact (k5.from t5).raise WD5 (s59.free nd) (s59.trans s10) hd (.tup (s10 _ _ htt) (DvAll.strs _))
      · rw [eNX] at k5
        have k5 : Post a Y g3 H4 (UnQ Q) (ErQ a E) (MM.bind (onceM wk nm) (fun _ => roundsM wk wo (99 - i)) (S5, l5)) := k5
        refine ifF (by simp; omega) ?_
        have hm := hmem nm List.mem_cons_self
        obtain ⟨_, _, _, _, em⟩ := Wc3.ok.efi nm hm
        obtain ⟨y0, hy0⟩ := Wc3.ok.adr nm _ em
        have gA5 : gA g5 nm = gA g3 nm := by rw [gA_at hy0]; exact gA_at (t5.adr _ _ hy0)
        obtain ⟨w5, ns5, n5, r5, e5⟩ := onceM_some (α := Unit) (Post.bindB k5 t5)
        have e5 : S5.th nm = some (.eff w5 ns5 n5 r5) := e5
        have hx5 : H5 (gA g5 nm) = some (.ins (a 60) (c5.idx nm) (effU g5.d nm (wA g5 nm) (c5.nad nm) (n5 : Nat) (c5.vh nm))) := Wc5.th e5
        rw [gA5] at hx5
        walk_at "rd"
        refine s_ixL hD (atI_0 _ _) ?_
        walk_at "rd"
        refine ⟨g5, (S5, l5), nm, by rw [gA5], WD5, (Post.bindB k5 t5).imp (fun d s6 g6 H6 WD6 t6 k6 => ?_) fun _ _ _ _ _ _ z => z⟩
        intro u hu
        walk_at "rd"
        refine ⟨_, _, _, g6, s6, rfl, by omega, WD6, t25.tr t6, fun _ => ?_, by omega⟩
        rw [show 100 - (i + 1) = 99 - i by omega]
        exact k6.from (t5.tr t6)
theorem b_Desk_settle (T : Tu P K mg a fd tk) : Binds K (fd 16) ["self"] [] := T.F_Desk_settle.binds fun _ _ _ _ _ _ us hl => match us, hl with | [_], _ => rfl
end
end
end
end Tr
set_option maxHeartbeats 4000000

namespace Tr
open PySem L2 OXB
section
variable {P : Program} {w : World} {K : PySem.W.Frag} {mg : Str → Option Value} {base : Heap} {a : Nat → Addr} {fd : Nat → FuncData} {tk : Nat → Tok}
local macro_rules | `(tactic| walk_at "ne") => `(tactic| first | assumption | (exact Ne.symm (by assumption)) | (refine ne_of_none (by assumption) (by assumption)) | (refine Ne.symm (ne_of_none (by assumption) (by assumption))))
local macro_rules | `(tactic| walk_at "hl") => `(tactic| first | assumption | with_reducible exact upd_same | ((with_reducible refine' Eq.trans (upd_ne ?hne) ?hrest); (case hne => walk_at "ne"); (case hrest => walk_at "hl")) | (refine' get_same ?hs ?hg; (case hs => assumption); (case hg => assumption)))
local macro_rules | `(tactic| walk_at "at") => `(tactic| first | with_reducible exact atI_0 _ _ | with_reducible exact atI_1 _ _ _ | with_reducible exact atI_2 _ _ _ _ | with_reducible exact atI_3 _ _ _ _ _ | assumption)
local macro_rules | `(tactic| walk_at "rd1") => `(tactic| first
  | with_reducible refine s_seq ?_ | with_reducible refine s_next ?_ | with_reducible refine s_if ?_ | with_reducible refine s_ret ?_ | with_reducible refine s_retN ?_ | with_reducible refine s_drop ?_ | with_reducible refine s_asg ?_ | with_reducible refine s_brk ?_ | with_reducible refine s_cont ?_
  | with_reducible refine s_gname ?_ | with_reducible refine s_c ?_ | with_reducible refine s_op ?_ | with_reducible refine s_un ?_ | with_reducible refine s_neg ?_ | with_reducible refine s_test ?_ | with_reducible refine s_tb ?_ | with_reducible refine s_not ?_ | with_reducible refine s_and ?_ | with_reducible refine s_or ?_ | with_reducible refine s_yes ?_
  | ((with_reducible refine' s_var ?hv ?_); (case hv => exact rfl))
  | with_reducible refine s_ifx ?_ | with_reducible refine s_andV ?_ | with_reducible refine s_orV ?_ | with_reducible refine s_notV ?_ | with_reducible refine s_chain ?_ | with_reducible refine s_nil ?_ | with_reducible refine s_cons ?_ | with_reducible refine s_lst ?_ | with_reducible refine s_tup ?_ | with_reducible refine s_cb ?_ | with_reducible refine s_call ?_ | with_reducible refine s_meth ?_ | with_reducible refine s_make ?_
  | with_reducible refine s_dnewK ?_ | with_reducible refine s_sl ?_ | with_reducible refine s_po0 ?_ | with_reducible refine s_po1 ?_ | with_reducible refine s_bm ?_ | with_reducible refine s_bm0 ?_
  | with_reducible refine s_bl ?_ | with_reducible refine s_int ?_ | with_reducible refine s_I0 ?_ | with_reducible refine s_addI ?_ | with_reducible refine s_intI ?_ | with_reducible refine s_intB ?_
  | with_reducible refine s_m1 ?_ | with_reducible refine s_lc ?_ | with_reducible refine s_ilist ?_ | with_reducible refine s_for ?_ | with_reducible refine s_irng ?_ | with_reducible refine s_match ?_ | with_reducible refine s_starT ?_ | with_reducible refine s_isS ?_ | with_reducible refine s_isiSS ?_ | with_reducible refine s_fldU ?_ | with_reducible refine s_sfldU ?_
  | ((with_reducible refine' s_eqS ?hq ?_); (case hq => exact rfl)) | ((with_reducible refine' s_neS ?hq ?_); (case hq => exact rfl))
  | ((with_reducible refine' s_isN ?hq ?_); (case hq => exact rfl)) | ((with_reducible refine' s_notN ?hq ?_); (case hq => exact rfl))
  | ((with_reducible refine' s_eqNil ?h1 ?h2 ?_); (case h1 => walk_at "hl"); (case h2 => walk_at "hl")) | ((with_reducible refine' s_neNil ?h1 ?h2 ?_); (case h1 => walk_at "hl"); (case h2 => walk_at "hl"))
  | ((with_reducible refine' s_ixL ?h1 ?h2 ?_); (case h1 => walk_at "hl"); (case h2 => walk_at "at")) | ((with_reducible refine' s_ixT ?h1 ?h2 ?_); (case h1 => walk_at "hl"); (case h2 => walk_at "at"))
  | ((with_reducible refine' s_inS ?h1 ?_); (case h1 => walk_at "hl")) | ((with_reducible refine' s_ninS ?h1 ?_); (case h1 => walk_at "hl")) | with_reducible refine s_inW ?_
  | ((with_reducible refine' s_lenL ?h1 ?_); (case h1 => walk_at "hl")) | ((with_reducible refine' s_lenT ?h1 ?_); (case h1 => walk_at "hl"))
  | ((with_reducible refine' s_tyL ?h1 ?_); (case h1 => walk_at "hl"))
  | ((with_reducible refine' s_fldM ?h1 ?h2 ?h3 ?_); (case h1 => walk_at "hl"); (case h2 => walk_at "fok"); (case h3 => walk_at "flk"))
  | ((with_reducible refine' s_setM ?h1 ?h2 ?h3 ?h4 ?_); (case h1 => walk_at "hl"); (case h2 => walk_at "fok"); (case h4 => walk_at "put"); (case h3 => exact Nat.le_of_ble_eq_true rfl))
  | ((with_reducible refine' s_starM ?h1 ?_); (case h1 => walk_at "hl"))
  | ((with_reducible refine' s_recv ?h1 ?h2 ?_); (case h1 => walk_at "hl"); (case h2 => exact rfl))
  | ((with_reducible refine' s_sz ?h1 ?_); (case h1 => (simp; done))))
local macro_rules | `(tactic| walk_at "rd") => `(tactic| repeat (walk_at "rd1"))
local macro_rules | `(tactic| walk_at "fok") => `(tactic| assumption)
local macro_rules | `(tactic| walk_at "flk") => `(tactic| rfl)
local macro_rules | `(tactic| walk_at "put") => `(tactic| exact rfl)

local macro_rules | `(tactic| walk_at "fok") => `(tactic| first | assumption | exact Tu.ce (by assumption) (by decide) | exact Tu.de (by assumption) (by decide) | exact Tu.ke (by assumption) (by decide) | exact Tu.fe (by assumption) (by decide) | exact Tu.ee (by assumption) (by decide))
section
variable {ω Λ : Type} {Y : LawP ω Λ}
local macro_rules | `(tactic| walk_at "flk") => `(tactic| first | exact rfl | assumption)
theorem placed_eq {s s' : SW ω Λ} {x : Unit} (h : placedM s = some (.ok x, s')) : s' = s := by
  unfold placedM at h
  split at h
  · split at h
    · cases h
    · cases h; rfl
  · cases h; rfl
theorem Cn.setVh_same {c : Cn} {n : Str} : c.setVh n (c.vh n) = c := by
  unfold Cn.setVh
  congr 1
  funext m
  split
  · rename_i z; rw [z]
  · rfl
section
variable {k : Nat} {wk : ω → MM ω Λ Dt} {wo : Str → MM ω Λ Dt}
/-- a cell is put -/
def spPutU (a : Nat → Addr) (Y : LawP ω Λ) (wk : ω → MM ω Λ Dt) (wo : Str → MM ω Λ Dt) : Sp := fun vs H Q E => ∃ g st nm v, vs = [.ref (gA g nm), .int v] ∧ Wld a Y g st H ∧ (∃ u, st.1.th nm = some (.cell u)) ∧ Post a Y g H (UnQ Q) (ErQ a E) (putM wk wo nm v st)
theorem ok_Cell_put (T : Tu P K mg a fd tk) (W : WOkX P w K mg base k (wspU a Y wk)) (FW : FnOk P w K mg base (L2.CX P w) k (a 45) (fd 45) ["self"] (spWorthU a Y wo)) (hwo : WoC wo) : FnOk P w K mg base (L2.CX P w) (k + 6) (a 9) (fd 9) ["self", "value"] (spPutU a Y wk wo) := by
  refine T.F_Cell_put.okX sc_Cell_put (fun vs H Q E h => ?_) (fun cdv A outer s H vs Q E hr h => ?_)
  · obtain ⟨g, st, nm, v, rfl, _⟩ := h
    rfl
  · obtain ⟨g, ⟨S, l⟩, nm, v, rfl, WD, ⟨u, ht⟩, kp⟩ := h
    have ht : S.th nm = some (.cell u) := ht
    refine ⟨_, (pss_cons (ps_expr (pe_meth0 (pe_fldU K (pv 0)) T.cl_Desk T.m_Desk_check_placed (ok_Desk_check_placed T (Y := Y)) (hr.mono (by omega)) (b_Desk_check_placed T) .nil (passes_call (takes_of rfl rfl rfl rfl) fun _ _ _ _ h => h)))
  (pss_cons (ps_if (pt_cmpR (uNe K hr.units) (pv 1) (pe_fldU K (pv 0)) (nomark _)) (pss_one (ps_expr (pe_bm PySem.F.plainAttrs_list PySem.F.slot_list_append PySem.F.type_list_append uAppend (pe_fldU K (pe_fldU K (pv 0))) (pa_cons (pe_fldU K (pv 0)) pa_nil)))) pss_nil)
  (pss_cons (ps_fldU K (pv 0) (pv 1))
  (pss_one (ps_expr (pe_meth0 (pe_fldU K (pv 0)) T.cl_Desk T.m_Desk_settle (ok_Desk_settle T W FW hwo) (hr.mono (by omega)) (b_Desk_settle T) .nil (passes_call (takes_of rfl rfl rfl rfl) fun _ _ _ _ h => h))))))), ?_⟩
    obtain ⟨c, Wc⟩ := id WD
    have hx : H (gA g nm) = some (.ins (a 2) (c.idx nm) (cellU g.d nm u)) := Wc.th ht
    obtain ⟨x0, hx0⟩ := Wc.ok.adr nm _ ht
    have xx : gA g nm = x0 := gA_at hx0
    have hob := Wc.desk
    unfold putM at kp
    walk_at "rd"
    refine ⟨g, (S, l), rfl, WD, (Post.bind kp).impE (fun _ s1 g1 H1 eP WD1 t1 k1 => ?_) fun _ _ _ _ _ _ _ z => z⟩
    obtain rfl := placed_eq eP
    have k1 : Post a Y g1 H1 (UnQ Q) (ErQ a E) (if S.mv.length < 9000 then settleM wk wo ({ (S.setTh nm (.cell v)) with mv := if v = u then S.mv else S.mv ++ [nm] }, l) else none) := by
      have k1 := k1
      simp only [ht] at k1
      exact k1
    by_cases hl : S.mv.length < 9000
    rotate_left
    · rw [if_neg hl] at k1; exact k1.elim
    rw [if_pos hl] at k1
    obtain ⟨c1, Wc1⟩ := id WD1
    have gA1 : gA g1 nm = gA g nm := by rw [xx]; exact gA_at (t1.adr _ _ hx0)
    have hx1 : H1 (gA g1 nm) = some (.ins (a 2) (c1.idx nm) (cellU g1.d nm u)) := Wc1.th ht
    have hob1 := Wc1.desk
    have hmv1 := Wc1.mv
    rw [gA1] at hx1
    rw [t1.d] at hx1 hob1
    refine s_seqK (L2.start (N_Cell_put) [.ref (gA g nm), .int v]) (fun H2 => ∃ S2 g2 c2, Tr.Wc a Y g2 (S2, l) c2 H2 ∧ Step g1 H1 g2 H2 ∧ S2.th nm = some (.cell u) ∧ Post a Y g1 H1 (UnQ Q) (ErQ a E) (settleM wk wo (S2.setTh nm (.cell v), l))) (fun H2 hR => ?_) fun R hR => ?_
    · obtain ⟨S2, g2, c2, W2, t2, e2, k2⟩ := hR
      have gA2 : gA g2 nm = gA g nm := by rw [xx]; exact gA_at (t2.adr _ _ (t1.adr _ _ hx0))
      have hx2 : H2 (gA g2 nm) = some (.ins (a 2) (c2.idx nm) (cellU g2.d nm u)) := W2.th e2
      have ok3 : SOk g2 (S2.setTh nm (.cell v)) := by
        refine W2.ok.setTh e2 (fun v e => ⟨_, rfl⟩) (fun w ns k hd e => ?_) (fun w ns k r e => ?_) fun ns' e => ?_
        · cases e
        · cases e
        · cases e
      have W3 := W2.thing (t := .cell u) (t' := .cell v) (v := c2.vh nm) e2 rfl rfl ok3 (fun _ _ _ _ e => by cases e) (fun _ _ _ _ e => by cases e)
      rw [Cn.setVh_same] at W3
      have W3 : Tr.Wc a Y g2 (S2.setTh nm (.cell v), l) c2 (upd H2 (gA g2 nm) (.ins (a 2) (c2.idx nm) (cellU g2.d nm v))) := W3
      have st3 : Step g2 H2 g2 (upd H2 (gA g2 nm) (.ins (a 2) (c2.idx nm) (cellU g2.d nm v))) := (DStep.upd (W2.inT _ _ _ (slot_th e2))).toStep
      rw [gA2] at hx2 W3 st3
      rw [t2.d, t1.d] at hx2 W3 st3
      walk_at "rd"
      have ep : putF (Str.ofString "now") (V.int v) (cellU g.d nm u) = cellU g.d nm v := rfl
      rw [ep]
      have hx3 : upd H2 (gA g nm) (.ins (a 2) (c2.idx nm) (cellU g.d nm v)) (gA g nm) = some (.ins (a 2) (c2.idx nm) (cellU g.d nm v)) := upd_same
      generalize upd H2 (gA g nm) (.ins (a 2) (c2.idx nm) (cellU g.d nm v)) = H3 at W3 st3 hx3 ⊢
      have hob3 := W3.desk
      rw [t2.d, t1.d] at hob3
      walk_at "rd"
      refine ⟨g2, _, by rw [t2.d, t1.d], ⟨_, W3⟩, (k2.from (t2.tr st3)).imp (fun _ s4 g4 H4 WD4 t4 k4 => ?_) fun _ _ _ _ _ _ z => z⟩
      walk_at "rd"
      exact k4
    · walk_at "rd"
      by_cases e : v = u
      · refine ifF (by rw [e]; simp) ?_
        have k2 : Post a Y g1 H1 (UnQ Q) (ErQ a E) (settleM wk wo (S.setTh nm (.cell v), l)) := by
          have k1 := k1
          rw [if_pos e] at k1
          exact k1
        exact hR _ ⟨S, g1, c1, Wc1, Step.refl, ht, k2⟩
      · refine ifT (by simpa using e) ?_
        walk_at "rd"
        have b7 : S.mv.length ≤ 9000 := Wc1.ok.b7
        refine s_app hmv1 (sz_lt (by rw [List.length_map]; omega)) ?_
        have em : S.mv.map V.str ++ [.str nm] = (S.mv ++ [nm]).map V.str := by simp
        rw [em]
        have k2 : Post a Y g1 H1 (UnQ Q) (ErQ a E) (settleM wk wo ((({ S with mv := S.mv ++ [nm] } : DS ω)).setTh nm (.cell v), l)) := by
          have k1 := k1
          rw [if_neg e] at k1
          exact k1
        exact hR _ ⟨{ S with mv := S.mv ++ [nm] }, g1, c1, Wc1.moved hl, (DStep.upd (Wc1.inT .mv _ _ rfl)).toStep, ht, k2⟩
theorem b_Cell_put (T : Tu P K mg a fd tk) : Binds K (fd 9) ["self", "value"] [] := T.F_Cell_put.binds fun _ _ _ _ _ _ us hl => match us, hl with | [_, _], _ => rfl
/-- an effect is called -/
def spCallU (a : Nat → Addr) (Y : LawP ω Λ) (wk : ω → MM ω Λ Dt) (wo : Str → MM ω Λ Dt) : Sp := fun vs H Q E => ∃ g st nm, vs = [.ref (gA g nm)] ∧ Wld a Y g st H ∧ (∃ w ns n r, st.1.th nm = some (.eff w ns n r)) ∧ Post a Y g H (DtQ Q) (ErQ a E) (callEM wk wo nm st)
theorem ok_Effect___call__ (T : Tu P K mg a fd tk) (W : WOkX P w K mg base k (wspU a Y wk)) (FW : FnOk P w K mg base (L2.CX P w) k (a 45) (fd 45) ["self"] (spWorthU a Y wo)) (hwo : WoC wo) : FnOk P w K mg base (L2.CX P w) (k + 6) (a 62) (fd 62) ["self"] (spCallU a Y wk wo) := by
  refine T.F_Effect___call__.okX sc_Effect___call__ (fun vs H Q E h => ?_) (fun cdv A outer s H vs Q E hr h => ?_)
  · obtain ⟨g, st, nm, rfl, _⟩ := h
    rfl
  · obtain ⟨g, ⟨S, l⟩, nm, rfl, WD, ⟨wi, ns, n, r0, ht⟩, kp⟩ := h
    have ht : S.th nm = some (.eff wi ns n r0) := ht
    refine ⟨_, (pss_cons (ps_expr (pe_meth0 (pe_fldU K (pv 0)) T.cl_Desk T.m_Desk_check_placed (ok_Desk_check_placed T (Y := Y)) (hr.mono (by omega)) (b_Desk_check_placed T) .nil (passes_call (takes_of rfl rfl rfl rfl) fun _ _ _ _ h => h)))
  (pss_cons (ps_if (pt_val (pe_meth (pe_fldU K (pv 0)) T.cl_Desk T.m_Desk_is_under_way (ok_Desk_is_under_way T (Y := Y)) (hr.mono (by omega)) (b_Desk_is_under_way T) .nil pass0 (pa_cons (pe_fldU K (pv 0)) pa_nil))) (pss_one (ps_raise rfl (takes_of rfl rfl rfl rfl) (pmk_oexB xbR_ok T.ox_Busy T.ini_Busy T.inf_Busy (ok_Busy___init__ T) (hr.mono (by omega)) (b_Busy___init__ T) .nil passF (by rfl) T.g_Busy (pa_cons (pe_fldU K (pv 0)) pa_nil)))) pss_nil)
  (pss_cons (ps_asg (pe_meth0 (pv 0) T.cl_Effect T.m_Effect_run_once (ok_Effect_run_once T W) (hr.mono (by omega)) (b_Effect_run_once T) .nil (passes_call (takes_of rfl rfl rfl rfl) fun _ _ _ _ h => h)) (pg_name (i := 1) sc_Effect___call__.nd rfl (by first | exact Or.inl rfl | exact Or.inr rfl)))
  (pss_cons (ps_expr (pe_meth0 (pe_fldU K (pv 0)) T.cl_Desk T.m_Desk_settle (ok_Desk_settle T W FW hwo) (hr.mono (by omega)) (b_Desk_settle T) .nil (passes_call (takes_of rfl rfl rfl rfl) fun _ _ _ _ h => h)))
  (pss_one (ps_ret (pv 1))))))), ?_⟩
    obtain ⟨c, Wc⟩ := id WD
    have hx : H (gA g nm) = some (.ins (a 60) (c.idx nm) (effU g.d nm (wA g nm) (c.nad nm) (n : Nat) (c.vh nm))) := Wc.th ht
    obtain ⟨x0, hx0⟩ := Wc.ok.adr nm _ ht
    have xx : gA g nm = x0 := gA_at hx0
    have hob := Wc.desk
    unfold callEM at kp
    walk_at "rd"
    refine ⟨g, (S, l), rfl, WD, (Post.bind kp).impE (fun _ s1 g1 H1 eP WD1 t1 k1 => ?_) fun _ _ _ _ _ _ _ z => z⟩
    obtain rfl := placed_eq eP
    have k1 : Post a Y g1 H1 (DtQ Q) (ErQ a E) (if S.frs.any (fun f => decide (f.own = nm)) = true then some (.error (eBusy nm), (S, l)) else MM.bind (onceM wk nm) (fun d => MM.bind (settleM wk wo) fun _ => MM.ok d) (S, l)) := by
      have k1 := k1
      simp only [ht] at k1
      exact k1
    obtain ⟨c1, Wc1⟩ := id WD1
    have gA1 : gA g1 nm = gA g nm := by rw [xx]; exact gA_at (t1.adr _ _ hx0)
    have hx1 : H1 (gA g1 nm) = some (.ins (a 60) (c1.idx nm) (effU g1.d nm (wA g1 nm) (c1.nad nm) (n : Nat) (c1.vh nm))) := Wc1.th ht
    have hob1 := Wc1.desk
    rw [gA1] at hx1
    rw [t1.d] at hx1 hob1
    walk_at "rd"
    refine ⟨g1, (S, l), nm, by rw [t1.d], WD1, fun H2 s2 => ?_⟩
    have WD2 := WD1.same s2
    have hx2 := s2 _ _ hx1
    have hob2 := s2 _ _ hob1
    walk_at "rd"
    by_cases hb : (S.frs.any fun f => decide (f.own = nm)) = true
    · rw [if_pos hb] at k1
      refine ifT hb ?_
      walk_at "rd"
      refine s_mkO ?_
      walk_at "rd"
      exact s_raiseX fun d H' nd s3 hd => k1.raise WD1 (s2.free nd) (s2.trans s3) hd (.str _)
    rw [if_neg hb] at k1
    refine ifF (by simpa using hb) ?_
    walk_at "rd"
    refine ⟨g1, (S, l), nm, by rw [gA1], WD2, (Post.bind (k1.from (DStep.same s2).toStep)).imp (fun d s3 g3 H3 WD3 t3 k3 => ?_) fun _ _ _ _ _ _ z => z⟩
    obtain ⟨S3, l3⟩ := s3
    intro u hu
    obtain ⟨c3, Wc3⟩ := id WD3
    have t13 := t1.tr ((DStep.same s2).toStep.tr t3)
    have gA3 : gA g3 nm = gA g nm := by rw [xx]; exact gA_at (t13.adr _ _ hx0)
    cases e3 : S3.th nm with
    | none =>
      have a2 := Wc3.ok.fre nm e3
      rw [t13.adr _ _ hx0] at a2
      cases a2.1
    | some t5 =>
    obtain ⟨C3, dx3, fs3, hx3, hlk3, hfk3⟩ := Wc3.deskF T e3
    rw [gA3] at hx3
    rw [t13.d] at hlk3
    have hob3 := Wc3.desk
    rw [t13.d] at hob3
    walk_at "rd"
    refine ⟨g3, (S3, l3), by rw [t13.d], WD3, (Post.bind k3).imp (fun _ s4 g4 H4 WD4 t4 k4 => ?_) fun _ _ _ _ _ _ z => z⟩
    walk_at "rd"
    exact k4.ok WD4 Step.refl u (WD3.dvS t4 hu)
theorem b_Effect___call__ (T : Tu P K mg a fd tk) : Binds K (fd 62) ["self"] [] := T.F_Effect___call__.binds fun _ _ _ _ _ _ us hl => match us, hl with | [_], _ => rfl
end
end
end
end Tr
set_option maxHeartbeats 4000000

namespace Tr
open PySem L2 OXB
section
variable {P : Program} {w : World} {K : PySem.W.Frag} {mg : Str → Option Value} {base : Heap} {a : Nat → Addr} {fd : Nat → FuncData} {tk : Nat → Tok}
local macro_rules | `(tactic| walk_at "ne") => `(tactic| first | assumption | (exact Ne.symm (by assumption)) | (refine ne_of_none (by assumption) (by assumption)) | (refine Ne.symm (ne_of_none (by assumption) (by assumption))))
local macro_rules | `(tactic| walk_at "hl") => `(tactic| first | assumption | with_reducible exact upd_same | ((with_reducible refine' Eq.trans (upd_ne ?hne) ?hrest); (case hne => walk_at "ne"); (case hrest => walk_at "hl")) | (refine' get_same ?hs ?hg; (case hs => assumption); (case hg => assumption)))
local macro_rules | `(tactic| walk_at "at") => `(tactic| first | with_reducible exact atI_0 _ _ | with_reducible exact atI_1 _ _ _ | with_reducible exact atI_2 _ _ _ _ | with_reducible exact atI_3 _ _ _ _ _ | assumption)
local macro_rules | `(tactic| walk_at "rd1") => `(tactic| first
  | with_reducible refine s_seq ?_ | with_reducible refine s_next ?_ | with_reducible refine s_if ?_ | with_reducible refine s_ret ?_ | with_reducible refine s_retN ?_ | with_reducible refine s_drop ?_ | with_reducible refine s_asg ?_ | with_reducible refine s_brk ?_ | with_reducible refine s_cont ?_
  | with_reducible refine s_gname ?_ | with_reducible refine s_c ?_ | with_reducible refine s_op ?_ | with_reducible refine s_un ?_ | with_reducible refine s_neg ?_ | with_reducible refine s_test ?_ | with_reducible refine s_tb ?_ | with_reducible refine s_not ?_ | with_reducible refine s_and ?_ | with_reducible refine s_or ?_ | with_reducible refine s_yes ?_
  | ((with_reducible refine' s_var ?hv ?_); (case hv => exact rfl))
  | with_reducible refine s_ifx ?_ | with_reducible refine s_andV ?_ | with_reducible refine s_orV ?_ | with_reducible refine s_notV ?_ | with_reducible refine s_chain ?_ | with_reducible refine s_nil ?_ | with_reducible refine s_cons ?_ | with_reducible refine s_lst ?_ | with_reducible refine s_tup ?_ | with_reducible refine s_cb ?_ | with_reducible refine s_call ?_ | with_reducible refine s_meth ?_ | with_reducible refine s_make ?_
  | with_reducible refine s_dnewK ?_ | with_reducible refine s_sl ?_ | with_reducible refine s_po0 ?_ | with_reducible refine s_po1 ?_ | with_reducible refine s_bm ?_ | with_reducible refine s_bm0 ?_
  | with_reducible refine s_bl ?_ | with_reducible refine s_int ?_ | with_reducible refine s_I0 ?_ | with_reducible refine s_addI ?_ | with_reducible refine s_intI ?_ | with_reducible refine s_intB ?_
  | with_reducible refine s_m1 ?_ | with_reducible refine s_lc ?_ | with_reducible refine s_ilist ?_ | with_reducible refine s_for ?_ | with_reducible refine s_irng ?_ | with_reducible refine s_match ?_ | with_reducible refine s_starT ?_ | with_reducible refine s_isS ?_ | with_reducible refine s_isiSS ?_ | with_reducible refine s_fldU ?_ | with_reducible refine s_sfldU ?_
  | ((with_reducible refine' s_eqS ?hq ?_); (case hq => exact rfl)) | ((with_reducible refine' s_neS ?hq ?_); (case hq => exact rfl))
  | ((with_reducible refine' s_isN ?hq ?_); (case hq => exact rfl)) | ((with_reducible refine' s_notN ?hq ?_); (case hq => exact rfl))
  | ((with_reducible refine' s_eqNil ?h1 ?h2 ?_); (case h1 => walk_at "hl"); (case h2 => walk_at "hl")) | ((with_reducible refine' s_neNil ?h1 ?h2 ?_); (case h1 => walk_at "hl"); (case h2 => walk_at "hl"))
  | ((with_reducible refine' s_ixL ?h1 ?h2 ?_); (case h1 => walk_at "hl"); (case h2 => walk_at "at")) | ((with_reducible refine' s_ixT ?h1 ?h2 ?_); (case h1 => walk_at "hl"); (case h2 => walk_at "at"))
  | ((with_reducible refine' s_inS ?h1 ?_); (case h1 => walk_at "hl")) | ((with_reducible refine' s_ninS ?h1 ?_); (case h1 => walk_at "hl")) | with_reducible refine s_inW ?_
  | ((with_reducible refine' s_lenL ?h1 ?_); (case h1 => walk_at "hl")) | ((with_reducible refine' s_lenT ?h1 ?_); (case h1 => walk_at "hl"))
  | ((with_reducible refine' s_tyL ?h1 ?_); (case h1 => walk_at "hl"))
  | ((with_reducible refine' s_fldM ?h1 ?h2 ?h3 ?_); (case h1 => walk_at "hl"); (case h2 => walk_at "fok"); (case h3 => walk_at "flk"))
  | ((with_reducible refine' s_setM ?h1 ?h2 ?h3 ?h4 ?_); (case h1 => walk_at "hl"); (case h2 => walk_at "fok"); (case h4 => walk_at "put"); (case h3 => exact Nat.le_of_ble_eq_true rfl))
  | ((with_reducible refine' s_starM ?h1 ?_); (case h1 => walk_at "hl"))
  | ((with_reducible refine' s_recv ?h1 ?h2 ?_); (case h1 => walk_at "hl"); (case h2 => exact rfl))
  | ((with_reducible refine' s_sz ?h1 ?_); (case h1 => (simp; done))))
local macro_rules | `(tactic| walk_at "rd") => `(tactic| repeat (walk_at "rd1"))
local macro_rules | `(tactic| walk_at "fok") => `(tactic| assumption)
local macro_rules | `(tactic| walk_at "flk") => `(tactic| rfl)
local macro_rules | `(tactic| walk_at "put") => `(tactic| exact rfl)

local macro_rules | `(tactic| walk_at "fok") => `(tactic| first | assumption | exact Tu.ce (by assumption) (by decide) | exact Tu.de (by assumption) (by decide) | exact Tu.ke (by assumption) (by decide) | exact Tu.fe (by assumption) (by decide) | exact Tu.ee (by assumption) (by decide))
theorem di_step {H : Hp} {d dd p C : Addr} {fs fs' : List (Str × V)} {o : HO} (hd : H d = some (.ins C dd fs)) (n : H p = none) : upd (upd H p o) d (.ins C dd fs') d = some (.ins C dd fs') ∧ upd (upd H p o) d (.ins C dd fs') p = some o ∧ (∀ x o', H x = some o' → x ≠ d → upd (upd H p o) d (.ins C dd fs') x = some o') ∧ ∀ x, upd (upd H p o) d (.ins C dd fs') x = none → H x = none ∧ x ≠ p :=
  ⟨upd_same, by rw [upd_ne (Ne.symm (ne_of_none hd n))]; exact upd_same, fun x o' hx hne => by rw [upd_ne hne, upd_ne (ne_of_none hx n)]; exact hx, fun x hx => by
    have h1 : x ≠ d := by rintro rfl; rw [upd_same] at hx; cases hx
    rw [upd_ne h1] at hx
    have h2 : x ≠ p := by rintro rfl; rw [upd_same] at hx; cases hx
    rw [upd_ne h2] at hx
    exact ⟨hx, h2⟩⟩
theorem upd_non {H : Hp} {x y : Addr} {o : HO} (h : upd H x o y = none) : y ≠ x ∧ H y = none := by
  have hn : y ≠ x := by rintro rfl; rw [upd_same] at h; cases h
  exact ⟨hn, by rw [upd_ne hn] at h; exact h⟩
/-- what is made -/
structure DeskNew (a : Nat → Addr) (H H' : Hp) (d : Addr) (c : Cn) : Prop where
  ob : H' d = some (.ins (a 3) c.dd (deskU c 0))
  un : H' c.un = some (.lst [])
  cs : H' c.cs = some (.dK [])
  rd : H' c.rd = some (.dK [])
  ef : H' c.ef = some (.lst [])
  lg : H' c.lg = some (.lst [])
  mv : H' c.mv = some (.lst [])
  fr : H' c.fr = some (.lst [])
  lgs : c.lgs = []
  nd : [d, c.un, c.cs, c.rd, c.ef, c.lg, c.mv, c.fr].Nodup
  keep : ∀ x o, H x = some o → x ≠ d → H' x = some o
  new : ∀ x ∈ [c.un, c.cs, c.rd, c.ef, c.lg, c.mv, c.fr], H x = none
def spDeskN (a : Nat → Addr) : Sp := fun vs H Q _ => ∃ d dd, vs = [.ref d] ∧ H d = some (.ins (a 3) dd []) ∧ ∀ c H', DeskNew a H H' d c → Q .non H'
theorem ok_Desk___init__ (T : Tu P K mg a fd tk) : FnOk P w K mg base CX0 1 (a 11) (fd 11) ["self"] (spDeskN a) := by
  refine T.F_Desk___init__.ok sc_Desk___init__ (fun vs H Q E h => ?_) (fun cdv A outer s H vs Q E hr h => ?_)
  · obtain ⟨d, dd, rfl, _⟩ := h
    rfl
  · obtain ⟨d, dd, rfl, hd, k⟩ := h
    refine ⟨_, (pss_cons (ps_fldU K (pv 0) (pe_lst pa_nil))
  (pss_cons (ps_fldU K (pv 0) pe_dnewK)
  (pss_cons (ps_fldU K (pv 0) pe_dnewK)
  (pss_cons (ps_fldU K (pv 0) (pe_lst pa_nil))
  (pss_cons (ps_fldU K (pv 0) (pe_lst pa_nil))
  (pss_cons (ps_fldU K (pv 0) (pe_lst pa_nil))
  (pss_cons (ps_fldU K (pv 0) pe_int)
  (pss_one (ps_fldU K (pv 0) (pe_lst pa_nil)))))))))), ?_⟩
    walk_at "rd"
    intro un n1
    walk_at "rd"
    obtain ⟨hd1, hp1, kp1, nn1⟩ := di_step (o := (.lst [])) (fs' := [("used_names", .ref un)]) hd n1
    have e1 : ∀ (Hx : Hp), upd (upd Hx un (.lst [])) d (.ins (a 3) dd [("used_names", .ref un)]) = upd (upd Hx un (.lst [])) d (.ins (a 3) dd [("used_names", .ref un)]) := fun _ => rfl
    generalize hH1 : upd (upd H un (.lst [])) d (.ins (a 3) dd [("used_names", .ref un)]) = H1 at hd1 hp1 kp1 nn1
    first | rw [show upd (upd H un (.lst [])) d (.ins (a 3) dd (putF (Str.ofString "used_names") (.ref un) [])) = H1 from hH1] | skip
    clear e1
    walk_at "rd"
    intro cs n2
    walk_at "rd"
    obtain ⟨hd2, hp2, kp2, nn2⟩ := di_step (o := (.dK [])) (fs' := [("used_names", .ref un), ("cells", .ref cs)]) hd1 n2
    have e2 : ∀ (Hx : Hp), upd (upd Hx cs (.dK [])) d (.ins (a 3) dd [("used_names", .ref un), ("cells", .ref cs)]) = upd (upd Hx cs (.dK [])) d (.ins (a 3) dd [("used_names", .ref un), ("cells", .ref cs)]) := fun _ => rfl
    generalize hH2 : upd (upd H1 cs (.dK [])) d (.ins (a 3) dd [("used_names", .ref un), ("cells", .ref cs)]) = H2 at hd2 hp2 kp2 nn2
    first | rw [show upd (upd H1 cs (.dK [])) d (.ins (a 3) dd (putF (Str.ofString "cells") (.ref cs) [("used_names", .ref un)])) = H2 from hH2] | skip
    clear e2
    walk_at "rd"
    intro rd n3
    walk_at "rd"
    obtain ⟨hd3, hp3, kp3, nn3⟩ := di_step (o := (.dK [])) (fs' := [("used_names", .ref un), ("cells", .ref cs), ("readable", .ref rd)]) hd2 n3
    have e3 : ∀ (Hx : Hp), upd (upd Hx rd (.dK [])) d (.ins (a 3) dd [("used_names", .ref un), ("cells", .ref cs), ("readable", .ref rd)]) = upd (upd Hx rd (.dK [])) d (.ins (a 3) dd [("used_names", .ref un), ("cells", .ref cs), ("readable", .ref rd)]) := fun _ => rfl
    generalize hH3 : upd (upd H2 rd (.dK [])) d (.ins (a 3) dd [("used_names", .ref un), ("cells", .ref cs), ("readable", .ref rd)]) = H3 at hd3 hp3 kp3 nn3
    first | rw [show upd (upd H2 rd (.dK [])) d (.ins (a 3) dd (putF (Str.ofString "readable") (.ref rd) [("used_names", .ref un), ("cells", .ref cs)])) = H3 from hH3] | skip
    clear e3
    walk_at "rd"
    intro ef n4
    walk_at "rd"
    obtain ⟨hd4, hp4, kp4, nn4⟩ := di_step (o := (.lst [])) (fs' := [("used_names", .ref un), ("cells", .ref cs), ("readable", .ref rd), ("effects", .ref ef)]) hd3 n4
    have e4 : ∀ (Hx : Hp), upd (upd Hx ef (.lst [])) d (.ins (a 3) dd [("used_names", .ref un), ("cells", .ref cs), ("readable", .ref rd), ("effects", .ref ef)]) = upd (upd Hx ef (.lst [])) d (.ins (a 3) dd [("used_names", .ref un), ("cells", .ref cs), ("readable", .ref rd), ("effects", .ref ef)]) := fun _ => rfl
    generalize hH4 : upd (upd H3 ef (.lst [])) d (.ins (a 3) dd [("used_names", .ref un), ("cells", .ref cs), ("readable", .ref rd), ("effects", .ref ef)]) = H4 at hd4 hp4 kp4 nn4
    first | rw [show upd (upd H3 ef (.lst [])) d (.ins (a 3) dd (putF (Str.ofString "effects") (.ref ef) [("used_names", .ref un), ("cells", .ref cs), ("readable", .ref rd)])) = H4 from hH4] | skip
    clear e4
    walk_at "rd"
    intro lg n5
    walk_at "rd"
    obtain ⟨hd5, hp5, kp5, nn5⟩ := di_step (o := (.lst [])) (fs' := [("used_names", .ref un), ("cells", .ref cs), ("readable", .ref rd), ("effects", .ref ef), ("log", .ref lg)]) hd4 n5
    have e5 : ∀ (Hx : Hp), upd (upd Hx lg (.lst [])) d (.ins (a 3) dd [("used_names", .ref un), ("cells", .ref cs), ("readable", .ref rd), ("effects", .ref ef), ("log", .ref lg)]) = upd (upd Hx lg (.lst [])) d (.ins (a 3) dd [("used_names", .ref un), ("cells", .ref cs), ("readable", .ref rd), ("effects", .ref ef), ("log", .ref lg)]) := fun _ => rfl
    generalize hH5 : upd (upd H4 lg (.lst [])) d (.ins (a 3) dd [("used_names", .ref un), ("cells", .ref cs), ("readable", .ref rd), ("effects", .ref ef), ("log", .ref lg)]) = H5 at hd5 hp5 kp5 nn5
    first | rw [show upd (upd H4 lg (.lst [])) d (.ins (a 3) dd (putF (Str.ofString "log") (.ref lg) [("used_names", .ref un), ("cells", .ref cs), ("readable", .ref rd), ("effects", .ref ef)])) = H5 from hH5] | skip
    clear e5
    walk_at "rd"
    intro fr n6
    walk_at "rd"
    obtain ⟨hd6, hp6, kp6, nn6⟩ := di_step (o := (.lst [])) (fs' := [("used_names", .ref un), ("cells", .ref cs), ("readable", .ref rd), ("effects", .ref ef), ("log", .ref lg), ("frames", .ref fr)]) hd5 n6
    have e6 : ∀ (Hx : Hp), upd (upd Hx fr (.lst [])) d (.ins (a 3) dd [("used_names", .ref un), ("cells", .ref cs), ("readable", .ref rd), ("effects", .ref ef), ("log", .ref lg), ("frames", .ref fr)]) = upd (upd Hx fr (.lst [])) d (.ins (a 3) dd [("used_names", .ref un), ("cells", .ref cs), ("readable", .ref rd), ("effects", .ref ef), ("log", .ref lg), ("frames", .ref fr)]) := fun _ => rfl
    generalize hH6 : upd (upd H5 fr (.lst [])) d (.ins (a 3) dd [("used_names", .ref un), ("cells", .ref cs), ("readable", .ref rd), ("effects", .ref ef), ("log", .ref lg), ("frames", .ref fr)]) = H6 at hd6 hp6 kp6 nn6
    first | rw [show upd (upd H5 fr (.lst [])) d (.ins (a 3) dd (putF (Str.ofString "frames") (.ref fr) [("used_names", .ref un), ("cells", .ref cs), ("readable", .ref rd), ("effects", .ref ef), ("log", .ref lg)])) = H6 from hH6] | skip
    clear e6
    walk_at "rd"
    intro mv n7
    have nmd : mv ≠ d := by rintro rfl; rw [upd_same] at n7; cases n7
    have n7' : H6 mv = none := by rw [upd_ne nmd] at n7; exact n7
    walk_at "rd"
    have up : ∀ {x : Addr} {o : HO}, H6 x = some o → x ≠ d → ∀ {u1 u2 : HO}, upd (upd (upd H6 d u1) mv (.lst [])) d u2 x = some o := by
      intro x o hx hne u1 u2
      rw [upd_ne hne, upd_ne (ne_of_none hx n7'), upd_ne hne]; exact hx
    have f1 := n1
    have f2 := (nn1 _ n2).1
    have f3 := (nn1 _ (nn2 _ n3).1).1
    have f4 := (nn1 _ (nn2 _ (nn3 _ n4).1).1).1
    have f5 := (nn1 _ (nn2 _ (nn3 _ (nn4 _ n5).1).1).1).1
    have f6 := (nn1 _ (nn2 _ (nn3 _ (nn4 _ (nn5 _ n6).1).1).1).1).1
    have f7 := (nn1 _ (nn2 _ (nn3 _ (nn4 _ (nn5 _ (nn6 _ n7').1).1).1).1).1).1
    have nd : ∀ {x : Addr}, H x = none → x ≠ d := fun h => by rintro rfl; rw [hd] at h; cases h
    have q1 := kp6 _ _ (kp5 _ _ (kp4 _ _ (kp3 _ _ (kp2 _ _ hp1 (nd f1)) (nd f1)) (nd f1)) (nd f1)) (nd f1)
    have q2 := kp6 _ _ (kp5 _ _ (kp4 _ _ (kp3 _ _ hp2 (nd f2)) (nd f2)) (nd f2)) (nd f2)
    have q3 := kp6 _ _ (kp5 _ _ (kp4 _ _ hp3 (nd f3)) (nd f3)) (nd f3)
    have q4 := kp6 _ _ (kp5 _ _ hp4 (nd f4)) (nd f4)
    have q5 := kp6 _ _ hp5 (nd f5)
    refine k ⟨dd, un, cs, rd, ef, lg, mv, fr, fun _ => 0, fun _ => 0, fun _ => 0, [], fun _ => [], fun _ => .non⟩ _ ⟨upd_same, up q1 (nd f1), up q2 (nd f2), up q3 (nd f3), up q4 (nd f4), up q5 (nd f5), by rw [upd_ne nmd]; exact upd_same, up hp6 (nd f6), rfl, ?_, (fun x o hx hne => up (kp6 _ _ (kp5 _ _ (kp4 _ _ (kp3 _ _ (kp2 _ _ (kp1 _ _ hx hne) hne) hne) hne) hne) hne) hne), (fun x hx => ?_)⟩
    · have a1 := (nn4 _ (nn5 _ (nn6 _ n7').1).1).2
      have a2 := (nn5 _ (nn6 _ n7').1).2
      have a3 := (nn6 _ n7').2
      have a4 := (nn4 _ (nn5 _ n6).1).2
      have a5 := (nn5 _ n6).2
      have a6 := (nn4 _ n5).2
      have b1 := (nn1 _ (nn2 _ (nn3 _ n4).1).1).2
      have b2 := (nn1 _ (nn2 _ (nn3 _ (nn4 _ n5).1).1).1).2
      have b3 := (nn1 _ (nn2 _ (nn3 _ (nn4 _ (nn5 _ n6).1).1).1).1).2
      have b4 := (nn1 _ (nn2 _ (nn3 _ (nn4 _ (nn5 _ (nn6 _ n7').1).1).1).1).1).2
      have c1 := (nn2 _ n3).2
      have c2 := (nn2 _ (nn3 _ n4).1).2
      have c3 := (nn2 _ (nn3 _ (nn4 _ n5).1).1).2
      have c4 := (nn2 _ (nn3 _ (nn4 _ (nn5 _ n6).1).1).1).2
      have c5 := (nn2 _ (nn3 _ (nn4 _ (nn5 _ (nn6 _ n7').1).1).1).1).2
      have d1 := (nn1 _ n2).2
      have d2 := (nn1 _ (nn2 _ n3).1).2
      have r1 := (nn3 _ n4).2
      have r2 := (nn3 _ (nn4 _ n5).1).2
      have r3 := (nn3 _ (nn4 _ (nn5 _ n6).1).1).2
      have r4 := (nn3 _ (nn4 _ (nn5 _ (nn6 _ n7').1).1).1).2
      have z1 := nd f1
      have z2 := nd f2
      have z3 := nd f3
      have z4 := nd f4
      have z5 := nd f5
      have z6 := nd f6
      simp only [List.nodup_cons, List.mem_cons, List.not_mem_nil, or_false, not_or, List.nodup_nil, and_true, not_false_eq_true]
      exact ⟨⟨z1.symm, z2.symm, z3.symm, z4.symm, z5.symm, nmd.symm, z6.symm⟩, ⟨d1.symm, d2.symm, b1.symm, b2.symm, b4.symm, b3.symm⟩, ⟨c1.symm, c2.symm, c3.symm, c5.symm, c4.symm⟩, ⟨r1.symm, r2.symm, r4.symm, r3.symm⟩, ⟨a6.symm, a1.symm, a4.symm⟩, ⟨a2.symm, a5.symm⟩, a3⟩
    · simp only [List.mem_cons, List.not_mem_nil, or_false] at hx
      rcases hx with rfl | rfl | rfl | rfl | rfl | rfl | rfl
      · exact f1
      · exact f2
      · exact f3
      · exact f4
      · exact f5
      · exact f7
      · exact f6
theorem b_Desk___init__ (T : Tu P K mg a fd tk) : Binds K (fd 11) ["self"] [] := T.F_Desk___init__.binds fun _ _ _ _ _ _ us hl => match us, hl with | [_], _ => rfl
section
variable {ω Λ : Type} {Y : LawP ω Λ}
def gNew (d : Addr) (c : Cn) (L : Addr → Prop) : Gh := ⟨d, fun _ => none, fun _ => none, [], fun x => x ∈ [d, c.un, c.cs, c.rd, c.ef, c.lg, c.mv], L, fun x => x = c.fr⟩
theorem DeskNew.wld {H H' : Hp} {d : Addr} {c : Cn} {L : Addr → Prop} {l : Λ} (N : DeskNew a H H' d c) (la : Y.LA l (gNew d c L) H') (hL : ∀ x, L x → (∃ o, H' x = some o ∧ MutL o) ∧ x ∉ [d, c.un, c.cs, c.rd, c.ef, c.lg, c.mv, c.fr]) : Wld a Y (gNew d c L) (DS.new, l) H' := by
  have sn : ∀ s x o, slot a (gNew d c L) (DS.new : DS ω) c s = some (x, o) → H' x = some o ∧ x ∈ [d, c.un, c.cs, c.rd, c.ef, c.lg, c.mv] ∧ [d, c.un, c.cs, c.rd, c.ef, c.lg, c.mv][(match s with | .d => 0 | .un => 1 | .cs => 2 | .rd => 3 | .ef => 4 | .lg => 5 | .mv => 6 | _ => 7 : Nat)]? = some x ∧ (match s with | .th _ => False | .nt _ => False | .fm _ => False | _ => True) := fun s x o h => by
    cases s with
    | d => cases h; exact ⟨N.ob, List.mem_cons_self, rfl, trivial⟩
    | un => cases h; exact ⟨N.un, by simp, rfl, trivial⟩
    | cs => cases h; exact ⟨N.cs, by simp, rfl, trivial⟩
    | rd => cases h; exact ⟨N.rd, by simp, rfl, trivial⟩
    | ef => cases h; exact ⟨N.ef, by simp, rfl, trivial⟩
    | lg => cases h; exact ⟨by rw [N.lgs]; exact N.lg, by simp, rfl, trivial⟩
    | mv => cases h; exact ⟨N.mv, by simp, rfl, trivial⟩
    | th n => cases h
    | nt n => cases h
    | fm i => cases h
  have nd7 : [d, c.un, c.cs, c.rd, c.ef, c.lg, c.mv].Nodup ∧ c.fr ∉ [d, c.un, c.cs, c.rd, c.ef, c.lg, c.mv] := by
    have h := N.nd
    rw [show [d, c.un, c.cs, c.rd, c.ef, c.lg, c.mv, c.fr] = [d, c.un, c.cs, c.rd, c.ef, c.lg, c.mv] ++ [c.fr] from rfl, List.nodup_append] at h
    exact ⟨h.1, fun z => h.2.2 _ z _ (by simp) rfl⟩
  refine ⟨c, fun s x o h => (sn s x o h).1, fun s s' x o o' h h' => ?_, fun s x o h => (sn s x o h).2.1, N.fr, rfl, fun x p => ?_, ⟨⟨by rw [N.lgs]; rfl, fun i v p h1 h2 => ?_⟩, (fun n t ns h => by cases h), (fun n _ _ _ _ h => by cases h), (fun n _ _ _ _ h => by cases h)⟩, ?_, la, fun x h => (hL x h).1, fun x h h' => (hL x h').2 (by
      have : x ∈ [d, c.un, c.cs, c.rd, c.ef, c.lg, c.mv] := h
      rw [show [d, c.un, c.cs, c.rd, c.ef, c.lg, c.mv, c.fr] = [d, c.un, c.cs, c.rd, c.ef, c.lg, c.mv] ++ [c.fr] from rfl]
      exact List.mem_append_left _ this), fun x h => ?_, (fun n t w f h => by cases h)⟩
  · obtain ⟨_, _, i1, k1⟩ := sn s x o h
    obtain ⟨_, _, i2, k2⟩ := sn s' x o' h'
    have e := (List.getElem?_inj (by exact (List.getElem?_eq_some_iff.mp i1).1) nd7.1).mp (i1.trans i2.symm)
    cases s <;> cases s' <;> first | rfl | exact k1.elim | exact k2.elim | (exact absurd e (by decide))
  · have e : x = c.fr := p
    subst e
    exact ⟨⟨_, N.fr, by intro ps z; cases z⟩, nd7.2, fun z => (hL _ z).2 (by simp)⟩
  · rw [N.lgs] at h1; simp at h1
  · exact ⟨(fun n h => by cases h), (fun n h => by cases h), (fun n v h => by cases h), (fun n _ _ _ _ h => by cases h), (fun n h => by cases h), (fun n t h => by cases h), (fun n t h => by cases h), (fun n t w h => by cases h), (fun n _ => ⟨rfl, rfl⟩), (fun f h => by cases h), rfl, List.nodup_nil, List.nodup_nil, Nat.zero_le _, Nat.zero_le _, Nat.zero_le _, Nat.zero_le _, Nat.zero_le _, Nat.zero_le _, Nat.zero_le _, (fun n t ns h => by cases h)⟩
  · have h : x ∈ [d, c.un, c.cs, c.rd, c.ef, c.lg, c.mv] := h
    simp only [List.mem_cons, List.not_mem_nil, or_false] at h
    rcases h with rfl | rfl | rfl | rfl | rfl | rfl | rfl
    · exact ⟨_, N.ob, trivial⟩
    · exact ⟨_, N.un, trivial⟩
    · exact ⟨_, N.cs, trivial⟩
    · exact ⟨_, N.rd, trivial⟩
    · exact ⟨_, N.ef, trivial⟩
    · exact ⟨_, N.lg, trivial⟩
    · exact ⟨_, N.mv, trivial⟩
theorem use_eq {nm : Str} {s s' : SW ω Λ} {x : Unit} (h : useM nm s = some (.ok x, s')) : nm ∉ s.1.names ∧ s' = ({ s.1 with names := s.1.names ++ [nm] }, s.2) := by
  unfold useM at h
  cases e : placedM s with
  | none => rw [MM.bind_none e] at h; cases h
  | some p =>
    obtain ⟨r, s1⟩ := p
    cases r with
    | error er => rw [MM.bind_err e] at h; cases h
    | ok v =>
      rw [MM.bind_ok e] at h
      obtain rfl := placed_eq e
      dsimp only at h
      split at h
      · cases h
      · rename_i hn
        split at h
        · cases h; exact ⟨hn, rfl⟩
        · cases h
theorem kv_add {g : Gh} {ns : List Str} {n : Str} {x f nt : Addr} (h : n ∉ ns) : (ns ++ [n]).map (kvU (g.add n x f nt)) = ns.map (kvU g) ++ [(.inr n, .ref x)] := by
  rw [List.map_append]
  congr 1
  · exact List.map_congr_left fun m hm => kvU_add fun z => h (z ▸ hm)
  · show [((.inr n, .ref (gA (g.add n x f nt) n)) : Key × V)] = _
    rw [gA_add_at]
theorem kv_none {g : Gh} {ns : List Str} {n : Str} (h : n ∉ ns) : valV (ns.map (kvU g)) (.inr n) = none := valV_none_iff.mpr fun z => by
  rw [List.map_map] at z
  obtain ⟨m, hm, e⟩ := List.mem_map.mp z
  cases e
  exact h hm
theorem SOk.noth {g : Gh} {S : DS ω} (o : SOk g S) {n : Str} (h : n ∉ S.names) : S.th n = none ∧ n ∉ S.cells ∧ n ∉ S.rds := by
  have h0 : S.th n = none := by
    cases e : S.th n with
    | none => rfl
    | some t => exact absurd (o.nam n t e) h
  refine ⟨h0, fun z => ?_, fun z => ?_⟩
  · obtain ⟨v, e⟩ := o.cel n z; rw [h0] at e; cases e
  · obtain ⟨v, e, _⟩ := o.rdi n z; rw [h0] at e; cases e
def spCellU (a : Nat → Addr) (Y : LawP ω Λ) : Sp := fun vs H Q E => ∃ g st nm v, vs = [.ref g.d, .str nm, .int v] ∧ Wld a Y g st H ∧ Post a Y g H (fun _ s g' H' => Q (.ref (gA g' nm)) H') (ErQ a E) (cellM nm v st)
theorem ok_Desk_cell (T : Tu P K mg a fd tk) : FnOk P w K mg base (L2.CX P w) 5 (a 15) (fd 15) ["self", "name", "value"] (spCellU a Y) := by
  refine T.F_Desk_cell.okX sc_Desk_cell (fun vs H Q E h => ?_) (fun cdv A outer s H vs Q E hr h => ?_)
  · obtain ⟨g, st, nm, v, rfl, _⟩ := h
    rfl
  · obtain ⟨g, ⟨S, l⟩, nm, v, rfl, WD, kp⟩ := h
    refine ⟨_, (pss_cons (ps_expr (pe_meth (pv 0) T.cl_Desk T.m_Desk_use_name (ok_Desk_use_name T (Y := Y)) (hr.mono (by omega)) (b_Desk_use_name T) .nil (passes_call (takes_of rfl rfl rfl rfl) fun _ _ _ _ h => h) (pa_cons (pv 1) pa_nil)))
  (pss_cons (ps_asg (pe_make T.mk_Cell (ok_Cell___init__ T) (hr.mono (by omega)) (by rfl) T.g_Cell (b_Cell___init__ T) .nil pass0 (pa_cons (pv 0) (pa_cons (pv 1) (pa_cons (pv 2) pa_nil)))) (pg_name (i := 3) sc_Desk_cell.nd rfl (by first | exact Or.inl rfl | exact Or.inr rfl)))
  (pss_cons (ps_dput (hu_of hr) (pe_fldU K (pv 0)) (pv 1) (pv 3) rfl)
  (pss_cons (ps_dput (hu_of hr) (pe_fldU K (pv 0)) (pv 1) (pv 3) rfl)
  (pss_one (ps_ret (pv 3))))))), ?_⟩
    obtain ⟨c, Wc⟩ := id WD
    have hob := Wc.desk
    unfold cellM at kp
    walk_at "rd"
    refine ⟨g, (S, l), nm, rfl, WD, (Post.bindB kp Step.refl).impE (fun _ s1 g1 H1 eU WD1 t1 k1 => ?_) fun _ _ _ _ _ _ _ z => z⟩
    obtain ⟨hnm, rfl⟩ := use_eq eU
    have k1 : Post a Y g H (fun _ s g' H' => Q (.ref (gA g' nm)) H') (ErQ a E) (if S.cells.length < 200 ∧ S.rds.length < 200 then some (.ok (), ({ (({ S with names := S.names ++ [nm] } : DS ω).setTh nm (.cell v)) with cells := S.cells ++ [nm], rds := S.rds ++ [nm] }, l)) else none) := k1
    by_cases hl : S.cells.length < 200 ∧ S.rds.length < 200
    rotate_left
    · rw [if_neg hl] at k1; exact k1.elim
    rw [if_pos hl] at k1
    obtain ⟨h0, hc0, hr0⟩ := Wc.ok.noth hnm
    obtain ⟨c1, Wc1⟩ := id WD1
    have hd1 := t1.d
    walk_at "rd"
    intro x dx nx ndx hne
    refine ⟨x, dx, _, _, _, rfl, upd_same, ?_⟩
    refine ⟨rfl, ?_⟩
    rw [upd_upd]
    have s2 : Same H1 (upd (upd H1 dx (.own x)) x (.ins (a 2) dx (cellU g.d nm v))) := fun b o hb => by
      rw [upd_ne (by rintro rfl; rw [nx] at hb; cases hb), upd_ne (by rintro rfl; rw [ndx] at hb; cases hb)]; exact hb
    have hc2 : upd (upd H1 dx (.own x)) x (.ins (a 2) dx (cellU g.d nm v)) x = some (.ins (a 2) dx (cellU g.d nm v)) := upd_same
    have ep : ([("desk", .ref g.d), ("name", .str nm), ("now", .int v)] : List (Str × V)) = cellU g.d nm v := rfl
    rw [ep]
    generalize upd (upd H1 dx (.own x)) x (.ins (a 2) dx (cellU g.d nm v)) = H2 at s2 hc2 ⊢
    have W2 := Wc1.same s2
    have hob2 := W2.desk
    rw [hd1] at hob2
    have hcs2 : H2 c1.cs = some (.dK (S.cells.map (kvU g1))) := W2.cs
    have hrd2 : H2 c1.rd = some (.dK (S.rds.map (kvU g1))) := W2.rd
    walk_at "rd"
    refine s_dput ?_
    walk_at "rd"
    refine ⟨c1.cs, _, rfl, DPut.k (k := .inr nm) hcs2 (sz_lt (by rw [List.length_map]; omega)), ?_⟩
    rw [putK_new _ (kv_none hc0)]
    have crd : c1.cs ≠ c1.rd := fun z => by
      have := W2.inj .cs .rd c1.cs _ _ rfl (by rw [z]; rfl)
      cases this
    have hob3 : upd H2 c1.cs (.dK (S.cells.map (kvU g1) ++ [(.inr nm, .ref x)])) g.d = some (.ins (a 3) c1.dd (deskU c1 (S.ba : Nat))) := by rw [upd_ne (ne_of hob2 hcs2 (fun z => by cases z))]; exact hob2
    have hrd3 : upd H2 c1.cs (.dK (S.cells.map (kvU g1) ++ [(.inr nm, .ref x)])) c1.rd = some (.dK (S.rds.map (kvU g1))) := by rw [upd_ne crd.symm]; exact hrd2
    refine s_seq (s_dput ?_)
    walk_at "rd"
    refine ⟨c1.rd, _, rfl, DPut.k (k := .inr nm) hrd3 (sz_lt (by rw [List.length_map]; omega)), ?_⟩
    rw [putK_new _ (kv_none hr0)]
    have xcs : x ≠ c1.cs := ne_of hc2 hcs2 (fun z => by cases z)
    have xrd : x ≠ c1.rd := ne_of hc2 hrd2 (fun z => by cases z)
    walk_at "rd"
    have nxH : H1 x = none := nx
    obtain ⟨W5, d5⟩ := Wc1.newTh (H' := upd (upd H2 c1.cs (.dK (S.cells.map (kvU g1) ++ [(.inr nm, .ref x)]))) c1.rd (.dK (S.rds.map (kvU g1) ++ [(.inr nm, .ref x)]))) (n := nm) (t := .cell v) (x := x) (f := 0) (nt := x) (dx := dx) (cells' := S.cells ++ [nm]) (rds' := S.rds ++ [nm]) h0 (by simp) nxH nxH (fun z => absurd rfl z) (fun _ => rfl) (fun ns e => by cases e) (.inl ⟨⟨v, rfl⟩, rfl, hl.1⟩) (.inl ⟨fun _ _ _ _ e => (by cases e), rfl, hl.2⟩) (fun _ _ _ _ e => by cases e) (fun _ _ _ _ e => by cases e)
      (by
        rw [upd_ne xrd, upd_ne xcs]
        show H2 x = some (.ins (a 2) (if nm = nm then dx else _) (cellU g1.d nm v))
        rw [if_pos rfl, hd1]; exact hc2) (fun z => absurd rfl z) (by rw [upd_ne crd, upd_same, kv_add hc0]) (by rw [upd_same, kv_add hr0]) (fun y o e h1 h2 => by rw [upd_ne h2, upd_ne h1]; exact s2 _ _ e) (fun _ e => by cases e)
    have := k1.ok ⟨_, W5⟩ (t1.tr d5.toStep)
    rw [gA_add_at] at this
    exact this
theorem b_Desk_cell (T : Tu P K mg a fd tk) : Binds K (fd 15) ["self", "name", "value"] [] := T.F_Desk_cell.binds fun _ _ _ _ _ _ us hl => match us, hl with | [_, _, _], _ => rfl
end
end
end Tr
set_option maxHeartbeats 4000000

namespace Tr
open PySem L2 OXB
section
variable {P : Program} {w : World} {K : PySem.W.Frag} {mg : Str → Option Value} {base : Heap} {a : Nat → Addr} {fd : Nat → FuncData} {tk : Nat → Tok}
local macro_rules | `(tactic| walk_at "ne") => `(tactic| first | assumption | (exact Ne.symm (by assumption)) | (refine ne_of_none (by assumption) (by assumption)) | (refine Ne.symm (ne_of_none (by assumption) (by assumption))))
local macro_rules | `(tactic| walk_at "hl") => `(tactic| first | assumption | with_reducible exact upd_same | ((with_reducible refine' Eq.trans (upd_ne ?hne) ?hrest); (case hne => walk_at "ne"); (case hrest => walk_at "hl")) | (refine' get_same ?hs ?hg; (case hs => assumption); (case hg => assumption)))
local macro_rules | `(tactic| walk_at "at") => `(tactic| first | with_reducible exact atI_0 _ _ | with_reducible exact atI_1 _ _ _ | with_reducible exact atI_2 _ _ _ _ | with_reducible exact atI_3 _ _ _ _ _ | assumption)
local macro_rules | `(tactic| walk_at "rd1") => `(tactic| first
  | with_reducible refine s_seq ?_ | with_reducible refine s_next ?_ | with_reducible refine s_if ?_ | with_reducible refine s_ret ?_ | with_reducible refine s_retN ?_ | with_reducible refine s_drop ?_ | with_reducible refine s_asg ?_ | with_reducible refine s_brk ?_ | with_reducible refine s_cont ?_
  | with_reducible refine s_gname ?_ | with_reducible refine s_c ?_ | with_reducible refine s_op ?_ | with_reducible refine s_un ?_ | with_reducible refine s_neg ?_ | with_reducible refine s_test ?_ | with_reducible refine s_tb ?_ | with_reducible refine s_not ?_ | with_reducible refine s_and ?_ | with_reducible refine s_or ?_ | with_reducible refine s_yes ?_
  | ((with_reducible refine' s_var ?hv ?_); (case hv => exact rfl))
  | with_reducible refine s_ifx ?_ | with_reducible refine s_andV ?_ | with_reducible refine s_orV ?_ | with_reducible refine s_notV ?_ | with_reducible refine s_chain ?_ | with_reducible refine s_nil ?_ | with_reducible refine s_cons ?_ | with_reducible refine s_lst ?_ | with_reducible refine s_tup ?_ | with_reducible refine s_cb ?_ | with_reducible refine s_call ?_ | with_reducible refine s_meth ?_ | with_reducible refine s_make ?_
  | with_reducible refine s_dnewK ?_ | with_reducible refine s_sl ?_ | with_reducible refine s_po0 ?_ | with_reducible refine s_po1 ?_ | with_reducible refine s_bm ?_ | with_reducible refine s_bm0 ?_
  | with_reducible refine s_bl ?_ | with_reducible refine s_int ?_ | with_reducible refine s_I0 ?_ | with_reducible refine s_addI ?_ | with_reducible refine s_intI ?_ | with_reducible refine s_intB ?_
  | with_reducible refine s_m1 ?_ | with_reducible refine s_lc ?_ | with_reducible refine s_ilist ?_ | with_reducible refine s_for ?_ | with_reducible refine s_irng ?_ | with_reducible refine s_match ?_ | with_reducible refine s_starT ?_ | with_reducible refine s_isS ?_ | with_reducible refine s_isiSS ?_ | with_reducible refine s_fldU ?_ | with_reducible refine s_sfldU ?_
  | ((with_reducible refine' s_eqS ?hq ?_); (case hq => exact rfl)) | ((with_reducible refine' s_neS ?hq ?_); (case hq => exact rfl))
  | ((with_reducible refine' s_isN ?hq ?_); (case hq => exact rfl)) | ((with_reducible refine' s_notN ?hq ?_); (case hq => exact rfl))
  | ((with_reducible refine' s_eqNil ?h1 ?h2 ?_); (case h1 => walk_at "hl"); (case h2 => walk_at "hl")) | ((with_reducible refine' s_neNil ?h1 ?h2 ?_); (case h1 => walk_at "hl"); (case h2 => walk_at "hl"))
  | ((with_reducible refine' s_ixL ?h1 ?h2 ?_); (case h1 => walk_at "hl"); (case h2 => walk_at "at")) | ((with_reducible refine' s_ixT ?h1 ?h2 ?_); (case h1 => walk_at "hl"); (case h2 => walk_at "at"))
  | ((with_reducible refine' s_inS ?h1 ?_); (case h1 => walk_at "hl")) | ((with_reducible refine' s_ninS ?h1 ?_); (case h1 => walk_at "hl")) | with_reducible refine s_inW ?_
  | ((with_reducible refine' s_lenL ?h1 ?_); (case h1 => walk_at "hl")) | ((with_reducible refine' s_lenT ?h1 ?_); (case h1 => walk_at "hl"))
  | ((with_reducible refine' s_tyL ?h1 ?_); (case h1 => walk_at "hl"))
  | ((with_reducible refine' s_fldM ?h1 ?h2 ?h3 ?_); (case h1 => walk_at "hl"); (case h2 => walk_at "fok"); (case h3 => walk_at "flk"))
  | ((with_reducible refine' s_setM ?h1 ?h2 ?h3 ?h4 ?_); (case h1 => walk_at "hl"); (case h2 => walk_at "fok"); (case h4 => walk_at "put"); (case h3 => exact Nat.le_of_ble_eq_true rfl))
  | ((with_reducible refine' s_starM ?h1 ?_); (case h1 => walk_at "hl"))
  | ((with_reducible refine' s_recv ?h1 ?h2 ?_); (case h1 => walk_at "hl"); (case h2 => exact rfl))
  | ((with_reducible refine' s_sz ?h1 ?_); (case h1 => (simp; done))))
local macro_rules | `(tactic| walk_at "rd") => `(tactic| repeat (walk_at "rd1"))
local macro_rules | `(tactic| walk_at "fok") => `(tactic| assumption)
local macro_rules | `(tactic| walk_at "flk") => `(tactic| rfl)
local macro_rules | `(tactic| walk_at "put") => `(tactic| exact rfl)

local macro_rules | `(tactic| walk_at "fok") => `(tactic| first | assumption | exact Tu.ce (by assumption) (by decide) | exact Tu.de (by assumption) (by decide) | exact Tu.ke (by assumption) (by decide) | exact Tu.fe (by assumption) (by decide) | exact Tu.ee (by assumption) (by decide))
section
variable {ω Λ : Type} {Y : LawP ω Λ}
theorem setTh_cr {S : DS ω} {n : Str} {t : Th ω} : ({ (S.setTh n t) with cells := S.cells, rds := S.rds } : DS ω) = S.setTh n t := rfl
def spKeptU (a : Nat → Addr) (Y : LawP ω Λ) : Sp := fun vs H Q E => ∃ g st nm f wi, vs = [.ref g.d, .str nm, .ref f] ∧ Wld a Y g st H ∧ Y.CL wi f g H ∧ Post a Y g H (fun _ s g' H' => Q (.ref (gA g' nm)) H') (ErQ a E) (keptM nm wi st)
theorem ok_Desk_kept (T : Tu P K mg a fd tk) : FnOk P w K mg base (L2.CX P w) 5 (a 51) (fd 51) ["self", "name", "work"] (spKeptU a Y) := by
  refine T.F_Desk_kept.okX sc_Desk_kept (fun vs H Q E h => ?_) (fun cdv A outer s H vs Q E hr h => ?_)
  · obtain ⟨g, st, nm, f, wi, rfl, _⟩ := h
    rfl
  · obtain ⟨g, ⟨S, l⟩, nm, f, wi, rfl, WD, cl, kp⟩ := h
    refine ⟨_, (pss_cons (ps_expr (pe_meth (pv 0) T.cl_Desk T.m_Desk_use_name (ok_Desk_use_name T (Y := Y)) (hr.mono (by omega)) (b_Desk_use_name T) .nil (passes_call (takes_of rfl rfl rfl rfl) fun _ _ _ _ h => h) (pa_cons (pv 1) pa_nil)))
  (pss_cons (ps_asg (pe_make T.mk_Kept (ok_Kept___init__ T) (hr.mono (by omega)) (by rfl) T.g_Kept (b_Kept___init__ T) .nil pass0 (pa_cons (pv 0) (pa_cons (pv 1) (pa_cons (pv 2) pa_nil)))) (pg_name (i := 3) sc_Desk_kept.nd rfl (by first | exact Or.inl rfl | exact Or.inr rfl)))
  (pss_cons (ps_dput (hu_of hr) (pe_fldU K (pv 0)) (pv 1) (pv 3) rfl)
  (pss_one (ps_ret (pv 3)))))), ?_⟩
    obtain ⟨c, Wc⟩ := id WD
    have hob := Wc.desk
    unfold keptM at kp
    walk_at "rd"
    refine ⟨g, (S, l), nm, rfl, WD, (Post.bindB kp Step.refl).impE (fun _ s1 g1 H1 eU WD1 t1 k1 => ?_) fun _ _ _ _ _ _ _ z => z⟩
    obtain ⟨hnm, rfl⟩ := use_eq eU
    have k1 : Post a Y g H (fun _ s g' H' => Q (.ref (gA g' nm)) H') (ErQ a E) (if S.rds.length < 200 then some (.ok (), ({ (({ S with names := S.names ++ [nm] } : DS ω).setTh nm (.kept wi [] 0 none)) with rds := S.rds ++ [nm] }, l)) else none) := k1
    by_cases hl : S.rds.length < 200
    rotate_left
    · rw [if_neg hl] at k1; exact k1.elim
    rw [if_pos hl] at k1
    obtain ⟨h0, hc0, hr0⟩ := Wc.ok.noth hnm
    obtain ⟨c1, Wc1⟩ := id WD1
    have hd1 := t1.d
    have cl1 := Y.cl_st cl (Wc.ws t1)
    walk_at "rd"
    intro x dx nx ndx hne
    refine ⟨x, dx, _, _, _, rfl, upd_same, fun nt nnt ntx => ⟨rfl, ?_⟩⟩
    rw [upd_ne ntx] at nnt
    have ntdx : nt ≠ dx := by rintro rfl; rw [upd_same] at nnt; cases nnt
    rw [upd_ne ntdx] at nnt
    rw [upd3 ntx]
    have s2 : Same H1 (upd (upd (upd H1 dx (.own x)) nt (.dK [])) x (.ins (a 40) dx (keptU g.d nm f nt 0 .non false))) := fun b o hb => by
      rw [upd_ne (by rintro rfl; rw [nx] at hb; cases hb), upd_ne (by rintro rfl; rw [nnt] at hb; cases hb), upd_ne (by rintro rfl; rw [ndx] at hb; cases hb)]; exact hb
    have hc2 : upd (upd (upd H1 dx (.own x)) nt (.dK [])) x (.ins (a 40) dx (keptU g.d nm f nt 0 .non false)) x = some (.ins (a 40) dx (keptU g.d nm f nt 0 .non false)) := upd_same
    have hn2 : upd (upd (upd H1 dx (.own x)) nt (.dK [])) x (.ins (a 40) dx (keptU g.d nm f nt 0 .non false)) nt = some (.dK []) := by rw [upd_ne ntx]; exact upd_same
    have ep : ([("desk", .ref g.d), ("name", .str nm), ("work", .ref f), ("noted", .ref nt), ("runs", .int 0), ("kept_worth", .non), ("has_worth", .bl false)] : List (Str × V)) = keptU g.d nm f nt 0 .non false := rfl
    rw [ep]
    generalize upd (upd (upd H1 dx (.own x)) nt (.dK [])) x (.ins (a 40) dx (keptU g.d nm f nt 0 .non false)) = H2 at s2 hc2 hn2 ⊢
    have W2 := Wc1.same s2
    have hob2 := W2.desk
    rw [hd1] at hob2
    have hrd2 : H2 c1.rd = some (.dK (S.rds.map (kvU g1))) := W2.rd
    have hcs2 : H2 c1.cs = some (.dK (S.cells.map (kvU g1))) := W2.cs
    walk_at "rd"
    refine s_dput ?_
    walk_at "rd"
    refine ⟨c1.rd, _, rfl, DPut.k (k := .inr nm) hrd2 (sz_lt (by rw [List.length_map]; omega)), ?_⟩
    rw [putK_new _ (kv_none hr0)]
    have crd : c1.cs ≠ c1.rd := fun z => by
      have := W2.inj .cs .rd c1.cs _ _ rfl (by rw [z]; rfl)
      cases this
    have xrd : x ≠ c1.rd := ne_of hc2 hrd2 (fun z => by cases z)
    have nrd : nt ≠ c1.rd := fun z => by have := W2.freeS (x := nt) ; rw [z] at nnt; rw [Wc1.rd] at nnt; cases nnt
    walk_at "rd"
    obtain ⟨W5, d5⟩ := Wc1.newTh (H' := upd H2 c1.rd (.dK (S.rds.map (kvU g1) ++ [(.inr nm, .ref x)]))) (n := nm) (t := .kept wi [] 0 none) (x := x) (f := f) (nt := nt) (dx := dx) (cells' := S.cells) (rds' := S.rds ++ [nm]) h0 (by simp) nx nnt (fun _ => ntx) (fun z => by cases z) (fun ns e => by cases e; rfl) (.inr ⟨fun _ e => (by cases e), rfl⟩) (.inl ⟨fun _ _ _ _ e => (by cases e), rfl, hl⟩) (fun _ _ _ _ e => by cases e; rfl) (fun _ _ _ _ e => by cases e)
      (by
        rw [upd_ne xrd]
        show H2 x = some (.ins (a 40) (if nm = nm then dx else _) (keptU g1.d nm (wA (g1.add nm x f nt) nm) (if nm = nm then nt else _) (0 : Nat) (if nm = nm then V.non else _) false))
        rw [if_pos rfl, if_pos rfl, if_pos rfl, hd1, wA_add_at]; exact hc2) (fun _ => by rw [upd_ne nrd]; exact hn2)
      (by
        rw [upd_ne crd, hcs2]
        congr 2
        exact List.map_congr_left fun m hm => (kvU_add fun z => hc0 (by rw [← z]; exact hm)).symm) (by rw [upd_same, kv_add hr0]) (fun y o e h1 h2 => by rw [upd_ne h2]; exact s2 _ _ e) (fun _ e => by cases e; exact cl1)
    have := k1.ok ⟨_, W5⟩ (t1.tr d5.toStep)
    rw [gA_add_at] at this
    exact this
theorem b_Desk_kept (T : Tu P K mg a fd tk) : Binds K (fd 51) ["self", "name", "work"] [] := T.F_Desk_kept.binds fun _ _ _ _ _ _ us hl => match us, hl with | [_, _, _], _ => rfl
theorem MM.bind_inv {α β : Type} {m : MM ω Λ α} {f : α → MM ω Λ β} {s s' : SW ω Λ} {v : β} (h : MM.bind m f s = some (.ok v, s')) : ∃ u s1, m s = some (.ok u, s1) ∧ f u s1 = some (.ok v, s') := by
  unfold MM.bind at h
  split at h
  · cases h
  · cases h
  · rename_i u s1 e; exact ⟨u, s1, e, h⟩
theorem onceM_eff {wk : ω → MM ω Λ Dt} {nm : Str} {s s' : SW ω Λ} {d : Dt} (h : onceM wk nm s = some (.ok d, s')) : ∃ w ns n r, s'.1.th nm = some (.eff w ns n r) := by
  unfold onceM at h
  split at h
  · obtain ⟨u, s1, _, h2⟩ := MM.bind_inv h
    dsimp only at h2
    split at h2
    · split at h2
      · cases h2; exact ⟨_, _, _, _, setTh_at⟩
      · cases h2
    · cases h2
  · cases h
section
variable {k : Nat} {wk : ω → MM ω Λ Dt} {wo : Str → MM ω Λ Dt}
def spEffU (a : Nat → Addr) (Y : LawP ω Λ) (wk : ω → MM ω Λ Dt) (wo : Str → MM ω Λ Dt) : Sp := fun vs H Q E => ∃ g st nm f wi, vs = [.ref g.d, .str nm, .ref f] ∧ Wld a Y g st H ∧ Y.CL wi f g H ∧ Post a Y g H (fun _ s g' H' => Q (.ref (gA g' nm)) H') (ErQ a E) (effM wk wo nm wi st)
theorem ok_Desk_effect (T : Tu P K mg a fd tk) (W : WOkX P w K mg base k (wspU a Y wk)) (FW : FnOk P w K mg base (L2.CX P w) k (a 45) (fd 45) ["self"] (spWorthU a Y wo)) (hwo : WoC wo) : FnOk P w K mg base (L2.CX P w) (k + 6) (a 64) (fd 64) ["self", "name", "work"] (spEffU a Y wk wo) := by
  refine T.F_Desk_effect.okX sc_Desk_effect (fun vs H Q E h => ?_) (fun cdv A outer s H vs Q E hr h => ?_)
  · obtain ⟨g, st, nm, f, wi, rfl, _⟩ := h
    rfl
  · obtain ⟨g, ⟨S, l⟩, nm, f, wi, rfl, WD, cl, kp⟩ := h
    refine ⟨_, (pss_cons (ps_expr (pe_meth (pv 0) T.cl_Desk T.m_Desk_use_name (ok_Desk_use_name T (Y := Y)) (hr.mono (by omega)) (b_Desk_use_name T) .nil (passes_call (takes_of rfl rfl rfl rfl) fun _ _ _ _ h => h) (pa_cons (pv 1) pa_nil)))
  (pss_cons (ps_asg (pe_make T.mk_Effect (ok_Effect___init__ T) (hr.mono (by omega)) (by rfl) T.g_Effect (b_Effect___init__ T) .nil pass0 (pa_cons (pv 0) (pa_cons (pv 1) (pa_cons (pv 2) pa_nil)))) (pg_name (i := 3) sc_Desk_effect.nd rfl (by first | exact Or.inl rfl | exact Or.inr rfl)))
  (pss_cons (ps_expr (pe_meth0 (pv 3) T.cl_Effect T.m_Effect_run_once (ok_Effect_run_once T W) (hr.mono (by omega)) (b_Effect_run_once T) .nil (passes_call (takes_of rfl rfl rfl rfl) fun _ _ _ _ h => h)))
  (pss_cons (ps_expr (pe_bm PySem.F.plainAttrs_list PySem.F.slot_list_append PySem.F.type_list_append uAppend (pe_fldU K (pv 0)) (pa_cons (pv 3) pa_nil)))
  (pss_cons (ps_expr (pe_meth0 (pv 0) T.cl_Desk T.m_Desk_settle (ok_Desk_settle T W FW hwo) (hr.mono (by omega)) (b_Desk_settle T) .nil (passes_call (takes_of rfl rfl rfl rfl) fun _ _ _ _ h => h)))
  (pss_one (ps_ret (pv 3)))))))), ?_⟩
    obtain ⟨c, Wc⟩ := id WD
    have hob := Wc.desk
    unfold effM at kp
    walk_at "rd"
    refine ⟨g, (S, l), nm, rfl, WD, (Post.bindB kp Step.refl).impE (fun _ s1 g1 H1 eU WD1 t1 k1 => ?_) fun _ _ _ _ _ _ _ z => z⟩
    obtain ⟨hnm, rfl⟩ := use_eq eU
    have k1 : Post a Y g H (fun _ s g' H' => Q (.ref (gA g' nm)) H') (ErQ a E) (MM.bind (onceM wk nm) (fun _ s2 => if s2.1.efs.length < 200 then settleM wk wo ({ s2.1 with efs := s2.1.efs ++ [nm] }, s2.2) else none) ((({ S with names := S.names ++ [nm] } : DS ω).setTh nm (.eff wi [] 0 .none)), l)) := k1
    obtain ⟨h0, hc0, hr0⟩ := Wc.ok.noth hnm
    obtain ⟨c1, Wc1⟩ := id WD1
    have hd1 := t1.d
    have cl1 := Y.cl_st cl (Wc.ws t1)
    walk_at "rd"
    intro x dx nx ndx hne
    refine ⟨x, dx, _, _, _, rfl, upd_same, fun nt nnt ntx => ⟨rfl, ?_⟩⟩
    rw [upd_ne ntx] at nnt
    have ntdx : nt ≠ dx := by rintro rfl; rw [upd_same] at nnt; cases nnt
    rw [upd_ne ntdx] at nnt
    rw [upd3 ntx]
    have s2 : Same H1 (upd (upd (upd H1 dx (.own x)) nt (.dK [])) x (.ins (a 60) dx (effU g.d nm f nt 0 .non))) := fun b o hb => by
      rw [upd_ne (by rintro rfl; rw [nx] at hb; cases hb), upd_ne (by rintro rfl; rw [nnt] at hb; cases hb), upd_ne (by rintro rfl; rw [ndx] at hb; cases hb)]; exact hb
    have hc2 : upd (upd (upd H1 dx (.own x)) nt (.dK [])) x (.ins (a 60) dx (effU g.d nm f nt 0 .non)) x = some (.ins (a 60) dx (effU g.d nm f nt 0 .non)) := upd_same
    have hn2 : upd (upd (upd H1 dx (.own x)) nt (.dK [])) x (.ins (a 60) dx (effU g.d nm f nt 0 .non)) nt = some (.dK []) := by rw [upd_ne ntx]; exact upd_same
    have ep : ([("desk", .ref g.d), ("name", .str nm), ("work", .ref f), ("noted", .ref nt), ("runs", .int 0), ("report", .non)] : List (Str × V)) = effU g.d nm f nt 0 .non := rfl
    rw [ep]
    generalize upd (upd (upd H1 dx (.own x)) nt (.dK [])) x (.ins (a 60) dx (effU g.d nm f nt 0 .non)) = H2 at s2 hc2 hn2 ⊢
    have W2 := Wc1.same s2
    have hob2 := W2.desk
    rw [hd1] at hob2
    have hrd2 : H2 c1.rd = some (.dK (S.rds.map (kvU g1))) := W2.rd
    have hcs2 : H2 c1.cs = some (.dK (S.cells.map (kvU g1))) := W2.cs
    obtain ⟨W5, d5⟩ := Wc1.newTh (H' := H2) (n := nm) (t := .eff wi [] 0 .none) (x := x) (f := f) (nt := nt) (dx := dx) (cells' := S.cells) (rds' := S.rds) h0 (by simp) nx nnt (fun _ => ntx) (fun z => by cases z) (fun ns e => by cases e; rfl) (.inr ⟨fun _ e => (by cases e), rfl⟩) (.inr ⟨⟨_, _, _, _, rfl⟩, rfl⟩) (fun _ _ _ _ e => by cases e) (fun _ _ _ _ e => by cases e; rfl)
      (by
        show H2 x = some (.ins (a 60) (if nm = nm then dx else _) (effU g1.d nm (wA (g1.add nm x f nt) nm) (if nm = nm then nt else _) (0 : Nat) (if nm = nm then V.non else _)))
        rw [if_pos rfl, if_pos rfl, if_pos rfl, hd1, wA_add_at]; exact hc2) (fun _ => hn2)
      (by
        rw [hcs2]
        congr 2
        exact List.map_congr_left fun m hm => (kvU_add fun z => hc0 (by rw [← z]; exact hm)).symm)
      (by
        rw [hrd2]
        congr 2
        exact List.map_congr_left fun m hm => (kvU_add fun z => hr0 (by rw [← z]; exact hm)).symm) (fun y o e h1 h2 => s2 _ _ e) (fun _ e => by cases e; exact cl1)
    have gAx : gA (g1.add nm x f nt) nm = x := gA_add_at
    have ax : (g1.add nm x f nt).adr nm = some x := if_pos rfl
    have t15 := t1.tr d5.toStep
    walk_at "rd"
    refine ⟨g1.add nm x f nt, _, nm, by rw [gAx], ⟨_, W5⟩, (Post.bindB k1 t15).impE (fun d s3 g3 H3 eO WD3 t3 k3 => ?_) fun _ _ _ _ _ _ _ z => z⟩
    obtain ⟨S3, l3⟩ := s3
    intro u hu
    obtain ⟨c3, Wc3⟩ := id WD3
    have t13 := t15.tr t3
    have gA3 : gA g3 nm = x := gA_at (t3.adr _ _ ax)
    have k3 : Post a Y g H (fun _ s g' H' => Q (.ref (gA g' nm)) H') (ErQ a E) (if S3.efs.length < 200 then settleM wk wo ({ S3 with efs := S3.efs ++ [nm] }, l3) else none) := k3
    by_cases hl : S3.efs.length < 200
    rotate_left
    · rw [if_neg hl] at k3; exact k3.elim
    rw [if_pos hl] at k3
    have e3 : ∃ w ns n r, S3.th nm = some (.eff w ns n r) := onceM_eff eO
    have hob3 := Wc3.desk
    have hef3 := Wc3.ef
    rw [t13.d] at hob3
    have b4 : S3.efs.length ≤ 200 := Wc3.ok.b4
    walk_at "rd"
    refine s_app hef3 (sz_lt (by rw [List.length_map]; omega)) ?_
    have em : (S3.efs.map fun n => V.ref (gA g3 n)) ++ [.ref x] = (S3.efs ++ [nm]).map fun n => V.ref (gA g3 n) := by rw [List.map_append]; show _ = _ ++ [V.ref (gA g3 nm)]; rw [gA3]
    rw [em]
    have W4 := Wc3.effs hl e3
    have st4 : Step g3 H3 g3 (upd H3 c3.ef (.lst ((S3.efs ++ [nm]).map fun n => V.ref (gA g3 n)))) := (DStep.upd (Wc3.inT .ef _ _ rfl)).toStep
    generalize upd H3 c3.ef (.lst ((S3.efs ++ [nm]).map fun n => V.ref (gA g3 n))) = H4 at W4 st4 ⊢
    have hob4 := W4.desk
    rw [t13.d] at hob4
    walk_at "rd"
    refine ⟨g3, _, by rw [t13.d], ⟨_, W4⟩, (k3.from (t13.tr st4)).imp (fun _ s5 g5 H5 WD5 t5 k5 => ?_) fun _ _ _ _ _ _ z => z⟩
    walk_at "rd"
    have gA5 : gA g5 nm = x := gA_at (t5.adr _ _ (t3.adr _ _ ax))
    rw [gA5] at k5
    exact k5
theorem b_Desk_effect (T : Tu P K mg a fd tk) : Binds K (fd 64) ["self", "name", "work"] [] := T.F_Desk_effect.binds fun _ _ _ _ _ _ us hl => match us, hl with | [_, _, _], _ => rfl
end
end
end
end Tr
set_option maxHeartbeats 4000000

namespace Tr
open PySem L2 OXB
section
variable {P : Program} {w : World} {K : PySem.W.Frag} {mg : Str → Option Value} {base : Heap} {a : Nat → Addr} {fd : Nat → FuncData} {tk : Nat → Tok}
local macro_rules | `(tactic| walk_at "ne") => `(tactic| first | assumption | (exact Ne.symm (by assumption)) | (refine ne_of_none (by assumption) (by assumption)) | (refine Ne.symm (ne_of_none (by assumption) (by assumption))))
local macro_rules | `(tactic| walk_at "hl") => `(tactic| first | assumption | with_reducible exact upd_same | ((with_reducible refine' Eq.trans (upd_ne ?hne) ?hrest); (case hne => walk_at "ne"); (case hrest => walk_at "hl")) | (refine' get_same ?hs ?hg; (case hs => assumption); (case hg => assumption)))
local macro_rules | `(tactic| walk_at "at") => `(tactic| first | with_reducible exact atI_0 _ _ | with_reducible exact atI_1 _ _ _ | with_reducible exact atI_2 _ _ _ _ | with_reducible exact atI_3 _ _ _ _ _ | assumption)
local macro_rules | `(tactic| walk_at "rd1") => `(tactic| first
  | with_reducible refine s_seq ?_ | with_reducible refine s_next ?_ | with_reducible refine s_if ?_ | with_reducible refine s_ret ?_ | with_reducible refine s_retN ?_ | with_reducible refine s_drop ?_ | with_reducible refine s_asg ?_ | with_reducible refine s_brk ?_ | with_reducible refine s_cont ?_
  | with_reducible refine s_gname ?_ | with_reducible refine s_c ?_ | with_reducible refine s_op ?_ | with_reducible refine s_un ?_ | with_reducible refine s_neg ?_ | with_reducible refine s_test ?_ | with_reducible refine s_tb ?_ | with_reducible refine s_not ?_ | with_reducible refine s_and ?_ | with_reducible refine s_or ?_ | with_reducible refine s_yes ?_
  | ((with_reducible refine' s_var ?hv ?_); (case hv => exact rfl))
  | with_reducible refine s_ifx ?_ | with_reducible refine s_andV ?_ | with_reducible refine s_orV ?_ | with_reducible refine s_notV ?_ | with_reducible refine s_chain ?_ | with_reducible refine s_nil ?_ | with_reducible refine s_cons ?_ | with_reducible refine s_lst ?_ | with_reducible refine s_tup ?_ | with_reducible refine s_cb ?_ | with_reducible refine s_call ?_ | with_reducible refine s_meth ?_ | with_reducible refine s_make ?_
  | with_reducible refine s_dnewK ?_ | with_reducible refine s_sl ?_ | with_reducible refine s_po0 ?_ | with_reducible refine s_po1 ?_ | with_reducible refine s_bm ?_ | with_reducible refine s_bm0 ?_
  | with_reducible refine s_bl ?_ | with_reducible refine s_int ?_ | with_reducible refine s_I0 ?_ | with_reducible refine s_addI ?_ | with_reducible refine s_intI ?_ | with_reducible refine s_intB ?_
  | with_reducible refine s_m1 ?_ | with_reducible refine s_lc ?_ | with_reducible refine s_ilist ?_ | with_reducible refine s_for ?_ | with_reducible refine s_irng ?_ | with_reducible refine s_match ?_ | with_reducible refine s_starT ?_ | with_reducible refine s_isS ?_ | with_reducible refine s_isiSS ?_ | with_reducible refine s_fldU ?_ | with_reducible refine s_sfldU ?_
  | ((with_reducible refine' s_eqS ?hq ?_); (case hq => exact rfl)) | ((with_reducible refine' s_neS ?hq ?_); (case hq => exact rfl))
  | ((with_reducible refine' s_isN ?hq ?_); (case hq => exact rfl)) | ((with_reducible refine' s_notN ?hq ?_); (case hq => exact rfl))
  | ((with_reducible refine' s_eqNil ?h1 ?h2 ?_); (case h1 => walk_at "hl"); (case h2 => walk_at "hl")) | ((with_reducible refine' s_neNil ?h1 ?h2 ?_); (case h1 => walk_at "hl"); (case h2 => walk_at "hl"))
  | ((with_reducible refine' s_ixL ?h1 ?h2 ?_); (case h1 => walk_at "hl"); (case h2 => walk_at "at")) | ((with_reducible refine' s_ixT ?h1 ?h2 ?_); (case h1 => walk_at "hl"); (case h2 => walk_at "at"))
  | ((with_reducible refine' s_inS ?h1 ?_); (case h1 => walk_at "hl")) | ((with_reducible refine' s_ninS ?h1 ?_); (case h1 => walk_at "hl")) | with_reducible refine s_inW ?_
  | ((with_reducible refine' s_lenL ?h1 ?_); (case h1 => walk_at "hl")) | ((with_reducible refine' s_lenT ?h1 ?_); (case h1 => walk_at "hl"))
  | ((with_reducible refine' s_tyL ?h1 ?_); (case h1 => walk_at "hl"))
  | ((with_reducible refine' s_fldM ?h1 ?h2 ?h3 ?_); (case h1 => walk_at "hl"); (case h2 => walk_at "fok"); (case h3 => walk_at "flk"))
  | ((with_reducible refine' s_setM ?h1 ?h2 ?h3 ?h4 ?_); (case h1 => walk_at "hl"); (case h2 => walk_at "fok"); (case h4 => walk_at "put"); (case h3 => exact Nat.le_of_ble_eq_true rfl))
  | ((with_reducible refine' s_starM ?h1 ?_); (case h1 => walk_at "hl"))
  | ((with_reducible refine' s_recv ?h1 ?h2 ?_); (case h1 => walk_at "hl"); (case h2 => exact rfl))
  | ((with_reducible refine' s_sz ?h1 ?_); (case h1 => (simp; done))))
local macro_rules | `(tactic| walk_at "rd") => `(tactic| repeat (walk_at "rd1"))
local macro_rules | `(tactic| walk_at "fok") => `(tactic| assumption)
local macro_rules | `(tactic| walk_at "flk") => `(tactic| rfl)
local macro_rules | `(tactic| walk_at "put") => `(tactic| exact rfl)

local macro_rules | `(tactic| walk_at "fok") => `(tactic| first | assumption | exact Tu.ce (by assumption) (by decide) | exact Tu.de (by assumption) (by decide) | exact Tu.ke (by assumption) (by decide) | exact Tu.fe (by assumption) (by decide) | exact Tu.ee (by assumption) (by decide))
section
variable {ω Λ : Type} {Y : LawP ω Λ}
theorem bt_iter : bootBuiltins "iter" = some (.builtin "iter") := by decide +kernel
def spLenU (a : Nat → Addr) (Y : LawP ω Λ) : Sp := fun vs H Q _ => ∃ g st, vs = [.ref g.d] ∧ Wld a Y g st H ∧ Q (.int (st.1.log.length : Nat)) H
theorem ok_Desk___len__ (T : Tu P K mg a fd tk) : FnOk P w K mg base CX0 1 (a 21) (fd 21) ["self"] (spLenU a Y) := by
  refine T.F_Desk___len__.ok sc_Desk___len__ (fun vs H Q E h => ?_) (fun cdv A outer s H vs Q E hr h => ?_)
  · obtain ⟨g, st, rfl, _⟩ := h
    rfl
  · obtain ⟨g, ⟨S, l⟩, rfl, ⟨c, W⟩, k⟩ := h
    refine ⟨_, (pss_one (ps_ret (pe_callB uLen (by rfl) T.b_len bt_len (pa_cons (pe_fldU K (pv 0)) pa_nil)))), ?_⟩
    have hob := W.desk
    have hlg := W.lg
    have e : c.lgs.length = S.log.length := W.vr.log.1
    have b5 : S.log.length ≤ 9000 := W.ok.b5
    walk_at "rd"
    rw [e]
    exact k
theorem b_Desk___len__ (T : Tu P K mg a fd tk) : Binds K (fd 21) ["self"] [] := T.F_Desk___len__.binds fun _ _ _ _ _ _ us hl => match us, hl with | [_], _ => rfl
def spIterU (a : Nat → Addr) (Y : LawP ω Λ) : Sp := fun vs H Q _ => ∃ g st c, vs = [.ref g.d] ∧ Wc a Y g st c H ∧ ∀ it, H it = none → Q (.ref it) (upd H it (ItO c.lg it 0))
theorem ok_Desk___iter__ (T : Tu P K mg a fd tk) : FnOk P w K mg base CX0 1 (a 20) (fd 20) ["self"] (spIterU a Y) := by
  refine T.F_Desk___iter__.ok sc_Desk___iter__ (fun vs H Q E h => ?_) (fun cdv A outer s H vs Q E hr h => ?_)
  · obtain ⟨g, st, c, rfl, _⟩ := h
    rfl
  · obtain ⟨g, ⟨S, l⟩, c, rfl, W, k⟩ := h
    refine ⟨_, (pss_one (ps_ret (pe_callB call_iterL (by rfl) T.b_iter bt_iter (pa_cons (pe_fldU K (pv 0)) pa_nil)))), ?_⟩
    have hob := W.desk
    have hlg := W.lg
    walk_at "rd"
    exact ⟨c.lg, c.lgs, rfl, SqL.of hlg, k⟩
theorem b_Desk___iter__ (T : Tu P K mg a fd tk) : Binds K (fd 20) ["self"] [] := T.F_Desk___iter__.binds fun _ _ _ _ _ _ us hl => match us, hl with | [_], _ => rfl
/-- list(desk) -/
theorem s_listDesk {g : Gh} {st : SW ω Λ} {H : Hp} {Q : VK} (W : Wld a Y g st H) (k : ∀ c q H', Wc a Y g st c H → H q = none → Same H H' → H' q = some (.lst c.lgs) → Q (.ref q) H') : rListIt (a 3) (spIterU a Y) (spLenU a Y) [.ref g.d] H Q := by
  obtain ⟨c, W⟩ := W
  obtain ⟨S, l⟩ := st
  have hob := W.desk
  refine ⟨g.d, c.dd, _, rfl, hob, fun q nq => ?_⟩
  have s1 := Same.new (o := .lst []) nq
  have W1 := W.same s1
  have qd : q ≠ g.d := (ne_of_none hob nq).symm
  have qg : q ≠ c.lg := (ne_of_none W.lg nq).symm
  refine ⟨g, (S, l), c, rfl, W1, fun it nit => ?_⟩
  have hlg := W1.lg
  have iq : it ≠ q := fun z => by rw [z, upd_same] at nit; cases nit
  have nit0 : H it = none := by rw [upd_ne iq] at nit; exact nit
  have s2 := Same.new (o := ItO c.lg it 0) nit
  have W2 := W1.same s2
  have e : c.lgs.length = S.log.length := W.vr.log.1
  have b5 : S.log.length ≤ 9000 := W.ok.b5
  refine ⟨it, c.lg, c.lgs, rfl, upd_same, s2 _ _ hlg, s2 _ _ upd_same, qg, iq.symm, s2 _ _ (s1 _ _ hob), ⟨g, (S, l), rfl, ⟨c, W2⟩, S.log.length, rfl, sz_le (by omega), rfl⟩, fun H3 h3 hq => ?_⟩
  refine k c q H3 W nq (fun x o hx => ?_) hq
  have xq : x ≠ q := ne_of_none hx nq
  have xi : x ≠ it := ne_of_none hx nit0
  rw [h3 x xq xi, upd_ne xi, upd_ne xq]
  exact hx
end
end
end Tr
set_option maxHeartbeats 4000000

namespace Tr
open PySem L2 OXB
section
variable {P : Program} {w : World} {K : PySem.W.Frag} {mg : Str → Option Value} {base : Heap} {a : Nat → Addr} {fd : Nat → FuncData} {tk : Nat → Tok}
local macro_rules | `(tactic| walk_at "ne") => `(tactic| first | assumption | (exact Ne.symm (by assumption)) | (refine ne_of_none (by assumption) (by assumption)) | (refine Ne.symm (ne_of_none (by assumption) (by assumption))))
local macro_rules | `(tactic| walk_at "hl") => `(tactic| first | assumption | with_reducible exact upd_same | ((with_reducible refine' Eq.trans (upd_ne ?hne) ?hrest); (case hne => walk_at "ne"); (case hrest => walk_at "hl")) | (refine' get_same ?hs ?hg; (case hs => assumption); (case hg => assumption)))
local macro_rules | `(tactic| walk_at "at") => `(tactic| first | with_reducible exact atI_0 _ _ | with_reducible exact atI_1 _ _ _ | with_reducible exact atI_2 _ _ _ _ | with_reducible exact atI_3 _ _ _ _ _ | assumption)
local macro_rules | `(tactic| walk_at "rd1") => `(tactic| first
  | with_reducible refine s_seq ?_ | with_reducible refine s_next ?_ | with_reducible refine s_if ?_ | with_reducible refine s_ret ?_ | with_reducible refine s_retN ?_ | with_reducible refine s_drop ?_ | with_reducible refine s_asg ?_ | with_reducible refine s_brk ?_ | with_reducible refine s_cont ?_
  | with_reducible refine s_gname ?_ | with_reducible refine s_c ?_ | with_reducible refine s_op ?_ | with_reducible refine s_un ?_ | with_reducible refine s_neg ?_ | with_reducible refine s_test ?_ | with_reducible refine s_tb ?_ | with_reducible refine s_not ?_ | with_reducible refine s_and ?_ | with_reducible refine s_or ?_ | with_reducible refine s_yes ?_
  | ((with_reducible refine' s_var ?hv ?_); (case hv => exact rfl))
  | with_reducible refine s_ifx ?_ | with_reducible refine s_andV ?_ | with_reducible refine s_orV ?_ | with_reducible refine s_notV ?_ | with_reducible refine s_chain ?_ | with_reducible refine s_nil ?_ | with_reducible refine s_cons ?_ | with_reducible refine s_lst ?_ | with_reducible refine s_tup ?_ | with_reducible refine s_cb ?_ | with_reducible refine s_call ?_ | with_reducible refine s_meth ?_ | with_reducible refine s_make ?_
  | with_reducible refine s_dnewK ?_ | with_reducible refine s_sl ?_ | with_reducible refine s_po0 ?_ | with_reducible refine s_po1 ?_ | with_reducible refine s_bm ?_ | with_reducible refine s_bm0 ?_
  | with_reducible refine s_bl ?_ | with_reducible refine s_int ?_ | with_reducible refine s_I0 ?_ | with_reducible refine s_addI ?_ | with_reducible refine s_intI ?_ | with_reducible refine s_intB ?_
  | with_reducible refine s_m1 ?_ | with_reducible refine s_lc ?_ | with_reducible refine s_ilist ?_ | with_reducible refine s_for ?_ | with_reducible refine s_irng ?_ | with_reducible refine s_match ?_ | with_reducible refine s_starT ?_ | with_reducible refine s_isS ?_ | with_reducible refine s_isiSS ?_ | with_reducible refine s_fldU ?_ | with_reducible refine s_sfldU ?_
  | ((with_reducible refine' s_eqS ?hq ?_); (case hq => exact rfl)) | ((with_reducible refine' s_neS ?hq ?_); (case hq => exact rfl))
  | ((with_reducible refine' s_isN ?hq ?_); (case hq => exact rfl)) | ((with_reducible refine' s_notN ?hq ?_); (case hq => exact rfl))
  | ((with_reducible refine' s_eqNil ?h1 ?h2 ?_); (case h1 => walk_at "hl"); (case h2 => walk_at "hl")) | ((with_reducible refine' s_neNil ?h1 ?h2 ?_); (case h1 => walk_at "hl"); (case h2 => walk_at "hl"))
  | ((with_reducible refine' s_ixL ?h1 ?h2 ?_); (case h1 => walk_at "hl"); (case h2 => walk_at "at")) | ((with_reducible refine' s_ixT ?h1 ?h2 ?_); (case h1 => walk_at "hl"); (case h2 => walk_at "at"))
  | ((with_reducible refine' s_inS ?h1 ?_); (case h1 => walk_at "hl")) | ((with_reducible refine' s_ninS ?h1 ?_); (case h1 => walk_at "hl")) | with_reducible refine s_inW ?_
  | ((with_reducible refine' s_lenL ?h1 ?_); (case h1 => walk_at "hl")) | ((with_reducible refine' s_lenT ?h1 ?_); (case h1 => walk_at "hl"))
  | ((with_reducible refine' s_tyL ?h1 ?_); (case h1 => walk_at "hl"))
  | ((with_reducible refine' s_fldM ?h1 ?h2 ?h3 ?_); (case h1 => walk_at "hl"); (case h2 => walk_at "fok"); (case h3 => walk_at "flk"))
  | ((with_reducible refine' s_setM ?h1 ?h2 ?h3 ?h4 ?_); (case h1 => walk_at "hl"); (case h2 => walk_at "fok"); (case h4 => walk_at "put"); (case h3 => exact Nat.le_of_ble_eq_true rfl))
  | ((with_reducible refine' s_starM ?h1 ?_); (case h1 => walk_at "hl"))
  | ((with_reducible refine' s_recv ?h1 ?h2 ?_); (case h1 => walk_at "hl"); (case h2 => exact rfl))
  | ((with_reducible refine' s_sz ?h1 ?_); (case h1 => (simp; done))))
local macro_rules | `(tactic| walk_at "rd") => `(tactic| repeat (walk_at "rd1"))
local macro_rules | `(tactic| walk_at "fok") => `(tactic| assumption)
local macro_rules | `(tactic| walk_at "flk") => `(tactic| rfl)
local macro_rules | `(tactic| walk_at "put") => `(tactic| exact rfl)

local macro_rules | `(tactic| walk_at "fok") => `(tactic| first | assumption | exact Tu.ce (by assumption) (by decide) | exact Tu.de (by assumption) (by decide) | exact Tu.ke (by assumption) (by decide) | exact Tu.fe (by assumption) (by decide) | exact Tu.ee (by assumption) (by decide))
section
variable {ω Λ : Type} {Y : LawP ω Λ}
abbrev s_Desk_quietly : Stmt := (inClass (top 15) 11)
abbrev N_Desk_quietly : List Str := ["self", "work", "given", "frame", "before", "found"]
theorem sc_Desk_quietly : FnScope N_Desk_quietly ((["self", "work"] : List Str) ++ [("given" : Str)]) (defScope s_Desk_quietly) := ⟨rfl, rfl, rfl, by decide +kernel, rfl, by decide +kernel, by decide +kernel⟩
/-- a quiet call; what is called keeps csp -/
def spQuiet0 (a : Nat → Addr) (Y : LawP ω Λ) (csp : V → List V → Hp → VK → XK → Prop) : Sp := fun vs H Q E => ∃ g st f p args, vs = [.ref g.d, f, .ref p] ∧ Wld a Y g st H ∧ H p = some (.tup args) ∧
  ((st.1.frs = [] ∧ csp f args H Q E) ∨ ∃ fm, st.1.frs.getLast? = some fm ∧
    ∀ g1 H1, Wld a Y g1 ({ st.1 with frs := hushLast true st.1.frs }, st.2) H1 → Step g H g1 H1 → ∀ (Q' : VK) (E' : XK),
      (∀ v H2, (∃ g2 st2, Wld a Y g2 st2 H2 ∧ Step g1 H1 g2 H2 ∧ ∀ g3 H3, Wld a Y g3 ({ st2.1 with frs := hushLast fm.hush st2.1.frs }, st2.2) H3 → DStep g2 H2 g3 H3 → Q v H3) → Q' v H2) →
      (∀ cc d H2, (∃ g2 st2, Wld a Y g2 st2 H2 ∧ Step g1 H1 g2 H2 ∧ ∀ g3 H3, Wld a Y g3 ({ st2.1 with frs := hushLast fm.hush st2.1.frs }, st2.2) H3 → DStep g2 H2 g3 H3 → E cc d H3) → E' cc d H2) → csp f args H1 Q' E')
section
variable {k : Nat} {csp : V → List V → Hp → VK → XK → Prop}
theorem ok_Desk_quietly (T : Tu P K mg a fd tk) (F : Fun K "quietly" "Desk.quietly" s_Desk_quietly (a 67) (fd 67)) (CW : COkX P w K mg base k csp) : FnR P w K mg base (L2.CX P w) (k + 2) (a 67) (fun vs H Q E => ∃ ws rest, vs = ws ++ rest ∧ ws.length = 2 ∧ rest.length ≤ sizeLine ∧ ∀ p, H p = Option.none → spQuiet0 a Y csp (ws ++ [V.ref p]) (upd H p (.tup rest)) Q E) := by
  refine F.starX (ps := ["self", "work"]) sc_Desk_quietly (fun kV doc pm an cdv ct us rest hl => ?_) fun cdv A outer s H vs Q E hr h => ?_
  · match us, hl with
    | [u1, u2], _ => exact StX.bind_star2 (p1 := "self") (p2 := "work") (pv := "given") (B := fun l => bindArgs (PySem.W.fnOf "quietly" "Desk.quietly" (defArgs s_Desk_quietly) (defBody s_Desk_quietly) (defScope s_Desk_quietly) .none kV doc pm an cdv ct) ⟨l, []⟩) (fun a b => rfl) (fun a b r rs => rfl) [u1, u2] rest rfl
  · obtain ⟨g, ⟨S, l⟩, f, p, args, rfl, WD, hp, h⟩ := h
    refine ⟨_, (pss_cons (ps_if (pt_cmpR (uEq K hr.units) (pe_callB uLen (by rfl) T.b_len bt_len (pa_cons (pe_fldU K (pv 0)) pa_nil)) pe_int (nomark _)) (pss_one (ps_ret (pe_callVX (i := 1) (E := fun _ => E) CW (hr.mono (by omega)) (fun σ => passAt (takes_of rfl rfl rfl rfl) σ) rfl (.inl rfl) (pv 2)))) pss_nil)
  (pss_cons (ps_asg (pe_ix uIx (pe_fldU K (pv 0)) (pe_un un_neg pe_int) (fun _ _ => rfl)) (pg_name (i := 3) sc_Desk_quietly.nd rfl (by first | exact Or.inl rfl | exact Or.inr rfl)))
  (pss_cons (ps_asg (pe_fldU K (pv 3)) (pg_name (i := 4) sc_Desk_quietly.nd rfl (by first | exact Or.inl rfl | exact Or.inr rfl)))
  (pss_cons (ps_fldU K (pv 3) pe_bl)
  (pss_cons (ps_finX rfl rfl rfl (takes_of rfl rfl rfl rfl) (fun W0 pn xe tk _ => pss_one (ps_asg (pe_callVXK (K := K) (i := 1) (E := WE W0) CW (hr.mono (by omega)) (fun σ => passAt tk σ) rfl rfl (.inl rfl) (pv 2)) (pg_name (i := 5) sc_Desk_quietly.nd rfl (Or.inl rfl))))
    (pss_one (ps_fldU K (pv 3) (pv 4))) (fun a0 pn => pss_one (ps_fldU K (pv 3) (pv 4))))
  (pss_one (ps_ret (pv 5)))))))), ?_⟩
    obtain ⟨c, Wc⟩ := id WD
    have hob := Wc.desk
    have hfr := Wc.frl
    have hfl : S.frs.length = g.fas.length := Wc.ok.fl
    have b6 : S.frs.length ≤ 200 := Wc.ok.b6
    walk_at "rd"
    rcases h with ⟨hf, q⟩ | ⟨fm, hlast, q⟩
    · have ef : g.fas = [] := Wc.nofr.mp hf
      refine ifT (by rw [ef]; rfl) ?_
      walk_at "rd"
      refine s_callVX f rfl ?_
      walk_at "rd"
      exact q
    · obtain ⟨i, x, h1, h2, h3, hx⟩ := Wc.last hlast
      have hne : g.fas ≠ [] := by rintro z; rw [z] at h2; simp at h2
      have hpos : 0 < g.fas.length := List.length_pos_iff.mpr hne
      refine ifF (by rw [List.length_map]; simp; omega) ?_
      walk_at "rd"
      refine s_ixL hfr (atI_lastM h3) ?_
      walk_at "rd"
      have hi : i + 1 = S.frs.length := by
        rw [List.getLast?_eq_getElem?, List.length_map] at h3
        have h4 : g.fas[g.fas.length - 1]? = some x := by
          rw [List.getElem?_map] at h3
          cases e : g.fas[g.fas.length - 1]? with
          | none => rw [e] at h3; cases h3
          | some y => rw [e] at h3; cases h3; rfl
        have hi1 := (List.getElem?_eq_some_iff.mp h2).1
        obtain ⟨f9, h9⟩ : ∃ f9, S.frs[g.fas.length - 1]? = some f9 := ⟨_, List.getElem?_eq_getElem (by omega)⟩
        have e1 := Wc.inj (.fm i) (.fm (g.fas.length - 1)) x _ _ (slot_fm h1 h2) (slot_fm h9 h4)
        cases e1
        omega
      have W1 := Wc.hush true h1 h2 hi
      have xT : g.T x := Wc.inT _ _ _ (slot_fm h1 h2)
      have ep : putF (Str.ofString "is_hushed") (V.bl true) (frameU fm.own fm.isA fm.hush (c.nad fm.own)) = frameU fm.own fm.isA true (c.nad fm.own) := rfl
      rw [ep]
      have st1 : Step g H g (upd H x (.ins (a 49) (c.fdx i) (frameU fm.own fm.isA true (c.nad fm.own)))) := (DStep.upd xT).toStep
      have hp1 := WD.tupS st1 hp
      have q1 := q g _ ⟨_, W1⟩ st1
      generalize upd H x (.ins (a 49) (c.fdx i) (frameU fm.own fm.isA true (c.nad fm.own))) = H1 at W1 st1 hp1 q1 ⊢
      refine s_seq (s_finX ?_)
      walk_at "rd"
      refine s_callVX f rfl ?_
      walk_at "rd"
      have back : ∀ {g2 : Gh} {st2 : SW ω Λ} {H2 : Hp}, Wld a Y g2 st2 H2 → Step g H1 g2 H2 → ∃ (dx : Addr) (f2 : Fm) (nt : Addr), H2 x = some (.ins (a 49) dx (frameU f2.own f2.isA f2.hush nt)) ∧ Wld a Y g2 ({ st2.1 with frs := hushLast fm.hush st2.1.frs }, st2.2) (upd H2 x (.ins (a 49) dx (frameU f2.own f2.isA fm.hush nt))) ∧ DStep g2 H2 g2 (upd H2 x (.ins (a 49) dx (frameU f2.own f2.isA fm.hush nt))) := by
        rintro g2 ⟨S2, l2⟩ H2 ⟨c2, W2⟩ t2
        have hfl2 : S2.frs.length = g2.fas.length := W2.ok.fl
        have h2' : g2.fas[i]? = some x := by rw [t2.fas]; exact h2
        have hi2 : i + 1 = S2.frs.length := by rw [hfl2, t2.fas, ← hfl]; exact hi
        obtain ⟨f2, h1'⟩ : ∃ f2, S2.frs[i]? = some f2 := ⟨_, List.getElem?_eq_getElem (by omega)⟩
        exact ⟨c2.fdx i, f2, c2.nad f2.own, W2.fm h1' h2', ⟨c2, W2.hush fm.hush h1' h2' hi2⟩, DStep.upd (W2.inT _ _ _ (slot_fm h1' h2'))⟩
      refine q1 _ _ (fun v H2 h2 => ?_) (fun cc d H2 h2 => ?_)
      · obtain ⟨g2, st2, WD2, t2, k2⟩ := h2
        obtain ⟨dx, f2, nt, hx2, WD3, d3⟩ := back WD2 t2
        walk_at "rd"
        have ep3 : putF (Str.ofString "is_hushed") (V.bl fm.hush) (frameU f2.own f2.isA f2.hush nt) = frameU f2.own f2.isA fm.hush nt := rfl
        rw [ep3]
        exact k2 g2 _ WD3 d3
      · obtain ⟨g2, st2, WD2, t2, k2⟩ := h2
        obtain ⟨dx, f2, nt, hx2, WD3, d3⟩ := back WD2 t2
        show wFin _ _ _ _ _ _
        unfold wFin
        walk_at "rd"
        have ep3 : putF (Str.ofString "is_hushed") (V.bl fm.hush) (frameU f2.own f2.isA f2.hush nt) = frameU f2.own f2.isA fm.hush nt := rfl
        rw [ep3]
        exact k2 g2 _ WD3 d3
end
end
end
end Tr
set_option maxHeartbeats 1000000
namespace Tr
open PySem PySem.Spec PyProof.Rows L2
theorem op_mulS {X : Cx} : OpR X (binaryOp .Mult) (fun x y H Q => ∃ z n, x = .str z ∧ y = .int n ∧ MulOk z n ∧ Q (.str (Txt.mul z n)) H) := by
  intro pins s σ H x y v u Q I rx ry h
  obtain ⟨i, j, rfl, rfl, hz, q⟩ := h
  obtain ⟨t, rfl⟩ := rx
  obtain ⟨t', rfl⟩ := ry
  exact SB.mul hz fun t' tk => ⟨.str _, H, I.tok _, ⟨_, rfl⟩, q⟩
theorem mulOk_small {z : Str} {n : Int} (h0 : 0 ≤ n) (hn : n ≤ 1000) (hz : z.length ≤ 1000) : MulOk z n := by
  have e1 : n.toNat ≤ 1000 := by omega
  refine ⟨by simp; omega, fun h1 h2 => ?_, fun h1 h2 => ?_⟩
  · have : (2 ^ 63 - 1 : Int) / n ≥ 1000 := by
      refine Int.le_ediv_of_mul_le (by omega) ?_
      have : (1000 : Int) * n ≤ 1000 * 1000 := by omega
      omega
    omega
  · have h5 : z.length * n.toNat ≤ 1000 * 1000 := Nat.mul_le_mul hz e1
    have h6 : 1000 * 1000 ≤ sizeLine := by decide
    unfold Builtin.Str.tooLong
    simp
    omega
end Tr
set_option maxHeartbeats 1000000
namespace Tr
open PySem PySem.Spec PyProof.Rows L2
section
variable {σ : L2.St} {H : Hp} {Q : VK} {K : PySem.W.Frag}
theorem s_lcRJ {n : Int} {g : TG} {te : TE} {vs : List Nat} (J : Nat → Addr → List V → Hp → Prop) (h0 : 0 ≤ n) (h1 : n ≤ 100000)
    (j0 : ∀ D, H D = none → J 0 D [] (upd H D (.lst []))) (hG : ∀ i D acc H', J i D acc H' → H' D = some (.lst acc) ∧ acc.length = i)
    (hs : ∀ (i : Nat) (D : Addr) (acc : List V) (H2 : Hp) (R : VK), (i : Int) < n → J i D acc H2 → (∀ v H4, H4 D = some (.lst acc) → J (i + 1) D (acc ++ [v]) (upd H4 D (.lst (acc ++ [v]))) → R v H4) →
      g (.int (i : Int)) (wipe σ vs) H2 fun σ2 H3 => wipe σ2 vs = wipe σ vs ∧ te σ2 H3 R)
    (hd : ∀ D acc H', H D = none → J n.toNat D acc H' → Q (.ref D) H') : mRng (LcGo g tYes te vs σ Q) [.int n] H := by
  refine ⟨n, rfl, by omega, by omega, fun D hD => ?_⟩
  refine lc_it (walk_range (lo := 0) (n := n.toNat)) (fun i H' => ∃ acc, J i D acc H') ⟨[], j0 D hD⟩ (fun i H' _ pv => trivial) ?_ ?_
  · rintro i x H2 H' hi ⟨acc, j⟩ ⟨rfl, hxx⟩
    obtain ⟨hD2, hl⟩ := hG _ _ _ _ j
    subst hxx
    have e : (0 : Int) + (i : Int) = (i : Int) := Int.zero_add _
    show g (V.int (0 + (i : Int))) (wipe σ vs) H' _
    rw [e]
    have := hs i D acc H' (fun y H4 => ∃ acc, H4 D = some (.lst acc) ∧ acc.length < sizeLine ∧ ∃ acc', J (i + 1) D acc' (upd H4 D (.lst (acc ++ [y])))) (by omega) j fun v H4 h4 j4 => ⟨acc, h4, by rw [hl]; exact sz_lt (by omega), _, j4⟩
    have e2 : (fun σ2 H3 => wipe σ2 vs = wipe σ vs ∧ te σ2 H3 (fun y H4 => ∃ acc, H4 D = some (.lst acc) ∧ acc.length < sizeLine ∧ ∃ acc', J (i + 1) D acc' (upd H4 D (.lst (acc ++ [y]))))) =
      (fun σ2 H3 => wipe σ2 vs = wipe σ vs ∧ tYes σ2 H3 fun b' H3 => if b' = true then te σ2 H3 (fun y H4 => ∃ acc, H4 D = some (.lst acc) ∧ acc.length < sizeLine ∧ ∃ acc', J (i + 1) D acc' (upd H4 D (.lst (acc ++ [y])))) else ∃ acc, J (i + 1) D acc H3) := rfl
    rw [e2] at this
    exact this
  · rintro H' ⟨acc, j⟩
    exact hd D acc H' hD j
end
theorem len_app (x y : Str) : (x ++ y).length = x.length + y.length := by
  show (x.cps ++ y.cps).size = _
  rw [Array.size_append]; rfl
theorem ok_app {x y : Str} (h1 : PyData.strOk x = true) (h2 : PyData.strOk y = true) : PyData.strOk (x ++ y) = true := by
  show (x.cps ++ y.cps).all (· < 0x110000) = true
  rw [Array.all_append]
  exact Bool.and_eq_true_iff.mpr ⟨h1, h2⟩
theorem ok_empty : PyData.strOk Str.empty = true := by decide +kernel
theorem ok_nil : PyData.strOk (Str.ofString "") = true := by decide +kernel
theorem join_e : ∀ ys : List Str, (Txt.join (Str.ofString "") ys).length = (ys.map (·.length)).sum ∧ ((∀ y ∈ ys, PyData.strOk y = true) → PyData.strOk (Txt.join (Str.ofString "") ys) = true)
  | [] => ⟨rfl, fun _ => ok_empty⟩
  | [x] => by
    rw [TL.join_eq]
    exact ⟨by show x.length = _; simp, fun h => h x (by simp)⟩
  | x :: y :: ys => by
    have ih := join_e (y :: ys)
    rw [TL.join_eq] at ih ⊢
    refine ⟨?_, fun h => ?_⟩
    · show (x ++ Str.ofString "" ++ Str.join (Str.ofString "") (y :: ys)).length = _
      rw [len_app, len_app, ih.1]
      show x.length + 0 + _ = _
      simp
    · exact ok_app (ok_app (h x (by simp)) ok_nil) (ih.2 fun z hz => h z (List.mem_cons_of_mem _ hz))
theorem foldl_app {α : Type} : ∀ (l : List (Array α)) (a : Array α), (l.foldl (· ++ ·) a).toList = a.toList ++ (l.map Array.toList).flatten
  | [], a => by simp
  | x :: l, a => by rw [List.foldl_cons, foldl_app l]; simp
theorem mul_e {z : Str} {n : Int} (hz : PyData.strOk z = true) (h1 : z.length = 1) (h0 : 0 ≤ n) : (Txt.mul z n).length = n.toNat ∧ PyData.strOk (Txt.mul z n) = true := by
  unfold Txt.mul
  by_cases c1 : n < 1
  · rw [if_pos c1]
    have : n = 0 := by omega
    subst this
    exact ⟨rfl, ok_empty⟩
  · rw [if_neg c1]
    split
    · rename_i c2
      rw [h1] at c2
      have : n = 1 := by simpa using c2
      subst this
      exact ⟨h1, hz⟩
    · have e := foldl_app (List.replicate n.toNat z.cps) #[]
      have hz1 : z.cps.toList.length = 1 := h1
      refine ⟨?_, ?_⟩
      · show ((List.replicate n.toNat z.cps).foldl (· ++ ·) #[]).size = _
        rw [← Array.length_toList, e]
        simp only [List.map_replicate, List.nil_append, List.length_flatten, List.sum_replicate_nat, hz1, Nat.mul_one]
      · show ((List.replicate n.toNat z.cps).foldl (· ++ ·) #[]).all (· < 0x110000) = true
        rw [← Array.all_toList, e, List.all_eq_true]
        intro c hc
        simp only [List.nil_append, List.mem_flatten, List.mem_map, List.mem_replicate] at hc
        obtain ⟨l, ⟨y, ⟨_, rfl⟩, rfl⟩, hc⟩ := hc
        have hz' : z.cps.all (· < 0x110000) = true := hz
        rw [← Array.all_toList, List.all_eq_true] at hz'
        exact hz' c hc
end Tr
set_option maxHeartbeats 4000000

namespace Tr
open PySem L2 OXB
section
variable {P : Program} {w : World} {K : PySem.W.Frag} {mg : Str → Option Value} {base : Heap} {a : Nat → Addr} {fd : Nat → FuncData} {tk : Nat → Tok}
local macro_rules | `(tactic| walk_at "ne") => `(tactic| first | assumption | (exact Ne.symm (by assumption)) | (refine ne_of_none (by assumption) (by assumption)) | (refine Ne.symm (ne_of_none (by assumption) (by assumption))))
local macro_rules | `(tactic| walk_at "hl") => `(tactic| first | assumption | with_reducible exact upd_same | ((with_reducible refine' Eq.trans (upd_ne ?hne) ?hrest); (case hne => walk_at "ne"); (case hrest => walk_at "hl")) | (refine' get_same ?hs ?hg; (case hs => assumption); (case hg => assumption)))
local macro_rules | `(tactic| walk_at "at") => `(tactic| first | with_reducible exact atI_0 _ _ | with_reducible exact atI_1 _ _ _ | with_reducible exact atI_2 _ _ _ _ | with_reducible exact atI_3 _ _ _ _ _ | assumption)
local macro_rules | `(tactic| walk_at "rd1") => `(tactic| first
  | with_reducible refine s_seq ?_ | with_reducible refine s_next ?_ | with_reducible refine s_if ?_ | with_reducible refine s_ret ?_ | with_reducible refine s_retN ?_ | with_reducible refine s_drop ?_ | with_reducible refine s_asg ?_ | with_reducible refine s_brk ?_ | with_reducible refine s_cont ?_
  | with_reducible refine s_gname ?_ | with_reducible refine s_c ?_ | with_reducible refine s_op ?_ | with_reducible refine s_un ?_ | with_reducible refine s_neg ?_ | with_reducible refine s_test ?_ | with_reducible refine s_tb ?_ | with_reducible refine s_not ?_ | with_reducible refine s_and ?_ | with_reducible refine s_or ?_ | with_reducible refine s_yes ?_
  | ((with_reducible refine' s_var ?hv ?_); (case hv => exact rfl))
  | with_reducible refine s_ifx ?_ | with_reducible refine s_andV ?_ | with_reducible refine s_orV ?_ | with_reducible refine s_notV ?_ | with_reducible refine s_chain ?_ | with_reducible refine s_nil ?_ | with_reducible refine s_cons ?_ | with_reducible refine s_lst ?_ | with_reducible refine s_tup ?_ | with_reducible refine s_cb ?_ | with_reducible refine s_call ?_ | with_reducible refine s_meth ?_ | with_reducible refine s_make ?_
  | with_reducible refine s_dnewK ?_ | with_reducible refine s_sl ?_ | with_reducible refine s_po0 ?_ | with_reducible refine s_po1 ?_ | with_reducible refine s_bm ?_ | with_reducible refine s_bm0 ?_
  | with_reducible refine s_bl ?_ | with_reducible refine s_int ?_ | with_reducible refine s_I0 ?_ | with_reducible refine s_addI ?_ | with_reducible refine s_intI ?_ | with_reducible refine s_intB ?_
  | with_reducible refine s_m1 ?_ | with_reducible refine s_lc ?_ | with_reducible refine s_ilist ?_ | with_reducible refine s_for ?_ | with_reducible refine s_irng ?_ | with_reducible refine s_match ?_ | with_reducible refine s_starT ?_ | with_reducible refine s_isS ?_ | with_reducible refine s_isiSS ?_ | with_reducible refine s_fldU ?_ | with_reducible refine s_sfldU ?_
  | ((with_reducible refine' s_eqS ?hq ?_); (case hq => exact rfl)) | ((with_reducible refine' s_neS ?hq ?_); (case hq => exact rfl))
  | ((with_reducible refine' s_isN ?hq ?_); (case hq => exact rfl)) | ((with_reducible refine' s_notN ?hq ?_); (case hq => exact rfl))
  | ((with_reducible refine' s_eqNil ?h1 ?h2 ?_); (case h1 => walk_at "hl"); (case h2 => walk_at "hl")) | ((with_reducible refine' s_neNil ?h1 ?h2 ?_); (case h1 => walk_at "hl"); (case h2 => walk_at "hl"))
  | ((with_reducible refine' s_ixL ?h1 ?h2 ?_); (case h1 => walk_at "hl"); (case h2 => walk_at "at")) | ((with_reducible refine' s_ixT ?h1 ?h2 ?_); (case h1 => walk_at "hl"); (case h2 => walk_at "at"))
  | ((with_reducible refine' s_inS ?h1 ?_); (case h1 => walk_at "hl")) | ((with_reducible refine' s_ninS ?h1 ?_); (case h1 => walk_at "hl")) | with_reducible refine s_inW ?_
  | ((with_reducible refine' s_lenL ?h1 ?_); (case h1 => walk_at "hl")) | ((with_reducible refine' s_lenT ?h1 ?_); (case h1 => walk_at "hl"))
  | ((with_reducible refine' s_tyL ?h1 ?_); (case h1 => walk_at "hl"))
  | ((with_reducible refine' s_fldM ?h1 ?h2 ?h3 ?_); (case h1 => walk_at "hl"); (case h2 => walk_at "fok"); (case h3 => walk_at "flk"))
  | ((with_reducible refine' s_setM ?h1 ?h2 ?h3 ?h4 ?_); (case h1 => walk_at "hl"); (case h2 => walk_at "fok"); (case h4 => walk_at "put"); (case h3 => exact Nat.le_of_ble_eq_true rfl))
  | ((with_reducible refine' s_starM ?h1 ?_); (case h1 => walk_at "hl"))
  | ((with_reducible refine' s_recv ?h1 ?h2 ?_); (case h1 => walk_at "hl"); (case h2 => exact rfl))
  | ((with_reducible refine' s_sz ?h1 ?_); (case h1 => (simp; done))))
local macro_rules | `(tactic| walk_at "rd") => `(tactic| repeat (walk_at "rd1"))
local macro_rules | `(tactic| walk_at "fok") => `(tactic| assumption)
local macro_rules | `(tactic| walk_at "flk") => `(tactic| rfl)
local macro_rules | `(tactic| walk_at "put") => `(tactic| exact rfl)

local macro_rules | `(tactic| walk_at "fok") => `(tactic| first | assumption | exact Tu.ce (by assumption) (by decide) | exact Tu.de (by assumption) (by decide) | exact Tu.ke (by assumption) (by decide) | exact Tu.fe (by assumption) (by decide) | exact Tu.ee (by assumption) (by decide))
abbrev s__law_bag : Stmt := (top 17)
abbrev N__law_bag : List Str := ["_law_script", "_law_at", "_law_cell", "_law_digits"]
theorem sc__law_bag : FnScope ["_law_script", "_law_at", "_law_cell", "_law_digits"] ["_law_script", "_law_at"] (defScope s__law_bag) := ⟨rfl, rfl, rfl, by decide +kernel, rfl, by decide +kernel, by decide +kernel⟩
abbrev s__law_take : Stmt := (top 18)
abbrev N__law_take : List Str := ["_law_bag_here", "_law_many", "_law_mixed", "_law_digit"]
theorem sc__law_take : FnScope ["_law_bag_here", "_law_many", "_law_mixed", "_law_digit"] ["_law_bag_here", "_law_many"] (defScope s__law_take) := ⟨rfl, rfl, rfl, by decide +kernel, rfl, by decide +kernel, by decide +kernel⟩
abbrev s__law_of : Stmt := (top 19)
abbrev N__law_of : List Str := ["_law_bag_here", "_law_some"]
theorem sc__law_of : FnScope ["_law_bag_here", "_law_some"] ["_law_bag_here", "_law_some"] (defScope s__law_of) := ⟨rfl, rfl, rfl, by decide +kernel, rfl, by decide +kernel, by decide +kernel⟩

/-- what the top has made of the law's own defs -/
structure Tl (P : Program) (K : PySem.W.Frag) (mg : Str → Option Value) (a : Nat → Addr) (fd : Nat → FuncData) (tk : Nat → Tok) : Prop where
  d : Tu P K mg a fd tk
  b_abs : mg "abs" = none
  b_int : mg "int" = none
  g__law_bag : mg "_law_bag" = some (.ref (a 30))
  F__law_bag : Fun K "_law_bag" "_law_bag" s__law_bag (a 30) (fd 30)
  g__law_take : mg "_law_take" = some (.ref (a 31))
  F__law_take : Fun K "_law_take" "_law_take" s__law_take (a 31) (fd 31)
  g__law_of : mg "_law_of" = some (.ref (a 32))
  F__law_of : Fun K "_law_of" "_law_of" s__law_of (a 32) (fd 32)
/-- a source of draws: so many at most were drawn -/
def BagD (H : Hp) (b : Addr) (n : Nat) : Prop := ∃ dg m k : Int, H b = some (.lst [.int dg, .int m, .int k]) ∧ 0 ≤ dg ∧ 0 ≤ m ∧ m < 2 ^ 62 ∧ 0 ≤ k ∧ k ≤ n
theorem ixN_nat {n j : Nat} (h : j < n) : ixN n (j : Int) = some j := by
  unfold ixN
  rw [if_pos (by omega), if_pos (by omega)]
  simp
theorem ixN_last {n : Nat} (h : 0 < n) : ixN n (-1) = some (n - 1) := by
  unfold ixN
  rw [if_neg (by omega), if_pos (by omega)]
  congr 1
  omega
theorem atI_nat {xs : List V} {j : Nat} {v : V} (h : xs[j]? = some v) : atI xs (j : Int) = some v := by
  unfold atI
  rw [ixN_nat (List.getElem?_eq_some_iff.mp h).1]
  exact h
def spTake : Sp := fun vs H Q _ => ∃ (b : Addr) (many : Int) (n : Nat), vs = [.ref b, .int many] ∧ BagD H b n ∧ n < 10 ^ 9 ∧ 0 < many ∧ many < 2 ^ 200 ∧ ∀ (d : Int) H', 0 ≤ d → d < many → BagD H' b (n + 1) → Fr H H' [b] → Q (.int d) H'
theorem s_gsub {to ti : TE} {t : TSet} {v : V} {σ : L2.St} {H : Hp} {Q : L2.St → Hp → Prop} (h : to σ H fun o H1 => ti σ H1 fun i H2 => t o i v H2 fun H3 => Q σ H3) : gSub to ti t v σ H Q := h
theorem s_setU {p : Addr} {xs : List V} {k : Int} {j : Nat} {v : V} {H : Hp} {Q : Hp → Prop} (hp : H p = some (.lst xs)) (hj : ixN xs.length k = some j) (q : Q (upd H p (.lst (xs.set j v)))) : rSetU (.ref p) (.int k) v H Q := by
  simp only [rSetU, hp]
  exact ⟨j, hj, q⟩
theorem lg2 {x : Int} (h : x.natAbs < 2 ^ 200) : x.natAbs.log2 < 9000 := Nat.lt_of_lt_of_le (PySem.Flt.log2_lt_of (by decide) h) (by decide)
theorem mulOk {x y : Int} (h : x.natAbs < 2 ^ 200) (h' : y.natAbs < 2 ^ 200) : CMulW x y := by
  have := lg2 h
  have := lg2 h'
  unfold CMulW
  omega
theorem ok__law_take (T : Tl P K mg a fd tk) : FnOk P w K mg base CX0 1 (a 31) (fd 31) ["_law_bag_here", "_law_many"] spTake := by
  refine T.F__law_take.ok sc__law_take (fun vs H Q E h => ?_) (fun cdv A outer s H vs Q E hr h => ?_)
  · obtain ⟨b, many, n, rfl, _⟩ := h
    rfl
  · obtain ⟨b, many, n, rfl, ⟨dg, m, k0, hb, g0, m0, m1, k1, k2⟩, hn, h0, h1, k⟩ := h
    refine ⟨_, (pss_cons (ps_if (pt_cmpR op_gt (pe_ix uIx (pv 0) pe_int (fun _ _ => rfl)) pe_int (nomark _)) (pss_cons (ps_asg (pe_op op_mod (pe_callTy uInt (by rfl) T.b_int bt_int (pa_cons (pe_ix uIx (pv 0) pe_int (fun _ _ => rfl)) pa_nil)) (pv 1)) (pg_name (i := 3) sc__law_take.nd rfl (by first | exact Or.inl rfl | exact Or.inr rfl)))
  (pss_cons (ps_asg (pe_op op_fdivW (pe_ix uIx (pv 0) pe_int (fun _ _ => rfl)) (pv 1)) (pg_sub (pv 0) pe_int set_listU))
  (pss_one (ps_ret (pv 3))))) pss_nil)
  (pss_cons (ps_asg (pe_op uAdd (pe_ix uIx (pv 0) pe_int (fun _ _ => rfl)) pe_int) (pg_sub (pv 0) pe_int set_listU))
  (pss_cons (ps_asg (pe_op op_mod (pe_callTy uInt (by rfl) T.b_int bt_int (pa_cons (pe_op op_pow (pe_op uAdd (pe_ix uIx (pv 0) pe_int (fun _ _ => rfl)) (pe_op uMul pe_int (pe_ix uIx (pv 0) pe_int (fun _ _ => rfl)))) pe_int) pa_nil)) pe_int) (pg_name (i := 2) sc__law_take.nd rfl (by first | exact Or.inl rfl | exact Or.inr rfl)))
  (pss_cons (ps_asg (pe_op op_mod (pe_callTy uInt (by rfl) T.b_int bt_int (pa_cons (pe_op op_pow (pe_op uAdd (pv 2) (pe_op uMul pe_int (pe_ix uIx (pv 0) pe_int (fun _ _ => rfl)))) pe_int) pa_nil)) pe_int) (pg_name (i := 2) sc__law_take.nd rfl (by first | exact Or.inl rfl | exact Or.inr rfl)))
  (pss_one (ps_ret (pe_op op_mod (pe_callTy uInt (by rfl) T.b_int bt_int (pa_cons (pe_op op_fdivW (pv 2) pe_int) pa_nil)) (pv 1)))))))), ?_⟩
    walk_at "rd"
    have hlog : many.natAbs.log2 < 9000 := by
      have : many.natAbs < 2 ^ 200 := by omega
      exact Nat.lt_of_lt_of_le (PySem.Flt.log2_lt_of (by decide) this) (by decide)
    by_cases hg : 0 < dg
    · refine ifT (by simpa using hg) ?_
      walk_at "rd"
      refine s_I h0 ?_
      walk_at "rd"
      refine s_I ⟨h0, hlog⟩ ?_
      refine s_gsub ?_
      walk_at "rd"
      refine s_setU hb (j := 0) rfl ?_
      walk_at "rd"
      exact k _ _ (Int.emod_nonneg _ (by omega)) (Int.emod_lt_of_pos _ h0) ⟨_, _, _, upd_same, Int.ediv_nonneg g0 (by omega), m0, m1, k1, by omega⟩ fun x o hx hS => by rw [upd_ne (by simpa using hS)]; exact hx
    · refine ifF (by simpa using hg) ?_
      walk_at "rd"
      refine s_gsub ?_
      walk_at "rd"
      refine s_setU hb (j := 2) rfl ?_
      have hb1 : upd H b (.lst (([V.int dg, .int m, .int k0] : List V).set 2 (.int (k0 + 1)))) b = some (.lst [.int dg, .int m, .int (k0 + 1)]) := upd_same
      have f1 : Fr H (upd H b (.lst (([V.int dg, .int m, .int k0] : List V).set 2 (.int (k0 + 1))))) [b] := fun x o hx hS => by rw [upd_ne (by simpa using hS)]; exact hx
      generalize upd H b (.lst (([V.int dg, .int m, .int k0] : List V).set 2 (.int (k0 + 1)))) = H1 at hb1 f1 ⊢
      walk_at "rd"
      have kb : k0 + 1 ≤ 1000000000 := by omega
      refine s_mulI (mulOk (by decide) (by omega)) ?_
      walk_at "rd"
      refine s_I ⟨by decide, by decide, by omega⟩ ?_
      walk_at "rd"
      refine s_I (by decide) ?_
      generalize hx1 : ((m + 32452867 * (k0 + 1)) ^ (3 : Int).toNat) % 2305843009213693921 = x1
      have x10 : 0 ≤ x1 := by rw [← hx1]; exact Int.emod_nonneg _ (by decide)
      have x11 : x1 < 2305843009213693921 := by rw [← hx1]; exact Int.emod_lt_of_pos _ (by decide)
      walk_at "rd"
      refine s_mulI (mulOk (by decide) (by omega)) ?_
      walk_at "rd"
      refine s_I ⟨by decide, by decide, by omega⟩ ?_
      walk_at "rd"
      refine s_I (by decide) ?_
      generalize hx2 : ((x1 + 982451653 * (k0 + 1)) ^ (2 : Int).toNat) % 2305843009213693951 = x2
      have x20 : 0 ≤ x2 := by rw [← hx2]; exact Int.emod_nonneg _ (by decide)
      walk_at "rd"
      refine s_I ⟨by decide, by decide⟩ ?_
      walk_at "rd"
      refine s_I h0 ?_
      walk_at "rd"
      exact k _ _ (Int.emod_nonneg _ (by omega)) (Int.emod_lt_of_pos _ h0) ⟨_, _, _, hb1, g0, m0, m1, by omega, by push_cast; omega⟩ f1
theorem b__law_take (T : Tl P K mg a fd tk) : Binds K (fd 31) ["_law_bag_here", "_law_many"] [] := T.F__law_take.binds fun _ _ _ _ _ _ us hl => match us, hl with | [_, _], _ => rfl
theorem BagD.more {H : Hp} {b : Addr} {n n' : Nat} (h : BagD H b n) (hn : n ≤ n') : BagD H b n' := by
  obtain ⟨dg, m, k, e, h1, h2, h3, h4, h5⟩ := h
  exact ⟨dg, m, k, e, h1, h2, h3, h4, by omega⟩
def spOf : Sp := fun vs H Q _ => ∃ (b p : Addr) (xs : List V) (n : Nat), vs = [.ref b, .ref p] ∧ BagD H b n ∧ n < 10 ^ 8 ∧ H p = some (.lst xs) ∧ p ≠ b ∧ 0 < xs.length ∧ xs.length ≤ 1000 ∧ ∀ (i : Nat) (x : V) H', xs[i]? = some x → BagD H' b (n + 1) → Fr H H' [b] → Q x H'
theorem ok__law_of (T : Tl P K mg a fd tk) : FnOk P w K mg base CX0 2 (a 32) (fd 32) ["_law_bag_here", "_law_some"] spOf := by
  refine T.F__law_of.ok sc__law_of (fun vs H Q E h => ?_) (fun cdv A outer s H vs Q E hr h => ?_)
  · obtain ⟨b, p, xs, n, rfl, _⟩ := h
    rfl
  · obtain ⟨b, p, xs, n, rfl, B, hn, hp, hpb, h0, h1, k⟩ := h
    refine ⟨_, (pss_one (ps_ret (pe_ix uIx (pv 1) (pe_call (ok__law_take T) (hr.mono (by omega)) (by rfl) T.g__law_take T.F__law_take.kp (b__law_take T) .nil pass0 (pa_cons (pv 0) (pa_cons (pe_callB uLen (by rfl) T.d.b_len bt_len (pa_cons (pv 1) pa_nil)) pa_nil))) (fun _ _ => rfl)))), ?_⟩
    walk_at "rd"
    refine ⟨b, _, n, rfl, B, by omega, by omega, Int.lt_of_le_of_lt (b := 1000) (by omega) (by decide), fun d H1 d0 d1 B1 f1 => ?_⟩
    obtain ⟨i, rfl⟩ := Int.eq_ofNat_of_zero_le d0
    have hi : i < xs.length := by omega
    have ex : xs[i]? = some xs[i] := List.getElem?_eq_getElem hi
    refine s_ixL (f1 _ _ hp (by simpa using hpb)) (atI_nat ex) ?_
    walk_at "rd"
    exact k i _ H1 ex B1 f1
theorem b__law_of (T : Tl P K mg a fd tk) : Binds K (fd 32) ["_law_bag_here", "_law_some"] [] := T.F__law_of.binds fun _ _ _ _ _ _ us hl => match us, hl with | [_, _], _ => rfl
end
end Tr
set_option maxHeartbeats 4000000

namespace Tr
open PySem L2 OXB
section
variable {P : Program} {w : World} {K : PySem.W.Frag} {mg : Str → Option Value} {base : Heap} {a : Nat → Addr} {fd : Nat → FuncData} {tk : Nat → Tok}
local macro_rules | `(tactic| walk_at "ne") => `(tactic| first | assumption | (exact Ne.symm (by assumption)) | (refine ne_of_none (by assumption) (by assumption)) | (refine Ne.symm (ne_of_none (by assumption) (by assumption))))
local macro_rules | `(tactic| walk_at "hl") => `(tactic| first | assumption | with_reducible exact upd_same | ((with_reducible refine' Eq.trans (upd_ne ?hne) ?hrest); (case hne => walk_at "ne"); (case hrest => walk_at "hl")) | (refine' get_same ?hs ?hg; (case hs => assumption); (case hg => assumption)))
local macro_rules | `(tactic| walk_at "at") => `(tactic| first | with_reducible exact atI_0 _ _ | with_reducible exact atI_1 _ _ _ | with_reducible exact atI_2 _ _ _ _ | with_reducible exact atI_3 _ _ _ _ _ | assumption)
local macro_rules | `(tactic| walk_at "rd1") => `(tactic| first
  | with_reducible refine s_seq ?_ | with_reducible refine s_next ?_ | with_reducible refine s_if ?_ | with_reducible refine s_ret ?_ | with_reducible refine s_retN ?_ | with_reducible refine s_drop ?_ | with_reducible refine s_asg ?_ | with_reducible refine s_brk ?_ | with_reducible refine s_cont ?_
  | with_reducible refine s_gname ?_ | with_reducible refine s_c ?_ | with_reducible refine s_op ?_ | with_reducible refine s_un ?_ | with_reducible refine s_neg ?_ | with_reducible refine s_test ?_ | with_reducible refine s_tb ?_ | with_reducible refine s_not ?_ | with_reducible refine s_and ?_ | with_reducible refine s_or ?_ | with_reducible refine s_yes ?_
  | ((with_reducible refine' s_var ?hv ?_); (case hv => exact rfl))
  | with_reducible refine s_ifx ?_ | with_reducible refine s_andV ?_ | with_reducible refine s_orV ?_ | with_reducible refine s_notV ?_ | with_reducible refine s_chain ?_ | with_reducible refine s_nil ?_ | with_reducible refine s_cons ?_ | with_reducible refine s_lst ?_ | with_reducible refine s_tup ?_ | with_reducible refine s_cb ?_ | with_reducible refine s_call ?_ | with_reducible refine s_meth ?_ | with_reducible refine s_make ?_
  | with_reducible refine s_dnewK ?_ | with_reducible refine s_sl ?_ | with_reducible refine s_po0 ?_ | with_reducible refine s_po1 ?_ | with_reducible refine s_bm ?_ | with_reducible refine s_bm0 ?_
  | with_reducible refine s_bl ?_ | with_reducible refine s_int ?_ | with_reducible refine s_I0 ?_ | with_reducible refine s_addI ?_ | with_reducible refine s_intI ?_ | with_reducible refine s_intB ?_
  | with_reducible refine s_m1 ?_ | with_reducible refine s_lc ?_ | with_reducible refine s_ilist ?_ | with_reducible refine s_for ?_ | with_reducible refine s_irng ?_ | with_reducible refine s_match ?_ | with_reducible refine s_starT ?_ | with_reducible refine s_isS ?_ | with_reducible refine s_isiSS ?_ | with_reducible refine s_fldU ?_ | with_reducible refine s_sfldU ?_
  | ((with_reducible refine' s_eqS ?hq ?_); (case hq => exact rfl)) | ((with_reducible refine' s_neS ?hq ?_); (case hq => exact rfl))
  | ((with_reducible refine' s_isN ?hq ?_); (case hq => exact rfl)) | ((with_reducible refine' s_notN ?hq ?_); (case hq => exact rfl))
  | ((with_reducible refine' s_eqNil ?h1 ?h2 ?_); (case h1 => walk_at "hl"); (case h2 => walk_at "hl")) | ((with_reducible refine' s_neNil ?h1 ?h2 ?_); (case h1 => walk_at "hl"); (case h2 => walk_at "hl"))
  | ((with_reducible refine' s_ixL ?h1 ?h2 ?_); (case h1 => walk_at "hl"); (case h2 => walk_at "at")) | ((with_reducible refine' s_ixT ?h1 ?h2 ?_); (case h1 => walk_at "hl"); (case h2 => walk_at "at"))
  | ((with_reducible refine' s_inS ?h1 ?_); (case h1 => walk_at "hl")) | ((with_reducible refine' s_ninS ?h1 ?_); (case h1 => walk_at "hl")) | with_reducible refine s_inW ?_
  | ((with_reducible refine' s_lenL ?h1 ?_); (case h1 => walk_at "hl")) | ((with_reducible refine' s_lenT ?h1 ?_); (case h1 => walk_at "hl"))
  | ((with_reducible refine' s_tyL ?h1 ?_); (case h1 => walk_at "hl"))
  | ((with_reducible refine' s_fldM ?h1 ?h2 ?h3 ?_); (case h1 => walk_at "hl"); (case h2 => walk_at "fok"); (case h3 => walk_at "flk"))
  | ((with_reducible refine' s_setM ?h1 ?h2 ?h3 ?h4 ?_); (case h1 => walk_at "hl"); (case h2 => walk_at "fok"); (case h4 => walk_at "put"); (case h3 => exact Nat.le_of_ble_eq_true rfl))
  | ((with_reducible refine' s_starM ?h1 ?_); (case h1 => walk_at "hl"))
  | ((with_reducible refine' s_recv ?h1 ?h2 ?_); (case h1 => walk_at "hl"); (case h2 => exact rfl))
  | ((with_reducible refine' s_sz ?h1 ?_); (case h1 => (simp; done))))
local macro_rules | `(tactic| walk_at "rd") => `(tactic| repeat (walk_at "rd1"))
local macro_rules | `(tactic| walk_at "fok") => `(tactic| assumption)
local macro_rules | `(tactic| walk_at "flk") => `(tactic| rfl)
local macro_rules | `(tactic| walk_at "put") => `(tactic| exact rfl)

local macro_rules | `(tactic| walk_at "fok") => `(tactic| first | assumption | exact Tu.ce (by assumption) (by decide) | exact Tu.de (by assumption) (by decide) | exact Tu.ke (by assumption) (by decide) | exact Tu.fe (by assumption) (by decide) | exact Tu.ee (by assumption) (by decide))

def spBagD (K : PySem.W.Frag) : Sp := fun vs H Q _ => ∃ (p : Addr) (xs : List Int) (at_ : Nat), vs = [.ref p, .int (at_ : Int)] ∧ SqL K H p (xs.map V.int) ∧ xs.length ≤ 63 ∧ at_ ≤ 3 ∧ ∀ b H', Same H H' → H b = none → BagD H' b 0 → Q (.ref b) H'
theorem ok__law_bag (T : Tl P K mg a fd tk) : FnOk P w K mg base CX0 1 (a 30) (fd 30) ["_law_script", "_law_at"] (spBagD K) := by
  refine T.F__law_bag.ok sc__law_bag (fun vs H Q E h => ?_) (fun cdv A outer s H vs Q E hr h => ?_)
  · obtain ⟨p, xs, at_, rfl, _⟩ := h
    rfl
  · obtain ⟨p, xs, at_, rfl, hp, hn, h3, k⟩ := h
    refine ⟨_, (pss_cons (ps_asg (pe_ifExp (pt_cmpR op_lt (pv 1) (pe_callB call_len_seq (by rfl) T.d.b_len bt_len (pa_cons (pv 0) pa_nil)) (nomark _)) (pe_ix ix_list (pv 0) (pv 1) (fun _ _ => rfl)) pe_int) (pg_name (i := 2) sc__law_bag.nd rfl (by first | exact Or.inl rfl | exact Or.inr rfl)))
  (pss_cons (ps_asg (pe_ifExp (pt_cmpR op_ge (pe_callB call_abs (by rfl) T.b_abs bt_abs (pa_cons (pv 2) pa_nil)) (pe_op op_pow pe_int pe_int) (nomark _)) (pe_callB call_abs (by rfl) T.b_abs bt_abs (pa_cons (pv 2) pa_nil)) pe_int) (pg_name (i := 3) sc__law_bag.nd rfl (by first | exact Or.inl rfl | exact Or.inr rfl)))
  (pss_one (ps_ret (pe_lst (pa_cons (pv 3) (pa_cons (pe_op uAdd (pe_op uAdd (pe_op op_mod (pe_callTy uInt (by rfl) T.b_int bt_int (pa_cons (pv 2) pa_nil)) pe_int) (pe_op uMul pe_int (pv 1))) pe_int) (pa_cons pe_int pa_nil)))))))), ?_⟩
    walk_at "rd"
    refine ⟨p, _, rfl, .inl hp, ?_⟩
    walk_at "rd"
    by_cases hc : at_ < xs.length
    · refine ifT (by simpa using hc) ?_
      walk_at "rd"
      refine ⟨p, _, _, .int xs[at_], rfl, rfl, hp, atI_nat (by rw [List.getElem?_map, List.getElem?_eq_getElem hc]; rfl), ?_⟩
      generalize xs[at_] = c
      walk_at "rd"
      refine ⟨c, rfl, ?_⟩
      walk_at "rd"
      refine s_I ⟨by decide, by decide, by decide⟩ ?_
      walk_at "rd"
      by_cases hb : (10 : Int) ^ (18 : Int).toNat ≤ (if c < 0 then -c else c)
      · refine ifT (decide_eq_true hb) ?_
        walk_at "rd"
        refine ⟨c, rfl, ?_⟩
        walk_at "rd"
        refine s_I (by decide) ?_
        have m0 : 0 ≤ c % 2305843009213693951 := Int.emod_nonneg _ (by decide)
        have m1 : c % 2305843009213693951 < 2305843009213693951 := Int.emod_lt_of_pos _ (by decide)
        generalize c % 2305843009213693951 = mm at m0 m1 ⊢
        walk_at "rd"
        refine s_mulI (mulOk (by decide) (by omega)) ?_
        walk_at "rd"
        intro b nb
        exact k b _ (Same.new nb) nb ⟨_, _, _, upd_same, by first | omega | (split <;> omega), by omega, by omega, by decide, by decide⟩
      · refine ifF (decide_eq_false hb) ?_
        walk_at "rd"
        refine s_I (by decide) ?_
        have m0 : 0 ≤ c % 2305843009213693951 := Int.emod_nonneg _ (by decide)
        have m1 : c % 2305843009213693951 < 2305843009213693951 := Int.emod_lt_of_pos _ (by decide)
        generalize c % 2305843009213693951 = mm at m0 m1 ⊢
        walk_at "rd"
        refine s_mulI (mulOk (by decide) (by omega)) ?_
        walk_at "rd"
        intro b nb
        exact k b _ (Same.new nb) nb ⟨_, _, _, upd_same, by first | omega | (split <;> omega), by omega, by omega, by decide, by decide⟩
    · refine ifF (by simpa using hc) ?_
      walk_at "rd"
      refine ⟨0, rfl, ?_⟩
      walk_at "rd"
      refine s_I ⟨by decide, by decide, by decide⟩ ?_
      walk_at "rd"
      by_cases hb : (10 : Int) ^ (18 : Int).toNat ≤ (if (0 : Int) < 0 then -0 else 0)
      · refine ifT (decide_eq_true hb) ?_
        walk_at "rd"
        refine ⟨0, rfl, ?_⟩
        walk_at "rd"
        refine s_I (by decide) ?_
        have m0 : 0 ≤ (0 : Int) % 2305843009213693951 := Int.emod_nonneg _ (by decide)
        have m1 : (0 : Int) % 2305843009213693951 < 2305843009213693951 := Int.emod_lt_of_pos _ (by decide)
        generalize (0 : Int) % 2305843009213693951 = mm at m0 m1 ⊢
        walk_at "rd"
        refine s_mulI (mulOk (by decide) (by omega)) ?_
        walk_at "rd"
        intro b nb
        exact k b _ (Same.new nb) nb ⟨_, _, _, upd_same, by first | omega | (split <;> omega), by omega, by omega, by decide, by decide⟩
      · refine ifF (decide_eq_false hb) ?_
        walk_at "rd"
        refine s_I (by decide) ?_
        have m0 : 0 ≤ (0 : Int) % 2305843009213693951 := Int.emod_nonneg _ (by decide)
        have m1 : (0 : Int) % 2305843009213693951 < 2305843009213693951 := Int.emod_lt_of_pos _ (by decide)
        generalize (0 : Int) % 2305843009213693951 = mm at m0 m1 ⊢
        walk_at "rd"
        refine s_mulI (mulOk (by decide) (by omega)) ?_
        walk_at "rd"
        intro b nb
        exact k b _ (Same.new nb) nb ⟨_, _, _, upd_same, by first | omega | (split <;> omega), by omega, by omega, by decide, by decide⟩
theorem b__law_bag (T : Tl P K mg a fd tk) : Binds K (fd 30) ["_law_script", "_law_at"] [] := T.F__law_bag.binds fun _ _ _ _ _ _ us hl => match us, hl with | [_, _], _ => rfl
end
end Tr
set_option maxHeartbeats 4000000

namespace Tr
open PySem L2 OXB LamX NdefX
section
variable {P : Program} {w : World} {K : PySem.W.Frag} {mg : Str → Option Value} {base : Heap} {a : Nat → Addr} {fd : Nat → FuncData} {tk : Nat → Tok}
local macro_rules | `(tactic| walk_at "ne") => `(tactic| first | assumption | (exact Ne.symm (by assumption)) | (refine ne_of_none (by assumption) (by assumption)) | (refine Ne.symm (ne_of_none (by assumption) (by assumption))))
local macro_rules | `(tactic| walk_at "hl") => `(tactic| first | assumption | with_reducible exact upd_same | ((with_reducible refine' Eq.trans (upd_ne ?hne) ?hrest); (case hne => walk_at "ne"); (case hrest => walk_at "hl")) | (refine' get_same ?hs ?hg; (case hs => assumption); (case hg => assumption)))
local macro_rules | `(tactic| walk_at "at") => `(tactic| first | with_reducible exact atI_0 _ _ | with_reducible exact atI_1 _ _ _ | with_reducible exact atI_2 _ _ _ _ | with_reducible exact atI_3 _ _ _ _ _ | assumption)
local macro_rules | `(tactic| walk_at "rd1") => `(tactic| first
  | with_reducible refine s_seq ?_ | with_reducible refine s_next ?_ | with_reducible refine s_if ?_ | with_reducible refine s_ret ?_ | with_reducible refine s_retN ?_ | with_reducible refine s_drop ?_ | with_reducible refine s_asg ?_ | with_reducible refine s_brk ?_ | with_reducible refine s_cont ?_
  | with_reducible refine s_gname ?_ | with_reducible refine s_c ?_ | with_reducible refine s_op ?_ | with_reducible refine s_un ?_ | with_reducible refine s_neg ?_ | with_reducible refine s_test ?_ | with_reducible refine s_tb ?_ | with_reducible refine s_not ?_ | with_reducible refine s_and ?_ | with_reducible refine s_or ?_ | with_reducible refine s_yes ?_
  | ((with_reducible refine' s_var ?hv ?_); (case hv => exact rfl))
  | with_reducible refine s_ifx ?_ | with_reducible refine s_andV ?_ | with_reducible refine s_orV ?_ | with_reducible refine s_notV ?_ | with_reducible refine s_chain ?_ | with_reducible refine s_nil ?_ | with_reducible refine s_cons ?_ | with_reducible refine s_lst ?_ | with_reducible refine s_tup ?_ | with_reducible refine s_cb ?_ | with_reducible refine s_call ?_ | with_reducible refine s_meth ?_ | with_reducible refine s_make ?_
  | with_reducible refine s_dnewK ?_ | with_reducible refine s_sl ?_ | with_reducible refine s_po0 ?_ | with_reducible refine s_po1 ?_ | with_reducible refine s_bm ?_ | with_reducible refine s_bm0 ?_
  | with_reducible refine s_bl ?_ | with_reducible refine s_int ?_ | with_reducible refine s_I0 ?_ | with_reducible refine s_addI ?_ | with_reducible refine s_intI ?_ | with_reducible refine s_intB ?_
  | with_reducible refine s_m1 ?_ | with_reducible refine s_lc ?_ | with_reducible refine s_ilist ?_ | with_reducible refine s_for ?_ | with_reducible refine s_irng ?_ | with_reducible refine s_match ?_ | with_reducible refine s_starT ?_ | with_reducible refine s_isS ?_ | with_reducible refine s_isiSS ?_ | with_reducible refine s_fldU ?_ | with_reducible refine s_sfldU ?_
  | ((with_reducible refine' s_eqS ?hq ?_); (case hq => exact rfl)) | ((with_reducible refine' s_neS ?hq ?_); (case hq => exact rfl))
  | ((with_reducible refine' s_isN ?hq ?_); (case hq => exact rfl)) | ((with_reducible refine' s_notN ?hq ?_); (case hq => exact rfl))
  | ((with_reducible refine' s_eqNil ?h1 ?h2 ?_); (case h1 => walk_at "hl"); (case h2 => walk_at "hl")) | ((with_reducible refine' s_neNil ?h1 ?h2 ?_); (case h1 => walk_at "hl"); (case h2 => walk_at "hl"))
  | ((with_reducible refine' s_ixL ?h1 ?h2 ?_); (case h1 => walk_at "hl"); (case h2 => walk_at "at")) | ((with_reducible refine' s_ixT ?h1 ?h2 ?_); (case h1 => walk_at "hl"); (case h2 => walk_at "at"))
  | ((with_reducible refine' s_inS ?h1 ?_); (case h1 => walk_at "hl")) | ((with_reducible refine' s_ninS ?h1 ?_); (case h1 => walk_at "hl")) | with_reducible refine s_inW ?_
  | ((with_reducible refine' s_lenL ?h1 ?_); (case h1 => walk_at "hl")) | ((with_reducible refine' s_lenT ?h1 ?_); (case h1 => walk_at "hl"))
  | ((with_reducible refine' s_tyL ?h1 ?_); (case h1 => walk_at "hl"))
  | ((with_reducible refine' s_fldM ?h1 ?h2 ?h3 ?_); (case h1 => walk_at "hl"); (case h2 => walk_at "fok"); (case h3 => walk_at "flk"))
  | ((with_reducible refine' s_setM ?h1 ?h2 ?h3 ?h4 ?_); (case h1 => walk_at "hl"); (case h2 => walk_at "fok"); (case h4 => walk_at "put"); (case h3 => exact Nat.le_of_ble_eq_true rfl))
  | ((with_reducible refine' s_starM ?h1 ?_); (case h1 => walk_at "hl"))
  | ((with_reducible refine' s_recv ?h1 ?h2 ?_); (case h1 => walk_at "hl"); (case h2 => exact rfl))
  | ((with_reducible refine' s_sz ?h1 ?_); (case h1 => (simp; done))))
local macro_rules | `(tactic| walk_at "rd") => `(tactic| repeat (walk_at "rd1"))
local macro_rules | `(tactic| walk_at "fok") => `(tactic| assumption)
local macro_rules | `(tactic| walk_at "flk") => `(tactic| rfl)
local macro_rules | `(tactic| walk_at "put") => `(tactic| exact rfl)

local macro_rules | `(tactic| walk_at "fok") => `(tactic| first | assumption | exact Tu.ce (by assumption) (by decide) | exact Tu.de (by assumption) (by decide) | exact Tu.ke (by assumption) (by decide) | exact Tu.fe (by assumption) (by decide) | exact Tu.ee (by assumption) (by decide))
theorem bag_lst {H : Hp} {b : Addr} {n : Nat} (h : BagD H b n) : ∃ xs, H b = some (.lst xs) := by
  obtain ⟨_, _, _, hb, _⟩ := h
  exact ⟨_, hb⟩
theorem bag_same {H H' : Hp} {b : Addr} {n : Nat} (h : BagD H b n) (s : Same H H') : BagD H' b n := by
  obtain ⟨dg, m, k, hb, r⟩ := h
  exact ⟨dg, m, k, s _ _ hb, r⟩
theorem bag_upd {H : Hp} {b x : Addr} {o : HO} {n : Nat} (h : BagD H b n) (ne : b ≠ x) : BagD (upd H x o) b n := by
  obtain ⟨dg, m, k, hb, r⟩ := h
  exact ⟨dg, m, k, by rw [upd_ne ne]; exact hb, r⟩
theorem fr_none {H H' : Hp} {b : Addr} {n k : Nat} (f : Fr H H' [b]) (h : BagD H b n) (h' : BagD H' b k) {y : Addr} (e : H' y = none) : H y = none := by
  cases q : H y with
  | none => rfl
  | some o =>
    by_cases c : y = b
    · obtain ⟨xs, hh⟩ := bag_lst h'
      rw [c, hh] at e
      cases e
    · rw [f y o q (by simpa using c)] at e
      cases e
section
variable {ω Λ : Type} {Y Y' : LawP ω Λ} {a : Nat → Addr} {H0 H H' : Hp} {g g' : Gh} {st st' : SW ω Λ} {b : Addr} {cnt cnt' : Nat} {os : List (Addr × HO)}
structure RC (a : Nat → Addr) (Y : LawP ω Λ) (H0 H : Hp) (g : Gh) (st : SW ω Λ) (b : Addr) (cnt : Nat) (os : List (Addr × HO)) : Prop where
  W : Wld a Y g st H
  B : BagD H b cnt
  ob : Out g b
  fr : ∀ x o, H0 x = some o → (∀ ps, o ≠ .tbl ps) → x ≠ b → H x = some o
  gn : ∀ x, H x = none → H0 x = none
  nT : ∀ x, g.T x → H0 x = none
  nL : ∀ x, g.L x → H0 x = none ∨ ∃ ps, H0 x = some (.tbl ps)
  b0 : ∃ o, H0 b = some o
  ow : ∀ p ∈ os, H p.1 = some p.2 ∧ Out g p.1 ∧ H0 p.1 = none ∧ Mut p.2
  nd : (os.map (·.1)).Nodup
theorem RC.get (R : RC a Y H0 H g st b cnt os) (i : Nat) {x : Addr} {o : HO} (h : os[i]? = some (x, o)) : H x = some o := (R.ow _ (List.mem_of_getElem? h)).1
theorem RC.out (R : RC a Y H0 H g st b cnt os) (i : Nat) {x : Addr} {o : HO} (h : os[i]? = some (x, o)) : Out g x := (R.ow _ (List.mem_of_getElem? h)).2.1
theorem RC.new0 (R : RC a Y H0 H g st b cnt os) (i : Nat) {x : Addr} {o : HO} (h : os[i]? = some (x, o)) : H0 x = none := (R.ow _ (List.mem_of_getElem? h)).2.2.1
theorem RC.bag_lst (R : RC a Y H0 H g st b cnt os) : ∃ ys, H b = some (.lst ys) := by
  obtain ⟨dg, m, k, hb, _⟩ := R.B
  exact ⟨_, hb⟩
theorem RC.nb (R : RC a Y H0 H g st b cnt os) (i : Nat) {x : Addr} {o : HO} (h : os[i]? = some (x, o)) : x ≠ b := by
  rintro rfl
  obtain ⟨o', e⟩ := R.b0
  rw [R.new0 i h] at e
  cases e
theorem RC.ne (R : RC a Y H0 H g st b cnt os) (i j : Nat) {x y : Addr} {o u : HO} (h : os[i]? = some (x, o)) (h' : os[j]? = some (y, u)) (n : i ≠ j) : x ≠ y := by
  rintro rfl
  have h1 : (os.map (·.1))[i]? = some x := by rw [List.getElem?_map, h]; rfl
  have h2 : (os.map (·.1))[j]? = some x := by rw [List.getElem?_map, h']; rfl
  exact n ((List.getElem?_inj (List.getElem?_eq_some_iff.mp h1).1 R.nd).mp (h1.trans h2.symm))
/-- texts and what is pinned stay -/
structure Kp (g : Gh) (H : Hp) (g' : Gh) (H' : Hp) : Prop where
  tu : ∀ x l, H x = some (.tup l) → H' x = some (.tup l)
  pi : ∀ x o, H x = some o → g.P x → H' x = some o ∧ g'.P x
  ad : ∀ n x, g.adr n = some x → g'.adr n = some x
  d : g'.d = g.d
theorem Kp.dv (k : Kp g H g' H') {v : V} {d : Dt} (h : DvS H v d) : DvS H' v d := h.stay k.tu
theorem Kp.log (k : Kp g H g' H') {vs : List V} {L : List (Str × Dt)} (h : LogU H vs L) : LogU H' vs L := h.stay k.tu
theorem Kp.tr {g2 : Gh} {H2 : Hp} (k : Kp g H g' H') (k2 : Kp g' H' g2 H2) : Kp g H g2 H2 := ⟨fun x l e => k2.tu _ _ (k.tu _ _ e), fun x o e p => (k.pi x o e p).elim fun e2 p2 => k2.pi _ _ e2 p2, fun n x e => k2.ad _ _ (k.ad _ _ e), k2.d.trans k.d⟩
theorem RC.same (R : RC a Y H0 H g st b cnt os) (s : Same H H') : RC a Y H0 H' g st b cnt os :=
  ⟨R.W.same s, bag_same R.B s, R.ob, fun x o h n hb => s _ _ (R.fr x o h n hb), fun x h => R.gn x (s.free h), R.nT, R.nL, R.b0, fun p hp => ⟨s _ _ (R.ow p hp).1, (R.ow p hp).2⟩, R.nd⟩
theorem Kp.same (s : Same H H') : Kp g H g H' := ⟨fun _ _ e => s _ _ e, fun _ _ e p => ⟨s _ _ e, p⟩, fun _ _ e => e, rfl⟩
theorem RC.more (R : RC a Y H0 H g st b cnt os) (h : cnt ≤ cnt') : RC a Y H0 H g st b cnt' os := ⟨R.W, R.B.more h, R.ob, R.fr, R.gn, R.nT, R.nL, R.b0, R.ow, R.nd⟩
/-- less is told -/
theorem RC.drop (R : RC a Y H0 H g st b cnt os) {os' : List (Addr × HO)} (h : os'.Sublist os) : RC a Y H0 H g st b cnt os' := ⟨R.W, R.B, R.ob, R.fr, R.gn, R.nT, R.nL, R.b0, fun p hp => R.ow p (h.subset hp), R.nd.sublist (h.map _)⟩
/-- a draw -/
theorem RC.bag (R : RC a Y H0 H g st b cnt os) (B : BagD H' b cnt') (f : Fr H H' [b]) : RC a Y H0 H' g st b cnt' os ∧ Kp g H g H' := by
  obtain ⟨ys, hb⟩ := R.bag_lst
  refine ⟨⟨R.W.fr f fun x hx => by rw [List.mem_singleton.mp hx]; exact ⟨R.ob, fun o e => by rw [hb] at e; cases e; exact fun z => z⟩, B, R.ob, fun x o h n hx => f _ _ (R.fr x o h n hx) (by simpa using hx), fun x h => R.gn x (fr_none f R.B B h), R.nT, R.nL, R.b0, fun p hp => ?_, R.nd⟩, ?_⟩
  · obtain ⟨h1, h2, h3, h4⟩ := R.ow p hp
    refine ⟨f _ _ h1 ?_, h2, h3, h4⟩
    rw [List.mem_singleton]
    intro z
    rw [z] at h3
    obtain ⟨o', e⟩ := R.b0
    rw [h3] at e
    cases e
  · exact ⟨fun x l e => f _ _ e (by simpa using ne_of e hb (by intro z; cases z)), fun x o e p => ⟨f _ _ e (by simp; rintro rfl; exact R.ob.p p), p⟩, fun _ _ e => e, rfl⟩
/-- a new object -/
theorem RC.new (R : RC a Y H0 H g st b cnt os) {x : Addr} {o : HO} (h : H x = none) (m : Mut o := by trivial) : RC a Y H0 (L2.upd H x o) g st b cnt (os ++ [(x, o)]) ∧ Kp g H g (L2.upd H x o) := by
  have s : Same H (L2.upd H x o) := Same.new h
  have R' := R.same s
  refine ⟨⟨R'.W, R'.B, R'.ob, R'.fr, R'.gn, R'.nT, R'.nL, R'.b0, fun p hp => ?_, ?_⟩, Kp.same s⟩
  · rcases List.mem_append.mp hp with z | z
    · exact R'.ow p z
    · rw [List.mem_singleton.mp z]
      exact ⟨upd_same, R.W.out h, R.gn x h, m⟩
  · rw [List.map_append, List.nodup_append]
    refine ⟨R.nd, by simp, fun y hy z hz => ?_⟩
    simp at hz
    obtain ⟨p, hp, e⟩ := List.mem_map.mp hy
    rintro rfl
    have := (R.ow p hp).1
    rw [e, hz, h] at this
    cases this
/-- .. that never changes -/
theorem RC.newI (R : RC a Y H0 H g st b cnt os) {x : Addr} {o : HO} (h : H x = none) : RC a Y H0 (L2.upd H x o) g st b cnt os ∧ Kp g H g (L2.upd H x o) := ⟨R.same (Same.new h), Kp.same (Same.new h)⟩
/-- .. of what has been made beside other things -/
theorem RC.newS (R : RC a Y H0 H g st b cnt os) {x : Addr} {o : HO} (s : Same H H') (h : H x = none) (hx : H' x = some o) (m : Mut o := by trivial) : RC a Y H0 H' g st b cnt (os ++ [(x, o)]) := by
  have R' := R.same s
  refine ⟨R'.W, R'.B, R'.ob, R'.fr, R'.gn, R'.nT, R'.nL, R'.b0, fun p hp => ?_, ?_⟩
  · rcases List.mem_append.mp hp with z | z
    · exact R'.ow p z
    · rw [List.mem_singleton.mp z]
      exact ⟨hx, R.W.out h, R.gn x h, m⟩
  · rw [List.map_append, List.nodup_append]
    refine ⟨R.nd, by simp, fun y hy z hz => ?_⟩
    simp at hz
    obtain ⟨p, hp, e⟩ := List.mem_map.mp hy
    rintro rfl
    have := (R.ow p hp).1
    rw [e, hz, h] at this
    cases this
/-- an own object changes -/
theorem RC.set (R : RC a Y H0 H g st b cnt os) (i : Nat) {x : Addr} {o o' : HO} (h : os[i]? = some (x, o)) (m : Mut o' := by trivial) : RC a Y H0 (L2.upd H x o') g st b cnt (os.set i (x, o')) ∧ Kp g H g (L2.upd H x o') := by
  obtain ⟨h1, h2, h3, h4⟩ := R.ow _ (List.mem_of_getElem? h)
  have xb := R.nb i h
  refine ⟨⟨R.W.other h1 h2 (fun i => by cases o <;> first | exact i | exact h4), bag_upd R.B xb.symm, R.ob, fun y u h n hy => by rw [upd_ne (ne_of_none h h3)]; exact R.fr y u h n hy, fun y h => R.gn y (by
    by_cases c : y = x
    · rw [c, upd_same] at h; cases h
    · rw [upd_ne c] at h; exact h), R.nT, R.nL, R.b0, fun p hp => ?_, ?_⟩, ?_⟩
  · obtain ⟨j, e⟩ := List.mem_iff_getElem?.mp hp
    by_cases c : i = j
    · subst c
      have e0 : (os.set i (x, o'))[i]? = some (x, o') := by rw [List.getElem?_set_self (List.getElem?_eq_some_iff.mp h).1]
      rw [e0] at e
      cases e
      exact ⟨upd_same, h2, h3, m⟩
    · rw [List.getElem?_set_ne c] at e
      obtain ⟨k1, k2, k3, k4⟩ := R.ow _ (List.mem_of_getElem? e)
      exact ⟨by rw [upd_ne (R.ne j i (x := p.1) (o := p.2) e h (Ne.symm c))]; exact k1, k2, k3, k4⟩
  · rw [List.map_set]
    have : (os.map (·.1)).set i x = os.map (·.1) := by
      refine List.ext_getElem? fun j => ?_
      by_cases c : i = j
      · subst c
        rw [List.getElem?_set_self (by rw [List.length_map]; exact (List.getElem?_eq_some_iff.mp h).1), List.getElem?_map, h]
        rfl
      · rw [List.getElem?_set_ne c]
    rw [this]
    exact R.nd
  · exact ⟨fun y l e => by rw [upd_ne (ne_of e h1 (by intro z; rw [← z] at h4; exact h4))]; exact e, fun y u e p => ⟨by rw [upd_ne (by rintro rfl; exact h2.p p)]; exact e, p⟩, fun _ _ e => e, rfl⟩
/-- the desk does something -/
theorem RC.step (R : RC a Y H0 H g st b cnt os) (W' : Wld a Y' g' st' H') (t : Step g H g' H') : RC a Y' H0 H' g' st' b cnt os ∧ Kp g H g' H' := by
  obtain ⟨dg, m, k, hb, r⟩ := R.B
  refine ⟨⟨W', ⟨dg, m, k, t.st _ _ hb R.ob.t R.ob.l, r⟩, R.ob.step t hb, fun x o h n hx => t.st0 _ _ (R.fr x o h n hx) n (fun z => by have := R.nT x z; rw [h] at this; cases this) (fun z => (R.nL x z).elim (fun e => by rw [h] at e; cases e) fun ⟨ps, e⟩ => by rw [h] at e; cases e; exact n _ rfl), fun x h => R.gn x (t.none h),
    fun x h => (t.nT x h).elim (R.nT x) (R.gn x), fun x h => (t.nL x h).elim (R.nL x) fun z => .inl (R.gn x z), R.b0, fun p hp => ?_, R.nd⟩, ?_⟩
  · obtain ⟨h1, h2, h3, h4⟩ := R.ow p hp
    exact ⟨t.st0 _ _ h1 (fun ps z => by rw [z] at h4; exact h4) h2.t h2.l, h2.step t h1, h3, h4⟩
  · exact ⟨fun x l e => R.W.tupS t e, fun x o e p => by
      obtain ⟨c, w⟩ := R.W
      obtain ⟨⟨o', e', n⟩, n1, n2⟩ := w.pp x p
      rw [e] at e'
      cases e'
      exact ⟨t.st0 _ _ e n n1 n2, t.P x p⟩, t.adr, t.d⟩
/-- a lambda is made -/
theorem RC.lam {P : Addr} (R : RC a Y H0 H g st b cnt os) (ext : ExtN H H') (et : ExtT P H H') (nn : ∀ b, H' b = none → H b = none) (gP : g.L P) (la : Y.LA st.2 g H') : RC a Y H0 H' g st b cnt os ∧ Kp g H g H' := by
  obtain ⟨W', t⟩ := R.W.lam ext et nn gP la
  exact R.step W' t
/-- what is leant on from now on -/
theorem RC.pinA {S : DS ω} {l : Λ} {A : Addr → Prop} (R : RC a Y H0 H g (S, l) b cnt os) (hA : ∀ x, A x → (∃ o, H x = some o ∧ ∀ ps, o ≠ .tbl ps) ∧ ¬ g.T x ∧ ¬ g.L x) (hb : ¬ A b) (ho : ∀ p ∈ os, ¬ A p.1) : RC a Y H0 H (g.pinA A) (S, l) b cnt os ∧ Kp g H (g.pinA A) H :=
  ⟨⟨R.W.pinA hA, R.B, ⟨R.ob.t, R.ob.l, fun z => z.elim R.ob.p hb⟩, R.fr, R.gn, R.nT, R.nL, R.b0, fun p hp => by
    obtain ⟨h1, h2, h3, h4⟩ := R.ow p hp
    exact ⟨h1, ⟨h2.t, h2.l, fun z => z.elim h2.p (ho p hp)⟩, h3, h4⟩, R.nd⟩, ⟨fun _ _ e => e, fun _ _ e p => ⟨e, .inl p⟩, fun _ _ e => e, rfl⟩⟩
/-- an own object is handed over to the works: pinned -/
theorem RC.pin {S : DS ω} {l : Λ} (R : RC a Y H0 H g (S, l) b cnt os) (i : Nat) {x : Addr} {o : HO} (h : os[i]? = some (x, o)) : RC a Y H0 H (g.pinA fun y => y = x) (S, l) b cnt (os.eraseIdx i) ∧ Kp g H (g.pinA fun y => y = x) H := by
  obtain ⟨h1, h2, h3, h4⟩ := R.ow _ (List.mem_of_getElem? h)
  refine (R.drop (List.eraseIdx_sublist os i)).pinA (fun y hy => ?_) (fun z => R.nb i h z.symm) fun p hp z => ?_
  · rw [hy]
    exact ⟨⟨o, h1, fun ps z => by rw [z] at h4; exact h4⟩, h2.t, h2.l⟩
  · obtain ⟨j, e⟩ := List.mem_iff_getElem?.mp hp
    rw [List.getElem?_eraseIdx] at e
    split at e
    · exact R.ne j i (x := p.1) (o := p.2) e h (by omega) z
    · exact R.ne (j + 1) i (x := p.1) (o := p.2) e h (by omega) z
end
section
variable {ω Λ : Type} {Y : LawP ω Λ}
/-- nothing but the tables is the law's -/
def tabL (T : List (Addr × Str)) : Addr → Prop := fun x => ∃ p ∈ T, p.1 = x
theorem RC.start {a : Nat → Addr} {H0 H1 : Hp} {d dx b : Addr} {c : Cn} {n : Nat} {T : List (Addr × Str)} {l : Λ} (B : BagD H0 b n) (hT : Tabs T H0) (nd : H0 d = none) (ndx : H0 dx = none) (hne : dx ≠ d) (N : DeskNew a (upd (upd H0 dx (.own d)) d (.ins (a 3) dx [])) H1 d c)
    (la : ∀ g H, TabsL T g H → Y.LA l g H) : RC a Y H0 H1 (gNew d c (tabL T)) (DS.new, l) b n [] ∧ Same H0 H1 := by
  have up : ∀ x o, H0 x = some o → upd (upd H0 dx (.own d)) d (.ins (a 3) dx []) x = some o := fun x o h => by rw [upd_ne (ne_of_none h nd), upd_ne (ne_of_none h ndx)]; exact h
  have sG : Same H0 H1 := fun x o h => N.keep x o (up x o h) (ne_of_none h nd)
  have dn : ∀ x ∈ [d, c.un, c.cs, c.rd, c.ef, c.lg, c.mv, c.fr], H0 x = none := fun x hx => by
    rcases List.mem_cons.mp hx with rfl | hx
    · exact nd
    · cases e : H0 x with
      | none => rfl
      | some o =>
        have := N.new x hx
        rw [up x o e] at this
        cases this
  have tn : ∀ x, tabL T x → ∃ ps, H0 x = some (.tbl ps) := fun x ⟨p, hp, e⟩ => by
    obtain ⟨ps, h, _⟩ := hT p hp
    exact ⟨ps, by rw [← e]; exact h⟩
  obtain ⟨dg, m, k, hb, hr⟩ := B
  have W : Wld a Y (gNew d c (tabL T)) (DS.new, l) H1 := N.wld (la _ _ ⟨fun p hp => ⟨p, hp, rfl⟩, hT.ext sG⟩) fun x hx => by
    obtain ⟨ps, e⟩ := tn x hx
    exact ⟨⟨_, sG _ _ e, trivial⟩, fun z => by rw [dn x z] at e; cases e⟩
  refine ⟨⟨W, ⟨dg, m, k, sG _ _ hb, hr⟩, ⟨fun z => ?_, fun z => ?_, fun z => ?_⟩, fun x o h _ _ => sG _ _ h, fun x h => sG.free h, fun x h => dn x (List.mem_of_mem_take (i := 7) h), fun x h => .inr (tn x h), ⟨_, hb⟩, fun p hp => (by cases hp), List.nodup_nil⟩, sG⟩
  · have := dn b (List.mem_of_mem_take (i := 7) z)
    rw [hb] at this
    cases this
  · obtain ⟨ps, e⟩ := tn b z
    rw [hb] at e
    cases e
  · have := dn b (by rw [show b = c.fr from z]; simp)
    rw [hb] at this
    cases this
/-- an own object becomes the law's -/
theorem RC.toL {Y' : LawP ω Λ} {a : Nat → Addr} {H0 H : Hp} {g : Gh} {S : DS ω} {l l' : Λ} {b : Addr} {cnt : Nat} {os : List (Addr × HO)} (R : RC a Y H0 H g (S, l) b cnt os) (i : Nat) {x : Addr} {o : HO} (h : os[i]? = some (x, o)) (la : Y'.LA l' (g.lawL fun y => g.L y ∨ y = x) H)
    (cl : ∀ w f, Y.CL w f (g.lawL fun y => g.L y ∨ y = x) H → Y'.CL w f (g.lawL fun y => g.L y ∨ y = x) H) (hla : Y.LA l g H → Y.LA l (g.lawL fun y => g.L y ∨ y = x) H) : RC a Y' H0 H (g.lawL fun y => g.L y ∨ y = x) (S, l') b cnt (os.eraseIdx i) := by
  obtain ⟨h1, h2, h3, h4⟩ := R.ow _ (List.mem_of_getElem? h)
  have W1 : Wld a Y (g.lawL fun y => g.L y ∨ y = x) (S, l) H := by
    obtain ⟨c, w⟩ := id R.W
    exact R.W.law ⟨rfl, fun _ _ h => h, fun _ h => h, fun _ _ e _ => e, fun _ _ e _ => e⟩ (fun _ _ e _ _ _ => e) (fun y hy => by
      rcases hy with z | z
      · exact ⟨w.lo y z, fun q => w.dj y q z, fun q => (w.pp y q).2.2 z⟩
      · rw [z]; exact ⟨⟨o, h1, h4.l⟩, h2.t, h2.p⟩) (fun y q z => z.elim (w.dj y q) fun e => h2.t (e ▸ q)) (hla w.la)
  have W2 : Wld a Y' (g.lawL fun y => g.L y ∨ y = x) (S, l') H := by
    obtain ⟨c, w⟩ := W1
    exact ⟨c, w.sl, w.inj, w.inT, w.frl, w.frP, w.pp, w.vr, w.ok, la, w.lo, w.dj, w.mu, fun n t k f h1 h2 h3 => cl k f (w.cl n t k f h1 h2 h3)⟩
  refine ⟨W2, R.B, ⟨R.ob.t, fun z => z.elim R.ob.l fun e => R.nb i h e.symm, R.ob.p⟩, R.fr, R.gn, R.nT, fun y z => z.elim (R.nL y) fun e => .inl (by rw [e]; exact h3), R.b0, fun p hp => ?_, R.nd.sublist ((List.eraseIdx_sublist os i).map _)⟩
  obtain ⟨k1, k2, k3, k4⟩ := R.ow p ((List.eraseIdx_sublist os i).subset hp)
  refine ⟨k1, ⟨k2.t, fun z => z.elim k2.l fun e => ?_, k2.p⟩, k3, k4⟩
  obtain ⟨j, e2⟩ := List.mem_iff_getElem?.mp hp
  rw [List.getElem?_eraseIdx] at e2
  split at e2
  · exact R.ne j i (x := p.1) (o := p.2) e2 h (by omega) e
  · exact R.ne (j + 1) i (x := p.1) (o := p.2) e2 h (by omega) e
end
end
end Tr
set_option maxHeartbeats 4000000

namespace Tr
open PySem L2 OXB
section
variable {P : Program} {w : World} {K : PySem.W.Frag} {mg : Str → Option Value} {base : Heap} {a : Nat → Addr} {fd : Nat → FuncData} {tk : Nat → Tok}
local macro_rules | `(tactic| walk_at "ne") => `(tactic| first | assumption | (exact Ne.symm (by assumption)) | (refine ne_of_none (by assumption) (by assumption)) | (refine Ne.symm (ne_of_none (by assumption) (by assumption))))
local macro_rules | `(tactic| walk_at "hl") => `(tactic| first | assumption | with_reducible exact upd_same | ((with_reducible refine' Eq.trans (upd_ne ?hne) ?hrest); (case hne => walk_at "ne"); (case hrest => walk_at "hl")) | (refine' get_same ?hs ?hg; (case hs => assumption); (case hg => assumption)))
local macro_rules | `(tactic| walk_at "at") => `(tactic| first | with_reducible exact atI_0 _ _ | with_reducible exact atI_1 _ _ _ | with_reducible exact atI_2 _ _ _ _ | with_reducible exact atI_3 _ _ _ _ _ | assumption)
local macro_rules | `(tactic| walk_at "rd1") => `(tactic| first
  | with_reducible refine s_seq ?_ | with_reducible refine s_next ?_ | with_reducible refine s_if ?_ | with_reducible refine s_ret ?_ | with_reducible refine s_retN ?_ | with_reducible refine s_drop ?_ | with_reducible refine s_asg ?_ | with_reducible refine s_brk ?_ | with_reducible refine s_cont ?_
  | with_reducible refine s_gname ?_ | with_reducible refine s_c ?_ | with_reducible refine s_op ?_ | with_reducible refine s_un ?_ | with_reducible refine s_neg ?_ | with_reducible refine s_test ?_ | with_reducible refine s_tb ?_ | with_reducible refine s_not ?_ | with_reducible refine s_and ?_ | with_reducible refine s_or ?_ | with_reducible refine s_yes ?_
  | ((with_reducible refine' s_var ?hv ?_); (case hv => exact rfl))
  | with_reducible refine s_ifx ?_ | with_reducible refine s_andV ?_ | with_reducible refine s_orV ?_ | with_reducible refine s_notV ?_ | with_reducible refine s_chain ?_ | with_reducible refine s_nil ?_ | with_reducible refine s_cons ?_ | with_reducible refine s_lst ?_ | with_reducible refine s_tup ?_ | with_reducible refine s_cb ?_ | with_reducible refine s_call ?_ | with_reducible refine s_meth ?_ | with_reducible refine s_make ?_
  | with_reducible refine s_dnewK ?_ | with_reducible refine s_sl ?_ | with_reducible refine s_po0 ?_ | with_reducible refine s_po1 ?_ | with_reducible refine s_bm ?_ | with_reducible refine s_bm0 ?_
  | with_reducible refine s_bl ?_ | with_reducible refine s_int ?_ | with_reducible refine s_I0 ?_ | with_reducible refine s_addI ?_ | with_reducible refine s_intI ?_ | with_reducible refine s_intB ?_
  | with_reducible refine s_m1 ?_ | with_reducible refine s_lc ?_ | with_reducible refine s_ilist ?_ | with_reducible refine s_for ?_ | with_reducible refine s_irng ?_ | with_reducible refine s_match ?_ | with_reducible refine s_starT ?_ | with_reducible refine s_isS ?_ | with_reducible refine s_isiSS ?_ | with_reducible refine s_fldU ?_ | with_reducible refine s_sfldU ?_
  | ((with_reducible refine' s_eqS ?hq ?_); (case hq => exact rfl)) | ((with_reducible refine' s_neS ?hq ?_); (case hq => exact rfl))
  | ((with_reducible refine' s_isN ?hq ?_); (case hq => exact rfl)) | ((with_reducible refine' s_notN ?hq ?_); (case hq => exact rfl))
  | ((with_reducible refine' s_eqNil ?h1 ?h2 ?_); (case h1 => walk_at "hl"); (case h2 => walk_at "hl")) | ((with_reducible refine' s_neNil ?h1 ?h2 ?_); (case h1 => walk_at "hl"); (case h2 => walk_at "hl"))
  | ((with_reducible refine' s_ixL ?h1 ?h2 ?_); (case h1 => walk_at "hl"); (case h2 => walk_at "at")) | ((with_reducible refine' s_ixT ?h1 ?h2 ?_); (case h1 => walk_at "hl"); (case h2 => walk_at "at"))
  | ((with_reducible refine' s_inS ?h1 ?_); (case h1 => walk_at "hl")) | ((with_reducible refine' s_ninS ?h1 ?_); (case h1 => walk_at "hl")) | with_reducible refine s_inW ?_
  | ((with_reducible refine' s_lenL ?h1 ?_); (case h1 => walk_at "hl")) | ((with_reducible refine' s_lenT ?h1 ?_); (case h1 => walk_at "hl"))
  | ((with_reducible refine' s_tyL ?h1 ?_); (case h1 => walk_at "hl"))
  | ((with_reducible refine' s_fldM ?h1 ?h2 ?h3 ?_); (case h1 => walk_at "hl"); (case h2 => walk_at "fok"); (case h3 => walk_at "flk"))
  | ((with_reducible refine' s_setM ?h1 ?h2 ?h3 ?h4 ?_); (case h1 => walk_at "hl"); (case h2 => walk_at "fok"); (case h4 => walk_at "put"); (case h3 => exact Nat.le_of_ble_eq_true rfl))
  | ((with_reducible refine' s_starM ?h1 ?_); (case h1 => walk_at "hl"))
  | ((with_reducible refine' s_recv ?h1 ?h2 ?_); (case h1 => walk_at "hl"); (case h2 => exact rfl))
  | ((with_reducible refine' s_sz ?h1 ?_); (case h1 => (simp; done))))
local macro_rules | `(tactic| walk_at "rd") => `(tactic| repeat (walk_at "rd1"))
local macro_rules | `(tactic| walk_at "fok") => `(tactic| assumption)
local macro_rules | `(tactic| walk_at "flk") => `(tactic| rfl)
local macro_rules | `(tactic| walk_at "put") => `(tactic| exact rfl)

local macro_rules | `(tactic| walk_at "fok") => `(tactic| first | assumption | exact Tu.ce (by assumption) (by decide) | exact Tu.de (by assumption) (by decide) | exact Tu.ke (by assumption) (by decide) | exact Tu.fe (by assumption) (by decide) | exact Tu.ee (by assumption) (by decide))
section
variable {ω Λ : Type} {Y : LawP ω Λ}
/-- a quiet call of something that does m -/
theorem quiet_of {csp : V → List V → Hp → VK → XK → Prop} {g : Gh} {st : SW ω Λ} {H : Hp} {f : V} {args : List V} {m : MM ω Λ Dt} {Q : VK} {E : XK} (W : Wld a Y g st H) (hl : args.length ≤ sizeLine)
    (hc : ∀ g1 st1 H1 Q1 E1, Wld a Y g1 st1 H1 → Step g H g1 H1 → Post a Y g1 H1 (DtQ Q1) (ErQ a E1) (m st1) → csp f args H1 Q1 E1) (k : Post a Y g H (DtQ Q) (ErQ a E) (quietlyM m st)) :
    ∃ ws rest, V.ref g.d :: f :: args = ws ++ rest ∧ ws.length = 2 ∧ rest.length ≤ sizeLine ∧ ∀ p, H p = Option.none → spQuiet0 a Y csp (ws ++ [V.ref p]) (upd H p (.tup rest)) Q E := by
  refine ⟨[V.ref g.d, f], args, rfl, rfl, hl, fun p np => ?_⟩
  have sp := Same.new (o := .tup args) np
  have hp : upd H p (.tup args) p = some (.tup args) := upd_same
  generalize upd H p (.tup args) = H3 at sp hp ⊢
  have tp : Step g H g H3 := (DStep.same sp).toStep
  obtain ⟨S, l⟩ := st
  refine ⟨g, (S, l), f, p, args, rfl, W.same sp, hp, ?_⟩
  unfold quietlyM at k
  cases e : S.frs.getLast? with
  | none =>
    simp only [e] at k
    exact .inl ⟨by simpa using e, hc _ _ _ _ _ (W.same sp) tp (k.from tp)⟩
  | some fm =>
    simp only [e] at k
    refine .inr ⟨fm, rfl, fun g1 H1 W1 t1 Q' E' hQ hE => hc _ _ _ _ _ W1 (tp.tr t1) ?_⟩
    cases em : m ({ S with frs := hushLast true S.frs }, l) with
    | none => rw [MM.fin_none em] at k; exact k.elim
    | some pr =>
      obtain ⟨r, s2⟩ := pr
      rw [MM.fin_some em] at k
      cases r with
      | ok d =>
        refine Post.mkOk fun g2 H2 W2 t2 u hu => hQ u H2 ⟨g2, s2, W2, t2, fun g3 H3 W3 t3 => ?_⟩
        exact k.ok W3 (((tp.tr t1).tr t2).tr t3.toStep) u (hu.stay fun x l e => W2.tupS t3.toStep e)
      | error er =>
        refine Post.mkErr fun g2 H2 W2 t2 dd hd => hE _ dd H2 ⟨g2, s2, W2, t2, fun g3 H3 W3 t3 => ?_⟩
        refine k.err W3 (((tp.tr t1).tr t2).tr t3.toStep) dd (hd.stay (fun x o e n1 n2 => ⟨t3.stD x o e n1, t3.toStep.notT e n1, by rw [t3.eL]; exact n2⟩) fun x l e => W2.tupS t3.toStep e)
end
end
end Tr
set_option maxHeartbeats 4000000

namespace Tr
open PySem L2 OXB LamX NdefX
section
variable {P : Program} {w : World} {K : PySem.W.Frag} {mg : Str → Option Value} {base : Heap} {a : Nat → Addr} {fd : Nat → FuncData} {tk : Nat → Tok}
local macro_rules | `(tactic| walk_at "ne") => `(tactic| first | assumption | (exact Ne.symm (by assumption)) | (refine ne_of_none (by assumption) (by assumption)) | (refine Ne.symm (ne_of_none (by assumption) (by assumption))))
local macro_rules | `(tactic| walk_at "hl") => `(tactic| first | assumption | with_reducible exact upd_same | ((with_reducible refine' Eq.trans (upd_ne ?hne) ?hrest); (case hne => walk_at "ne"); (case hrest => walk_at "hl")) | (refine' get_same ?hs ?hg; (case hs => assumption); (case hg => assumption)))
local macro_rules | `(tactic| walk_at "at") => `(tactic| first | with_reducible exact atI_0 _ _ | with_reducible exact atI_1 _ _ _ | with_reducible exact atI_2 _ _ _ _ | with_reducible exact atI_3 _ _ _ _ _ | assumption)
local macro_rules | `(tactic| walk_at "rd1") => `(tactic| first
  | with_reducible refine s_seq ?_ | with_reducible refine s_next ?_ | with_reducible refine s_if ?_ | with_reducible refine s_ret ?_ | with_reducible refine s_retN ?_ | with_reducible refine s_drop ?_ | with_reducible refine s_asg ?_ | with_reducible refine s_brk ?_ | with_reducible refine s_cont ?_
  | with_reducible refine s_gname ?_ | with_reducible refine s_c ?_ | with_reducible refine s_op ?_ | with_reducible refine s_un ?_ | with_reducible refine s_neg ?_ | with_reducible refine s_test ?_ | with_reducible refine s_tb ?_ | with_reducible refine s_not ?_ | with_reducible refine s_and ?_ | with_reducible refine s_or ?_ | with_reducible refine s_yes ?_
  | ((with_reducible refine' s_var ?hv ?_); (case hv => exact rfl))
  | with_reducible refine s_ifx ?_ | with_reducible refine s_andV ?_ | with_reducible refine s_orV ?_ | with_reducible refine s_notV ?_ | with_reducible refine s_chain ?_ | with_reducible refine s_nil ?_ | with_reducible refine s_cons ?_ | with_reducible refine s_lst ?_ | with_reducible refine s_tup ?_ | with_reducible refine s_cb ?_ | with_reducible refine s_call ?_ | with_reducible refine s_meth ?_ | with_reducible refine s_make ?_
  | with_reducible refine s_dnewK ?_ | with_reducible refine s_sl ?_ | with_reducible refine s_po0 ?_ | with_reducible refine s_po1 ?_ | with_reducible refine s_bm ?_ | with_reducible refine s_bm0 ?_
  | with_reducible refine s_bl ?_ | with_reducible refine s_int ?_ | with_reducible refine s_I0 ?_ | with_reducible refine s_addI ?_ | with_reducible refine s_intI ?_ | with_reducible refine s_intB ?_
  | with_reducible refine s_m1 ?_ | with_reducible refine s_lc ?_ | with_reducible refine s_ilist ?_ | with_reducible refine s_for ?_ | with_reducible refine s_irng ?_ | with_reducible refine s_match ?_ | with_reducible refine s_starT ?_ | with_reducible refine s_isS ?_ | with_reducible refine s_isiSS ?_ | with_reducible refine s_fldU ?_ | with_reducible refine s_sfldU ?_
  | ((with_reducible refine' s_eqS ?hq ?_); (case hq => exact rfl)) | ((with_reducible refine' s_neS ?hq ?_); (case hq => exact rfl))
  | ((with_reducible refine' s_isN ?hq ?_); (case hq => exact rfl)) | ((with_reducible refine' s_notN ?hq ?_); (case hq => exact rfl))
  | ((with_reducible refine' s_eqNil ?h1 ?h2 ?_); (case h1 => walk_at "hl"); (case h2 => walk_at "hl")) | ((with_reducible refine' s_neNil ?h1 ?h2 ?_); (case h1 => walk_at "hl"); (case h2 => walk_at "hl"))
  | ((with_reducible refine' s_ixL ?h1 ?h2 ?_); (case h1 => walk_at "hl"); (case h2 => walk_at "at")) | ((with_reducible refine' s_ixT ?h1 ?h2 ?_); (case h1 => walk_at "hl"); (case h2 => walk_at "at"))
  | ((with_reducible refine' s_inS ?h1 ?_); (case h1 => walk_at "hl")) | ((with_reducible refine' s_ninS ?h1 ?_); (case h1 => walk_at "hl")) | with_reducible refine s_inW ?_
  | ((with_reducible refine' s_lenL ?h1 ?_); (case h1 => walk_at "hl")) | ((with_reducible refine' s_lenT ?h1 ?_); (case h1 => walk_at "hl"))
  | ((with_reducible refine' s_tyL ?h1 ?_); (case h1 => walk_at "hl"))
  | ((with_reducible refine' s_fldM ?h1 ?h2 ?h3 ?_); (case h1 => walk_at "hl"); (case h2 => walk_at "fok"); (case h3 => walk_at "flk"))
  | ((with_reducible refine' s_setM ?h1 ?h2 ?h3 ?h4 ?_); (case h1 => walk_at "hl"); (case h2 => walk_at "fok"); (case h4 => walk_at "put"); (case h3 => exact Nat.le_of_ble_eq_true rfl))
  | ((with_reducible refine' s_starM ?h1 ?_); (case h1 => walk_at "hl"))
  | ((with_reducible refine' s_recv ?h1 ?h2 ?_); (case h1 => walk_at "hl"); (case h2 => exact rfl))
  | ((with_reducible refine' s_sz ?h1 ?_); (case h1 => (simp; done))))
local macro_rules | `(tactic| walk_at "rd") => `(tactic| repeat (walk_at "rd1"))
local macro_rules | `(tactic| walk_at "fok") => `(tactic| assumption)
local macro_rules | `(tactic| walk_at "flk") => `(tactic| rfl)
local macro_rules | `(tactic| walk_at "put") => `(tactic| exact rfl)

local macro_rules | `(tactic| walk_at "fok") => `(tactic| first | assumption | exact Tu.ce (by assumption) (by decide) | exact Tu.de (by assumption) (by decide) | exact Tu.ke (by assumption) (by decide) | exact Tu.fe (by assumption) (by decide) | exact Tu.ee (by assumption) (by decide))
def aN : Str := "a"
structure Wk where
  cl : List (Str × Addr)
  cd : Addr
  step : Int
  limit : Int
  road : Int
def up (step limit v : Int) : Int := if v + step < limit then v + step else limit
section
variable {Λ : Type}
def upS (step limit : Int) (S : DS Wk) (u : Int) : DS Wk := { (S.setTh aN (.cell (up step limit u))) with mv := if up step limit u = u then S.mv else S.mv ++ [aN] }
def upM (step limit : Int) : MM Wk Λ Dt := fun s => match s.1.frs.getLast? with
  | none => none
  | some f => if f.isA then none else match s.1.th aN with
    | some (.cell u) => if s.1.mv.length < 9000 then some (.ok (.int (up step limit u)), (upS step limit s.1 u, s.2)) else none
    | _ => none
def workM (w : Wk) : MM Wk Λ Dt :=
  if w.road = 0 then MM.bind (readCM aN) fun d => MM.bind (upM w.step w.limit) fun _ => MM.ok d
  else if w.road = 1 then MM.bind (upM w.step w.limit) fun _ => readCM aN
  else if w.road = 2 then MM.bind (valueM aN) fun d => MM.bind (upM w.step w.limit) fun _ => MM.ok d
  else if w.road = 3 then MM.bind (quietlyM (readCM aN)) fun d => MM.bind (upM w.step w.limit) fun _ => MM.ok d
  else MM.bind (readCM aN) fun d => MM.bind (quietlyM (upM w.step w.limit)) fun _ => MM.bind (readCM aN) fun e => MM.ok (.tuple [d, e])
def wkE : Wk → MM Wk Λ Dt := fun w => MM.calm (workM w)
def wk0 : Wk → MM Wk Λ Dt := fun _ _ => none
theorem put_up {step limit : Int} {s s' : SW Wk Λ} {d : Dt} (h : upM step limit s = some (.ok d, s')) : ∃ u, s.1.th aN = some (.cell u) ∧ d = .int (up step limit u) ∧ s' = (upS step limit s.1 u, s.2) ∧ putM wk0 valueM aN (up step limit u) s = some (.ok (), s') := by
  unfold upM at h
  cases e : s.1.frs.getLast? with
  | none => simp only [e] at h; cases h
  | some f =>
    simp only [e] at h
    cases ea : f.isA with
    | true => rw [if_pos ea] at h; cases h
    | false =>
      rw [if_neg (by rw [ea]; decide)] at h
      cases et : s.1.th aN with
      | none => simp only [et] at h; cases h
      | some t => cases t with
        | kept _ _ _ _ => simp only [et] at h; cases h
        | eff _ _ _ _ => simp only [et] at h; cases h
        | cell u =>
          simp only [et] at h
          split at h
          · rename_i hm
            cases h
            refine ⟨u, rfl, rfl, rfl, ?_⟩
            have fne : s.1.frs ≠ [] := by intro z; rw [z] at e; cases e
            have pl : ∀ (s1 : SW Wk Λ), s1.1.frs = s.1.frs → placedM s1 = some (.ok (), s1) := fun s1 hs => by unfold placedM; rw [hs, e]; simp only; rw [if_neg (by rw [ea]; decide)]
            unfold putM settleM
            rw [MM.bind_ok (pl s rfl)]
            simp only [et]
            rw [if_pos hm]
            exact (MM.bind_ok (pl (upS step limit s.1 u, s.2) rfl)).trans (if_pos (.inr fne))
          · cases h
theorem up_err {step limit : Int} {s s' : SW Wk Λ} {e : Er} (h : upM step limit s = some (.error e, s')) : False := by
  unfold upM at h
  split at h
  · cases h
  · split at h
    · cases h
    · split at h
      · split at h <;> cases h
      · cases h
end
abbrev s__law_up : Stmt := (top 20)
abbrev N__law_up : List Str := ["_law_cell", "_law_step", "_law_limit", "_law_worth"]
theorem sc__law_up : FnScope ["_law_cell", "_law_step", "_law_limit", "_law_worth"] ["_law_cell", "_law_step", "_law_limit"] (defScope s__law_up) := ⟨rfl, rfl, rfl, by decide +kernel, rfl, by decide +kernel, by decide +kernel⟩
abbrev s__law_work : Stmt := (top 21)
abbrev N__law_work : List Str := ["_law_desk", "_law_cell", "_law_step", "_law_limit", "_law_road", "_law_first", "_law_found"]
theorem sc__law_work : FnScope ["_law_desk", "_law_cell", "_law_step", "_law_limit", "_law_road", "_law_first", "_law_found"] ["_law_desk", "_law_cell", "_law_step", "_law_limit", "_law_road"] (defScope s__law_work) := ⟨rfl, rfl, rfl, by decide +kernel, rfl, by decide +kernel, by decide +kernel⟩
abbrev s__law_due : Stmt := (top 22)
abbrev N__law_due : List Str := ["_law_start", "_law_step", "_law_limit", "_law_road", "_law_turn", "_law_worth", "_law_found", "_law_after", "_law_is_over"]
theorem sc__law_due : FnScope ["_law_start", "_law_step", "_law_limit", "_law_road", "_law_turn", "_law_worth", "_law_found", "_law_after", "_law_is_over"] ["_law_start", "_law_step", "_law_limit", "_law_road"] (defScope s__law_due) := ⟨rfl, rfl, rfl, by decide +kernel, rfl, by decide +kernel, by decide +kernel⟩
abbrev s__law_right : Stmt := (top 23)
abbrev N__law_right : List Str := ["_law_bag_here", "_law_start", "_law_many", "_law_limit", "_law_effect", "_law_again", "_law_more", "_law_desk", "_law_road", "_law_step", "_law_cell", "_law_beside", "_law_log", "_law_worth", "_law_report"]
theorem sc__law_right : FnScope ["_law_bag_here", "_law_start", "_law_many", "_law_limit", "_law_effect", "_law_again", "_law_more", "_law_desk", "_law_road", "_law_step", "_law_cell", "_law_beside", "_law_log", "_law_worth", "_law_report"] ["_law_bag_here"] (defScope s__law_right) := ⟨rfl, rfl, rfl, by decide +kernel, rfl, by decide +kernel, by decide +kernel⟩
abbrev s_law : Stmt := (top 24)
abbrev N_law : List Str := ["_law_script", "_law_at"]
theorem sc_law : FnScope ["_law_script", "_law_at"] ["_law_script"] (defScope s_law) := ⟨rfl, rfl, rfl, by decide +kernel, rfl, by decide +kernel, by decide +kernel⟩

def lamE1 : Option Expr := match (defBody s__law_work)[5]? with
  | some (Stmt.Expr (.Call _ [e] _ _) _) => some e
  | _ => none
def lamP1 : Arguments := match lamE1 with | some (.Lambda p _ _ _) => p | _ => ⟨[], [], none, [], [], none, []⟩
def lamB1 : Expr := match lamE1 with | some (.Lambda _ b _ _) => b | _ => .Constant .none 0 default
def lamSc1 : Scope := match lamE1 with | some (.Lambda _ _ s _) => s | _ => ⟨.function, [], false, false, []⟩
def qual1 : Str := ("_law_work" : Str) ++ (".<locals>." : Str) ++ ("<lambda>" : Str)
def free1 : List Str := ["_law_cell", "_law_step", "_law_limit"]
theorem scLam1 : NScope free1 [] free1 lamSc1 := nscope_by (by decide +kernel)
def lamE2 : Option Expr := match (defBody s__law_right)[5]? with
  | some (Stmt.Assign _ (.Call _ [_, e] _ _) _) => some e
  | _ => none
def lamP2 : Arguments := match lamE2 with | some (.Lambda p _ _ _) => p | _ => ⟨[], [], none, [], [], none, []⟩
def lamB2 : Expr := match lamE2 with | some (.Lambda _ b _ _) => b | _ => .Constant .none 0 default
def lamSc2 : Scope := match lamE2 with | some (.Lambda _ _ s _) => s | _ => ⟨.function, [], false, false, []⟩
def qual2 : Str := ("_law_right" : Str) ++ (".<locals>." : Str) ++ ("<lambda>" : Str)
def free2 : List Str := ["_law_desk", "_law_cell", "_law_step", "_law_limit", "_law_road"]
theorem scLam2 : NScope free2 [] free2 lamSc2 := nscope_by (by decide +kernel)
def TabL (a : Nat → Addr) : List (Addr × Str) := [(a 85, qual1), (a 82, qual2)]
/-- what the top has made of the law's own defs -/
structure Tm (P : Program) (K : PySem.W.Frag) (mg : Str → Option Value) (a : Nat → Addr) (fd : Nat → FuncData) (tk : Nat → Tok) : Prop where
  l : Tl P K mg a fd tk
  m_Desk_quietly : Meth K (a 3) "quietly" (a 67)
  F_Desk_quietly : Fun K "quietly" "Desk.quietly" s_Desk_quietly (a 67) (fd 67)
  b_max : mg "max" = none
  b_min : mg "min" = none
  g__law_up : mg "_law_up" = some (.ref (a 33))
  F__law_up : Fun K "_law_up" "_law_up" s__law_up (a 33) (fd 33)
  g__law_due : mg "_law_due" = some (.ref (a 34))
  F__law_due : Fun K "_law_due" "_law_due" s__law_due (a 34) (fd 34)
  g__law_work : mg "_law_work" = some (.ref (a 83))
  F__law_work : FunT K "_law_work" "_law_work" s__law_work (a 83) (fd 83) (a 84)
  g__law_right : mg "_law_right" = some (.ref (a 80))
  F__law_right : FunT K "_law_right" "_law_right" s__law_right (a 80) (fd 80) (a 81)
theorem passZ0 {X : Cx} {σ : L2.St} {E : XK} : PassesAt CX0 X σ E := fun _ _ _ _ _ _ h => h.elim
theorem s_prop {C : Addr} {sp : Sp} {dvs : List V} {E : XK} {ta : TE} {σ : L2.St} {H : Hp} {Q : VK} (h : ta σ H fun x H1 => ∃ a dx fs, x = .ref a ∧ H1 a = some (.ins C dx fs) ∧ sp (.ref a :: dvs) H1 Q E) : tProp C sp dvs E ta σ H Q := h
def Y0 (a : Nat → Addr) : LawP Wk Unit where
  LA := fun _ g H => TabsL (TabL a) g H
  CL := fun w f g H => LamO f H qual2 lamP2 lamB2 lamSc2 w.cl w.cd ∧ ∃ x, g.adr aN = some x
  la_st := fun h ws keep eL => h.kept ws keep eL
  cl_st := fun {w f g g' H H'} ⟨⟨pm, ctv, a1, a2⟩, x, e⟩ ws => ⟨⟨pm, ctv, ws.im _ _ a1 trivial, ws.im _ _ a2 trivial⟩, x, ws.adr _ _ e⟩
  cl_fn := fun {w f g H} ⟨⟨pm, ctv, a1, a2⟩, _⟩ => ⟨_, _, a1, rfl, rfl⟩
def Y1 (a : Nat → Addr) : LawP Wk Unit where
  LA := fun _ g H => TabsL (TabL a) g H
  CL := fun w f g H => (Y0 a).CL w f g H ∧ ∃ os, CellsF w.cl free2 [.ref g.d, .ref (gA g aN), .int w.step, .int w.limit, .int w.road] os H
  la_st := fun h ws keep eL => h.kept ws keep eL
  cl_st := fun {w f g g' H H'} ⟨h, os, C⟩ ws => ⟨(Y0 a).cl_st h ws, os, by
    obtain ⟨_, x, e⟩ := h
    rw [ws.d, gA_at (ws.adr _ _ e), ← gA_at e]
    exact C.keep fun c o _ e => ws.im _ _ e trivial⟩
  cl_fn := fun h => (Y0 _).cl_fn h.1
section
theorem wok0 : WOkX P w K mg base 0 (wspU a (Y1 a) wk0) := ⟨fun g H Q E ⟨_, _, _, _, _, h⟩ => h.elim, fun A outer s H g Q E _ _ ⟨_, _, _, _, _, h⟩ => h.elim⟩
theorem fw0 {ω Λ : Type} {Y : LawP ω Λ} {CX : CXT} : FnOk P w K mg base CX 0 (a 45) (fd 45) ["self"] (spWorthU a Y valueM) := by
  have no : ∀ vs H Q E, spWorthU a Y valueM vs H Q E → False := fun vs H Q E h => by
    obtain ⟨g, st, nm, wi, ns, n, h0, _, _, ht, k⟩ := h
    unfold valueM at k
    rw [ht] at k
    exact k
  exact ⟨fun vs H Q E h => (no _ _ _ _ h).elim, fun A outer s H args us vs Q E _ _ _ _ h => (no _ _ _ _ h).elim⟩
theorem WoC.val {ω Λ : Type} : WoC (ω := ω) (Λ := Λ) valueM := fun nm s v h => by unfold valueM; rw [h]
def spUp (a : Nat → Addr) : Sp := fun vs H Q _ => ∃ g st step limit EE, vs = [.ref (gA g aN), .int step, .int limit] ∧ Wld a (Y1 a) g st H ∧ Post a (Y1 a) g H (DtQ Q) EE (upM step limit st)
theorem b__law_up (T : Tm P K mg a fd tk) : Binds K (fd 33) ["_law_cell", "_law_step", "_law_limit"] [] := T.F__law_up.binds fun _ _ _ _ _ _ us hl => match us, hl with | [_, _, _], _ => rfl
end
end
end Tr
set_option maxHeartbeats 4000000

namespace Tr
open PySem L2 OXB LamX NdefX
section
variable {P : Program} {w : World} {K : PySem.W.Frag} {mg : Str → Option Value} {base : Heap} {a : Nat → Addr} {fd : Nat → FuncData} {tk : Nat → Tok}
local macro_rules | `(tactic| walk_at "ne") => `(tactic| first | assumption | (exact Ne.symm (by assumption)) | (refine ne_of_none (by assumption) (by assumption)) | (refine Ne.symm (ne_of_none (by assumption) (by assumption))))
local macro_rules | `(tactic| walk_at "hl") => `(tactic| first | assumption | with_reducible exact upd_same | ((with_reducible refine' Eq.trans (upd_ne ?hne) ?hrest); (case hne => walk_at "ne"); (case hrest => walk_at "hl")) | (refine' get_same ?hs ?hg; (case hs => assumption); (case hg => assumption)))
local macro_rules | `(tactic| walk_at "at") => `(tactic| first | with_reducible exact atI_0 _ _ | with_reducible exact atI_1 _ _ _ | with_reducible exact atI_2 _ _ _ _ | with_reducible exact atI_3 _ _ _ _ _ | assumption)
local macro_rules | `(tactic| walk_at "rd1") => `(tactic| first
  | with_reducible refine s_seq ?_ | with_reducible refine s_next ?_ | with_reducible refine s_if ?_ | with_reducible refine s_ret ?_ | with_reducible refine s_retN ?_ | with_reducible refine s_drop ?_ | with_reducible refine s_asg ?_ | with_reducible refine s_brk ?_ | with_reducible refine s_cont ?_
  | with_reducible refine s_gname ?_ | with_reducible refine s_c ?_ | with_reducible refine s_op ?_ | with_reducible refine s_un ?_ | with_reducible refine s_neg ?_ | with_reducible refine s_test ?_ | with_reducible refine s_tb ?_ | with_reducible refine s_not ?_ | with_reducible refine s_and ?_ | with_reducible refine s_or ?_ | with_reducible refine s_yes ?_
  | ((with_reducible refine' s_var ?hv ?_); (case hv => exact rfl))
  | with_reducible refine s_ifx ?_ | with_reducible refine s_andV ?_ | with_reducible refine s_orV ?_ | with_reducible refine s_notV ?_ | with_reducible refine s_chain ?_ | with_reducible refine s_nil ?_ | with_reducible refine s_cons ?_ | with_reducible refine s_lst ?_ | with_reducible refine s_tup ?_ | with_reducible refine s_cb ?_ | with_reducible refine s_call ?_ | with_reducible refine s_meth ?_ | with_reducible refine s_make ?_
  | with_reducible refine s_dnewK ?_ | with_reducible refine s_sl ?_ | with_reducible refine s_po0 ?_ | with_reducible refine s_po1 ?_ | with_reducible refine s_bm ?_ | with_reducible refine s_bm0 ?_
  | with_reducible refine s_bl ?_ | with_reducible refine s_int ?_ | with_reducible refine s_I0 ?_ | with_reducible refine s_addI ?_ | with_reducible refine s_intI ?_ | with_reducible refine s_intB ?_
  | with_reducible refine s_m1 ?_ | with_reducible refine s_lc ?_ | with_reducible refine s_ilist ?_ | with_reducible refine s_for ?_ | with_reducible refine s_irng ?_ | with_reducible refine s_match ?_ | with_reducible refine s_starT ?_ | with_reducible refine s_isS ?_ | with_reducible refine s_isiSS ?_ | with_reducible refine s_fldU ?_ | with_reducible refine s_sfldU ?_
  | ((with_reducible refine' s_eqS ?hq ?_); (case hq => exact rfl)) | ((with_reducible refine' s_neS ?hq ?_); (case hq => exact rfl))
  | ((with_reducible refine' s_isN ?hq ?_); (case hq => exact rfl)) | ((with_reducible refine' s_notN ?hq ?_); (case hq => exact rfl))
  | ((with_reducible refine' s_eqNil ?h1 ?h2 ?_); (case h1 => walk_at "hl"); (case h2 => walk_at "hl")) | ((with_reducible refine' s_neNil ?h1 ?h2 ?_); (case h1 => walk_at "hl"); (case h2 => walk_at "hl"))
  | ((with_reducible refine' s_ixL ?h1 ?h2 ?_); (case h1 => walk_at "hl"); (case h2 => walk_at "at")) | ((with_reducible refine' s_ixT ?h1 ?h2 ?_); (case h1 => walk_at "hl"); (case h2 => walk_at "at"))
  | ((with_reducible refine' s_inS ?h1 ?_); (case h1 => walk_at "hl")) | ((with_reducible refine' s_ninS ?h1 ?_); (case h1 => walk_at "hl")) | with_reducible refine s_inW ?_
  | ((with_reducible refine' s_lenL ?h1 ?_); (case h1 => walk_at "hl")) | ((with_reducible refine' s_lenT ?h1 ?_); (case h1 => walk_at "hl"))
  | ((with_reducible refine' s_tyL ?h1 ?_); (case h1 => walk_at "hl"))
  | ((with_reducible refine' s_fldM ?h1 ?h2 ?h3 ?_); (case h1 => walk_at "hl"); (case h2 => walk_at "fok"); (case h3 => walk_at "flk"))
  | ((with_reducible refine' s_setM ?h1 ?h2 ?h3 ?h4 ?_); (case h1 => walk_at "hl"); (case h2 => walk_at "fok"); (case h4 => walk_at "put"); (case h3 => exact Nat.le_of_ble_eq_true rfl))
  | ((with_reducible refine' s_starM ?h1 ?_); (case h1 => walk_at "hl"))
  | ((with_reducible refine' s_recv ?h1 ?h2 ?_); (case h1 => walk_at "hl"); (case h2 => exact rfl))
  | ((with_reducible refine' s_sz ?h1 ?_); (case h1 => (simp; done))))
local macro_rules | `(tactic| walk_at "rd") => `(tactic| repeat (walk_at "rd1"))
local macro_rules | `(tactic| walk_at "fok") => `(tactic| assumption)
local macro_rules | `(tactic| walk_at "flk") => `(tactic| rfl)
local macro_rules | `(tactic| walk_at "put") => `(tactic| exact rfl)

local macro_rules | `(tactic| walk_at "fok") => `(tactic| first | assumption | exact Tu.ce (by assumption) (by decide) | exact Tu.de (by assumption) (by decide) | exact Tu.ke (by assumption) (by decide) | exact Tu.fe (by assumption) (by decide) | exact Tu.ee (by assumption) (by decide))
theorem s_callO {C : Addr} {sp : Sp} {E : L2.St → XK} {te : TE} {t : TA} {σ : L2.St} {H : Hp} {Q : VK} (h : te σ H fun x H1 => ∃ (a dx : Addr) (fs : List (Str × V)), x = .ref a ∧ H1 a = some (.ins C dx fs) ∧ t σ H1 fun vs H2 => H2 a = some (.ins C dx fs) ∧ sp (.ref a :: vs) H2 Q (E σ)) : tCallO C sp E te t σ H Q := h
section
theorem ok__law_up (T : Tm P K mg a fd tk) : FnOk P w K mg base CX0 7 (a 33) (fd 33) ["_law_cell", "_law_step", "_law_limit"] (spUp a) := by
  have FP := (ok_Cell_put (P := P) (w := w) (K := K) (mg := mg) (base := base) T.l.d (Y := Y1 a) (wk := wk0) (wo := valueM) (k := 0) wok0 fw0 WoC.val).calm
  refine T.F__law_up.ok sc__law_up (fun vs H Q E h => ?_) (fun cdv A outer s H vs Q E hr h => ?_)
  · obtain ⟨g, st, step, limit, EE, rfl, _⟩ := h
    rfl
  · obtain ⟨g, ⟨S, l⟩, step, limit, EE, rfl, WD, k⟩ := h
    refine ⟨_, (pss_cons (ps_asg (pe_callB (call_min2 rfl) (by rfl) T.b_min bt_min (pa_cons (pv 2) (pa_cons (pe_op uAdd (pe_prop (pv 0) T.l.d.cl_Cell T.l.d.p_Cell_value (ok_Cell_value T.l.d (Y := Y1 a)) (hr.mono (by omega)) (b_Cell_value T.l.d) .nil pass0 (by rfl)) (pv 1)) pa_nil))) (pg_name (i := 3) sc__law_up.nd rfl (by first | exact Or.inl rfl | exact Or.inr rfl)))
  (pss_cons (ps_expr (pe_meth (pv 0) T.l.d.cl_Cell T.l.d.m_Cell_put FP (hr.mono (by omega)) (b_Cell_put T.l.d) .nil pass0 (pa_cons (pv 3) pa_nil)))
  (pss_one (ps_ret (pv 3))))), ?_⟩
    cases er : upM step limit (S, l) with
    | none => rw [er] at k; exact k.elim
    | some p =>
      obtain ⟨r, s'⟩ := p
      cases r with
      | error e => exact (up_err er).elim
      | ok d =>
        obtain ⟨u, hu, rfl, rfl, hp⟩ := put_up er
        rw [er] at k
        obtain ⟨c, Wc⟩ := id WD
        have hc := Wc.th hu
        walk_at "rd"
        refine s_prop ?_
        walk_at "rd"
        refine ⟨_, _, _, rfl, hc, g, (S, l), aN, u, rfl, WD, hu, ?_⟩
        walk_at "rd"
        show ∃ i j, [V.int limit, V.int _] = [.int i, .int j] ∧ _
        refine ⟨_, _, rfl, ?_⟩
        have eu : (if step + u < limit then step + u else limit) = up step limit u := by unfold up; rw [Int.add_comm]
        change gName _ (.int (up step limit u)) _ _ _
        walk_at "rd"
        refine ⟨g, (S, l), aN, up step limit u, rfl, WD, ⟨u, hu⟩, ?_⟩
        rw [hp]
        refine Post.mkOk fun g' H' W' t' => ?_
        walk_at "rd"
        exact k.ok W' t' _ (.int _)
theorem mem1 {a : Nat → Addr} : (a 85, qual1) ∈ TabL a := List.mem_cons_self
theorem s_callL {sp : Sp} {X : Cx} {t : TA} {σ : L2.St} {H : Hp} {Q : VK} (h : t σ H fun vs H1 => lentS X σ sp vs H1 Q) : tCallLent X sp t σ H Q := h
def FreshT (a : Nat → Addr) : Prop := a 85 ≠ a 82
theorem tab1 {a : Nat → Addr} (ft : FreshT a) : ∀ p ∈ TabL a, p.1 = a 85 → p.2 = qual1 := fun p hp e => by
  simp only [TabL, List.mem_cons, List.not_mem_nil, or_false] at hp
  rcases hp with rfl | rfl
  · rfl
  · exact (ft e.symm).elim
/-- what is called quietly -/
def cspC (a : Nat → Addr) : V → List V → Hp → VK → XK → Prop := fun v vs H Q E => ∃ x dx fs, v = V.ref x ∧ H x = some (.ins (a 2) dx fs) ∧ spReadC a (Y1 a) (V.ref x :: vs ++ []) H Q E
theorem cok_cell (T : Tm P K mg a fd tk) : COkX P w K mg base 2 (cspC a) := cokx_ins ⟨T.l.d.o_Cell___call__.at_, T.l.d.o_Cell___call__.fn, T.l.d.o_Cell___call__.fi⟩ (FnOk.raw (ok_Cell___call__ T.l.d) (b_Cell___call__ T.l.d) .nil) hcx0
abbrev wspU1 (a : Nat → Addr) : Addr → Hp → VK → Prop := wspL (spUp a) qual1 lamP1 lamB1 lamSc1 free1
theorem spUp_mono (vs : List V) (H : Hp) (Q Q' : VK) (hq : ∀ v H', Q v H' → Q' v H') (h : spUp a vs H Q E0) : spUp a vs H Q' E0 := by
  obtain ⟨g, st, step, limit, EE, e, h1, k⟩ := h
  exact ⟨g, st, step, limit, EE, e, h1, k.imp (fun v s g' H' _ _ q u hu => hq _ _ (q u hu)) fun _ _ _ _ _ _ z => z⟩
theorem wok_up (T : Tm P K mg a fd tk) : WOk P w K mg base 8 (wspU1 a) := by
  refine wok_lam (N := free1) (k := 7) scLam1 (fun cl pm c ctv => rfl) (fun cl c f A outer s H E hr ho => ?_) spUp_mono (t := tCons (tVar 0) (tCons (tVar 1) (tCons (tVar 2) tNil))) (fun ws H Q hl hq => ?_)
  · exact pe_callLent (x := "_law_up") (ok__law_up T) hr (fun _ => ho) (by rfl) T.g__law_up T.F__law_up.kp (b__law_up T) (pa_cons (pv 0) (pa_cons (pv 1) (pa_cons (pv 2) pa_nil)))
  · match ws, hl with
    | [w1, w2, w3], _ =>
      walk_at "rd"
      exact hq
def cspU (a : Nat → Addr) : V → List V → Hp → VK → XK → Prop := fun v vs H Q _ => ∃ g, v = V.ref g ∧ vs = [] ∧ wspU1 a g H Q
theorem cok_up (T : Tm P K mg a fd tk) : COkX P w K mg base 8 (cspU a) := cokx_wok (WOkX.of (wok_up T))
def spWork (a : Nat → Addr) : Sp := fun vs H Q _ => ∃ g st w EE, vs = [.ref g.d, .ref (gA g aN), .int w.step, .int w.limit, .int w.road] ∧ Wld a (Y1 a) g st H ∧ Post a (Y1 a) g H (DtQ Q) EE (wkE w st)
theorem read_inv {c : Str} {s s' : SW Wk Unit} {d : Dt} (h : readCM c s = some (.ok d, s')) : ∃ v, s.1.th c = some (.cell v) ∧ d = .int v := by
  unfold readCM at h
  obtain ⟨u, s1, h1, h2⟩ := MM.bind_inv h
  obtain ⟨_, s2, _, h3⟩ := MM.bind_inv h2
  unfold valueM at h1
  cases e : s.1.th c with
  | none => simp only [e] at h1; cases h1
  | some t => cases t with
    | cell v => simp only [e] at h1; cases h1; cases h3; exact ⟨v, rfl, rfl⟩
    | kept w n k r => simp only [e] at h1; cases h1
    | eff w n k r => simp only [e] at h1; cases h1
theorem calm_inv {α : Type} {m : MM Wk Unit α} {s s' : SW Wk Unit} {v : α} (h : MM.calm m s = some (.ok v, s')) : m s = some (.ok v, s') := by
  unfold MM.calm at h
  split at h
  · rename_i e; rw [e]; exact h
  · cases h
theorem Post.calm1 {α : Type} {Y : LawP Wk Unit} {g : Gh} {H : Hp} {KK : α → SW Wk Unit → Gh → Hp → Prop} {EE : Er → SW Wk Unit → Gh → Hp → Prop} {m : MM Wk Unit α} {s : SW Wk Unit} (h : Post a Y g H KK EE (MM.calm m s)) : Post a Y g H KK (fun _ _ _ _ => False) (m s) := by
  unfold MM.calm at h
  cases e : m s with
  | none => rw [e] at h; exact h
  | some p =>
    obtain ⟨r, s'⟩ := p
    rw [e] at h
    cases r with
    | ok v => exact h
    | error e => exact h.elim
theorem read_err {s s' : SW Wk Unit} {c : Str} {er : Er} (e : readCM c s = some (.error er, s')) : False := by
  unfold readCM MM.bind valueM at e
  cases et : s.1.th c with
  | none => simp only [et] at e; cases e
  | some t => cases t with
    | kept _ _ _ _ => simp only [et] at e; cases e
    | eff _ _ _ _ => simp only [et] at e; cases e
    | cell v =>
      simp only [et] at e
      cases en : noteM c (.int v) s with
      | none => rw [en] at e; cases e
      | some p =>
        obtain ⟨r, s2⟩ := p
        rw [en] at e
        cases r with
        | ok u => cases e
        | error e2 =>
          unfold noteM at en
          repeat' split at en
          all_goals cases en
theorem cell_of {Y : LawP Wk Unit} {g : Gh} {H : Hp} {KK : Dt → SW Wk Unit → Gh → Hp → Prop} {EE : Er → SW Wk Unit → Gh → Hp → Prop} {s : SW Wk Unit} {c : Str} (h : Post a Y g H KK EE (readCM c s)) : ∃ v, s.1.th c = some (.cell v) := by
  cases e : readCM c s with
  | none => rw [e] at h; exact h.elim
  | some p =>
    obtain ⟨r, s'⟩ := p
    cases r with
    | ok d => obtain ⟨v, hv, _⟩ := read_inv e; exact ⟨v, hv⟩
    | error er => exact (read_err e).elim
theorem works_up {step limit : Int} {s s' : SW Wk Unit} {d : Dt} (h : quietlyM (upM step limit) s = some (.ok d, s')) : (∃ v, s.1.th aN = some (.cell v)) ∧ ∀ n t w, s'.1.th n = some t → t.work = some w → ∃ t0, s.1.th n = some t0 ∧ t0.work = some w := by
  unfold quietlyM at h
  have key : ∀ {s s' : SW Wk Unit} {d : Dt}, upM step limit s = some (.ok d, s') → (∃ v, s.1.th aN = some (.cell v)) ∧ ∀ n t w, s'.1.th n = some t → t.work = some w → ∃ t0, s.1.th n = some t0 ∧ t0.work = some w := fun {s s' d} h => by
    obtain ⟨u, hu, _, rfl, _⟩ := put_up h
    refine ⟨⟨u, hu⟩, fun n t w h1 h2 => ?_⟩
    by_cases c : n = aN
    · subst c
      rw [show (upS step limit s.1 u).th aN = some (.cell (up step limit u)) by simp [upS, DS.setTh]] at h1
      cases h1
      cases h2
    · rw [show (upS step limit s.1 u).th n = s.1.th n by simp [upS, DS.setTh, c]] at h1
      exact ⟨t, h1, h2⟩
  split at h
  · exact key h
  · cases e : upM step limit ({ s.1 with frs := hushLast true s.1.frs }, s.2) with
    | none => rw [MM.fin_none e] at h; cases h
    | some p =>
      obtain ⟨r, s2⟩ := p
      rw [MM.fin_some e] at h
      cases r with
      | error e => cases h
      | ok d2 =>
        cases h
        obtain ⟨k1, k2⟩ := key e
        exact ⟨k1, fun n t w h1 h2 => k2 n t w h1 h2⟩
theorem quiet_up_err {step limit : Int} {s s' : SW Wk Unit} {e : Er} (h : quietlyM (upM step limit) s = some (.error e, s')) : False := by
  unfold quietlyM at h
  split at h
  · exact up_err h
  · cases e2 : upM step limit ({ s.1 with frs := hushLast true s.1.frs }, s.2) with
    | none => rw [MM.fin_none e2] at h; cases h
    | some p =>
      obtain ⟨r, s2⟩ := p
      rw [MM.fin_some e2] at h
      cases r with
      | ok d => cases h
      | error e => exact up_err e2
theorem hk1 : ∀ y ∈ free1, (defScope s__law_work).names.lookup y = some .cell := by decide +kernel
theorem DvS.pair {H : Hp} {p : Addr} {x y : Int} (h : H p = some (.tup [.int x, .int y])) : DvS H (.ref p) (.tuple [.int x, .int y]) := ⟨.tup h (.cons (.int x) (.cons (.int y) .nil)), by simp [Shp, SeqAt.shaped, PyData.canLay0, PyData.canLayAll0, PyData.depth, PyData.depthAll]⟩
theorem ok__law_work (T : Tm P K mg a fd tk) (TB1 : TabB base mg (a 84) (a 85)) (ft : FreshT a) : FnOk P w K mg base CX0 11 (a 83) (fd 83) ["_law_desk", "_law_cell", "_law_step", "_law_limit", "_law_road"] (spWork a) := by
  have FQ := (ok_Desk_quietly (P := P) (w := w) (K := K) (mg := mg) (base := base) (Y := Y1 a) T.l.d T.F_Desk_quietly (cok_cell (P := P) (w := w) (K := K) (mg := mg) (base := base) T)).calm
  have FQ2 := (ok_Desk_quietly (P := P) (w := w) (K := K) (mg := mg) (base := base) (Y := Y1 a) T.l.d T.F_Desk_quietly (cok_up (P := P) (w := w) (K := K) (mg := mg) (base := base) T)).calm
  refine T.F__law_work.ok sc__law_work (fun vs H Q E h => ?_) (fun A outer s H vs Q E hr h => ?_)
  · obtain ⟨g, st, w, EE, rfl, _⟩ := h
    rfl
  · obtain ⟨g, ⟨S, l⟩, w', EE, rfl, WD, k⟩ := h
    refine ⟨_, (pss_cons (ps_if (pt_cmpR (uEq K hr.units) (pv 4) pe_int (nomark _)) (pss_cons (ps_asg (pe_callO0 (E := fun _ => E0) callee_name (pv 1) T.l.d.o_Cell___call__.at_ T.l.d.o_Cell___call__.fn T.l.d.o_Cell___call__.fi (ok_Cell___call__ T.l.d (Y := Y1 a)) (hr.mono (by omega)) (b_Cell___call__ T.l.d) (fun _ => passZ0)) (pg_name (i := 6) sc__law_work.nd rfl (by first | exact Or.inl rfl | exact Or.inr rfl)))
  (pss_cons (ps_expr (pe_call (ok__law_up T) (hr.mono (by omega)) (by rfl) T.g__law_up T.F__law_up.kp (b__law_up T) .nil pass0 (pa_cons (pv 1) (pa_cons (pv 2) (pa_cons (pv 3) pa_nil)))))
  (pss_one (ps_ret (pv 6))))) pss_nil)
  (pss_cons (ps_if (pt_cmpR (uEq K hr.units) (pv 4) pe_int (nomark _)) (pss_cons (ps_expr (pe_call (ok__law_up T) (hr.mono (by omega)) (by rfl) T.g__law_up T.F__law_up.kp (b__law_up T) .nil pass0 (pa_cons (pv 1) (pa_cons (pv 2) (pa_cons (pv 3) pa_nil)))))
  (pss_one (ps_ret (pe_callO0 (E := fun _ => E0) callee_name (pv 1) T.l.d.o_Cell___call__.at_ T.l.d.o_Cell___call__.fn T.l.d.o_Cell___call__.fi (ok_Cell___call__ T.l.d (Y := Y1 a)) (hr.mono (by omega)) (b_Cell___call__ T.l.d) (fun _ => passZ0))))) pss_nil)
  (pss_cons (ps_if (pt_cmpR (uEq K hr.units) (pv 4) pe_int (nomark _)) (pss_cons (ps_asg (pe_prop (pv 1) T.l.d.cl_Cell T.l.d.p_Cell_value (ok_Cell_value T.l.d (Y := Y1 a)) (hr.mono (by omega)) (b_Cell_value T.l.d) .nil pass0 (by rfl)) (pg_name (i := 6) sc__law_work.nd rfl (by first | exact Or.inl rfl | exact Or.inr rfl)))
  (pss_cons (ps_expr (pe_call (ok__law_up T) (hr.mono (by omega)) (by rfl) T.g__law_up T.F__law_up.kp (b__law_up T) .nil pass0 (pa_cons (pv 1) (pa_cons (pv 2) (pa_cons (pv 3) pa_nil)))))
  (pss_one (ps_ret (pv 6))))) pss_nil)
  (pss_cons (ps_if (pt_cmpR (uEq K hr.units) (pv 4) pe_int (nomark _)) (pss_cons (ps_asg (pe_methRX (E := fun _ => E0) (pv 0) T.l.d.cl_Desk T.m_Desk_quietly FQ (hr.mono (by omega)) (fun _ => passZ0) (pa_cons (pv 1) pa_nil)) (pg_name (i := 6) sc__law_work.nd rfl (by first | exact Or.inl rfl | exact Or.inr rfl)))
  (pss_cons (ps_expr (pe_call (ok__law_up T) (hr.mono (by omega)) (by rfl) T.g__law_up T.F__law_up.kp (b__law_up T) .nil pass0 (pa_cons (pv 1) (pa_cons (pv 2) (pa_cons (pv 3) pa_nil)))))
  (pss_one (ps_ret (pv 6))))) pss_nil)
  (pss_cons (ps_asg (pe_callO0 (E := fun _ => E0) callee_name (pv 1) T.l.d.o_Cell___call__.at_ T.l.d.o_Cell___call__.fn T.l.d.o_Cell___call__.fi (ok_Cell___call__ T.l.d (Y := Y1 a)) (hr.mono (by omega)) (b_Cell___call__ T.l.d) (fun _ => passZ0)) (pg_name (i := 5) sc__law_work.nd rfl (by first | exact Or.inl rfl | exact Or.inr rfl)))
  (pss_cons (ps_expr (pe_methRL (pv 0) T.l.d.cl_Desk T.m_Desk_quietly FQ2 (hr.mono (by omega)) own_of (pa_cons (pe_lamW (T := TabL a) (P := a 85) (params := lamP1) (body := lamB1) (scope := lamSc1) TB1 rfl (by exact mem1) (tab1 ft) (show LamS (defScope s__law_work) lamSc1 from lamS_by (by decide +kernel))) pa_nil)))
  (pss_one (ps_ret (pe_tup (pa_cons (pv 5) (pa_cons (pe_callO0 (E := fun _ => E0) callee_name (pv 1) T.l.d.o_Cell___call__.at_ T.l.d.o_Cell___call__.fn T.l.d.o_Cell___call__.fi (ok_Cell___call__ T.l.d (Y := Y1 a)) (hr.mono (by omega)) (b_Cell___call__ T.l.d) (fun _ => passZ0)) pa_nil))))))))))), ?_⟩
    have k := Post.calm1 k
    obtain ⟨c, Wc⟩ := id WD
    have hob := Wc.desk
    have ga : ∀ {g1 : Gh} {H1 : Hp} {v : Int}, S.th aN = some (.cell v) → Step g H g1 H1 → gA g1 aN = gA g aN := fun hv t => by
      obtain ⟨x, e⟩ := Wc.ok.adr _ _ hv
      rw [gA_at e, gA_at (t.adr _ _ e)]
    unfold workM at k
    by_cases r0 : w'.road = 0
    · rw [if_pos r0] at k
      have kb := Post.bind k
      obtain ⟨v, hv⟩ := cell_of kb
      have hc := Wc.th hv
      walk_at "rd"
      refine ifT (by rw [r0]; rfl) ?_
      walk_at "rd"
      refine s_callO ?_
      walk_at "rd"
      refine ⟨_, _, _, rfl, hc, ?_⟩
      walk_at "rd"
      refine ⟨hc, g, (S, l), aN, v, _, rfl, WD, hv, kb.impE (fun d s1 g1 H1 er W1 t1 k1 u hu => ?_) fun _ _ _ _ _ _ _ z => z⟩
      obtain ⟨v', hv', rfl⟩ := read_inv er
      obtain rfl := hu.intI
      have kb1 := Post.bind k1
      walk_at "rd"
      refine ⟨g1, s1, w'.step, w'.limit, _, by rw [ga hv t1], W1, kb1.impE (fun d s2 g2 H2 er2 W2 t2 k2 u hu => ?_) fun _ _ _ _ _ _ _ z => z⟩
      walk_at "rd"
      exact k2.ok W2 Step.refl _ (.int _)
    rw [if_neg r0] at k
    by_cases r1 : w'.road = 1
    · rw [if_pos r1] at k
      have kb := Post.bind k
      walk_at "rd"
      refine ifF (by simpa using r0) ?_
      walk_at "rd"
      refine ifT (by rw [r1]; rfl) ?_
      walk_at "rd"
      refine ⟨g, (S, l), w'.step, w'.limit, _, rfl, WD, kb.impE (fun d s1 g1 H1 er W1 t1 k1 u hu => ?_) fun _ _ _ _ _ _ _ z => z⟩
      obtain ⟨u0, hu0, rfl, _, _⟩ := put_up er
      obtain ⟨v, hv⟩ := cell_of k1
      obtain ⟨c1, Wc1⟩ := id W1
      have hc := Wc1.th hv
      rw [ga hu0 t1] at hc
      walk_at "rd"
      refine s_callO ?_
      walk_at "rd"
      refine ⟨_, _, _, rfl, hc, ?_⟩
      walk_at "rd"
      refine ⟨hc, g1, s1, aN, v, _, by rw [ga hu0 t1], W1, hv, k1.imp (fun d s1 g1 H1 W1 t1 k1 => k1) fun _ _ _ _ _ _ z => z⟩
    rw [if_neg r1] at k
    by_cases r2 : w'.road = 2
    · rw [if_pos r2] at k
      have kb := Post.bind k
      obtain ⟨v, hv⟩ : ∃ v, S.th aN = some (.cell v) := by
        unfold valueM at kb
        cases et : S.th aN with
        | none => simp only [et] at kb; exact kb.elim
        | some t => cases t with
          | kept _ _ _ _ => simp only [et] at kb; exact kb.elim
          | eff _ _ _ _ => simp only [et] at kb; exact kb.elim
          | cell v => exact ⟨v, rfl⟩
      have hc := Wc.th hv
      have ev : (valueM aN : MM Wk Unit Dt) (S, l) = some (.ok (.int v), (S, l)) := by unfold valueM; simp only [hv]
      rw [ev] at kb
      have k1 := kb.ok WD Step.refl
      have kb1 := Post.bind k1
      walk_at "rd"
      refine ifF (by simpa using r0) ?_
      walk_at "rd"
      refine ifF (by simpa using r1) ?_
      walk_at "rd"
      refine ifT (by rw [r2]; rfl) ?_
      walk_at "rd"
      refine s_prop ?_
      walk_at "rd"
      refine ⟨_, _, _, rfl, hc, g, (S, l), aN, v, rfl, WD, hv, ?_⟩
      walk_at "rd"
      refine ⟨g, (S, l), w'.step, w'.limit, _, rfl, WD, kb1.impE (fun d s2 g2 H2 er2 W2 t2 k2 u hu => ?_) fun _ _ _ _ _ _ _ z => z⟩
      walk_at "rd"
      exact k2.ok W2 Step.refl _ (.int _)
    rw [if_neg r2] at k
    by_cases r3 : w'.road = 3
    · rw [if_pos r3] at k
      have kb := Post.bind k
      obtain ⟨v, hv⟩ : ∃ v, S.th aN = some (.cell v) := by
        unfold quietlyM at kb
        cases el : S.frs.getLast? with
        | none => simp only [el] at kb; exact cell_of kb
        | some f =>
          simp only [el] at kb
          cases er : (readCM aN : MM Wk Unit Dt) ({ S with frs := hushLast true S.frs }, l) with
          | none => rw [MM.fin_none er] at kb; exact kb.elim
          | some p =>
            obtain ⟨r, s'⟩ := p
            cases r with
            | ok d => obtain ⟨v, hv, _⟩ := read_inv er; exact ⟨v, hv⟩
            | error e => exact (read_err er).elim
      have hc := Wc.th hv
      walk_at "rd"
      refine ifF (by simpa using r0) ?_
      walk_at "rd"
      refine ifF (by simpa using r1) ?_
      walk_at "rd"
      refine ifF (by simpa using r2) ?_
      walk_at "rd"
      refine ifT (by rw [r3]; rfl) ?_
      walk_at "rd"
      refine s_methRX ?_
      walk_at "rd"
      refine ⟨g.d, _, _, rfl, hob, rfl, ?_⟩
      walk_at "rd"
      refine quiet_of (m := readCM aN) WD (Nat.zero_le _) (fun g1 st1 H1 Q1 E1 W1 t1 k1 => ?_) (kb.impE (fun d s1 g1 H1 er W1 t1 k1 u hu => ?_) fun _ _ _ _ _ _ _ z => z.elim)
      · obtain ⟨v1, hv1⟩ := cell_of k1
        obtain ⟨c1, Wc1⟩ := id W1
        have hc1 := Wc1.th hv1
        rw [ga hv t1] at hc1
        exact ⟨_, _, _, rfl, hc1, g1, st1, aN, v1, _, by rw [ga hv t1]; rfl, W1, hv1, k1⟩
      · have kb1 := Post.bind k1
        walk_at "rd"
        refine ⟨g1, s1, w'.step, w'.limit, _, by rw [ga hv t1], W1, kb1.impE (fun d2 s2 g2 H2 er2 W2 t2 k2 u2 hu2 => ?_) fun _ _ _ _ _ _ _ z => z⟩
        walk_at "rd"
        exact k2.ok W2 Step.refl _ (W1.dvS t2 hu)
    rw [if_neg r3] at k
    have kb := Post.bind k
    obtain ⟨v, hv⟩ := cell_of kb
    have hc := Wc.th hv
    walk_at "rd"
    refine ifF (by simpa using r0) ?_
    walk_at "rd"
    refine ifF (by simpa using r1) ?_
    walk_at "rd"
    refine ifF (by simpa using r2) ?_
    walk_at "rd"
    refine ifF (by simpa using r3) ?_
    walk_at "rd"
    refine s_callO ?_
    walk_at "rd"
    refine ⟨_, _, _, rfl, hc, ?_⟩
    walk_at "rd"
    refine ⟨hc, g, (S, l), aN, v, _, rfl, WD, hv, kb.impE (fun d s1 g1 H1 er W1 t1 k1 u hu => ?_) fun _ _ _ _ _ _ _ z => z⟩
    obtain ⟨v', hv', rfl⟩ := read_inv er
    obtain rfl := hu.intI
    obtain ⟨c1, Wc1⟩ := id W1
    have hob1 := Wc1.desk
    rw [t1.d] at hob1
    have la1 : TabsL (TabL a) g1 H1 := Wc1.la
    walk_at "rd"
    refine s_methRL ?_
    walk_at "rd"
    refine ⟨g.d, _, _, rfl, hob1, rfl, ?_⟩
    walk_at "rd"
    refine ⟨la1.2, fun f c' pm ctv H2 ext et nn T2 nf hf hc' => ?_⟩
    walk_at "rd"
    intro os lo free
    obtain ⟨W2, t2⟩ := W1.lam ext et nn (la1.1 _ mem1) ⟨la1.1, T2⟩
    have CF := CellsF.of_lent (H := H2) scLam1 (L := s.heap.objs.size) rfl hk1 lo (ws := [.ref (gA g aN), .int w'.step, .int w'.limit]) rfl (fun i y v e1 e2 => by
      match i, e1, e2 with
      | 0, e1, e2 => cases e1; cases e2; exact ⟨1, rfl, rfl⟩
      | 1, e1, e2 => cases e1; cases e2; exact ⟨2, rfl, rfl⟩
      | 2, e1, e2 => cases e1; cases e2; exact ⟨3, rfl, rfl⟩
      | i + 3, e1, _ => simp [free1] at e1)
    have sl : Same H2 (lendH os H2) := lend_same free
    have W3 := W2.same sl
    have t3 : Step g1 H2 g1 (lendH os H2) := (DStep.same sl).toStep
    have LO : LamO f (lendH os H2) qual1 lamP1 lamB1 lamSc1 _ c' := ⟨pm, ctv, sl _ _ hf, sl _ _ hc'⟩
    have kq := Post.bindB k1 (t2.tr t3)
    rw [← t1.d]
    refine quiet_of (m := upM w'.step w'.limit) W3 (Nat.zero_le _) (fun g4 st4 H4 Q4 E4 W4 t4 k4 => ?_) (kq.impE (fun d s5 g5 H5 er5 W5 t5 k5 u5 hu5 hfr => ?_) fun _ _ _ _ _ _ _ z => z.elim)
    · obtain ⟨pm, ctv, a1, a2⟩ := LO
      exact ⟨f, rfl, rfl, _, _, c', _, ⟨pm, ctv, W3.frzS t4 a1, (W3.ws t4).im _ _ a2 trivial⟩, CF.keep fun c o _ e => W3.frzS t4 e, g4, st4, w'.step, w'.limit, _, by rw [ga hv ((t1.tr (t2.tr t3)).tr t4)], W4, k4⟩
    · obtain ⟨⟨v1, hv1⟩, wks⟩ := works_up er5
      obtain ⟨W6, t6⟩ := W2.backO free W5 t5 hfr (fun h => TabsL.back h hfr) wks
      generalize backH os H5 = H6 at W6 t6 ⊢
      have kb6 := Post.bindB k5 (t2.tr t6)
      obtain ⟨v6, hv6⟩ := cell_of kb6
      obtain ⟨c6, Wc6⟩ := id W6
      have hc6 := Wc6.th hv6
      have g6 := ga hv (t1.tr (t2.tr t6))
      rw [g6] at hc6
      walk_at "rd"
      refine s_callO ?_
      walk_at "rd"
      refine ⟨_, _, _, rfl, hc6, ?_⟩
      walk_at "rd"
      refine ⟨hc6, g5, s5, aN, v6, _, by rw [g6], W6, hv6, kb6.impE (fun d7 s7 g7 H7 er7 W7 t7 k7 u7 hu7 => ?_) fun _ _ _ _ _ _ _ z => z⟩
      obtain ⟨v7, hv7, rfl⟩ := read_inv er7
      obtain rfl := hu7.intI
      walk_at "rd"
      intro p np
      have sp := Same.new (o := .tup [.int v, .int v7]) np
      have hp : upd H7 p (.tup [.int v, .int v7]) p = some (.tup [.int v, .int v7]) := upd_same
      have hvv : v' = v := by
        rw [hv] at hv'
        cases hv'
        rfl
      subst hvv
      exact k7.ok (W7.same sp) ((((t2.tr t6).tr t7)).tr (DStep.same sp).toStep) _ (DvS.pair hp)
end
end
end Tr
set_option maxHeartbeats 4000000

namespace Tr
open PySem L2 OXB LamX NdefX
section
variable {P : Program} {w : World} {K : PySem.W.Frag} {mg : Str → Option Value} {base : Heap} {a : Nat → Addr} {fd : Nat → FuncData} {tk : Nat → Tok}
local macro_rules | `(tactic| walk_at "ne") => `(tactic| first | assumption | (exact Ne.symm (by assumption)) | (refine ne_of_none (by assumption) (by assumption)) | (refine Ne.symm (ne_of_none (by assumption) (by assumption))))
local macro_rules | `(tactic| walk_at "hl") => `(tactic| first | assumption | with_reducible exact upd_same | ((with_reducible refine' Eq.trans (upd_ne ?hne) ?hrest); (case hne => walk_at "ne"); (case hrest => walk_at "hl")) | (refine' get_same ?hs ?hg; (case hs => assumption); (case hg => assumption)))
local macro_rules | `(tactic| walk_at "at") => `(tactic| first | with_reducible exact atI_0 _ _ | with_reducible exact atI_1 _ _ _ | with_reducible exact atI_2 _ _ _ _ | with_reducible exact atI_3 _ _ _ _ _ | assumption)
local macro_rules | `(tactic| walk_at "rd1") => `(tactic| first
  | with_reducible refine s_seq ?_ | with_reducible refine s_next ?_ | with_reducible refine s_if ?_ | with_reducible refine s_ret ?_ | with_reducible refine s_retN ?_ | with_reducible refine s_drop ?_ | with_reducible refine s_asg ?_ | with_reducible refine s_brk ?_ | with_reducible refine s_cont ?_
  | with_reducible refine s_gname ?_ | with_reducible refine s_c ?_ | with_reducible refine s_op ?_ | with_reducible refine s_un ?_ | with_reducible refine s_neg ?_ | with_reducible refine s_test ?_ | with_reducible refine s_tb ?_ | with_reducible refine s_not ?_ | with_reducible refine s_and ?_ | with_reducible refine s_or ?_ | with_reducible refine s_yes ?_
  | ((with_reducible refine' s_var ?hv ?_); (case hv => exact rfl))
  | with_reducible refine s_ifx ?_ | with_reducible refine s_andV ?_ | with_reducible refine s_orV ?_ | with_reducible refine s_notV ?_ | with_reducible refine s_chain ?_ | with_reducible refine s_nil ?_ | with_reducible refine s_cons ?_ | with_reducible refine s_lst ?_ | with_reducible refine s_tup ?_ | with_reducible refine s_cb ?_ | with_reducible refine s_call ?_ | with_reducible refine s_meth ?_ | with_reducible refine s_make ?_
  | with_reducible refine s_dnewK ?_ | with_reducible refine s_sl ?_ | with_reducible refine s_po0 ?_ | with_reducible refine s_po1 ?_ | with_reducible refine s_bm ?_ | with_reducible refine s_bm0 ?_
  | with_reducible refine s_bl ?_ | with_reducible refine s_int ?_ | with_reducible refine s_I0 ?_ | with_reducible refine s_addI ?_ | with_reducible refine s_intI ?_ | with_reducible refine s_intB ?_
  | with_reducible refine s_m1 ?_ | with_reducible refine s_lc ?_ | with_reducible refine s_ilist ?_ | with_reducible refine s_for ?_ | with_reducible refine s_irng ?_ | with_reducible refine s_match ?_ | with_reducible refine s_starT ?_ | with_reducible refine s_isS ?_ | with_reducible refine s_isiSS ?_ | with_reducible refine s_fldU ?_ | with_reducible refine s_sfldU ?_
  | ((with_reducible refine' s_eqS ?hq ?_); (case hq => exact rfl)) | ((with_reducible refine' s_neS ?hq ?_); (case hq => exact rfl))
  | ((with_reducible refine' s_isN ?hq ?_); (case hq => exact rfl)) | ((with_reducible refine' s_notN ?hq ?_); (case hq => exact rfl))
  | ((with_reducible refine' s_eqNil ?h1 ?h2 ?_); (case h1 => walk_at "hl"); (case h2 => walk_at "hl")) | ((with_reducible refine' s_neNil ?h1 ?h2 ?_); (case h1 => walk_at "hl"); (case h2 => walk_at "hl"))
  | ((with_reducible refine' s_ixL ?h1 ?h2 ?_); (case h1 => walk_at "hl"); (case h2 => walk_at "at")) | ((with_reducible refine' s_ixT ?h1 ?h2 ?_); (case h1 => walk_at "hl"); (case h2 => walk_at "at"))
  | ((with_reducible refine' s_inS ?h1 ?_); (case h1 => walk_at "hl")) | ((with_reducible refine' s_ninS ?h1 ?_); (case h1 => walk_at "hl")) | with_reducible refine s_inW ?_
  | ((with_reducible refine' s_lenL ?h1 ?_); (case h1 => walk_at "hl")) | ((with_reducible refine' s_lenT ?h1 ?_); (case h1 => walk_at "hl"))
  | ((with_reducible refine' s_tyL ?h1 ?_); (case h1 => walk_at "hl"))
  | ((with_reducible refine' s_fldM ?h1 ?h2 ?h3 ?_); (case h1 => walk_at "hl"); (case h2 => walk_at "fok"); (case h3 => walk_at "flk"))
  | ((with_reducible refine' s_setM ?h1 ?h2 ?h3 ?h4 ?_); (case h1 => walk_at "hl"); (case h2 => walk_at "fok"); (case h4 => walk_at "put"); (case h3 => exact Nat.le_of_ble_eq_true rfl))
  | ((with_reducible refine' s_starM ?h1 ?_); (case h1 => walk_at "hl"))
  | ((with_reducible refine' s_recv ?h1 ?h2 ?_); (case h1 => walk_at "hl"); (case h2 => exact rfl))
  | ((with_reducible refine' s_sz ?h1 ?_); (case h1 => (simp; done))))
local macro_rules | `(tactic| walk_at "rd") => `(tactic| repeat (walk_at "rd1"))
local macro_rules | `(tactic| walk_at "fok") => `(tactic| assumption)
local macro_rules | `(tactic| walk_at "flk") => `(tactic| rfl)
local macro_rules | `(tactic| walk_at "put") => `(tactic| exact rfl)

local macro_rules | `(tactic| walk_at "fok") => `(tactic| first | assumption | exact Tu.ce (by assumption) (by decide) | exact Tu.de (by assumption) (by decide) | exact Tu.ke (by assumption) (by decide) | exact Tu.fe (by assumption) (by decide) | exact Tu.ee (by assumption) (by decide))
theorem s_par {i j : Nat} {ta : TA} {na : L2.St → Hp → Prop} {rt : VK} {bk ct : L2.St → Hp → Prop} {σ : L2.St} {H : Hp} (h : ta σ H fun vs H1 => ∃ v w, vs = [v, w] ∧ na ((σ.set i (some v)).set j (some w)) H1) : tPar i j ta ⟨na, rt, bk, ct⟩ σ H := h
section
theorem b__law_work (T : Tm P K mg a fd tk) : Binds K (fd 83) ["_law_desk", "_law_cell", "_law_step", "_law_limit", "_law_road"] [] := T.F__law_work.fn.binds fun _ _ _ _ _ _ us hl => match us, hl with | [_, _, _, _, _], _ => rfl
abbrev wspW (a : Nat → Addr) : Addr → Hp → VK → Prop := wspL (spWork a) qual2 lamP2 lamB2 lamSc2 free2
theorem spWork_mono (vs : List V) (H : Hp) (Q Q' : VK) (hq : ∀ v H', Q v H' → Q' v H') (h : spWork a vs H Q E0) : spWork a vs H Q' E0 := by
  obtain ⟨g, st, w, EE, e, h1, k⟩ := h
  exact ⟨g, st, w, EE, e, h1, k.imp (fun v s g' H' _ _ q u hu => hq _ _ (q u hu)) fun _ _ _ _ _ _ z => z⟩
theorem wok_work (T : Tm P K mg a fd tk) (TB1 : TabB base mg (a 84) (a 85)) (ft : FreshT a) : WOk P w K mg base 12 (wspW a) := by
  refine wok_lam (N := free2) (k := 11) scLam2 (fun cl pm c ctv => rfl) (fun cl c f A outer s H E hr ho => ?_) spWork_mono (t := tCons (tVar 0) (tCons (tVar 1) (tCons (tVar 2) (tCons (tVar 3) (tCons (tVar 4) tNil))))) (fun ws H Q hl hq => ?_)
  · exact pe_callLent (x := "_law_work") (ok__law_work T TB1 ft) hr (fun _ => ho) (by rfl) T.g__law_work T.F__law_work.fn.kp (b__law_work T) (pa_cons (pv 0) (pa_cons (pv 1) (pa_cons (pv 2) (pa_cons (pv 3) (pa_cons (pv 4) pa_nil)))))
  · match ws, hl with
    | [w1, w2, w3, w4, w5], _ =>
      walk_at "rd"
      exact hq
theorem wok_E (T : Tm P K mg a fd tk) (TB1 : TabB base mg (a 84) (a 85)) (ft : FreshT a) : WOkX P w K mg base 12 (wspU a (Y1 a) wkE) := (WOkX.of (wok_work T TB1 ft)).imp fun f H Q E ⟨g, st, w, WD, ⟨⟨L, _⟩, os, C⟩, k⟩ =>
  ⟨_, w.cl, w.cd, os, L, C, g, st, w, _, rfl, WD, k⟩
def rep (road v v' : Int) : Dt := if road = 4 then .tuple [.int v, .int v'] else if road = 1 then .int v' else .int v
def over (road v v' : Int) : Prop := road = 1 ∨ road = 2 ∨ road = 3 ∨ v = v'
instance {road v v' : Int} : Decidable (over road v v') := by unfold over; infer_instance
def dueL (step limit road : Int) : Nat → Int → List Dt × Int
  | 0, v => ([], v)
  | n + 1, v => if over road v (up step limit v) then ([rep road v (up step limit v)], up step limit v) else (rep road v (up step limit v) :: (dueL step limit road n (up step limit v)).1, (dueL step limit road n (up step limit v)).2)
def RepsAt (H : Hp) (vs : List V) (ds : List Dt) : Prop := vs.length = ds.length ∧ ∀ (i : Nat) (v : V) (d : Dt), vs[i]? = some v → ds[i]? = some d → DvS H v d
theorem RepsAt.snoc {H : Hp} {vs : List V} {ds : List Dt} {v : V} {d : Dt} (h : RepsAt H vs ds) (hv : DvS H v d) : RepsAt H (vs ++ [v]) (ds ++ [d]) := by
  have hl := h.1
  refine ⟨by simp [h.1], fun i u e h1 h2 => ?_⟩
  by_cases hi : i < vs.length
  · rw [List.getElem?_append_left hi] at h1
    rw [List.getElem?_append_left (by omega)] at h2
    exact h.2 i u e h1 h2
  · rw [List.getElem?_append_right (by omega)] at h1 h2
    have e0 : i - vs.length = 0 := by
      have h5 := (List.getElem?_eq_some_iff.mp h1).1
      simp at h5
      omega
    rw [e0] at h1
    rw [show i - ds.length = 0 by omega] at h2
    cases h1
    cases h2
    exact hv
theorem RepsAt.stay {H H' : Hp} {vs : List V} {ds : List Dt} (h : RepsAt H vs ds) (f : ∀ x l, H x = some (.tup l) → H' x = some (.tup l)) : RepsAt H' vs ds := ⟨h.1, fun i v d h1 h2 => (h.2 i v d h1 h2).stay f⟩
def dsp (w u : Int) (t : Addr) : List (Key × V) := [(.inl 0, .int w), (.inl 1, .int u), (.inl 2, .int w), (.inl 3, .int w), (.inl 4, .ref t)]
def spDue : Sp := fun vs H Q _ => ∃ start step limit road : Int, vs = [.int start, .int step, .int limit, .int road] ∧ 0 ≤ road ∧ road ≤ 4 ∧ ∀ t p us H', Same H H' → H' t = some (.tup [.ref p, .int (dueL step limit road 102 start).2]) → H' p = some (.lst us) → RepsAt H' us (dueL step limit road 102 start).1 → H p = none → Q (.ref t) H'
theorem ok__law_due (T : Tm P K mg a fd tk) : FnOk P w K mg base CX0 1 (a 34) (fd 34) ["_law_start", "_law_step", "_law_limit", "_law_road"] spDue := by
  refine T.F__law_due.ok sc__law_due (fun vs H Q E h => ?_) (fun cdv A outer s H vs Q E hr h => ?_)
  · obtain ⟨start, step, limit, road, rfl, _⟩ := h
    rfl
  · obtain ⟨start, step, limit, road, rfl, r0, r4, k⟩ := h
    refine ⟨_, (pss_cons (ps_par (i := 5) (j := 6) (by rfl) sc__law_due.nd rfl rfl (by decide) rfl rfl (pa_cons (pv 0) (pa_cons (pe_lst pa_nil) pa_nil)) (by rfl))
  (pss_cons (ps_for PassesOwn.never rfl (pi_range1 (by rfl) T.l.d.b_range (pa_cons pe_int pa_nil)) (pg_name (i := 4) sc__law_due.nd rfl (by first | exact Or.inl rfl | exact Or.inr rfl))
   (pss_cons (ps_asg (pe_callB (call_min2 rfl) (by rfl) T.b_min bt_min (pa_cons (pv 2) (pa_cons (pe_op uAdd (pv 5) (pv 1)) pa_nil))) (pg_name (i := 7) sc__law_due.nd rfl (by first | exact Or.inl rfl | exact Or.inr rfl)))
  (pss_cons (ps_expr (pe_bm PySem.F.plainAttrs_list PySem.F.slot_list_append PySem.F.type_list_append uAppend (pv 6) (pa_cons (pe_dget (hu_of hr) (pe_disp (pps_cons pe_int (pv 5) (pps_cons pe_int (pv 7) (pps_cons pe_int (pv 5) (pps_cons pe_int (pv 5) (pps_cons pe_int (pe_tup (pa_cons (pv 5) (pa_cons (pv 7) pa_nil))) pps_nil))))) (by rfl) (by rfl) (fun z => by cases z) (by decide)) (pv 3) (fun _ _ => rfl)) pa_nil)))
  (pss_cons (ps_asg (pe_or (pe_cmpR (uIn K) (pv 3) (pe_tup (pa_cons pe_int (pa_cons pe_int (pa_cons pe_int pa_nil)))) (by rfl)) (pe_one (pe_cmpR (uEq K hr.units) (pv 5) (pv 7) (nomark _)))) (pg_name (i := 8) sc__law_due.nd rfl (by first | exact Or.inl rfl | exact Or.inr rfl)))
  (pss_cons (ps_asg (pv 7) (pg_name (i := 5) sc__law_due.nd rfl (by first | exact Or.inl rfl | exact Or.inr rfl)))
  (pss_one (ps_if (pt_val (pv 8)) (pss_one ps_break) pss_nil)))))))
  (pss_one (ps_ret (pe_tup (pa_cons (pv 6) (pa_cons (pv 5) pa_nil))))))), ?_⟩
    refine s_seq ?_
    refine s_par ?_
    walk_at "rd"
    intro p np
    have s0 := Same.new (o := .lst []) np
    have hp0 : upd H p (.lst []) p = some (.lst []) := upd_same
    generalize upd H p (.lst []) = G0 at s0 hp0 ⊢
    walk_at "rd"
    refine ⟨_, _, rfl, ?_⟩
    walk_at "rd"
    refine s_forR (n := 102) (by decide) (by decide) (fun i σ H' => ∃ v4 v7 v8 w us ds, σ = [some (.int start), some (.int step), some (.int limit), some (.int road), v4, some (.int w), some (.ref p), v7, v8] ∧ H' p = some (.lst us) ∧ us.length = i ∧ RepsAt H' us ds ∧ Same H H' ∧ i ≤ 102 ∧ dueL step limit road 102 start = (ds ++ (dueL step limit road (102 - i) w).1, (dueL step limit road (102 - i) w).2))
      ⟨none, none, none, start, [], [], rfl, hp0, rfl, ⟨rfl, fun i v d h _ => by simp at h⟩, s0, by decide, rfl⟩ ?_ ?_
    · rintro i σ H1 hi ⟨v4, v7, v8, w1, us, ds, rfl, hp, hl, R, sm, hi2, e⟩
      have hi : i < 102 := by omega
      have ed : (102 - i) = (102 - (i + 1)) + 1 := by omega
      rw [ed] at e
      have hau : (if w1 + step < limit then w1 + step else limit) = up step limit w1 := rfl
      walk_at "rd"
      show ∃ x y, [V.int limit, V.int _] = [.int x, .int y] ∧ _
      refine ⟨_, _, rfl, ?_⟩
      change gName _ (.int (up step limit w1)) _ _ _
      generalize hup : up step limit w1 = u1 at *
      walk_at "rd"
      refine s_dget ?_
      intro q nq
      have s1 := Same.new (o := .dK []) nq
      have hq : upd H1 q (.dK []) q = some (.dK []) := upd_same
      have hqo : ∀ x o, H1 x = some o → x ≠ q := fun x o h => ne_of_none h nq
      generalize upd H1 q (.dK []) = H2 at s1 hq ⊢
      unfold tPairs
      walk_at "rd"
      unfold tPairs
      walk_at "rd"
      unfold tPairs
      walk_at "rd"
      unfold tPairs
      walk_at "rd"
      unfold tPairs
      walk_at "rd"
      intro t nt
      have s2 := Same.new (o := .tup [.int w1, .int u1]) nt
      have ht : upd H2 t (.tup [.int w1, .int u1]) t = some (.tup [.int w1, .int u1]) := upd_same
      generalize upd H2 t (.tup [.int w1, .int u1]) = H3 at s2 ht ⊢
      unfold tPairs
      refine ⟨s2 _ _ hq, dsp w1 u1 t, rfl, Nat.le_of_ble_eq_true rfl, ?_⟩
      have hq4 : upd H3 q (.dK (mergeK [] (dsp w1 u1 t))) q = some (.dK (dsp w1 u1 t)) := upd_same
      have s4 : Same H1 (upd H3 q (.dK (mergeK [] (dsp w1 u1 t)))) := fun x o h => by rw [upd_ne (hqo x o h)]; exact s2 _ _ (s1 _ _ h)
      have ht4 : upd H3 q (.dK (mergeK [] (dsp w1 u1 t))) t = some (.tup [.int w1, .int u1]) := by rw [upd_ne (ne_of ht (s2 _ _ hq) (by intro z; cases z))]; exact ht
      generalize upd H3 q (.dK (mergeK [] (dsp w1 u1 t))) = H4 at hq4 s4 ht4 ⊢
      obtain ⟨rv, hrv, hrd⟩ : ∃ rv, valV (dsp w1 u1 t) (.inl road) = some rv ∧ DvS H4 rv (rep road w1 u1) := by
        have h5 : road = 0 ∨ road = 1 ∨ road = 2 ∨ road = 3 ∨ road = 4 := by omega
        rcases h5 with rfl | rfl | rfl | rfl | rfl
        · exact ⟨_, rfl, .int w1⟩
        · exact ⟨_, rfl, .int u1⟩
        · exact ⟨_, rfl, .int w1⟩
        · exact ⟨_, rfl, .int w1⟩
        · exact ⟨_, rfl, DvS.pair ht4⟩
      walk_at "rd"
      refine ⟨q, rv, rfl, by rw [← hrv]; exact DGet.k (k := .inl road) hq4, ?_⟩
      walk_at "rd"
      have hp4 := s4 _ _ hp
      refine s_app hp4 (sz_lt (by omega)) ?_
      have tp5 : ∀ x l, H4 x = some (.tup l) → upd H4 p (.lst (us ++ [rv])) x = some (.tup l) := fun x l h => by rw [upd_ne (ne_of h hp4 (by intro z; cases z))]; exact h
      have R5 : RepsAt (upd H4 p (.lst (us ++ [rv]))) (us ++ [rv]) (ds ++ [rep road w1 u1]) := (R.stay fun x l h => tp5 _ _ (s4 _ _ h)).snoc (hrd.stay tp5)
      have sm5 : Same H (upd H4 p (.lst (us ++ [rv]))) := fun x o h => by rw [upd_ne (ne_of_none h np)]; exact s4 _ _ (sm _ _ h)
      have hp5 : upd H4 p (.lst (us ++ [rv])) p = some (.lst (us ++ [rv])) := upd_same
      generalize upd H4 p (.lst (us ++ [rv])) = H5 at R5 sm5 hp5 ⊢
      walk_at "rd"
      intro z nz
      have s6 := Same.new (o := .tup [.int 1, .int 2, .int 3]) nz
      have hz : upd H5 z (.tup [.int 1, .int 2, .int 3]) z = some (.tup [.int 1, .int 2, .int 3]) := upd_same
      have hp6 := s6 _ _ hp5
      generalize upd H5 z (.tup [.int 1, .int 2, .int 3]) = H6 at s6 hz hp6 ⊢
      have R6 := R5.stay fun x l h => s6 _ _ h
      have sm6 : Same H H6 := fun x o h => s6 _ _ (sm5 _ _ h)
      refine s_inT hz rfl rfl ?_
      have hin : inV (.int road) [.int 1, .int 2, .int 3] = decide (road = 1 ∨ road = 2 ∨ road = 3) := by
        have h5 : road = 0 ∨ road = 1 ∨ road = 2 ∨ road = 3 ∨ road = 4 := by omega
        rcases h5 with rfl | rfl | rfl | rfl | rfl <;> decide +kernel
      rw [hin]
      have last : over road w1 u1 → dueL step limit road 102 start = (ds ++ [rep road w1 u1], u1) := fun ho => by
        have e1 : dueL step limit road (102 - (i + 1) + 1) w1 = ([rep road w1 u1], u1) := by unfold dueL; rw [hup]; exact if_pos ho
        rw [e, e1]
      have more : ¬ over road w1 u1 → dueL step limit road 102 start = ((ds ++ [rep road w1 u1]) ++ (dueL step limit road (102 - (i + 1)) u1).1, (dueL step limit road (102 - (i + 1)) u1).2) := fun ho => by
        have e1 : dueL step limit road (102 - (i + 1) + 1) w1 = (rep road w1 u1 :: (dueL step limit road (102 - (i + 1)) u1).1, (dueL step limit road (102 - (i + 1)) u1).2) := by
          rw [dueL, hup]
          exact if_neg ho
        rw [e, e1, List.append_assoc]
        rfl
      have fin : over road w1 u1 → ∀ t, H6 t = none → Q (.ref t) (upd H6 t (.tup [.ref p, .int u1])) := fun ho t nt => by
        have st := Same.new (o := .tup [.ref p, .int u1]) nt
        rw [last ho] at k
        exact k t p _ _ (fun x o h => st _ _ (sm6 _ _ h)) upd_same (st _ _ hp6) (R6.stay fun x l h => st _ _ h) np
      by_cases hov : road = 1 ∨ road = 2 ∨ road = 3
      · rw [show (if (false : Bool) = true then !decide (road = 1 ∨ road = 2 ∨ road = 3) else decide (road = 1 ∨ road = 2 ∨ road = 3)) = true by simp [hov]]
        walk_at "rd"
        refine (if_pos rfl).mpr ?_
        walk_at "rd"
        refine ifT rfl ?_
        walk_at "rd"
        exact fin (by rcases hov with h | h | h <;> simp [over, h])
      · rw [show (if (false : Bool) = true then !decide (road = 1 ∨ road = 2 ∨ road = 3) else decide (road = 1 ∨ road = 2 ∨ road = 3)) = false by simp [hov]]
        walk_at "rd"
        refine (if_neg (by decide)).mpr ?_
        walk_at "rd"
        by_cases hw : w1 = u1
        · refine ifT (decide_eq_true (by rw [hw])) ?_
          walk_at "rd"
          exact fin (by simp [over, hw])
        · refine ifF (decide_eq_false fun z => hw (by cases z; rfl)) ?_
          walk_at "rd"
          exact ⟨_, _, _, u1, _, _, rfl, hp6, by simp [hl], R6, sm6, by omega, more (by simp only [over]; rintro (h | h | h | h) <;> first | exact hov (.inl h) | exact hov (.inr (.inl h)) | exact hov (.inr (.inr h)) | exact hw h)⟩
    · rintro σ H1 ⟨v4, v7, v8, w1, us, ds, rfl, hp, hl, R, sm, hi2, e⟩
      rw [show (102 : Int).toNat = 102 from rfl, Nat.sub_self] at e
      have e : dueL step limit road 102 start = (ds ++ [], w1) := e
      rw [List.append_nil] at e
      rw [e] at k
      walk_at "rd"
      intro t nt
      have st := Same.new (o := .tup [.ref p, .int w1]) nt
      exact k t p us _ (fun x o h => st _ _ (sm _ _ h)) upd_same (st _ _ hp) (R.stay fun x l h => st _ _ h) np
end
end
end Tr
set_option maxHeartbeats 4000000

namespace Tr
open PySem L2 OXB
section
variable {P : Program} {w : World} {K : PySem.W.Frag} {mg : Str → Option Value} {base : Heap} {a : Nat → Addr} {fd : Nat → FuncData} {tk : Nat → Tok}
local macro_rules | `(tactic| walk_at "ne") => `(tactic| first | assumption | (exact Ne.symm (by assumption)) | (refine ne_of_none (by assumption) (by assumption)) | (refine Ne.symm (ne_of_none (by assumption) (by assumption))))
local macro_rules | `(tactic| walk_at "hl") => `(tactic| first | assumption | with_reducible exact upd_same | ((with_reducible refine' Eq.trans (upd_ne ?hne) ?hrest); (case hne => walk_at "ne"); (case hrest => walk_at "hl")) | (refine' get_same ?hs ?hg; (case hs => assumption); (case hg => assumption)))
local macro_rules | `(tactic| walk_at "at") => `(tactic| first | with_reducible exact atI_0 _ _ | with_reducible exact atI_1 _ _ _ | with_reducible exact atI_2 _ _ _ _ | with_reducible exact atI_3 _ _ _ _ _ | assumption)
local macro_rules | `(tactic| walk_at "rd1") => `(tactic| first
  | with_reducible refine s_seq ?_ | with_reducible refine s_next ?_ | with_reducible refine s_if ?_ | with_reducible refine s_ret ?_ | with_reducible refine s_retN ?_ | with_reducible refine s_drop ?_ | with_reducible refine s_asg ?_ | with_reducible refine s_brk ?_ | with_reducible refine s_cont ?_
  | with_reducible refine s_gname ?_ | with_reducible refine s_c ?_ | with_reducible refine s_op ?_ | with_reducible refine s_un ?_ | with_reducible refine s_neg ?_ | with_reducible refine s_test ?_ | with_reducible refine s_tb ?_ | with_reducible refine s_not ?_ | with_reducible refine s_and ?_ | with_reducible refine s_or ?_ | with_reducible refine s_yes ?_
  | ((with_reducible refine' s_var ?hv ?_); (case hv => exact rfl))
  | with_reducible refine s_ifx ?_ | with_reducible refine s_andV ?_ | with_reducible refine s_orV ?_ | with_reducible refine s_notV ?_ | with_reducible refine s_chain ?_ | with_reducible refine s_nil ?_ | with_reducible refine s_cons ?_ | with_reducible refine s_lst ?_ | with_reducible refine s_tup ?_ | with_reducible refine s_cb ?_ | with_reducible refine s_call ?_ | with_reducible refine s_meth ?_ | with_reducible refine s_make ?_
  | with_reducible refine s_dnewK ?_ | with_reducible refine s_sl ?_ | with_reducible refine s_po0 ?_ | with_reducible refine s_po1 ?_ | with_reducible refine s_bm ?_ | with_reducible refine s_bm0 ?_
  | with_reducible refine s_bl ?_ | with_reducible refine s_int ?_ | with_reducible refine s_I0 ?_ | with_reducible refine s_addI ?_ | with_reducible refine s_intI ?_ | with_reducible refine s_intB ?_
  | with_reducible refine s_m1 ?_ | with_reducible refine s_lc ?_ | with_reducible refine s_ilist ?_ | with_reducible refine s_for ?_ | with_reducible refine s_irng ?_ | with_reducible refine s_match ?_ | with_reducible refine s_starT ?_ | with_reducible refine s_isS ?_ | with_reducible refine s_isiSS ?_ | with_reducible refine s_fldU ?_ | with_reducible refine s_sfldU ?_
  | ((with_reducible refine' s_eqS ?hq ?_); (case hq => exact rfl)) | ((with_reducible refine' s_neS ?hq ?_); (case hq => exact rfl))
  | ((with_reducible refine' s_isN ?hq ?_); (case hq => exact rfl)) | ((with_reducible refine' s_notN ?hq ?_); (case hq => exact rfl))
  | ((with_reducible refine' s_eqNil ?h1 ?h2 ?_); (case h1 => walk_at "hl"); (case h2 => walk_at "hl")) | ((with_reducible refine' s_neNil ?h1 ?h2 ?_); (case h1 => walk_at "hl"); (case h2 => walk_at "hl"))
  | ((with_reducible refine' s_ixL ?h1 ?h2 ?_); (case h1 => walk_at "hl"); (case h2 => walk_at "at")) | ((with_reducible refine' s_ixT ?h1 ?h2 ?_); (case h1 => walk_at "hl"); (case h2 => walk_at "at"))
  | ((with_reducible refine' s_inS ?h1 ?_); (case h1 => walk_at "hl")) | ((with_reducible refine' s_ninS ?h1 ?_); (case h1 => walk_at "hl")) | with_reducible refine s_inW ?_
  | ((with_reducible refine' s_lenL ?h1 ?_); (case h1 => walk_at "hl")) | ((with_reducible refine' s_lenT ?h1 ?_); (case h1 => walk_at "hl"))
  | ((with_reducible refine' s_tyL ?h1 ?_); (case h1 => walk_at "hl"))
  | ((with_reducible refine' s_fldM ?h1 ?h2 ?h3 ?_); (case h1 => walk_at "hl"); (case h2 => walk_at "fok"); (case h3 => walk_at "flk"))
  | ((with_reducible refine' s_setM ?h1 ?h2 ?h3 ?h4 ?_); (case h1 => walk_at "hl"); (case h2 => walk_at "fok"); (case h4 => walk_at "put"); (case h3 => exact Nat.le_of_ble_eq_true rfl))
  | ((with_reducible refine' s_starM ?h1 ?_); (case h1 => walk_at "hl"))
  | ((with_reducible refine' s_recv ?h1 ?h2 ?_); (case h1 => walk_at "hl"); (case h2 => exact rfl))
  | ((with_reducible refine' s_sz ?h1 ?_); (case h1 => (simp; done))))
local macro_rules | `(tactic| walk_at "rd") => `(tactic| repeat (walk_at "rd1"))
local macro_rules | `(tactic| walk_at "fok") => `(tactic| assumption)
local macro_rules | `(tactic| walk_at "flk") => `(tactic| rfl)
local macro_rules | `(tactic| walk_at "put") => `(tactic| exact rfl)

local macro_rules | `(tactic| walk_at "fok") => `(tactic| first | assumption | exact Tu.ce (by assumption) (by decide) | exact Tu.de (by assumption) (by decide) | exact Tu.ke (by assumption) (by decide) | exact Tu.fe (by assumption) (by decide) | exact Tu.ee (by assumption) (by decide))
def bN : Str := "b"
def eN : Str := "e"
theorem ne_ab : aN ≠ bN := by decide +kernel
theorem ne_ae : aN ≠ eN := by decide +kernel
theorem ne_be : bN ≠ eN := by decide +kernel
def F (w : Wk) (v b : Int) (ns : List (Str × Dt)) (n : Nat) (r : Dt) : Str → Option (Th Wk) := fun m => if m = eN then some (.eff w ns n r) else if m = aN then some (.cell v) else if m = bN then some (.cell b) else none
def St (w : Wk) (v b : Int) (ns : List (Str × Dt)) (n : Nat) (r : Dt) (L : List Dt) (frs : List Fm) (mv efs : List Str) : DS Wk := ⟨[aN, bN, eN], F w v b ns n r, [aN, bN], [aN, bN], efs, L.map fun d => (eN, d), frs, 0, mv⟩
section
variable {w : Wk} {v v' b b' : Int} {ns ns' : List (Str × Dt)} {n n' : Nat} {r r' : Dt} {L : List Dt} {frs : List Fm} {mv efs : List Str} {h : Bool}
theorem F_e : F w v b ns n r eN = some (.eff w ns n r) := by unfold F; rw [if_pos rfl]
theorem F_a : F w v b ns n r aN = some (.cell v) := by unfold F; rw [if_neg ne_ae, if_pos rfl]
theorem F_b : F w v b ns n r bN = some (.cell b) := by unfold F; rw [if_neg ne_be, if_neg ne_ab.symm, if_pos rfl]
theorem St_e : (St w v b ns n r L frs mv efs).th eN = some (.eff w ns n r) := F_e (w := w) (v := v) (b := b) (ns := ns) (n := n) (r := r)
theorem St_a : (St w v b ns n r L frs mv efs).th aN = some (.cell v) := F_a (w := w) (v := v) (b := b) (ns := ns) (n := n) (r := r)
theorem St_b : (St w v b ns n r L frs mv efs).th bN = some (.cell b) := F_b (w := w) (v := v) (b := b) (ns := ns) (n := n) (r := r)
theorem St_set_e : (St w v b ns n r L frs mv efs).setTh eN (.eff w ns' n' r') = St w v b ns' n' r' L frs mv efs := by
  unfold St DS.setTh
  congr 1
  funext m
  show (if m = eN then some (Th.eff w ns' n' r') else F w v b ns n r m) = F w v b ns' n' r' m
  unfold F
  by_cases c : m = eN
  · rw [if_pos c, if_pos c]
  · simp only [c, if_false]
theorem St_set_a : (St w v b ns n r L frs mv efs).setTh aN (.cell v') = St w v' b ns n r L frs mv efs := by
  unfold St DS.setTh
  congr 1
  funext m
  show (if m = aN then some (Th.cell v') else F w v b ns n r m) = F w v' b ns n r m
  unfold F
  by_cases c : m = aN
  · rw [if_pos c, c, if_neg ne_ae, if_pos rfl]
  · simp only [c, if_false]
theorem St_set_b : (St w v b ns n r L frs mv efs).setTh bN (.cell b') = St w v b' ns n r L frs mv efs := by
  unfold St DS.setTh
  congr 1
  funext m
  show (if m = bN then some (Th.cell b') else F w v b ns n r m) = F w v b' ns n r m
  unfold F
  by_cases c : m = bN
  · rw [if_pos c, c, if_neg ne_be, if_neg ne_ab.symm, if_pos rfl]
  · simp only [c, if_false]
theorem value_St : (valueM aN : MM Wk Unit Dt) (St w v b ns n r L frs mv efs, ()) = some (.ok (.int v), (St w v b ns n r L frs mv efs, ())) := by unfold valueM; simp only [St_a]
theorem note_new {d : Dt} : (noteM aN d : MM Wk Unit Unit) (St w v b [] n r L [⟨eN, false, false⟩] mv efs, ()) = some (.ok (), (St w v b [(aN, d)] n r L [⟨eN, false, false⟩] mv efs, ())) := by
  unfold noteM
  rw [show (St w v b [] n r L [⟨eN, false, false⟩] mv efs, ()).1.frs.getLast? = some ⟨eN, false, false⟩ from rfl]
  simp only [St_e, Th.notes, Bool.false_eq_true, if_false, List.map_nil, List.not_mem_nil, List.length_nil, Nat.zero_lt_succ, if_true, Th.putNotes, List.nil_append, St_set_e]
theorem note_old {d e : Dt} : (noteM aN d : MM Wk Unit Unit) (St w v b [(aN, e)] n r L [⟨eN, false, false⟩] mv efs, ()) = some (.ok (), (St w v b [(aN, e)] n r L [⟨eN, false, false⟩] mv efs, ())) := by
  unfold noteM
  rw [show (St w v b [(aN, e)] n r L [⟨eN, false, false⟩] mv efs, ()).1.frs.getLast? = some ⟨eN, false, false⟩ from rfl]
  simp [St_e, Th.notes]
theorem note_hush {d : Dt} : (noteM aN d : MM Wk Unit Unit) (St w v b ns n r L [⟨eN, false, true⟩] mv efs, ()) = some (.ok (), (St w v b ns n r L [⟨eN, false, true⟩] mv efs, ())) := by
  unfold noteM
  rw [show (St w v b ns n r L [⟨eN, false, true⟩] mv efs, ()).1.frs.getLast? = some ⟨eN, false, true⟩ from rfl]
  simp
theorem read_new : (readCM aN : MM Wk Unit Dt) (St w v b [] n r L [⟨eN, false, false⟩] mv efs, ()) = some (.ok (.int v), (St w v b [(aN, .int v)] n r L [⟨eN, false, false⟩] mv efs, ())) := by
  unfold readCM; rw [MM.bind_ok value_St, MM.bind_ok note_new]; rfl
theorem read_old {e : Dt} : (readCM aN : MM Wk Unit Dt) (St w v b [(aN, e)] n r L [⟨eN, false, false⟩] mv efs, ()) = some (.ok (.int v), (St w v b [(aN, e)] n r L [⟨eN, false, false⟩] mv efs, ())) := by
  unfold readCM; rw [MM.bind_ok value_St, MM.bind_ok note_old]; rfl
theorem read_hush : (readCM aN : MM Wk Unit Dt) (St w v b ns n r L [⟨eN, false, true⟩] mv efs, ()) = some (.ok (.int v), (St w v b ns n r L [⟨eN, false, true⟩] mv efs, ())) := by
  unfold readCM; rw [MM.bind_ok value_St, MM.bind_ok note_hush]; rfl
def mvA (step limit v : Int) (mv : List Str) : List Str := if up step limit v = v then mv else mv ++ [aN]
theorem mvA_len {step limit : Int} : (mvA step limit v mv).length ≤ mv.length + 1 := by
  unfold mvA
  split
  · omega
  · simp
theorem up_St {step limit : Int} (hm : mv.length < 9000) : (upM step limit : MM Wk Unit Dt) (St w v b ns n r L [⟨eN, false, h⟩] mv efs, ()) = some (.ok (.int (up step limit v)), (St w (up step limit v) b ns n r L [⟨eN, false, h⟩] (mvA step limit v mv) efs, ())) := by
  unfold upM
  rw [show (St w v b ns n r L [⟨eN, false, h⟩] mv efs, ()).1.frs.getLast? = some ⟨eN, false, h⟩ from rfl]
  simp only [Bool.false_eq_true, if_false, St_a]
  refine (if_pos hm).trans ?_
  unfold upS
  rw [St_set_a]
  rfl
theorem quiet_St {m : MM Wk Unit Dt} {d : Dt} {v2 : Int} {mv2 : List Str} (hm : m (St w v b ns n r L [⟨eN, false, true⟩] mv efs, ()) = some (.ok d, (St w v2 b ns n r L [⟨eN, false, true⟩] mv2 efs, ()))) : quietlyM m (St w v b ns n r L [⟨eN, false, false⟩] mv efs, ()) = some (.ok d, (St w v2 b ns n r L [⟨eN, false, false⟩] mv2 efs, ())) := by
  unfold quietlyM
  rw [show (St w v b ns n r L [⟨eN, false, false⟩] mv efs, ()).1.frs.getLast? = some ⟨eN, false, false⟩ from rfl]
  exact MM.fin_some hm
def nts (road v v' : Int) : List (Str × Dt) := if road = 0 ∨ road = 4 then [(aN, .int v)] else if road = 1 then [(aN, .int v')] else []
theorem work_St (h0 : 0 ≤ w.road) (h4 : w.road ≤ 4) (hm : mv.length < 9000) : (wkE w : MM Wk Unit Dt) (St w v b [] n r L [⟨eN, false, false⟩] mv efs, ()) = some (.ok (rep w.road v (up w.step w.limit v)), (St w (up w.step w.limit v) b (nts w.road v (up w.step w.limit v)) n r L [⟨eN, false, false⟩] (mvA w.step w.limit v mv) efs, ())) := by
  unfold wkE MM.calm
  have key : (workM w : MM Wk Unit Dt) (St w v b [] n r L [⟨eN, false, false⟩] mv efs, ()) = some (.ok (rep w.road v (up w.step w.limit v)), (St w (up w.step w.limit v) b (nts w.road v (up w.step w.limit v)) n r L [⟨eN, false, false⟩] (mvA w.step w.limit v mv) efs, ())) := by
    unfold workM rep nts
    by_cases r0 : w.road = 0
    · simp only [r0, if_true, true_or]
      rw [MM.bind_ok read_new, MM.bind_ok (up_St hm)]
      rfl
    by_cases r1 : w.road = 1
    · simp only [r1]
      rw [if_neg (by decide), if_pos trivial, MM.bind_ok (up_St hm), read_new]
      rfl
    by_cases r2 : w.road = 2
    · simp only [r2]
      rw [if_neg (by decide), if_neg (by decide), if_pos trivial, MM.bind_ok value_St, MM.bind_ok (up_St hm)]
      rfl
    by_cases r3 : w.road = 3
    · simp only [r3]
      rw [if_neg (by decide), if_neg (by decide), if_neg (by decide), if_pos trivial, MM.bind_ok (quiet_St read_hush), MM.bind_ok (up_St hm)]
      rfl
    have r4 : w.road = 4 := by omega
    simp only [r4]
    rw [if_neg (by decide), if_neg (by decide), if_neg (by decide), if_neg (by decide), MM.bind_ok read_new, MM.bind_ok (quiet_St (up_St hm)), MM.bind_ok read_old]
    rfl
  rw [key]
theorem once_St (h0 : 0 ≤ w.road) (h4 : w.road ≤ 4) (hm : mv.length < 9000) (hl : L.length < 9000) : (onceM wkE eN : MM Wk Unit Dt) (St w v b ns n r L [] mv efs, ()) = some (.ok (rep w.road v (up w.step w.limit v)),
    (St w (up w.step w.limit v) b (nts w.road v (up w.step w.limit v)) (n + 1) (rep w.road v (up w.step w.limit v)) (L ++ [rep w.road v (up w.step w.limit v)]) [] (mvA w.step w.limit v mv) efs, ())) := by
  have run : (runM wkE false eN : MM Wk Unit Dt) (St w v b ns n r L [] mv efs, ()) = some (.ok (rep w.road v (up w.step w.limit v)), (St w (up w.step w.limit v) b (nts w.road v (up w.step w.limit v)) (n + 1) r L [] (mvA w.step w.limit v mv) efs, ())) := by
    unfold runM
    simp only [St_e, Th.work]
    rw [if_neg (by rintro (z | z); cases z; exact absurd (show 200 ≤ 0 from z) (by decide))]
    simp only [Th.putNotes, St_set_e]
    have := work_St (w := w) (v := v) (b := b) (n := n) (r := r) (L := L) (mv := mv) (efs := efs) h0 h4 hm
    have e2 := MM.fin_some (f := fun S => { S with frs := S.frs.dropLast }) this
    refine (MM.bind_ok e2).trans ?_
    have e3 : ({ St w (up w.step w.limit v) b (nts w.road v (up w.step w.limit v)) n r L [⟨eN, false, false⟩] (mvA w.step w.limit v mv) efs with frs := (St w (up w.step w.limit v) b (nts w.road v (up w.step w.limit v)) n r L [⟨eN, false, false⟩] (mvA w.step w.limit v mv) efs).frs.dropLast } : DS Wk) = St w (up w.step w.limit v) b (nts w.road v (up w.step w.limit v)) n r L [] (mvA w.step w.limit v mv) efs := rfl
    rw [e3]
    simp only [St_e, Th.work, Option.isSome_some, if_true, Th.inc, St_set_e]
  unfold onceM
  simp only [St_e]
  rw [MM.bind_ok run]
  simp only [St_e]
  rw [if_pos (by show (L.map _).length < 9000; rw [List.length_map]; exact hl), St_set_e]
  unfold St
  simp
/-- nothing is due -/
def Calm (road v : Int) (ns : List (Str × Dt)) : Prop := ((road = 2 ∨ road = 3) ∧ ns = []) ∨ (¬ (road = 2 ∨ road = 3) ∧ ns = [(aN, .int v)])
theorem stale_nil : (stale valueM eN : MM Wk Unit Bool) (St w v b [] n r L frs mv efs, ()) = some (.ok false, (St w v b [] n r L frs mv efs, ())) := by
  unfold stale
  simp only [St_e, Th.notes]
  rfl
theorem stale_one {u : Int} : (stale valueM eN : MM Wk Unit Bool) (St w v b [(aN, .int u)] n r L frs mv efs, ()) = some (.ok (!decide (v = u)), (St w v b [(aN, .int u)] n r L frs mv efs, ())) := by
  unfold stale
  simp only [St_e, Th.notes]
  unfold oooM
  simp only [St_e]
  rw [if_pos ⟨rfl, by show aN ∈ [aN, bN]; simp⟩, MM.bind_ok value_St]
  have : PyData.eqv (.int v) (.int u) = decide (v = u) := by simp [PyData.eqv]; rfl
  rw [this]
  by_cases c : v = u
  · simp [c]; rfl
  · simp [c]; rfl
theorem due_St {st : Bool} (h : (stale valueM eN : MM Wk Unit Bool) (St w v b ns n r L frs mv [eN], ()) = some (.ok st, (St w v b ns n r L frs mv [eN], ()))) : (dueM valueM [eN] : MM Wk Unit (List Str)) (St w v b ns n r L frs mv [eN], ()) = some (.ok (if st then [eN] else []), (St w v b ns n r L frs mv [eN], ())) := by
  unfold dueM
  simp only [St_e]
  unfold MM.calm
  unfold MM.bind
  simp only [h]
  rfl
theorem rounds_calm (h : (stale valueM eN : MM Wk Unit Bool) (St w v b ns n r L [] mv [eN], ()) = some (.ok false, (St w v b ns n r L [] mv [eN], ()))) : ∀ k, (roundsM wkE valueM k : MM Wk Unit Unit) (St w v b ns n r L [] mv [eN], ()) = some (.ok (), (St w v b ns n r L [] mv [eN], ())) := by
  intro k
  cases k with
  | zero => unfold roundsM; exact (MM.bind_ok (due_St h)).trans rfl
  | succ k => unfold roundsM; exact (MM.bind_ok (due_St h)).trans rfl
theorem rounds_due {k : Nat} (h0 : 0 ≤ w.road) (h4 : w.road ≤ 4) (hm : mv.length < 9000) (hl : L.length < 9000) (h : (stale valueM eN : MM Wk Unit Bool) (St w v b ns n r L [] mv [eN], ()) = some (.ok true, (St w v b ns n r L [] mv [eN], ()))) :
    (roundsM wkE valueM (k + 1) : MM Wk Unit Unit) (St w v b ns n r L [] mv [eN], ()) = roundsM wkE valueM k (St w (up w.step w.limit v) b (nts w.road v (up w.step w.limit v)) (n + 1) (rep w.road v (up w.step w.limit v)) (L ++ [rep w.road v (up w.step w.limit v)]) [] (mvA w.step w.limit v mv) [eN], ()) := by
  rw [roundsM]
  exact (MM.bind_ok (due_St h)).trans (MM.bind_ok (once_St h0 h4 hm hl))
theorem over_calm (h0 : 0 ≤ w.road) (h4 : w.road ≤ 4) (h : over w.road v (up w.step w.limit v)) (k : Nat) : (roundsM wkE valueM k : MM Wk Unit Unit) (St w (up w.step w.limit v) b (nts w.road v (up w.step w.limit v)) n r L [] mv [eN], ()) = some (.ok (), (St w (up w.step w.limit v) b (nts w.road v (up w.step w.limit v)) n r L [] mv [eN], ())) ∧ Calm w.road (up w.step w.limit v) (nts w.road v (up w.step w.limit v)) := by
  have hc : Calm w.road (up w.step w.limit v) (nts w.road v (up w.step w.limit v)) := by
    unfold nts
    split
    · rename_i e
      rcases h with h | h | h | h
      · omega
      · omega
      · omega
      · right; exact ⟨by omega, by rw [← h]⟩
    · split
      · exact .inr ⟨by omega, rfl⟩
      · exact .inl ⟨by omega, rfl⟩
  refine ⟨rounds_calm ?_ k, hc⟩
  rcases hc with ⟨_, e⟩ | ⟨_, e⟩
  · rw [e]; exact stale_nil
  · rw [e, stale_one]; simp
/-- the runs of a settling -/
theorem rounds_St (h0 : 0 ≤ w.road) (h4 : w.road ≤ 4) (hs : 1 ≤ w.step) : ∀ (k f : Nat) {v : Int} {ns : List (Str × Dt)} {n : Nat} {r : Dt} {L : List Dt} {mv : List Str}, k < f → v ≤ w.limit → w.limit - v ≤ w.step * (k : Nat) → mv.length + k < 8000 → L.length + k < 8000 →
    (stale valueM eN : MM Wk Unit Bool) (St w v b ns n r L [] mv [eN], ()) = some (.ok true, (St w v b ns n r L [] mv [eN], ())) →
    ∃ ns' mv', (roundsM wkE valueM (k + 1) : MM Wk Unit Unit) (St w v b ns n r L [] mv [eN], ()) = some (.ok (), (St w (dueL w.step w.limit w.road f v).2 b ns' (n + (dueL w.step w.limit w.road f v).1.length) ((dueL w.step w.limit w.road f v).1.getLast?.getD .none) (L ++ (dueL w.step w.limit w.road f v).1) [] mv' [eN], ())) ∧
      Calm w.road (dueL w.step w.limit w.road f v).2 ns' ∧ mv'.length ≤ mv.length + k + 1 ∧ (dueL w.step w.limit w.road f v).1 ≠ [] ∧ (dueL w.step w.limit w.road f v).1.length ≤ k + 1 := by
  intro k
  induction k with
  | zero =>
    intro f v ns n r L mv hf hv hd hm hl st
    obtain ⟨f, rfl⟩ : ∃ f', f = f' + 1 := ⟨f - 1, by omega⟩
    have ev : v = w.limit := by simp at hd; omega
    have eu : up w.step w.limit v = v := by unfold up; rw [if_neg (by omega)]; omega
    have ov : over w.road v (up w.step w.limit v) := .inr (.inr (.inr eu.symm))
    have eD : dueL w.step w.limit w.road (f + 1) v = ([rep w.road v (up w.step w.limit v)], up w.step w.limit v) := by rw [dueL]; exact if_pos ov
    rw [rounds_due h0 h4 (by omega) (by omega) st, eD]
    obtain ⟨e1, e2⟩ := over_calm (b := b) (n := n + 1) (r := rep w.road v (up w.step w.limit v)) (L := L ++ [rep w.road v (up w.step w.limit v)]) (mv := mvA w.step w.limit v mv) h0 h4 ov 0
    have := mvA_len (step := w.step) (limit := w.limit) (v := v) (mv := mv)
    exact ⟨_, _, e1, e2, by omega, by simp, by simp⟩
  | succ k ih =>
    intro f v ns n r L mv hf hv hd hm hl st
    obtain ⟨f, rfl⟩ : ∃ f', f = f' + 1 := ⟨f - 1, by omega⟩
    have hml := mvA_len (step := w.step) (limit := w.limit) (v := v) (mv := mv)
    rw [rounds_due h0 h4 (by omega) (by omega) st]
    by_cases ov : over w.road v (up w.step w.limit v)
    · have eD : dueL w.step w.limit w.road (f + 1) v = ([rep w.road v (up w.step w.limit v)], up w.step w.limit v) := by rw [dueL]; exact if_pos ov
      rw [eD]
      obtain ⟨e1, e2⟩ := over_calm (b := b) (n := n + 1) (r := rep w.road v (up w.step w.limit v)) (L := L ++ [rep w.road v (up w.step w.limit v)]) (mv := mvA w.step w.limit v mv) h0 h4 ov (k + 1)
      exact ⟨_, _, e1, e2, by omega, by simp, by simp⟩
    · have eD : dueL w.step w.limit w.road (f + 1) v = (rep w.road v (up w.step w.limit v) :: (dueL w.step w.limit w.road f (up w.step w.limit v)).1, (dueL w.step w.limit w.road f (up w.step w.limit v)).2) := by rw [dueL]; exact if_neg ov
      rw [eD]
      have hr : w.road = 0 ∨ w.road = 4 := by simp only [over, not_or] at ov; omega
      have hne : v ≠ up w.step w.limit v := fun z => ov (.inr (.inr (.inr z)))
      have hv' : up w.step w.limit v ≤ w.limit := by unfold up; split <;> omega
      have hd' : w.limit - up w.step w.limit v ≤ w.step * (k : Nat) := by
        unfold up
        split
        · have : w.step * ((k + 1 : Nat) : Int) = w.step * (k : Nat) + w.step := by rw [Int.natCast_add, Int.mul_add]; simp
          omega
        · have : 0 ≤ w.step * (k : Nat) := Int.mul_nonneg (by omega) (by omega)
          omega
      have en : nts w.road v (up w.step w.limit v) = [(aN, .int v)] := by unfold nts; rw [if_pos hr]
      obtain ⟨ns', mv', e1, e2, e3, e4, e5⟩ := ih f (v := up w.step w.limit v) (ns := nts w.road v (up w.step w.limit v)) (n := n + 1) (r := rep w.road v (up w.step w.limit v)) (L := L ++ [rep w.road v (up w.step w.limit v)]) (mv := mvA w.step w.limit v mv) (by omega) hv' hd' (by omega) (by simp; omega) (by rw [en, stale_one]; simp [Ne.symm hne])
      refine ⟨ns', mv', ?_, e2, by omega, by simp, by simp; omega⟩
      rw [e1]
      have a1 : ∀ (l : List Dt), l ≠ [] → (rep w.road v (up w.step w.limit v) :: l).getLast? = l.getLast? := fun l hl => by
        cases l with
        | nil => exact (hl rfl).elim
        | cons x y => rfl
      simp only
      rw [a1 _ e4, List.length_cons, List.append_assoc, show n + 1 + (dueL w.step w.limit w.road f (up w.step w.limit v)).1.length = n + ((dueL w.step w.limit w.road f (up w.step w.limit v)).1.length + 1) by omega]
      rfl
end
def desk0 : DS Wk := DS.new
theorem use_new {S : DS Wk} {nm : Str} (hf : S.frs = []) (hn : nm ∉ S.names) (hl : S.names.length < 200) : (useM nm : MM Wk Unit Unit) (S, ()) = some (.ok (), ({ S with names := S.names ++ [nm] }, ())) := by
  unfold useM
  have hp : (placedM : MM Wk Unit Unit) (S, ()) = some (.ok (), (S, ())) := by unfold placedM; rw [hf]; rfl
  rw [MM.bind_ok hp]
  simp only
  rw [if_neg hn, if_pos hl]
/-- behind the cells -/
def S1 (v : Int) : DS Wk := ⟨[aN], fun m => if m = aN then some (.cell v) else none, [aN], [aN], [], [], [], 0, []⟩
def S2 (v : Int) : DS Wk := ⟨[aN, bN], fun m => if m = bN then some (.cell 0) else if m = aN then some (.cell v) else none, [aN, bN], [aN, bN], [], [], [], 0, []⟩
theorem cell_a {v : Int} : (cellM aN v : MM Wk Unit Unit) (DS.new, ()) = some (.ok (), (S1 v, ())) := by
  unfold cellM
  rw [MM.bind_ok (use_new rfl (by simp [DS.new]) (by decide))]
  rfl
theorem cell_b {v : Int} : (cellM bN 0 : MM Wk Unit Unit) (S1 v, ()) = some (.ok (), (S2 v, ())) := by
  unfold cellM
  rw [MM.bind_ok (use_new rfl (by simp [S1]; exact ne_ab.symm) (by show 1 < 200; decide))]
  rfl
theorem S2_e {w : Wk} {v : Int} : ({ S2 v with names := (S2 v).names ++ [eN] } : DS Wk).setTh eN (.eff w [] 0 .none) = St w v 0 [] 0 .none [] [] [] [] := by
  unfold St DS.setTh S2
  simp only [List.map_nil]
  congr 1
  funext m
  unfold F
  by_cases c : m = eN
  · rw [if_pos c, if_pos c]
  · rw [if_neg c, if_neg c]
    by_cases d : m = aN
    · rw [if_pos d, if_pos d, d, if_neg ne_ab]
    · simp only [d, if_false]
theorem settle_St {w : Wk} {v b : Int} {ns : List (Str × Dt)} {n : Nat} {r : Dt} {L : List Dt} {mv : List Str} : (settleM wkE valueM : MM Wk Unit Unit) (St w v b ns n r L [] mv [eN], ()) = roundsM wkE valueM 100 (St w v b ns n r L [] [] [eN], ()) := by
  unfold settleM
  have hp : (placedM : MM Wk Unit Unit) (St w v b ns n r L [] mv [eN], ()) = some (.ok (), (St w v b ns n r L [] mv [eN], ())) := rfl
  rw [MM.bind_ok hp]
  refine (if_neg ?_).trans rfl
  rintro (z | z)
  · exact absurd (show 0 < 0 from z) (by decide)
  · exact z rfl
/-- .. and behind what follows -/
structure Ready (w : Wk) (v : Int) (ns : List (Str × Dt)) (mv : List Str) : Prop where
  r0 : 0 ≤ w.road
  r4 : w.road ≤ 4
  s1 : 1 ≤ w.step
  hv : v ≤ w.limit
  cm : Calm w.road v ns
  ml : mv.length ≤ 500
theorem Calm.stale {w : Wk} {v b : Int} {ns : List (Str × Dt)} {n : Nat} {r : Dt} {L : List Dt} {frs : List Fm} {mv efs : List Str} (h : Calm w.road v ns) : (stale valueM eN : MM Wk Unit Bool) (St w v b ns n r L frs mv efs, ()) = some (.ok false, (St w v b ns n r L frs mv efs, ())) := by
  rcases h with ⟨_, e⟩ | ⟨_, e⟩
  · rw [e]; exact stale_nil
  · rw [e, stale_one]; simp
theorem due_le {step limit road : Int} (hs : 1 ≤ step) : ∀ (f : Nat) {v : Int}, v ≤ limit → (dueL step limit road f v).2 ≤ limit
  | 0, v, h => h
  | f + 1, v, h => by
    have hv' : up step limit v ≤ limit := by unfold up; split <;> omega
    rw [dueL]
    split
    · exact hv'
    · exact due_le hs f hv'
theorem make_St {w : Wk} {v : Int} (r0 : 0 ≤ w.road) (r4 : w.road ≤ 4) (s1 : 1 ≤ w.step) (hv : v ≤ w.limit) (hd : w.limit - v ≤ w.step * 100) :
    ∃ ns mv, (effM wkE valueM eN w : MM Wk Unit Unit) (S2 v, ()) = some (.ok (), (St w (dueL w.step w.limit w.road 102 v).2 0 ns (dueL w.step w.limit w.road 102 v).1.length ((dueL w.step w.limit w.road 102 v).1.getLast?.getD .none) (dueL w.step w.limit w.road 102 v).1 [] mv [eN], ())) ∧
      Ready w (dueL w.step w.limit w.road 102 v).2 ns mv ∧ (dueL w.step w.limit w.road 102 v).1 ≠ [] ∧ (dueL w.step w.limit w.road 102 v).1.length ≤ 102 := by
  have e1 : (effM wkE valueM eN w : MM Wk Unit Unit) (S2 v, ()) = roundsM wkE valueM 100 (St w (up w.step w.limit v) 0 (nts w.road v (up w.step w.limit v)) 1 (rep w.road v (up w.step w.limit v)) [rep w.road v (up w.step w.limit v)] [] [] [eN], ()) := by
    unfold effM
    rw [MM.bind_ok (use_new rfl (by simp [S2]; exact ⟨ne_ae.symm, ne_be.symm⟩) (by show 2 < 200; decide))]
    simp only [S2_e]
    rw [MM.bind_ok (once_St r0 r4 (by decide) (by decide))]
    simp only
    refine (if_pos (show 0 < 200 by decide)).trans ?_
    exact settle_St
  rw [e1]
  by_cases ov : over w.road v (up w.step w.limit v)
  · have eD : dueL w.step w.limit w.road 102 v = ([rep w.road v (up w.step w.limit v)], up w.step w.limit v) := by rw [dueL]; exact if_pos ov
    obtain ⟨q1, q2⟩ := over_calm (b := 0) (n := 1) (r := rep w.road v (up w.step w.limit v)) (L := [rep w.road v (up w.step w.limit v)]) (mv := []) r0 r4 ov 100
    have hl := due_le (road := w.road) s1 102 hv
    rw [eD] at hl ⊢
    exact ⟨_, _, q1, ⟨r0, r4, s1, hl, q2, by decide⟩, by simp, by simp⟩
  · have eD : dueL w.step w.limit w.road 102 v = (rep w.road v (up w.step w.limit v) :: (dueL w.step w.limit w.road 101 (up w.step w.limit v)).1, (dueL w.step w.limit w.road 101 (up w.step w.limit v)).2) := by rw [dueL]; exact if_neg ov
    have hr : w.road = 0 ∨ w.road = 4 := by simp only [over, not_or] at ov; omega
    have hne : v ≠ up w.step w.limit v := fun z => ov (.inr (.inr (.inr z)))
    have hv' : up w.step w.limit v ≤ w.limit := by unfold up; split <;> omega
    have hd' : w.limit - up w.step w.limit v ≤ w.step * ((99 : Nat) : Int) := by unfold up; split <;> omega
    have en : nts w.road v (up w.step w.limit v) = [(aN, .int v)] := by unfold nts; rw [if_pos hr]
    obtain ⟨ns', mv', q1, q2, q3, q4, q5⟩ := rounds_St r0 r4 s1 99 101 (b := 0) (v := up w.step w.limit v) (ns := nts w.road v (up w.step w.limit v)) (n := 1) (r := rep w.road v (up w.step w.limit v)) (L := [rep w.road v (up w.step w.limit v)]) (mv := []) (by decide) hv' hd' (by decide) (by simp) (by rw [en, stale_one]; simp [Ne.symm hne])
    have hl := due_le (road := w.road) s1 102 hv
    rw [eD] at hl ⊢
    refine ⟨ns', mv', ?_, ⟨r0, r4, s1, hl, q2, by simp at q3; omega⟩, by simp, by simp; omega⟩
    rw [q1]
    have a1 : ∀ (l : List Dt), l ≠ [] → (rep w.road v (up w.step w.limit v) :: l).getLast? = l.getLast? := fun l hl => by
      cases l with
      | nil => exact (hl rfl).elim
      | cons x y => rfl
    simp only
    rw [a1 _ q4, List.length_cons, Nat.add_comm 1]
    rfl
theorem putb_St {w : Wk} {v b b' : Int} {ns : List (Str × Dt)} {n : Nat} {r : Dt} {L : List Dt} {mv : List Str} (R : Ready w v ns mv) : (putM wkE valueM bN b' : MM Wk Unit Unit) (St w v b ns n r L [] mv [eN], ()) = some (.ok (), (St w v b' ns n r L [] [] [eN], ())) := by
  unfold putM
  have hp : (placedM : MM Wk Unit Unit) (St w v b ns n r L [] mv [eN], ()) = some (.ok (), (St w v b ns n r L [] mv [eN], ())) := rfl
  rw [MM.bind_ok hp]
  simp only [St_b]
  refine (if_pos (show mv.length < 9000 by have := R.ml; omega)).trans ?_
  rw [St_set_b]
  have h1 := R.cm.stale (b := b') (n := n) (r := r) (L := L) (frs := []) (mv := []) (efs := [eN])
  exact (settle_St (mv := if b' = b then mv else mv ++ [bN])).trans (rounds_calm h1 100)
theorem puta_St {w : Wk} {v b u : Int} {ns : List (Str × Dt)} {n : Nat} {r : Dt} {L : List Dt} {mv : List Str} (R : Ready w v ns mv) (hu : u ≤ w.limit) (hd : w.limit - u ≤ w.step * 99) (hL : L.length ≤ 200) :
    ∃ ns' mv' r', ∃ D : List Dt × Int, D = (if (w.road = 0 ∨ w.road = 1 ∨ w.road = 4) ∧ u ≠ v then dueL w.step w.limit w.road 102 u else ([], u)) ∧ (putM wkE valueM aN u : MM Wk Unit Unit) (St w v b ns n r L [] mv [eN], ()) = some (.ok (), (St w D.2 b ns' (n + D.1.length) r' (L ++ D.1) [] mv' [eN], ())) ∧
      (D.1 = [] → r' = r) ∧ (D.1 ≠ [] → r' = D.1.getLast?.getD .none) ∧ D.1.length ≤ 102 := by
  have e1 : (putM wkE valueM aN u : MM Wk Unit Unit) (St w v b ns n r L [] mv [eN], ()) = roundsM wkE valueM 100 (St w u b ns n r L [] [] [eN], ()) := by
    unfold putM
    have hp : (placedM : MM Wk Unit Unit) (St w v b ns n r L [] mv [eN], ()) = some (.ok (), (St w v b ns n r L [] mv [eN], ())) := rfl
    rw [MM.bind_ok hp]
    simp only [St_a]
    refine (if_pos (show mv.length < 9000 by have := R.ml; omega)).trans ?_
    rw [St_set_a]
    exact settle_St (mv := if u = v then mv else mv ++ [aN])
  rw [e1]
  have rr : w.road = 0 ∨ w.road = 1 ∨ w.road = 2 ∨ w.road = 3 ∨ w.road = 4 := by have := R.r0; have := R.r4; omega
  by_cases c : (w.road = 0 ∨ w.road = 1 ∨ w.road = 4) ∧ u ≠ v
  · rw [if_pos c]
    have en : ns = [(aN, .int v)] := by
      rcases R.cm with ⟨z, _⟩ | ⟨_, z⟩
      · omega
      · exact z
    obtain ⟨ns', mv', q1, q2, q3, q4, q5⟩ := rounds_St R.r0 R.r4 R.s1 99 102 (b := b) (v := u) (ns := ns) (n := n) (r := r) (L := L) (mv := []) (by decide) hu hd (by decide) (by omega) (by rw [en, stale_one]; simp [c.2])
    exact ⟨ns', mv', _, _, rfl, q1, fun z => (q4 z).elim, fun _ => rfl, by omega⟩
  · rw [if_neg c]
    have hs : (stale valueM eN : MM Wk Unit Bool) (St w u b ns n r L [] [] [eN], ()) = some (.ok false, (St w u b ns n r L [] [] [eN], ())) := by
      rcases R.cm with ⟨_, e⟩ | ⟨nr, e⟩
      · rw [e]; exact stale_nil
      · have : u = v := by
          refine Classical.byContradiction fun z => c ⟨?_, z⟩
          omega
        rw [e, this, stale_one]; simp
    exact ⟨ns, [], r, _, rfl, by rw [rounds_calm hs 100]; simp, fun _ => rfl, fun z => (z rfl).elim, by simp⟩
end
end Tr
set_option maxHeartbeats 4000000

namespace Tr
open PySem L2 OXB LamX NdefX
section
variable {P : Program} {w : World} {K : PySem.W.Frag} {mg : Str → Option Value} {base : Heap} {a : Nat → Addr} {fd : Nat → FuncData} {tk : Nat → Tok}
local macro_rules | `(tactic| walk_at "ne") => `(tactic| first | assumption | (exact Ne.symm (by assumption)) | (refine ne_of_none (by assumption) (by assumption)) | (refine Ne.symm (ne_of_none (by assumption) (by assumption))))
local macro_rules | `(tactic| walk_at "hl") => `(tactic| first | assumption | with_reducible exact upd_same | ((with_reducible refine' Eq.trans (upd_ne ?hne) ?hrest); (case hne => walk_at "ne"); (case hrest => walk_at "hl")) | (refine' get_same ?hs ?hg; (case hs => assumption); (case hg => assumption)))
local macro_rules | `(tactic| walk_at "at") => `(tactic| first | with_reducible exact atI_0 _ _ | with_reducible exact atI_1 _ _ _ | with_reducible exact atI_2 _ _ _ _ | with_reducible exact atI_3 _ _ _ _ _ | assumption)
local macro_rules | `(tactic| walk_at "rd1") => `(tactic| first
  | with_reducible refine s_seq ?_ | with_reducible refine s_next ?_ | with_reducible refine s_if ?_ | with_reducible refine s_ret ?_ | with_reducible refine s_retN ?_ | with_reducible refine s_drop ?_ | with_reducible refine s_asg ?_ | with_reducible refine s_brk ?_ | with_reducible refine s_cont ?_
  | with_reducible refine s_gname ?_ | with_reducible refine s_c ?_ | with_reducible refine s_op ?_ | with_reducible refine s_un ?_ | with_reducible refine s_neg ?_ | with_reducible refine s_test ?_ | with_reducible refine s_tb ?_ | with_reducible refine s_not ?_ | with_reducible refine s_and ?_ | with_reducible refine s_or ?_ | with_reducible refine s_yes ?_
  | ((with_reducible refine' s_var ?hv ?_); (case hv => exact rfl))
  | with_reducible refine s_ifx ?_ | with_reducible refine s_andV ?_ | with_reducible refine s_orV ?_ | with_reducible refine s_notV ?_ | with_reducible refine s_chain ?_ | with_reducible refine s_nil ?_ | with_reducible refine s_cons ?_ | with_reducible refine s_lst ?_ | with_reducible refine s_tup ?_ | with_reducible refine s_cb ?_ | with_reducible refine s_call ?_ | with_reducible refine s_meth ?_ | with_reducible refine s_make ?_
  | with_reducible refine s_dnewK ?_ | with_reducible refine s_sl ?_ | with_reducible refine s_po0 ?_ | with_reducible refine s_po1 ?_ | with_reducible refine s_bm ?_ | with_reducible refine s_bm0 ?_
  | with_reducible refine s_bl ?_ | with_reducible refine s_int ?_ | with_reducible refine s_I0 ?_ | with_reducible refine s_addI ?_ | with_reducible refine s_intI ?_ | with_reducible refine s_intB ?_
  | with_reducible refine s_m1 ?_ | with_reducible refine s_lc ?_ | with_reducible refine s_ilist ?_ | with_reducible refine s_for ?_ | with_reducible refine s_irng ?_ | with_reducible refine s_match ?_ | with_reducible refine s_starT ?_ | with_reducible refine s_isS ?_ | with_reducible refine s_isiSS ?_ | with_reducible refine s_fldU ?_ | with_reducible refine s_sfldU ?_
  | ((with_reducible refine' s_eqS ?hq ?_); (case hq => exact rfl)) | ((with_reducible refine' s_neS ?hq ?_); (case hq => exact rfl))
  | ((with_reducible refine' s_isN ?hq ?_); (case hq => exact rfl)) | ((with_reducible refine' s_notN ?hq ?_); (case hq => exact rfl))
  | ((with_reducible refine' s_eqNil ?h1 ?h2 ?_); (case h1 => walk_at "hl"); (case h2 => walk_at "hl")) | ((with_reducible refine' s_neNil ?h1 ?h2 ?_); (case h1 => walk_at "hl"); (case h2 => walk_at "hl"))
  | ((with_reducible refine' s_ixL ?h1 ?h2 ?_); (case h1 => walk_at "hl"); (case h2 => walk_at "at")) | ((with_reducible refine' s_ixT ?h1 ?h2 ?_); (case h1 => walk_at "hl"); (case h2 => walk_at "at"))
  | ((with_reducible refine' s_inS ?h1 ?_); (case h1 => walk_at "hl")) | ((with_reducible refine' s_ninS ?h1 ?_); (case h1 => walk_at "hl")) | with_reducible refine s_inW ?_
  | ((with_reducible refine' s_lenL ?h1 ?_); (case h1 => walk_at "hl")) | ((with_reducible refine' s_lenT ?h1 ?_); (case h1 => walk_at "hl"))
  | ((with_reducible refine' s_tyL ?h1 ?_); (case h1 => walk_at "hl"))
  | ((with_reducible refine' s_fldM ?h1 ?h2 ?h3 ?_); (case h1 => walk_at "hl"); (case h2 => walk_at "fok"); (case h3 => walk_at "flk"))
  | ((with_reducible refine' s_setM ?h1 ?h2 ?h3 ?h4 ?_); (case h1 => walk_at "hl"); (case h2 => walk_at "fok"); (case h4 => walk_at "put"); (case h3 => exact Nat.le_of_ble_eq_true rfl))
  | ((with_reducible refine' s_starM ?h1 ?_); (case h1 => walk_at "hl"))
  | ((with_reducible refine' s_recv ?h1 ?h2 ?_); (case h1 => walk_at "hl"); (case h2 => exact rfl))
  | ((with_reducible refine' s_sz ?h1 ?_); (case h1 => (simp; done))))
local macro_rules | `(tactic| walk_at "rd") => `(tactic| repeat (walk_at "rd1"))
local macro_rules | `(tactic| walk_at "fok") => `(tactic| assumption)
local macro_rules | `(tactic| walk_at "flk") => `(tactic| rfl)
local macro_rules | `(tactic| walk_at "put") => `(tactic| exact rfl)

local macro_rules | `(tactic| walk_at "fok") => `(tactic| first | assumption | exact Tu.ce (by assumption) (by decide) | exact Tu.de (by assumption) (by decide) | exact Tu.ke (by assumption) (by decide) | exact Tu.fe (by assumption) (by decide) | exact Tu.ee (by assumption) (by decide))
def rowD (p : Str × Dt) : Dt := .tuple [.str p.1, p.2]
theorem shp_rows {L : List (Str × Dt)} (ok : ∀ p ∈ L, PyData.strOk p.1 = true ∧ PyData.canLay0 p.2 = true ∧ PyData.depth p.2 ≤ 10) : SeqAt.shaped (.list (L.map rowD)) = true := by
  have h : ∀ (L : List (Str × Dt)), (∀ p ∈ L, PyData.strOk p.1 = true ∧ PyData.canLay0 p.2 = true ∧ PyData.depth p.2 ≤ 10) → PyData.canLayAll0 (L.map rowD) = true ∧ PyData.depthAll (L.map rowD) ≤ 11 := by
    intro L
    induction L with
    | nil => intro _; exact ⟨rfl, by simp [PyData.depthAll]⟩
    | cons p L ih =>
      intro h
      obtain ⟨a1, a2, a3⟩ := h p (by simp)
      obtain ⟨b1, b2⟩ := ih fun y hy => h y (by simp [hy])
      have c : PyData.canLay0 (rowD p) = true := by unfold rowD; simp [PyData.canLay0, PyData.canLayAll0, a1, a2]
      exact ⟨by simp only [List.map_cons, PyData.canLayAll0, c, b1, Bool.and_self], by
        have e : PyData.depth (rowD p) ≤ 11 := by unfold rowD; simp only [PyData.depth, PyData.depthAll]; omega
        simp only [List.map_cons, PyData.depthAll]
        omega⟩
  obtain ⟨h1, h2⟩ := h L ok
  have h3 : PyData.depth (.list (L.map rowD)) ≤ 64 := by simp only [PyData.depth]; omega
  have h4 : PyData.canLay0 (.list (L.map rowD)) = true := by simp only [PyData.canLay0]; exact h1
  show (PyData.canLay0 _ && decide (PyData.depth _ ≤ 64)) = true
  rw [h4, Bool.true_and]
  exact decide_eq_true h3
theorem log_dp {K : PySem.W.Frag} {H : Hp} : ∀ {L : List (Str × Dt)} {xs : List V}, LogU H xs L → DpAll K H xs (L.map rowD)
  | [], [], _ => .nil
  | [], _ :: _, h => by cases h.1
  | _ :: _, [], h => by cases h.1
  | p :: L, x :: xs, h => by
    obtain ⟨t, u, rfl, ht, hu⟩ := h.2 0 x p rfl rfl
    exact .cons (.tup (SqT.of ht) (.cons (.str _) (.cons (hu.dv.dp _ _) .nil))) (log_dp ⟨by have := h.1; simpa using this, fun i v q h1 h2 => h.2 (i + 1) v q h1 h2⟩)
theorem s_neLog {K : PySem.W.Frag} {H : Hp} {Q : VK} {p q : Addr} {xs ys : List V} {L : List (Str × Dt)} (hp : H p = some (.lst xs)) (hq : H q = some (.lst ys)) (hx : LogU H xs L) (hy : LogU H ys L) (ok : ∀ p ∈ L, PyData.strOk p.1 = true ∧ PyData.canLay0 p.2 = true ∧ PyData.depth p.2 ≤ 10) (k : Q (.bl false) H) : rNeU K (.ref p) (.ref q) H Q := by
  have sq := shp_rows ok
  have kD : rNeD K (.ref p) (.ref q) H Q := ⟨_, _, .lst (SqL.of hp) (log_dp hx), .lst (SqL.of hq) (log_dp hy), sq, sq, by rw [SeqAt.eqv_refl _ (SeqAt.canLay_of_shaped sq)]; exact k⟩
  unfold rNeU
  rw [if_neg (by simp [scal])]
  cases ys with
  | nil =>
    have : xs = [] := by have h1 := hx.1; have h2 := hy.1; simp at h2; rw [← h2] at h1; simpa using h1
    subst this
    simp only [hq, hp]
    exact k
  | cons y ys =>
    simp only [hq]
    exact kD
theorem s_eqLog {K : PySem.W.Frag} {H : Hp} {Q : VK} {p q : Addr} {xs ys : List V} {L : List (Str × Dt)} (hp : H p = some (.lst xs)) (hq : H q = some (.lst ys)) (hx : LogU H xs L) (hy : LogU H ys L) (ok : ∀ p ∈ L, PyData.strOk p.1 = true ∧ PyData.canLay0 p.2 = true ∧ PyData.depth p.2 ≤ 10) (k : Q (.bl true) H) : rEqU K (.ref p) (.ref q) H Q := by
  have sq := shp_rows ok
  have kD : rEqD K (.ref p) (.ref q) H Q := ⟨_, _, .lst (SqL.of hp) (log_dp hx), .lst (SqL.of hq) (log_dp hy), sq, sq, by rw [SeqAt.eqv_refl _ (SeqAt.canLay_of_shaped sq)]; exact k⟩
  unfold rEqU
  rw [if_neg (by simp [scal])]
  cases ys with
  | nil =>
    have : xs = [] := by have h1 := hx.1; have h2 := hy.1; simp at h2; rw [← h2] at h1; simpa using h1
    subst this
    simp only [hq, hp]
    exact k
  | cons y ys =>
    simp only [hq]
    exact kD
theorem LogU.snoc1 {H : Hp} {lgs : List V} {L : List (Str × Dt)} {p : Str × Dt} {t : Addr} {u : V} (h : LogU H lgs L) (ht : H t = some (.tup [.str p.1, u])) (hu : DvS H u p.2) : LogU H (lgs ++ [.ref t]) (L ++ [p]) := by
  have hl := h.1
  refine ⟨by simp [h.1], fun i v q h1 h2 => ?_⟩
  by_cases hi : i < lgs.length
  · rw [List.getElem?_append_left hi] at h1
    rw [List.getElem?_append_left (by omega)] at h2
    exact h.2 i v q h1 h2
  · rw [List.getElem?_append_right (by omega)] at h1 h2
    have e0 : i - lgs.length = 0 := by
      have h5 := (List.getElem?_eq_some_iff.mp h1).1
      simp at h5
      omega
    rw [e0] at h1
    rw [show i - L.length = 0 by omega] at h2
    cases h1
    cases h2
    exact ⟨t, u, rfl, ht, hu⟩
end
end Tr
set_option maxHeartbeats 4000000

namespace Tr
open PySem L2 OXB LamX NdefX
section
variable {P : Program} {w : World} {K : PySem.W.Frag} {mg : Str → Option Value} {base : Heap} {a : Nat → Addr} {fd : Nat → FuncData} {tk : Nat → Tok}
local macro_rules | `(tactic| walk_at "ne") => `(tactic| first | assumption | (exact Ne.symm (by assumption)) | (refine ne_of_none (by assumption) (by assumption)) | (refine Ne.symm (ne_of_none (by assumption) (by assumption))))
local macro_rules | `(tactic| walk_at "hl") => `(tactic| first | assumption | with_reducible exact upd_same | ((with_reducible refine' Eq.trans (upd_ne ?hne) ?hrest); (case hne => walk_at "ne"); (case hrest => walk_at "hl")) | (refine' get_same ?hs ?hg; (case hs => assumption); (case hg => assumption)))
local macro_rules | `(tactic| walk_at "at") => `(tactic| first | with_reducible exact atI_0 _ _ | with_reducible exact atI_1 _ _ _ | with_reducible exact atI_2 _ _ _ _ | with_reducible exact atI_3 _ _ _ _ _ | assumption)
local macro_rules | `(tactic| walk_at "rd1") => `(tactic| first
  | with_reducible refine s_seq ?_ | with_reducible refine s_next ?_ | with_reducible refine s_if ?_ | with_reducible refine s_ret ?_ | with_reducible refine s_retN ?_ | with_reducible refine s_drop ?_ | with_reducible refine s_asg ?_ | with_reducible refine s_brk ?_ | with_reducible refine s_cont ?_
  | with_reducible refine s_gname ?_ | with_reducible refine s_c ?_ | with_reducible refine s_op ?_ | with_reducible refine s_un ?_ | with_reducible refine s_neg ?_ | with_reducible refine s_test ?_ | with_reducible refine s_tb ?_ | with_reducible refine s_not ?_ | with_reducible refine s_and ?_ | with_reducible refine s_or ?_ | with_reducible refine s_yes ?_
  | ((with_reducible refine' s_var ?hv ?_); (case hv => exact rfl))
  | with_reducible refine s_ifx ?_ | with_reducible refine s_andV ?_ | with_reducible refine s_orV ?_ | with_reducible refine s_notV ?_ | with_reducible refine s_chain ?_ | with_reducible refine s_nil ?_ | with_reducible refine s_cons ?_ | with_reducible refine s_lst ?_ | with_reducible refine s_tup ?_ | with_reducible refine s_cb ?_ | with_reducible refine s_call ?_ | with_reducible refine s_meth ?_ | with_reducible refine s_make ?_
  | with_reducible refine s_dnewK ?_ | with_reducible refine s_sl ?_ | with_reducible refine s_po0 ?_ | with_reducible refine s_po1 ?_ | with_reducible refine s_bm ?_ | with_reducible refine s_bm0 ?_
  | with_reducible refine s_bl ?_ | with_reducible refine s_int ?_ | with_reducible refine s_I0 ?_ | with_reducible refine s_addI ?_ | with_reducible refine s_intI ?_ | with_reducible refine s_intB ?_
  | with_reducible refine s_m1 ?_ | with_reducible refine s_lc ?_ | with_reducible refine s_ilist ?_ | with_reducible refine s_for ?_ | with_reducible refine s_irng ?_ | with_reducible refine s_match ?_ | with_reducible refine s_starT ?_ | with_reducible refine s_isS ?_ | with_reducible refine s_isiSS ?_ | with_reducible refine s_fldU ?_ | with_reducible refine s_sfldU ?_
  | ((with_reducible refine' s_eqS ?hq ?_); (case hq => exact rfl)) | ((with_reducible refine' s_neS ?hq ?_); (case hq => exact rfl))
  | ((with_reducible refine' s_isN ?hq ?_); (case hq => exact rfl)) | ((with_reducible refine' s_notN ?hq ?_); (case hq => exact rfl))
  | ((with_reducible refine' s_eqNil ?h1 ?h2 ?_); (case h1 => walk_at "hl"); (case h2 => walk_at "hl")) | ((with_reducible refine' s_neNil ?h1 ?h2 ?_); (case h1 => walk_at "hl"); (case h2 => walk_at "hl"))
  | ((with_reducible refine' s_ixL ?h1 ?h2 ?_); (case h1 => walk_at "hl"); (case h2 => walk_at "at")) | ((with_reducible refine' s_ixT ?h1 ?h2 ?_); (case h1 => walk_at "hl"); (case h2 => walk_at "at"))
  | ((with_reducible refine' s_inS ?h1 ?_); (case h1 => walk_at "hl")) | ((with_reducible refine' s_ninS ?h1 ?_); (case h1 => walk_at "hl")) | with_reducible refine s_inW ?_
  | ((with_reducible refine' s_lenL ?h1 ?_); (case h1 => walk_at "hl")) | ((with_reducible refine' s_lenT ?h1 ?_); (case h1 => walk_at "hl"))
  | ((with_reducible refine' s_tyL ?h1 ?_); (case h1 => walk_at "hl"))
  | ((with_reducible refine' s_fldM ?h1 ?h2 ?h3 ?_); (case h1 => walk_at "hl"); (case h2 => walk_at "fok"); (case h3 => walk_at "flk"))
  | ((with_reducible refine' s_setM ?h1 ?h2 ?h3 ?h4 ?_); (case h1 => walk_at "hl"); (case h2 => walk_at "fok"); (case h4 => walk_at "put"); (case h3 => exact Nat.le_of_ble_eq_true rfl))
  | ((with_reducible refine' s_starM ?h1 ?_); (case h1 => walk_at "hl"))
  | ((with_reducible refine' s_recv ?h1 ?h2 ?_); (case h1 => walk_at "hl"); (case h2 => exact rfl))
  | ((with_reducible refine' s_sz ?h1 ?_); (case h1 => (simp; done))))
local macro_rules | `(tactic| walk_at "rd") => `(tactic| repeat (walk_at "rd1"))
local macro_rules | `(tactic| walk_at "fok") => `(tactic| assumption)
local macro_rules | `(tactic| walk_at "flk") => `(tactic| rfl)
local macro_rules | `(tactic| walk_at "put") => `(tactic| exact rfl)

local macro_rules | `(tactic| walk_at "fok") => `(tactic| first | assumption | exact Tu.ce (by assumption) (by decide) | exact Tu.de (by assumption) (by decide) | exact Tu.ke (by assumption) (by decide) | exact Tu.fe (by assumption) (by decide) | exact Tu.ee (by assumption) (by decide))
theorem mem2 {a : Nat → Addr} : (a 82, qual2) ∈ TabL a := List.mem_cons_of_mem _ List.mem_cons_self
theorem tab2 {a : Nat → Addr} (ft : FreshT a) : ∀ p ∈ TabL a, p.1 = a 82 → p.2 = qual2 := fun p hp e => by
  simp only [TabL, List.mem_cons, List.not_mem_nil, or_false] at hp
  rcases hp with rfl | rfl
  · exact (ft e).elim
  · rfl
theorem s_methL' {X : Cx} {C : Addr} {m : Str} {sp : Sp} {ta : TE} {t : TA} {σ : L2.St} {H : Hp} {Q : VK} (h : ta σ H fun x H1 => ∃ a dx fs, x = .ref a ∧ H1 a = some (.ins C dx fs) ∧ fs.lookup m = none ∧ t σ H1 fun vs H2 => lentS X σ sp (x :: vs) H2 Q) : tMethL X C m sp ta t σ H Q := h
theorem hk2 : ∀ y ∈ free2, (defScope s__law_right).names.lookup y = some .cell := by decide +kernel
theorem rep_ok {road v v' : Int} : PyData.canLay0 (rep road v v') = true ∧ PyData.depth (rep road v v') ≤ 10 := by
  unfold rep
  split
  · simp [PyData.canLay0, PyData.canLayAll0, PyData.depth, PyData.depthAll]
  · split <;> simp [PyData.canLay0, PyData.depth]
theorem due_ok {step limit road : Int} : ∀ (f : Nat) {v : Int}, ∀ d ∈ (dueL step limit road f v).1, PyData.canLay0 d = true ∧ PyData.depth d ≤ 10
  | 0, v, d, h => by cases h
  | f + 1, v, d, h => by
    rw [dueL] at h
    split at h
    · rw [List.mem_singleton.mp h]; exact rep_ok
    · rcases List.mem_cons.mp h with e | e
      · rw [e]; exact rep_ok
      · exact due_ok f d e
theorem works_St {w w2 : Wk} {v b : Int} {ns : List (Str × Dt)} {n : Nat} {r : Dt} {L : List Dt} {frs : List Fm} {mv efs : List Str} {m : Str} {t : Th Wk} (h1 : (St w v b ns n r L frs mv efs).th m = some t) (h2 : t.work = some w2) : m = eN ∧ w2 = w := by
  have h1 : F w v b ns n r m = some t := h1
  unfold F at h1
  split at h1
  · rename_i e
    cases h1
    cases h2
    exact ⟨e, rfl⟩
  · split at h1
    · cases h1; cases h2
    · split at h1
      · cases h1; cases h2
      · cases h1
theorem s_seqJ {t1 t2 : TS} {na : L2.St → Hp → Prop} {rt : VK} {bk ct : L2.St → Hp → Prop} {σ : L2.St} {H : Hp} (S : L2.St → Hp → Prop) (h2 : ∀ σ' H', S σ' H' → t2 ⟨na, rt, bk, ct⟩ σ' H') (h1 : ∀ R : L2.St → Hp → Prop, (∀ σ' H', S σ' H' → R σ' H') → t1 ⟨R, rt, bk, ct⟩ σ H) : tSeq t1 t2 ⟨na, rt, bk, ct⟩ σ H := h1 _ h2
theorem RepsAt.app {H : Hp} {vs us : List V} {ds es : List Dt} (h : RepsAt H vs ds) (h' : RepsAt H us es) : RepsAt H (vs ++ us) (ds ++ es) := by
  have hl := h.1
  refine ⟨by simp [h.1, h'.1], fun i u e h1 h2 => ?_⟩
  by_cases hi : i < vs.length
  · rw [List.getElem?_append_left hi] at h1
    rw [List.getElem?_append_left (by omega)] at h2
    exact h.2 i u e h1 h2
  · rw [List.getElem?_append_right (by omega)] at h1 h2
    rw [hl] at h1
    exact h'.2 _ u e h1 h2
theorem read_out {w : Wk} {v b : Int} {ns : List (Str × Dt)} {n : Nat} {r : Dt} {L : List Dt} {mv efs : List Str} : (readCM aN : MM Wk Unit Dt) (St w v b ns n r L [] mv efs, ()) = some (.ok (.int v), (St w v b ns n r L [] mv efs, ())) := by
  unfold readCM
  rw [MM.bind_ok value_St]
  rfl
theorem eN_ok : PyData.strOk eN = true := by decide +kernel
section
variable {H0 H H8 : Hp} {g g' : Gh} {st st' : SW Wk Unit} {b : Addr} {cnt : Nat} {os0 : List (Addr × HO)} {X : Cx} {σ : L2.St} {os : Addr → Option Obj}
theorem RC.lent (R : RC a (Y0 a) H0 H g st b cnt os0) (lo : LentO X σ os) (free : ∀ c o, os c = some o → H c = none) (W8 : Wld a (Y1 a) g' st' H8) (t8 : Step g (lendH os H) g' H8) (hfr : ∀ c o, os c = some o → H8 c = some (frzO o)) : RC a (Y0 a) H0 (backH os H8) g' st' b cnt os0 ∧ Kp g H g' (backH os H8) := by
  obtain ⟨W9, t9⟩ := R.W.backS free W8 t8 hfr (fun h => TabsL.back h hfr) (fun n t w f h1 h2 h3 => by
    obtain ⟨c8, w8⟩ := id W8
    obtain ⟨⟨l1, l2⟩, _⟩ := w8.cl n t w f h1 h2 h3
    exact ⟨LamO.back l1 lo hfr, l2⟩)
  exact R.step W9 t9
theorem RC.lend (R : RC a (Y0 a) H0 H g st b cnt os0) (free : ∀ c o, os c = some o → H c = none) (hw : ∀ n t w, st.1.th n = some t → t.work = some w → ∃ os', CellsF w.cl free2 [.ref g.d, .ref (gA g aN), .int w.step, .int w.limit, .int w.road] os' (lendH os H)) : Wld a (Y1 a) g st (lendH os H) :=
  R.W.lend free (fun h => h) fun n t w f h1 h2 _ h4 => ⟨h4, hw n t w h1 h2⟩
end
section
theorem b__law_due (T : Tm P K mg a fd tk) : Binds K (fd 34) ["_law_start", "_law_step", "_law_limit", "_law_road"] [] := T.F__law_due.binds fun _ _ _ _ _ _ us hl => match us, hl with | [_, _, _, _], _ => rfl
def spRight (a : Nat → Addr) : Sp := fun vs H Q _ => ∃ (b : Addr), vs = [.ref b] ∧ BagD H b 0 ∧ Tabs (TabL a) H ∧ ∀ H', Tabs (TabL a) H' → (∀ x o, H x = some o → (∀ ps, o ≠ .tbl ps) → x ≠ b → H' x = some o) → Q (.bl true) H'
theorem ok__law_right (T : Tm P K mg a fd tk) (TB1 : TabB base mg (a 84) (a 85)) (TB2 : TabB base mg (a 81) (a 82)) (ft : FreshT a) : FnOk P w K mg base CX0 30 (a 80) (fd 80) ["_law_bag_here"] (spRight a) := by
  have W := wok_E (P := P) (w := w) (K := K) (mg := mg) (base := base) T TB1 ft
  have FE := (ok_Desk_effect (P := P) (w := w) (K := K) (mg := mg) (base := base) T.l.d (Y := Y1 a) (wk := wkE) (wo := valueM) (k := 12) W (fw0.mono (by decide)) WoC.val).calm
  have FP := (ok_Cell_put (P := P) (w := w) (K := K) (mg := mg) (base := base) T.l.d (Y := Y1 a) (wk := wkE) (wo := valueM) (k := 12) W (fw0.mono (by decide)) WoC.val).calm
  have FC := (ok_Desk_cell (P := P) (w := w) (K := K) (mg := mg) (base := base) T.l.d (Y := Y0 a)).calm
  refine T.F__law_right.ok sc__law_right (fun vs H Q E h => ?_) (fun A outer s H vs Q E hr h => ?_)
  · obtain ⟨b, rfl, _⟩ := h
    rfl
  · obtain ⟨b, rfl, B, hT, k⟩ := h
    refine ⟨_, (pss_cons (ps_asg (pe_tup (pa_cons (pe_make0 T.l.d.mk_Desk (ok_Desk___init__ T.l.d) (hr.mono (by first | decide | omega)) (by rfl) T.l.d.g_Desk (b_Desk___init__ T.l.d) .nil pass0) (pa_cons (pe_call (ok__law_take T.l) (hr.mono (by first | decide | omega)) (by rfl) T.l.g__law_take T.l.F__law_take.kp (b__law_take T.l) .nil pass0 (pa_cons (pv 0) (pa_cons pe_int pa_nil))) (pa_cons (pe_op uAdd pe_int (pe_call (ok__law_of T.l) (hr.mono (by first | decide | omega)) (by rfl) T.l.g__law_of T.l.F__law_of.kp (b__law_of T.l) .nil pass0 (pa_cons (pv 0) (pa_cons (pe_lst (pa_cons pe_int (pa_cons pe_int (pa_cons pe_int (pa_cons (pe_call (ok__law_take T.l) (hr.mono (by first | decide | omega)) (by rfl) T.l.g__law_take T.l.F__law_take.kp (b__law_take T.l) .nil pass0 (pa_cons (pv 0) (pa_cons (pe_op op_pow pe_int pe_int) pa_nil))) pa_nil))))) pa_nil)))) pa_nil)))) (pg_tupU (n := 3) rfl (pgs_cons (pg_name (i := 7) sc__law_right.nd rfl (by first | exact Or.inl rfl | exact Or.inr rfl)) (pgs_cons (pg_name (i := 8) sc__law_right.nd rfl (by first | exact Or.inl rfl | exact Or.inr rfl)) (pgs_cons (pg_name (i := 9) sc__law_right.nd rfl (by first | exact Or.inl rfl | exact Or.inr rfl)) pgs_nil)))))
  (pss_cons (ps_asg (pe_op op_sub (pe_call (ok__law_take T.l) (hr.mono (by first | decide | omega)) (by rfl) T.l.g__law_take T.l.F__law_take.kp (b__law_take T.l) .nil pass0 (pa_cons (pv 0) (pa_cons (pe_op op_pow pe_int pe_int) pa_nil))) (pe_op uMul pe_int (pe_op op_pow pe_int pe_int))) (pg_name (i := 1) sc__law_right.nd rfl (by first | exact Or.inl rfl | exact Or.inr rfl)))
  (pss_cons (ps_asg (pe_call (ok__law_of T.l) (hr.mono (by first | decide | omega)) (by rfl) T.l.g__law_of T.l.F__law_of.kp (b__law_of T.l) .nil pass0 (pa_cons (pv 0) (pa_cons (pe_lst (pa_cons (pe_call (ok__law_take T.l) (hr.mono (by first | decide | omega)) (by rfl) T.l.g__law_take T.l.F__law_take.kp (b__law_take T.l) .nil pass0 (pa_cons (pv 0) (pa_cons pe_int pa_nil))) (pa_cons (pe_call (ok__law_take T.l) (hr.mono (by first | decide | omega)) (by rfl) T.l.g__law_take T.l.F__law_take.kp (b__law_take T.l) .nil pass0 (pa_cons (pv 0) (pa_cons pe_int pa_nil))) (pa_cons pe_int pa_nil)))) pa_nil))) (pg_name (i := 2) sc__law_right.nd rfl (by first | exact Or.inl rfl | exact Or.inr rfl)))
  (pss_cons (ps_asg (pe_op op_sub (pe_op uAdd (pv 1) (pe_op uMul (pv 9) (pv 2))) (pe_op uMul (pe_call (ok__law_take T.l) (hr.mono (by first | decide | omega)) (by rfl) T.l.g__law_take T.l.F__law_take.kp (b__law_take T.l) .nil pass0 (pa_cons (pv 0) (pa_cons (pv 9) pa_nil))) (pe_callTy uInt (by rfl) T.l.b_int bt_int (pa_cons (pe_cmpR op_gt (pv 2) pe_int (nomark _)) pa_nil)))) (pg_name (i := 3) sc__law_right.nd rfl (by first | exact Or.inl rfl | exact Or.inr rfl)))
  (pss_cons (ps_asg (pe_tup (pa_cons (pe_meth (pv 7) T.l.d.cl_Desk T.l.d.m_Desk_cell FC (hr.mono (by first | decide | omega)) (b_Desk_cell T.l.d) .nil pass0 (pa_cons pe_str (pa_cons (pv 1) pa_nil))) (pa_cons (pe_meth (pv 7) T.l.d.cl_Desk T.l.d.m_Desk_cell FC (hr.mono (by first | decide | omega)) (b_Desk_cell T.l.d) .nil pass0 (pa_cons pe_str (pa_cons pe_int pa_nil))) pa_nil))) (pg_tupU (n := 2) rfl (pgs_cons (pg_name (i := 10) sc__law_right.nd rfl (by first | exact Or.inl rfl | exact Or.inr rfl)) (pgs_cons (pg_name (i := 11) sc__law_right.nd rfl (by first | exact Or.inl rfl | exact Or.inr rfl)) pgs_nil))))
  (pss_cons (ps_asg (pe_methL (pv 7) T.l.d.cl_Desk T.l.d.m_Desk_effect FE (hr.mono (by omega)) own_of (b_Desk_effect T.l.d) (pa_cons pe_str (pa_cons (pe_lamW (T := TabL a) (P := a 82) (params := lamP2) (body := lamB2) (scope := lamSc2) TB2 rfl (by exact mem2) (tab2 ft) (show LamS (defScope s__law_right) lamSc2 from lamS_by (by decide +kernel))) pa_nil))) (pg_name (i := 4) sc__law_right.nd rfl (by first | exact Or.inl rfl | exact Or.inr rfl)))
  (pss_cons (ps_asg (pe_call (ok__law_due T) (hr.mono (by first | decide | omega)) (by rfl) T.g__law_due T.F__law_due.kp (b__law_due T) .nil pass0 (pa_cons (pv 1) (pa_cons (pv 9) (pa_cons (pv 3) (pa_cons (pv 8) pa_nil))))) (pg_tupU (n := 2) rfl (pgs_cons (pg_name (i := 12) sc__law_right.nd rfl (by first | exact Or.inl rfl | exact Or.inr rfl)) (pgs_cons (pg_name (i := 13) sc__law_right.nd rfl (by first | exact Or.inl rfl | exact Or.inr rfl)) pgs_nil))))
  (pss_cons (ps_if (PW.pt (pw_or (pt_cmpR (uNe K hr.units) (pe_callTy (call_listIt T.l.d.o_Desk___iter__.at_ T.l.d.o_Desk___iter__.fn T.l.d.o_Desk___len__.at_ T.l.d.o_Desk___len__.fn (ok_Desk___iter__ T.l.d (Y := Y0 a)) (b_Desk___iter__ T.l.d) (ok_Desk___len__ T.l.d (Y := Y0 a)) (b_Desk___len__ T.l.d) (hr.mono (by first | decide | omega)) rfl) (by rfl) T.l.d.b_list bt_list (pa_cons (pv 7) pa_nil)) (pe_lc (own := [("_law_report", 14)]) rfl sc__law_right.nd (pi_list (pv 12)) (blkOk_by (N := N__law_right) (sc := defScope s__law_right) (by decide +kernel)) (fun _ _ _ _ _ => (pg_name (i := 14) sc__law_right.nd rfl (by first | exact Or.inl rfl | exact Or.inr rfl))) (fun _ _ _ _ _ => pts_nil) (fun _ _ _ _ _ => (pe_tup (pa_cons pe_str (pa_cons (pv 14) pa_nil))))) (nomark _)) (pw_or (pt_cmpR (uNe K hr.units) (pe_prop (pv 10) T.l.d.cl_Cell T.l.d.p_Cell_value (ok_Cell_value T.l.d (Y := Y0 a)) (hr.mono (by first | decide | omega)) (b_Cell_value T.l.d) .nil pass0 (by rfl)) (pv 13) (nomark _)) (pw_or1 (pt_cmpR (uNe K hr.units) (pe_fldU K (pv 4)) (pe_callB uLen (by rfl) T.l.d.b_len bt_len (pa_cons (pv 12) pa_nil)) (nomark _)))))) (pss_one (ps_ret pe_bl)) pss_nil)
  (pss_cons (ps_expr (pe_methL (pv 11) T.l.d.cl_Cell T.l.d.m_Cell_put FP (hr.mono (by omega)) own_of (b_Cell_put T.l.d) (pa_cons pe_int pa_nil)))
  (pss_cons (ps_if (pt_cmpR (uNe K hr.units) (pe_callB (call_lenO (E := E0) T.l.d.o_Desk___len__.at_ T.l.d.o_Desk___len__.fn (ok_Desk___len__ T.l.d (Y := Y0 a)) (hr.in1.mono (by first | decide | omega)) rfl (b_Desk___len__ T.l.d) pass0) (by rfl) T.l.d.b_len bt_len (pa_cons (pv 7) pa_nil)) (pe_callB uLen (by rfl) T.l.d.b_len bt_len (pa_cons (pv 12) pa_nil)) (nomark _)) (pss_one (ps_ret pe_bl)) pss_nil)
  (pss_cons (ps_asg (pe_op op_sub (pv 3) (pe_op uMul (pv 9) (pe_call (ok__law_of T.l) (hr.mono (by first | decide | omega)) (by rfl) T.l.g__law_of T.l.F__law_of.kp (b__law_of T.l) .nil pass0 (pa_cons (pv 0) (pa_cons (pe_lst (pa_cons (pe_call (ok__law_take T.l) (hr.mono (by first | decide | omega)) (by rfl) T.l.g__law_take T.l.F__law_take.kp (b__law_take T.l) .nil pass0 (pa_cons (pv 0) (pa_cons pe_int pa_nil))) (pa_cons pe_int pa_nil))) pa_nil))))) (pg_name (i := 5) sc__law_right.nd rfl (by first | exact Or.inl rfl | exact Or.inr rfl)))
  (pss_cons (ps_expr (pe_methL (pv 10) T.l.d.cl_Cell T.l.d.m_Cell_put FP (hr.mono (by omega)) own_of (b_Cell_put T.l.d) (pa_cons (pv 5) pa_nil)))
  (pss_cons (ps_asg (pe_lst pa_nil) (pg_name (i := 6) sc__law_right.nd rfl (by first | exact Or.inl rfl | exact Or.inr rfl)))
  (pss_cons (ps_if (PW.pt (pw_and (pt_cmpR (uIn K) (pv 8) (pe_tup (pa_cons pe_int (pa_cons pe_int (pa_cons pe_int pa_nil)))) (by rfl)) (pw_and1 (pt_cmpR (uNe K hr.units) (pv 5) (pv 13) (nomark _))))) (pss_one (ps_asg (pe_call (ok__law_due T) (hr.mono (by first | decide | omega)) (by rfl) T.g__law_due T.F__law_due.kp (b__law_due T) .nil pass0 (pa_cons (pv 5) (pa_cons (pv 9) (pa_cons (pv 3) (pa_cons (pv 8) pa_nil))))) (pg_tupU (n := 2) rfl (pgs_cons (pg_name (i := 6) sc__law_right.nd rfl (by first | exact Or.inl rfl | exact Or.inr rfl)) (pgs_cons (pg_name (i := 13) sc__law_right.nd rfl (by first | exact Or.inl rfl | exact Or.inr rfl)) pgs_nil))))) (pss_one (ps_asg (pv 5) (pg_name (i := 13) sc__law_right.nd rfl (by first | exact Or.inl rfl | exact Or.inr rfl)))))
  (pss_one (ps_ret (pe_and (pe_cmpR (uEq K hr.units) (pe_callTy (call_listIt T.l.d.o_Desk___iter__.at_ T.l.d.o_Desk___iter__.fn T.l.d.o_Desk___len__.at_ T.l.d.o_Desk___len__.fn (ok_Desk___iter__ T.l.d (Y := Y0 a)) (b_Desk___iter__ T.l.d) (ok_Desk___len__ T.l.d (Y := Y0 a)) (b_Desk___len__ T.l.d) (hr.mono (by first | decide | omega)) rfl) (by rfl) T.l.d.b_list bt_list (pa_cons (pv 7) pa_nil)) (pe_lc (own := [("_law_report", 14)]) rfl sc__law_right.nd (pi_list (pe_op uAdd (pv 12) (pv 6))) (blkOk_by (N := N__law_right) (sc := defScope s__law_right) (by decide +kernel)) (fun _ _ _ _ _ => (pg_name (i := 14) sc__law_right.nd rfl (by first | exact Or.inl rfl | exact Or.inr rfl))) (fun _ _ _ _ _ => pts_nil) (fun _ _ _ _ _ => (pe_tup (pa_cons pe_str (pa_cons (pv 14) pa_nil))))) (nomark _)) (pe_and (pe_cmpR (uEq K hr.units) (pe_callO0 (E := fun _ => E0) callee_name (pv 10) T.l.d.o_Cell___call__.at_ T.l.d.o_Cell___call__.fn T.l.d.o_Cell___call__.fi (ok_Cell___call__ T.l.d (Y := Y0 a)) (hr.mono (by first | decide | omega)) (b_Cell___call__ T.l.d) (fun _ => passZ0)) (pv 13) (nomark _)) (pe_one (pe_cmpR (uEq K hr.units) (pe_fldU K (pv 4)) (pe_ix uIx (pe_op uAdd (pv 12) (pv 6)) (pe_un un_neg pe_int) (fun _ _ => rfl)) (nomark _))))))))))))))))))))), ?_⟩
    walk_at "rd"
    intro d dx nd ndx hne
    refine ⟨d, dx, rfl, upd_same, fun c H1 N => ⟨rfl, ?_⟩⟩
    obtain ⟨R, s0⟩ := RC.start (Y := Y0 a) (l := ()) B hT nd ndx hne N (fun g H h => h)
    have hgd : (gNew d c (tabL (TabL a))).d = d := rfl
    have hgL : ∀ p ∈ TabL a, (gNew d c (tabL (TabL a))).L p.1 := fun p hp => ⟨p, hp, rfl⟩
    generalize gNew d c (tabL (TabL a)) = g at R hgd hgL
    clear N nd ndx hne s0
    walk_at "rd"
    refine ⟨b, 5, 0, rfl, R.B, by decide, by decide, by decide, fun road H2 r0 r5 B2 f2 => ?_⟩
    obtain ⟨R, k2⟩ := R.bag B2 f2
    clear B2 f2 k2
    walk_at "rd"
    refine s_I ⟨by decide, by decide, by decide⟩ ?_
    walk_at "rd"
    refine ⟨b, _, _, rfl, R.B, by decide, by decide, by decide, fun d3 H3 d30 d31 B3 f3 => ?_⟩
    obtain ⟨R, k2⟩ := R.bag B3 f3
    clear B3 f3 k2
    walk_at "rd"
    intro q nq
    obtain ⟨R, k2⟩ := R.new (o := .lst [.int 0, .int 0, .int 4, .int d3]) nq
    generalize upd H3 q (.lst [.int 0, .int 0, .int 4, .int d3]) = H4 at R ⊢
    clear k2 nq
    walk_at "rd"
    refine ⟨b, q, _, _, rfl, R.B, by decide, R.get 0 rfl, R.nb 0 rfl, Nat.zero_lt_succ _, Nat.le_of_ble_eq_true rfl, fun j x H5 hx B5 f5 => ?_⟩
    obtain ⟨st0, rfl, st1, st2⟩ : ∃ st0 : Int, x = V.int st0 ∧ 0 ≤ st0 ∧ st0 < 10 ^ 26 := by
      match j, hx with
      | 0, hx => cases hx; exact ⟨_, rfl, by decide, by decide⟩
      | 1, hx => cases hx; exact ⟨_, rfl, by decide, by decide⟩
      | 2, hx => cases hx; exact ⟨_, rfl, by decide, by decide⟩
      | 3, hx => cases hx; exact ⟨_, rfl, d30, d31⟩
      | j + 4, hx => simp at hx
    obtain ⟨R, k2⟩ := R.bag B5 f5
    have R := R.drop (List.nil_sublist _)
    clear B5 f5 k2 hx d30 d31
    walk_at "rd"
    intro t nt
    obtain ⟨R, k2⟩ := R.newI (o := .tup [.ref d, .int road, .int (1 + st0)]) nt
    refine s_gtup3 upd_same rfl ?_
    generalize upd H5 t (.tup [.ref d, .int road, .int (1 + st0)]) = H6 at R ⊢
    clear k2 nt
    obtain ⟨step, hst⟩ : ∃ step, step = 1 + st0 := ⟨_, rfl⟩
    rw [← hst]
    have stp1 : 1 ≤ step := by omega
    have stp2 : step ≤ 10 ^ 26 := by omega
    clear hst st1 st2
    walk_at "rd"
    refine s_I ⟨by decide, by decide, by decide⟩ ?_
    walk_at "rd"
    refine ⟨b, _, _, rfl, R.B, by decide, by decide, by decide, fun d3 H3 d30 d31 B3 f3 => ?_⟩
    obtain ⟨R, k2⟩ := R.bag B3 f3
    clear B3 f3 k2
    walk_at "rd"
    refine s_I ⟨by decide, by decide, by decide⟩ ?_
    walk_at "rd"
    refine s_mulI (mulOk (by decide) (by decide)) ?_
    walk_at "rd"
    obtain ⟨v0, hv0⟩ : ∃ v0 : Int, v0 = d3 - 5 * 10 ^ Int.toNat 27 := ⟨_, rfl⟩
    rw [← hv0]
    have e27 : (10 : Int) ^ Int.toNat 27 = 1000000000000000000000000000 := by decide
    have e28 : (10 : Int) ^ Int.toNat 28 = 10000000000000000000000000000 := by decide
    have v1 : v0.natAbs ≤ 10000000000000000000000000000 := by rw [e27] at hv0; rw [e28] at d31; omega
    clear e27 e28 hv0 d30 d31
    refine ⟨b, _, _, rfl, R.B, by decide, by decide, by decide, fun d3 H3 d30 d31 B3 f3 => ?_⟩
    obtain ⟨R, k2⟩ := R.bag B3 f3
    clear B3 f3 k2
    walk_at "rd"
    refine ⟨b, _, _, rfl, R.B, by decide, by decide, by decide, fun d4 H3 d40 d41 B3 f3 => ?_⟩
    obtain ⟨R, k2⟩ := R.bag B3 f3
    clear B3 f3 k2
    walk_at "rd"
    intro q nq
    obtain ⟨R, k2⟩ := R.new (o := .lst [.int d3, .int d4, .int 100]) nq
    generalize upd H3 q (.lst [.int d3, .int d4, .int 100]) = H4 at R ⊢
    clear k2 nq
    walk_at "rd"
    refine ⟨b, q, _, _, rfl, R.B, by decide, R.get 0 rfl, R.nb 0 rfl, Nat.zero_lt_succ _, Nat.le_of_ble_eq_true rfl, fun j x H5 hx B5 f5 => ?_⟩
    obtain ⟨many, rfl, m1, m2⟩ : ∃ m : Int, x = V.int m ∧ 0 ≤ m ∧ m ≤ 100 := by
      match j, hx with
      | 0, hx => cases hx; exact ⟨_, rfl, d30, by omega⟩
      | 1, hx => cases hx; exact ⟨_, rfl, d40, by omega⟩
      | 2, hx => cases hx; exact ⟨_, rfl, by decide, by decide⟩
      | j + 3, hx => simp at hx
    obtain ⟨R, k2⟩ := R.bag B5 f5
    have R := R.drop (List.nil_sublist _)
    clear B5 f5 k2 hx d30 d31 d40 d41
    walk_at "rd"
    refine s_mulI (mulOk (by omega) (by omega)) ?_
    walk_at "rd"
    refine ⟨b, _, _, rfl, R.B, by decide, by omega, by omega, fun d4 H3 d40 d41 B3 f3 => ?_⟩
    obtain ⟨R, k2⟩ := R.bag B3 f3
    clear B3 f3 k2
    walk_at "rd"
    refine s_mulI (mulOk (by omega) (by split <;> decide)) ?_
    walk_at "rd"
    obtain ⟨limit, hlim⟩ : ∃ l : Int, l = v0 + step * many - d4 * (if decide (0 < many) = true then 1 else 0) := ⟨_, rfl⟩
    rw [← hlim]
    have lim1 : v0 ≤ limit ∧ limit - v0 ≤ step * 100 := by
      have h1 : step * many ≤ step * 100 := Int.mul_le_mul_of_nonneg_left m2 (by omega)
      by_cases hm : 0 < many
      · rw [if_pos (decide_eq_true hm)] at hlim
        have h2 : step * 1 ≤ step * many := Int.mul_le_mul_of_nonneg_left (by omega) (by omega)
        omega
      · rw [if_neg (by simpa using hm)] at hlim
        have h2 : many = 0 := by omega
        subst h2
        omega
    have lim3 : limit.natAbs < 2 ^ 190 := by
      have h1 : step * 100 ≤ 10 ^ 26 * 100 := Int.mul_le_mul_of_nonneg_right stp2 (by decide)
      omega
    obtain ⟨lim1, lim2⟩ := lim1
    clear hlim d40 d41 m1 m2
    obtain ⟨c0, W0⟩ := id R.W
    have hob := W0.desk
    rw [hgd] at hob
    walk_at "rd"
    refine ⟨g, (DS.new, ()), aN, v0, by rw [hgd]; rfl, R.W, Post.of_eq cell_a (Post.mkOk fun g2 H4 W2 t2 => ?_)⟩
    obtain ⟨R, k2⟩ := R.step W2 t2
    have hgd := t2.d.trans hgd
    have hgL : ∀ p ∈ TabL a, g2.L p.1 := fun p hp => t2.L _ (hgL p hp)
    obtain ⟨xa, hxa⟩ : ∃ x, g2.adr aN = some x := (W2.elim fun _ w => w.ok.adr aN (.cell v0) rfl)
    have ega : gA g2 aN = xa := gA_at hxa
    rw [ega]
    clear k2 W2 t2 W0 hob c0 ega
    obtain ⟨c0, W0⟩ := id R.W
    have hob := W0.desk
    rw [hgd] at hob
    walk_at "rd"
    refine ⟨g2, (S1 v0, ()), bN, 0, by rw [hgd]; rfl, R.W, Post.of_eq cell_b (Post.mkOk fun g3 H5 W3 t3 => ?_)⟩
    obtain ⟨R, k2⟩ := R.step W3 t3
    have hgd := t3.d.trans hgd
    have hgL : ∀ p ∈ TabL a, g3.L p.1 := fun p hp => t3.L _ (hgL p hp)
    have hxa := t3.adr _ _ hxa
    obtain ⟨xb, hxb⟩ : ∃ x, g3.adr bN = some x := (W3.elim fun _ w => w.ok.adr bN (.cell 0) rfl)
    rw [gA_at hxb]
    clear k2 W3 t3 W0 hob c0
    walk_at "rd"
    intro t nt
    obtain ⟨R, k2⟩ := R.newI (o := .tup [.ref xa, .ref xb]) nt
    refine s_gtup2 upd_same rfl ?_
    generalize upd H5 t (.tup [.ref xa, .ref xb]) = H6 at R ⊢
    clear k2 nt
    obtain ⟨c0, W0⟩ := id R.W
    have hob := W0.desk
    rw [hgd] at hob
    have la := W0.la
    walk_at "rd"
    refine s_methL' ?_
    walk_at "rd"
    refine ⟨d, _, _, rfl, hob, rfl, ?_⟩
    walk_at "rd"
    refine ⟨la.2, fun f c' pm ctv H7 ext et nn T7 nf hf hc' => ?_⟩
    obtain ⟨R, k2⟩ := R.lam ext et nn (hgL _ mem2) ⟨hgL, T7⟩
    walk_at "rd"
    intro os lo free
    have CF := CellsF.of_lent (H := H7) scLam2 (L := s.heap.objs.size) rfl hk2 lo (ws := [.ref d, .ref xa, .int step, .int limit, .int road]) rfl (fun i y v e1 e2 => by
      match i, e1, e2 with
      | 0, e1, e2 => cases e1; cases e2; exact ⟨7, rfl, rfl⟩
      | 1, e1, e2 => cases e1; cases e2; exact ⟨10, rfl, rfl⟩
      | 2, e1, e2 => cases e1; cases e2; exact ⟨9, rfl, rfl⟩
      | 3, e1, e2 => cases e1; cases e2; exact ⟨3, rfl, rfl⟩
      | 4, e1, e2 => cases e1; cases e2; exact ⟨8, rfl, rfl⟩
      | i + 5, e1, _ => simp [free2] at e1)
    have hLO : LamO f H7 qual2 lamP2 lamB2 lamSc2 (cloFrom (cellsFrom (s.heap.objs.size + 1) (defScope s__law_right).names []) lamSc2.names []) c' := ⟨pm, ctv, hf, hc'⟩
    obtain ⟨clm, hclm⟩ : ∃ clm, clm = cloFrom (cellsFrom (s.heap.objs.size + 1) (defScope s__law_right).names []) lamSc2.names [] := ⟨_, rfl⟩
    rw [← hclm] at hLO
    obtain ⟨w', hw'⟩ : ∃ w' : Wk, w' = ⟨clm, c', step, limit, road⟩ := ⟨_, rfl⟩
    have eroad : w'.road = road := by rw [hw']
    have estep : w'.step = step := by rw [hw']
    have elim : w'.limit = limit := by rw [hw']
    have ecl : w'.cl = clm := by rw [hw']
    have ecd : w'.cd = c' := by rw [hw']
    obtain ⟨ns, mv, em, Rd, dne, dlen⟩ := make_St (w := w') (v := v0) (by rw [eroad]; exact r0) (by rw [eroad]; omega) (by rw [estep]; exact stp1) (by rw [elim]; exact lim1) (by rw [elim, estep]; exact lim2)
    rw [eroad, estep, elim] at em Rd dne dlen
    have sl := lend_same free
    have WL := R.lend free (fun n t w h1 h2 => by
      have h1 : (if n = bN then some (Th.cell 0) else if n = aN then some (Th.cell v0) else none : Option (Th Wk)) = some t := h1
      split at h1
      · cases h1; cases h2
      · split at h1
        · cases h1; cases h2
        · cases h1)
    refine ⟨g3, (S2 v0, ()), eN, f, w', by rw [hgd]; rfl, WL, ⟨⟨?_, xa, hxa⟩, _, by rw [hgd, gA_at hxa, eroad, estep, elim, ecl, hclm]; exact CF⟩, ?_⟩
    · obtain ⟨pm, ctv, h1, h2⟩ := hLO
      rw [ecl, ecd]
      exact ⟨pm, ctv, sl _ _ h1, sl _ _ h2⟩
    refine Post.of_eq em (Post.mkOk fun g4 H8 W8 t8 hfr => ?_)
    have hxa := t8.adr _ _ hxa
    have hxb := t8.adr _ _ hxb
    have hgd := t8.d.trans hgd
    have hgL : ∀ p ∈ TabL a, g4.L p.1 := fun p hp => t8.L _ (hgL p hp)
    obtain ⟨R, k2⟩ := R.lent lo free W8 t8 hfr
    generalize backH os H8 = H9 at R ⊢
    clear W8 t8 hfr WL CF sl em k2 hLO hf hc' nf T7 nn et ext la lo free
    walk_at "rd"
    obtain ⟨DL, hDL⟩ : ∃ D, D = dueL step limit road 102 v0 := ⟨_, rfl⟩
    rw [← hDL] at R Rd dne dlen
    refine ⟨v0, step, limit, road, rfl, r0, by omega, fun t p us H10 sm ht hp rp np => ?_⟩
    rw [← hDL] at ht rp
    have R := R.newS sm np hp
    refine s_gtup2 ht rfl ?_
    clear ht sm
    walk_at "rd"
    rw [← hgd]
    refine s_listDesk R.W fun cc q1 H11 Wq nq s11 hq1 => ?_
    have hlog : LogU H11 cc.lgs (DL.1.map fun d => (eN, d)) := Wq.vr.log.stay (fun x l e => s11 x _ e)
    rw [hgd]
    have R := R.same s11
    have hp := s11 _ _ hp
    have rp := rp.stay fun x l e => s11 x _ e
    have lus := rp.1
    have dok : ∀ d ∈ DL.1, PyData.canLay0 d = true ∧ PyData.depth d ≤ 10 := by rw [hDL]; exact due_ok 102
    clear Wq nq s11
    walk_at "rd"
    refine s_lcW hp (fun D2 i H' => Same H11 H' ∧ H11 D2 = none ∧ ∃ acc, H' D2 = some (.lst acc) ∧ LogU H' acc ((DL.1.map fun d => (eN, d)).take i)) (fun D2 nD => ⟨Same.new nD, nD, [], upd_same, rfl, fun i v p h => by simp at h⟩) (fun D2 i H' _ h => h.1 _ _ hp) ?_ ?_
    · rintro D2 i x H' hx ⟨s', nD, acc, hD, LU⟩
      have hi := (List.getElem?_eq_some_iff.mp hx).1
      obtain ⟨r, hr⟩ : ∃ r, DL.1[i]? = some r := ⟨_, List.getElem?_eq_getElem (by rw [← lus]; exact hi)⟩
      have hxr := (rp.stay fun x l e => s' x _ e).2 i x r hx hr
      have la := LU.1
      rw [List.length_take, List.length_map] at la
      refine ⟨rfl, ?_⟩
      unfold tYes
      dsimp only
      rw [if_pos rfl]
      walk_at "rd"
      intro q2 nq2
      have sq2 := Same.new (o := .tup [.str eN, x]) nq2
      have hq2 : upd H' q2 (.tup [.str eN, x]) q2 = some (.tup [.str eN, x]) := upd_same
      have hD17 := sq2 _ _ hD
      have hx17 := hxr.stay fun x l e => sq2 x _ e
      have LU17 := LU.stay (fun x l e => sq2 x _ e)
      have e0 : upd H' q2 (.tup [.str (Str.ofString "e"), x]) = upd H' q2 (.tup [.str eN, x]) := rfl
      rw [e0]
      generalize upd H' q2 (.tup [.str eN, x]) = H17 at sq2 hq2 hD17 hx17 LU17 ⊢
      walk_at "rd"
      have ft : ∀ x l, H17 x = some (.tup l) → upd H17 D2 (.lst (acc ++ [.ref q2])) x = some (.tup l) := fun x l e => by rw [upd_ne (ne_of e hD17 (by intro z; cases z))]; exact e
      refine ⟨acc, hD17, sz_lt (by omega), fun x o h => by rw [upd_ne (ne_of_none h nD)]; exact sq2 _ _ (s' _ _ h), nD, _, upd_same, ?_⟩
      rw [List.take_succ, List.getElem?_map, hr]
      exact (LU17.snoc1 (p := (eN, r)) hq2 hx17).stay ft
    rintro D2 H12 ⟨s', nD, acc, hD, LU⟩
    rw [List.take_of_length_le (by rw [List.length_map, lus]; exact Nat.le_refl _)] at LU
    refine s_neLog (s' _ _ hq1) hD (hlog.stay fun x l e => s' x _ e) LU (fun p hp => ?_) ?_
    · obtain ⟨r, hr, rfl⟩ := List.mem_map.mp hp
      exact ⟨eN_ok, dok r hr⟩
    have R := R.same s'
    have hp := s' _ _ hp
    have rp := rp.stay fun x l e => s' x _ e
    clear hlog hq1 LU hD nD s'
    have Td : Tu P K mg a fd tk := T.l.d
    have ra : RepsAt H12 us DL.1 := rp
    refine ⟨_, rfl, ?_⟩
    refine ifF rfl ?_
    obtain ⟨c0, W0⟩ := id R.W
    have hca := W0.th St_a
    have hce : H12 (gA g4 eN) = some (.ins (a 60) (c0.idx eN) (effU g4.d eN (wA g4 eN) (c0.nad eN) (DL.1.length : Nat) (c0.vh eN))) := W0.th St_e
    have hcb : H12 (gA g4 bN) = some (.ins (a 2) (c0.idx bN) (cellU g4.d bN 0)) := W0.th St_b
    rw [gA_at hxa] at hca
    rw [gA_at hxb] at hcb
    walk_at "rd"
    refine s_prop ?_
    walk_at "rd"
    refine ⟨_, _, _, rfl, hca, g4, _, aN, DL.2, by rw [gA_at hxa], R.W, St_a, ?_⟩
    walk_at "rd"
    refine ifF (by simp) ?_
    walk_at "rd"
    refine ifF (by rw [lus]; simp) ?_
    walk_at "rd"
    refine s_methL' ?_
    walk_at "rd"
    refine ⟨xb, _, _, rfl, hcb, rfl, ?_⟩
    walk_at "rd"
    intro os lo free
    have cfm : ∀ (i : Nat) (y : Str) (v : V), free2[i]? = some y → [V.ref d, .ref xa, .int step, .int limit, .int road][i]? = some v → ∃ j, (N__law_right)[j]? = some y ∧ ([some (V.ref b), some (V.int v0), some (V.int many), some (V.int limit), some (V.ref (gA g4 eN)), none, none, some (V.ref d), some (V.int road), some (V.int step), some (V.ref xa), some (V.ref xb), some (V.ref p), some (V.int DL.2), none] : L2.St)[j]? = some (some v) := fun i y v e1 e2 => by
      match i, e1, e2 with
      | 0, e1, e2 => cases e1; cases e2; exact ⟨7, rfl, rfl⟩
      | 1, e1, e2 => cases e1; cases e2; exact ⟨10, rfl, rfl⟩
      | 2, e1, e2 => cases e1; cases e2; exact ⟨9, rfl, rfl⟩
      | 3, e1, e2 => cases e1; cases e2; exact ⟨3, rfl, rfl⟩
      | 4, e1, e2 => cases e1; cases e2; exact ⟨8, rfl, rfl⟩
      | i + 5, e1, _ => simp [free2] at e1
    have CF := CellsF.of_lent (H := H12) scLam2 (L := s.heap.objs.size) rfl hk2 lo (ws := [.ref d, .ref xa, .int step, .int limit, .int road]) rfl cfm
    have WL := R.lend free (fun n t w h1 h2 => by
      obtain ⟨_, rfl⟩ := works_St h1 h2
      exact ⟨_, by rw [hgd, gA_at hxa, eroad, estep, elim, ecl, hclm]; exact CF⟩)
    refine ⟨g4, _, bN, 7, by rw [gA_at hxb], WL, ⟨0, St_b⟩, Post.of_eq (putb_St Rd) (Post.mkOk fun g5 H13 W13 t13 hfr => ?_)⟩
    have hxa := t13.adr _ _ hxa
    have hxb := t13.adr _ _ hxb
    have hgd := t13.d.trans hgd
    have hgL : ∀ p ∈ TabL a, g5.L p.1 := fun p hp => t13.L _ (hgL p hp)
    obtain ⟨R, k2⟩ := R.lent lo free W13 t13 hfr
    have ege : gA g5 eN = gA g4 eN := by
      obtain ⟨x, e⟩ := W0.ok.adr _ _ St_e
      rw [gA_at e, gA_at (t13.adr _ _ e)]
    rw [← ege]
    generalize backH os H13 = H14 at R k2 ⊢
    have ra := ra.stay k2.tu
    have hp := R.get 0 rfl
    clear W13 t13 hfr WL CF cfm k2 lo free hcb hca hce W0 c0 rp
    obtain ⟨c0, W0⟩ := id R.W
    have hob := W0.desk
    rw [hgd] at hob
    walk_at "rd"
    refine ⟨d, _, _, rfl, hob, g5, _, by rw [hgd], R.W, ?_⟩
    have elog : (St w' DL.2 7 ns DL.1.length (DL.1.getLast?.getD PyData.none) DL.1 [] [] [eN], ()).1.log.length = us.length := by rw [lus]; simp [St]
    rw [elog]
    refine ⟨_, rfl, ⟨by omega, by omega⟩, ?_⟩
    walk_at "rd"
    refine ifF (by simp) ?_
    clear hob W0 c0
    walk_at "rd"
    refine ⟨b, _, _, rfl, R.B, by decide, by decide, by decide, fun d3 H15 d30 d31 B3 f3 => ?_⟩
    obtain ⟨R, k2⟩ := R.bag B3 f3
    have ra := ra.stay k2.tu
    clear B3 f3 k2
    walk_at "rd"
    intro q nq
    obtain ⟨R, k2⟩ := R.new (o := .lst [.int d3, .int 99]) nq
    have ra := ra.stay k2.tu
    generalize upd H15 q (.lst [.int d3, .int 99]) = H16 at R ra ⊢
    clear k2 nq
    walk_at "rd"
    refine ⟨b, q, _, _, rfl, R.B, by decide, R.get 1 rfl, R.nb 1 rfl, Nat.zero_lt_succ _, Nat.le_of_ble_eq_true rfl, fun j x H17 hx B5 f5 => ?_⟩
    obtain ⟨k9, rfl, m1, m2⟩ : ∃ m : Int, x = V.int m ∧ 0 ≤ m ∧ m ≤ 99 := by
      match j, hx with
      | 0, hx => cases hx; exact ⟨_, rfl, d30, by omega⟩
      | 1, hx => cases hx; exact ⟨_, rfl, by decide, by decide⟩
      | j + 2, hx => simp at hx
    obtain ⟨R, k2⟩ := R.bag B5 f5
    have ra := ra.stay k2.tu
    have R := R.drop (os' := [(p, .lst us)]) (by exact List.Sublist.cons₂ _ (List.nil_sublist _))
    clear B5 f5 k2 hx d30 d31
    walk_at "rd"
    refine s_mulI (mulOk (by omega) (by omega)) ?_
    walk_at "rd"
    obtain ⟨again, hag⟩ : ∃ x : Int, x = limit - step * k9 := ⟨_, rfl⟩
    rw [← hag]
    have ag1 : again ≤ limit ∧ limit - again ≤ step * 99 := by
      have h1 : step * k9 ≤ step * 99 := Int.mul_le_mul_of_nonneg_left m2 (by omega)
      have h2 : 0 ≤ step * k9 := Int.mul_nonneg (by omega) m1
      omega
    obtain ⟨ag1, ag2⟩ := ag1
    clear hag m1 m2
    obtain ⟨ns2, mv2, r2, D2, hD2, e2, rA, rB, dl2⟩ := puta_St (w := w') (v := DL.2) (b := 7) (u := again) (ns := ns) (n := DL.1.length) (r := DL.1.getLast?.getD .none) (L := DL.1) (mv := []) ⟨Rd.r0, Rd.r4, Rd.s1, Rd.hv, Rd.cm, Nat.zero_le _⟩ (by rw [elim]; exact ag1) (by rw [elim, estep]; exact ag2) (by omega)
    rw [eroad, estep, elim] at hD2
    obtain ⟨c0, W0⟩ := id R.W
    have hca : H17 (gA g5 aN) = some (.ins (a 2) (c0.idx aN) (cellU g5.d aN DL.2)) := W0.th St_a
    rw [gA_at hxa] at hca
    refine s_methL' ?_
    walk_at "rd"
    refine ⟨xa, _, _, rfl, hca, rfl, ?_⟩
    walk_at "rd"
    intro os lo free
    have cfm : ∀ (i : Nat) (y : Str) (v : V), free2[i]? = some y → [V.ref d, .ref xa, .int step, .int limit, .int road][i]? = some v → ∃ j, (N__law_right)[j]? = some y ∧ ([some (V.ref b), some (V.int v0), some (V.int many), some (V.int limit), some (V.ref (gA g5 eN)), some (V.int again), none, some (V.ref d), some (V.int road), some (V.int step), some (V.ref xa), some (V.ref xb), some (V.ref p), some (V.int DL.2), none] : L2.St)[j]? = some (some v) := fun i y v e1 e2 => by
      match i, e1, e2 with
      | 0, e1, e2 => cases e1; cases e2; exact ⟨7, rfl, rfl⟩
      | 1, e1, e2 => cases e1; cases e2; exact ⟨10, rfl, rfl⟩
      | 2, e1, e2 => cases e1; cases e2; exact ⟨9, rfl, rfl⟩
      | 3, e1, e2 => cases e1; cases e2; exact ⟨3, rfl, rfl⟩
      | 4, e1, e2 => cases e1; cases e2; exact ⟨8, rfl, rfl⟩
      | i + 5, e1, _ => simp [free2] at e1
    have CF := CellsF.of_lent (H := H17) scLam2 (L := s.heap.objs.size) rfl hk2 lo (ws := [.ref d, .ref xa, .int step, .int limit, .int road]) rfl cfm
    have WL := R.lend free (fun n t w h1 h2 => by
      obtain ⟨_, rfl⟩ := works_St h1 h2
      exact ⟨_, by rw [hgd, gA_at hxa, eroad, estep, elim, ecl, hclm]; exact CF⟩)
    refine ⟨g5, _, aN, again, by rw [gA_at hxa], WL, ⟨DL.2, St_a⟩, Post.of_eq e2 (Post.mkOk fun g6 H18 W18 t18 hfr => ?_)⟩
    have hxa := t18.adr _ _ hxa
    have hgd := t18.d.trans hgd
    have hgL : ∀ p ∈ TabL a, g6.L p.1 := fun p hp => t18.L _ (hgL p hp)
    obtain ⟨R, k2⟩ := R.lent lo free W18 t18 hfr
    have ege : gA g6 eN = gA g5 eN := by
      obtain ⟨x, e⟩ := W0.ok.adr _ _ St_e
      rw [gA_at e, gA_at (t18.adr _ _ e)]
    rw [← ege]
    generalize backH os H18 = H19 at R k2 ⊢
    have ra := ra.stay k2.tu
    clear W18 t18 hfr WL CF cfm k2 lo free hca W0 c0 hp
    walk_at "rd"
    intro q nq
    obtain ⟨R, k2⟩ := R.new (o := .lst []) nq
    have ra := ra.stay k2.tu
    generalize upd H19 q (.lst []) = H20 at R ra ⊢
    clear k2 nq
    refine s_gname ?_
    have R := R.more (cnt' := 20) (by decide)
    refine s_seqJ (fun σ' H' => ∃ q us2, σ' = [some (V.ref b), some (V.int v0), some (V.int many), some (V.int limit), some (V.ref (gA g6 eN)), some (V.int again), some (V.ref q), some (V.ref d), some (V.int road), some (V.int step), some (V.ref xa), some (V.ref xb), some (V.ref p), some (V.int D2.2), none] ∧
      RC a (Y0 a) H H' g6 (St w' D2.2 7 ns2 (DL.1.length + D2.1.length) r2 (DL.1 ++ D2.1) [] mv2 [eN], ()) b 20 [(p, .lst us), (q, .lst us2)] ∧ RepsAt H' us DL.1 ∧ RepsAt H' us2 D2.1) ?_ ?_
    rotate_left
    · intro R' hR
      walk_at "rd"
      intro z nz
      obtain ⟨R, k2⟩ := R.newI (o := .tup [.int 0, .int 1, .int 4]) nz
      have ra := ra.stay k2.tu
      have hz : upd H20 z (.tup [.int 0, .int 1, .int 4]) z = some (.tup [.int 0, .int 1, .int 4]) := upd_same
      generalize upd H20 z (.tup [.int 0, .int 1, .int 4]) = H21 at R ra hz ⊢
      clear k2 nz
      refine s_inT hz rfl rfl ?_
      have hin : inV (.int road) [.int 0, .int 1, .int 4] = decide (road = 0 ∨ road = 1 ∨ road = 4) := by
        have h5 : road = 0 ∨ road = 1 ∨ road = 2 ∨ road = 3 ∨ road = 4 := by omega
        rcases h5 with rfl | rfl | rfl | rfl | rfl <;> decide +kernel
      rw [hin]
      have skip : ¬ ((road = 0 ∨ road = 1 ∨ road = 4) ∧ again ≠ DL.2) → R' [some (V.ref b), some (V.int v0), some (V.int many), some (V.int limit), some (V.ref (gA g6 eN)), some (V.int again), some (V.ref q), some (V.ref d), some (V.int road), some (V.int step), some (V.ref xa), some (V.ref xb), some (V.ref p), some (V.int again), none] H21 := fun hc => by
        rw [if_neg hc] at hD2
        subst hD2
        exact hR _ _ ⟨q, [], rfl, R, ra, rfl, fun i v d h _ => by simp at h⟩
      by_cases c1 : road = 0 ∨ road = 1 ∨ road = 4
      · refine ⟨true, by simp [c1], ?_⟩
        refine (if_pos rfl).mpr ?_
        walk_at "rd"
        by_cases c2 : again = DL.2
        · refine ifF (by simp [c2]) ?_
          walk_at "rd"
          exact skip fun z => z.2 c2
        · refine ifT (by simp [c2]) ?_
          walk_at "rd"
          rw [if_pos ⟨c1, c2⟩] at hD2
          refine ⟨again, step, limit, road, rfl, r0, by omega, fun t p2 us2 H22 sm ht hp2 rp2 np2 => ?_⟩
          rw [← hD2] at ht rp2
          have R := R.newS sm np2 hp2
          have R := R.drop (os' := [(p, .lst us), (p2, .lst us2)]) (by exact List.Sublist.cons₂ _ (List.Sublist.cons _ (List.Sublist.refl _)))
          refine s_gtup2 ht rfl ?_
          exact hR _ _ ⟨p2, us2, rfl, R, ra.stay fun x l e => sm _ _ e, rp2⟩
      · refine ⟨false, by simp [c1], ?_⟩
        refine (if_neg (by decide)).mpr ?_
        refine ifF rfl ?_
        walk_at "rd"
        exact skip fun z => c1 z.1
    · clear hxb hgL
      rintro σ' H' ⟨q, us2, rfl, R, ra, rb⟩
      obtain ⟨c0, W0⟩ := id R.W
      have hob := W0.desk
      rw [hgd] at hob
      walk_at "rd"
      rw [← hgd]
      refine s_listDesk R.W fun cc q1 H11 Wq nq s11 hq1 => ?_
      have hlog : LogU H11 cc.lgs ((DL.1 ++ D2.1).map fun d => (eN, d)) := Wq.vr.log.stay (fun x l e => s11 x _ e)
      rw [hgd]
      have R := R.same s11
      have ra := ra.stay fun x l e => s11 x _ e
      have rb := rb.stay fun x l e => s11 x _ e
      have lus2 := rb.1
      have dok2 : ∀ d ∈ DL.1 ++ D2.1, PyData.canLay0 d = true ∧ PyData.depth d ≤ 10 := fun d hd => by
        rcases List.mem_append.mp hd with h | h
        · exact dok d h
        · rw [hD2] at h
          split at h
          · exact due_ok 102 d h
          · cases h
      clear Wq nq s11 hob W0 c0
      walk_at "rd"
      refine s_addL (R.get 0 rfl) (R.get 1 rfl) (Nat.le_trans (by omega : us.length + us2.length ≤ 204) (by decide)) fun z nz => ?_
      obtain ⟨R, k2⟩ := R.new (o := .lst (us ++ us2)) nz
      have ra := ra.stay k2.tu
      have rb := rb.stay k2.tu
      have hq1 := Same.new (o := .lst (us ++ us2)) nz _ _ hq1
      have hlog := hlog.stay k2.tu
      generalize upd H11 z (.lst (us ++ us2)) = H12b at R ra rb hq1 hlog ⊢
      have rp := ra.app rb
      have hz := R.get 2 rfl
      have lsum := rp.1
      clear k2 nz
      refine s_lcW hz (fun D4 i H' => Same H12b H' ∧ H12b D4 = none ∧ ∃ acc, H' D4 = some (.lst acc) ∧ LogU H' acc (((DL.1 ++ D2.1).map fun d => (eN, d)).take i)) (fun D4 nD => ⟨Same.new nD, nD, [], upd_same, rfl, fun i v p h => by simp at h⟩) (fun D4 i H' _ h => h.1 _ _ hz) ?_ ?_
      · rintro D4 i x H' hx ⟨s', nD, acc, hD, LU⟩
        have hi := (List.getElem?_eq_some_iff.mp hx).1
        obtain ⟨r, hr⟩ : ∃ r, ((DL.1 ++ D2.1))[i]? = some r := ⟨_, List.getElem?_eq_getElem (by rw [← lsum]; exact hi)⟩
        have hxr := (rp.stay fun x l e => s' x _ e).2 i x r hx hr
        have la := LU.1
        rw [List.length_take, List.length_map] at la
        refine ⟨rfl, ?_⟩
        unfold tYes
        dsimp only
        rw [if_pos rfl]
        walk_at "rd"
        intro q2 nq2
        have sq2 := Same.new (o := .tup [.str eN, x]) nq2
        have hq2 : upd H' q2 (.tup [.str eN, x]) q2 = some (.tup [.str eN, x]) := upd_same
        have hD17 := sq2 _ _ hD
        have hx17 := hxr.stay fun x l e => sq2 x _ e
        have LU17 := LU.stay (fun x l e => sq2 x _ e)
        have e0 : upd H' q2 (.tup [.str (Str.ofString "e"), x]) = upd H' q2 (.tup [.str eN, x]) := rfl
        rw [e0]
        generalize upd H' q2 (.tup [.str eN, x]) = H17b at sq2 hq2 hD17 hx17 LU17 ⊢
        walk_at "rd"
        have ft : ∀ x l, H17b x = some (.tup l) → upd H17b D4 (.lst (acc ++ [.ref q2])) x = some (.tup l) := fun x l e => by rw [upd_ne (ne_of e hD17 (by intro z; cases z))]; exact e
        rw [List.length_append] at hi
        refine ⟨acc, hD17, sz_lt (by omega), fun x o h => by rw [upd_ne (ne_of_none h nD)]; exact sq2 _ _ (s' _ _ h), nD, _, upd_same, ?_⟩
        rw [List.take_succ, List.getElem?_map, hr]
        exact (LU17.snoc1 (p := (eN, r)) hq2 hx17).stay ft
      rintro D3 H13 ⟨s', nD, acc, hD, LU⟩
      rw [List.take_of_length_le (by rw [List.length_map, lsum]; exact Nat.le_refl _)] at LU
      refine s_eqLog (s' _ _ hq1) hD (hlog.stay fun x l e => s' x _ e) LU (fun p hp => ?_) ?_
      · obtain ⟨r, hr, rfl⟩ := List.mem_map.mp hp
        exact ⟨eN_ok, dok2 r hr⟩
      have R := R.same s'
      have ra := ra.stay fun x l e => s' x _ e
      have rb := rb.stay fun x l e => s' x _ e
      clear hlog hq1 LU hD nD s' rp hz
      refine ⟨true, rfl, ?_⟩
      refine (if_pos rfl).mpr ?_
      obtain ⟨c0, W0⟩ := id R.W
      have hca := W0.th St_a
      rw [gA_at hxa] at hca
      walk_at "rd"
      refine s_callO ?_
      walk_at "rd"
      refine ⟨_, _, _, rfl, hca, ?_⟩
      walk_at "rd"
      refine ⟨hca, g6, _, aN, D2.2, fun _ _ _ _ => False, by rw [gA_at hxa], R.W, St_a, Post.of_eq read_out (Post.mkOk fun g7 H14 W14 t14 u hu => ?_)⟩
      obtain rfl := hu.intI
      obtain ⟨R, k2⟩ := R.step W14 t14
      have ra := ra.stay k2.tu
      have rb := rb.stay k2.tu
      have ege : gA g7 eN = gA g6 eN := by
        obtain ⟨x, e⟩ := W0.ok.adr _ _ St_e
        rw [gA_at e, gA_at (t14.adr _ _ e)]
      rw [← ege]
      clear W14 t14 k2 hca W0 c0
      obtain ⟨c0, W0⟩ := id R.W
      have hce : H14 (gA g7 eN) = some (.ins (a 60) (c0.idx eN) (effU g7.d eN (wA g7 eN) (c0.nad eN) ((DL.1.length + D2.1.length : Nat) : Nat) (c0.vh eN))) := W0.th St_e
      have hrep := W0.vr.rep _ _ _ _ _ St_e
      walk_at "rd"
      refine ifT (by simp) ?_
      walk_at "rd"
      refine s_addL (R.get 0 rfl) (R.get 1 rfl) (Nat.le_trans (by omega : us.length + us2.length ≤ 204) (by decide)) fun z nz => ?_
      obtain ⟨R, k2⟩ := R.new (o := .lst (us ++ us2)) nz
      have rp := (ra.stay k2.tu).app (rb.stay k2.tu)
      have hrep := hrep.stay k2.tu
      generalize upd H14 z (.lst (us ++ us2)) = H15b at R rp hrep ⊢
      have hz := R.get 3 rfl
      walk_at "rd"
      obtain ⟨v, hv, hvd⟩ : ∃ v, (us ++ us2).getLast? = some v ∧ DvS H15b v r2 := by
        have hl := rp.1
        have hpos : 0 < (us ++ us2).length := by
          rw [hl, List.length_append]
          have := List.length_pos_iff.mpr dne
          omega
        refine ⟨(us ++ us2)[(us ++ us2).length - 1]'(by omega), by rw [List.getLast?_eq_getElem?]; exact List.getElem?_eq_getElem _, rp.2 ((us ++ us2).length - 1) _ _ (List.getElem?_eq_getElem _) ?_⟩
        rw [hl, ← List.getLast?_eq_getElem?]
        by_cases hd : D2.1 = []
        · rw [hd, List.append_nil, rA hd]
          cases e : DL.1.getLast? with
          | none => exact (dne (by simpa using e)).elim
          | some x => rfl
        · rw [rB hd, List.getLast?_append]
          cases e : D2.1.getLast? with
          | none => exact (hd (by simpa using e)).elim
          | some x => rfl
      refine s_ixL hz (atI_lastM hv) ?_
      refine rEqU_dv hrep hvd ?_
      rw [SeqAt.eqv_refl _ (SeqAt.canLay_of_shaped hrep.sh)]
      obtain ⟨c9, W9⟩ := id R.W
      have la : TabsL (TabL a) g7 H15b := W9.la
      exact k _ la.2 R.fr
end
end
end Tr
set_option maxHeartbeats 4000000

namespace Tr
open PySem L2 OXB LamX NdefX
section
variable {P : Program} {w : World} {K : PySem.W.Frag} {mg : Str → Option Value} {base : Heap} {a : Nat → Addr} {fd : Nat → FuncData} {tk : Nat → Tok}
local macro_rules | `(tactic| walk_at "ne") => `(tactic| first | assumption | (exact Ne.symm (by assumption)) | (refine ne_of_none (by assumption) (by assumption)) | (refine Ne.symm (ne_of_none (by assumption) (by assumption))))
local macro_rules | `(tactic| walk_at "hl") => `(tactic| first | assumption | with_reducible exact upd_same | ((with_reducible refine' Eq.trans (upd_ne ?hne) ?hrest); (case hne => walk_at "ne"); (case hrest => walk_at "hl")) | (refine' get_same ?hs ?hg; (case hs => assumption); (case hg => assumption)))
local macro_rules | `(tactic| walk_at "at") => `(tactic| first | with_reducible exact atI_0 _ _ | with_reducible exact atI_1 _ _ _ | with_reducible exact atI_2 _ _ _ _ | with_reducible exact atI_3 _ _ _ _ _ | assumption)
local macro_rules | `(tactic| walk_at "rd1") => `(tactic| first
  | with_reducible refine s_seq ?_ | with_reducible refine s_next ?_ | with_reducible refine s_if ?_ | with_reducible refine s_ret ?_ | with_reducible refine s_retN ?_ | with_reducible refine s_drop ?_ | with_reducible refine s_asg ?_ | with_reducible refine s_brk ?_ | with_reducible refine s_cont ?_
  | with_reducible refine s_gname ?_ | with_reducible refine s_c ?_ | with_reducible refine s_op ?_ | with_reducible refine s_un ?_ | with_reducible refine s_neg ?_ | with_reducible refine s_test ?_ | with_reducible refine s_tb ?_ | with_reducible refine s_not ?_ | with_reducible refine s_and ?_ | with_reducible refine s_or ?_ | with_reducible refine s_yes ?_
  | ((with_reducible refine' s_var ?hv ?_); (case hv => exact rfl))
  | with_reducible refine s_ifx ?_ | with_reducible refine s_andV ?_ | with_reducible refine s_orV ?_ | with_reducible refine s_notV ?_ | with_reducible refine s_chain ?_ | with_reducible refine s_nil ?_ | with_reducible refine s_cons ?_ | with_reducible refine s_lst ?_ | with_reducible refine s_tup ?_ | with_reducible refine s_cb ?_ | with_reducible refine s_call ?_ | with_reducible refine s_meth ?_ | with_reducible refine s_make ?_
  | with_reducible refine s_dnewK ?_ | with_reducible refine s_sl ?_ | with_reducible refine s_po0 ?_ | with_reducible refine s_po1 ?_ | with_reducible refine s_bm ?_ | with_reducible refine s_bm0 ?_
  | with_reducible refine s_bl ?_ | with_reducible refine s_int ?_ | with_reducible refine s_I0 ?_ | with_reducible refine s_addI ?_ | with_reducible refine s_intI ?_ | with_reducible refine s_intB ?_
  | with_reducible refine s_m1 ?_ | with_reducible refine s_lc ?_ | with_reducible refine s_ilist ?_ | with_reducible refine s_for ?_ | with_reducible refine s_irng ?_ | with_reducible refine s_match ?_ | with_reducible refine s_starT ?_ | with_reducible refine s_isS ?_ | with_reducible refine s_isiSS ?_ | with_reducible refine s_fldU ?_ | with_reducible refine s_sfldU ?_
  | ((with_reducible refine' s_eqS ?hq ?_); (case hq => exact rfl)) | ((with_reducible refine' s_neS ?hq ?_); (case hq => exact rfl))
  | ((with_reducible refine' s_isN ?hq ?_); (case hq => exact rfl)) | ((with_reducible refine' s_notN ?hq ?_); (case hq => exact rfl))
  | ((with_reducible refine' s_eqNil ?h1 ?h2 ?_); (case h1 => walk_at "hl"); (case h2 => walk_at "hl")) | ((with_reducible refine' s_neNil ?h1 ?h2 ?_); (case h1 => walk_at "hl"); (case h2 => walk_at "hl"))
  | ((with_reducible refine' s_ixL ?h1 ?h2 ?_); (case h1 => walk_at "hl"); (case h2 => walk_at "at")) | ((with_reducible refine' s_ixT ?h1 ?h2 ?_); (case h1 => walk_at "hl"); (case h2 => walk_at "at"))
  | ((with_reducible refine' s_inS ?h1 ?_); (case h1 => walk_at "hl")) | ((with_reducible refine' s_ninS ?h1 ?_); (case h1 => walk_at "hl")) | with_reducible refine s_inW ?_
  | ((with_reducible refine' s_lenL ?h1 ?_); (case h1 => walk_at "hl")) | ((with_reducible refine' s_lenT ?h1 ?_); (case h1 => walk_at "hl"))
  | ((with_reducible refine' s_tyL ?h1 ?_); (case h1 => walk_at "hl"))
  | ((with_reducible refine' s_fldM ?h1 ?h2 ?h3 ?_); (case h1 => walk_at "hl"); (case h2 => walk_at "fok"); (case h3 => walk_at "flk"))
  | ((with_reducible refine' s_setM ?h1 ?h2 ?h3 ?h4 ?_); (case h1 => walk_at "hl"); (case h2 => walk_at "fok"); (case h4 => walk_at "put"); (case h3 => exact Nat.le_of_ble_eq_true rfl))
  | ((with_reducible refine' s_starM ?h1 ?_); (case h1 => walk_at "hl"))
  | ((with_reducible refine' s_recv ?h1 ?h2 ?_); (case h1 => walk_at "hl"); (case h2 => exact rfl))
  | ((with_reducible refine' s_sz ?h1 ?_); (case h1 => (simp; done))))
local macro_rules | `(tactic| walk_at "rd") => `(tactic| repeat (walk_at "rd1"))
local macro_rules | `(tactic| walk_at "fok") => `(tactic| assumption)
local macro_rules | `(tactic| walk_at "flk") => `(tactic| rfl)
local macro_rules | `(tactic| walk_at "put") => `(tactic| exact rfl)

local macro_rules | `(tactic| walk_at "fok") => `(tactic| first | assumption | exact Tu.ce (by assumption) (by decide) | exact Tu.de (by assumption) (by decide) | exact Tu.ke (by assumption) (by decide) | exact Tu.fe (by assumption) (by decide) | exact Tu.ee (by assumption) (by decide))
/-- what the top has made -/
structure Tz (P : Program) (K : PySem.W.Frag) (mg : Str → Option Value) (a : Nat → Addr) (fd : Nat → FuncData) (tk : Nat → Tok) : Prop where
  n : Tm P K mg a fd tk
  F_law : Fun K "law" "law" s_law (a 68) (fd 68)
section
theorem b__law_right (T : Tm P K mg a fd tk) : Binds K (fd 80) ["_law_bag_here"] [] := T.F__law_right.fn.binds fun _ _ _ _ _ _ us hl => match us, hl with | [_], _ => rfl
def FrN (H H' : Hp) (S : List Addr) : Prop := ∀ x o, H x = some o → (∀ ps, o ≠ .tbl ps) → x ∉ S → H' x = some o
theorem SqL.frN {H H' : Hp} {p : Addr} {xs : List V} {S : List Addr} (h : SqL K H p xs) (f : FrN H H' S) (hp : p ∉ S) : SqL K H' p xs :=
  h.elim (fun h => .inl (h.elim (fun h => .inl (f _ _ h (by intros; simp) hp)) fun ⟨o, h⟩ => .inr ⟨o, f _ _ h (by intros; simp) hp⟩)) fun h => .inr h
def spLaw (K : PySem.W.Frag) (a : Nat → Addr) : Sp := fun vs H Q _ => ∃ (p : Addr) (xs : List Int), vs = [.ref p] ∧ SqL K H p (xs.map V.int) ∧ xs.length ≤ 63 ∧ Tabs (TabL a) H ∧ ∀ H', Q (.bl true) H'
theorem ok_law (T : Tz P K mg a fd tk) (TB1 : TabB base mg (a 84) (a 85)) (TB2 : TabB base mg (a 81) (a 82)) (ft : FreshT a) : FnOk P w K mg base CX0 31 (a 68) (fd 68) ["_law_script"] (spLaw K a) := by
  refine T.F_law.ok sc_law (fun vs H Q E h => ?_) (fun cdv A outer s H vs Q E hr h => ?_)
  · obtain ⟨p, xs, rfl, _⟩ := h
    rfl
  · obtain ⟨p, xs, rfl, hp, h63, hT, k⟩ := h
    refine ⟨_, (pss_cons (ps_for PassesOwn.never rfl (pi_range1 (by rfl) T.n.l.d.b_range (pa_cons (pe_callB (call_max2 rfl) (by rfl) T.n.b_max bt_max (pa_cons pe_int (pa_cons (pe_callB (call_min2 rfl) (by rfl) T.n.b_min bt_min (pa_cons pe_int (pa_cons (pe_callB call_len_seq (by rfl) T.n.l.d.b_len bt_len (pa_cons (pv 0) pa_nil)) pa_nil))) pa_nil))) pa_nil)) (pg_name (i := 1) sc_law.nd rfl (by first | exact Or.inl rfl | exact Or.inr rfl))
   (pss_one (ps_if (pt_not (pt_val (pe_call (ok__law_right T.n TB1 TB2 ft) (hr.mono (by omega)) (by rfl) T.n.g__law_right T.n.F__law_right.kp (b__law_right T.n) .nil pass0 (pa_cons (pe_call (ok__law_bag T.n.l) (hr.mono (by omega)) (by rfl) T.n.l.g__law_bag T.n.l.F__law_bag.kp (b__law_bag T.n.l) .nil pass0 (pa_cons (pv 0) (pa_cons (pv 1) pa_nil))) pa_nil)))) (pss_one (ps_ret pe_bl)) pss_nil)))
  (pss_one (ps_ret pe_bl))), ?_⟩
    walk_at "rd"
    refine ⟨p, _, rfl, .inl hp, ?_⟩
    show ∃ i j, [V.int 4, V.int _] = [.int i, .int j] ∧ _
    refine ⟨_, _, rfl, ?_⟩
    show ∃ i j, [V.int 1, V.int _] = [.int i, .int j] ∧ _
    refine ⟨_, _, rfl, ?_⟩
    have el : (xs.map V.int).length = xs.length := List.length_map _
    rw [el]
    generalize hN : (if (if (xs.length : Int) < 4 then (xs.length : Int) else 4) > 1 then (if (xs.length : Int) < 4 then (xs.length : Int) else 4) else 1) = N
    have n0 : 0 ≤ N ∧ N ≤ 4 := by
      rw [← hN]
      repeat' split
      all_goals omega
    refine s_forR n0.1 (by omega) (fun i σ H' => ∃ v1, σ = [some (.ref p), v1] ∧ SqL K H' p (xs.map V.int) ∧ Tabs (TabL a) H') ⟨none, rfl, hp, hT⟩ ?_ ?_
    · rintro i σ H1 hi ⟨v1, rfl, hp1, hT1⟩
      walk_at "rd"
      refine ⟨p, xs, i, rfl, hp1, h63, by omega, fun b H2 s2 nb B2 => ?_⟩
      walk_at "rd"
      have hp2 : SqL K H2 p (xs.map V.int) := hp1.ext s2
      refine ⟨b, rfl, B2, hT1.ext s2, fun H3 hT3 f3 => ?_⟩
      walk_at "rd"
      refine ifF rfl ?_
      walk_at "rd"
      refine ⟨_, rfl, ?_, hT3⟩
      rcases hp1 with h | h
      · refine SqL.frN hp2 (S := [b]) (fun x o h n hx => f3 x o h n (by simpa using hx)) ?_
        rw [List.mem_singleton]
        rintro rfl
        rcases h with h | ⟨o, h⟩
        · rw [h] at nb; cases nb
        · rw [h] at nb; cases nb
      · exact .inr h
    · rintro σ H1 ⟨v1, rfl, _, _⟩
      walk_at "rd"
      exact k _
end
end
end Tr
set_option maxHeartbeats 0
namespace Tr
open PySem PySem.Spec PyProof.Rows L2
def adrP : Nat → PySem.W.Frag → Addr
  | 2 => (pl ("Cell", none))
  | 3 => (pl ("Desk", none))
  | 4 => (pl ("Thing", some "__init__"))
  | 5 => (pl ("Cell", some "__init__"))
  | 6 => (pl ("Cell", some "__call__"))
  | 7 => (pl ("Cell", some "value"))
  | 8 => (plp "Cell" "value")
  | 9 => (pl ("Cell", some "put"))
  | 11 => (pl ("Desk", some "__init__"))
  | 12 => (pl ("Desk", some "check_placed"))
  | 13 => (pl ("Desk", some "note"))
  | 14 => (pl ("Desk", some "use_name"))
  | 15 => (pl ("Desk", some "cell"))
  | 16 => (pl ("Desk", some "settle"))
  | 20 => (pl ("Desk", some "__iter__"))
  | 21 => (pl ("Desk", some "__len__"))
  | 22 => (pl ("NoName", none))
  | 23 => (pl ("NoName", some "__init__"))
  | 24 => (pl ("TrackedError", none))
  | 25 => (pl ("Cell", some "worth_now"))
  | 30 => (pl ("_law_bag", none))
  | 31 => (pl ("_law_take", none))
  | 32 => (pl ("_law_of", none))
  | 33 => (pl ("_law_up", none))
  | 34 => (pl ("_law_due", none))
  | 40 => (pl ("Kept", none))
  | 41 => (pl ("Kept", some "__init__"))
  | 42 => (pl ("Kept", some "__call__"))
  | 43 => (pl ("Kept", some "held"))
  | 44 => (plp "Kept" "held")
  | 45 => (pl ("Kept", some "worth_now"))
  | 46 => (pl ("Runner", some "__init__"))
  | 47 => (pl ("Effect", some "is_out_of_order"))
  | 48 => (pl ("Effect", some "run_work"))
  | 49 => (pl ("Frame", none))
  | 50 => (pl ("Frame", some "__init__"))
  | 51 => (pl ("Desk", some "kept"))
  | 52 => (pl ("Desk", some "is_under_way"))
  | 53 => (pl ("Runner", none))
  | 60 => (pl ("Effect", none))
  | 61 => (pl ("Effect", some "__init__"))
  | 62 => (pl ("Effect", some "__call__"))
  | 63 => (pl ("Effect", some "run_once"))
  | 64 => (pl ("Desk", some "effect"))
  | 67 => (pl ("Desk", some "quietly"))
  | 68 => (pl ("law", none))
  | 70 => (pl ("Taken", none))
  | 71 => (pl ("Taken", some "__init__"))
  | 72 => (pl ("TooLong", none))
  | 73 => (pl ("TooLong", some "__init__"))
  | 74 => (pl ("Misplaced", none))
  | 75 => (pl ("Misplaced", some "__init__"))
  | 76 => (pl ("Busy", none))
  | 77 => (pl ("Busy", some "__init__"))
  | 80 => (pl ("_law_right", none))
  | 81 => (plcd ("_law_right", none))
  | 82 => (pltb ("_law_right", none))
  | 83 => (pl ("_law_work", none))
  | 84 => (plcd ("_law_work", none))
  | 85 => (pltb ("_law_work", none))
  | _ => pl ("law", none)
def adr (K : PySem.W.Frag) (n : Nat) : Addr := adrP n K
def fdn (K : PySem.W.Frag) (n : Nat) : FuncData := fdG K (adrP n K)
def tkn (K : PySem.W.Frag) : Nat → Tok
  | 0 => tkC K (He.ga K "Desk") "MOST_RUNS"
  | _ => 0
theorem mkT {P : Program} (hP : P.main.file = PySem.Challenge.pw_trackedreads_k73_effects_that_put_what_t.main.file) (hT : (P.main.scope.names.lookup ("super" : Str)).isSome = false) {K : PySem.W.Frag} {h : Heap} {mg : Str → Option Value} (X : K.In h) (G : h.Ns mainGlobals mg) (c : obsB fx9 fn9 K = valB fn9) : Tz P K mg (adr K) (fdn K) (tkn K) :=
{ n := (
{ l := (
{ d := (
{ b_len := (fx_free X G (says_fx c 0 rfl)),
  b_iter := (fx_free X G (says_fx c 1 rfl)),
  b_list := (fx_free X G (says_fx c 2 rfl)),
  b_range := (fx_free X G (says_fx c 3 rfl)),
  b_tuple := (fx_free X G (says_fx c 4 rfl)),
  b_RuntimeError := (fx_free X G (says_fx c 5 rfl)),
  g_TrackedError := (fx_glo X G (says_fx c 6 rfl)),
  cr_TrackedError := (fx_cread (says_fx c 7 rfl)),
  vi_TrackedError := (fx_cinit (says_fx c 8 rfl)),
  vi_RuntimeError := (fx_cinitT (says_fx c 9 rfl)),
  g_Desk := (fx_glo X G (says_fx c 10 rfl)),
  g_Cell := (fx_glo X G (says_fx c 11 rfl)),
  g_Kept := (fx_glo X G (says_fx c 12 rfl)),
  g_Frame := (fx_glo X G (says_fx c 13 rfl)),
  g_Runner := (fx_glo X G (says_fx c 14 rfl)),
  g_Effect := (fx_glo X G (says_fx c 15 rfl)),
  cl_Cell := (fx_cls (says_fx c 16 rfl)),
  cl_Desk := (fx_cls (says_fx c 17 rfl)),
  cl_Kept := (fx_cls (says_fx c 18 rfl)),
  cl_Frame := (fx_cls (says_fx c 19 rfl)),
  cl_Effect := (fx_cls (says_fx c 20 rfl)),
  f_Cell := (fx_noats (says_fx c 21 rfl)),
  f_Desk := (fx_noats (says_fx c 22 rfl)),
  f_Kept := (fx_noats (says_fx c 23 rfl)),
  f_Frame := (fx_noats (says_fx c 24 rfl)),
  f_Effect := (fx_noats (says_fx c 25 rfl)),
  F_Thing___init__ := (says_fun (p := (pl ("Thing", some "__init__"))) c 0 rfl),
  F_Cell___init__ := (says_funS (p := (pl ("Cell", some "__init__"))) c hP hT (fx_free X G (x := "super") (says_fx c 26 rfl)) 1 rfl),
  sc_Cell := (fx_supc (says_fx c 27 rfl)),
  mk_Cell := (fx_mkr (says_fx c 28 rfl)),
  F_Cell___call__ := (says_fun (p := (pl ("Cell", some "__call__"))) c 2 rfl),
  o_Cell___call__ := (fx_own (says_fx c 29 rfl)),
  p_Cell_value := (fx_propof (says_fx c 30 rfl)),
  F_Cell_value := (says_fun (p := (plp "Cell" "value")) c 3 rfl),
  m_Cell_put := (fx_meth (says_fx c 31 rfl)),
  F_Cell_put := (says_fun (p := (pl ("Cell", some "put"))) c 4 rfl),
  m_Cell_worth_now := (fx_meth (says_fx c 32 rfl)),
  F_Cell_worth_now := (says_fun (p := (pl ("Cell", some "worth_now"))) c 5 rfl),
  mk_Desk := (fx_mkr (says_fx c 33 rfl)),
  F_Desk___init__ := (says_fun (p := (pl ("Desk", some "__init__"))) c 6 rfl),
  m_Desk_check_placed := (fx_meth (says_fx c 34 rfl)),
  F_Desk_check_placed := (says_fun (p := (pl ("Desk", some "check_placed"))) c 7 rfl),
  m_Desk_note := (fx_meth (says_fx c 35 rfl)),
  F_Desk_note := (says_fun (p := (pl ("Desk", some "note"))) c 8 rfl),
  m_Desk_use_name := (fx_meth (says_fx c 36 rfl)),
  F_Desk_use_name := (says_fun (p := (pl ("Desk", some "use_name"))) c 9 rfl),
  m_Desk_cell := (fx_meth (says_fx c 37 rfl)),
  F_Desk_cell := (says_fun (p := (pl ("Desk", some "cell"))) c 10 rfl),
  m_Desk_settle := (fx_meth (says_fx c 38 rfl)),
  F_Desk_settle := (says_fun (p := (pl ("Desk", some "settle"))) c 11 rfl),
  k_MOST_RUNS := (fx_con (says_fx c 39 rfl)),
  o_Desk___iter__ := (fx_own (says_fx c 40 rfl)),
  F_Desk___iter__ := (says_fun (p := (pl ("Desk", some "__iter__"))) c 12 rfl),
  o_Desk___len__ := (fx_own (says_fx c 41 rfl)),
  F_Desk___len__ := (says_fun (p := (pl ("Desk", some "__len__"))) c 13 rfl),
  m_Desk_kept := (fx_meth (says_fx c 42 rfl)),
  F_Desk_kept := (says_fun (p := (pl ("Desk", some "kept"))) c 14 rfl),
  m_Desk_is_under_way := (fx_meth (says_fx c 43 rfl)),
  F_Desk_is_under_way := (says_fun (p := (pl ("Desk", some "is_under_way"))) c 15 rfl),
  mk_Frame := (fx_mkr (says_fx c 44 rfl)),
  F_Frame___init__ := (says_fun (p := (pl ("Frame", some "__init__"))) c 16 rfl),
  mk_Kept := (fx_mkr (says_fx c 45 rfl)),
  F_Kept___init__ := (says_funS (p := (pl ("Kept", some "__init__"))) c hP hT (fx_free X G (x := "super") (says_fx c 26 rfl)) 17 rfl),
  sc_Kept := (fx_supc (says_fx c 46 rfl)),
  F_Runner___init__ := (says_funS (p := (pl ("Runner", some "__init__"))) c hP hT (fx_free X G (x := "super") (says_fx c 26 rfl)) 18 rfl),
  sc_Runner := (fx_supc (says_fx c 47 rfl)),
  o_Kept___call__ := (fx_own (says_fx c 48 rfl)),
  F_Kept___call__ := (says_fun (p := (pl ("Kept", some "__call__"))) c 19 rfl),
  p_Kept_held := (fx_propof (says_fx c 49 rfl)),
  F_Kept_held := (says_fun (p := (plp "Kept" "held")) c 20 rfl),
  m_Kept_worth_now := (fx_meth (says_fx c 50 rfl)),
  F_Kept_worth_now := (says_fun (p := (pl ("Kept", some "worth_now"))) c 21 rfl),
  m_Kept_is_out_of_order := (fx_methP (says_fx c 51 rfl)),
  F_Runner_is_out_of_order := (says_fun (p := (pl ("Effect", some "is_out_of_order"))) c 22 rfl),
  m_Kept_run_work := (fx_methP (says_fx c 52 rfl)),
  F_Runner_run_work := (says_fun (p := (pl ("Effect", some "run_work"))) c 23 rfl),
  mk_Effect := (fx_mkr (says_fx c 53 rfl)),
  F_Effect___init__ := (says_funS (p := (pl ("Effect", some "__init__"))) c hP hT (fx_free X G (x := "super") (says_fx c 26 rfl)) 24 rfl),
  sc_Effect := (fx_supc (says_fx c 54 rfl)),
  sc_RunnerE := (fx_supc (says_fx c 55 rfl)),
  o_Effect___call__ := (fx_own (says_fx c 56 rfl)),
  F_Effect___call__ := (says_fun (p := (pl ("Effect", some "__call__"))) c 25 rfl),
  m_Effect_run_once := (fx_meth (says_fx c 57 rfl)),
  F_Effect_run_once := (says_fun (p := (pl ("Effect", some "run_once"))) c 26 rfl),
  m_Effect_is_out_of_order := (fx_meth (says_fx c 58 rfl)),
  m_Effect_run_work := (fx_meth (says_fx c 59 rfl)),
  m_Desk_effect := (fx_meth (says_fx c 60 rfl)),
  F_Desk_effect := (says_fun (p := (pl ("Desk", some "effect"))) c 27 rfl),
  g_NoName := (fx_glo X G (says_fx c 61 rfl)),
  ox_NoName := (fx_oexb (says_fx c 62 rfl)),
  xf_NoName := (fx_xf (says_fx c 63 rfl)),
  no_NoName_name := (fx_noats (says_fx c 64 rfl) "name" (by decide +kernel)),
  ini_NoName := (fx_init1 (says_fx c 65 rfl)),
  inf_NoName := (fx_init2 (says_fx c 65 rfl)),
  F_NoName___init__ := (says_fun (p := (pl ("NoName", some "__init__"))) c 28 rfl),
  g_Taken := (fx_glo X G (says_fx c 66 rfl)),
  ox_Taken := (fx_oexb (says_fx c 67 rfl)),
  xf_Taken := (fx_xf (says_fx c 68 rfl)),
  no_Taken_name := (fx_noats (says_fx c 69 rfl) "name" (by decide +kernel)),
  ini_Taken := (fx_init1 (says_fx c 70 rfl)),
  inf_Taken := (fx_init2 (says_fx c 70 rfl)),
  F_Taken___init__ := (says_fun (p := (pl ("Taken", some "__init__"))) c 29 rfl),
  g_TooLong := (fx_glo X G (says_fx c 71 rfl)),
  ox_TooLong := (fx_oexb (says_fx c 72 rfl)),
  xf_TooLong := (fx_xf (says_fx c 73 rfl)),
  no_TooLong_cells := (fx_noats (says_fx c 74 rfl) "cells" (by decide +kernel)),
  ini_TooLong := (fx_init1 (says_fx c 75 rfl)),
  inf_TooLong := (fx_init2 (says_fx c 75 rfl)),
  F_TooLong___init__ := (says_fun (p := (pl ("TooLong", some "__init__"))) c 30 rfl),
  g_Misplaced := (fx_glo X G (says_fx c 76 rfl)),
  ox_Misplaced := (fx_oexb (says_fx c 77 rfl)),
  xf_Misplaced := (fx_xf (says_fx c 78 rfl)),
  no_Misplaced_name := (fx_noats (says_fx c 79 rfl) "name" (by decide +kernel)),
  ini_Misplaced := (fx_init1 (says_fx c 80 rfl)),
  inf_Misplaced := (fx_init2 (says_fx c 80 rfl)),
  F_Misplaced___init__ := (says_fun (p := (pl ("Misplaced", some "__init__"))) c 31 rfl),
  g_Busy := (fx_glo X G (says_fx c 81 rfl)),
  ox_Busy := (fx_oexb (says_fx c 82 rfl)),
  xf_Busy := (fx_xf (says_fx c 83 rfl)),
  no_Busy_name := (fx_noats (says_fx c 84 rfl) "name" (by decide +kernel)),
  ini_Busy := (fx_init1 (says_fx c 85 rfl)),
  inf_Busy := (fx_init2 (says_fx c 85 rfl)),
  F_Busy___init__ := (says_fun (p := (pl ("Busy", some "__init__"))) c 32 rfl) }),
  b_abs := (fx_free X G (says_fx c 86 rfl)),
  b_int := (fx_free X G (says_fx c 87 rfl)),
  g__law_bag := (fx_glo X G (says_fx c 88 rfl)),
  F__law_bag := (says_fun (p := (pl ("_law_bag", none))) c 33 rfl),
  g__law_take := (fx_glo X G (says_fx c 89 rfl)),
  F__law_take := (says_fun (p := (pl ("_law_take", none))) c 34 rfl),
  g__law_of := (fx_glo X G (says_fx c 90 rfl)),
  F__law_of := (says_fun (p := (pl ("_law_of", none))) c 35 rfl) }),
  m_Desk_quietly := (fx_meth (says_fx c 91 rfl)),
  F_Desk_quietly := (says_fun (p := (pl ("Desk", some "quietly"))) c 36 rfl),
  b_max := (fx_free X G (says_fx c 92 rfl)),
  b_min := (fx_free X G (says_fx c 93 rfl)),
  g__law_up := (fx_glo X G (says_fx c 94 rfl)),
  F__law_up := (says_fun (p := (pl ("_law_up", none))) c 37 rfl),
  g__law_due := (fx_glo X G (says_fx c 95 rfl)),
  F__law_due := (says_fun (p := (pl ("_law_due", none))) c 38 rfl),
  g__law_work := (fx_glo X G (says_fx c 96 rfl)),
  F__law_work := (fun_T (says_fun (p := (pl ("_law_work", none))) c 39 rfl)),
  g__law_right := (fx_glo X G (says_fx c 97 rfl)),
  F__law_right := (fun_T (says_fun (p := (pl ("_law_right", none))) c 40 rfl)) }),
  F_law := (says_fun (p := (pl ("law", none))) c 41 rfl) }
end Tr
set_option maxHeartbeats 0
namespace Tr
open PySem PySem.Spec PyProof.Rows L2
end Tr
set_option maxHeartbeats 0
namespace Tr
open PySem PySem.Spec PyProof.Rows L2
theorem walkF {P : Program} (hP : P.main.file = PySem.Challenge.pw_trackedreads_k73_effects_that_put_what_t.main.file) (hT : (P.main.scope.names.lookup ("super" : Str)).isSome = false) (w : World) (mg : Str → Option Value) (fa : Addr) (h : Heap) (Y : hk9.says w h) (G : h.Ns mainGlobals mg) (hmg : mg "law" = some (.ref fa)) :
    ∃ (K : PySem.W.Frag) (fd : FuncData) (cs : List (Addr × Addr)) (sp : Sp), K.In h ∧ (∀ p ∈ cs, h.get? p.2 = some { cls := .none, data := .fields #[] }) ∧ (∀ p ∈ cs, K.lookup p.2 = none) ∧ (∀ p ∈ cs, PySem.W.CodeHd h p.1 p.2) ∧ (∀ (s : Shared) (u : Value), BindsTo s fd ⟨[u], []⟩ [("_law_script", u)]) ∧
      (∀ (H : Hp) (a : Addr) (ns : List Int), ns.length ≤ 63 → (∀ p ∈ cs, H p.2 = some (.tbl #[])) → SqL K H a (ns.map V.int) → sp [.ref a] H (fun v _ => v = .bl true) fun _ _ _ => False) ∧
      ∀ base : Heap, K.In base → base.Ns mainGlobals mg → (∀ p ∈ cs, LamX.TabB base mg p.1 p.2) → FnOk P w K mg base CX0 31 fa fd ["_law_script"] sp := by
  obtain ⟨K, KX, cc⟩ := Y
  have c := cc.b
  have T := mkT hP hT KX G c
  have e0 : mg "law" = some (.ref (adr K 68)) := fx_glo KX G (x := "law") (says_fx c 98 rfl)
  rw [hmg] at e0
  have e' : fa = adr K 68 := by
    injection e0 with e1
    injection e1
  subst e'
  have hb : ∀ (s : Shared) (v : Value), BindsTo s (fdn K 68) ⟨[v], []⟩ [("_law_script", v)] := by
    obtain ⟨_, _, _, _, _, _, _, _, _, e1, _, _⟩ := T.F_law.ex
    intro s v
    rw [e1]
    exact .of_eq rfl
  have mem : ∀ p ∈ tf9.map (He.cT K), ∃ d ∈ tf9, He.cT K d = p := fun p hp => List.mem_map.mp hp
  refine ⟨K, fdn K 68, tf9.map (He.cT K), spLaw K (adr K), KX, fun p hp => ?_, fun p hp => ?_, fun p hp => ?_, hb, fun H a ns hl hTb hS => ⟨a, ns, rfl, hS, hl, fun p hp => by simp only [TabL, List.mem_cons, List.not_mem_nil, or_false] at hp; exact hp.elim (fun e => by rw [e]; exact LamX.TabS.nil (hTb _ (List.mem_map.mpr ⟨("_law_work", none), by simp [tf9], rfl⟩))) (fun e => by rw [e]; exact LamX.TabS.nil (hTb _ (List.mem_map.mpr ⟨("_law_right", none), by simp [tf9], rfl⟩))), fun _ => rfl⟩, fun base _ _ TB => ok_law T (TB _ (List.mem_map.mpr ⟨("_law_work", none), by simp [tf9], rfl⟩)) (TB _ (List.mem_map.mpr ⟨("_law_right", none), by simp [tf9], rfl⟩)) (cc.ne 0 1 rfl rfl (by decide))⟩
  · obtain ⟨d, hd, rfl⟩ := mem p hp
    exact cc.empty d hd
  · obtain ⟨d, hd, rfl⟩ := mem p hp
    exact cc.out d hd
  · obtain ⟨d, hd, rfl⟩ := mem p hp
    exact PySem.W.codeHd_of_K KX (cc.hd d hd)
end Tr
set_option maxHeartbeats 0
set_option maxHeartbeats 0
theorem PySem.Challenge.cw_trackedreads_k73_effects_that_put_what_t_holds : PySem.Challenge.rw_trackedreads_k73_effects_that_put_what_t.Holds := by
  refine Tr.headE ?hc
  case hc =>
    refine LamX.walk_ofTsE (l := PySem.Challenge.rw_trackedreads_k73_effects_that_put_what_t) (n := 63) (k := 31) (x := "_law_script") (CX := fun _ => L2.CX0) rfl (by decide) (by kernel_rfl) ⟨rfl, by decide, by decide⟩ ?F (fun _ _ _ _ _ z => z)
    intro w mg fa h Y G hmg0
    obtain ⟨K, fd, cs, sp, KX, h1, h2, h3, h4, h5, h6⟩ := Tr.walkF Tr.fileEq Tr.topEq w mg fa h Y G ((congrArg mg Tr.nameEq).symm.trans hmg0)
    exact ⟨K, KX, fd, cs, sp, h1, h2, h3, h4, fun H a ns hl _ => h5 H a ns hl, h6⟩
