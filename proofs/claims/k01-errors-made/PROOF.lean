import PyProof.Rows.All
import Wide.All
import OpenK.AllK
import Wide.FinOn
import HandS.ForMost
import HandS.Wide
import HandS.Walk
import HandS.Deep
import HandS.IsInst
import HandS.Steps
import HandS.Star
import HandS.Exc
import HandS.ExcInit
import HandS.ExcField
import HandS.ClsMeth
import HandS.ExcOwn
import HandS.WordsExc
import KE.KExcInit
import HandS.ExcIs
import HandS.Defaults
import PyProof.StrBlock2
import HandS.Base
import HandS.Call
import HandS.Ends
import HandS.More
import HandS.Words
import HandS.Head0
import HandS.Head1
import HandS.Head2
import HandS.HeadEnd
import HandS.HeadHook1
import HandS.HeadHook2
import KE.KStateDown
import PySem.Challenge.RW_trackedreads_k01_errors_made
set_option Elab.async false
set_option linter.all false
set_option maxRecDepth 100000
set_option maxHeartbeats 4000000
namespace Tr
open PySem PySem.Spec PyProof.Rows L2
section
variable {X : Cx}

theorem K_nox (X : Cx) : X.nox.K = X.K := rfl
theorem K_cxOf {P : Program} {w : World} {K : PySem.W.Frag} {mg : Str → Option Value} {base : Heap} {CX : CXT} {N : List Str} {qual : Str} {scope : Scope} {f : Addr} {cd : Value} {A : Around} {outer : List Env} {s : Shared} {H : Hp} {E : XK} :
    (cxOf CX P w K mg base N qual scope f cd A outer s H E).K = K := rfl

theorem opImp {f : Value → Value → Sem Value} {r r' : R2} (h : OpR X f r) (i : ∀ x y H Q, r' x y H Q → r x y H Q) : OpR X f r' :=
  fun pins s σ H x y v u Q I rx ry q => h pins s σ H x y v u Q I rx ry (i x y H Q q)
theorem callImp {f : Value} {r r' : List V → Hp → VK → Prop} (h : CallR X f r) (i : ∀ xs H Q, r' xs H Q → r xs H Q) : CallR X f r' :=
  fun pins s σ H xs us Q I rx q => h pins s σ H xs us Q I rx (i xs H Q q)
theorem ixImp {r r' : R2} (h : IxR X r) (i : ∀ x y H Q, r' x y H Q → r x y H Q) : IxR X r' :=
  fun value slice pins s σ H x y v u Q I rx ry q hs => h value slice pins s σ H x y v u Q I rx ry (i x y H Q q) hs
theorem slImp {r r' : V → Option Int → Option Int → Hp → VK → Prop} (h : SlR X r) (i : ∀ x lo hi H Q, r' x lo hi H Q → r x lo hi H Q) : SlR X r' :=
  fun pins s σ H x v vl vu lo hi sl Q I rx hs pl pu q => h pins s σ H x v vl vu lo hi sl Q I rx hs pl pu (i x lo hi H Q q)
theorem mtImp {id : String} {r r' : V → List V → Hp → VK → Prop} (h : MtR X id r) (i : ∀ x xs H Q, r' x xs H Q → r x xs H Q) : MtR X id r' :=
  fun pins s σ H x xs v us Q I rx rs q => h pins s σ H x xs v us Q I rx rs (i x xs H Q q)
/-- an expression that is never reached -/
def tFalse : TE := fun _ _ _ => False
theorem pe_never {e : Expr} : PE X e tFalse := ⟨fun _ _ _ _ _ _ h => h.elim⟩
def tFalseT : TT := fun _ _ _ => False
theorem pt_never {e : Expr} : PT X e tFalseT := ⟨fun _ _ _ _ _ _ h => h.elim⟩
def sFalse : TS := fun _ _ _ => False
theorem ps_nev {st : Stmt} : PS X st sFalse := ⟨fun _ _ _ _ _ _ h => h.elim⟩
theorem pss_nev {st : List Stmt} : PSs X st sFalse := ⟨fun _ _ _ _ _ _ h => h.elim⟩

def rEqU (K : PySem.W.Frag) : R2 := fun x y H Q => if scal x y = true then Q (.bl (decide (x = y))) H else
  match y with
  | .ref q => match H q with
    | some (.lst []) => (match x with
      | .ref p => (match H p with
        | some (.lst xs) => Q (.bl xs.isEmpty) H
        | _ => False)
      | _ => False)
    | _ => rEqD K x y H Q
  | _ => rEqD K x y H Q
def rNeU (K : PySem.W.Frag) : R2 := fun x y H Q => if scal x y = true then Q (.bl (!decide (x = y))) H else
  match y with
  | .ref q => match H q with
    | some (.lst []) => (match x with
      | .ref p => (match H p with
        | some (.lst xs) => Q (.bl (!xs.isEmpty)) H
        | _ => False)
      | _ => False)
    | _ => rNeD K x y H Q
  | _ => rNeD K x y H Q
theorem isE_of {xs : List V} {its : List Value} (r : Vals xs its) : xs.isEmpty = its.isEmpty := by cases r <;> rfl
theorem eq_nil {pins : List (Addr × Obj)} {σ : L2.St} {H : Hp} {s : Shared} {p q : Addr} {xs : List V} {Q : Value → Shared → Prop} (I : Inv X pins σ H s) (hp : H p = some (.lst xs)) (hq : H q = some (.lst [])) (hu : X.A.units + 64 < cLine)
    (h : Q (.bool xs.isEmpty) s) : wpAny (model X.prog X.w) X.A (compareOp .Eq (.ref p) (.ref q)) Q X.xe s := by
  obtain ⟨its, r, pl, hz⟩ := I.list (SqL.of hp)
  obtain ⟨it2, r2, pl2, hz2⟩ := I.list (SqL.of hq)
  cases r2
  cases its with
  | nil =>
    cases r
    exact SeqAt.eq_listAt (e := fun _ => true) pl.isList pl2.isList rfl (by omega) (fun j h1 _ => absurd h1 (by simp)) (by simpa using h)
  | cons a l =>
    cases r
    exact SeqAt.eq_list_lengthsAt pl.isList pl2.isList (by simp) (by omega) h
theorem uEq (K : PySem.W.Frag) (hu : X.A.units + 64 < cLine) (hK : X.K = K := by rfl) : OpR X (compareOp .Eq) (rEqU K) := by
  subst hK
  intro pins s σ H x y v u Q I rx ry h
  unfold rEqU at h
  by_cases c : scal x y = true
  · rw [if_pos c] at h
    exact op_eq pins s σ H x y v u Q I rx ry ⟨c, h⟩
  · rw [if_neg c] at h
    split at h
    · split at h
      · rename_i q hq
        split at h
        · split at h
          · rename_i p xs hp
            cases rx
            cases ry
            exact eq_nil I hp hq hu ⟨.bl _, H, I, rfl, h⟩
          · exact h.elim
        · exact h.elim
      · exact op_eqD hu pins s σ H x _ v u Q I rx ry h
    · exact op_eqD hu pins s σ H x y v u Q I rx ry h

theorem ne_nil {pins : List (Addr × Obj)} {σ : L2.St} {H : Hp} {s : Shared} {p q : Addr} {xs : List V} {Q : Value → Shared → Prop} (I : Inv X pins σ H s) (hp : H p = some (.lst xs)) (hq : H q = some (.lst [])) (hu : X.A.units + 64 < cLine)
    (h : Q (.bool (!xs.isEmpty)) s) : wpAny (model X.prog X.w) X.A (compareOp .NotEq (.ref p) (.ref q)) Q X.xe s := by
  obtain ⟨its, r, pl, hz⟩ := I.list (SqL.of hp)
  obtain ⟨it2, r2, pl2, hz2⟩ := I.list (SqL.of hq)
  cases r2
  cases its with
  | nil =>
    cases r
    exact SeqAt.RcNeAt.lists (e := fun _ => true) pl.isList pl2.isList rfl (by omega) (fun j h1 _ => absurd h1 (by simp)) _ _ _ _ (by simpa using h)
  | cons a l =>
    cases r
    exact SeqAt.RcNeAt.lists_lengths pl.isList pl2.isList (by simp) (by omega) _ _ _ _ h
theorem uNe (K : PySem.W.Frag) (hu : X.A.units + 64 < cLine) (hK : X.K = K := by rfl) : OpR X (compareOp .NotEq) (rNeU K) := by
  subst hK
  intro pins s σ H x y v u Q I rx ry h
  unfold rNeU at h
  by_cases c : scal x y = true
  · rw [if_pos c] at h
    exact op_ne pins s σ H x y v u Q I rx ry ⟨c, h⟩
  · rw [if_neg c] at h
    split at h
    · split at h
      · rename_i q hq
        split at h
        · split at h
          · rename_i p xs hp
            cases rx
            cases ry
            exact ne_nil I hp hq hu ⟨.bl _, H, I, rfl, h⟩
          · exact h.elim
        · exact h.elim
      · exact op_neD hu pins s σ H x _ v u Q I rx ry h
    · exact op_neD hu pins s σ H x y v u Q I rx ry h

def rAddU : R2 := fun x y H Q => match x with
  | .int i => (match y with | .int j => Q (.int (i + j)) H | _ => False)
  | .str a => (match y with | .str b => a.length + b.length ≤ sizeLine ∧ Q (.str (a ++ b)) H | _ => False)
  | .ref p => (match y with
    | .ref q => (match H p with
      | some (.lst xs) => (match H q with
        | some (.lst ys) => xs.length + ys.length ≤ sizeLine ∧ ∀ r, H r = none → Q (.ref r) (upd H r (.lst (xs ++ ys)))
        | _ => False)
      | _ => False)
    | _ => False)
  | _ => False
theorem uAdd : OpR X (binaryOp .Add) rAddU := by
  intro pins s σ H x y v u Q I rx ry h
  unfold rAddU at h
  split at h
  · split at h
    · exact op_add pins s σ H _ _ v u Q I rx ry ⟨_, _, rfl, rfl, h⟩
    · exact h.elim
  · split at h
    · exact op_add_str pins s σ H _ _ v u Q I rx ry ⟨_, _, rfl, rfl, h.1, h.2⟩
    · exact h.elim
  · split at h
    · split at h
      · rename_i hp
        split at h
        · rename_i hq
          exact op_cat pins s σ H _ _ v u Q I rx ry ⟨_, _, _, _, rfl, rfl, hp, hq, h.1, h.2⟩
        · exact h.elim
      · exact h.elim
    · exact h.elim
  · exact h.elim
def repS (a : Str) (k : Nat) : Str := ⟨(List.replicate k a.cps.toList).flatten.toArray⟩
def rMulU : R2 := fun x y H Q => match x with
  | .int i => (match y with | .int j => CMulW i j ∧ Q (.int (i * j)) H | _ => False)
  | .ref p => (match y with
    | .int k => (match H p with
      | some (.lst xs) => -(2 ^ 63) ≤ k ∧ k < 2 ^ 63 ∧ xs.length * k.toNat ≤ sizeLine ∧ ∀ r, H r = none → Q (.ref r) (upd H r (.lst (List.replicate k.toNat xs).flatten))
      | _ => False)
    | _ => False)
  | _ => False
theorem uMul : OpR X (binaryOp .Mult) rMulU := by
  intro pins s σ H x y v u Q I rx ry h
  unfold rMulU at h
  split at h
  · split at h
    · exact op_mulW pins s σ H _ _ v u Q I rx ry ⟨_, _, rfl, rfl, h.1, h.2⟩
    · exact h.elim
  · split at h
    · split at h
      · rename_i hp
        exact op_rep pins s σ H _ _ v u Q I rx ry ⟨_, _, _, rfl, rfl, hp, h.1, h.2.1, h.2.2.1, h.2.2.2⟩
      · exact h.elim
    · exact h.elim
  · exact h.elim

def rIxU : R2 := fun x y H Q => match x with
  | .ref p => (match y with
    | .int i => (match H p with
      | some (.lst xs) => ∃ v, atI xs i = some v ∧ Q v H
      | some (.tup xs) => ∃ v, atI xs i = some v ∧ Q v H
      | _ => False)
    | _ => False)
  | .str z => (match y with
    | .int i => z.length ≤ sizeLine ∧ ∃ c, atI z.cps.toList i = some c ∧ Q (.str ⟨#[c]⟩) H
    | _ => False)
  | _ => False
theorem uIx : IxR X rIxU := by
  intro value slice pins s σ H x y v u Q I rx ry h hs
  unfold rIxU at h
  split at h
  · split at h
    · split at h
      · rename_i hp
        obtain ⟨z, hz, q⟩ := h
        exact ix_list value slice pins s σ H _ _ v u Q I rx ry ⟨_, _, _, z, rfl, rfl, SqL.of hp, hz, q⟩ hs
      · rename_i hp
        obtain ⟨z, hz, q⟩ := h
        exact ix_tup value slice pins s σ H _ _ v u Q I rx ry ⟨_, _, _, z, rfl, rfl, SqT.of hp, hz, q⟩ hs
      · exact h.elim
    · exact h.elim
  · split at h
    · obtain ⟨hl, c, hc, q⟩ := h
      exact ix_str value slice pins s σ H _ _ v u Q I rx ry ⟨_, _, c, rfl, rfl, hl, hc, q⟩ hs
    · exact h.elim
  · exact h.elim
def rGetD : R2 := fun x y H Q => match x with
  | .ref a => (match H a with
    | some (.dK kvs) => (match y with
      | .int i => ∃ v, valV kvs (Sum.inl i) = some v ∧ Q v H
      | .str z => ∃ v, valV kvs (Sum.inr z) = some v ∧ Q v H
      | _ => False)
    | _ => False)
  | _ => False
theorem rGetD.to {x y : V} {H : Hp} {Q : VK} (h : rGetD x y H Q) : ∃ a v, x = .ref a ∧ DGet H a y (some v) ∧ Q v H := by
  unfold rGetD at h
  split at h
  · split at h
    · rename_i hp
      split at h
      · obtain ⟨v, e, q⟩ := h
        exact ⟨_, v, rfl, .inl ⟨_, Sum.inl _, .inl hp, rfl, e.symm⟩, q⟩
      · obtain ⟨v, e, q⟩ := h
        exact ⟨_, v, rfl, .inl ⟨_, Sum.inr _, .inl hp, rfl, e.symm⟩, q⟩
      · exact h.elim
    · exact h.elim
  · exact h.elim

def rSlU : V → Option Int → Option Int → Hp → VK → Prop := fun x lo hi H Q => match x with
  | .ref p => (match H p with
    | some (.lst xs) => ∀ r, H r = none → Q (.ref r) (upd H r (.lst (cutV xs lo hi)))
    | some (.tup xs) => ¬ (HT.sIx xs.length 0 lo = 0 ∧ HT.sIx xs.length xs.length hi = xs.length) ∧ ∀ r, H r = none → Q (.ref r) (upd H r (.tup (cutV xs lo hi)))
    | _ => False)
  | .str z => z.length ≤ sizeLine ∧ Q (.str (cutS z lo hi)) H
  | _ => False
theorem uSl : SlR X rSlU := by
  intro pins s σ H x v vl vu lo hi sl Q I rx hs pl pu h
  unfold rSlU at h
  split at h
  · split at h
    · rename_i hp
      exact sl_list pins s σ H _ v vl vu lo hi sl Q I rx hs pl pu ⟨_, _, rfl, SqL.of hp, h⟩
    · rename_i hp
      exact sl_tup pins s σ H _ v vl vu lo hi sl Q I rx hs pl pu ⟨_, _, rfl, SqT.of hp, h.1, h.2⟩
    · exact h.elim
  · exact sl_str pins s σ H _ v vl vu lo hi sl Q I rx hs pl pu ⟨_, rfl, h.1, h.2⟩
  · exact h.elim

def rInU (K : PySem.W.Frag) (neg : Bool) : R2 := fun x y H Q => match y with
  | .ref p => (match H p with
    | some (.lst xs) => flatV x = true ∧ xs.all flatV = true ∧ Q (.bl (if neg then !inV x xs else inV x xs)) H
    | some (.tup xs) => flatV x = true ∧ xs.all flatV = true ∧ Q (.bl (if neg then !inV x xs else inV x xs)) H
    | _ => rIn K neg x y H Q)
  | .str z => (match x with
    | .str w => ∃ c, w = ⟨#[c]⟩ ∧ Q (.bl (if neg then !decide (c ∈ z.cps.toList) else decide (c ∈ z.cps.toList))) H
    | _ => False)
  | _ => False
theorem uIn (K : PySem.W.Frag) (hK : X.K = K := by rfl) : OpR X (compareOp .In) (rInU K false) := by
  subst hK
  intro pins s σ H x y v u Q I rx ry h
  unfold rInU at h
  split at h
  · split at h
    · rename_i hp
      exact op_in_seq pins s σ H x _ v u Q I rx ry ⟨_, _, rfl, .inl (SqL.of hp), h.1, h.2.1, h.2.2⟩
    · rename_i hp
      exact op_in_seq pins s σ H x _ v u Q I rx ry ⟨_, _, rfl, .inr (SqT.of hp), h.1, h.2.1, h.2.2⟩
    · exact op_in_seq pins s σ H x _ v u Q I rx ry h
  · split at h
    · obtain ⟨c, rfl, h⟩ := h
      exact op_in_sign pins s σ H _ _ v u Q I rx ry ⟨c, _, rfl, rfl, h⟩
    · exact h.elim
  · exact h.elim
theorem uNotIn (K : PySem.W.Frag) (hK : X.K = K := by rfl) : OpR X (compareOp .NotIn) (rInU K true) := by
  subst hK
  intro pins s σ H x y v u Q I rx ry h
  unfold rInU at h
  split at h
  · split at h
    · rename_i hp
      exact op_notIn_seq pins s σ H x _ v u Q I rx ry ⟨_, _, rfl, .inl (SqL.of hp), h.1, h.2.1, h.2.2⟩
    · rename_i hp
      exact op_notIn_seq pins s σ H x _ v u Q I rx ry ⟨_, _, rfl, .inr (SqT.of hp), h.1, h.2.1, h.2.2⟩
    · exact op_notIn_seq pins s σ H x _ v u Q I rx ry h
  · split at h
    · obtain ⟨c, rfl, h⟩ := h
      exact op_notIn_sign pins s σ H _ _ v u Q I rx ry ⟨c, _, rfl, rfl, h⟩
    · exact h.elim
  · exact h.elim

def rLenU : List V → Hp → VK → Prop := fun xs H Q => match xs with
  | [.str z] => z.length ≤ sizeLine ∧ Q (.int z.length) H
  | [.ref p] => (match H p with
    | some (.lst ys) => Q (.int ys.length) H
    | some (.tup ys) => Q (.int ys.length) H
    | some (.dK kvs) => Q (.int kvs.length) H
    | _ => False)
  | _ => False
theorem uLen : CallR X (.builtin "len") rLenU := by
  intro pins s σ H xs us Q I r h
  unfold rLenU at h
  split at h
  · exact call_len_str pins s σ H _ us Q I r ⟨_, rfl, h.1, h.2⟩
  · split at h
    · rename_i hp
      exact call_len_seq pins s σ H _ us Q I r ⟨_, _, rfl, .inl (SqL.of hp), h⟩
    · rename_i hp
      exact call_len_seq pins s σ H _ us Q I r ⟨_, _, rfl, .inr (SqT.of hp), h⟩
    · rename_i hp
      exact call_lenD pins s σ H _ us Q I r ⟨_, _, rfl, hp, h⟩
    · exact h.elim
  · exact h.elim
def rListU : List V → Hp → VK → Prop := fun xs H Q => match xs with
  | [.ref p] => (match H p with
    | some (.lst ys) => ∀ l, H l = none → Q (.ref l) (upd H l (.lst ys))
    | some (.tup ys) => ∀ l, H l = none → Q (.ref l) (upd H l (.lst ys))
    | _ => False)
  | _ => False
theorem uList : CallR X (.type "list") rListU := by
  intro pins s σ H xs us Q I r h
  unfold rListU at h
  split at h
  · split at h
    · rename_i hp
      exact call_list_of pins s σ H _ us Q I r ⟨_, _, rfl, .inl (SqL.of hp), h⟩
    · rename_i hp
      exact call_list_of pins s σ H _ us Q I r ⟨_, _, rfl, .inr (SqT.of hp), h⟩
    · exact h.elim
  · exact h.elim
def rTupleU : List V → Hp → VK → Prop := fun xs H Q => match xs with
  | [.ref p] => (match H p with
    | some (.lst ys) => ∀ l, H l = none → Q (.ref l) (upd H l (.tup ys))
    | some (.tup ys) => Q (.ref p) H
    | _ => False)
  | _ => False
theorem uTuple : CallR X (.type "tuple") rTupleU := by
  intro pins s σ H xs us Q I r h
  unfold rTupleU at h
  split at h
  · split at h
    · rename_i hp
      exact call_tuple_of pins s σ H _ us Q I r ⟨_, _, rfl, .inl ⟨SqL.of hp, h⟩⟩
    · rename_i hp
      exact call_tuple_of pins s σ H _ us Q I r ⟨_, _, rfl, .inr ⟨SqT.of hp, h⟩⟩
    · exact h.elim
  · exact h.elim
/-- int(n), int(flag), int(text) -/
def rIntU : List V → Hp → VK → Prop := fun xs H Q => match xs with
  | [.int i] => Q (.int i) H
  | [.bl k] => Q (.int (if k then 1 else 0)) H
  | [.str a] => ∃ n, PySem.intText? a = some n ∧ a.length ≤ 640 ∧ Q (.int n) H
  | _ => False
theorem uInt : CallR X (.type "int") rIntU := by
  intro pins s σ H xs us Q I r h
  unfold rIntU at h
  split at h
  · exact call_int1 pins s σ H _ us Q I r (.inl ⟨_, rfl, h⟩)
  · exact call_int1 pins s σ H _ us Q I r (.inr ⟨_, rfl, h⟩)
  · obtain ⟨n, e, l, q⟩ := h
    exact call_int_str pins s σ H _ us Q I r ⟨_, n, rfl, e, l, q⟩
  · exact h.elim
def rAppU : V → List V → Hp → VK → Prop := fun x xs H Q => match x with
  | .ref l => (match H l with
    | some (.lst ys) => (match xs with | [v] => ys.length < sizeLine ∧ Q .non (upd H l (.lst (ys ++ [v]))) | _ => False)
    | _ => False)
  | _ => False
theorem uAppend : MtR X "list.append" rAppU := by
  intro pins s σ H x xs v us Q I rx rs h
  unfold rAppU at h
  split at h
  · split at h
    · rename_i hp
      split at h
      · exact mt_append pins s σ H _ _ v us Q I rx rs ⟨_, _, _, rfl, rfl, hp, h.1, h.2⟩
      · exact h.elim
    · exact h.elim
  · exact h.elim
end
end Tr
namespace Tr
open PySem PySem.Spec PyProof.Rows L2
theorem bt_len : bootBuiltins "len" = some (.builtin "len") := by decide +kernel
theorem bt_abs : bootBuiltins "abs" = some (.builtin "abs") := by decide +kernel
theorem bt_all : bootBuiltins "all" = some (.builtin "all") := by decide +kernel
theorem bt_any : bootBuiltins "any" = some (.builtin "any") := by decide +kernel
theorem bt_max : bootBuiltins "max" = some (.builtin "max") := by decide +kernel
theorem bt_min : bootBuiltins "min" = some (.builtin "min") := by decide +kernel
theorem bt_isinstance : bootBuiltins "isinstance" = some (.builtin "isinstance") := by decide +kernel
theorem bt_sorted : bootBuiltins "sorted" = some (.builtin "sorted") := by decide +kernel
theorem bt_int : bootBuiltins "int" = some (.type "int") := by decide +kernel
theorem bt_list : bootBuiltins "list" = some (.type "list") := by decide +kernel
theorem bt_tuple : bootBuiltins "tuple" = some (.type "tuple") := by decide +kernel
theorem bt_str : bootBuiltins "str" = some (.type "str") := by decide +kernel
theorem bt_bool : bootBuiltins "bool" = some (.type "bool") := by decide +kernel
theorem bt_dict : bootBuiltins "dict" = some (.type "dict") := by decide +kernel
theorem bt_set : bootBuiltins "set" = some (.type "set") := by decide +kernel
/-- Same, further -/
theorem Same.new {H : Hp} {p : Addr} {o : HO} (h : H p = none) : Same H (upd H p o) := fun b u e => by
  rw [upd_ne (ne_of_none e h)]
  exact e
theorem Same.mut {H H' : Hp} {p : Addr} {o : HO} (e : Same H H') (h : H p = none) : Same H (upd H' p o) := fun b u q => by
  rw [upd_ne (ne_of_none q h)]
  exact e b u q
/-- all but what H did not know is as it was; the converse of Same.free -/
theorem Same.none {H H' : Hp} (e : Same H H') {p : Addr} (h : H' p = none) : H p = none := e.free h
end Tr

namespace Tr
open PySem PySem.Spec PyProof.Rows L2
section
variable {X : Cx}
theorem pe_gI {x : Str} {n : Int} {t : Tok} {pos : Pos} (hg : Gl X x) (hm : X.mg x = some (.int n t)) (hd : (x == ("__debug__" : Str)) = false := by decide) : PE X (.Name x pos) (tC (.int n)) := pe_glob hg hm ⟨t, rfl⟩ hd
theorem pe_gS {x : Str} {n : Str} {t : Tok} {pos : Pos} (hg : Gl X x) (hm : X.mg x = some (.str n t)) (hd : (x == ("__debug__" : Str)) = false := by decide) : PE X (.Name x pos) (tC (.str n)) := pe_glob hg hm ⟨t, rfl⟩ hd
theorem pe_gR {x : Str} {n : Addr} {pos : Pos} (hg : Gl X x) (hm : X.mg x = some (.ref n)) (hd : (x == ("__debug__" : Str)) = false := by decide) : PE X (.Name x pos) (tC (.ref n)) := pe_glob (v := .ref n) hg hm rfl hd
structure FldOk (K : PySem.W.Frag) (C : Addr) (f : Str) : Prop where
  cl : Cls K C
  no : NoAttr K C f
def tFldU (K : PySem.W.Frag) (ta : TE) (f : Str) : TE := fun σ H Q => ta σ H fun x H1 => match x with
  | .ref a => (match H1 a with
    | some (.ins C dx fs) => FldOk K C f ∧ ∃ v, fs.lookup f = some v ∧ Q v H1
    | _ => False)
  | _ => False
theorem peImp {e : Expr} {t t' : TE} (h : PE X e t) (i : ∀ σ H Q, t' σ H Q → t σ H Q) : PE X e t' := ⟨fun pins s σ H Q I q => h.run pins s σ H Q I (i σ H Q q)⟩
theorem psImp {e : Stmt} {t t' : TS} (h : PS X e t) (i : ∀ D σ H, t' D σ H → t D σ H) : PS X e t' := ⟨fun pins s σ H D I q => h.run pins s σ H D I (i D σ H q)⟩
theorem pe_fldU {e : Expr} {f : Str} {pos : Pos} {ta : TE} (K : PySem.W.Frag) (ha : PE X e ta) (hb : attributeBase e f X.env (eval e X.env) = eval e X.env := by rfl) (hK : X.K = K := by rfl) : PE X (.Attribute e f pos) (tFldU K ta f) := by
  subst hK
  refine ⟨fun pins s σ H Q I h => ?_⟩
  refine attr_of hb (thn (ha.run pins s σ H _ I h) fun u s1 ⟨x, H1, I1, rx, q⟩ => ?_)
  dsimp only at q
  split at q
  · split at q
    · rename_i ea
      obtain ⟨c, v, l, q⟩ := q
      cases rx
      exact getattr_ok I1 ea c.cl c.no l fun u' s2 I2 ru => ⟨v, H1, I2, ru, q⟩
    · exact q.elim
  · exact q.elim
/-- o.f = e -/
def sFldU (K : PySem.W.Frag) (ta tv : TE) (f : Str) : TS := fun D σ H => tv σ H fun y H1 => ta σ H1 fun x H2 => match x with
  | .ref a => (match H2 a with
    | some (.ins C dx fs) => FldOk K C f ∧ fs.length < 1000 ∧ D.nx σ (upd H2 a (.ins C dx (putF f y fs)))
    | _ => False)
  | _ => False
theorem ps_fldU {o value : Expr} {f : Str} {pos pos' : Pos} {ta tv : TE} (K : PySem.W.Frag) (ha : PE X o ta) (hv : PE X value tv) (hs : swapsWith value (some (.Attribute o f pos')) pos.line X.env = pure false := by rfl) (hK : X.K = K := by rfl) :
    PS X (.Assign [.Attribute o f pos'] value pos) (sFldU K ta tv f) := by
  subst hK
  refine ⟨fun pins s σ H D I h => ?_⟩
  refine plainObj_wpAny_Assign_Attribute (thn (hv.run pins s σ H _ I h) fun u s1 ⟨y, H1, I1, ry, q⟩ => thn (ha.run pins s1 σ H1 _ I1 q) fun ov s2 ⟨x, H2, I2, rx, q2⟩ => ?_) hs
  dsimp only at q2
  split at q2
  · split at q2
    · rename_i ea
      obtain ⟨c, l, q2⟩ := q2
      cases rx
      exact setattr_ok I2 ea c.cl c.no l ry fun s3 I3 => ⟨σ, _, I3, q2⟩
    · exact q2.elim
  · exact q2.elim
/-- (a, b, ..) = e, a tuple that stands in H -/
def gTupU (n : Nat) (t : TGs) : TG := fun v σ H Q => match v with
  | .ref a => (match H a with
    | some (.tup xs) => xs.length = n ∧ t xs σ H Q
    | _ => False)
  | _ => False
theorem pg_tupU {es : List Expr} {k : Nat} {t : TGs} {n : Nat} {pos : Pos} (hc : X.calm = true) (h : PGs X es t)
    (hn : (assignEach es X.env).length = n := by rfl) (hst : (assignEach es X.env).findIdx? (·.1) = none := by rfl) : PG X (.Tuple es k pos) (gTupU n t) := by
  refine ⟨fun pins s σ H v u Q I r hw => ?_⟩
  unfold gTupU at hw
  split at hw
  · split at hw
    · rename_i ea
      exact (pg_tup hc h hn hst).run pins s σ H _ u Q I r ⟨_, _, rfl, SqT.of ea, hw.1, hw.2⟩
    · exact hw.elim
  · exact hw.elim
/-- xs[i] = v, xs[i] op= v -/
def rSetU : V → V → V → Hp → (Hp → Prop) → Prop := fun o i v H Q => match o with
  | .ref p => (match H p with
    | some (.lst xs) => (match i with
      | .int k => ∃ j, ixN xs.length k = some j ∧ Q (upd H p (.lst (xs.set j v)))
      | _ => False)
    | _ => False)
  | _ => False
theorem set_listU : PSet X rSetU := by
  intro pins s σ H o i v ov iv u Q I ro ri rv h
  unfold rSetU at h
  split at h
  · split at h
    · rename_i hp
      split at h
      · obtain ⟨j, hj, q⟩ := h
        exact set_list pins s σ H _ _ v ov iv u Q I ro ri rv ⟨_, _, _, j, rfl, rfl, hp, hj, q⟩
      · exact h.elim
    · exact h.elim
  · exact h.elim
def rGetU : V → V → Hp → VK → Prop := fun o i H Q => match o with
  | .ref p => (match H p with
    | some (.lst xs) => (match i with
      | .int k => ∃ v, atI xs k = some v ∧ Q v H
      | _ => False)
    | _ => False)
  | _ => False
theorem get_listU : PGet X rGetU := by
  intro pins s σ H x y v u Q I rx ry h
  unfold rGetU at h
  split at h
  · split at h
    · rename_i hp
      split at h
      · obtain ⟨z, he, q⟩ := h
        cases rx
        obtain ⟨t, rfl⟩ := ry
        obtain ⟨its, r, pl, hz⟩ := I.list (SqL.of hp)
        obtain ⟨j, h1, h2, h3, h4, h5⟩ := atI_get he
        obtain ⟨w, ew, rw'⟩ := r.get h2
        have hl := r.length
        have hn := line63
        have fin : EP X pins σ Q w s := ⟨z, H, I, rw', q⟩
        rename_i i
        by_cases h0 : 0 ≤ i
        · have hj : i.toNat = j := by
            rw [seqIndex_of h0 h5] at h1
            exact Option.some.inj h1
          exact wpAny_getItem_list pl.isList h0 (by omega) (by rw [hj]; simpa using ew) fin
        · have hj : (i + (its.toArray.size : Int)).toNat = j := by
            rw [seqIndex_neg (by omega) h4] at h1
            rw [List.size_toArray, ← hl]
            exact Option.some.inj h1
          exact wpAny_getItem_list_neg pl.isList (by omega) (by rw [List.size_toArray] <;> omega) (by omega) (by rw [hj]; simpa using ew) fin
      · exact h.elim
    · exact h.elim
  · exact h.elim
end
end Tr
namespace Tr
open PySem PySem.Spec PyProof.Rows L2
theorem lc_fm {α : Type} (xs : List α) (h : α → Option V) {J : It} {n : Nat} {G : Hp → Prop} {Y : Nat → Hp → V → Hp → Prop} (w : Walk J n G Y) (hn : n = xs.length) (hz : xs.length ≤ sizeLine) {g : TG} {tt : TT} {te : TE} {vs : List Nat} {σ : L2.St} {H1 : Hp} {D : Addr} {Qd : Hp → Prop} (hD : H1 D = none)
    (hG : ∀ H, Same H1 H → G H)
    (hs : ∀ (i : Nat) (a : α) (x : V) (H H' : Hp) (R : VK) (R0 : Hp → Prop), xs[i]? = some a → Same H1 H → Y i H x H' → (∀ v, h a = some v → ∀ H4, Same H H4 → R v H4) → (h a = none → ∀ H3, Same H H3 → R0 H3) →
      g x (wipe σ vs) H' fun σ2 H2 => wipe σ2 vs = wipe σ vs ∧ tt σ2 H2 fun b H3 => if b = true then te σ2 H3 R else R0 H3)
    (hd : ∀ H, Same H1 H → H D = some (.lst (xs.filterMap h)) → Qd H) :
    ∃ W : Nat → Nat → Hp → Prop, (∃ m, W 0 m (upd H1 D (.lst []))) ∧ ∀ i m H, W i m H →
      (J.stop i H ∧ Qd H) ∨ (J.go i H ∧ ∃ Nx : Hp → Prop, (∀ H', Nx H' → ∃ m', m' < m ∧ W (i + 1) m' H') ∧ ∀ x H', J.yld i H x H' → g x (wipe σ vs) H' fun σ2 H2 => wipe σ2 vs = wipe σ vs ∧ tt σ2 H2 fun b H3 =>
        if b = true then te σ2 H3 fun y H4 => ∃ acc, H4 D = some (.lst acc) ∧ acc.length < sizeLine ∧ Nx (upd H4 D (.lst (acc ++ [y]))) else Nx H3) := by
  subst hn
  refine lc_it w (fun i H => Same H1 H ∧ H D = some (.lst ((xs.take i).filterMap h))) ⟨Same.new hD, by rw [upd_same]; simp⟩ (fun i H _ p => hG H p.1) ?_ (fun H p => hd H p.1 (by rw [p.2, List.take_length]))
  intro i x H H' hi p y
  obtain ⟨a, ha⟩ : ∃ a, xs[i]? = some a := ⟨xs[i], List.getElem?_eq_getElem hi⟩
  have et : xs.take (i + 1) = xs.take i ++ [a] := by
    rw [List.take_succ, ha]
    rfl
  have hlen : ((xs.take i).filterMap h).length < sizeLine := by
    refine Nat.lt_of_le_of_lt (List.length_filterMap_le _ _) ?_
    rw [List.length_take]
    omega
  refine hs i a x H H' _ _ ha p.1 y (fun v hv H4 s4 => ?_) (fun hv H3 s3 => ?_)
  · refine ⟨_, s4 _ _ p.2, hlen, Same.mut (p.1.trans s4) hD, ?_⟩
    rw [upd_same, et, List.filterMap_append]
    simp [hv]
  · refine ⟨p.1.trans s3, ?_⟩
    rw [s3 _ _ p.2, et, List.filterMap_append]
    simp [hv]
/-- any, all of a list of truth values that stands in H -/
def rAllU : List V → Hp → VK → Prop := fun xs H Q => match xs with
  | [.ref p] => (match H p with
    | some (.lst ys) => ∃ bs : List Bool, ys = bs.map V.bl ∧ Q (.bl (bs.all id)) H
    | _ => False)
  | _ => False
def rAnyU : List V → Hp → VK → Prop := fun xs H Q => match xs with
  | [.ref p] => (match H p with
    | some (.lst ys) => ∃ bs : List Bool, ys = bs.map V.bl ∧ Q (.bl (bs.any id)) H
    | _ => False)
  | _ => False
section
variable {X : Cx}
theorem uAll (hc : X.calm = true) : CallR X (.builtin "all") rAllU := by
  intro pins s σ H xs us Q I r h
  unfold rAllU at h
  split at h
  · split at h
    · rename_i hp
      obtain ⟨bs, rfl, q⟩ := h
      exact cr_all hc pins s σ H _ us Q I r ⟨_, bs, rfl, SqL.of hp, q⟩
    · exact h.elim
  · exact h.elim
theorem uAny (hc : X.calm = true) : CallR X (.builtin "any") rAnyU := by
  intro pins s σ H xs us Q I r h
  unfold rAnyU at h
  split at h
  · split at h
    · rename_i hp
      obtain ⟨bs, rfl, q⟩ := h
      exact cr_any hc pins s σ H _ us Q I r ⟨_, bs, rfl, SqL.of hp, q⟩
    · exact h.elim
  · exact h.elim
/-- x in T, T a written tuple of the module -/
def rInW (p : Addr) (xs : List V) : R2 := fun x y H Q => y = .ref p ∧ flatV x = true ∧ Q (.bl (inV x xs)) H
theorem uInW {p : Addr} {xs : List V} (hw : ∀ H, SqT X.K H p xs) (hf : xs.all flatV = true) : OpR X (compareOp .In) (rInW p xs) := by
  intro pins s σ H x y v u Q I rx ry h
  obtain ⟨rfl, fx, q⟩ := h
  exact op_in_seq pins s σ H x _ v u Q I rx ry ⟨_, xs, rfl, .inr (hw H), fx, hf, q⟩
end
theorem inV_strs (t : Str) : ∀ l : List Str, inV (.str t) (l.map V.str) = l.contains t
  | [] => rfl
  | b :: l => by
    have ih := inV_strs t l
    unfold inV at ih ⊢
    rw [List.map_cons, List.any_cons, ih, List.contains_cons]
    congr 1
    show (b == t) = (t == b)
    exact Bool.eq_iff_iff.mpr ⟨fun h => by simpa using (by simpa using h : b = t).symm, fun h => by simpa using (by simpa using h : t = b).symm⟩
theorem flat_strs (l : List Str) : (l.map V.str).all flatV = true := by
  induction l with
  | nil => rfl
  | cons a l ih => exact ih
theorem atI_0 {α : Type} (x : α) (l : List α) : atI (x :: l) 0 = some x := atI_nat (j := 0) rfl
theorem atI_1 {α : Type} (x y : α) (l : List α) : atI (x :: y :: l) 1 = some y := atI_nat (j := 1) rfl
theorem atI_2 {α : Type} (x y z : α) (l : List α) : atI (x :: y :: z :: l) 2 = some z := atI_nat (j := 2) rfl
theorem atI_3 {α : Type} (x y z w : α) (l : List α) : atI (x :: y :: z :: w :: l) 3 = some w := atI_nat (j := 3) rfl
end Tr
set_option maxHeartbeats 4000000
namespace Tr
open PySem PySem.Spec PyProof.Rows L2
section
variable {σ : L2.St} {H : Hp} {Q : VK} {D : Ends} {t u : TS} {c d : TT} {ta tb te tv : TE} {tg : TG} {i j : Nat} {v x y : V} {K : PySem.W.Frag}
variable {na : L2.St → Hp → Prop} {rt : VK} {bk ct : L2.St → Hp → Prop}
theorem s_seq (h : t ⟨u ⟨na, rt, bk, ct⟩, rt, bk, ct⟩ σ H) : tSeq t u ⟨na, rt, bk, ct⟩ σ H := h
theorem s_next (h : na σ H) : tNext ⟨na, rt, bk, ct⟩ σ H := h
theorem s_if (h : c σ H fun b H1 => if b = true then t D σ H1 else u D σ H1) : tIfS c t u D σ H := h
theorem s_ret (h : te σ H rt) : tRet te ⟨na, rt, bk, ct⟩ σ H := h
theorem s_retN (h : rt .non H) : tRetN ⟨na, rt, bk, ct⟩ σ H := h
theorem s_drop (h : te σ H fun _ H1 => na σ H1) : tDrop te ⟨na, rt, bk, ct⟩ σ H := h
theorem s_asg (h : te σ H fun x H1 => tg x σ H1 na) : tAsg te tg ⟨na, rt, bk, ct⟩ σ H := h
theorem s_brk (h : bk σ H) : tBreak ⟨na, rt, bk, ct⟩ σ H := h
theorem s_cont (h : ct σ H) : tCont ⟨na, rt, bk, ct⟩ σ H := h
theorem s_gname {R : L2.St → Hp → Prop} (h : R (σ.set i (some v)) H) : gName i v σ H R := h
theorem s_var (h : σ[i]? = some (some v)) (q : Q v H) : tVar i σ H Q := ⟨v, h, q⟩
theorem s_c (q : Q v H) : tC v σ H Q := q
theorem s_op {r : R2} (h : ta σ H fun x H1 => tb σ H1 fun y H2 => r x y H2 Q) : tOp r ta tb σ H Q := h
theorem s_un {r : V → Hp → VK → Prop} (h : ta σ H fun x H1 => r x H1 Q) : tUn r ta σ H Q := h
theorem s_neg {n : Int} (q : Q (.int (-n)) H) : rU (fun i => .int (-i)) (.int n) H Q := ⟨n, rfl, q⟩
theorem s_test {R : Bool → Hp → Prop} (h : te σ H fun x H' => ∃ k, x = .bl k ∧ R k H') : tTest te σ H R := h
theorem s_tb {R : Bool → Hp → Prop} (h : te σ H fun x H' => ∃ k, x = .bl k ∧ R k H') : tB te σ H R := h
theorem s_bl {R : Bool → Prop} {b : Bool} (h : R b) : ∃ k, V.bl b = .bl k ∧ R k := ⟨b, rfl, h⟩
theorem s_not {R : Bool → Hp → Prop} (h : c σ H fun b H1 => R (!b) H1) : tNot c σ H R := h
theorem s_and {R : Bool → Hp → Prop} (h : c σ H fun b H1 => if b = true then d σ H1 R else R false H1) : tAnd c d σ H R := h
theorem s_or {R : Bool → Hp → Prop} (h : c σ H fun b H1 => if b = true then R true H1 else d σ H1 R) : tOr c d σ H R := h
theorem s_yes {R : Bool → Hp → Prop} (h : R true H) : tYes σ H R := h
theorem s_ifx (h : c σ H fun b H1 => if b = true then ta σ H1 Q else tb σ H1 Q) : tIf c ta tb σ H Q := h
theorem s_andV (h : ta σ H fun x H1 => ∃ c, x = .bl c ∧ if c = true then tb σ H1 Q else Q (.bl false) H1) : tAndV ta tb σ H Q := h
theorem s_orV (h : ta σ H fun x H1 => ∃ c, x = .bl c ∧ if c = true then Q (.bl true) H1 else tb σ H1 Q) : tOrV ta tb σ H Q := h
theorem s_notV (h : ta σ H fun x H1 => ∃ c, x = .bl c ∧ Q (.bl (!c)) H1) : tNotV ta σ H Q := h
theorem s_chain {r r' : R2} {tc : TE} (h : ta σ H fun x H1 => tb σ H1 fun y H2 => r x y H2 fun z H3 => ∃ k, z = .bl k ∧ (if k = true then tc σ H3 fun w' H4 => r' y w' H4 Q else Q (.bl false) H3)) : tChain r r' ta tb tc σ H Q := h
theorem s_nil {R : List V → Hp → Prop} (h : R [] H) : tNil σ H R := h
theorem s_cons {tr : TA} {R : List V → Hp → Prop} (h : te σ H fun x H1 => tr σ H1 fun xs H2 => R (x :: xs) H2) : tCons te tr σ H R := h
theorem s_lst {tr : TA} (h : tr σ H fun xs H1 => xs.length ≤ sizeLine ∧ ∀ p, H1 p = none → Q (.ref p) (upd H1 p (.lst xs))) : tLst tr σ H Q := h
theorem s_tup {tr : TA} (h : tr σ H fun xs H1 => xs.length ≤ sizeLine ∧ ∀ p, H1 p = none → Q (.ref p) (upd H1 p (.tup xs))) : tTup tr σ H Q := h
theorem s_cb {r : List V → Hp → VK → Prop} {tr : TA} (h : tr σ H fun vs H1 => r vs H1 Q) : tCB r tr σ H Q := h
theorem s_call {sp : Sp} {E : XK} {tr : TA} (h : tr σ H fun vs H1 => sp vs H1 Q E) : tCall sp [] E tr σ H Q := by
  show tr σ H fun vs H1 => sp (vs ++ []) H1 Q E
  have e : (fun vs H1 => sp (vs ++ []) H1 Q E) = fun vs H1 => sp vs H1 Q E := by funext vs H1; rw [List.append_nil]
  rw [e]
  exact h
def mRecv (C : Addr) (m : Str) (R : V → Hp → Prop) (x : V) (H1 : Hp) : Prop := ∃ a dx fs, x = .ref a ∧ H1 a = some (.ins C dx fs) ∧ fs.lookup m = none ∧ R x H1
theorem s_meth {C : Addr} {m : Str} {sp : Sp} {E : XK} {tr : TA} (h : ta σ H fun x H1 => mRecv C m (fun x H1 => tr σ H1 fun vs H2 => sp (x :: vs) H2 Q E) x H1) : tMeth C m sp [] E ta tr σ H Q := by
  have e : (fun x H1 => ∃ a dx fs, x = V.ref a ∧ H1 a = some (.ins C dx fs) ∧ fs.lookup m = none ∧ tr σ H1 fun vs H2 => sp (x :: (vs ++ [])) H2 Q E) = fun x H1 => mRecv C m (fun x H1 => tr σ H1 fun vs H2 => sp (x :: vs) H2 Q E) x H1 := by
    funext x H1
    simp only [List.append_nil, mRecv]
  show ta σ H fun x H1 => ∃ a dx fs, x = V.ref a ∧ H1 a = some (.ins C dx fs) ∧ fs.lookup m = none ∧ tr σ H1 fun vs H2 => sp (x :: (vs ++ [])) H2 Q E
  rw [e]
  exact h
/-- the receiver is known -/
theorem s_recv {C a dx : Addr} {m : Str} {fs : List (Str × V)} {R : V → Hp → Prop} (h1 : H a = some (.ins C dx fs)) (h2 : fs.lookup m = none) (q : R (.ref a) H) : mRecv C m R (.ref a) H := ⟨a, dx, fs, rfl, h1, h2, q⟩
theorem s_make {C : Addr} {sp : Sp} {E : XK} {tr : TA} (h : tr σ H fun vs H1 => ∀ x dx, H1 x = none → H1 dx = none → dx ≠ x → sp (.ref x :: vs) (upd (upd H1 dx (.own x)) x (.ins C dx [])) (fun v H2 => v = .non ∧ Q (.ref x) H2) E) : tMake C sp [] E tr σ H Q := by
  have e : (fun vs H1 => ∀ x dx, H1 x = none → H1 dx = none → dx ≠ x → sp (.ref x :: (vs ++ [])) (upd (upd H1 dx (.own x)) x (.ins C dx [])) (fun v H2 => v = .non ∧ Q (.ref x) H2) E) = fun vs H1 => ∀ x dx, H1 x = none → H1 dx = none → dx ≠ x → sp (.ref x :: vs) (upd (upd H1 dx (.own x)) x (.ins C dx [])) (fun v H2 => v = .non ∧ Q (.ref x) H2) E := by
    funext vs H1
    simp only [List.append_nil]
  show tr σ H fun vs H1 => ∀ x dx, H1 x = none → H1 dx = none → dx ≠ x → sp (.ref x :: (vs ++ [])) (upd (upd H1 dx (.own x)) x (.ins C dx [])) (fun v H2 => v = .non ∧ Q (.ref x) H2) E
  rw [e]
  exact h
theorem s_I0 {g : Int → Int → V} {n m : Int} (q : Q (g n m) H) : rI0 g (.int n) (.int m) H Q := ⟨n, m, rfl, rfl, q⟩
theorem s_I {C : Int → Int → Prop} {g : Int → Int → V} {n m : Int} (hc : C n m) (q : Q (g n m) H) : rI C g (.int n) (.int m) H Q := ⟨n, m, rfl, rfl, hc, q⟩
theorem s_eqS (hs : scal x y = true) (q : Q (.bl (decide (x = y))) H) : rEqU K x y H Q := by unfold rEqU; rw [if_pos hs]; exact q
theorem s_neS (hs : scal x y = true) (q : Q (.bl (!decide (x = y))) H) : rNeU K x y H Q := by unfold rNeU; rw [if_pos hs]; exact q
theorem s_eqNil {p q' : Addr} {xs : List V} (hp : H p = some (.lst xs)) (hq : H q' = some (.lst [])) (q : Q (.bl xs.isEmpty) H) : rEqU K (.ref p) (.ref q') H Q := by
  unfold rEqU; rw [if_neg (by simp [scal])]; simp only [hp, hq]; exact q
theorem s_neNil {p q' : Addr} {xs : List V} (hp : H p = some (.lst xs)) (hq : H q' = some (.lst [])) (q : Q (.bl (!xs.isEmpty)) H) : rNeU K (.ref p) (.ref q') H Q := by
  unfold rNeU; rw [if_neg (by simp [scal])]; simp only [hp, hq]; exact q
theorem s_isN {b : Bool} (hb : decide (x = .non) = b) (q : Q (.bl b) H) : rIsN x .non H Q := ⟨rfl, by rw [hb]; exact q⟩
theorem s_notN {b : Bool} (hb : decide (x = .non) = b) (q : Q (.bl (!b)) H) : rNotN x .non H Q := ⟨rfl, by rw [hb]; exact q⟩
theorem s_addI {n m : Int} (q : Q (.int (n + m)) H) : rAddU (.int n) (.int m) H Q := q
theorem s_addS {a b : Str} (hl : a.length + b.length ≤ sizeLine) (q : Q (.str (a ++ b)) H) : rAddU (.str a) (.str b) H Q := ⟨hl, q⟩
theorem s_addL {p r : Addr} {xs ys : List V} (hp : H p = some (.lst xs)) (hq : H r = some (.lst ys)) (hl : xs.length + ys.length ≤ sizeLine) (q : ∀ z, H z = none → Q (.ref z) (upd H z (.lst (xs ++ ys)))) : rAddU (.ref p) (.ref r) H Q := by
  simp only [rAddU, hp, hq]
  exact ⟨hl, q⟩
theorem s_mulI {n m : Int} (hc : CMulW n m) (q : Q (.int (n * m)) H) : rMulU (.int n) (.int m) H Q := ⟨hc, q⟩
theorem s_mulL {p : Addr} {xs : List V} {k : Int} (hp : H p = some (.lst xs)) (h1 : -(2 ^ 63) ≤ k) (h2 : k < 2 ^ 63) (h3 : xs.length * k.toNat ≤ sizeLine) (q : ∀ z, H z = none → Q (.ref z) (upd H z (.lst (List.replicate k.toNat xs).flatten))) : rMulU (.ref p) (.int k) H Q := by
  simp only [rMulU, hp]
  exact ⟨h1, h2, h3, q⟩
theorem s_ixL {p : Addr} {xs : List V} {n : Int} (hp : H p = some (.lst xs)) (ha : atI xs n = some v) (q : Q v H) : rIxU (.ref p) (.int n) H Q := by
  simp only [rIxU, hp]
  exact ⟨v, ha, q⟩
theorem s_ixT {p : Addr} {xs : List V} {n : Int} (hp : H p = some (.tup xs)) (ha : atI xs n = some v) (q : Q v H) : rIxU (.ref p) (.int n) H Q := by
  simp only [rIxU, hp]
  exact ⟨v, ha, q⟩
theorem s_ixS {z : Str} {n : Int} {k : Nat} (hz : z.length ≤ sizeLine) (ha : atI z.cps.toList n = some k) (q : Q (.str ⟨#[k]⟩) H) : rIxU (.str z) (.int n) H Q := ⟨hz, k, ha, q⟩
theorem s_sl {r : V → Option Int → Option Int → Hp → VK → Prop} {tl th : TO} (h : te σ H fun x H1 => tl σ H1 fun l H2 => th σ H2 fun u H3 => r x l u H3 Q) : tSl r te tl th σ H Q := h
theorem s_po0 {R : Option Int → Hp → Prop} (h : R none H) : tNoPart σ H R := h
theorem s_po1 {R : Option Int → Hp → Prop} (h : te σ H fun x H1 => ∃ i, x = .int i ∧ R (some i) H1) : tPart te σ H R := h
theorem s_int {R : Int → Prop} {n : Int} (h : R n) : ∃ i, V.int n = .int i ∧ R i := ⟨n, rfl, h⟩
theorem s_slL {p : Addr} {xs : List V} {lo hi : Option Int} (hp : H p = some (.lst xs)) (q : ∀ z, H z = none → Q (.ref z) (upd H z (.lst (cutV xs lo hi)))) : rSlU (.ref p) lo hi H Q := by
  simp only [rSlU, hp]
  exact q
theorem s_slS {z : Str} {lo hi : Option Int} (hz : z.length ≤ sizeLine) (q : Q (.str (cutS z lo hi)) H) : rSlU (.str z) lo hi H Q := ⟨hz, q⟩
theorem s_inL {p : Addr} {xs : List V} {neg : Bool} (hp : H p = some (.lst xs)) (h1 : flatV x = true) (h2 : xs.all flatV = true) (q : Q (.bl (if neg then !inV x xs else inV x xs)) H) : rInU K neg x (.ref p) H Q := by
  simp only [rInU, hp]
  exact ⟨h1, h2, q⟩
theorem s_inT {p : Addr} {xs : List V} {neg : Bool} (hp : H p = some (.tup xs)) (h1 : flatV x = true) (h2 : xs.all flatV = true) (q : Q (.bl (if neg then !inV x xs else inV x xs)) H) : rInU K neg x (.ref p) H Q := by
  simp only [rInU, hp]
  exact ⟨h1, h2, q⟩
/-- a text in a list of texts -/
theorem s_inS {p : Addr} {z : Str} {l : List Str} (hp : H p = some (.lst (l.map V.str))) (q : Q (.bl (l.contains z)) H) : rInU K false (.str z) (.ref p) H Q := s_inL hp rfl (flat_strs _) (by rw [inV_strs]; exact q)
theorem s_ninS {p : Addr} {z : Str} {l : List Str} (hp : H p = some (.lst (l.map V.str))) (q : Q (.bl (!l.contains z)) H) : rInU K true (.str z) (.ref p) H Q := s_inL hp rfl (flat_strs _) (by rw [inV_strs]; exact q)
theorem s_inW {p : Addr} {z : Str} {l : List Str} (q : Q (.bl (l.contains z)) H) : rInW p (l.map V.str) (.str z) (.ref p) H Q := ⟨rfl, rfl, by rw [inV_strs]; exact q⟩
theorem s_lenS {z : Str} (hz : z.length ≤ sizeLine) (q : Q (.int z.length) H) : rLenU [.str z] H Q := ⟨hz, q⟩
theorem s_lenL {p : Addr} {xs : List V} (hp : H p = some (.lst xs)) (q : Q (.int xs.length) H) : rLenU [.ref p] H Q := by
  simp only [rLenU, hp]
  exact q
theorem s_lenT {p : Addr} {xs : List V} (hp : H p = some (.tup xs)) (q : Q (.int xs.length) H) : rLenU [.ref p] H Q := by
  simp only [rLenU, hp]
  exact q
theorem s_intI {n : Int} (q : Q (.int n) H) : rIntU [.int n] H Q := q
theorem s_intB {b : Bool} (q : Q (.int (if b then 1 else 0)) H) : rIntU [.bl b] H Q := q
theorem s_intS {z : Str} {n : Int} (h1 : PySem.intText? z = some n) (h2 : z.length ≤ 640) (q : Q (.int n) H) : rIntU [.str z] H Q := ⟨n, h1, h2, q⟩
theorem s_listL {p : Addr} {xs : List V} (hp : H p = some (.lst xs)) (q : ∀ z, H z = none → Q (.ref z) (upd H z (.lst xs))) : rListU [.ref p] H Q := by
  simp only [rListU, hp]
  exact q
theorem s_listT {p : Addr} {xs : List V} (hp : H p = some (.tup xs)) (q : ∀ z, H z = none → Q (.ref z) (upd H z (.lst xs))) : rListU [.ref p] H Q := by
  simp only [rListU, hp]
  exact q
theorem s_tupleL {p : Addr} {xs : List V} (hp : H p = some (.lst xs)) (q : ∀ z, H z = none → Q (.ref z) (upd H z (.tup xs))) : rTupleU [.ref p] H Q := by
  simp only [rTupleU, hp]
  exact q
theorem s_tupleT {p : Addr} {xs : List V} (hp : H p = some (.tup xs)) (q : Q (.ref p) H) : rTupleU [.ref p] H Q := by
  simp only [rTupleU, hp]
  exact q
theorem s_bm {T : String} {r : V → List V → Hp → VK → Prop} {tr : TA} (h : ta σ H fun x H1 => tyV K T x H1 ∧ tr σ H1 fun xs H2 => r x xs H2 Q) : tBM K T r ta tr σ H Q := h
theorem s_bm0 {T : String} {r : V → List V → Hp → VK → Prop} (h : ta σ H fun x H1 => tyV K T x H1 ∧ r x [] H1 Q) : tBM0 K T r ta σ H Q := h
theorem s_tyL {p : Addr} {xs : List V} {R : Prop} (hp : H p = some (.lst xs)) (h : R) : tyV K "list" (.ref p) H ∧ R := ⟨.inl ⟨rfl, _, SqL.of hp⟩, h⟩
theorem s_app {p : Addr} {xs : List V} (hp : H p = some (.lst xs)) (hl : xs.length < sizeLine) (q : Q .non (upd H p (.lst (xs ++ [v])))) : rAppU (.ref p) [v] H Q := by
  simp only [rAppU, hp]
  exact ⟨hl, q⟩
theorem s_fld {a C dx : Addr} {fs : List (Str × V)} {f : Str} (hp : H a = some (.ins C dx fs)) (hc : FldOk K C f) (hl : fs.lookup f = some v) (q : Q v H) : (fun x H1 => (match x with
  | V.ref a => (match H1 a with
    | some (HO.ins C dx fs) => FldOk K C f ∧ ∃ v, fs.lookup f = some v ∧ Q v H1
    | _ => False)
  | _ => False)) (V.ref a) H := by
  simp only [hp]
  exact ⟨hc, v, hl, q⟩
end
end Tr
namespace Tr
open PySem PySem.Spec PyProof.Rows L2
theorem get_same {H H' : Hp} {a : Addr} {o : HO} (S : Same H H') (h : H a = some o) : H' a = some o := S a o h
theorem upd_none {H : Hp} {a z : Addr} {o : HO} (h : upd H a o z = none) : z ≠ a ∧ H z = none := by
  by_cases e : z = a
  · rw [e, upd_same] at h
    cases h
  · rw [upd_ne e] at h
    exact ⟨e, h⟩
theorem sz_le {n : Nat} (h : n ≤ 100000) : n ≤ sizeLine := Nat.le_trans h (by decide)
theorem sz_lt {n : Nat} (h : n < 100000) : n < sizeLine := Nat.lt_of_lt_of_le h (by decide)
theorem ifT {b : Bool} {A B : Prop} (e : b = true) (h : A) : if b = true then A else B := by rw [if_pos e]; exact h
theorem ifF {b : Bool} {A B : Prop} (e : b = false) (h : B) : if b = true then A else B := by rw [if_neg (by rw [e]; decide)]; exact h
theorem ifB {b : Bool} {A B : Prop} (h1 : b = true → A) (h2 : b = false → B) : if b = true then A else B := by
  cases b
  · exact ifF rfl (h2 rfl)
  · exact ifT rfl (h1 rfl)
end Tr
namespace Tr
open PySem PySem.Spec PyProof.Rows L2
section
variable {σ : L2.St} {H : Hp} {Q : VK} {D : Ends} {ta tb te tv : TE} {v x y : V} {K : PySem.W.Frag}
theorem s_m1 {r : V → List V → Hp → VK → Prop} (h : ta σ H fun x H1 => (∃ a, x = .str a) ∧ te σ H1 fun y H2 => r x [y] H2 Q) : tM1 r ta te σ H Q := h
theorem s_isS {z : Str} {R : Prop} (h : R) : (∃ a, V.str z = .str a) ∧ R := ⟨⟨z, rfl⟩, h⟩
theorem s_isiSS {z : Str} (q : Q (.bl true) H) : rIsi K [.str z, .ty "str"] H Q := ⟨_, _, _, _, true, rfl, .ty _, .base (.str z), kit_ty (by decide +kernel), q⟩
theorem s_isiLT {p tp : Addr} {xs : List V} (hp : H p = some (.lst xs)) (ht : H tp = some (.tup [.ty "list", .ty "tuple"])) (q : Q (.bl true) H) : rIsiT K [.ref p, .ref tp] H Q :=
  ⟨_, tp, _, .type "list", [.type "list", .type "tuple"], true, rfl, ht, .cons (.ty _) (.cons (.ty _) .nil), .base (.lst hp), by rfl, q⟩
theorem s_split {z b : Str} (h1 : (b.length == 0) = false) (h2 : z.length + 2 ≤ sizeLine) (q : ∀ p, H p = none → Q (.ref p) (upd H p (.lst ((Txt.split z b).map V.str)))) :
    ∃ a b', V.str z = V.str a ∧ [V.str b] = [V.str b'] ∧ (b'.length == 0) = false ∧ a.length + 2 ≤ sizeLine ∧ rNewStrs (Txt.split a b') H Q := ⟨z, b, rfl, rfl, h1, h2, q⟩
end
end Tr
namespace Tr
open PySem L2
theorem s_sz {n : Nat} {R : Prop} (h : n ≤ 1000) (q : R) : n ≤ sizeLine ∧ R := ⟨Nat.le_trans h (by decide), q⟩
end Tr
namespace Tr
open PySem PySem.Spec PyProof.Rows L2
section
variable {σ : L2.St} {H : Hp} {Q : VK} {D : Ends} {K : PySem.W.Frag}
/-- for i, x in enumerate(xs) -/
theorem s_forEnum {p : Addr} {xs : List V} {g : TG} {tb : TS} {te : TE} {na : L2.St → Hp → Prop} {rt : VK} {bk ct : L2.St → Hp → Prop} (h1 : te σ H fun v H1 => v = .ref p ∧ H1 = H) (hm : ∀ Q : VK, (te σ H fun v H1 => v = .ref p ∧ H1 = H) → Q (.ref p) H → te σ H Q) (hp : H p = some (.lst xs)) (Pv : Nat → L2.St → Hp → Prop) (h0 : Pv 0 σ H)
    (hG : ∀ i σ H, i ≤ xs.length → Pv i σ H → H p = some (.lst xs))
    (hs : ∀ i x T σ H, xs[i]? = some x → Pv i σ H → H T = none → g (.ref T) σ (upd H T (.tup [.int (i : Nat), x])) fun σ2 H2 => tb ⟨Pv (i + 1), rt, na, Pv (i + 1)⟩ σ2 H2)
    (hd : ∀ σ H, Pv xs.length σ H → na σ H) : tFor (iEnum K (tCons te tNil)) g tb ⟨na, rt, bk, ct⟩ σ H := by
  refine hm _ h1 ⟨p, xs, rfl, SqL.of hp, ?_⟩
  refine for_it (D := ⟨na, rt, bk, ct⟩) (walk_enum (xs := xs)) Pv h0 (fun i σ H hi pv => SqL.of (hG i σ H hi pv)) ?_ hd
  rintro i x σ H H' hi pv ⟨T, x1, y1, rfl, hT, rfl, e1, e2⟩
  cases e1
  exact hs i y1 T σ H e2 pv hT
theorem s_forEnumV {p : Addr} {xs : List V} {g : TG} {tb : TS} {j : Nat} {na : L2.St → Hp → Prop} {rt : VK} {bk ct : L2.St → Hp → Prop} (hv : σ[j]? = some (some (.ref p))) (hp : H p = some (.lst xs)) (Pv : Nat → L2.St → Hp → Prop) (h0 : Pv 0 σ H)
    (hG : ∀ i σ H, i ≤ xs.length → Pv i σ H → H p = some (.lst xs))
    (hs : ∀ i x T σ H, xs[i]? = some x → Pv i σ H → H T = none → g (.ref T) σ (upd H T (.tup [.int (i : Nat), x])) fun σ2 H2 => tb ⟨Pv (i + 1), rt, na, Pv (i + 1)⟩ σ2 H2)
    (hd : ∀ σ H, Pv xs.length σ H → na σ H) : tFor (iEnum K (tCons (tVar j) tNil)) g tb ⟨na, rt, bk, ct⟩ σ H :=
  s_forEnum ⟨_, hv, rfl, rfl⟩ (fun Q _ q => ⟨_, hv, q⟩) hp Pv h0 hG hs hd
/-- for x in xs, xs what te gives, a list that stands in H -/
theorem s_forList {p : Addr} {xs : List V} {g : TG} {tb : TS} {te : TE} {na : L2.St → Hp → Prop} {rt : VK} {bk ct : L2.St → Hp → Prop} (Pv : Nat → L2.St → Hp → Prop) (h0 : Pv 0 σ H) (hp : H p = some (.lst xs))
    (hG : ∀ i σ H, i ≤ xs.length → Pv i σ H → H p = some (.lst xs))
    (hs : ∀ i x σ H, xs[i]? = some x → Pv i σ H → g x σ H fun σ2 H2 => tb ⟨Pv (i + 1), rt, na, Pv (i + 1)⟩ σ2 H2)
    (hd : ∀ σ H, Pv xs.length σ H → na σ H) :
    ∃ W : Nat → Nat → L2.St → Hp → Prop, (∃ m, W 0 m σ H) ∧ ∀ i m σ H, W i m σ H →
      ((Itl K p).stop i H ∧ na σ H) ∨ ((Itl K p).go i H ∧ ∃ N : L2.St → Hp → Prop, (∀ σ' H', N σ' H' → ∃ m', m' < m ∧ W (i + 1) m' σ' H') ∧ ∀ x H', (Itl K p).yld i H x H' → g x σ H' fun σ2 H2 => tb ⟨N, rt, na, N⟩ σ2 H2) :=
  for_list (K := K) (D := ⟨na, rt, bk, ct⟩) Pv h0 (fun i σ H hi pv => SqL.of (hG i σ H hi pv)) hs hd
theorem s_gtup2 {T : Addr} {x y : V} {i j n : Nat} {R : L2.St → Hp → Prop} (hT : H T = some (.tup [x, y])) (hn : 2 = n) (q : R ((σ.set i (some x)).set j (some y)) H) : gTupU n (gCons (gName i) (gCons (gName j) gNil)) (.ref T) σ H R := by
  subst hn
  simp only [gTupU, hT]
  exact ⟨rfl, _, _, rfl, _, _, rfl, rfl, q⟩
theorem s_gtup3 {T : Addr} {x y z : V} {i j k n : Nat} {R : L2.St → Hp → Prop} (hT : H T = some (.tup [x, y, z])) (hn : 3 = n) (q : R (((σ.set i (some x)).set j (some y)).set k (some z)) H) : gTupU n (gCons (gName i) (gCons (gName j) (gCons (gName k) gNil))) (.ref T) σ H R := by
  subst hn
  simp only [gTupU, hT]
  exact ⟨rfl, _, _, rfl, _, _, rfl, _, _, rfl, rfl, q⟩
end
end Tr
namespace Tr
open PySem PySem.Spec PyProof.Rows L2
section
variable {H : Hp} {Q : VK} {K : PySem.W.Frag}
/-- a text in a written tuple of texts that was just laid -/
theorem s_inTS {p : Addr} {z : Str} {l : List Str} (hp : H p = some (.tup (l.map V.str))) (q : Q (.bl (l.contains z)) H) : rInU K false (.str z) (.ref p) H Q := s_inT hp rfl (flat_strs _) (by rw [inV_strs]; exact q)
theorem s_ninTS {p : Addr} {z : Str} {l : List Str} (hp : H p = some (.tup (l.map V.str))) (q : Q (.bl (!l.contains z)) H) : rInU K true (.str z) (.ref p) H Q := s_inT hp rfl (flat_strs _) (by rw [inV_strs]; exact q)
theorem contains2 (z a b : Str) : [a, b].contains z = decide (z = a ∨ z = b) := by simp [List.contains_cons, Bool.decide_or]
theorem dec_str (a b : Str) : decide (V.str a = V.str b) = decide (a = b) := decide_eq_decide.mpr ⟨fun e => by injection e, fun e => by rw [e]⟩
theorem dec_int (a b : Int) : decide (V.int a = V.int b) = decide (a = b) := decide_eq_decide.mpr ⟨fun e => by injection e, fun e => by rw [e]⟩
theorem split_at {α : Type} {l : List α} {i : Nat} {z : α} (h : l[i]? = some z) : l = l.take i ++ z :: l.drop (i + 1) := by
  obtain ⟨hi, e⟩ := List.getElem?_eq_some_iff.mp h
  have e2 := List.drop_eq_getElem_cons hi
  rw [e] at e2
  rw [← e2, List.take_append_drop]
theorem str_at {l : List Str} {i : Nat} {x : V} (hx : (l.map V.str)[i]? = some x) : ∃ z, l[i]? = some z ∧ x = .str z := by
  rw [List.getElem?_map] at hx
  cases e : l[i]? with
  | none => rw [e] at hx; cases hx
  | some z => rw [e] at hx; exact ⟨z, rfl, (Option.some.inj hx).symm⟩
end
end Tr
namespace Tr
open PySem PySem.Spec PyProof.Rows L2
section
variable {σ : L2.St} {H : Hp} {Q : VK} {K : PySem.W.Frag} {ta tv : TE} {f : Str} {v : V} {na : L2.St → Hp → Prop} {rt : VK} {bk ct : L2.St → Hp → Prop}
def mFld (K : PySem.W.Frag) (f : Str) (x : V) (H1 : Hp) (Q : VK) : Prop := match x with
  | .ref a => (match H1 a with
    | some (.ins C dx fs) => FldOk K C f ∧ ∃ v, fs.lookup f = some v ∧ Q v H1
    | _ => False)
  | _ => False
theorem s_fldU (h : ta σ H fun x H1 => mFld K f x H1 Q) : tFldU K ta f σ H Q := h
theorem s_fldM {a C dx : Addr} {fs : List (Str × V)} (hp : H a = some (.ins C dx fs)) (hc : FldOk K C f) (hl : fs.lookup f = some v) (q : Q v H) : mFld K f (.ref a) H Q := by
  simp only [mFld, hp]
  exact ⟨hc, v, hl, q⟩
def mSet (K : PySem.W.Frag) (f : Str) (x y : V) (H2 : Hp) (R : Hp → Prop) : Prop := match x with
  | .ref a => (match H2 a with
    | some (.ins C dx fs) => FldOk K C f ∧ fs.length < 1000 ∧ R (upd H2 a (.ins C dx (putF f y fs)))
    | _ => False)
  | _ => False
theorem s_sfldU (h : tv σ H fun y H1 => ta σ H1 fun x H2 => mSet K f x y H2 fun H3 => na σ H3) : sFldU K ta tv f ⟨na, rt, bk, ct⟩ σ H := h
theorem s_setM {a C dx : Addr} {fs fs' : List (Str × V)} {y : V} {R : Hp → Prop} (hp : H a = some (.ins C dx fs)) (hc : FldOk K C f) (hl : fs.length < 1000) (he : putF f y fs = fs') (q : R (upd H a (.ins C dx fs'))) : mSet K f (.ref a) y H R := by
  simp only [mSet, hp]
  exact ⟨hc, hl, by rw [he]; exact q⟩
end
end Tr
set_option maxHeartbeats 1000000
namespace Tr
open PySem PySem.Spec PyProof.Rows L2
section
variable {X : Cx}
def PPt (X : Cx) (p : Pattern) (r : Str → Bool) : Prop := ∀ (pins : List (Addr × Obj)) (s : Shared) (σ : L2.St) (H : Hp) (z : Str) (u : Value) (Q : Option (List (Str × Value)) → Shared → Prop), Inv X pins σ H s → RelV (.str z) u →
  (∀ s', Inv X pins σ H s' → Q (if r z = true then some [] else none) s') → wpAny (model X.prog X.w) X.A (matchPattern p X.env u) Q X.xe s
theorem ppt_val {w : Str} {k : Nat} {p1 p2 : Pos} : PPt X (.MatchValue (.Constant (.str w) k p1) p2) (fun z => decide (z = w)) := by
  intro pins s σ H z u Q I ru hq
  refine wpAny_matchPattern_Value ?_
  refine thn ((pe_str (X := X)).run pins s σ H (fun v H1 => v = .str w ∧ H1 = H) I ⟨rfl, rfl⟩) fun x s1 hx => ?_
  obtain ⟨v, H1, I1, rx, rfl, rfl⟩ := hx
  refine thn (op_eq pins s1 σ _ (.str z) (.str w) u x (fun v H1 => v = .bl (decide (V.str z = V.str w)) ∧ H1 = _) I1 ru rx ⟨rfl, rfl, rfl⟩) fun c s2 hc => ?_
  obtain ⟨v, H2, I2, rc, rfl, rfl⟩ := hc
  have ec : c = Value.bool (decide (V.str z = V.str w)) := rc
  subst ec
  refine wpAny_truthy_bool ?_
  have := hq s2 I2
  rw [dec_str]
  by_cases e : z = w
  · simpa [e] using this
  · simpa [e] using this
def PFs (X : Cx) (ps : List Pattern) (r : Str → Bool) : Prop := ∀ (pins : List (Addr × Obj)) (s : Shared) (σ : L2.St) (H : Hp) (z : Str) (u : Value) (Q : Option (List (Str × Value)) → Shared → Prop), Inv X pins σ H s → RelV (.str z) u →
  (∀ s', Inv X pins σ H s' → Q (if r z = true then some [] else none) s') → wpAny (model X.prog X.w) X.A (matchFirst ps X.env u) Q X.xe s
theorem pfs_nil : PFs X [] (fun _ => false) := by
  intro pins s σ H z u Q I ru hq
  exact wpAny_matchFirst_nil (hq s I)
theorem pfs_cons {p : Pattern} {ps : List Pattern} {r r' : Str → Bool} (h : PPt X p r) (h' : PFs X ps r') : PFs X (p :: ps) (fun z => r z || r' z) := by
  intro pins s σ H z u Q I ru hq
  refine wpAny_matchFirst_cons (h pins s σ H z u _ I ru fun s' I' => ?_)
  cases e : r z with
  | true =>
    rw [if_pos rfl]
    simpa [e] using hq s' I'
  | false =>
    rw [if_neg (by decide)]
    refine h' pins s' σ H z u Q I' ru fun s2 I2 => ?_
    simpa [e] using hq s2 I2
theorem ppt_or {ps : List Pattern} {r : Str → Bool} {pos : Pos} (h : PFs X ps r) (hn : (namesOfAll (ps.take 1)) = [] := by rfl) : PPt X (.MatchOr ps pos) r := by
  intro pins s σ H z u Q I ru hq
  refine wpAny_matchPattern_Or (h pins s σ H z u _ I ru fun s' I' => ?_)
  have := hq s' I'
  cases e : r z with
  | true =>
    rw [if_pos rfl]
    rw [e, if_pos rfl] at this
    simpa [hn] using this
  | false =>
    rw [if_neg (by decide)]
    rw [e, if_neg (by decide)] at this
    exact this
abbrev TM := Str → TS
structure PM (X : Cx) (cs : List MatchCase) (t : TM) : Prop where
  run : ∀ (first : Bool) (pins : List (Addr × Obj)) (s : Shared) (σ : L2.St) (H : Hp) (D : Ends) (z : Str) (u : Value), Inv X pins σ H s → RelV (.str z) u → t z D σ H → wpAny (model X.prog X.w) X.A (matchCases cs X.env u first) (SP X pins D) X.xe s
def mNil : TM := fun _ D σ H => D.nx σ H
theorem pm_nil : PM X [] mNil := ⟨fun _ _ s σ H D z u I _ h => wpAny_matchCases_nil ⟨σ, H, I, h⟩⟩
def mCons (r : Str → Bool) (t : TS) (m : TM) : TM := fun z D σ H => if r z = true then t D σ H else m z D σ H
theorem pm_cons {p : Pattern} {body : List Stmt} {rest : List MatchCase} {r : Str → Bool} {t : TS} {m : TM} (hp : PPt X p r) (hb : PSs X body t) (hr : PM X rest m) : PM X (⟨p, none, body⟩ :: rest) (mCons r t m) := by
  refine ⟨fun first pins s σ H D z u I ru h => ?_⟩
  refine wpAny_matchCases_cons (hp pins s σ H z u _ I ru fun s' I' => ?_)
  unfold mCons at h
  cases e : r z with
  | true =>
    rw [e, if_pos rfl] at h
    rw [if_pos rfl]
    exact wpAny_assignInOrder_none (hb.run pins s' σ H D I' h)
  | false =>
    rw [e, if_neg (by decide)] at h
    rw [if_neg (by decide)]
    exact hr.run false pins s' σ H D z u I' ru h
def mAny (t : TS) : TM := fun _ D σ H => t D σ H
theorem pm_any {body : List Stmt} {rest : List MatchCase} {t : TS} {pos : Pos} (hb : PSs X body t) : PM X (⟨.MatchAs none none pos, none, body⟩ :: rest) (mAny t) := by
  refine ⟨fun first pins s σ H D z u I ru h => ?_⟩
  refine wpAny_matchCases_cons (wpAny_matchPattern_Capture ?_)
  exact wpAny_assignInOrder_none (hb.run pins s σ H D I h)
theorem pm_one {body : List Stmt} {rest : List MatchCase} {w : Str} {k : Nat} {p1 p2 : Pos} {t : TS} {m : TM} (hb : PSs X body t) (hr : PM X rest m) : PM X (⟨.MatchValue (.Constant (.str w) k p1) p2, none, body⟩ :: rest) (mCons (fun z => decide (z = w)) t m) :=
  pm_cons ppt_val hb hr
theorem pm_or2 {body : List Stmt} {rest : List MatchCase} {w1 w2 : Str} {k1 k2 : Nat} {p1 p2 p3 p4 pos : Pos} {t : TS} {m : TM} (hb : PSs X body t) (hr : PM X rest m) :
    PM X (⟨.MatchOr [.MatchValue (.Constant (.str w1) k1 p1) p2, .MatchValue (.Constant (.str w2) k2 p3) p4] pos, none, body⟩ :: rest) (mCons (fun z => decide (z = w1) || (decide (z = w2) || false)) t m) :=
  pm_cons (ppt_or (pfs_cons ppt_val (pfs_cons ppt_val pfs_nil))) hb hr
theorem pm_or3 {body : List Stmt} {rest : List MatchCase} {w1 w2 w3 : Str} {k1 k2 k3 : Nat} {p1 p2 p3 p4 p5 p6 pos : Pos} {t : TS} {m : TM} (hb : PSs X body t) (hr : PM X rest m) :
    PM X (⟨.MatchOr [.MatchValue (.Constant (.str w1) k1 p1) p2, .MatchValue (.Constant (.str w2) k2 p3) p4, .MatchValue (.Constant (.str w3) k3 p5) p6] pos, none, body⟩ :: rest) (mCons (fun z => decide (z = w1) || (decide (z = w2) || (decide (z = w3) || false))) t m) :=
  pm_cons (ppt_or (pfs_cons ppt_val (pfs_cons ppt_val (pfs_cons ppt_val pfs_nil)))) hb hr
theorem pm_or4 {body : List Stmt} {rest : List MatchCase} {w1 w2 w3 w4 : Str} {k1 k2 k3 k4 : Nat} {p1 p2 p3 p4 p5 p6 p7 p8 pos : Pos} {t : TS} {m : TM} (hb : PSs X body t) (hr : PM X rest m) :
    PM X (⟨.MatchOr [.MatchValue (.Constant (.str w1) k1 p1) p2, .MatchValue (.Constant (.str w2) k2 p3) p4, .MatchValue (.Constant (.str w3) k3 p5) p6, .MatchValue (.Constant (.str w4) k4 p7) p8] pos, none, body⟩ :: rest) (mCons (fun z => decide (z = w1) || (decide (z = w2) || (decide (z = w3) || (decide (z = w4) || false)))) t m) :=
  pm_cons (ppt_or (pfs_cons ppt_val (pfs_cons ppt_val (pfs_cons ppt_val (pfs_cons ppt_val pfs_nil))))) hb hr
def sMatch (te : TE) (m : TM) : TS := fun D σ H => te σ H fun v H1 => match v with | .str z => m z D σ H1 | _ => False
theorem ps_match {e : Expr} {cs : List MatchCase} {te : TE} {m : TM} {pos : Pos} (he : PE X e te) (hm : PM X cs m) : PS X (.Match e cs pos) (sMatch te m) := by
  refine ⟨fun pins s σ H D I h => ?_⟩
  refine wpAny_Match (thn (he.run pins s σ H _ I h) fun u s1 hu => ?_)
  obtain ⟨v, H1, I1, rv, q⟩ := hu
  split at q
  · exact hm.run true pins s1 σ H1 D _ u I1 rv q
  · exact q.elim

theorem s_match {σ : L2.St} {H : Hp} {te : TE} {m : TM} {D : Ends} (h : te σ H fun v H1 => match v with | .str z => m z D σ H1 | _ => False) : sMatch te m D σ H := h
theorem s_mT {r : Str → Bool} {t : TS} {m : TM} {z : Str} {D : Ends} {σ : L2.St} {H : Hp} (e : r z = true) (h : t D σ H) : mCons r t m z D σ H := by unfold mCons; rw [if_pos e]; exact h
theorem s_mF {r : Str → Bool} {t : TS} {m : TM} {z : Str} {D : Ends} {σ : L2.St} {H : Hp} (e : r z = false) (h : m z D σ H) : mCons r t m z D σ H := by unfold mCons; rw [if_neg (by rw [e]; decide)]; exact h
def rPopU : V → List V → Hp → VK → Prop := fun x xs H Q => match x with
  | .ref l => (match H l with
    | some (.lst ys) => ∃ y, ys[ys.length - 1]? = some y ∧ xs = [] ∧ Q y (upd H l (.lst ys.dropLast))
    | _ => False)
  | _ => False
theorem uPop : MtR X "list.pop" rPopU := by
  intro pins s σ H x xs v us Q I rx rs h
  unfold rPopU at h
  split at h
  · split at h
    · rename_i hp
      obtain ⟨y, hy, rfl, q⟩ := h
      exact mt_pop pins s σ H _ _ v us Q I rx rs ⟨_, _, y, rfl, rfl, hp, hy, q⟩
    · exact h.elim
  · exact h.elim
theorem s_pop {H : Hp} {Q : VK} {l : Addr} {ys : List V} {y : V} (hp : H l = some (.lst ys)) (hy : ys[ys.length - 1]? = some y) (q : Q y (upd H l (.lst ys.dropLast))) : rPopU (.ref l) [] H Q := by
  simp only [rPopU, hp]
  exact ⟨y, hy, trivial, q⟩
def rExtU : V → List V → Hp → VK → Prop := fun x xs H Q => match x with
  | .ref l => (match xs with
    | [.ref b] => (match H l with
      | some (.lst ys) => (match H b with
        | some (.lst zs) => ys.length + zs.length ≤ sizeLine ∧ l ≠ b ∧ Q .non (upd H l (.lst (ys ++ zs)))
        | _ => False)
      | _ => False)
    | _ => False)
  | _ => False
theorem uExtend : MtR X "list.extend" rExtU := by
  intro pins s σ H x xs v us Q I rx rs h
  unfold rExtU at h
  split at h
  · split at h
    · split at h
      · rename_i hp
        split at h
        · rename_i hb
          exact mt_extend pins s σ H _ _ v us Q I rx rs ⟨_, _, _, _, rfl, rfl, hp, hb, h.1, h.2.2⟩
        · exact h.elim
      · exact h.elim
    · exact h.elim
  · exact h.elim
theorem s_ext {H : Hp} {Q : VK} {l b : Addr} {ys zs : List V} (hp : H l = some (.lst ys)) (hb : H b = some (.lst zs)) (hl : ys.length + zs.length ≤ sizeLine) (ne : l ≠ b) (q : Q .non (upd H l (.lst (ys ++ zs)))) : rExtU (.ref l) [.ref b] H Q := by
  simp only [rExtU, hp, hb]
  exact ⟨hl, ne, q⟩

theorem s_starT {σ : L2.St} {H : Hp} {K : PySem.W.Frag} {te : TE} {t : TA} {Q : List V → Hp → Prop} (h : te σ H fun y H1 => ∃ a xs, y = .ref a ∧ (SqT K H1 a xs ∨ SqL K H1 a xs) ∧ t σ H1 fun vs H2 => Q (xs ++ vs) H2) : StX.tStar K te t σ H Q := h
theorem s_starM {H : Hp} {K : PySem.W.Frag} {p : Addr} {xs : List V} {R : List V → Prop} (hp : H p = some (.tup xs)) (h : R xs) : ∃ a ys, V.ref p = .ref a ∧ (SqT K H a ys ∨ SqL K H a ys) ∧ R ys := ⟨p, xs, rfl, .inl (SqT.of hp), h⟩
end
end Tr
namespace Tr
open PySem PySem.Spec PyProof.Rows L2
section
variable {σ : L2.St} {H : Hp} {Q : VK} {K : PySem.W.Frag}
def LcGo (g : TG) (tt : TT) (te : TE) (vs : List Nat) (σ : L2.St) (Q : VK) (J : It) (H1 : Hp) : Prop := ∀ D, H1 D = none → ∃ W : Nat → Nat → Hp → Prop, (∃ m, W 0 m (upd H1 D (.lst []))) ∧ ∀ i m H, W i m H →
  (J.stop i H ∧ Q (.ref D) H) ∨ (J.go i H ∧ ∃ Nx : Hp → Prop, (∀ H', Nx H' → ∃ m', m' < m ∧ W (i + 1) m' H') ∧ ∀ x H', J.yld i H x H' → g x (wipe σ vs) H' fun σ2 H2 => wipe σ2 vs = wipe σ vs ∧ tt σ2 H2 fun b H3 =>
    if b = true then te σ2 H3 fun y H4 => ∃ acc, H4 D = some (.lst acc) ∧ acc.length < sizeLine ∧ Nx (upd H4 D (.lst (acc ++ [y]))) else Nx H3)
theorem s_lc {wi : TI} {g : TG} {tt : TT} {te : TE} {vs : List Nat} (h : wi σ H (LcGo g tt te vs σ Q)) : tLc wi g tt te vs σ H Q := h
def mList (K : PySem.W.Frag) (R : It → Hp → Prop) (x : V) (H1 : Hp) : Prop := ∃ a, x = .ref a ∧ (∃ xs, SqL K H1 a xs) ∧ R (Itl K a) H1
theorem s_ilist {tl : TE} {R : It → Hp → Prop} (h : tl σ H fun x H1 => mList K R x H1) : iList K tl σ H R := h
theorem s_lcM {α : Type} (ys : List α) (h : α → Option V) {p : Addr} {xs : List V} {g : TG} {tt : TT} {te : TE} {vs : List Nat} (hp : H p = some (.lst xs)) (hx : xs.length = ys.length) (hz : ys.length ≤ 100000)
    (hs : ∀ (i : Nat) (a : α) (x : V) (H2 : Hp) (R : VK) (R0 : Hp → Prop), ys[i]? = some a → xs[i]? = some x → Same H H2 → (∀ v, h a = some v → ∀ H4, Same H2 H4 → R v H4) → (h a = none → ∀ H3, Same H2 H3 → R0 H3) →
      g x (wipe σ vs) H2 fun σ2 H3 => wipe σ2 vs = wipe σ vs ∧ tt σ2 H3 fun b H4 => if b = true then te σ2 H4 R else R0 H4)
    (hd : ∀ D H', Same H H' → H D = none → H' D = some (.lst (ys.filterMap h)) → Q (.ref D) H') : mList K (LcGo g tt te vs σ Q) (.ref p) H := by
  refine ⟨p, rfl, ⟨xs, SqL.of hp⟩, fun D hD => ?_⟩
  refine lc_fm ys h (walk_list (xs := xs)) hx (sz_le hz) hD (fun H' s' => SqL.of (s' _ _ hp)) ?_ (fun H' s' hD' => hd D H' s' hD hD')
  rintro i b x H2 H' R R0 hb s2 ⟨rfl, hxx⟩ k1 k2
  exact hs i b x H' R R0 hb hxx s2 k1 k2
def ForGo (g : TG) (tb : TS) (D : Ends) (σ : L2.St) (J : It) (H1 : Hp) : Prop := ∃ W : Nat → Nat → L2.St → Hp → Prop, (∃ m, W 0 m σ H1) ∧ ∀ i m σ H, W i m σ H →
  (J.stop i H ∧ D.nx σ H) ∨ (J.go i H ∧ ∃ N : L2.St → Hp → Prop, (∀ σ' H', N σ' H' → ∃ m', m' < m ∧ W (i + 1) m' σ' H') ∧ ∀ x H', J.yld i H x H' → g x σ H' fun σ2 H2 => tb { D with nx := N, ct := N, bk := D.nx } σ2 H2)
theorem s_for {wi : TI} {g : TG} {tb : TS} {D : Ends} (h : wi σ H (ForGo g tb D σ)) : tFor wi g tb D σ H := h
theorem s_forL {p : Addr} {xs : List V} {g : TG} {tb : TS} {na : L2.St → Hp → Prop} {rt : VK} {bk ct : L2.St → Hp → Prop} (hp : H p = some (.lst xs)) (Pv : Nat → L2.St → Hp → Prop) (h0 : Pv 0 σ H)
    (hG : ∀ i σ H, i ≤ xs.length → Pv i σ H → H p = some (.lst xs))
    (hs : ∀ i x σ H, xs[i]? = some x → Pv i σ H → g x σ H fun σ2 H2 => tb ⟨Pv (i + 1), rt, na, Pv (i + 1)⟩ σ2 H2)
    (hd : ∀ σ H, Pv xs.length σ H → na σ H) : mList K (ForGo g tb ⟨na, rt, bk, ct⟩ σ) (.ref p) H :=
  ⟨p, rfl, ⟨xs, SqL.of hp⟩, for_list (K := K) (D := ⟨na, rt, bk, ct⟩) Pv h0 (fun i σ H hi pv => SqL.of (hG i σ H hi pv)) hs hd⟩
def mRng (R : It → Hp → Prop) (vs : List V) (H1 : Hp) : Prop := ∃ j : Int, vs = [.int j] ∧ -(2 ^ 62) ≤ j ∧ j < 2 ^ 62 ∧ R (Itr 0 j.toNat) H1
theorem s_irng {ta : TA} {R : It → Hp → Prop} (h : ta σ H fun vs H1 => mRng R vs H1) : iRng1 ta σ H R := h
theorem s_forR {n : Int} {g : TG} {tb : TS} {na : L2.St → Hp → Prop} {rt : VK} {bk ct : L2.St → Hp → Prop} (h0 : 0 ≤ n) (h1 : n ≤ 1000000) (Pv : Nat → L2.St → Hp → Prop) (p0 : Pv 0 σ H)
    (hs : ∀ (i : Nat) σ H, (i : Int) < n → Pv i σ H → g (.int (i : Int)) σ H fun σ2 H2 => tb ⟨Pv (i + 1), rt, na, Pv (i + 1)⟩ σ2 H2)
    (hd : ∀ σ H, Pv n.toNat σ H → na σ H) : mRng (ForGo g tb ⟨na, rt, bk, ct⟩ σ) [.int n] H := by
  refine ⟨n, rfl, by omega, by omega, for_range (lo := 0) (n := n.toNat) (D := ⟨na, rt, bk, ct⟩) Pv p0 (fun i σ H hi pv => ?_) hd⟩
  have e : (0 : Int) + (i : Int) = (i : Int) := Int.zero_add _
  rw [e]
  exact hs i σ H (by omega) pv
theorem s_lcR {n : Int} (h : Nat → Option V) {g : TG} {tt : TT} {te : TE} {vs : List Nat} (h0 : 0 ≤ n) (h1 : n ≤ 100000)
    (hs : ∀ (i : Nat) (H2 : Hp) (R : VK) (R0 : Hp → Prop), (i : Int) < n → Same H H2 → (∀ v, h i = some v → ∀ H4, Same H2 H4 → R v H4) → (h i = none → ∀ H3, Same H2 H3 → R0 H3) →
      g (.int (i : Int)) (wipe σ vs) H2 fun σ2 H3 => wipe σ2 vs = wipe σ vs ∧ tt σ2 H3 fun b H4 => if b = true then te σ2 H4 R else R0 H4)
    (hd : ∀ D H', Same H H' → H D = none → H' D = some (.lst ((List.range n.toNat).filterMap h)) → Q (.ref D) H') : mRng (LcGo g tt te vs σ Q) [.int n] H := by
  refine ⟨n, rfl, by omega, by omega, fun D hD => ?_⟩
  refine lc_fm (List.range n.toNat) h walk_range (by simp) (sz_le (by simp; omega)) hD (fun _ _ => trivial) ?_ (fun H' s' hD' => hd D H' s' hD hD')
  rintro i b x H2 H' R R0 hb s2 ⟨rfl, rfl⟩ k1 k2
  have hi : i < n.toNat := by
    have := (List.getElem?_eq_some_iff.mp hb).1
    simpa using this
  have eb : b = i := by
    have := (List.getElem?_eq_some_iff.mp hb).2
    simpa using this.symm
  subst eb
  have e : (0 : Int) + (b : Int) = (b : Int) := Int.zero_add _
  show g (V.int (0 + (b : Int))) (wipe σ vs) H' _
  rw [e]
  exact hs b H' R R0 (by omega) s2 k1 k2
end
theorem fm_some {α : Type} (f : α → V) : ∀ l : List α, l.filterMap (fun x => some (f x)) = l.map f
  | [] => rfl
  | x :: l => by simp [fm_some f l]
theorem s_any {H : Hp} {Q : VK} {p : Addr} {bs : List Bool} (hp : H p = some (.lst (bs.map V.bl))) (q : Q (.bl (bs.any id)) H) : rAnyU [.ref p] H Q := by
  simp only [rAnyU, hp]
  exact ⟨bs, rfl, q⟩
theorem s_all {H : Hp} {Q : VK} {p : Addr} {bs : List Bool} (hp : H p = some (.lst (bs.map V.bl))) (q : Q (.bl (bs.all id)) H) : rAllU [.ref p] H Q := by
  simp only [rAllU, hp]
  exact ⟨bs, rfl, q⟩
end Tr
set_option maxHeartbeats 1000000
namespace Tr
open PySem PySem.Spec PyProof.Rows L2
section
variable {σ : L2.St} {H : Hp} {Q : VK} {K : PySem.W.Frag}
/-- all that is no list stays -/
def KeepN (H H' : Hp) : Prop := ∀ x o, H x = some o → (∀ l, o ≠ .lst l) → H' x = some o
theorem KeepN.same {H H' : Hp} (s : Same H H') : KeepN H H' := fun x o h _ => s _ _ h
theorem KeepN.mut {H : Hp} {p : Addr} {l : List V} {o : HO} (hp : H p = some (.lst l)) : KeepN H (upd H p o) := fun x o' h hn => by
  rw [upd_ne (by rintro rfl; rw [hp] at h; exact hn l (Option.some.inj h).symm)]
  exact h
theorem KeepN.trans {H H' H'' : Hp} (a : KeepN H H') (b : KeepN H' H'') : KeepN H H'' := fun x o h hn => b _ _ (a _ _ h hn) hn
theorem s_lcE {α : Type} (ys : List α) (E : α → V → Hp → Prop) (hE : ∀ b v H H', E b v H → KeepN H H' → E b v H') {p : Addr} {xs : List V} {g : TG} {te : TE} {vs : List Nat} (hp : H p = some (.lst xs)) (hx : xs.length = ys.length) (hz : ys.length ≤ 100000)
    (hs : ∀ (i : Nat) (b : α) (x : V) (H2 : Hp) (R : VK), ys[i]? = some b → xs[i]? = some x → Same H H2 → (∀ v H4, Same H2 H4 → E b v H4 → R v H4) →
      g x (wipe σ vs) H2 fun σ2 H3 => wipe σ2 vs = wipe σ vs ∧ te σ2 H3 R)
    (hd : ∀ D us H', Same H H' → H D = none → H' D = some (.lst us) → us.length = ys.length → (∀ (i : Nat) (b : α) (v : V), ys[i]? = some b → us[i]? = some v → E b v H') → Q (.ref D) H') : mList K (LcGo g tYes te vs σ Q) (.ref p) H := by
  refine ⟨p, rfl, ⟨xs, SqL.of hp⟩, fun D hD => ?_⟩
  refine lc_it (walk_list (xs := xs)) (fun i H' => Same H H' ∧ ∃ us, H' D = some (.lst us) ∧ us.length = i ∧ ∀ (j : Nat) (b : α) (v : V), ys[j]? = some b → us[j]? = some v → E b v H') ⟨Same.new hD, [], upd_same, rfl, fun j b v _ h => by simp at h⟩ (fun i H' _ pv => SqL.of (pv.1 _ _ hp)) ?_ ?_
  · rintro i x H2 H' hi ⟨s2, us, hD2, hl, he⟩ ⟨rfl, hxx⟩
    obtain ⟨b, hb⟩ : ∃ b, ys[i]? = some b := ⟨_, List.getElem?_eq_getElem (by rw [← hx]; exact hi)⟩
    have := hs i b x H' (fun y H4 => ∃ acc, H4 D = some (.lst acc) ∧ acc.length < sizeLine ∧ (Same H (upd H4 D (.lst (acc ++ [y]))) ∧ ∃ us, upd H4 D (.lst (acc ++ [y])) D = some (.lst us) ∧ us.length = i + 1 ∧ ∀ (j : Nat) (b : α) (v : V), ys[j]? = some b → us[j]? = some v → E b v (upd H4 D (.lst (acc ++ [y]))))) hb hxx s2 ?_
    · have e : ∀ (a b : L2.St → Hp → Prop), (∀ σ H, a σ H = b σ H) → a = b := fun a b h => by funext σ H; exact h σ H
      have e2 : (fun σ2 H3 => wipe σ2 vs = wipe σ vs ∧ te σ2 H3 (fun y H4 => ∃ acc, H4 D = some (.lst acc) ∧ acc.length < sizeLine ∧ (Same H (upd H4 D (.lst (acc ++ [y]))) ∧ ∃ us, upd H4 D (.lst (acc ++ [y])) D = some (.lst us) ∧ us.length = i + 1 ∧ ∀ (j : Nat) (b : α) (v : V), ys[j]? = some b → us[j]? = some v → E b v (upd H4 D (.lst (acc ++ [y])))))) =
        (fun σ2 H3 => wipe σ2 vs = wipe σ vs ∧ tYes σ2 H3 fun b' H3 => if b' = true then te σ2 H3 (fun y H4 => ∃ acc, H4 D = some (.lst acc) ∧ acc.length < sizeLine ∧ (Same H (upd H4 D (.lst (acc ++ [y]))) ∧ ∃ us, upd H4 D (.lst (acc ++ [y])) D = some (.lst us) ∧ us.length = i + 1 ∧ ∀ (j : Nat) (b : α) (v : V), ys[j]? = some b → us[j]? = some v → E b v (upd H4 D (.lst (acc ++ [y]))))) else (Same H H3 ∧ ∃ us, H3 D = some (.lst us) ∧ us.length = i + 1 ∧ ∀ (j : Nat) (b : α) (v : V), ys[j]? = some b → us[j]? = some v → E b v H3)) := rfl
      rw [e2] at this
      exact this
    · intro v H4 s4 hv
      have hD4 := s4 _ _ hD2
      have k4 : KeepN H4 (upd H4 D (.lst (us ++ [v]))) := KeepN.mut hD4
      refine ⟨us, hD4, by rw [hl]; exact sz_lt (by omega), Same.mut (s2.trans s4) hD, us ++ [v], upd_same, by rw [List.length_append, hl]; rfl, fun j c u hc hu => ?_⟩
      by_cases hj : j < us.length
      · rw [List.getElem?_append_left hj] at hu
        exact hE _ _ _ _ (hE _ _ _ _ (he j c u hc hu) (KeepN.same s4)) k4
      · have hji : j = i := by
          have := (List.getElem?_eq_some_iff.mp hu).1
          simp at this
          omega
        subst hji
        rw [hb] at hc
        cases hc
        rw [← hl] at hu
        simp at hu
        subst hu
        exact hE _ _ _ _ hv k4
  · rintro H' ⟨s', us, h1, h2, h3⟩
    exact hd D us H' s' hD h1 (by rw [h2, hx]) h3
end
theorem s_dnewK {σ : L2.St} {H : Hp} {Q : VK} (h : ∀ p, H p = none → Q (.ref p) (upd H p (.dK []))) : tDNewK σ H Q := h
theorem nodup_ix {ad : List Addr} (nd : ad.Nodup) {i j : Nat} (hi : i < ad.length) (hj : j < ad.length) (e : ad[i] = ad[j]) : i = j := by
  rw [List.nodup_iff_pairwise_ne, List.pairwise_iff_getElem] at nd
  rcases Nat.lt_trichotomy i j with h | h | h
  · exact absurd e (nd i j hi hj h)
  · exact h
  · exact absurd e.symm (nd j i hj hi h)
def HasAll (H : Hp) (ad : List Addr) (os : List HO) : Prop := ad.length = os.length ∧ ∀ (i : Nat) (y : Addr) (o : HO), ad[i]? = some y → os[i]? = some o → H y = some o
theorem HasAll.at {H : Hp} {ad : List Addr} {os : List HO} (h : HasAll H ad os) (i : Nat) {y : Addr} {o : HO} (h1 : ad[i]? = some y) (h2 : os[i]? = some o) : H y = some o := h.2 i y o h1 h2
theorem HasAll.put {H : Hp} {ad : List Addr} {os : List HO} (h : HasAll H ad os) (nd : ad.Nodup) {j : Nat} {y : Addr} {o : HO} (hj : ad[j]? = some y) : HasAll (upd H y o) ad (os.set j o) := by
  refine ⟨by rw [List.length_set]; exact h.1, fun i z u h1 h2 => ?_⟩
  obtain ⟨hi, hi2⟩ := List.getElem?_eq_some_iff.mp h1
  obtain ⟨hj1, hj2⟩ := List.getElem?_eq_some_iff.mp hj
  by_cases e : i = j
  · subst e
    rw [hj] at h1
    cases h1
    rw [List.getElem?_set_self (by rw [← h.1]; exact hi)] at h2
    cases h2
    exact upd_same
  · rw [List.getElem?_set_ne (Ne.symm e)] at h2
    rw [upd_ne]
    · exact h.2 i z u h1 h2
    · rintro rfl
      exact e (nodup_ix nd hi hj1 (by rw [hi2, hj2]))
theorem HasAll.keep {H H' : Hp} {ad : List Addr} {os : List HO} (h : HasAll H ad os) (f : ∀ x o, H x = some o → x ∈ ad → H' x = some o) : HasAll H' ad os := ⟨h.1, fun i y o h1 h2 => f _ _ (h.2 i y o h1 h2) (List.mem_of_getElem? h1)⟩
/-- tuples stay -/
def KeepT (H H' : Hp) : Prop := ∀ x vs, H x = some (.tup vs) → H' x = some (.tup vs)
theorem KeepT.same {H H' : Hp} (s : Same H H') : KeepT H H' := fun x vs h => s _ _ h
theorem KeepT.trans {H H' H'' : Hp} (a : KeepT H H') (b : KeepT H' H'') : KeepT H H'' := fun x vs h => b _ _ (a _ _ h)
theorem KeepT.upd {H : Hp} {y : Addr} {o o' : HO} (h : H y = some o) (hn : ∀ vs, o ≠ .tup vs) : KeepT H (upd H y o') := fun x vs hx => by
  rw [upd_ne (by rintro rfl; rw [h] at hx; exact hn vs (Option.some.inj hx))]
  exact hx
/-- tuples with these items -/
def TupsAt (H : Hp) (xs : List Addr) (ys : List (List V)) : Prop := xs.length = ys.length ∧ ∀ (i : Nat) (x : Addr) (y : List V), xs[i]? = some x → ys[i]? = some y → H x = some (.tup y)
theorem TupsAt.keep {H H' : Hp} {xs : List Addr} {ys : List (List V)} (h : TupsAt H xs ys) (k : KeepT H H') : TupsAt H' xs ys := ⟨h.1, fun i x y h1 h2 => k _ _ (h.2 i x y h1 h2)⟩
theorem TupsAt.snoc {H : Hp} {xs : List Addr} {ys : List (List V)} (h : TupsAt H xs ys) {x : Addr} {y : List V} (hx : H x = some (.tup y)) : TupsAt H (xs ++ [x]) (ys ++ [y]) := by
  refine ⟨by rw [List.length_append, List.length_append, h.1]; rfl, fun i z u h1 h2 => ?_⟩
  by_cases hi : i < xs.length
  · rw [List.getElem?_append_left hi] at h1
    rw [List.getElem?_append_left (by rw [← h.1]; exact hi)] at h2
    exact h.2 i z u h1 h2
  · have e : i = xs.length := by
      have := (List.getElem?_eq_some_iff.mp h1).1
      simp at this
      omega
    subst e
    rw [h.1] at h2
    simp at h1 h2
    subst h1 h2
    exact hx
end Tr
set_option maxHeartbeats 1000000
namespace L2
open PySem PySem.Spec PyProof.Rows
section
variable {X : Cx} {o e : Expr} {es : List Expr} {to te : TE} {ta : TA} {f : Str} {p p' p1 p2 pos : Pos}
/-- B.__init__(self, ..), B an own class over ValueError without own __init__ -/
theorem pe_ownInit {pl : Sem Bool} {x : Str} {B : Addr} (hg : Gl X x) (hm : X.mg x = some (.ref B)) (r : ClX.CRead X.K B (.type "type")) (vV : PySem.W.findCls X.K (.ref B) (.type "type") "__init__" = some (.val (.builtin "ValueError.__init__"))) (ha : PA X (e :: es) ta)
    (hdb : (x == ("__debug__" : Str)) = false := by decide)
    (hc : eval (.Call (.Attribute (.Name x p1) "__init__" p2) (e :: es) [] pos) X.env = (do
      let ov ← eval (.Name x p1) X.env
      standAt p2.atName
      let (f, first) ← holding [ov] (getMethod ov "__init__" pl)
      callWith pos f first (backTo pos (starEach (e :: es) X.env)) (backToKw pos (keywordEach [] X.env))) := by rfl)
    (he : starEach (e :: es) X.env = (false, eval e X.env) :: starEach es X.env := by rfl) (hpl : (backTo pos (starEach es X.env)).any (·.1) = false := by rfl) :
    PE X (.Call (.Attribute (.Name x p1) "__init__" p2) (e :: es) [] pos) (tVeI X.K ta) := by
  refine ⟨fun pins s σ H Q I h => ?_⟩
  refine PySem.W.methodCall_KW (ld_glob I hg hm ?_ hdb) hc
  refine PySem.W.method_cls I.kIn r.ga (PySem.W.cls_value I.kIn r.rd vV (by decide +kernel) ?_)
  show wpAny _ _ (callWith pos (Value.builtin "ValueError.__init__") [] (backTo pos (starEach (e :: es) X.env)) []) _ _ _
  refine PyProof.Rows.callWith_method1 (thn (ha.run pos pins _ σ H _ (I.tok _) h) fun us s1 ⟨vs, H1, I1, r1, a, C, ws, ev, hl, T, ea, q⟩ => ?_) he hpl
  subst ev
  cases r1 with
  | @cons _ u0 _ ur ra rw' =>
    obtain rfl : u0 = Value.ref a := ra
    have hlen : ur.length ≤ sizeLine := by
      rw [← Paired.length rw', sizeLine_eq]
      omega
    exact oinit_ok T I1 ea hlen fun s' J => ⟨.non, H1, J, rfl, q⟩
end
/-- at a: an exception of the class cls, its dict d -/
def xo (a : Addr) (cls : Value) (d : Option Addr) : HO := .ext fun h => ∃ oe vs, h.get? a = some oe ∧ Zc cls d oe ∧ oe.data = .fields vs
theorem xo_own {e x : Addr} {c : Value} {d : Option Addr} : xo e c d ≠ .own x := fun z => by
  have z' : HO.ext _ = HO.own x := z
  cases z'
theorem xo_lst {e : Addr} {c : Value} {d : Option Addr} {l : List V} : xo e c d ≠ .lst l := fun z => by
  have z' : HO.ext _ = HO.lst l := z
  cases z'
theorem xo_ok {P : Program} {w : World} {H : Hp} {h : Heap} {a : Addr} {cls : Value} {d : Option Addr} {oe : Obj} {vs : Array Value} (he : h.get? a = some oe) (hz : Zc cls d oe) (hd : oe.data = .fields vs) : ObjOk P w H h a (xo a cls d) :=
  ⟨⟨oe, vs, he, hz, hd⟩, ⟨_, he⟩, fun h1 h2 z k => by
    obtain ⟨o, u, q1, q2, q3⟩ := z
    exact ⟨o, u, k _ q1, q2, q3⟩⟩
theorem xo_at {P : Program} {w : World} {H : Hp} {h : Heap} {a : Addr} {cls : Value} {d : Option Addr} (hok : HOk P w H h) (he : H a = some (xo a cls d)) : ∃ oe vs, h.get? a = some oe ∧ Zc cls d oe ∧ oe.data = .fields vs := by
  have x : ObjOk P w H h a (.ext fun h => ∃ oe vs, h.get? a = some oe ∧ Zc cls d oe ∧ oe.data = .fields vs) := hok a _ he
  exact x.1
section
variable {X : Cx} {pins : List (Addr × Obj)} {σ : St} {H : Hp} {s : Shared}
theorem Inv.track {a : Addr} {oe : Obj} {cls : Value} {d : Option Addr} {vs : Array Value} (I : Inv X ((a, oe) :: pins) σ H s) (hz : Zc cls d oe) (hd : oe.data = .fields vs) (n0 : X.s_0.heap.get? a = none) (np : ∀ p ∈ X.pn ++ pins, p.1 ≠ a) :
    Inv X pins σ (upd H a (xo a cls d)) s := by
  obtain ⟨ha, hn, nL, nF, _⟩ := I.pin (a, oe) (List.mem_append_right _ List.mem_cons_self)
  have ha' : s.heap.get? a = some oe := ha
  have hn' : H a = none := hn
  have ne : ∀ {b : Addr} {u : HO}, H b = some u → b ≠ a := fun {b u} q z => by
    rw [z, hn'] at q
    cases q
  refine ⟨I.ok, I.os, I.bare, ⟨I.base.keep, I.base.slot, fun b o q n hx => ?_, I.base.there, fun b xs q => ?_, fun b o u q => ?_, fun b ps q => ?_⟩, I.loc, I.cell, ?_, fun x c e => ?_, fun p hp => ?_, fun b o q => ?_, I.len⟩
  · rw [upd_ne (by rintro rfl; rw [n0] at q; cases q)]
    exact I.base.free b o q n hx
  · have := I.base.tups b xs q
    rw [upd_ne (ne this)]
    exact this
  · have := I.base.frzs b o u q
    rw [upd_ne (ne this)]
    exact this
  · obtain ⟨more, this⟩ := I.base.tbls b ps q
    exact ⟨more, by rw [upd_ne (ne this)]; exact this⟩
  · rw [upd_ne (Ne.symm nL)]
    exact I.free
  · have hca : c ≠ a := by
      rintro rfl
      obtain ⟨v, oc, h1, h2⟩ := I.cell x c e
      rw [ha'] at h1
      cases h1
      rw [hd] at h2
      first | cases h2 | (cases h2.1) | (cases h2.2)
    rw [upd_ne hca]
    exact I.freeC x c e
  · have hp' : p ∈ X.pn ++ ((a, oe) :: pins) := by
      rcases List.mem_append.mp hp with h | h
      · exact List.mem_append_left _ h
      · exact List.mem_append_right _ (List.mem_cons_of_mem _ h)
    obtain ⟨q1, q2, q3⟩ := I.pin p hp'
    exact ⟨q1, by rw [upd_ne (np p hp)]; exact q2, q3⟩
  · by_cases hb : b = a
    · subst hb
      rw [upd_same] at q
      cases q
      exact xo_ok ha' hz hd
    · rw [upd_ne hb] at q
      exact (I.hok b o q).stay (fun c v hc z => z) (fun c hc => by rw [upd_ne (ne hc)]; exact hc) (fun c xs hc => by rw [upd_ne (ne hc)]; exact hc)
end
/-- what the clause 'except x as n' wishes of the one kind of exception that the body lets out: caught, bound to slot i, kept at its place -/
def wKeep (K : PySem.W.Frag) (c : Value) (i : Nat) (ts : Addr → Value → Option Addr → TS) (D : Ends) : WX := fun cls d σ H =>
  PySem.W.exmOne K cls c = some true ∧ ∀ a, H a = none → ts a cls d ⟨fun σ' H' => D.nx (σ'.set i none) (upd H' a (xo a cls d)), fun _ _ => False, fun _ _ => False, fun _ _ => False⟩ (σ.set i (some (.ref a))) H
section
variable {X : Cx} {x n : Str} {c : Value} {i : Nat} {body suite : List Stmt} {b₀ : Stmt} {np pos pos' : Pos} {tb : WX → TS} {ts : Addr → Value → Option Addr → TS}
/-- what the body of a try leaves is what the try leaves -/
theorem SP.ofTry {pins : List (Addr × Obj)} {xe : Value → Shared → Prop} {D : Ends} (ok : X.Ok) : ∀ {f : Flow} {s1 : Shared}, SP (X.tr (X.pn ++ pins) xe) [] D f s1 → SP X pins D f s1
  | .next, _, ⟨σ', H', J, q⟩ => ⟨σ', H', J.ofTry ok, q⟩
  | .brk, _, ⟨σ', H', J, q⟩ => ⟨σ', H', J.ofTry ok, q⟩
  | .cont, _, ⟨σ', H', J, q⟩ => ⟨σ', H', J.ofTry ok, q⟩
  | .ret _, _, ⟨v, σ', H', J, r, q⟩ => ⟨v, σ', H', J.ofTry ok, r, q⟩
/-- the suite of the clause, begun with the exception landed at a; behind it the exception is tracked -/
theorem suite_keep {pins : List (Addr × Obj)} {σ : St} {H : Hp} {s : Shared} {D : Ends} {a : Addr} {oe : Obj} {vs : Array Value} {cls : Value} {d : Option Addr} (ok : X.Ok) (hN : X.N.Nodup) (hi : X.N[i]? = some n) (hln : X.env.kindOf n = some .local)
    (hsu : PSs (X.suite a ((a, oe) :: (X.pn ++ pins))) (b₀ :: suite) (ts a cls d)) (S : Inv (X.suite a ((a, oe) :: (X.pn ++ pins))) [] (σ.set i (some (.ref a))) H s) (hz : Zc cls d oe) (hd : oe.data = .fields vs) (n0 : X.s_0.heap.get? a = none) (np' : ∀ p ∈ X.pn ++ pins, p.1 ≠ a)
    (h : ts a cls d ⟨fun σ' H' => D.nx (σ'.set i none) (upd H' a (xo a cls d)), fun _ _ => False, fun _ _ => False, fun _ _ => False⟩ (σ.set i (some (.ref a))) H) :
    wpAny (model X.prog X.w) (X.A.mark (some (.ref a))) (execs (b₀ :: suite) X.env) (fun f s6 => wpAny (model X.prog X.w) X.A (do bindName X.env n .none; unbindBehindTheSuite X.env n pos') (fun _ s7 => SP X pins D f s7) X.xe s6) (fun _ _ => False) s := by
  refine wpAny_mono (hsu.run [] s _ H _ S h) (fun f s6 hsp => ?_) (fun _ _ z => z)
  match f, hsp with
  | .next, ⟨σ6, H6, S6, q6⟩ =>
    have P6 : Inv X ((a, oe) :: pins) σ6 H6 s6 := (S6.unsuite ok).pins_of fun p hp => S6.pin p (List.mem_append_left _ (by
      rcases List.mem_cons.mp hp with e | e
      · rw [e]; exact List.mem_cons_self
      · exact List.mem_cons_of_mem _ (List.mem_append_right _ e)))
    exact gone_ok P6 hN hi hln fun s7 I7 => ⟨_, _, I7.track hz hd n0 np', q6⟩
  | .brk, ⟨_, _, _, q6⟩ => exact q6.elim
  | .cont, ⟨_, _, _, q6⟩ => exact q6.elim
  | .ret _, ⟨_, _, _, _, _, q6⟩ => exact q6.elim
/-- try: body, except x as n: suite, where every exception of the body is caught -/
theorem ps_try_keep (hs : X.stack = X.env :: X.outer) (hf : X.env.frame = some X.env.locals) (hN : X.N.Nodup) (hi : X.N[i]? = some n) (hln : X.env.kindOf n = some .local) (hc : Names X x c) (hex : X.ex = [])
    (hb : ∀ (W : WX) (pn : List (Addr × Obj)) (xe : Value → Shared → Prop), Takes (X.tr pn xe) W → PassesOwn (model X.prog X.w) X.A X.env xe → PSs (X.tr pn xe) body (tb W))
    (hsu : ∀ (a : Addr) (oe : Obj) (cls : Value) (d : Option Addr) (pn : List (Addr × Obj)), Zc cls d oe → (∃ vs, oe.data = .fields vs) → PSs (X.suite a ((a, oe) :: pn)) (b₀ :: suite) (ts a cls d)) :
    PS X (.Try body [.ExceptHandler (some (.Name x np)) (some n) (b₀ :: suite) pos'] [] [] pos) (fun D σ H => tb (wKeep X.K c i ts D) D σ H) := by
  refine ⟨fun pins s σ H D I h => wpAny_Try_except ?_⟩
  have ok := I.ok
  have body := hb (wKeep X.K c i ts D) (X.pn ++ pins) (fun e s₁ => wpAny (model X.prog X.w) X.A (noteFrame e X.env) (fun _ s₂ => wpAny (model X.prog X.w) X.A (setFlight e none) (fun _ s₃ =>
    wpAny (model X.prog X.w) X.A (handleBy e X.env [.ExceptHandler (some (.Name x np)) (some n) (b₀ :: suite) pos']) (SP X pins D) X.xe s₃) X.xe s₂) X.xe s₁)
  refine wpAny_mono ((body ?_ PassesOwn.looking).run [] s σ H D (I.toTry _) h) ?_ (fun e s1 he => he)
  · rintro u s' ⟨a, B, sI, pins', σ', H', cls, d, rfl, J', nb, up, sky, na, os, ag, hyes, hts⟩
    have J : Inv X pins σ' H' sI := J'.ofTry ok
    rw [hs] at sky
    refine Sky.land Zc.steady (by rw [ok.frames, hs]) hf sky fun h3 fl up3 => ?_
    obtain ⟨oe, vs, he, hz, hd⟩ := fl.there
    have nfr : a ∉ frs (X.env :: X.outer) := fun hm => by
      obtain ⟨_, o, e1, e2⟩ := fl.2.2.1.mem hm
      rw [he] at e1
      cases e1
      exact e2 _ hd
    have nL : a ≠ X.env.locals := fun z => nfr (List.mem_filterMap.mpr ⟨X.env, List.mem_cons_self, by rw [hf, z]⟩)
    have nF : a ∉ X.fs := fun hm => let ⟨e, g1, g2⟩ := List.mem_filterMap.mp hm; nfr (List.mem_filterMap.mpr ⟨e, List.mem_cons_of_mem _ g1, g2⟩)
    have noI : sI.heap.get? a = none := by
      cases q : sI.heap.get? a with
      | none => rfl
      | some o => exact absurd ((nb a o q (by rw [hs]; exact nfr)).symm.trans fl.2.1) (by simp)
    have n0 : X.s_0.heap.get? a = none := by
      cases q : X.s_0.heap.get? a with
      | none => rfl
      | some o =>
        obtain ⟨o', e'⟩ := J.base.there a o q (by rw [hex]; simp)
        rw [noI] at e'
        cases e'
    have npn : ∀ p ∈ X.pn ++ pins, p.1 ≠ a := fun p hp z => by
      have := (J.pin p hp).1
      rw [z, noI] at this
      cases this
    have J3 : Inv X pins σ' H' { s' with heap := h3 } := J.landed nb fl.1 (up.trans up3) os ag
    refine wpAny_handleBy_cons (codeAny_handlers_test ?_) (by intro q; cases q)
    have L := PySem.W.exm_one (M := model X.prog X.w) J3.kIn (fun A Q E s k q => wpAny_typeOf_ref (k _ _ he) (by rw [hz.1]; exact q)) hyes
    have named : ∀ {Q : Value → Shared → Prop} {E : Value → Shared → Prop}, Q c { s' with heap := h3 } → wpAny (model X.prog X.w) (X.A.mark (some (.ref a))) (eval (.Name x np) X.env) Q E { s' with heap := h3 } := fun q => by
      have S := J3.suite he hd na nL nF
      obtain ⟨hg, hdbg, hm | ⟨hm, hv, hnn⟩⟩ := hc
      · exact ld_glob (X := X.suite a ((a, oe) :: (X.pn ++ pins))) S hg hm q hdbg
      · exact ld_blt (X := X.suite a ((a, oe) :: (X.pn ++ pins))) S hg hm hv q hnn hdbg
    refine named (L.here (codeAny_handlers_suite_as (HandSPX.lands_againZ fl fun h4 fl4 up4 => ?_)))
    obtain ⟨oe4, vs4, he4, hz4, hd4⟩ := fl4.there
    have J4 : Inv X pins σ' H' { s' with heap := h4 } := J.landed nb fl4.1 ((up.trans up3).trans up4) os ag
    refine store_ok (X := X.suite a ((a, oe4) :: (X.pn ++ pins))) (v := .ref a) (J4.suite he4 hd4 na nL nF) hN hi (.inl hln) rfl (fun s5 S5 => ?_) (.inr hln)
    exact wpAny_mono (suite_keep ok hN hi hln (hsu a oe4 cls d _ hz4 ⟨_, hd4⟩) S5 hz4 hd4 n0 npn (hts a na)) (fun _ _ z => z) fun _ _ z => z.elim
  · intro f s1 hsp
    have q := SP.ofTry ok hsp
    cases f with
    | next => exact wpAny_execs_nil q
    | brk => exact q
    | cont => exact q
    | ret u => exact q
/-- err.f, err a caught exception that stays at its place -/
def tXo (K : PySem.W.Frag) (f : Str) (te : TE) : TE := fun σ H Q => te σ H fun x H1 => ∃ (a C dd : Addr) (fs : List (Str × V)) (v : V), x = .ref a ∧ H1 a = some (xo a (.ref C) (some dd)) ∧ XfC K C ∧ PySem.W.findIn K (.ref C) f = some none ∧ H1 dd = some (.xd fs) ∧ fs.lookup f = some v ∧ Q v H1
theorem pe_xo {e : Expr} {te : TE} {pos : Pos} {f : Str} (he : PE X e te) (hb : attributeBase e f X.env (eval e X.env) = eval e X.env := by rfl) : PE X (.Attribute e f pos) (tXo X.K f te) := by
  refine ⟨fun pins s σ H Q I h => ?_⟩
  refine attr_of hb (thn (he.run pins s σ H _ I h) fun u s1 hh => ?_)
  obtain ⟨x, H1, I1, rx, a, C, dd, fs, v, ex, ea, T, hno, ed, l, q⟩ := hh
  subst ex
  obtain rfl : u = Value.ref a := rx
  obtain ⟨oe, vs, ha, hz, hd⟩ := xo_at I1.hok ea
  have hx : ObjOk X.prog X.w H1 s1.heap dd (.xd fs) := I1.hok dd _ ed
  obtain ⟨mA, hns, hr⟩ := hx
  obtain ⟨od, ho, hl⟩ := lookIn_ns hns
  obtain ⟨u, hu, ru⟩ := RelO.some_of (v := v) (o := mA f) (by rw [← l]; exact hr f)
  have J : PySem.W.InstAt s1.heap a oe C (some od) := ⟨ha, hz.1, by unfold PySem.W.notCls; rw [hd] <;> rfl, by rw [hz.2]; exact ho⟩
  exact HandSPX.exc_get I1.kIn J T.ga T.gg T.exC (PySem.W.findObj_own T.hdC hno rfl (by rw [hl, hu])) (handed_of ru) ⟨v, H1, I1.tok _, ru, q⟩
end
end L2
set_option maxHeartbeats 1000000
namespace L2
open PySem PySem.Spec PyProof.Rows
section
variable {X : Cx} {CX : CXT} {k : Nat} {f C : Addr} {fd : FuncData} {ps : List Str} {sp : Sp} {E : St → XK} {x : Str} {p pos : Pos} {e : Expr} {es : List Expr} {t : TA} {ds : List Value} {dvs : List V}
def tMakeS (C : Addr) (sp : Sp) (E : St → XK) (t : TA) : TE := fun σ H Q => t σ H fun vs H1 =>
  ∀ x dx, H1 x = none → H1 dx = none → dx ≠ x →
    sp (.ref x :: vs) (upd (upd H1 dx (.own x)) x (.ins C dx [])) (fun v H2 => v = .non ∧ Q (.ref x) H2) (E σ)
theorem pe_makeS (M : Mk X.K C f)
    (F : FnOk X.prog X.w X.K X.mg X.base CX k f fd ps sp) (hr : Room (k + 1) X.A)
    (hg : Gl X x) (hm : X.mg x = some (.ref C)) (hb : Binds X.K fd ps []) (hx : ∀ σ, PassesAt CX X σ (E σ)) (ha : PA X (e :: es) t)
    (hdb : (x == ("__debug__" : Str)) = false := by decide)
    (he : starEach (e :: es) X.env = (false, eval e X.env) :: starEach es X.env := by rfl)
    (hpl : (backTo pos (starEach es X.env)).any (·.1) = false := by rfl) :
    PE X (.Call (.Name x p) (e :: es) [] pos) (tMakeS C sp E t) := by
  constructor
  intro pins s σ H Q I h
  refine wpAny_Call_Name_kw (ld_glob I hg hm ?_ hdb)
  refine PySem.W.callWith_K (h₀ := X.base) I.ok.mod.kin M.kp (thn (ha.run pos pins s σ H _ I h) fun us s1 hh => ?_) he hpl
  obtain ⟨vs, H1, I1, r, q⟩ := hh
  refine ⟨I1.kIn, ?_⟩
  show wpAny _ _ (call (.ref C) us) _ _ _
  generalize hn : s1.heap.objs.size = n
  have f0 : H1 n = none := by rw [← hn]; exact I1.hok.fresh (Nat.le_refl _)
  have f1 : H1 (n + 1) = none := by rw [← hn]; exact I1.hok.fresh (Nat.le_succ _)
  have hq := q (n + 1) n f1 f0 (Nat.ne_of_lt (Nat.lt_succ_self _))
  have I2 := Inv.made (C := C) I1
  rw [hn] at I2
  have r2 : Vals (V.ref (n + 1) :: vs) (Value.ref (n + 1) :: us) := .cons rfl r
  have hl : (Value.ref (n + 1) :: us ++ []).length = ps.length := by
    have z := r2.length
    rw [F.len _ _ _ _ hq] at z
    rw [List.append_nil]
    exact z.symm
  have b := hb _ (Value.ref (n + 1) :: us) I2.kIn hl
  rw [List.append_nil] at b
  have run := F.run _ X.stack _ _ ⟨Value.ref (n + 1) :: us, []⟩ (Value.ref (n + 1) :: us) _ _ (E σ) (hr.make C us []) (I2.env0.make C us []) b r2 hq
  refine wpAny_call (make_map (f := f) I1.kIn M.makes M.init (beq_iff_eq.mp M.fn) (codeAny_mono (by rw [hn]; exact run) fun r s' hq' => ?_))
  cases r with
  | error er => exact hx σ pins _ _ er s' I2 hq'
  | ok fl =>
    cases fl with
    | next => exact False.elim hq'
    | brk => exact False.elim hq'
    | cont => exact False.elim hq'
    | ret u =>
      obtain ⟨v, H', I3, rv, ev, q3⟩ := I2.after hq'
      cases ev
      rw [hn]
      exact ⟨rv, ⟨V.ref (n + 1), H', I3, rfl, q3⟩⟩
end
end L2
set_option maxHeartbeats 4000000
namespace PySem
namespace OXB
open Builtin Builtin.ObjectAttr PySem.W PySem.Calls PyProof.Rows PySem.HandSPX
/-- own classes, then the base's mro -/
def refsT (bm : List Value) : List Value → Bool
  | .ref _ :: r => refsT bm r
  | l => l == bm
theorem refsT_cases {bm : List Value} : ∀ l : List Value, refsT bm l = true → (∃ c r, l = .ref c :: r ∧ refsT bm r = true) ∨ l = bm
  | [], e => .inr (beq_iff_eq.mp e)
  | .ref c :: r, e => .inl ⟨c, r, rfl, e⟩
  | .none :: _, e => .inr (beq_iff_eq.mp e)
  | .ellipsis :: _, e => .inr (beq_iff_eq.mp e)
  | .notImplemented :: _, e => .inr (beq_iff_eq.mp e)
  | .bool _ :: _, e => .inr (beq_iff_eq.mp e)
  | .int _ _ :: _, e => .inr (beq_iff_eq.mp e)
  | .float _ _ :: _, e => .inr (beq_iff_eq.mp e)
  | .str _ _ :: _, e => .inr (beq_iff_eq.mp e)
  | .bytes _ _ :: _, e => .inr (beq_iff_eq.mp e)
  | .type _ :: _, e => .inr (beq_iff_eq.mp e)
  | .builtin _ :: _, e => .inr (beq_iff_eq.mp e)
structure XB where
  B : String
  newId : String
  initId : String
  bm : List Value
/-- what is so of the base -/
structure XB.Ok (b : XB) : Prop where
  F : ExcBaseFacts b.B b.newId b.initId b.bm
  pass : ∀ self, refuseLoop self "__setattr__" b.bm = pure ()
  obj : b.bm.contains (.type "object") = true
  ne : b.bm.isEmpty = false
def xbV : XB := ⟨"ValueError", "ValueError.__new__", "ValueError.__init__", [.type "ValueError", .type "Exception", .type "BaseException", .type "object"]⟩
def xbR : XB := ⟨"RuntimeError", "RuntimeError.__new__", "RuntimeError.__init__", [.type "RuntimeError", .type "Exception", .type "BaseException", .type "object"]⟩
theorem xbV_ok : xbV.Ok := ⟨F.excBase_ValueError, fun self => F.store_ValueError.passes self, by decide +kernel, rfl⟩
theorem xbR_ok : xbR.Ok := ⟨F.excBase_RuntimeError, fun self => F.store_RuntimeError.passes self, by decide +kernel, rfl⟩
theorem refsT_pass {b : XB} (O : b.Ok) (self : Value) : ∀ l : List Value, refsT b.bm l = true → refuseLoop self "__setattr__" l = pure () := by
  intro l
  induction l with
  | nil =>
    intro e
    have e' : ([] : List Value) = b.bm := beq_iff_eq.mp e
    rw [e']
    exact O.pass self
  | cons a r ih =>
    intro e
    rcases refsT_cases (a :: r) e with ⟨c, r', q, h⟩ | q
    · obtain ⟨rfl, rfl⟩ := List.cons.inj q
      rw [refuseLoop_ref]; exact ih h
    · rw [q]; exact O.pass self
theorem refsT_contains {bm : List Value} (X : String) : ∀ l : List Value, refsT bm l = true → l.contains (.type X) = bm.contains (.type X) := by
  intro l
  induction l with
  | nil =>
    intro e
    have e' : ([] : List Value) = bm := beq_iff_eq.mp e
    rw [e']
  | cons a r ih =>
    intro e
    rcases refsT_cases (a :: r) e with ⟨c, r', q, h⟩ | q
    · obtain ⟨rfl, rfl⟩ := List.cons.inj q
      rw [List.contains_cons, ih h]; rfl
    · rw [q]
theorem refsT_ne {b : XB} (O : b.Ok) {l : List Value} (e : refsT b.bm l = true) : l.isEmpty = false := by
  cases l with
  | nil =>
    have e' : ([] : List Value) = b.bm := beq_iff_eq.mp e
    have := O.ne
    rw [← e'] at this
    exact this
  | cons _ _ => rfl
section
variable {M : Model} {A : Around} {E : Value → Shared → Prop} {h : Heap} {g : Array GenState} {d : Drawn} {t : Nat} {os : OsState}
variable {nm q : Str} {C N : Addr} {bs bm bmB : List Value} {hdct : Bool} {sn : List Str} {sub : List Value} {ab : Bool} {col : Option Bool} {dd : Option Addr} {k0 k1 k2 k3 k5 : Option Value} {B newId initId : String}
theorem check_new_ownK (F : ExcBaseFacts B newId initId bmB) (hT : ∀ X : String, bm.contains (.type X) = bmB.contains (.type X)) {rest : List Value} {kw : List (Str × Value)} {Q : Unit → Shared → Prop}
    (hC : h.get? C = some (excClassObj nm q C N bs bm hdct sn sub ab col dd k0 k1 k2 k3 k5 newId)) (hq : Q () ⟨h, g, d, t, os⟩) : wpAny M A (checkBuiltinCall newId ⟨.ref C :: rest, kw⟩) Q E ⟨h, g, d, t, os⟩ := by
  have hcont : (Value.ref C :: bm).contains (.type B) = true := by rw [List.contains_cons, hT, F.hasB, Bool.or_true]
  have hstar := F.noStar
  simp only [checkBuiltinCall, F.newKind, F.newSplit, F.newRow]
  repeat (first | refine wpAny_loadPart_at hC ?_ | (refine wpAny_isSubtype_exc hC ?_; rw [hcont]) | refine wpAny_staticBase_exc hC ?_ | refine wpAny_madeBy_exc hC ?_ | simp only [bne_self_eq_false, Bool.false_eq_true, if_false] | wp_step)
  exact hq
end
section
variable {prog : Program} {w : World} {A : Around} {E : Value → Shared → Prop} {R : Result → Shared → Prop} {h : Heap} {g : Array GenState} {d : Drawn} {t : Nat} {os : OsState}
variable {nm q : Str} {C N : Addr} {bs bm bmB : List Value} {hdct : Bool} {sn : List Str} {sub : List Value} {ab : Bool} {col : Option Bool} {dd : Option Addr} {k0 k1 k2 k3 k5 : Option Value} {B newId initId : String}
theorem new_ownK (F : ExcBaseFacts B newId initId bmB) (hT : ∀ X : String, bm.contains (.type X) = bmB.contains (.type X)) {rest : List Value} {kw : List (Str × Value)}
    (hC : h.get? C = some (excClassObj nm q C N bs bm hdct sn sub ab col dd k0 k1 k2 k3 k5 newId))
    (hq : R (.ok (.ret (.ref (h.objs.size + 1)))) ⟨(h.push { cls := .type "tuple", data := .seq rest.toArray }).push
      { cls := .ref C, data := .fields #[.ref h.objs.size, .none, .none, .none, .bool false, .none] }, g, d, t, os⟩) (hrest : rest.length ≤ sizeLine) :
    codeAny (model prog w) A (.builtin newId ⟨.ref C :: rest, kw⟩) R ⟨h, g, d, t, os⟩ := by
  have hends := F.ends
  have hcB : (Value.ref C :: bm).contains (.type B) = true := by rw [List.contains_cons, hT, F.hasB, Bool.or_true]
  have hcA : (Value.ref C :: bm).contains (.type "AttributeError") = false := by rw [List.contains_cons, hT, F.noAttr]; rfl
  have hcN : (Value.ref C :: bm).contains (.type "NameError") = false := by rw [List.contains_cons, hT, F.noName]; rfl
  refine codeAny_builtinAt F.entry ?_
  unfold Builtin.«BaseException.__new__»
  refine wpAt_bind ?_
  show wpAt _ _ _ (stack >>= _) _ _ _
  refine wpAt_bind (wpAt_stack fun p below => wpAt_of_wpAny ?_)
  wp_walk
  refine wpAt_of_wpAny ?_
  rw [F.owner]
  repeat (first | with_reducible refine wpAny_madeHere_exc F.canon hC ?_ | with_reducible refine wpAny_loadPart_at hC ?_ | (with_reducible refine wpAny_isSubtype_exc hC ?_; first | rw [hcB] | rw [hcA] | rw [hcN]) | wp_step)
  show R _ _
  rw [Heap.size_push]
  exact hq
theorem type_call_ownK (F : ExcBaseFacts B newId initId bmB) (hT : ∀ X : String, bm.contains (.type X) = bmB.contains (.type X)) {rest : List Value} {kw : List (Str × Value)} {fI : Addr} {Q : Fin → Shared → Prop}
    (hC : h.get? C = some (excClassObj nm q C N bs bm hdct sn sub ab col dd k0 k1 k2 k3 k5 newId))
    (hi : W.Looks (model prog w) h (typeLookup (.ref C) "__init__") (some (.ref fI))) (hb : ∀ self, W.Looks (model prog w) h (bindSpecial (.ref fI) self) (.ref fI, [self])) (hrest : rest.length ≤ sizeLine)
    (hq : codeAny (model prog w) A (.call (.ref fI) ⟨.ref (h.objs.size + 1) :: rest, kw⟩)
      (fun r s' => match r with | .ok (.ret v) => v = .none ∧ Q (.done (.ret (.ref (h.objs.size + 1)))) s' | .ok _ => False | .error e => E e s')
      ⟨(h.push (W.kdv_tup rest)).push (excO C h.objs.size), g, d, t, os⟩) :
    wpAny (model prog w) A (Builtin.«type.__call__» ⟨.ref C :: rest, kw⟩) Q E ⟨h, g, d, t, os⟩ := by
  repeat (first | with_reducible refine wpAny_loadPart_at hC ?_ | with_reducible refine wpAny_madeBy_exc hC ?_ | wp_step)
  refine codeAny_call_builtin_code (Code.quiet_builtin _ F.quiet) (check_new_ownK F hT hC ?_)
  refine new_ownK F hT hC ?_ hrest
  show wpAny _ _ _ _ _ _
  have k : ∀ b o, h.get? b = some o → ((h.push (W.kdv_tup rest)).push (excO C h.objs.size)).get? b = some o := fun b o e => Heap.get?_push_of_some _ (Heap.get?_push_of_some _ e)
  have hC₁ := k _ _ hC
  have hget : ((h.push (W.kdv_tup rest)).push (excO C h.objs.size)).get? (h.objs.size + 1) = some (excO C h.objs.size) := by heap_get
  have hcC : (Value.ref C :: bm).contains (.ref C) = true := by simp
  have i1 := hi.keeps k
  have b1 := (hb (.ref (h.objs.size + 1))).keeps k
  unfold isInstance
  repeat (first | with_reducible refine wpAny_loadPart_at hget ?_ | (with_reducible refine wpAny_isSubtype_exc hC₁ ?_; rw [hcC]) | wp_step)
  show wpAny _ _ (typeLookup (.ref C) _) _ _ _
  refine i1.at ?_
  refine wpAny_holding (wpAny_bind (b1.at ?_))
  refine wpAny_bind (wpAny_call (codeAny_mono hq fun r s' z => ?_))
  rcases r with e | (v | _ | _ | _) <;> first | exact z | exact z.elim | skip
  obtain ⟨rfl, z⟩ := z
  first
    | exact wpAny_pure (wpAny_pure z)
    | (wp_walk; exact z)
theorem call_ownK (F : ExcBaseFacts B newId initId bmB) (hT : ∀ X : String, bm.contains (.type X) = bmB.contains (.type X)) {rest : List Value} {kw : List (Str × Value)} {fI : Addr}
    (hC : h.get? C = some (excClassObj nm q C N bs bm hdct sn sub ab col dd k0 k1 k2 k3 k5 newId))
    (hi : W.Looks (model prog w) h (typeLookup (.ref C) "__init__") (some (.ref fI))) (hb : ∀ self, W.Looks (model prog w) h (bindSpecial (.ref fI) self) (.ref fI, [self])) (hrest : rest.length ≤ sizeLine)
    (hq : codeAny (model prog w) (A.under (.builtin "type.__call__" ⟨.ref C :: rest, kw⟩)) (.call (.ref fI) ⟨.ref (h.objs.size + 1) :: rest, kw⟩) (W.InitBack (h.objs.size + 1) R)
      ⟨(h.push (W.kdv_tup rest)).push (excO C h.objs.size), g, d, t, os⟩) :
    codeAny (model prog w) A (.call (.ref C) ⟨rest, kw⟩) R ⟨h, g, d, t, os⟩ := by
  have f1 := tc_lookup
  have f2 := tc_bind (.ref C)
  have hTy : (⟨h, g, d, t, os⟩ : Shared).TypeIs (.ref C) "type" := ⟨_, hC, rfl⟩
  refine codeAny_of_tree ?_
  show wpAny _ _ (callAny (.ref C) _) _ _ _
  repeat (any_goals (first | assumption | with_reducible refine wpAny_loadPart_at hC ?_ | wp_step))
  refine ⟨rfl, ?_⟩
  refine codeAny_call_builtin_at (Code.quiet_builtin _ (by decide +kernel)) entry_typeCall (wpAny_check_type_call_sub hC (type_call_ownK F hT hC hi hb hrest ?_))
  refine codeAny_mono hq fun r s' z => ?_
  rcases r with e | (v | _ | _ | _) <;> exact z
end
section
variable {prog : Program} {w : World} {A : Around} {E : Value → Shared → Prop} {R : Result → Shared → Prop} {hp : Heap} {g : Array GenState} {d : Drawn} {t : Nat} {os : OsState}
theorem exc_osaB {b : XB} (O : b.Ok) {K : W.Frag} {name : Str} {tk : Tok} {v : Value} {x C : Addr} {fv : Array Value} {cd : ClassData}
    (X : K.In hp) (hx : hp.get? x = some { cls := .ref C, data := .fields fv }) (hcd : W.clsIn K C = some cd) (hm : refsT b.bm cd.mro = true) (hh : cd.hasDict = true) (ha : W.findIn K (.ref C) name = some none)
    (hq : ∀ h' tk' dx, (∀ b o, b ≠ x → hp.get? b = some o → h'.get? b = some o) → hp.objs.size ≤ dx → dx ≠ x → h'.get? x = some { cls := .ref C, dict := some dx, data := .fields fv } →
      h'.Ns1 dx (fun y => if y = name then some v else none) → R (.ok (.ret .none)) ⟨h', g, d, tk', os⟩) :
    codeAny (model prog w) A (.call (.builtin "object.__setattr__") ⟨[.ref x, .str name tk, v], []⟩) R ⟨hp, g, d, t, os⟩ := by
  have I : W.InstAt hp x { cls := .ref C, data := .fields fv } C none := ⟨hx, rfl, rfl, trivial⟩
  have SF := F.store_object
  have ne := refsT_ne O hm
  have hob : cd.mro.contains (.type "object") = true := (refsT_contains "object" _ hm).trans O.obj
  have hxs : x ≠ hp.objs.size := Nat.ne_of_lt (Heap.lt_size hx)
  have sub : W.Looks (model prog w) hp (isInstance (.ref x) (.type "object")) true := I.type.andThen (W.looks_mroIn X (by unfold W.mroIn; rw [hcd, Option.bind_some, if_neg (by rw [ne]; decide), hob]))
  refine codeAny_call_builtin SF.slot.plain SF.entry (@W.check_slot (model prog w) _ _ ⟨hp, g, d, t, os⟩ "object.__setattr__" "object" "__setattr__" (.ref x) [.str name tk, v] [] _ SF.kind SF.split sub (SF.args (.ref x) (.str name tk) v) ?_)
  have hmr : W.Looks (model prog w) hp (mroOf (.ref C)) cd.mro := (W.looks_clsIn X hcd).andThen .now
  have L3 : W.Looks (model prog w) hp (storeTaker? none) none := .now
  have hcls : W.Looks (model prog w) hp (classData C) cd := W.looks_clsIn X hcd
  rw [W.osa_eq, refuse_eq]
  refine wpAny_bind (wpAny_bind (I.type.at (wpAny_bind (hmr.at ?_))))
  rw [refsT_pass O _ _ hm]
  refine wpAny_pure (wpAny_bind (I.type.at (wpAny_bind ((W.looks_findIn X ha).at (wpAny_bind (L3.at ?_))))))
  show wpAny _ _ (storeInOwnDict (.ref x) (.ref C) (.str name tk) name v false) _ _ _
  obtain ⟨nm, bs, mro, ns, qn, hd, sn, sb, ab, col, del⟩ := cd
  dsimp only at hh
  subst hh
  unfold storeInOwnDict ownDictForStores
  repeat (first | with_reducible refine store_in_new ?_ ?_ | with_reducible refine wpAny_loadPart_at hx ?_ | with_reducible refine hcls.at ?_ | wp_step)
  · exact ⟨_, #[], _, (Heap.get?_update_ne _ _ _ _ hxs.symm).trans (Heap.get?_push_at rfl rfl), rfl, fun e he => absurd he (by simp), fun _ => rfl⟩
  · intro h' tk' hn' hs
    have hx₁ : (hp.push { cls := .type "dict", data := .dict #[] }).get? x = some { cls := .ref C, data := .fields fv } := Heap.get?_push_of_some _ hx
    refine hq h' tk' hp.objs.size (fun b o hb ho => ?_) (Nat.le_refl _) hxs.symm ?_ hn'
    · exact (hs.2 b (Nat.ne_of_lt (Heap.lt_size ho))).trans ((Heap.get?_update_ne _ _ _ _ hb).trans (Heap.get?_push_of_some _ ho))
    · exact (hs.2 x hxs).trans (Heap.get?_update_self _ hx₁ rfl)
theorem osa_oldB {b : XB} (O : b.Ok) {K : W.Frag} {name : Str} {tk : Tok} {v : Value} {x C dx : Addr} {fv : Array Value} {cd : ClassData} {m0 : Str → Option Value} {nl : List Str}
    (X : K.In hp) (hx : hp.get? x = some { cls := .ref C, dict := some dx, data := .fields fv }) (hns : hp.Ns1 dx m0) (hw : Within m0 nl) (hz : nl.length ≤ 1000) (hcd : W.clsIn K C = some cd) (hm : refsT b.bm cd.mro = true) (hh : cd.hasDict = true)
    (ha : W.findIn K (.ref C) name = some none)
    (hq : ∀ h' tk', (∀ b o, b ≠ dx → hp.get? b = some o → h'.get? b = some o) → h'.Ns1 dx (fun y => if y = name then some v else m0 y) → R (.ok (.ret .none)) ⟨h', g, d, tk', os⟩) :
    codeAny (model prog w) A (.call (.builtin "object.__setattr__") ⟨[.ref x, .str name tk, v], []⟩) R ⟨hp, g, d, t, os⟩ := by
  obtain ⟨oD, esD, epD, hoD, hdD, _⟩ := hns.count hw
  have I : W.InstAt hp x { cls := .ref C, dict := some dx, data := .fields fv } C (some oD) := ⟨hx, rfl, rfl, hoD⟩
  have SF := F.store_object
  have ne := refsT_ne O hm
  have hob : cd.mro.contains (.type "object") = true := (refsT_contains "object" _ hm).trans O.obj
  have sub : W.Looks (model prog w) hp (isInstance (.ref x) (.type "object")) true := I.type.andThen (W.looks_mroIn X (by unfold W.mroIn; rw [hcd, Option.bind_some, if_neg (by rw [ne]; decide), hob]))
  refine codeAny_call_builtin SF.slot.plain SF.entry (@W.check_slot (model prog w) _ _ ⟨hp, g, d, t, os⟩ "object.__setattr__" "object" "__setattr__" (.ref x) [.str name tk, v] [] _ SF.kind SF.split sub (SF.args (.ref x) (.str name tk) v) ?_)
  have hmr : W.Looks (model prog w) hp (mroOf (.ref C)) cd.mro := (W.looks_clsIn X hcd).andThen .now
  have L3 : W.Looks (model prog w) hp (storeTaker? none) none := .now
  have hcls : W.Looks (model prog w) hp (classData C) cd := W.looks_clsIn X hcd
  rw [W.osa_eq, refuse_eq]
  refine wpAny_bind (wpAny_bind (I.type.at (wpAny_bind (hmr.at ?_))))
  rw [refsT_pass O _ _ hm]
  refine wpAny_pure (wpAny_bind (I.type.at (wpAny_bind ((W.looks_findIn X ha).at (wpAny_bind (L3.at ?_))))))
  show wpAny _ _ (storeInOwnDict (.ref x) (.ref C) (.str name tk) name v false) _ _ _
  obtain ⟨nm, bs, mro, ns, qn, hd, sn, sb, ab, col, del⟩ := cd
  dsimp only at hh
  subst hh
  unfold storeInOwnDict ownDictForStores
  repeat (first | with_reducible refine PySem.OEX.store_in_old hns hw hz ?_ | with_reducible refine wpAny_loadPart_at hx ?_ | with_reducible refine hcls.at ?_ | wp_step)
  intro h' tk' hn' hs
  exact hq h' tk' (fun b o hb ho => (hs.2 b hb).trans ho) hn'
end
end OXB
end PySem
set_option maxHeartbeats 4000000
namespace L2
open PySem PySem.Spec PyProof.Rows PySem.OXB
/-- what the written part says of the class -/
structure OexB (K : PySem.W.Frag) (C : Addr) (b : XB) : Prop where
  cls : ∃ nm q N bs bm sn sub ab col dd k0 k1 k2 k3 k5, K.lookup C = some (excClassObj nm q C N bs bm true sn sub ab col dd k0 k1 k2 k3 k5 b.newId) ∧ refsT b.bm bm = true
  sa : PySem.W.findIn K (.ref C) "__setattr__" = some (some (.builtin "object.__setattr__"))
  exC : PySem.W.subIn K (.ref C) (.type "BaseException") = some true
  tyC : PySem.W.typeIn K (.ref C) = some (.type "type")
  kC : PySem.W.keepIn K (.ref C) = true
section
variable {X : Cx} {pins : List (Addr × Obj)} {σ : St} {H : Hp} {s : Shared} {a C dx : Addr} {f : Str} {y : V} {u : Value} {fs : List (Str × V)} {Q : Unit → Shared → Prop} {E : Value → Shared → Prop} {A : Around} {b : XB}
/-- self.f = y, the first one -/
theorem ostB_new (O : b.Ok) (T : OexB X.K C b) (I : Inv X pins σ H s) (e : H a = some (exo a C none)) (hno : PySem.W.findIn X.K (.ref C) f = some none) (ry : RelV y u)
    (h : ∀ dx s', H dx = none → dx ≠ a → Inv X pins σ (upd (upd H dx (exd dx [(f, y)])) a (exo a C (some dx))) s' → Q () s') : wpAny (model X.prog X.w) A (setAttr (.ref a) f u) Q E s := by
  obtain ⟨nm, q, N, bs, bm, sn, sub, ab, col, dd, k0, k1, k2, k3, k5, hC, hbm⟩ := T.cls
  have hcl : PySem.W.clsIn X.K C = some { name := nm, bases := bs, mro := .ref C :: bm, ns := N, qualname := q, hasDict := true, slotNames := sn, subclasses := sub, abstract := ab, collection := col, hasDel := false } := by unfold PySem.W.clsIn; rw [hC] <;> rfl
  obtain ⟨t1, ho⟩ := exo_at I.hok e
  obtain ⟨hp, g, d, t, os⟩ := s
  refine PySem.W.set_plain I.kIn (ox := { cls := .ref C, dict := none, data := .fields #[.ref t1, .none, .none, .none, .bool false, .none] }) (od := none) ⟨ho, rfl, rfl, trivial⟩ T.sa ?_
  refine exc_osaB O I.kIn ho hcl (show refsT b.bm (.ref C :: bm) = true from hbm) rfl hno (fun h' tk' dx k dn dne hx hn => ?_)
  have hnd : H dx = none := I.hok.fresh dn
  have nd : ∀ {b : Addr} {o : Obj}, hp.get? b = some o → b ≠ dx := fun {b o} q => Nat.ne_of_lt (Nat.lt_of_lt_of_le (Heap.lt_size q) dn)
  have na : ∀ {b : Addr}, H b = none → b ≠ a := fun {b} n z => by
    rw [z, e] at n
    cases n
  have Un1 : Un X.fs [] H (upd (upd H dx (exd dx [(f, y)])) a (exo a C (some dx))) hp h' := {
    keep := fun b o q n _ _ => k b o (na n) q
    slot := fun b o q n _ _ => ⟨o.slots, k b o (na n) q⟩
    free := fun b o q n _ => by rw [upd_ne (na n), upd_ne (nd q)]; exact n
    there := fun b o q _ => by
      by_cases hb : b = a
      · exact ⟨_, by rw [hb]; exact hx⟩
      · exact ⟨o, k b o hb q⟩
    tups := fun b xs q => by rw [upd_ne (at_ne e q exo_tup), upd_ne (ne_of_none q hnd)]; exact q
    frzs := fun b o v q => by rw [upd_ne (at_ne e q exo_frz), upd_ne (ne_of_none q hnd)]; exact q
    tbls := fun b ps q => ⟨#[], by rw [upd_ne (at_ne e q exo_tbl), upd_ne (ne_of_none q hnd), q]; simp⟩ }
  refine h dx _ hnd dne (I.un (t' := tk') Un1 fun b o q => ?_)
  by_cases hb : b = a
  · subst hb
    rw [upd_same] at q
    cases q
    exact exo_ok hx
  · rw [upd_ne hb] at q
    by_cases hd : b = dx
    · subst hd
      rw [upd_same] at q
      cases q
      exact exd_ok hn (relO_put (fs := []) ry fun g => True.intro)
    · rw [upd_ne hd] at q
      exact (I.hok b o q).stay (fun c v hc z => k c v (by
          rcases hc with hc | hc
          · rw [hc]
            exact hb
          · exact at_ne e hc exo_own) z)
        (fun c hc => by rw [upd_ne (at_ne e hc exo_own), upd_ne (ne_of_none hc hnd)]; exact hc) (fun c xs hc => by rw [upd_ne (at_ne e hc exo_tup), upd_ne (ne_of_none hc hnd)]; exact hc)
/-- self.f = y, a further one -/
theorem ostB_old (O : b.Ok) (T : OexB X.K C b) (I : Inv X pins σ H s) (e : H a = some (exo a C (some dx))) (ed : H dx = some (exd dx fs)) (hl : fs.length ≤ 900) (hno : PySem.W.findIn X.K (.ref C) f = some none) (ry : RelV y u)
    (h : ∀ s', Inv X pins σ (upd H dx (exd dx ((f, y) :: fs))) s' → Q () s') : wpAny (model X.prog X.w) A (setAttr (.ref a) f u) Q E s := by
  obtain ⟨nm, q, N, bs, bm, sn, sub, ab, col, dd, k0, k1, k2, k3, k5, hC, hbm⟩ := T.cls
  have hcl : PySem.W.clsIn X.K C = some { name := nm, bases := bs, mro := .ref C :: bm, ns := N, qualname := q, hasDict := true, slotNames := sn, subclasses := sub, abstract := ab, collection := col, hasDel := false } := by unfold PySem.W.clsIn; rw [hC] <;> rfl
  obtain ⟨t1, ho⟩ := exo_at I.hok e
  obtain ⟨mA, hns, rel⟩ := exd_at I.hok ed
  have hw := within_of rel
  obtain ⟨hp, g, d, t, os⟩ := s
  obtain ⟨oD, _, _, hoD, _, _⟩ := hns.count hw
  refine PySem.W.set_plain I.kIn (ox := { cls := .ref C, dict := some dx, data := .fields #[.ref t1, .none, .none, .none, .bool false, .none] }) (od := some oD) ⟨ho, rfl, rfl, hoD⟩ T.sa ?_
  refine osa_oldB O I.kIn ho hns hw (by rw [List.length_map]; omega) hcl (show refsT b.bm (.ref C :: bm) = true from hbm) rfl hno (fun h' tk' k hn => ?_)
  have hd : ∃ o, h'.get? dx = some o := by
    obtain ⟨o, _, _, e', _⟩ := hn
    exact ⟨o, e'⟩
  exact h _ (I.write (t' := tk') (x := dx) (e := dx) (o := exd dx ((f, y) :: fs)) (by rw [ed]; exact True.intro) (.inl rfl) k hd (exd_ok hn (relO_put ry rel)))
/-- B.__init__(self, ..): nothing of it is told -/
theorem oinitB_ok {us : List Value} {Q : Value → Shared → Prop} (O : b.Ok) (T : OexB X.K C b) (I : Inv X pins σ H s) (e : H a = some (exo a C none)) (hl : us.length ≤ sizeLine) (h : ∀ s', Inv X pins σ H s' → Q .none s') :
    wpAny (model X.prog X.w) A (call (.builtin b.initId) (.ref a :: us)) Q E s := by
  obtain ⟨nm, q, N, bs, bm, sn, sub, ab, col, dd, k0, k1, k2, k3, k5, hC, hbm⟩ := T.cls
  obtain ⟨t1, ho⟩ := exo_at I.hok e
  obtain ⟨hp, g, d, t, os⟩ := s
  refine wpAny_call (PySem.HandSPX.init_base O.F (fun Y => refsT_contains Y bm hbm) (I.kIn _ _ hC) ho hl fun h' t2 k hx => ?_)
  have J := I.write (t' := t) (x := a) (e := a) (o := exo a C none) (by rw [e]; exact True.intro) (.inl rfl) k ⟨_, hx⟩ (exo_ok hx)
  have eu : upd H a (exo a C none) = H := by
    funext b
    by_cases hb : b = a
    · rw [hb, upd_same, e]
    · rw [upd_ne hb]
  rw [eu] at J
  exact h _ J
end
/-- B.__init__(self, ..) -/
def tVeB (K : PySem.W.Frag) (b : XB) (ta : TA) : TE := fun σ H Q => ta σ H fun vs H1 => ∃ (a C : Addr) (ws : List V), vs = .ref a :: ws ∧ ws.length ≤ 1000 ∧ OexB K C b ∧ H1 a = some (exo a C none) ∧ Q .non H1
/-- self.f = e -/
def tOsB (K : PySem.W.Frag) (b : XB) (f : Str) (to te : TE) : TS := fun D σ H => te σ H fun y H1 => to σ H1 fun x H2 => ∃ a C : Addr, x = .ref a ∧ OexB K C b ∧ PySem.W.findIn K (.ref C) f = some none ∧
  ((H2 a = some (exo a C none) ∧ ∀ dx, H2 dx = none → dx ≠ a → D.nx σ (upd (upd H2 dx (exd dx [(f, y)])) a (exo a C (some dx)))) ∨
    ∃ (dx : Addr) (fs : List (Str × V)), H2 a = some (exo a C (some dx)) ∧ H2 dx = some (exd dx fs) ∧ fs.length ≤ 900 ∧ D.nx σ (upd H2 dx (exd dx ((f, y) :: fs))))
/-- C(e, ..) as a value, C's own __init__ keeping sp -/
def tExV (C : Addr) (sp : Sp) (ta : TA) : TE := fun σ H Q => ta σ H fun vs H1 => vs.length ≤ 1000 ∧ ∀ a, H1 a = none → sp (.ref a :: vs) (upd H1 a (exo a C none)) (fun v H2 => v = .non ∧ Q (.ref a) H2) (fun _ _ _ => False)
def tExK (C : Addr) (m : Nat) (sp : Sp) (gV : List V → List V → List V) (tk : TA) : TE := fun σ H Q => tk σ H fun zs H1 => zs.length = m ∧ ∀ a, H1 a = none → sp (gV [.ref a] zs) (upd H1 a (exo a C none)) (fun v H2 => v = .non ∧ Q (.ref a) H2) (fun _ _ _ => False)
section
variable {X : Cx} {o e : Expr} {es : List Expr} {to te : TE} {ta tk : TA} {f : Str} {p p' p1 p2 pos : Pos} {b : XB}
theorem pe_ownInitB {pl : Sem Bool} {x : Str} {B : Addr} (O : b.Ok) (hg : Gl X x) (hm : X.mg x = some (.ref B)) (r : ClX.CRead X.K B (.type "type")) (vV : PySem.W.findCls X.K (.ref B) (.type "type") "__init__" = some (.val (.builtin b.initId))) (ha : PA X (e :: es) ta)
    (hbi : PySem.W.handedIn (.builtin b.initId) = true := by decide +kernel)
    (hdb : (x == ("__debug__" : Str)) = false := by decide)
    (hc : eval (.Call (.Attribute (.Name x p1) "__init__" p2) (e :: es) [] pos) X.env = (do
      let ov ← eval (.Name x p1) X.env
      standAt p2.atName
      let (f, first) ← holding [ov] (getMethod ov "__init__" pl)
      callWith pos f first (backTo pos (starEach (e :: es) X.env)) (backToKw pos (keywordEach [] X.env))) := by rfl)
    (he : starEach (e :: es) X.env = (false, eval e X.env) :: starEach es X.env := by rfl) (hpl : (backTo pos (starEach es X.env)).any (·.1) = false := by rfl) :
    PE X (.Call (.Attribute (.Name x p1) "__init__" p2) (e :: es) [] pos) (tVeB X.K b ta) := by
  refine ⟨fun pins s σ H Q I h => ?_⟩
  refine PySem.W.methodCall_KW (ld_glob I hg hm ?_ hdb) hc
  refine PySem.W.method_cls I.kIn r.ga (PySem.W.cls_value I.kIn r.rd vV hbi ?_)
  show wpAny _ _ (callWith pos (Value.builtin b.initId) [] (backTo pos (starEach (e :: es) X.env)) []) _ _ _
  refine PyProof.Rows.callWith_method1 (thn (ha.run pos pins _ σ H _ (I.tok _) h) fun us s1 ⟨vs, H1, I1, r1, a, C, ws, ev, hl, T, ea, q⟩ => ?_) he hpl
  subst ev
  cases r1 with
  | @cons _ u0 _ ur ra rw' =>
    obtain rfl : u0 = Value.ref a := ra
    have hlen : ur.length ≤ sizeLine := by
      rw [← Paired.length rw', sizeLine_eq]
      omega
    exact oinitB_ok O T I1 ea hlen fun s' J => ⟨.non, H1, J, rfl, q⟩
theorem typ_RE : typeOf (.type "RuntimeError") = pure (.type "type") := by kernel_rfl
theorem pe_reinit {pl : Sem Bool} (hg : Gl X "RuntimeError") (hm : X.mg "RuntimeError" = none) (vV : PySem.W.findCls X.K (.type "RuntimeError") (.type "type") "__init__" = some (.val (.builtin "RuntimeError.__init__"))) (ha : PA X (e :: es) ta)
    (hc : eval (.Call (.Attribute (.Name "RuntimeError" p1) "__init__" p2) (e :: es) [] pos) X.env = (do
      let ov ← eval (.Name "RuntimeError" p1) X.env
      standAt p2.atName
      let (f, first) ← holding [ov] (getMethod ov "__init__" pl)
      callWith pos f first (backTo pos (starEach (e :: es) X.env)) (backToKw pos (keywordEach [] X.env))) := by rfl)
    (he : starEach (e :: es) X.env = (false, eval e X.env) :: starEach es X.env := by rfl) (hpl : (backTo pos (starEach es X.env)).any (·.1) = false := by rfl) :
    PE X (.Call (.Attribute (.Name "RuntimeError" p1) "__init__" p2) (e :: es) [] pos) (tVeB X.K xbR ta) := by
  refine ⟨fun pins s σ H Q I h => ?_⟩
  refine PySem.W.methodCall_KW (ld_blt I hg hm PyProof.Rows.Boot.«RuntimeError» ?_ (by decide) (by decide)) hc
  obtain ⟨m, fr⟩ := I.fr
  refine PySem.W.method_type fr I.ok.mod.kin typ_RE (by decide +kernel) vV (by decide +kernel) ?_
  show wpAny _ _ (callWith pos (Value.builtin "RuntimeError.__init__") [] (backTo pos (starEach (e :: es) X.env)) []) _ _ _
  refine PyProof.Rows.callWith_method1 (thn (ha.run pos pins _ σ H _ (I.tok _) h) fun us s1 ⟨vs, H1, I1, r1, a, C, ws, ev, hl, T, ea, q⟩ => ?_) he hpl
  subst ev
  cases r1 with
  | @cons _ u0 _ ur ra rw' =>
    obtain rfl : u0 = Value.ref a := ra
    have hlen : ur.length ≤ sizeLine := by
      rw [← Paired.length rw', sizeLine_eq]
      omega
    exact oinitB_ok (b := xbR) xbR_ok T I1 ea hlen fun s' J => ⟨.non, H1, J, rfl, q⟩
theorem ps_ostB (O : b.Ok) (ho : PE X o to) (he : PE X e te) (hs : swapsWith e (some (.Attribute o f p')) pos.line X.env = pure false := by rfl) : PS X (.Assign [.Attribute o f p'] e pos) (tOsB X.K b f to te) := by
  refine ⟨fun pins s σ H D I h => ?_⟩
  refine plainObj_wpAny_Assign_Attribute (thn (he.run pins s σ H _ I h) fun v s1 ⟨y, H1, I1, r1, q1⟩ => thn (ho.run pins s1 σ H1 _ I1 q1) fun u s2 ⟨x, H2, I2, r2, a, C, ex, T, hno, q⟩ => ?_) hs
  subst ex
  obtain rfl : u = Value.ref a := r2
  rcases q with ⟨ea, q⟩ | ⟨dx, fs, ea, ed, hl, q⟩
  · exact ostB_new O T I2 ea hno r1 fun dx s' n ne J => ⟨σ, _, J, q dx n ne⟩
  · exact ostB_old O T I2 ea ed hl hno r1 fun s' J => ⟨σ, _, J, q⟩
/-- the call of the class -/
theorem run_exV {CX : CXT} {C fI : Addr} {k : Nat} {fd : FuncData} {ps : List Str} {sp : Sp} {pins : List (Addr × Obj)} {σ : St} {H1 : Hp} {s1 : Shared} {Q : VK} {us : List Value} {kw : List (Str × Value)} {args : Addr → List Value} {vals : Addr → List V}
    (O : b.Ok) (T : OexB X.K C b) (iC : PySem.W.findIn X.K (.ref C) "__init__" = some (some (.ref fI))) (tI : PySem.W.typeIn X.K (.ref fI) = some (.type "function"))
    (F1 : FnOk X.prog X.w X.K X.mg X.base CX k fI fd ps sp) (hr : Room (k + 1) X.A) (hx : Passes CX X (fun _ _ _ => False)) (I1 : Inv X pins σ H1 s1) (hus : us.length ≤ sizeLine)
    (hb : ∀ a (s : Shared), X.K.In s.heap → BindsTo s fd ⟨.ref a :: us, kw⟩ (ps.zip (args a))) (r2 : ∀ a, Vals (vals a) (args a))
    (q1 : ∀ a, H1 a = none → sp (vals a) (upd H1 a (exo a C none)) (fun v H2 => v = .non ∧ Q (.ref a) H2) (fun _ _ _ => False)) :
    wpAny (model X.prog X.w) X.A (call (.ref C) us kw) (EP X pins σ Q) X.xe s1 := by
  obtain ⟨nm, q, N, bs, bm, sn, sub, ab, col, dd, k0, k1, k2, k3, k5, hC, hbm⟩ := T.cls
  obtain ⟨hp, g, dr, tk, os⟩ := s1
  have hsz : hp.objs.size ≤ hp.objs.size + 1 := Nat.le_succ _
  have hn : H1 (hp.objs.size + 1) = none := I1.hok.fresh hsz
  have hq := q1 (hp.objs.size + 1) hn
  have kk : ∀ b o, hp.get? b = some o → ((hp.push (PySem.W.kdv_tup us)).push (PySem.HandSPX.excO C hp.objs.size)).get? b = some o := fun b o e => Heap.get?_push_of_some _ (Heap.get?_push_of_some _ e)
  have hget : ((hp.push (PySem.W.kdv_tup us)).push (PySem.HandSPX.excO C hp.objs.size)).get? (hp.objs.size + 1) = some (PySem.HandSPX.excO C hp.objs.size) := by heap_get
  have I2 : Inv X pins σ (upd H1 (hp.objs.size + 1) (exo (hp.objs.size + 1) C none)) ⟨(hp.push (PySem.W.kdv_tup us)).push (PySem.HandSPX.excO C hp.objs.size), g, dr, tk, os⟩ :=
    I1.laid (t' := tk) (a := hp.objs.size + 1) (o := exo (hp.objs.size + 1) C none) (h' := (hp.push (PySem.W.kdv_tup us)).push (PySem.HandSPX.excO C hp.objs.size)) kk hsz (exo_ok hget)
  refine wpAny_call (call_ownK O.F (fun Y => refsT_contains Y bm hbm) (I1.kIn _ _ hC) (PySem.W.looks_findIn I1.kIn iC) (fun self => PySem.W.bind_fn I1.kIn self tI) hus
    (codeAny_mono (F1.run _ X.stack _ _ ⟨Value.ref (hp.objs.size + 1) :: us, kw⟩ (args (hp.objs.size + 1)) _ _ (fun _ _ _ => False) (hr.make C us kw) (I2.env0.make C us kw) (hb _ _ I2.kIn) (r2 _) hq) fun r s' hq' => ?_))
  cases r with
  | error er => exact hx pins σ _ _ er s' I2 hq'
  | ok fl =>
    cases fl with
    | ret u =>
      obtain ⟨v, H', I3, rv, ev, q3⟩ := I2.after hq'
      subst ev
      exact ⟨rv, ⟨V.ref (hp.objs.size + 1), H', I3, rfl, q3⟩⟩
    | next => exact False.elim hq'
    | brk => exact False.elim hq'
    | cont => exact False.elim hq'
theorem pe_exV {CX : CXT} {x : Str} {C fI : Addr} {k : Nat} {fd : FuncData} {ps : List Str} {sp : Sp} (O : b.Ok) (T : OexB X.K C b) (iC : PySem.W.findIn X.K (.ref C) "__init__" = some (some (.ref fI))) (tI : PySem.W.typeIn X.K (.ref fI) = some (.type "function"))
    (F1 : FnOk X.prog X.w X.K X.mg X.base CX k fI fd ps sp) (hr : Room (k + 1) X.A) (hb : Binds X.K fd ps []) (hx : Passes CX X (fun _ _ _ => False)) (hg : Gl X x) (hm : X.mg x = some (.ref C)) (ha : PA X (e :: es) ta)
    (hdb : (x == ("__debug__" : Str)) = false := by decide) (he : starEach (e :: es) X.env = (false, eval e X.env) :: starEach es X.env := by rfl) (hpl : (backTo pos (starEach es X.env)).any (·.1) = false := by rfl) :
    PE X (.Call (.Name x p) (e :: es) [] pos) (tExV C sp ta) := by
  refine ⟨fun pins s σ H Q I h => ?_⟩
  refine wpAny_Call_Name_kw (ld_glob I hg hm ?_ hdb)
  refine PySem.W.callWith_K (h₀ := X.base) I.ok.mod.kin T.kC (thn (ha.run pos pins s σ H _ I h) fun us s1 ⟨vs, H1, I1, r1, hz, q1⟩ => ⟨I1.kIn, ?_⟩) he hpl
  show wpAny _ _ (call (.ref C) us) _ _ _
  have hus : us.length ≤ sizeLine := by
    rw [← Paired.length r1, sizeLine_eq]
    omega
  have hl : ∀ a, (Value.ref a :: us).length = ps.length := fun a => by
    have q := q1 s1.heap.objs.size (I1.hok.fresh (Nat.le_refl _))
    have e1 := F1.len _ _ _ _ q
    have e2 := Paired.length r1
    rw [List.length_cons] at e1 ⊢
    rw [← e2]
    exact e1
  refine run_exV (args := fun a => .ref a :: us) (vals := fun a => .ref a :: vs) O T iC tI F1 hr hx I1 hus (fun a s hK => ?_) (fun a => .cons rfl r1) q1
  have z := hb s (.ref a :: us) hK (by rw [List.append_nil]; exact hl a)
  rw [List.append_nil] at z
  exact z
theorem pe_exV0 {CX : CXT} {x : Str} {C fI : Addr} {k : Nat} {fd : FuncData} {ps : List Str} {sp : Sp} (O : b.Ok) (T : OexB X.K C b) (iC : PySem.W.findIn X.K (.ref C) "__init__" = some (some (.ref fI))) (tI : PySem.W.typeIn X.K (.ref fI) = some (.type "function"))
    (F1 : FnOk X.prog X.w X.K X.mg X.base CX k fI fd ps sp) (hr : Room (k + 1) X.A) (hb : Binds X.K fd ps []) (hx : Passes CX X (fun _ _ _ => False)) (hg : Gl X x) (hm : X.mg x = some (.ref C))
    (hdb : (x == ("__debug__" : Str)) = false := by decide) : PE X (.Call (.Name x p) [] [] pos) (tExV C sp tNil) := by
  refine ⟨fun pins s σ H Q I h => ?_⟩
  refine wpAny_Call_Name_kw (ld_glob I hg hm ?_ hdb)
  refine PySem.W.callWith_K0 I.kIn T.kC ?_
  obtain ⟨_, q1⟩ := (show ([] : List V).length ≤ 1000 ∧ ∀ a, H a = none → sp (.ref a :: []) (upd H a (exo a C none)) (fun v H2 => v = .non ∧ Q (.ref a) H2) (fun _ _ _ => False) from h)
  have hl : ∀ a, [Value.ref a].length = ps.length := fun a => by
    have q := q1 s.heap.objs.size (I.hok.fresh (Nat.le_refl _))
    have e := F1.len _ _ _ _ q
    exact e
  refine run_exV (us := []) (kw := []) (args := fun a => [.ref a]) (vals := fun a => [.ref a]) O T iC tI F1 hr hx I (Nat.zero_le _) (fun a s hK => ?_) (fun a => .cons rfl .nil) q1
  have z := hb s [.ref a] hK (by rw [List.append_nil]; exact hl a)
  rw [List.append_nil] at z
  exact z
theorem pe_exK {CX : CXT} {x : Str} {C fI : Addr} {k : Nat} {fd : FuncData} {ps ks : List Str} {sp : Sp} {kws : List Keyword} {g : List Value → List Value → List Value} {gV : List V → List V → List V} (O : b.Ok) (T : OexB X.K C b) (iC : PySem.W.findIn X.K (.ref C) "__init__" = some (some (.ref fI))) (tI : PySem.W.typeIn X.K (.ref fI) = some (.type "function"))
    (F1 : FnOk X.prog X.w X.K X.mg X.base CX k fI fd ps sp) (hr : Room (k + 1) X.A) (hb : KBn X.K fd ps 1 ks g gV) (hx : Passes CX X (fun _ _ _ => False)) (hg : Gl X x) (hm : X.mg x = some (.ref C)) (hkw : PK X kws tk)
    (hall : (backToKw pos (keywordEach kws X.env)).all (·.1.isSome) = true := by rfl) (hks : (backToKw pos (keywordEach kws X.env)).filterMap (·.1) = ks := by rfl) (hdb : (x == ("__debug__" : Str)) = false := by decide)
    (hpl : ((backTo pos (starEach [] X.env)).any (·.1) || (backToKw pos (keywordEach kws X.env)).any (·.1.isNone)) = false := by rfl) :
    PE X (.Call (.Name x p) [] kws pos) (tExK C ks.length sp gV tk) := by
  refine ⟨fun pins s σ H Q I h => ?_⟩
  refine wpAny_Call_Name_kw (ld_glob I hg hm ?_ hdb)
  refine PySem.W.callWith_KW0 (h₀ := X.base) I.ok.mod.kin T.kC hall ?_ hpl
  refine thn (hkw.run pos pins s σ H _ I h) fun ws s2 ⟨zs, H2, I2, rz, l2, q2⟩ => ⟨I2.kIn, ?_⟩
  rw [hks]
  exact run_exV (us := []) (kw := ks.zip ws) (args := fun a => g [.ref a] ws) (vals := fun a => gV [.ref a] zs) O T iC tI F1 hr hx I2 (Nat.zero_le _)
    (fun a s hK => hb.to s [.ref a] ws hK rfl (rz.length.symm.trans l2)) (fun a => hb.rel (.cons rfl .nil) rz) q2

/-- raise C(e, ..) -/
theorem pmk_oexB {CX : CXT} {x : Str} {C fI : Addr} {k : Nat} {fd : FuncData} {ps : List Str} {sp : Sp} {ds : List Value} {dvs : List V} (O : b.Ok) (T : OexB X.K C b) (iC : PySem.W.findIn X.K (.ref C) "__init__" = some (some (.ref fI))) (tI : PySem.W.typeIn X.K (.ref fI) = some (.type "function"))
    (F1 : FnOk X.prog X.w X.K X.mg X.base CX k fI fd ps sp) (hr : Room (k + 1) X.A) (hb : Binds X.K fd ps ds) (hd : Vals dvs ds) (hx : Passes CX X (fun _ _ _ => False)) (hg : Gl X x) (hm : X.mg x = some (.ref C)) (ha : PA X (e :: es) ta)
    (hdb : (x == ("__debug__" : Str)) = false := by decide) (he : starEach (e :: es) X.env = (false, eval e X.env) :: starEach es X.env := by rfl) (hpl : (backTo pos (starEach es X.env)).any (·.1) = false := by rfl) :
    PMk X (.Call (.Name x p) (e :: es) [] pos) (tMkO C sp dvs ta) := by
  intro pins s σ H Q I h
  obtain ⟨nm, q, N, bs, bm, sn, sub, ab, col, dd, k0, k1, k2, k3, k5, hC, hbm⟩ := T.cls
  refine wpAny_Call_Name_kw (ld_glob I hg hm ?_ hdb)
  refine PySem.W.callWith_K (h₀ := X.base) I.ok.mod.kin T.kC (thn (ha.run pos pins s σ H _ I h) fun us s1 ⟨vs, H1, I1, r1, hz, q1⟩ => ⟨I1.kIn, ?_⟩) he hpl
  show wpAny _ _ (call (.ref C) us) _ _ _
  obtain ⟨hp, g, dr, tk, os⟩ := s1
  have hsz : hp.objs.size ≤ hp.objs.size + 1 := Nat.le_succ _
  have hn : H1 (hp.objs.size + 1) = none := I1.hok.fresh hsz
  have hq := q1 (hp.objs.size + 1) hn
  have kk : ∀ b o, hp.get? b = some o → ((hp.push (PySem.W.kdv_tup us)).push (PySem.HandSPX.excO C hp.objs.size)).get? b = some o := fun b o e => Heap.get?_push_of_some _ (Heap.get?_push_of_some _ e)
  have hget : ((hp.push (PySem.W.kdv_tup us)).push (PySem.HandSPX.excO C hp.objs.size)).get? (hp.objs.size + 1) = some (PySem.HandSPX.excO C hp.objs.size) := by heap_get
  have I2 : Inv X pins σ (upd H1 (hp.objs.size + 1) (exo (hp.objs.size + 1) C none)) ⟨(hp.push (PySem.W.kdv_tup us)).push (PySem.HandSPX.excO C hp.objs.size), g, dr, tk, os⟩ :=
    I1.laid (t' := tk) (a := hp.objs.size + 1) (o := exo (hp.objs.size + 1) C none) (h' := (hp.push (PySem.W.kdv_tup us)).push (PySem.HandSPX.excO C hp.objs.size)) kk hsz (exo_ok hget)
  have r2 : Vals (V.ref (hp.objs.size + 1) :: (vs ++ dvs)) (Value.ref (hp.objs.size + 1) :: (us ++ ds)) := .cons rfl (r1.append hd)
  have hl : (Value.ref (hp.objs.size + 1) :: us ++ ds).length = ps.length := by
    have e := r2.length
    rw [F1.len _ _ _ _ hq] at e
    exact e.symm
  have hus : us.length ≤ sizeLine := by
    rw [← Paired.length r1, sizeLine_eq]
    omega
  refine wpAny_call (call_ownK O.F (fun Y => refsT_contains Y bm hbm) (I1.kIn _ _ hC) (PySem.W.looks_findIn I1.kIn iC) (fun self => PySem.W.bind_fn I1.kIn self tI) hus
    (codeAny_mono (F1.run _ X.stack _ _ ⟨Value.ref (hp.objs.size + 1) :: us, []⟩ (Value.ref (hp.objs.size + 1) :: (us ++ ds)) _ _ (fun _ _ _ => False) (hr.make C us []) (I2.env0.make C us []) (hb _ (Value.ref (hp.objs.size + 1) :: us) I2.kIn hl) r2 hq) fun r s' hq' => ?_))
  cases r with
  | error er => exact hx pins σ _ _ er s' I2 hq'
  | ok fl =>
    cases fl with
    | ret u =>
      obtain ⟨v, H2, os2, bare2, un2, hok2, rv, ev, d, fs, ea, ed, hd1, q2⟩ := hq'
      subst ev
      obtain ⟨h2, g2, d2, t2, os'⟩ := s'
      exact ⟨rv, mk_end (raises_own T.exC T.tyC) I1 hsz kk un2 hok2 os2 bare2 ea ed hd1 q2⟩
    | next => exact False.elim hq'
    | brk => exact False.elim hq'
    | cont => exact False.elim hq'
end
/-- at a stands an exception of the class at C, its dict at d -/
def isX (H : Hp) (a C : Addr) (d : Option Addr) : Prop := H a = some (exo a C d) ∨ H a = some (xo a (.ref C) d)
theorem isX_at {P : Program} {w : World} {H : Hp} {h : Heap} {a C : Addr} {d : Option Addr} (hok : HOk P w H h) (he : isX H a C d) : ∃ oe vs, h.get? a = some oe ∧ Zc (.ref C) d oe ∧ oe.data = .fields vs := by
  rcases he with he | he
  · obtain ⟨t1, e⟩ := exo_at hok he
    exact ⟨_, _, e, ⟨rfl, rfl⟩, rfl⟩
  · exact xo_at hok he
/-- err.f -/
def tXoB (K : PySem.W.Frag) (f : Str) (te : TE) : TE := fun σ H Q => te σ H fun x H1 => ∃ (a C dd : Addr) (fs : List (Str × V)) (v : V), x = .ref a ∧ isX H1 a C (some dd) ∧ XfC K C ∧ PySem.W.findIn K (.ref C) f = some none ∧ (H1 dd = some (.xd fs) ∨ H1 dd = some (exd dd fs)) ∧ fs.lookup f = some v ∧ Q v H1
section
variable {X : Cx}
theorem pe_xoB {e : Expr} {te : TE} {pos : Pos} {f : Str} (he : PE X e te) (hb : attributeBase e f X.env (eval e X.env) = eval e X.env := by rfl) : PE X (.Attribute e f pos) (tXoB X.K f te) := by
  refine ⟨fun pins s σ H Q I h => ?_⟩
  refine attr_of hb (thn (he.run pins s σ H _ I h) fun u s1 hh => ?_)
  obtain ⟨x, H1, I1, rx, a, C, dd, fs, v, ex, ea, T, hno, ed, l, q⟩ := hh
  subst ex
  obtain rfl : u = Value.ref a := rx
  obtain ⟨oe, vs, ha, hz, hd⟩ := isX_at I1.hok ea
  have hx : ∃ mA, s1.heap.Ns1 dd mA ∧ ∀ f, RelO (fs.lookup f) (mA f) := by
    rcases ed with ed | ed
    · exact I1.hok dd _ ed
    · exact exd_at I1.hok ed
  obtain ⟨mA, hns, hr⟩ := hx
  obtain ⟨od, ho, hl⟩ := lookIn_ns hns
  obtain ⟨u, hu, ru⟩ := RelO.some_of (v := v) (o := mA f) (by rw [← l]; exact hr f)
  have J : PySem.W.InstAt s1.heap a oe C (some od) := ⟨ha, hz.1, by unfold PySem.W.notCls; rw [hd] <;> rfl, by rw [hz.2]; exact ho⟩
  exact HandSPX.exc_get I1.kIn J T.ga T.gg T.exC (PySem.W.findObj_own T.hdC hno rfl (by rw [hl, hu])) (handed_of ru) ⟨v, H1, I1.tok _, ru, q⟩
end
end L2
namespace PySem.W
open PySem PySem.Spec PySem.Calls PyProof.Rows
section
variable {prog : Program} {w : World} {A : Around} {E : Value → Shared → Prop} {s : Shared} {K : Frag} {x D : Addr} {ox : Obj} {od : Option Obj}
theorem findObj_dataO {C : Addr} {name : Str} {a g : Value} (hc : (clsIn K C).isSome = true) (ha : findIn K (.ref C) name = some (some a)) (hg : specialIn K a "__get__" = some (some g)) (ht : takesIn K a = some true) : findObj K C od name = some (.bind g a) := by
  obtain ⟨cd, hc⟩ := Option.isSome_iff_exists.mp hc
  unfold findObj
  rw [hc, Option.bind_some, ha, Option.bind_some]
  simp [hg, ht]
theorem kin_classO {Q : Option Value → Shared → Prop} (hga : findIn K (.ref D) "__getattribute__" = some (some (.builtin "BaseException.__getattribute__"))) (hgt : findIn K (.ref D) "__getattr__" = some none) (hsub : subIn K (.ref D) (.type "BaseException") = some true)
    (hdct : hasDictIn K D = true) (ha : findIn K (.ref D) "__class__" = some (some (.builtin "object.__class__")))
    (hn : specialIn K (.builtin "object.__class__") "__get__" = some (some (.builtin "getset_descriptor.__get__"))) (htk : takesIn K (.builtin "object.__class__") = some true) (hm : mroIn K D (.type "object") = some true)
    (X : K.In s.heap) (I : InstAt s.heap x ox D od) (h : Q (some (.ref D)) { s with toks := s.toks + 1 }) : wpAny (model prog w) A (getAttr? (.ref x) "__class__") Q E s := by
  have hf : findObj K D od "__class__" = some (.bind (.builtin "getset_descriptor.__get__") (.builtin "object.__class__")) := findObj_dataO (by obtain ⟨cd, hc, _⟩ := any_some hdct; rw [hc]; rfl) ha hn htk
  obtain ⟨hp, g, d, t, os⟩ := s
  have L0 := I.type (M := model prog w)
  have L1 := looks_findIn (M := model prog w) X hga
  have L2 := looks_findIn (M := model prog w) X hgt
  have L3 := looks_find (M := model prog w) X I hf
  have sub : Looks (model prog w) hp (isInstance (.ref x) (.type "BaseException")) true := L0.andThen (looks_subIn X hsub)
  have hx0 : (false && onTheHeap (Value.builtin "BaseException.__getattribute__")) = false := rfl
  have hx2 : (Value.builtin "BaseException.__getattribute__" == Value.builtin "object.__getattribute__") = false := by decide +kernel
  have hx1 : (onTheHeap (Value.ref D) && Value.builtin "BaseException.__getattribute__" == Value.builtin "object.__getattribute__") = false := by rw [hx2]; rfl
  unfold getAttr? getAttrBy? getAttrBy
  refine wpAny_bind (wpAny_mkText (wpAny_bind (wpAny_attempt (wpAny_holding (wpAny_bind (L0.at (wpAny_bind (L1.at ?_))))))))
  show wpAny _ _ (if (onTheHeap (Value.ref D) && Value.builtin "BaseException.__getattribute__" == Value.builtin "object.__getattribute__") = true then _ else _) _ _ _
  rw [hx1, if_neg Bool.false_ne_true]
  unfold getAttrByItsOwn hookBefore
  refine wpAny_bind ?_
  rw [if_pos (show onTheHeap (Value.ref D) = true from rfl)]
  refine L2.at ?_
  refine wpAny_bind (wpAny_attempt (wpAny_holding ?_))
  unfold callGetattribute
  rw [hx0, if_neg Bool.false_ne_true]
  unfold boundAndCalled
  rw [PySem.F.excAttr_ValueError.ga.bind (.ref x)]
  refine wpAny_bind (wpAny_pure ?_)
  show wpAny _ _ (call (.builtin "BaseException.__getattribute__") [.ref x, .str "__class__" t]) _ _ _
  refine wpAny_call (codeAny_call_builtin PySem.F.excAttr_ValueError.ga.plain PySem.F.entry_bexc_ga ?_)
  refine @check_slot (model prog w) _ _ ⟨hp, g, d, t + 1, os⟩ "BaseException.__getattribute__" "BaseException" "__getattribute__" (.ref x) [.str "__class__" t] [] _ (by decide +kernel) (by decide +kernel) sub (PySem.F.args_bexc_ga (.ref x) (.str "__class__" t)) ?_
  unfold Builtin.«object.__getattribute__»
  refine wpAny_bind (wpAny_of_eq (a := ((Value.ref x : Value), [Value.str "__class__" t])) (by first | rfl | (simp only [slotArgs]; rfl)) ?_)
  refine wpAny_bind (wpAny_pure (wpAny_bind (L0.at (wpAny_bind (L3.at ?_)))))
  show wpAny _ _ (holding [Value.builtin "object.__class__"] (call (.builtin "getset_descriptor.__get__") [.builtin "object.__class__", .ref x, .ref D]) >>= ret) _ _ _
  refine wpAny_bind (wpAny_holding (wpAny_call (class_get (s := ⟨hp, g, d, t + 1, os⟩) (ox := ox) (od := od) X I hm ?_)))
  refine wpAny_pure ?_
  show wpAny _ _ (handedOut (.ref D)) _ _ _
  rw [handedOut_of (v := .ref D) rfl]
  first
    | exact wpAny_pure (wpAny_pure h)
    | exact wpAny_pure h
    | exact wpAny_pure (wpAny_bind (wpAny_pure (wpAny_pure h)))
theorem kitx_excO (hga : findIn K (.ref D) "__getattribute__" = some (some (.builtin "BaseException.__getattribute__"))) (hgt : findIn K (.ref D) "__getattr__" = some none) (hsub : subIn K (.ref D) (.type "BaseException") = some true) (hdct : hasDictIn K D = true) (ha : findIn K (.ref D) "__class__" = some (some (.builtin "object.__class__")))
    (hn : specialIn K (.builtin "object.__class__") "__get__" = some (some (.builtin "getset_descriptor.__get__"))) (htk : takesIn K (.builtin "object.__class__") = some true) (hm : mroIn K D (.type "object") = some true) :
    KitX K (.ref x) (.ref D) (fun h => ∃ ox od, InstAt h x ox D od) where
  ty := fun _ _ _ ⟨_, _, I⟩ => I.type
  it := fun _ _ X _ => by
    obtain ⟨cdD, hcD, _⟩ := any_some hdct
    unfold clsIn at hcD
    split at hcD
    · rename_i c' d' cd' sl' ho
      intro A' Q' E' s' k q
      unfold isType loadHead
      exact wpAny_bind (wpAny_loadPart (k _ _ (X _ _ ho)) (wpAny_pure q))
    · cases hcD
  ne := fun h tp dd its n sl X htp => by
    obtain ⟨cdD, hcD, _⟩ := any_some hdct
    refine Bool.eq_false_iff.mpr fun q => ?_
    have e : D = tp := Value.ref.inj (beq_iff_eq.mp q)
    subst e
    unfold clsIn at hcD
    split at hcD
    · rename_i c' d' cd' sl' ho
      have z := (X _ _ ho).symm.trans htp
      cases z
    · cases hcD
  ca := fun X ⟨ox, od, I⟩ k => kin_classO hga hgt hsub hdct ha hn htk hm X I k
end
end PySem.W
namespace L2
open PySem PySem.Spec PyProof.Rows PySem.OXB
/-- isinstance(e, c), e an exception that stands -/
def rIsX (K : PySem.W.Frag) : List V → Hp → VK → Prop := fun xs H Q => ∃ (a D : Addr) (d : Option Addr) (c : V) (cv : Value) (b : Bool), xs = [.ref a, c] ∧ isX H a D d ∧ (∀ dd, d = some dd → ∃ fs, H dd = some (.xd fs) ∨ H dd = some (exd dd fs)) ∧ ExcC K D ∧ (∀ u, RelV c u → u = cv) ∧ PySem.W.kitOne K (.ref D) cv = some b ∧ Q (.bl b) H
theorem call_isX {X : Cx} : CallR X (.builtin "isinstance") (rIsX X.K) := by
  intro pins s σ H xs us Q I r h
  obtain ⟨a, D, d, c, cv, b, rfl, ha, hdd, C, hcv, e, q⟩ := h
  cases r with
  | cons rx rr =>
    cases rr with
    | cons rt rr =>
      cases rr
      cases rx
      have ec := hcv _ rt
      subst ec
      obtain ⟨oe, vs, hget, hz, hv⟩ := isX_at I.hok ha
      have J : ∃ ox od, PySem.W.InstAt s.heap a ox D od := by
        cases d with
        | none => exact ⟨oe, none, hget, hz.1, by unfold PySem.W.notCls; rw [hv] <;> rfl, by rw [hz.2]; trivial⟩
        | some dd =>
          obtain ⟨fs, ed⟩ := hdd dd rfl
          have hx : ∃ mA, s.heap.Ns1 dd mA ∧ ∀ f, RelO (fs.lookup f) (mA f) := by
            rcases ed with ed | ed
            · exact I.hok dd _ ed
            · exact exd_at I.hok ed
          obtain ⟨mA, hns, _⟩ := hx
          obtain ⟨od, ho, _⟩ := lookIn_ns hns
          exact ⟨oe, some od, hget, hz.1, by unfold PySem.W.notCls; rw [hv] <;> rfl, by rw [hz.2]; exact ho⟩
      exact PySem.W.kia_one (PySem.W.kitx_excO C.hg C.hk C.hs C.hd C.ha C.hn C.ht C.hm) I.kIn J e (fun z => nomatch z) fun tk => ⟨.bl b, H, I.kept (t' := tk) fun _ _ z => z, rfl, q⟩
end L2
set_option maxHeartbeats 1000000
namespace Tr
open PySem PySem.Spec PyProof.Rows L2
def Fr (H H' : Hp) (S : List Addr) : Prop := ∀ x o, H x = some o → x ∉ S → H' x = some o
theorem Fr.same {H H' : Hp} {S : List Addr} (s : Same H H') : Fr H H' S := fun x o h _ => s _ _ h
theorem Fr.trans {H H' H'' : Hp} {S S' : List Addr} (f : Fr H H' S) (f' : Fr H' H'' S') (g : ∀ x ∈ S', x ∈ S ∨ H x = none) : Fr H H'' S := fun x o h hn => f' _ _ (f _ _ h hn) fun hm => by
  rcases g x hm with q | q
  · exact hn q
  · rw [q] at h; cases h
theorem Fr.none {H H' : Hp} {S : List Addr} (f : Fr H H' S) (hb : ∀ x ∈ S, ∃ o, H' x = some o) {e : Addr} (he : H' e = none) : H e = none := by
  cases h : H e with
  | none => rfl
  | some o =>
    by_cases hm : e ∈ S
    · obtain ⟨o', ho⟩ := hb e hm
      rw [he] at ho
      cases ho
    · have := f _ _ h hm
      rw [he] at this
      cases this
theorem s_gsub {to ti : TE} {t : TSet} {v : V} {σ : L2.St} {H : Hp} {Q : L2.St → Hp → Prop} (h : to σ H fun o H1 => ti σ H1 fun i H2 => t o i v H2 fun H3 => Q σ H3) : gSub to ti t v σ H Q := h
theorem s_setU {p : Addr} {xs : List V} {k : Int} {j : Nat} {v : V} {H : Hp} {Q : Hp → Prop} (hp : H p = some (.lst xs)) (hj : ixN xs.length k = some j) (q : Q (upd H p (.lst (xs.set j v)))) : rSetU (.ref p) (.int k) v H Q := by
  simp only [rSetU, hp]
  exact ⟨j, hj, q⟩
theorem op_mulS {X : Cx} : OpR X (binaryOp .Mult) (fun x y H Q => ∃ z n, x = .str z ∧ y = .int n ∧ MulOk z n ∧ Q (.str (Txt.mul z n)) H) := by
  intro pins s σ H x y v u Q I rx ry h
  obtain ⟨i, j, rfl, rfl, hz, q⟩ := h
  obtain ⟨t, rfl⟩ := rx
  obtain ⟨t', rfl⟩ := ry
  exact SB.mul hz fun t' tk => ⟨.str _, H, I.tok _, ⟨_, rfl⟩, q⟩
theorem mulOk_small {z : Str} {n : Int} (h0 : 0 ≤ n) (hn : n ≤ 1000) (hz : z.length ≤ 1000) : MulOk z n := by
  have e1 : n.toNat ≤ 1000 := by omega
  refine ⟨by simp; omega, fun h1 h2 => ?_, fun h1 h2 => ?_⟩
  · have : (2 ^ 63 - 1 : Int) / n ≥ 1000 := by
      refine Int.le_ediv_of_mul_le (by omega) ?_
      have : (1000 : Int) * n ≤ 1000 * 1000 := by omega
      omega
    omega
  · have h5 : z.length * n.toNat ≤ 1000 * 1000 := Nat.mul_le_mul hz e1
    have h6 : 1000 * 1000 ≤ sizeLine := by decide
    unfold Builtin.Str.tooLong
    simp
    omega
end Tr
set_option maxHeartbeats 1000000
namespace Tr
open PySem PySem.Spec PyProof.Rows L2
def tkG (K : PySem.W.Frag) (x : Str) : Tok := match PySem.W.nsIn K mainGlobals x with
  | some (some (.int _ t)) => t
  | some (some (.str _ t)) => t
  | _ => 0
def tkC (K : PySem.W.Frag) (C : Addr) (x : Str) : Tok := match PySem.W.findIn K (.ref C) x with
  | some (some (.int _ t)) => t
  | some (some (.str _ t)) => t
  | _ => 0
def fdG (K : PySem.W.Frag) (p : Str × Option Str) : FuncData := match K.lookup (He.fAd K p) with
  | some ⟨_, _, .func fd, _⟩ => fd
  | _ => default
inductive Fx where
  | fa (f : He.Fa)
  | tup (x : Str) (vs : List Str)
  | noats (C : Str) (fs : List Str)
  | con (C f : Str) (i : Int)
  | cread (C : Str)
  | cinit (C : Str) (id : String)
  | oex (C : Str)
  | xf (C : Str)
  | init (C : Str)
  | oexb (C : Str) (b : PySem.OXB.XB)
  | excc (C : Str)
  | cinitT (T id : String)
  | kits (ns : List Str)
  | kitc (ns : List Str) (C : Str) (n : Nat)
  | kitt (ns : List Str) (T : String) (n : Nat) (ge : Bool)
def oexbB (K : PySem.W.Frag) (C : Addr) (b : PySem.OXB.XB) : Bool := (match K.lookup C with
  | some ⟨.type t, _, .cls cd, sl⟩ => (match cd.mro, sl.toList with
    | .ref C' :: bm, [_, _, _, _, some (.builtin n), _] => decide (t = "type") && (decide (C' = C) && (decide (n = b.newId) && (!cd.hasDel && (cd.hasDict && PySem.OXB.refsT b.bm bm))))
    | _, _ => false)
  | _ => false) && (He.eqO (PySem.W.findIn K (.ref C) "__setattr__") (some (some (.builtin "object.__setattr__"))) && (decide (PySem.W.subIn K (.ref C) (.type "BaseException") = some true) && (decide (PySem.W.typeIn K (.ref C) = some (.type "type")) && PySem.W.keepIn K (.ref C))))
def exccB (K : PySem.W.Frag) (C : Addr) : Bool := He.eqO (PySem.W.findIn K (.ref C) "__getattribute__") (some (some (.builtin "BaseException.__getattribute__"))) && (He.eqO (PySem.W.findIn K (.ref C) "__getattr__") (some none) && (decide (PySem.W.subIn K (.ref C) (.type "BaseException") = some true) && (PySem.W.hasDictIn K C &&
  (He.eqO (PySem.W.findIn K (.ref C) "__class__") (some (some (.builtin "object.__class__"))) && (He.eqO (PySem.W.specialIn K (.builtin "object.__class__") "__get__") (some (some (.builtin "getset_descriptor.__get__"))) && (decide (PySem.W.takesIn K (.builtin "object.__class__") = some true) && decide (PySem.W.mroIn K C (.type "object") = some true)))))))
def cinitTB (K : PySem.W.Frag) (T id : String) : Bool := match PySem.W.findCls K (.type T) (.type "type") "__init__" with
  | some (.val (.builtin s)) => decide (s = id)
  | _ => false
def oexB (K : PySem.W.Frag) (C : Addr) : Bool := (match K.lookup C with
  | some ⟨.type t, _, .cls cd, sl⟩ => (match cd.mro, sl.toList with
    | .ref C' :: bm, [_, _, _, _, some (.builtin n), _] => decide (t = "type") && (decide (C' = C) && (decide (n = "ValueError.__new__") && (!cd.hasDel && (cd.hasDict && PySem.HandSPX.refsVE bm))))
    | _, _ => false)
  | _ => false) && (He.eqO (PySem.W.findIn K (.ref C) "__setattr__") (some (some (.builtin "object.__setattr__"))) && (decide (PySem.W.subIn K (.ref C) (.type "BaseException") = some true) && (decide (PySem.W.typeIn K (.ref C) = some (.type "type")) && PySem.W.keepIn K (.ref C))))
def conB (K : PySem.W.Frag) (C : Addr) (f : Str) (i : Int) : Bool := match PySem.W.findIn K (.ref C) f with
  | some (some (.int j t)) => decide (j = i) && (He.eqO (PySem.W.specialIn K (.int j t) "__get__") (some none) && !(PySem.W.copiedNames.contains f))
  | _ => false
def cinitB (K : PySem.W.Frag) (C : Addr) (id : String) : Bool := match PySem.W.findCls K (.ref C) (.type "type") "__init__" with
  | some (.val (.builtin s)) => decide (s = id)
  | _ => false
def Fx.ok (K : PySem.W.Frag) : Fx → Bool
  | .fa f => f.ok K
  | .tup x vs => He.tupB K x (vs.map He.Dv.str) && He.eqO (PySem.W.nsIn K mainGlobals x) (some (some (.ref (He.ga K x))))
  | .noats C fs => fs.all fun f => He.eqO (PySem.W.findIn K (.ref (He.ga K C)) f) (some none)
  | .con C f i => conB K (He.ga K C) f i
  | .cread C => PySem.W.readsIn K (He.ga K C) (.type "type") && He.eqO (PySem.W.specialIn K (.ref (He.ga K C)) "__getattribute__") (some (some (.builtin "type.__getattribute__")))
  | .cinit C id => cinitB K (He.ga K C) id
  | .oex C => oexB K (He.ga K C)
  | .xf C => L2.xfB K (He.ga K C)
  | .init C => He.eqO (PySem.W.findIn K (.ref (He.ga K C)) "__init__") (some (some (.ref (He.ma K (He.ga K C) "__init__")))) && decide (PySem.W.typeIn K (.ref (He.ma K (He.ga K C) "__init__")) = some (.type "function"))
  | .oexb C b => oexbB K (He.ga K C) b
  | .excc C => exccB K (He.ga K C)
  | .cinitT T id => cinitTB K T id
  | .kits ns => (List.range ns.length).all fun i => (List.range ns.length).all fun j => decide (PySem.W.kitOne K (.ref (He.ga K (ns.getD i ""))) (.ref (He.ga K (ns.getD j ""))) = some (decide (i = j)))
  | .kitc ns C n => (List.range ns.length).all fun i => decide (PySem.W.kitOne K (.ref (He.ga K (ns.getD i ""))) (.ref (He.ga K C)) = some (decide (i < n)))
  | .kitt ns T n ge => (List.range ns.length).all fun i => decide (PySem.W.kitOne K (.ref (He.ga K (ns.getD i ""))) (.type T) = some (if ge then decide (n ≤ i) else decide (i < n)))
section
variable {K : PySem.W.Frag} {h : Heap} {mg : Str → Option Value}
theorem fx_int (X : K.In h) (G : h.Ns mainGlobals mg) {x : Str} {i : Int} (c : (Fx.fa (.int x i)).ok K = true) : mg x = some (.int i (tkG K x)) := by
  have c2 : (match PySem.W.nsIn K mainGlobals x with
    | some (some (.int j _)) => decide (j = i)
    | _ => false) = true := c
  unfold tkG
  split at c2
  · rename_i j t e
    have ej : j = i := of_decide_eq_true c2
    subst ej
    rw [e]
    exact PySem.W.mg_of X G e
  · cases c2
theorem fx_str (X : K.In h) (G : h.Ns mainGlobals mg) {x z : Str} (c : (Fx.fa (.str x z)).ok K = true) : mg x = some (.str z (tkG K x)) := by
  have c2 : (match PySem.W.nsIn K mainGlobals x with
    | some (some (.str y _)) => decide (y = z)
    | _ => false) = true := c
  unfold tkG
  split at c2
  · rename_i j t e
    have ej : j = z := of_decide_eq_true c2
    subst ej
    rw [e]
    exact PySem.W.mg_of X G e
  · cases c2
theorem fx_glo (X : K.In h) (G : h.Ns mainGlobals mg) {x : Str} (c : (Fx.fa (.glo x)).ok K = true) : mg x = some (.ref (He.ga K x)) := He.glo_ok X G c
theorem fx_free (X : K.In h) (G : h.Ns mainGlobals mg) {x : Str} (c : (Fx.fa (.free x)).ok K = true) : mg x = none := He.free_ok X G c
theorem fx_cls {x : Str} (c : (Fx.fa (.cls x)).ok K = true) : Cls K (He.ga K x) := He.cls_ok c
theorem fx_meth {x m : Str} (c : (Fx.fa (.meth x m)).ok K = true) : Meth K (He.ga K x) m (He.ma K (He.ga K x) m) := He.meth_ok c
theorem fx_mkr {x : Str} (c : (Fx.fa (.mkr x)).ok K = true) : Mk K (He.ga K x) (He.ma K (He.ga K x) "__init__") := He.mkr_ok c
theorem fx_exm {x y : Str} {b : Bool} (c : (Fx.fa (.exm x y b)).ok K = true) : PySem.W.exmOne K (.ref (He.ga K x)) (.ref (He.ga K y)) = some b := He.exm_ok c
theorem fx_tup {x : Str} {vs : List Str} (c : (Fx.tup x vs).ok K = true) (H : Hp) : SqT K H (He.ga K x) (vs.map V.str) := by
  have c1 := (He.ba c).1
  have e := He.tupB_ok c1 H
  rw [List.map_map] at e
  exact e
theorem fx_tupG (X : K.In h) (G : h.Ns mainGlobals mg) {x : Str} {vs : List Str} (c : (Fx.tup x vs).ok K = true) : mg x = some (.ref (He.ga K x)) := PySem.W.mg_of X G (He.eqO_ok (He.ba c).2)
theorem fx_noats {C : Str} {fs : List Str} (c : (Fx.noats C fs).ok K = true) (f : Str) (hf : f ∈ fs) : PySem.W.findIn K (.ref (He.ga K C)) f = some none := He.eqO_ok (List.all_eq_true.mp c f hf)
theorem fx_con {C f : Str} {i : Int} (c : (Fx.con C f i).ok K = true) : Con K (He.ga K C) f (.int i) (.int i (tkC K (He.ga K C) f)) := by
  have c2 : conB K (He.ga K C) f i = true := c
  unfold conB at c2
  unfold tkC
  split at c2
  · rename_i j t e
    obtain ⟨h1, h2⟩ := He.ba c2
    obtain ⟨h3, h4⟩ := He.ba h2
    have ej : j = i := of_decide_eq_true h1
    subst ej
    rw [e]
    exact ⟨e, ⟨t, rfl⟩, He.eqO_ok h3, by simpa using h4⟩
  · cases c2
theorem fx_cread {C : Str} (c : (Fx.cread C).ok K = true) : ClX.CRead K (He.ga K C) (.type "type") := ⟨(He.ba c).1, He.eqO_ok (He.ba c).2⟩
theorem fx_cinit {C : Str} {id : String} (c : (Fx.cinit C id).ok K = true) : PySem.W.findCls K (.ref (He.ga K C)) (.type "type") "__init__" = some (.val (.builtin id)) := by
  have c2 : cinitB K (He.ga K C) id = true := c
  unfold cinitB at c2
  split at c2
  · rename_i s e
    have es : s = id := of_decide_eq_true c2
    subst es
    exact e
  · cases c2
theorem fx_oex {C : Str} (c : (Fx.oex C).ok K = true) : OexC K (He.ga K C) := by
  have c2 : oexB K (He.ga K C) = true := c
  unfold oexB at c2
  obtain ⟨h1, h2⟩ := He.ba c2
  obtain ⟨h3, h4⟩ := He.ba h2
  obtain ⟨h5, h6⟩ := He.ba h4
  obtain ⟨h7, h8⟩ := He.ba h6
  refine ⟨?_, He.eqO_ok h3, of_decide_eq_true h5, of_decide_eq_true h7, h8⟩
  split at h1
  · rename_i t dd cd sl ho
    split at h1
    · rename_i C' bm k0 k1 k2 k3 n k5 hm hs
      obtain ⟨g1, g⟩ := He.ba h1
      obtain ⟨g2, g⟩ := He.ba g
      obtain ⟨g3, g⟩ := He.ba g
      obtain ⟨g4, g⟩ := He.ba g
      obtain ⟨g5, g6⟩ := He.ba g
      have e1 : t = "type" := of_decide_eq_true g1
      have e2 : C' = He.ga K C := of_decide_eq_true g2
      have e3 : n = "ValueError.__new__" := of_decide_eq_true g3
      have e4 : cd.hasDel = false := by simpa using g4
      subst e1 e2 e3
      obtain ⟨nm, bs, mro, ns, qn, hd, sn, sub, ab, col, del⟩ := cd
      have hm' : mro = .ref (He.ga K C) :: bm := hm
      have e4' : del = false := e4
      have e5 : hd = true := g5
      subst hm' e4' e5
      have hsl : sl = #[k0, k1, k2, k3, some (.builtin "ValueError.__new__"), k5] := by
        cases sl with
        | mk l =>
          have hl : l = [k0, k1, k2, k3, some (.builtin "ValueError.__new__"), k5] := hs
          rw [hl]
      subst hsl
      exact ⟨nm, qn, ns, bs, bm, sn, sub, ab, col, dd, k0, k1, k2, k3, k5, ho, g6⟩
    · cases h1
  · cases h1
theorem fx_oexb {C : Str} {b : PySem.OXB.XB} (c : (Fx.oexb C b).ok K = true) : OexB K (He.ga K C) b := by
  have c2 : oexbB K (He.ga K C) b = true := c
  unfold oexbB at c2
  obtain ⟨h1, h2⟩ := He.ba c2
  obtain ⟨h3, h4⟩ := He.ba h2
  obtain ⟨h5, h6⟩ := He.ba h4
  obtain ⟨h7, h8⟩ := He.ba h6
  refine ⟨?_, He.eqO_ok h3, of_decide_eq_true h5, of_decide_eq_true h7, h8⟩
  split at h1
  · rename_i t dd cd sl ho
    split at h1
    · rename_i C' bm k0 k1 k2 k3 n k5 hm hs
      obtain ⟨g1, g⟩ := He.ba h1
      obtain ⟨g2, g⟩ := He.ba g
      obtain ⟨g3, g⟩ := He.ba g
      obtain ⟨g4, g⟩ := He.ba g
      obtain ⟨g5, g6⟩ := He.ba g
      have e1 : t = "type" := of_decide_eq_true g1
      have e2 : C' = He.ga K C := of_decide_eq_true g2
      have e3 : n = b.newId := of_decide_eq_true g3
      have e4 : cd.hasDel = false := by simpa using g4
      subst e1 e2 e3
      obtain ⟨nm, bs, mro, ns, qn, hd, sn, sub, ab, col, del⟩ := cd
      have hm' : mro = .ref (He.ga K C) :: bm := hm
      have e4' : del = false := e4
      have e5 : hd = true := g5
      subst hm' e4' e5
      have hsl : sl = #[k0, k1, k2, k3, some (.builtin b.newId), k5] := by
        cases sl with
        | mk l =>
          have hl : l = [k0, k1, k2, k3, some (.builtin b.newId), k5] := hs
          rw [hl]
      subst hsl
      exact ⟨nm, qn, ns, bs, bm, sn, sub, ab, col, dd, k0, k1, k2, k3, k5, ho, g6⟩
    · cases h1
  · cases h1
theorem fx_excc {C : Str} (c : (Fx.excc C).ok K = true) : ExcC K (He.ga K C) := by
  have c2 : exccB K (He.ga K C) = true := c
  unfold exccB at c2
  obtain ⟨h1, c2⟩ := He.ba c2
  obtain ⟨h2, c2⟩ := He.ba c2
  obtain ⟨h3, c2⟩ := He.ba c2
  obtain ⟨h4, c2⟩ := He.ba c2
  obtain ⟨h5, c2⟩ := He.ba c2
  obtain ⟨h6, c2⟩ := He.ba c2
  obtain ⟨h7, h8⟩ := He.ba c2
  exact ⟨He.eqO_ok h1, He.eqO_ok h2, of_decide_eq_true h3, h4, He.eqO_ok h5, He.eqO_ok h6, of_decide_eq_true h7, of_decide_eq_true h8⟩
theorem fx_cinitT {T id : String} (c : (Fx.cinitT T id).ok K = true) : PySem.W.findCls K (.type T) (.type "type") "__init__" = some (.val (.builtin id)) := by
  have c2 : cinitTB K T id = true := c
  unfold cinitTB at c2
  split at c2
  · rename_i s e
    have es : s = id := of_decide_eq_true c2
    subst es
    exact e
  · cases c2
theorem fx_kits {ns : List Str} (c : (Fx.kits ns).ok K = true) (i : Nat) (hi : i < ns.length) (j : Nat) (hj : j < ns.length) : PySem.W.kitOne K (.ref (He.ga K (ns.getD i ""))) (.ref (He.ga K (ns.getD j ""))) = some (decide (i = j)) :=
  of_decide_eq_true (List.all_eq_true.mp (List.all_eq_true.mp c i (List.mem_range.mpr hi)) j (List.mem_range.mpr hj))
theorem fx_kitc {ns : List Str} {C : Str} {n : Nat} (c : (Fx.kitc ns C n).ok K = true) (i : Nat) (hi : i < ns.length) : PySem.W.kitOne K (.ref (He.ga K (ns.getD i ""))) (.ref (He.ga K C)) = some (decide (i < n)) :=
  of_decide_eq_true (List.all_eq_true.mp c i (List.mem_range.mpr hi))
theorem fx_kitt {ns : List Str} {T : String} {n : Nat} {ge : Bool} (c : (Fx.kitt ns T n ge).ok K = true) (i : Nat) (hi : i < ns.length) : PySem.W.kitOne K (.ref (He.ga K (ns.getD i ""))) (.type T) = some (if ge then decide (n ≤ i) else decide (i < n)) :=
  of_decide_eq_true (List.all_eq_true.mp c i (List.mem_range.mpr hi))
theorem fx_xf {C : Str} (c : (Fx.xf C).ok K = true) : XfC K (He.ga K C) := xfB_ok c
theorem fx_init1 {C : Str} (c : (Fx.init C).ok K = true) : PySem.W.findIn K (.ref (He.ga K C)) "__init__" = some (some (.ref (He.ma K (He.ga K C) "__init__"))) := He.eqO_ok (He.ba c).1
theorem fx_init2 {C : Str} (c : (Fx.init C).ok K = true) : PySem.W.typeIn K (.ref (He.ma K (He.ga K C) "__init__")) = some (.type "function") := of_decide_eq_true (He.ba c).2
end
abbrev AlB : Type := Bool × List He.FnW
def obsB (fx : List Fx) (fn : List He.DefD) (K : PySem.W.Frag) : AlB := ((fx.all fun f => f.ok K) && fn.all fun d => d.ok K, fn.map fun d => He.fnW K d.at_)
def valB (fn : List He.DefD) : AlB := (true, fn.map He.DefD.val)
def obsBG (n : Nat) (fx : List Fx) (fn : List He.DefD) (g : Addr → Option Obj) : AlB := obsB fx fn (He.frG g (cStatics :: He.asD g n))
def hookB (n : Nat) (fx : List Fx) (fn : List He.DefD) : PySem.W.Hook where
  α := AlB
  obs := fun s => obsBG n fx fn s.heap.get?
  val := fun _ => valB fn
  says := fun _ h => ∃ K : PySem.W.Frag, K.In h ∧ obsB fx fn K = valB fn
  of := fun _ _ e => ⟨_, He.frG_in, e⟩
  keeps := fun _ _ _ ⟨K, hK, c⟩ k => ⟨K, PySem.W.Frag.In.keeps hK k, c⟩
theorem obsBG_eq {n : Nat} {fx : List Fx} {fn : List He.DefD} {g : Addr → Option Obj} {s : Shared} (h : ∀ a, g a = s.heap.get? a) : obsBG n fx fn g = (hookB n fx fn).obs s := by
  have e : g = s.heap.get? := funext h
  rw [e]
  rfl
section
variable {fx : List Fx} {fn : List He.DefD} {K : PySem.W.Frag}
theorem says_fx (c : obsB fx fn K = valB fn) (i : Nat) {f : Fx} (hf : fx[i]? = some f) : f.ok K = true := by
  have c1 := (He.ba (show ((fx.all fun f => f.ok K) && fn.all fun d => d.ok K) = true from congrArg Prod.fst c)).1
  exact List.all_eq_true.mp c1 f (List.mem_of_getElem? hf)
theorem says_fn (c : obsB fx fn K = valB fn) (i : Nat) {d : He.DefD} (hd : fn[i]? = some d) : ∃ fd, FunD K d.name d.qual d.params d.body d.scope (d.dvs K) (d.kws K) (He.fAd K d.at_) fd := by
  have c2 := (He.ba (show ((fx.all fun f => f.ok K) && fn.all fun d => d.ok K) = true from congrArg Prod.fst c)).2
  have e : fn.map (fun d => He.fnW K d.at_) = fn.map He.DefD.val := congrArg Prod.snd c
  have e2 : (fn.map fun d => He.fnW K d.at_)[i]? = (fn.map He.DefD.val)[i]? := by rw [e]
  rw [List.getElem?_map, List.getElem?_map, hd] at e2
  exact He.DefD.funD (Option.some.inj e2) (List.all_eq_true.mp c2 d (List.mem_of_getElem? hd))
/-- a def without defaults -/
def mkD (at_ : Str × Option Str) (x qual : Str) (st : Stmt) : He.DefD := ⟨at_, x, qual, defArgs st, defBody st, defScope st, [], []⟩
theorem says_fun {x qual : Str} {st : Stmt} {p : Str × Option Str} (c : obsB fx fn K = valB fn) (i : Nat) (hd : fn[i]? = some (mkD p x qual st)) : Fun K x qual st (He.fAd K p) (fdG K p) := by
  obtain ⟨fd, F⟩ := says_fn c i hd
  obtain ⟨oc, od, dV, kV, doc, pm, an, cdv, ct, osl, e1, e2, e3, e4, e5⟩ := F.ex
  have e0 : dV = .none := by
    rcases e4 with ⟨q1, q2⟩ | ⟨q1, _⟩
    · first | exact q1 | exact q2
    · exact absurd rfl q1
  subst e0
  have ef : fdG K p = fd := by
    unfold fdG
    have e2' : K.lookup (He.fAd K p) = some ⟨oc, od, .func fd, osl⟩ := e2
    rw [e2']
  rw [ef]
  exact ⟨⟨oc, od, kV, doc, pm, an, cdv, ct, osl, e1, e2, e3⟩, F.kp⟩
end
end Tr
set_option maxHeartbeats 1000000

namespace Tr
open PySem PySem.OXB L2
def top (i : Nat) : Stmt := PySem.Challenge.pw_trackedreads_k01_errors_made.main.body.getD i (.Pass ⟨0, 0, 0, 0⟩)

abbrev s_BadBook___init__ : Stmt := (inClass (top 2) 0)
abbrev N_BadBook___init__ : List Str := ["self", "at"]
theorem sc_BadBook___init__ : FnScope ["self", "at"] ["self", "at"] (defScope s_BadBook___init__) := ⟨rfl, rfl, rfl, by decide +kernel, rfl, by decide +kernel, by decide +kernel⟩
abbrev s_TooMany___init__ : Stmt := (inClass (top 3) 0)
abbrev N_TooMany___init__ : List Str := ["self", "what"]
theorem sc_TooMany___init__ : FnScope ["self", "what"] ["self", "what"] (defScope s_TooMany___init__) := ⟨rfl, rfl, rfl, by decide +kernel, rfl, by decide +kernel, by decide +kernel⟩
abbrev s_NoName___init__ : Stmt := (inClass (top 4) 0)
abbrev N_NoName___init__ : List Str := ["self", "name"]
theorem sc_NoName___init__ : FnScope ["self", "name"] ["self", "name"] (defScope s_NoName___init__) := ⟨rfl, rfl, rfl, by decide +kernel, rfl, by decide +kernel, by decide +kernel⟩
abbrev s_BadArguments___init__ : Stmt := (inClass (top 5) 0)
abbrev N_BadArguments___init__ : List Str := ["self", "count"]
theorem sc_BadArguments___init__ : FnScope ["self", "count"] ["self", "count"] (defScope s_BadArguments___init__) := ⟨rfl, rfl, rfl, by decide +kernel, rfl, by decide +kernel, by decide +kernel⟩
abbrev s_NotWaiting___init__ : Stmt := (inClass (top 6) 0)
abbrev N_NotWaiting___init__ : List Str := ["self", "name"]
theorem sc_NotWaiting___init__ : FnScope ["self", "name"] ["self", "name"] (defScope s_NotWaiting___init__) := ⟨rfl, rfl, rfl, by decide +kernel, rfl, by decide +kernel, by decide +kernel⟩
abbrev s_BadState___init__ : Stmt := (inClass (top 7) 0)
abbrev N_BadState___init__ : List Str := ["self", "part"]
theorem sc_BadState___init__ : FnScope ["self", "part"] ["self", "part"] (defScope s_BadState___init__) := ⟨rfl, rfl, rfl, by decide +kernel, rfl, by decide +kernel, by decide +kernel⟩
abbrev s_BadRow___init__ : Stmt := (inClass (top 8) 0)
abbrev N_BadRow___init__ : List Str := ["self", "at"]
theorem sc_BadRow___init__ : FnScope ["self", "at"] ["self", "at"] (defScope s_BadRow___init__) := ⟨rfl, rfl, rfl, by decide +kernel, rfl, by decide +kernel, by decide +kernel⟩
abbrev s_BadAsk___init__ : Stmt := (inClass (top 9) 0)
abbrev N_BadAsk___init__ : List Str := ["self", "ask"]
theorem sc_BadAsk___init__ : FnScope ["self", "ask"] ["self", "ask"] (defScope s_BadAsk___init__) := ⟨rfl, rfl, rfl, by decide +kernel, rfl, by decide +kernel, by decide +kernel⟩
abbrev s_BadStep___init__ : Stmt := (inClass (top 10) 0)
abbrev N_BadStep___init__ : List Str := ["self", "at"]
theorem sc_BadStep___init__ : FnScope ["self", "at"] ["self", "at"] (defScope s_BadStep___init__) := ⟨rfl, rfl, rfl, by decide +kernel, rfl, by decide +kernel, by decide +kernel⟩
abbrev s_Unlike___init__ : Stmt := (inClass (top 11) 0)
abbrev N_Unlike___init__ : List Str := ["self", "what"]
theorem sc_Unlike___init__ : FnScope ["self", "what"] ["self", "what"] (defScope s_Unlike___init__) := ⟨rfl, rfl, rfl, by decide +kernel, rfl, by decide +kernel, by decide +kernel⟩
abbrev s_HasWait___init__ : Stmt := (inClass (top 12) 0)
abbrev N_HasWait___init__ : List Str := ["self", "name"]
theorem sc_HasWait___init__ : FnScope ["self", "name"] ["self", "name"] (defScope s_HasWait___init__) := ⟨rfl, rfl, rfl, by decide +kernel, rfl, by decide +kernel, by decide +kernel⟩
abbrev s_Taken___init__ : Stmt := (inClass (top 13) 0)
abbrev N_Taken___init__ : List Str := ["self", "name"]
theorem sc_Taken___init__ : FnScope ["self", "name"] ["self", "name"] (defScope s_Taken___init__) := ⟨rfl, rfl, rfl, by decide +kernel, rfl, by decide +kernel, by decide +kernel⟩
abbrev s_Ring___init__ : Stmt := (inClass (top 14) 0)
abbrev N_Ring___init__ : List Str := ["self", "effects", "cells"]
theorem sc_Ring___init__ : FnScope ["self", "effects", "cells"] ["self", "effects", "cells"] (defScope s_Ring___init__) := ⟨rfl, rfl, rfl, by decide +kernel, rfl, by decide +kernel, by decide +kernel⟩
abbrev s_Over___init__ : Stmt := (inClass (top 15) 0)
abbrev N_Over___init__ : List Str := ["self"]
theorem sc_Over___init__ : FnScope ["self"] ["self"] (defScope s_Over___init__) := ⟨rfl, rfl, rfl, by decide +kernel, rfl, by decide +kernel, by decide +kernel⟩
abbrev s_TooLong___init__ : Stmt := (inClass (top 16) 0)
abbrev N_TooLong___init__ : List Str := ["self", "cells"]
theorem sc_TooLong___init__ : FnScope ["self", "cells"] ["self", "cells"] (defScope s_TooLong___init__) := ⟨rfl, rfl, rfl, by decide +kernel, rfl, by decide +kernel, by decide +kernel⟩
abbrev s_Misplaced___init__ : Stmt := (inClass (top 17) 0)
abbrev N_Misplaced___init__ : List Str := ["self", "name"]
theorem sc_Misplaced___init__ : FnScope ["self", "name"] ["self", "name"] (defScope s_Misplaced___init__) := ⟨rfl, rfl, rfl, by decide +kernel, rfl, by decide +kernel, by decide +kernel⟩
abbrev s_Busy___init__ : Stmt := (inClass (top 18) 0)
abbrev N_Busy___init__ : List Str := ["self", "name"]
theorem sc_Busy___init__ : FnScope ["self", "name"] ["self", "name"] (defScope s_Busy___init__) := ⟨rfl, rfl, rfl, by decide +kernel, rfl, by decide +kernel, by decide +kernel⟩

abbrev s__law_bag : Stmt := (top 20)
abbrev N__law_bag : List Str := ["_law_script"]
theorem sc__law_bag : FnScope ["_law_script"] ["_law_script"] (defScope s__law_bag) := ⟨rfl, rfl, rfl, by decide +kernel, rfl, by decide +kernel, by decide +kernel⟩
abbrev s__law_draw : Stmt := (top 21)
abbrev N__law_draw : List Str := ["_law_bag_here", "_law_many", "_law_part", "_law_cell"]
theorem sc__law_draw : FnScope ["_law_bag_here", "_law_many", "_law_part", "_law_cell"] ["_law_bag_here", "_law_many"] (defScope s__law_draw) := ⟨rfl, rfl, rfl, by decide +kernel, rfl, by decide +kernel, by decide +kernel⟩
abbrev s__law_field : Stmt := (top 22)
abbrev N__law_field : List Str := ["_law_bag_here", "_law_pick"]
theorem sc__law_field : FnScope ["_law_bag_here", "_law_pick"] ["_law_bag_here"] (defScope s__law_field) := ⟨rfl, rfl, rfl, by decide +kernel, rfl, by decide +kernel, by decide +kernel⟩
abbrev s__law_kinds : Stmt := (top 23)
abbrev N__law_kinds : List Str := ["_law_why"]
theorem sc__law_kinds : FnScope ["_law_why"] ["_law_why"] (defScope s__law_kinds) := ⟨rfl, rfl, rfl, by decide +kernel, rfl, by decide +kernel, by decide +kernel⟩
abbrev s__law_alone : Stmt := (top 24)
abbrev N__law_alone : List Str := ["_law_why", "_law_at", "_law_kinds_here", "_law_k"]
theorem sc__law_alone : FnScope ["_law_why", "_law_at", "_law_kinds_here", "_law_k"] ["_law_why", "_law_at"] (defScope s__law_alone) := ⟨rfl, rfl, rfl, by decide +kernel, rfl, by decide +kernel, by decide +kernel⟩
abbrev s__law_by_name : Stmt := (top 25)
abbrev N__law_by_name : List Str := ["_law_one", "_law_two", "_law_ring"]
theorem sc__law_by_name : FnScope ["_law_one", "_law_two", "_law_ring"] ["_law_one", "_law_two"] (defScope s__law_by_name) := ⟨rfl, rfl, rfl, by decide +kernel, rfl, by decide +kernel, by decide +kernel⟩
abbrev s__law_caught : Stmt := (top 26)
abbrev N__law_caught : List Str := ["_law_one", "_law_found", "_law_why"]
theorem sc__law_caught : FnScope ["_law_one", "_law_found", "_law_why"] ["_law_one"] (defScope s__law_caught) := ⟨rfl, rfl, rfl, by decide +kernel, rfl, by decide +kernel, by decide +kernel⟩
abbrev s_law : Stmt := (top 27)
abbrev N_law : List Str := ["_law_script", "_law_bag_here", "_law_one", "_law_two", "_law_whys", "_law_at", "_law_fields", "_law_field_here"]
theorem sc_law : FnScope ["_law_script", "_law_bag_here", "_law_one", "_law_two", "_law_whys", "_law_at", "_law_fields", "_law_field_here"] ["_law_script"] (defScope s_law) := ⟨rfl, rfl, rfl, by decide +kernel, rfl, by decide +kernel, by decide +kernel⟩

structure Te (K : PySem.W.Frag) (mg : Str → Option Value) (a : Nat → Addr) (fd : Nat → FuncData) (tk : Nat → Tok) : Prop where
  b_list : mg "list" = none
  b_abs : mg "abs" = none
  b_len : mg "len" = none
  b_int : mg "int" = none
  b_isinstance : mg "isinstance" = none
  b_range : mg "range" = none
  b_RuntimeError : mg "RuntimeError" = none
  b_ValueError : mg "ValueError" = none
  g_TrackedError : mg "TrackedError" = some (.ref (a 34))
  cr_TrackedError : ClX.CRead K (a 34) (.type "type")
  vi_TrackedError : PySem.W.findCls K (.ref (a 34)) (.type "type") "__init__" = some (.val (.builtin "ValueError.__init__"))
  vi_RuntimeError : PySem.W.findCls K (.type "RuntimeError") (.type "type") "__init__" = some (.val (.builtin "RuntimeError.__init__"))
  g_BadBook : mg "BadBook" = some (.ref (a 0))
  ox_BadBook : OexB K (a 0) xbV
  xf_BadBook : XfC K (a 0)
  xc_BadBook : ExcC K (a 0)
  no_BadBook_at : PySem.W.findIn K (.ref (a 0)) "at" = some none
  ini_BadBook : PySem.W.findIn K (.ref (a 0)) "__init__" = some (some (.ref (a 1)))
  inf_BadBook : PySem.W.typeIn K (.ref (a 1)) = some (.type "function")
  F_BadBook___init__ : Fun K "__init__" "BadBook.__init__" s_BadBook___init__ (a 1) (fd 1)
  g_TooMany : mg "TooMany" = some (.ref (a 2))
  ox_TooMany : OexB K (a 2) xbV
  xf_TooMany : XfC K (a 2)
  xc_TooMany : ExcC K (a 2)
  no_TooMany_what : PySem.W.findIn K (.ref (a 2)) "what" = some none
  ini_TooMany : PySem.W.findIn K (.ref (a 2)) "__init__" = some (some (.ref (a 3)))
  inf_TooMany : PySem.W.typeIn K (.ref (a 3)) = some (.type "function")
  F_TooMany___init__ : Fun K "__init__" "TooMany.__init__" s_TooMany___init__ (a 3) (fd 3)
  g_NoName : mg "NoName" = some (.ref (a 4))
  ox_NoName : OexB K (a 4) xbV
  xf_NoName : XfC K (a 4)
  xc_NoName : ExcC K (a 4)
  no_NoName_name : PySem.W.findIn K (.ref (a 4)) "name" = some none
  ini_NoName : PySem.W.findIn K (.ref (a 4)) "__init__" = some (some (.ref (a 5)))
  inf_NoName : PySem.W.typeIn K (.ref (a 5)) = some (.type "function")
  F_NoName___init__ : Fun K "__init__" "NoName.__init__" s_NoName___init__ (a 5) (fd 5)
  g_BadArguments : mg "BadArguments" = some (.ref (a 6))
  ox_BadArguments : OexB K (a 6) xbV
  xf_BadArguments : XfC K (a 6)
  xc_BadArguments : ExcC K (a 6)
  no_BadArguments_count : PySem.W.findIn K (.ref (a 6)) "count" = some none
  ini_BadArguments : PySem.W.findIn K (.ref (a 6)) "__init__" = some (some (.ref (a 7)))
  inf_BadArguments : PySem.W.typeIn K (.ref (a 7)) = some (.type "function")
  F_BadArguments___init__ : Fun K "__init__" "BadArguments.__init__" s_BadArguments___init__ (a 7) (fd 7)
  g_NotWaiting : mg "NotWaiting" = some (.ref (a 8))
  ox_NotWaiting : OexB K (a 8) xbV
  xf_NotWaiting : XfC K (a 8)
  xc_NotWaiting : ExcC K (a 8)
  no_NotWaiting_name : PySem.W.findIn K (.ref (a 8)) "name" = some none
  ini_NotWaiting : PySem.W.findIn K (.ref (a 8)) "__init__" = some (some (.ref (a 9)))
  inf_NotWaiting : PySem.W.typeIn K (.ref (a 9)) = some (.type "function")
  F_NotWaiting___init__ : Fun K "__init__" "NotWaiting.__init__" s_NotWaiting___init__ (a 9) (fd 9)
  g_BadState : mg "BadState" = some (.ref (a 10))
  ox_BadState : OexB K (a 10) xbV
  xf_BadState : XfC K (a 10)
  xc_BadState : ExcC K (a 10)
  no_BadState_part : PySem.W.findIn K (.ref (a 10)) "part" = some none
  ini_BadState : PySem.W.findIn K (.ref (a 10)) "__init__" = some (some (.ref (a 11)))
  inf_BadState : PySem.W.typeIn K (.ref (a 11)) = some (.type "function")
  F_BadState___init__ : Fun K "__init__" "BadState.__init__" s_BadState___init__ (a 11) (fd 11)
  g_BadRow : mg "BadRow" = some (.ref (a 12))
  ox_BadRow : OexB K (a 12) xbV
  xf_BadRow : XfC K (a 12)
  xc_BadRow : ExcC K (a 12)
  no_BadRow_at : PySem.W.findIn K (.ref (a 12)) "at" = some none
  ini_BadRow : PySem.W.findIn K (.ref (a 12)) "__init__" = some (some (.ref (a 13)))
  inf_BadRow : PySem.W.typeIn K (.ref (a 13)) = some (.type "function")
  F_BadRow___init__ : Fun K "__init__" "BadRow.__init__" s_BadRow___init__ (a 13) (fd 13)
  g_BadAsk : mg "BadAsk" = some (.ref (a 14))
  ox_BadAsk : OexB K (a 14) xbV
  xf_BadAsk : XfC K (a 14)
  xc_BadAsk : ExcC K (a 14)
  no_BadAsk_ask : PySem.W.findIn K (.ref (a 14)) "ask" = some none
  ini_BadAsk : PySem.W.findIn K (.ref (a 14)) "__init__" = some (some (.ref (a 15)))
  inf_BadAsk : PySem.W.typeIn K (.ref (a 15)) = some (.type "function")
  F_BadAsk___init__ : Fun K "__init__" "BadAsk.__init__" s_BadAsk___init__ (a 15) (fd 15)
  g_BadStep : mg "BadStep" = some (.ref (a 16))
  ox_BadStep : OexB K (a 16) xbV
  xf_BadStep : XfC K (a 16)
  xc_BadStep : ExcC K (a 16)
  no_BadStep_at : PySem.W.findIn K (.ref (a 16)) "at" = some none
  ini_BadStep : PySem.W.findIn K (.ref (a 16)) "__init__" = some (some (.ref (a 17)))
  inf_BadStep : PySem.W.typeIn K (.ref (a 17)) = some (.type "function")
  F_BadStep___init__ : Fun K "__init__" "BadStep.__init__" s_BadStep___init__ (a 17) (fd 17)
  g_Unlike : mg "Unlike" = some (.ref (a 18))
  ox_Unlike : OexB K (a 18) xbV
  xf_Unlike : XfC K (a 18)
  xc_Unlike : ExcC K (a 18)
  no_Unlike_what : PySem.W.findIn K (.ref (a 18)) "what" = some none
  ini_Unlike : PySem.W.findIn K (.ref (a 18)) "__init__" = some (some (.ref (a 19)))
  inf_Unlike : PySem.W.typeIn K (.ref (a 19)) = some (.type "function")
  F_Unlike___init__ : Fun K "__init__" "Unlike.__init__" s_Unlike___init__ (a 19) (fd 19)
  g_HasWait : mg "HasWait" = some (.ref (a 20))
  ox_HasWait : OexB K (a 20) xbV
  xf_HasWait : XfC K (a 20)
  xc_HasWait : ExcC K (a 20)
  no_HasWait_name : PySem.W.findIn K (.ref (a 20)) "name" = some none
  ini_HasWait : PySem.W.findIn K (.ref (a 20)) "__init__" = some (some (.ref (a 21)))
  inf_HasWait : PySem.W.typeIn K (.ref (a 21)) = some (.type "function")
  F_HasWait___init__ : Fun K "__init__" "HasWait.__init__" s_HasWait___init__ (a 21) (fd 21)
  g_Taken : mg "Taken" = some (.ref (a 22))
  ox_Taken : OexB K (a 22) xbV
  xf_Taken : XfC K (a 22)
  xc_Taken : ExcC K (a 22)
  no_Taken_name : PySem.W.findIn K (.ref (a 22)) "name" = some none
  ini_Taken : PySem.W.findIn K (.ref (a 22)) "__init__" = some (some (.ref (a 23)))
  inf_Taken : PySem.W.typeIn K (.ref (a 23)) = some (.type "function")
  F_Taken___init__ : Fun K "__init__" "Taken.__init__" s_Taken___init__ (a 23) (fd 23)
  g_Ring : mg "Ring" = some (.ref (a 24))
  ox_Ring : OexB K (a 24) xbR
  xf_Ring : XfC K (a 24)
  xc_Ring : ExcC K (a 24)
  no_Ring_effects : PySem.W.findIn K (.ref (a 24)) "effects" = some none
  no_Ring_cells : PySem.W.findIn K (.ref (a 24)) "cells" = some none
  ini_Ring : PySem.W.findIn K (.ref (a 24)) "__init__" = some (some (.ref (a 25)))
  inf_Ring : PySem.W.typeIn K (.ref (a 25)) = some (.type "function")
  F_Ring___init__ : Fun K "__init__" "Ring.__init__" s_Ring___init__ (a 25) (fd 25)
  g_Over : mg "Over" = some (.ref (a 26))
  ox_Over : OexB K (a 26) xbR
  xf_Over : XfC K (a 26)
  xc_Over : ExcC K (a 26)
  ini_Over : PySem.W.findIn K (.ref (a 26)) "__init__" = some (some (.ref (a 27)))
  inf_Over : PySem.W.typeIn K (.ref (a 27)) = some (.type "function")
  F_Over___init__ : Fun K "__init__" "Over.__init__" s_Over___init__ (a 27) (fd 27)
  g_TooLong : mg "TooLong" = some (.ref (a 28))
  ox_TooLong : OexB K (a 28) xbR
  xf_TooLong : XfC K (a 28)
  xc_TooLong : ExcC K (a 28)
  no_TooLong_cells : PySem.W.findIn K (.ref (a 28)) "cells" = some none
  ini_TooLong : PySem.W.findIn K (.ref (a 28)) "__init__" = some (some (.ref (a 29)))
  inf_TooLong : PySem.W.typeIn K (.ref (a 29)) = some (.type "function")
  F_TooLong___init__ : Fun K "__init__" "TooLong.__init__" s_TooLong___init__ (a 29) (fd 29)
  g_Misplaced : mg "Misplaced" = some (.ref (a 30))
  ox_Misplaced : OexB K (a 30) xbR
  xf_Misplaced : XfC K (a 30)
  xc_Misplaced : ExcC K (a 30)
  no_Misplaced_name : PySem.W.findIn K (.ref (a 30)) "name" = some none
  ini_Misplaced : PySem.W.findIn K (.ref (a 30)) "__init__" = some (some (.ref (a 31)))
  inf_Misplaced : PySem.W.typeIn K (.ref (a 31)) = some (.type "function")
  F_Misplaced___init__ : Fun K "__init__" "Misplaced.__init__" s_Misplaced___init__ (a 31) (fd 31)
  g_Busy : mg "Busy" = some (.ref (a 32))
  ox_Busy : OexB K (a 32) xbR
  xf_Busy : XfC K (a 32)
  xc_Busy : ExcC K (a 32)
  no_Busy_name : PySem.W.findIn K (.ref (a 32)) "name" = some none
  ini_Busy : PySem.W.findIn K (.ref (a 32)) "__init__" = some (some (.ref (a 33)))
  inf_Busy : PySem.W.typeIn K (.ref (a 33)) = some (.type "function")
  F_Busy___init__ : Fun K "__init__" "Busy.__init__" s_Busy___init__ (a 33) (fd 33)
  kit : ∀ i, i < 17 → ∀ j, j < 17 → PySem.W.kitOne K (.ref (a (2 * i))) (.ref (a (2 * j))) = some (decide (i = j))
  kitR : ∀ i, i < 17 → PySem.W.kitOne K (.ref (a (2 * i))) (.type "RuntimeError") = some (decide (12 ≤ i))
  kitV : ∀ i, i < 17 → PySem.W.kitOne K (.ref (a (2 * i))) (.type "ValueError") = some (decide (i < 12))
  kitT : ∀ i, i < 17 → PySem.W.kitOne K (.ref (a (2 * i))) (.ref (a 34)) = some (decide (i < 12))
  exm : PySem.W.exmOne K (.ref (a 16)) (.ref (a 34)) = some true
  g__law_bag : mg "_law_bag" = some (.ref (a 40))
  F__law_bag : Fun K "_law_bag" "_law_bag" s__law_bag (a 40) (fd 40)
  g__law_draw : mg "_law_draw" = some (.ref (a 41))
  F__law_draw : Fun K "_law_draw" "_law_draw" s__law_draw (a 41) (fd 41)
  g__law_field : mg "_law_field" = some (.ref (a 42))
  F__law_field : Fun K "_law_field" "_law_field" s__law_field (a 42) (fd 42)
  g__law_kinds : mg "_law_kinds" = some (.ref (a 43))
  F__law_kinds : Fun K "_law_kinds" "_law_kinds" s__law_kinds (a 43) (fd 43)
  g__law_alone : mg "_law_alone" = some (.ref (a 44))
  F__law_alone : Fun K "_law_alone" "_law_alone" s__law_alone (a 44) (fd 44)
  g__law_by_name : mg "_law_by_name" = some (.ref (a 45))
  F__law_by_name : Fun K "_law_by_name" "_law_by_name" s__law_by_name (a 45) (fd 45)
  g__law_caught : mg "_law_caught" = some (.ref (a 46))
  F__law_caught : Fun K "_law_caught" "_law_caught" s__law_caught (a 46) (fd 46)
  F_law : Fun K "law" "law" s_law (a 50) (fd 50)
section
variable {P : Program} {w : World} {K : PySem.W.Frag} {mg : Str → Option Value} {base : Heap} {a : Nat → Addr} {fd : Nat → FuncData} {tk : Nat → Tok}
local macro_rules | `(tactic| walk_at "ne") => `(tactic| first | assumption | (exact Ne.symm (by assumption)) | (refine ne_of_none (by assumption) (by assumption)) | (refine Ne.symm (ne_of_none (by assumption) (by assumption))))
local macro_rules | `(tactic| walk_at "hl") => `(tactic| first | assumption | with_reducible exact upd_same | ((with_reducible refine' Eq.trans (upd_ne ?hne) ?hrest); (case hne => walk_at "ne"); (case hrest => walk_at "hl")) | (refine' get_same ?hs ?hg; (case hs => assumption); (case hg => assumption)))
local macro_rules | `(tactic| walk_at "at") => `(tactic| first | with_reducible exact atI_0 _ _ | with_reducible exact atI_1 _ _ _ | with_reducible exact atI_2 _ _ _ _ | with_reducible exact atI_3 _ _ _ _ _ | assumption)
local macro_rules | `(tactic| walk_at "rd1") => `(tactic| first
  | with_reducible refine s_seq ?_ | with_reducible refine s_next ?_ | with_reducible refine s_if ?_ | with_reducible refine s_ret ?_ | with_reducible refine s_retN ?_ | with_reducible refine s_drop ?_ | with_reducible refine s_asg ?_ | with_reducible refine s_brk ?_ | with_reducible refine s_cont ?_
  | with_reducible refine s_gname ?_ | with_reducible refine s_c ?_ | with_reducible refine s_op ?_ | with_reducible refine s_un ?_ | with_reducible refine s_neg ?_ | with_reducible refine s_test ?_ | with_reducible refine s_tb ?_ | with_reducible refine s_not ?_ | with_reducible refine s_and ?_ | with_reducible refine s_or ?_ | with_reducible refine s_yes ?_
  | ((with_reducible refine' s_var ?hv ?_); (case hv => exact rfl))
  | with_reducible refine s_ifx ?_ | with_reducible refine s_andV ?_ | with_reducible refine s_orV ?_ | with_reducible refine s_notV ?_ | with_reducible refine s_chain ?_ | with_reducible refine s_nil ?_ | with_reducible refine s_cons ?_ | with_reducible refine s_lst ?_ | with_reducible refine s_tup ?_ | with_reducible refine s_cb ?_ | with_reducible refine s_call ?_ | with_reducible refine s_meth ?_ | with_reducible refine s_make ?_
  | with_reducible refine s_dnewK ?_ | with_reducible refine s_sl ?_ | with_reducible refine s_po0 ?_ | with_reducible refine s_po1 ?_ | with_reducible refine s_bm ?_ | with_reducible refine s_bm0 ?_
  | with_reducible refine s_bl ?_ | with_reducible refine s_int ?_ | with_reducible refine s_I0 ?_ | with_reducible refine s_addI ?_ | with_reducible refine s_intI ?_ | with_reducible refine s_intB ?_
  | with_reducible refine s_m1 ?_ | with_reducible refine s_lc ?_ | with_reducible refine s_ilist ?_ | with_reducible refine s_for ?_ | with_reducible refine s_irng ?_ | with_reducible refine s_match ?_ | with_reducible refine s_starT ?_ | with_reducible refine s_isS ?_ | with_reducible refine s_isiSS ?_ | with_reducible refine s_fldU ?_ | with_reducible refine s_sfldU ?_
  | ((with_reducible refine' s_eqS ?hq ?_); (case hq => exact rfl)) | ((with_reducible refine' s_neS ?hq ?_); (case hq => exact rfl))
  | ((with_reducible refine' s_isN ?hq ?_); (case hq => exact rfl)) | ((with_reducible refine' s_notN ?hq ?_); (case hq => exact rfl))
  | ((with_reducible refine' s_eqNil ?h1 ?h2 ?_); (case h1 => walk_at "hl"); (case h2 => walk_at "hl")) | ((with_reducible refine' s_neNil ?h1 ?h2 ?_); (case h1 => walk_at "hl"); (case h2 => walk_at "hl"))
  | ((with_reducible refine' s_ixL ?h1 ?h2 ?_); (case h1 => walk_at "hl"); (case h2 => walk_at "at")) | ((with_reducible refine' s_ixT ?h1 ?h2 ?_); (case h1 => walk_at "hl"); (case h2 => walk_at "at"))
  | ((with_reducible refine' s_inS ?h1 ?_); (case h1 => walk_at "hl")) | ((with_reducible refine' s_ninS ?h1 ?_); (case h1 => walk_at "hl")) | with_reducible refine s_inW ?_
  | ((with_reducible refine' s_lenL ?h1 ?_); (case h1 => walk_at "hl")) | ((with_reducible refine' s_lenT ?h1 ?_); (case h1 => walk_at "hl"))
  | ((with_reducible refine' s_tyL ?h1 ?_); (case h1 => walk_at "hl"))
  | ((with_reducible refine' s_fldM ?h1 ?h2 ?h3 ?_); (case h1 => walk_at "hl"); (case h2 => walk_at "fok"); (case h3 => walk_at "flk"))
  | ((with_reducible refine' s_setM ?h1 ?h2 ?h3 ?h4 ?_); (case h1 => walk_at "hl"); (case h2 => walk_at "fok"); (case h4 => walk_at "put"); (case h3 => exact Nat.le_of_ble_eq_true rfl))
  | ((with_reducible refine' s_starM ?h1 ?_); (case h1 => walk_at "hl"))
  | ((with_reducible refine' s_recv ?h1 ?h2 ?_); (case h1 => walk_at "hl"); (case h2 => exact rfl))
  | ((with_reducible refine' s_sz ?h1 ?_); (case h1 => (simp; done))))
local macro_rules | `(tactic| walk_at "rd") => `(tactic| repeat (walk_at "rd1"))
local macro_rules | `(tactic| walk_at "fok") => `(tactic| assumption)
local macro_rules | `(tactic| walk_at "flk") => `(tactic| rfl)
local macro_rules | `(tactic| walk_at "put") => `(tactic| exact rfl)

theorem passF {X : Cx} : Passes CX0 X (fun _ _ _ => False) := fun _ _ _ _ _ _ _ h => h.elim
theorem vals_rev {xs : List V} {us : List Value} (r : Vals xs us) : Vals xs.reverse us.reverse := by
  induction r with
  | nil => exact .nil
  | cons h _ ih =>
    rw [List.reverse_cons, List.reverse_cons]
    exact ih.append (.cons h .nil)
theorem _root_.L2.Fun.kbn {x qual : Str} {st : Stmt} {f : Addr} {fd : FuncData} {ps ks : List Str} {n : Nat} {g : List Value → List Value → List Value} {gV : List V → List V → List V} (F : Fun K x qual st f fd)
    (rel : ∀ {vs : List V} {us : List Value} {zs : List V} {ws : List Value}, Vals vs us → Vals zs ws → Vals (gV vs zs) (g us ws))
    (h : ∀ (kV doc pm : Value) (an : Option Addr) (cdv ct : Value) (us ws : List Value), us.length = n → ws.length = ks.length → bindArgs (PySem.W.fnOf x qual (defArgs st) (defBody st) (defScope st) .none kV doc pm an cdv ct) ⟨us, ks.zip ws⟩ = pure (ps.zip (g us ws))) : KBn K fd ps n ks g gV := by
  obtain ⟨oc, od, kV, doc, pm, an, cdv, ct, osl, rfl, lk, hcd⟩ := F.ex
  exact ⟨fun s us ws X l1 l2 => .of_eq (h kV doc pm an cdv ct us ws l1 l2), rel⟩
theorem s_veB {b : XB} {σ : L2.St} {H : Hp} {Q : VK} {ta : TA} (h : ta σ H fun vs H1 => ∃ (a C : Addr) (ws : List V), vs = .ref a :: ws ∧ ws.length ≤ 1000 ∧ OexB K C b ∧ H1 a = some (exo a C none) ∧ Q .non H1) : tVeB K b ta σ H Q := h
theorem s_osB {b : XB} {σ : L2.St} {H : Hp} {f : Str} {to te : TE} {na : L2.St → Hp → Prop} {rt : VK} {bk ct : L2.St → Hp → Prop} (h : te σ H fun y H1 => to σ H1 fun x H2 => ∃ a C : Addr, x = .ref a ∧ OexB K C b ∧ PySem.W.findIn K (.ref C) f = some none ∧
  ((H2 a = some (exo a C none) ∧ ∀ dx, H2 dx = none → dx ≠ a → na σ (upd (upd H2 dx (exd dx [(f, y)])) a (exo a C (some dx)))) ∨
    ∃ (dx : Addr) (fs : List (Str × V)), H2 a = some (exo a C (some dx)) ∧ H2 dx = some (exd dx fs) ∧ fs.length ≤ 900 ∧ na σ (upd H2 dx (exd dx ((f, y) :: fs))))) : tOsB K b f to te ⟨na, rt, bk, ct⟩ σ H := h
/-- an exception that was made: its class, its fields -/
def ExAt (H : Hp) (p C : Addr) (fs : List (Str × V)) : Prop := ∃ d, H p = some (exo p C (some d)) ∧ H d = some (exd d fs)
theorem ExAt.same {H H' : Hp} {p C : Addr} {fs : List (Str × V)} (x : ExAt H p C fs) (s : Same H H') : ExAt H' p C fs := by
  obtain ⟨d, h1, h2⟩ := x
  exact ⟨d, s _ _ h1, s _ _ h2⟩
/-- the promise of an __init__ with one field -/
def spX1 (C : Addr) (f : Str) : Sp := fun vs H Q _ => ∃ (x : Addr) (v : V), vs = [.ref x, v] ∧ H x = some (exo x C none) ∧ ∀ d, H d = none → d ≠ x → Q .non (upd (upd H d (exd d [(f, v)])) x (exo x C (some d)))
def spX2 (C : Addr) (f g : Str) : Sp := fun vs H Q _ => ∃ (x : Addr) (v u : V), vs = [.ref x, v, u] ∧ H x = some (exo x C none) ∧ ∀ d, H d = none → d ≠ x → Q .non (upd (upd (upd H d (exd d [(f, v)])) x (exo x C (some d))) d (exd d [(g, u), (f, v)]))
def spX0 (C : Addr) : Sp := fun vs H Q _ => ∃ (x : Addr), vs = [.ref x] ∧ H x = some (exo x C none) ∧ Q .non H
theorem made1 {C : Addr} {f : Str} {H : Hp} {v : V} {Q : VK} (q : ∀ p H', Same H H' → H p = none → ExAt H' p C [(f, v)] → Q (.ref p) H') (p : Addr) (hp : H p = none) :
    spX1 C f [.ref p, v] (upd H p (exo p C none)) (fun z H2 => z = .non ∧ Q (.ref p) H2) (fun _ _ _ => False) := by
  refine ⟨p, v, rfl, upd_same, fun d hd hne => ⟨rfl, q p _ ?_ hp ⟨d, upd_same, by rw [upd_ne hne]; exact upd_same⟩⟩⟩
  have hd' : H d = none := by rw [upd_ne hne] at hd; exact hd
  intro x o hx
  rw [upd_ne (ne_of_none hx hp), upd_ne (ne_of_none hx hd'), upd_ne (ne_of_none hx hp)]
  exact hx
theorem made2 {C : Addr} {f g : Str} {H : Hp} {v u : V} {Q : VK} (q : ∀ p H', Same H H' → H p = none → ExAt H' p C [(g, u), (f, v)] → Q (.ref p) H') (p : Addr) (hp : H p = none) :
    spX2 C f g [.ref p, v, u] (upd H p (exo p C none)) (fun z H2 => z = .non ∧ Q (.ref p) H2) (fun _ _ _ => False) := by
  refine ⟨p, v, u, rfl, upd_same, fun d hd hne => ⟨rfl, q p _ ?_ hp ⟨d, by rw [upd_ne (Ne.symm hne)]; exact upd_same, upd_same⟩⟩⟩
  have hd' : H d = none := by rw [upd_ne hne] at hd; exact hd
  intro x o hx
  rw [upd_ne (ne_of_none hx hd'), upd_ne (ne_of_none hx hp), upd_ne (ne_of_none hx hd'), upd_ne (ne_of_none hx hp)]
  exact hx
theorem made0 {C : Addr} {H : Hp} {Q : VK} (q : ∀ p H', Same H H' → H p = none → H' p = some (exo p C none) → Q (.ref p) H') (p : Addr) (hp : H p = none) :
    spX0 C [.ref p] (upd H p (exo p C none)) (fun z H2 => z = .non ∧ Q (.ref p) H2) (fun _ _ _ => False) :=
  ⟨p, rfl, upd_same, rfl, q p _ (Same.new hp) hp upd_same⟩

theorem ok_BadBook___init__ (T : Te K mg a fd tk) : FnOk P w K mg base CX0 1 (a 1) (fd 1) ["self", "at"] (spX1 (a 0) "at") := by
  refine T.F_BadBook___init__.ok sc_BadBook___init__ (fun vs H Q E h => ?_) (fun cdv A outer s H vs Q E hr h => ?_)
  · obtain ⟨x, v, rfl, _⟩ := h
    rfl
  · obtain ⟨x, v, rfl, hx, k⟩ := h
    refine ⟨_, (pss_cons (ps_expr (pe_ownInitB xbV_ok (by rfl) T.g_TrackedError T.cr_TrackedError T.vi_TrackedError (pa_cons (pv 0) (pa_cons pe_str pa_nil))))
  (pss_one (ps_ostB xbV_ok (pv 0) (pv 1)))), ?_⟩
    walk_at "rd"
    refine s_veB ?_
    walk_at "rd"
    refine ⟨x, (a 0), [_], rfl, by simp, T.ox_BadBook, hx, ?_⟩
    refine s_osB ?_
    walk_at "rd"
    exact ⟨x, (a 0), rfl, T.ox_BadBook, T.no_BadBook_at, .inl ⟨hx, fun d hd hn => k d hd hn⟩⟩
theorem b_BadBook___init__ (T : Te K mg a fd tk) : Binds K (fd 1) ["self", "at"] [] := T.F_BadBook___init__.binds fun _ _ _ _ _ _ us hl => match us, hl with | [_, _], _ => rfl
theorem ok_TooMany___init__ (T : Te K mg a fd tk) : FnOk P w K mg base CX0 1 (a 3) (fd 3) ["self", "what"] (spX1 (a 2) "what") := by
  refine T.F_TooMany___init__.ok sc_TooMany___init__ (fun vs H Q E h => ?_) (fun cdv A outer s H vs Q E hr h => ?_)
  · obtain ⟨x, v, rfl, _⟩ := h
    rfl
  · obtain ⟨x, v, rfl, hx, k⟩ := h
    refine ⟨_, (pss_cons (ps_expr (pe_ownInitB xbV_ok (by rfl) T.g_TrackedError T.cr_TrackedError T.vi_TrackedError (pa_cons (pv 0) (pa_cons pe_str pa_nil))))
  (pss_one (ps_ostB xbV_ok (pv 0) (pv 1)))), ?_⟩
    walk_at "rd"
    refine s_veB ?_
    walk_at "rd"
    refine ⟨x, (a 2), [_], rfl, by simp, T.ox_TooMany, hx, ?_⟩
    refine s_osB ?_
    walk_at "rd"
    exact ⟨x, (a 2), rfl, T.ox_TooMany, T.no_TooMany_what, .inl ⟨hx, fun d hd hn => k d hd hn⟩⟩
theorem b_TooMany___init__ (T : Te K mg a fd tk) : Binds K (fd 3) ["self", "what"] [] := T.F_TooMany___init__.binds fun _ _ _ _ _ _ us hl => match us, hl with | [_, _], _ => rfl
theorem ok_NoName___init__ (T : Te K mg a fd tk) : FnOk P w K mg base CX0 1 (a 5) (fd 5) ["self", "name"] (spX1 (a 4) "name") := by
  refine T.F_NoName___init__.ok sc_NoName___init__ (fun vs H Q E h => ?_) (fun cdv A outer s H vs Q E hr h => ?_)
  · obtain ⟨x, v, rfl, _⟩ := h
    rfl
  · obtain ⟨x, v, rfl, hx, k⟩ := h
    refine ⟨_, (pss_cons (ps_expr (pe_ownInitB xbV_ok (by rfl) T.g_TrackedError T.cr_TrackedError T.vi_TrackedError (pa_cons (pv 0) (pa_cons pe_str pa_nil))))
  (pss_one (ps_ostB xbV_ok (pv 0) (pv 1)))), ?_⟩
    walk_at "rd"
    refine s_veB ?_
    walk_at "rd"
    refine ⟨x, (a 4), [_], rfl, by simp, T.ox_NoName, hx, ?_⟩
    refine s_osB ?_
    walk_at "rd"
    exact ⟨x, (a 4), rfl, T.ox_NoName, T.no_NoName_name, .inl ⟨hx, fun d hd hn => k d hd hn⟩⟩
theorem b_NoName___init__ (T : Te K mg a fd tk) : Binds K (fd 5) ["self", "name"] [] := T.F_NoName___init__.binds fun _ _ _ _ _ _ us hl => match us, hl with | [_, _], _ => rfl
theorem ok_BadArguments___init__ (T : Te K mg a fd tk) : FnOk P w K mg base CX0 1 (a 7) (fd 7) ["self", "count"] (spX1 (a 6) "count") := by
  refine T.F_BadArguments___init__.ok sc_BadArguments___init__ (fun vs H Q E h => ?_) (fun cdv A outer s H vs Q E hr h => ?_)
  · obtain ⟨x, v, rfl, _⟩ := h
    rfl
  · obtain ⟨x, v, rfl, hx, k⟩ := h
    refine ⟨_, (pss_cons (ps_expr (pe_ownInitB xbV_ok (by rfl) T.g_TrackedError T.cr_TrackedError T.vi_TrackedError (pa_cons (pv 0) (pa_cons pe_str pa_nil))))
  (pss_one (ps_ostB xbV_ok (pv 0) (pv 1)))), ?_⟩
    walk_at "rd"
    refine s_veB ?_
    walk_at "rd"
    refine ⟨x, (a 6), [_], rfl, by simp, T.ox_BadArguments, hx, ?_⟩
    refine s_osB ?_
    walk_at "rd"
    exact ⟨x, (a 6), rfl, T.ox_BadArguments, T.no_BadArguments_count, .inl ⟨hx, fun d hd hn => k d hd hn⟩⟩
theorem b_BadArguments___init__ (T : Te K mg a fd tk) : Binds K (fd 7) ["self", "count"] [] := T.F_BadArguments___init__.binds fun _ _ _ _ _ _ us hl => match us, hl with | [_, _], _ => rfl
theorem ok_NotWaiting___init__ (T : Te K mg a fd tk) : FnOk P w K mg base CX0 1 (a 9) (fd 9) ["self", "name"] (spX1 (a 8) "name") := by
  refine T.F_NotWaiting___init__.ok sc_NotWaiting___init__ (fun vs H Q E h => ?_) (fun cdv A outer s H vs Q E hr h => ?_)
  · obtain ⟨x, v, rfl, _⟩ := h
    rfl
  · obtain ⟨x, v, rfl, hx, k⟩ := h
    refine ⟨_, (pss_cons (ps_expr (pe_ownInitB xbV_ok (by rfl) T.g_TrackedError T.cr_TrackedError T.vi_TrackedError (pa_cons (pv 0) (pa_cons pe_str pa_nil))))
  (pss_one (ps_ostB xbV_ok (pv 0) (pv 1)))), ?_⟩
    walk_at "rd"
    refine s_veB ?_
    walk_at "rd"
    refine ⟨x, (a 8), [_], rfl, by simp, T.ox_NotWaiting, hx, ?_⟩
    refine s_osB ?_
    walk_at "rd"
    exact ⟨x, (a 8), rfl, T.ox_NotWaiting, T.no_NotWaiting_name, .inl ⟨hx, fun d hd hn => k d hd hn⟩⟩
theorem b_NotWaiting___init__ (T : Te K mg a fd tk) : Binds K (fd 9) ["self", "name"] [] := T.F_NotWaiting___init__.binds fun _ _ _ _ _ _ us hl => match us, hl with | [_, _], _ => rfl
theorem ok_BadState___init__ (T : Te K mg a fd tk) : FnOk P w K mg base CX0 1 (a 11) (fd 11) ["self", "part"] (spX1 (a 10) "part") := by
  refine T.F_BadState___init__.ok sc_BadState___init__ (fun vs H Q E h => ?_) (fun cdv A outer s H vs Q E hr h => ?_)
  · obtain ⟨x, v, rfl, _⟩ := h
    rfl
  · obtain ⟨x, v, rfl, hx, k⟩ := h
    refine ⟨_, (pss_cons (ps_expr (pe_ownInitB xbV_ok (by rfl) T.g_TrackedError T.cr_TrackedError T.vi_TrackedError (pa_cons (pv 0) (pa_cons pe_str pa_nil))))
  (pss_one (ps_ostB xbV_ok (pv 0) (pv 1)))), ?_⟩
    walk_at "rd"
    refine s_veB ?_
    walk_at "rd"
    refine ⟨x, (a 10), [_], rfl, by simp, T.ox_BadState, hx, ?_⟩
    refine s_osB ?_
    walk_at "rd"
    exact ⟨x, (a 10), rfl, T.ox_BadState, T.no_BadState_part, .inl ⟨hx, fun d hd hn => k d hd hn⟩⟩
theorem b_BadState___init__ (T : Te K mg a fd tk) : Binds K (fd 11) ["self", "part"] [] := T.F_BadState___init__.binds fun _ _ _ _ _ _ us hl => match us, hl with | [_, _], _ => rfl
theorem ok_BadRow___init__ (T : Te K mg a fd tk) : FnOk P w K mg base CX0 1 (a 13) (fd 13) ["self", "at"] (spX1 (a 12) "at") := by
  refine T.F_BadRow___init__.ok sc_BadRow___init__ (fun vs H Q E h => ?_) (fun cdv A outer s H vs Q E hr h => ?_)
  · obtain ⟨x, v, rfl, _⟩ := h
    rfl
  · obtain ⟨x, v, rfl, hx, k⟩ := h
    refine ⟨_, (pss_cons (ps_expr (pe_ownInitB xbV_ok (by rfl) T.g_TrackedError T.cr_TrackedError T.vi_TrackedError (pa_cons (pv 0) (pa_cons pe_str pa_nil))))
  (pss_one (ps_ostB xbV_ok (pv 0) (pv 1)))), ?_⟩
    walk_at "rd"
    refine s_veB ?_
    walk_at "rd"
    refine ⟨x, (a 12), [_], rfl, by simp, T.ox_BadRow, hx, ?_⟩
    refine s_osB ?_
    walk_at "rd"
    exact ⟨x, (a 12), rfl, T.ox_BadRow, T.no_BadRow_at, .inl ⟨hx, fun d hd hn => k d hd hn⟩⟩
theorem b_BadRow___init__ (T : Te K mg a fd tk) : Binds K (fd 13) ["self", "at"] [] := T.F_BadRow___init__.binds fun _ _ _ _ _ _ us hl => match us, hl with | [_, _], _ => rfl
theorem ok_BadAsk___init__ (T : Te K mg a fd tk) : FnOk P w K mg base CX0 1 (a 15) (fd 15) ["self", "ask"] (spX1 (a 14) "ask") := by
  refine T.F_BadAsk___init__.ok sc_BadAsk___init__ (fun vs H Q E h => ?_) (fun cdv A outer s H vs Q E hr h => ?_)
  · obtain ⟨x, v, rfl, _⟩ := h
    rfl
  · obtain ⟨x, v, rfl, hx, k⟩ := h
    refine ⟨_, (pss_cons (ps_expr (pe_ownInitB xbV_ok (by rfl) T.g_TrackedError T.cr_TrackedError T.vi_TrackedError (pa_cons (pv 0) (pa_cons pe_str pa_nil))))
  (pss_one (ps_ostB xbV_ok (pv 0) (pv 1)))), ?_⟩
    walk_at "rd"
    refine s_veB ?_
    walk_at "rd"
    refine ⟨x, (a 14), [_], rfl, by simp, T.ox_BadAsk, hx, ?_⟩
    refine s_osB ?_
    walk_at "rd"
    exact ⟨x, (a 14), rfl, T.ox_BadAsk, T.no_BadAsk_ask, .inl ⟨hx, fun d hd hn => k d hd hn⟩⟩
theorem b_BadAsk___init__ (T : Te K mg a fd tk) : Binds K (fd 15) ["self", "ask"] [] := T.F_BadAsk___init__.binds fun _ _ _ _ _ _ us hl => match us, hl with | [_, _], _ => rfl
theorem ok_BadStep___init__ (T : Te K mg a fd tk) : FnOk P w K mg base CX0 1 (a 17) (fd 17) ["self", "at"] (spX1 (a 16) "at") := by
  refine T.F_BadStep___init__.ok sc_BadStep___init__ (fun vs H Q E h => ?_) (fun cdv A outer s H vs Q E hr h => ?_)
  · obtain ⟨x, v, rfl, _⟩ := h
    rfl
  · obtain ⟨x, v, rfl, hx, k⟩ := h
    refine ⟨_, (pss_cons (ps_expr (pe_ownInitB xbV_ok (by rfl) T.g_TrackedError T.cr_TrackedError T.vi_TrackedError (pa_cons (pv 0) (pa_cons pe_str pa_nil))))
  (pss_one (ps_ostB xbV_ok (pv 0) (pv 1)))), ?_⟩
    walk_at "rd"
    refine s_veB ?_
    walk_at "rd"
    refine ⟨x, (a 16), [_], rfl, by simp, T.ox_BadStep, hx, ?_⟩
    refine s_osB ?_
    walk_at "rd"
    exact ⟨x, (a 16), rfl, T.ox_BadStep, T.no_BadStep_at, .inl ⟨hx, fun d hd hn => k d hd hn⟩⟩
theorem b_BadStep___init__ (T : Te K mg a fd tk) : Binds K (fd 17) ["self", "at"] [] := T.F_BadStep___init__.binds fun _ _ _ _ _ _ us hl => match us, hl with | [_, _], _ => rfl
theorem ok_Unlike___init__ (T : Te K mg a fd tk) : FnOk P w K mg base CX0 1 (a 19) (fd 19) ["self", "what"] (spX1 (a 18) "what") := by
  refine T.F_Unlike___init__.ok sc_Unlike___init__ (fun vs H Q E h => ?_) (fun cdv A outer s H vs Q E hr h => ?_)
  · obtain ⟨x, v, rfl, _⟩ := h
    rfl
  · obtain ⟨x, v, rfl, hx, k⟩ := h
    refine ⟨_, (pss_cons (ps_expr (pe_ownInitB xbV_ok (by rfl) T.g_TrackedError T.cr_TrackedError T.vi_TrackedError (pa_cons (pv 0) (pa_cons pe_str pa_nil))))
  (pss_one (ps_ostB xbV_ok (pv 0) (pv 1)))), ?_⟩
    walk_at "rd"
    refine s_veB ?_
    walk_at "rd"
    refine ⟨x, (a 18), [_], rfl, by simp, T.ox_Unlike, hx, ?_⟩
    refine s_osB ?_
    walk_at "rd"
    exact ⟨x, (a 18), rfl, T.ox_Unlike, T.no_Unlike_what, .inl ⟨hx, fun d hd hn => k d hd hn⟩⟩
theorem b_Unlike___init__ (T : Te K mg a fd tk) : Binds K (fd 19) ["self", "what"] [] := T.F_Unlike___init__.binds fun _ _ _ _ _ _ us hl => match us, hl with | [_, _], _ => rfl
theorem ok_HasWait___init__ (T : Te K mg a fd tk) : FnOk P w K mg base CX0 1 (a 21) (fd 21) ["self", "name"] (spX1 (a 20) "name") := by
  refine T.F_HasWait___init__.ok sc_HasWait___init__ (fun vs H Q E h => ?_) (fun cdv A outer s H vs Q E hr h => ?_)
  · obtain ⟨x, v, rfl, _⟩ := h
    rfl
  · obtain ⟨x, v, rfl, hx, k⟩ := h
    refine ⟨_, (pss_cons (ps_expr (pe_ownInitB xbV_ok (by rfl) T.g_TrackedError T.cr_TrackedError T.vi_TrackedError (pa_cons (pv 0) (pa_cons pe_str pa_nil))))
  (pss_one (ps_ostB xbV_ok (pv 0) (pv 1)))), ?_⟩
    walk_at "rd"
    refine s_veB ?_
    walk_at "rd"
    refine ⟨x, (a 20), [_], rfl, by simp, T.ox_HasWait, hx, ?_⟩
    refine s_osB ?_
    walk_at "rd"
    exact ⟨x, (a 20), rfl, T.ox_HasWait, T.no_HasWait_name, .inl ⟨hx, fun d hd hn => k d hd hn⟩⟩
theorem b_HasWait___init__ (T : Te K mg a fd tk) : Binds K (fd 21) ["self", "name"] [] := T.F_HasWait___init__.binds fun _ _ _ _ _ _ us hl => match us, hl with | [_, _], _ => rfl
theorem ok_Taken___init__ (T : Te K mg a fd tk) : FnOk P w K mg base CX0 1 (a 23) (fd 23) ["self", "name"] (spX1 (a 22) "name") := by
  refine T.F_Taken___init__.ok sc_Taken___init__ (fun vs H Q E h => ?_) (fun cdv A outer s H vs Q E hr h => ?_)
  · obtain ⟨x, v, rfl, _⟩ := h
    rfl
  · obtain ⟨x, v, rfl, hx, k⟩ := h
    refine ⟨_, (pss_cons (ps_expr (pe_ownInitB xbV_ok (by rfl) T.g_TrackedError T.cr_TrackedError T.vi_TrackedError (pa_cons (pv 0) (pa_cons pe_str pa_nil))))
  (pss_one (ps_ostB xbV_ok (pv 0) (pv 1)))), ?_⟩
    walk_at "rd"
    refine s_veB ?_
    walk_at "rd"
    refine ⟨x, (a 22), [_], rfl, by simp, T.ox_Taken, hx, ?_⟩
    refine s_osB ?_
    walk_at "rd"
    exact ⟨x, (a 22), rfl, T.ox_Taken, T.no_Taken_name, .inl ⟨hx, fun d hd hn => k d hd hn⟩⟩
theorem b_Taken___init__ (T : Te K mg a fd tk) : Binds K (fd 23) ["self", "name"] [] := T.F_Taken___init__.binds fun _ _ _ _ _ _ us hl => match us, hl with | [_, _], _ => rfl
theorem ok_Ring___init__ (T : Te K mg a fd tk) : FnOk P w K mg base CX0 1 (a 25) (fd 25) ["self", "effects", "cells"] (spX2 (a 24) "effects" "cells") := by
  refine T.F_Ring___init__.ok sc_Ring___init__ (fun vs H Q E h => ?_) (fun cdv A outer s H vs Q E hr h => ?_)
  · obtain ⟨x, v, u, rfl, _⟩ := h
    rfl
  · obtain ⟨x, v, u, rfl, hx, k⟩ := h
    refine ⟨_, (pss_cons (ps_expr (pe_reinit (by rfl) T.b_RuntimeError T.vi_RuntimeError (pa_cons (pv 0) (pa_cons pe_str pa_nil))))
  (pss_cons (ps_ostB xbR_ok (pv 0) (pv 1))
  (pss_one (ps_ostB xbR_ok (pv 0) (pv 2))))), ?_⟩
    walk_at "rd"
    refine s_veB ?_
    walk_at "rd"
    refine ⟨x, (a 24), [_], rfl, by simp, T.ox_Ring, hx, ?_⟩
    walk_at "rd"
    refine s_osB ?_
    walk_at "rd"
    refine ⟨x, (a 24), rfl, T.ox_Ring, T.no_Ring_effects, .inl ⟨hx, fun d hd hn => ?_⟩⟩
    walk_at "rd"
    refine s_osB ?_
    walk_at "rd"
    exact ⟨x, (a 24), rfl, T.ox_Ring, T.no_Ring_cells, .inr ⟨d, _, upd_same, by rw [upd_ne hn]; exact upd_same, by simp, k d hd hn⟩⟩
theorem b_Ring___init__ (T : Te K mg a fd tk) : Binds K (fd 25) ["self", "effects", "cells"] [] := T.F_Ring___init__.binds fun _ _ _ _ _ _ us hl => match us, hl with | [_, _, _], _ => rfl
theorem ok_Over___init__ (T : Te K mg a fd tk) : FnOk P w K mg base CX0 1 (a 27) (fd 27) ["self"] (spX0 (a 26)) := by
  refine T.F_Over___init__.ok sc_Over___init__ (fun vs H Q E h => ?_) (fun cdv A outer s H vs Q E hr h => ?_)
  · obtain ⟨x, rfl, _⟩ := h
    rfl
  · obtain ⟨x, rfl, hx, k⟩ := h
    refine ⟨_, (pss_one (ps_expr (pe_reinit (by rfl) T.b_RuntimeError T.vi_RuntimeError (pa_cons (pv 0) (pa_cons pe_str pa_nil))))), ?_⟩
    walk_at "rd"
    refine s_veB ?_
    walk_at "rd"
    refine ⟨x, (a 26), [_], rfl, by simp, T.ox_Over, hx, ?_⟩
    first | exact k | (walk_at "rd"; exact k)
theorem b_Over___init__ (T : Te K mg a fd tk) : Binds K (fd 27) ["self"] [] := T.F_Over___init__.binds fun _ _ _ _ _ _ us hl => match us, hl with | [_], _ => rfl
theorem ok_TooLong___init__ (T : Te K mg a fd tk) : FnOk P w K mg base CX0 1 (a 29) (fd 29) ["self", "cells"] (spX1 (a 28) "cells") := by
  refine T.F_TooLong___init__.ok sc_TooLong___init__ (fun vs H Q E h => ?_) (fun cdv A outer s H vs Q E hr h => ?_)
  · obtain ⟨x, v, rfl, _⟩ := h
    rfl
  · obtain ⟨x, v, rfl, hx, k⟩ := h
    refine ⟨_, (pss_cons (ps_expr (pe_reinit (by rfl) T.b_RuntimeError T.vi_RuntimeError (pa_cons (pv 0) (pa_cons pe_str pa_nil))))
  (pss_one (ps_ostB xbR_ok (pv 0) (pv 1)))), ?_⟩
    walk_at "rd"
    refine s_veB ?_
    walk_at "rd"
    refine ⟨x, (a 28), [_], rfl, by simp, T.ox_TooLong, hx, ?_⟩
    refine s_osB ?_
    walk_at "rd"
    exact ⟨x, (a 28), rfl, T.ox_TooLong, T.no_TooLong_cells, .inl ⟨hx, fun d hd hn => k d hd hn⟩⟩
theorem b_TooLong___init__ (T : Te K mg a fd tk) : Binds K (fd 29) ["self", "cells"] [] := T.F_TooLong___init__.binds fun _ _ _ _ _ _ us hl => match us, hl with | [_, _], _ => rfl
theorem ok_Misplaced___init__ (T : Te K mg a fd tk) : FnOk P w K mg base CX0 1 (a 31) (fd 31) ["self", "name"] (spX1 (a 30) "name") := by
  refine T.F_Misplaced___init__.ok sc_Misplaced___init__ (fun vs H Q E h => ?_) (fun cdv A outer s H vs Q E hr h => ?_)
  · obtain ⟨x, v, rfl, _⟩ := h
    rfl
  · obtain ⟨x, v, rfl, hx, k⟩ := h
    refine ⟨_, (pss_cons (ps_expr (pe_reinit (by rfl) T.b_RuntimeError T.vi_RuntimeError (pa_cons (pv 0) (pa_cons pe_str pa_nil))))
  (pss_one (ps_ostB xbR_ok (pv 0) (pv 1)))), ?_⟩
    walk_at "rd"
    refine s_veB ?_
    walk_at "rd"
    refine ⟨x, (a 30), [_], rfl, by simp, T.ox_Misplaced, hx, ?_⟩
    refine s_osB ?_
    walk_at "rd"
    exact ⟨x, (a 30), rfl, T.ox_Misplaced, T.no_Misplaced_name, .inl ⟨hx, fun d hd hn => k d hd hn⟩⟩
theorem b_Misplaced___init__ (T : Te K mg a fd tk) : Binds K (fd 31) ["self", "name"] [] := T.F_Misplaced___init__.binds fun _ _ _ _ _ _ us hl => match us, hl with | [_, _], _ => rfl
theorem ok_Busy___init__ (T : Te K mg a fd tk) : FnOk P w K mg base CX0 1 (a 33) (fd 33) ["self", "name"] (spX1 (a 32) "name") := by
  refine T.F_Busy___init__.ok sc_Busy___init__ (fun vs H Q E h => ?_) (fun cdv A outer s H vs Q E hr h => ?_)
  · obtain ⟨x, v, rfl, _⟩ := h
    rfl
  · obtain ⟨x, v, rfl, hx, k⟩ := h
    refine ⟨_, (pss_cons (ps_expr (pe_reinit (by rfl) T.b_RuntimeError T.vi_RuntimeError (pa_cons (pv 0) (pa_cons pe_str pa_nil))))
  (pss_one (ps_ostB xbR_ok (pv 0) (pv 1)))), ?_⟩
    walk_at "rd"
    refine s_veB ?_
    walk_at "rd"
    refine ⟨x, (a 32), [_], rfl, by simp, T.ox_Busy, hx, ?_⟩
    refine s_osB ?_
    walk_at "rd"
    exact ⟨x, (a 32), rfl, T.ox_Busy, T.no_Busy_name, .inl ⟨hx, fun d hd hn => k d hd hn⟩⟩
theorem b_Busy___init__ (T : Te K mg a fd tk) : Binds K (fd 33) ["self", "name"] [] := T.F_Busy___init__.binds fun _ _ _ _ _ _ us hl => match us, hl with | [_, _], _ => rfl
theorem kb_BadBook___init__ (T : Te K mg a fd tk) : KBn K (fd 1) ["self", "at"] 1 ["at"] (fun us ws => us ++ ws) (fun us ws => us ++ ws) := T.F_BadBook___init__.kbn (fun r1 r2 => r1.append r2) fun _ _ _ _ _ _ us ws h1 h2 => match us, ws, h1, h2 with | [_], [_], _, _ => rfl
theorem kb_TooMany___init__ (T : Te K mg a fd tk) : KBn K (fd 3) ["self", "what"] 1 ["what"] (fun us ws => us ++ ws) (fun us ws => us ++ ws) := T.F_TooMany___init__.kbn (fun r1 r2 => r1.append r2) fun _ _ _ _ _ _ us ws h1 h2 => match us, ws, h1, h2 with | [_], [_], _, _ => rfl
theorem kb_NoName___init__ (T : Te K mg a fd tk) : KBn K (fd 5) ["self", "name"] 1 ["name"] (fun us ws => us ++ ws) (fun us ws => us ++ ws) := T.F_NoName___init__.kbn (fun r1 r2 => r1.append r2) fun _ _ _ _ _ _ us ws h1 h2 => match us, ws, h1, h2 with | [_], [_], _, _ => rfl
theorem kb_BadArguments___init__ (T : Te K mg a fd tk) : KBn K (fd 7) ["self", "count"] 1 ["count"] (fun us ws => us ++ ws) (fun us ws => us ++ ws) := T.F_BadArguments___init__.kbn (fun r1 r2 => r1.append r2) fun _ _ _ _ _ _ us ws h1 h2 => match us, ws, h1, h2 with | [_], [_], _, _ => rfl
theorem kb_NotWaiting___init__ (T : Te K mg a fd tk) : KBn K (fd 9) ["self", "name"] 1 ["name"] (fun us ws => us ++ ws) (fun us ws => us ++ ws) := T.F_NotWaiting___init__.kbn (fun r1 r2 => r1.append r2) fun _ _ _ _ _ _ us ws h1 h2 => match us, ws, h1, h2 with | [_], [_], _, _ => rfl
theorem kb_BadState___init__ (T : Te K mg a fd tk) : KBn K (fd 11) ["self", "part"] 1 ["part"] (fun us ws => us ++ ws) (fun us ws => us ++ ws) := T.F_BadState___init__.kbn (fun r1 r2 => r1.append r2) fun _ _ _ _ _ _ us ws h1 h2 => match us, ws, h1, h2 with | [_], [_], _, _ => rfl
theorem kb_BadRow___init__ (T : Te K mg a fd tk) : KBn K (fd 13) ["self", "at"] 1 ["at"] (fun us ws => us ++ ws) (fun us ws => us ++ ws) := T.F_BadRow___init__.kbn (fun r1 r2 => r1.append r2) fun _ _ _ _ _ _ us ws h1 h2 => match us, ws, h1, h2 with | [_], [_], _, _ => rfl
theorem kb_BadAsk___init__ (T : Te K mg a fd tk) : KBn K (fd 15) ["self", "ask"] 1 ["ask"] (fun us ws => us ++ ws) (fun us ws => us ++ ws) := T.F_BadAsk___init__.kbn (fun r1 r2 => r1.append r2) fun _ _ _ _ _ _ us ws h1 h2 => match us, ws, h1, h2 with | [_], [_], _, _ => rfl
theorem kb_BadStep___init__ (T : Te K mg a fd tk) : KBn K (fd 17) ["self", "at"] 1 ["at"] (fun us ws => us ++ ws) (fun us ws => us ++ ws) := T.F_BadStep___init__.kbn (fun r1 r2 => r1.append r2) fun _ _ _ _ _ _ us ws h1 h2 => match us, ws, h1, h2 with | [_], [_], _, _ => rfl
theorem kb_Unlike___init__ (T : Te K mg a fd tk) : KBn K (fd 19) ["self", "what"] 1 ["what"] (fun us ws => us ++ ws) (fun us ws => us ++ ws) := T.F_Unlike___init__.kbn (fun r1 r2 => r1.append r2) fun _ _ _ _ _ _ us ws h1 h2 => match us, ws, h1, h2 with | [_], [_], _, _ => rfl
theorem kb_HasWait___init__ (T : Te K mg a fd tk) : KBn K (fd 21) ["self", "name"] 1 ["name"] (fun us ws => us ++ ws) (fun us ws => us ++ ws) := T.F_HasWait___init__.kbn (fun r1 r2 => r1.append r2) fun _ _ _ _ _ _ us ws h1 h2 => match us, ws, h1, h2 with | [_], [_], _, _ => rfl
theorem kb_Taken___init__ (T : Te K mg a fd tk) : KBn K (fd 23) ["self", "name"] 1 ["name"] (fun us ws => us ++ ws) (fun us ws => us ++ ws) := T.F_Taken___init__.kbn (fun r1 r2 => r1.append r2) fun _ _ _ _ _ _ us ws h1 h2 => match us, ws, h1, h2 with | [_], [_], _, _ => rfl
theorem kb_Ring___init__ (T : Te K mg a fd tk) : KBn K (fd 25) ["self", "effects", "cells"] 1 ["cells", "effects"] (fun us ws => us ++ ws.reverse) (fun us ws => us ++ ws.reverse) := T.F_Ring___init__.kbn (fun r1 r2 => r1.append (vals_rev r2)) fun _ _ _ _ _ _ us ws h1 h2 => match us, ws, h1, h2 with | [_], [_, _], _, _ => rfl
theorem kb_TooLong___init__ (T : Te K mg a fd tk) : KBn K (fd 29) ["self", "cells"] 1 ["cells"] (fun us ws => us ++ ws) (fun us ws => us ++ ws) := T.F_TooLong___init__.kbn (fun r1 r2 => r1.append r2) fun _ _ _ _ _ _ us ws h1 h2 => match us, ws, h1, h2 with | [_], [_], _, _ => rfl
theorem kb_Misplaced___init__ (T : Te K mg a fd tk) : KBn K (fd 31) ["self", "name"] 1 ["name"] (fun us ws => us ++ ws) (fun us ws => us ++ ws) := T.F_Misplaced___init__.kbn (fun r1 r2 => r1.append r2) fun _ _ _ _ _ _ us ws h1 h2 => match us, ws, h1, h2 with | [_], [_], _, _ => rfl
theorem kb_Busy___init__ (T : Te K mg a fd tk) : KBn K (fd 33) ["self", "name"] 1 ["name"] (fun us ws => us ++ ws) (fun us ws => us ++ ws) := T.F_Busy___init__.kbn (fun r1 r2 => r1.append r2) fun _ _ _ _ _ _ us ws h1 h2 => match us, ws, h1, h2 with | [_], [_], _, _ => rfl
end
end Tr
set_option maxHeartbeats 1000000

namespace Tr
open PySem L2
section
variable {P : Program} {w : World} {K : PySem.W.Frag} {mg : Str → Option Value} {base : Heap} {a : Nat → Addr} {fd : Nat → FuncData} {tk : Nat → Tok}
local macro_rules | `(tactic| walk_at "ne") => `(tactic| first | assumption | (exact Ne.symm (by assumption)) | (refine ne_of_none (by assumption) (by assumption)) | (refine Ne.symm (ne_of_none (by assumption) (by assumption))))
local macro_rules | `(tactic| walk_at "hl") => `(tactic| first | assumption | with_reducible exact upd_same | ((with_reducible refine' Eq.trans (upd_ne ?hne) ?hrest); (case hne => walk_at "ne"); (case hrest => walk_at "hl")) | (refine' get_same ?hs ?hg; (case hs => assumption); (case hg => assumption)))
local macro_rules | `(tactic| walk_at "at") => `(tactic| first | with_reducible exact atI_0 _ _ | with_reducible exact atI_1 _ _ _ | with_reducible exact atI_2 _ _ _ _ | with_reducible exact atI_3 _ _ _ _ _ | assumption)
local macro_rules | `(tactic| walk_at "rd1") => `(tactic| first
  | with_reducible refine s_seq ?_ | with_reducible refine s_next ?_ | with_reducible refine s_if ?_ | with_reducible refine s_ret ?_ | with_reducible refine s_retN ?_ | with_reducible refine s_drop ?_ | with_reducible refine s_asg ?_ | with_reducible refine s_brk ?_ | with_reducible refine s_cont ?_
  | with_reducible refine s_gname ?_ | with_reducible refine s_c ?_ | with_reducible refine s_op ?_ | with_reducible refine s_un ?_ | with_reducible refine s_neg ?_ | with_reducible refine s_test ?_ | with_reducible refine s_tb ?_ | with_reducible refine s_not ?_ | with_reducible refine s_and ?_ | with_reducible refine s_or ?_ | with_reducible refine s_yes ?_
  | ((with_reducible refine' s_var ?hv ?_); (case hv => exact rfl))
  | with_reducible refine s_ifx ?_ | with_reducible refine s_andV ?_ | with_reducible refine s_orV ?_ | with_reducible refine s_notV ?_ | with_reducible refine s_chain ?_ | with_reducible refine s_nil ?_ | with_reducible refine s_cons ?_ | with_reducible refine s_lst ?_ | with_reducible refine s_tup ?_ | with_reducible refine s_cb ?_ | with_reducible refine s_call ?_ | with_reducible refine s_meth ?_ | with_reducible refine s_make ?_
  | with_reducible refine s_dnewK ?_ | with_reducible refine s_sl ?_ | with_reducible refine s_po0 ?_ | with_reducible refine s_po1 ?_ | with_reducible refine s_bm ?_ | with_reducible refine s_bm0 ?_
  | with_reducible refine s_bl ?_ | with_reducible refine s_int ?_ | with_reducible refine s_I0 ?_ | with_reducible refine s_addI ?_ | with_reducible refine s_intI ?_ | with_reducible refine s_intB ?_
  | with_reducible refine s_m1 ?_ | with_reducible refine s_lc ?_ | with_reducible refine s_ilist ?_ | with_reducible refine s_for ?_ | with_reducible refine s_irng ?_ | with_reducible refine s_match ?_ | with_reducible refine s_starT ?_ | with_reducible refine s_isS ?_ | with_reducible refine s_isiSS ?_ | with_reducible refine s_fldU ?_ | with_reducible refine s_sfldU ?_
  | ((with_reducible refine' s_eqS ?hq ?_); (case hq => exact rfl)) | ((with_reducible refine' s_neS ?hq ?_); (case hq => exact rfl))
  | ((with_reducible refine' s_isN ?hq ?_); (case hq => exact rfl)) | ((with_reducible refine' s_notN ?hq ?_); (case hq => exact rfl))
  | ((with_reducible refine' s_eqNil ?h1 ?h2 ?_); (case h1 => walk_at "hl"); (case h2 => walk_at "hl")) | ((with_reducible refine' s_neNil ?h1 ?h2 ?_); (case h1 => walk_at "hl"); (case h2 => walk_at "hl"))
  | ((with_reducible refine' s_ixL ?h1 ?h2 ?_); (case h1 => walk_at "hl"); (case h2 => walk_at "at")) | ((with_reducible refine' s_ixT ?h1 ?h2 ?_); (case h1 => walk_at "hl"); (case h2 => walk_at "at"))
  | ((with_reducible refine' s_inS ?h1 ?_); (case h1 => walk_at "hl")) | ((with_reducible refine' s_ninS ?h1 ?_); (case h1 => walk_at "hl")) | with_reducible refine s_inW ?_
  | ((with_reducible refine' s_lenL ?h1 ?_); (case h1 => walk_at "hl")) | ((with_reducible refine' s_lenT ?h1 ?_); (case h1 => walk_at "hl"))
  | ((with_reducible refine' s_tyL ?h1 ?_); (case h1 => walk_at "hl"))
  | ((with_reducible refine' s_fldM ?h1 ?h2 ?h3 ?_); (case h1 => walk_at "hl"); (case h2 => walk_at "fok"); (case h3 => walk_at "flk"))
  | ((with_reducible refine' s_setM ?h1 ?h2 ?h3 ?h4 ?_); (case h1 => walk_at "hl"); (case h2 => walk_at "fok"); (case h4 => walk_at "put"); (case h3 => exact Nat.le_of_ble_eq_true rfl))
  | ((with_reducible refine' s_starM ?h1 ?_); (case h1 => walk_at "hl"))
  | ((with_reducible refine' s_recv ?h1 ?h2 ?_); (case h1 => walk_at "hl"); (case h2 => exact rfl))
  | ((with_reducible refine' s_sz ?h1 ?_); (case h1 => (simp; done))))
local macro_rules | `(tactic| walk_at "rd") => `(tactic| repeat (walk_at "rd1"))
local macro_rules | `(tactic| walk_at "fok") => `(tactic| assumption)
local macro_rules | `(tactic| walk_at "flk") => `(tactic| rfl)
local macro_rules | `(tactic| walk_at "put") => `(tactic| exact rfl)

local macro_rules | `(tactic| walk_at "fok") => `(tactic| first | assumption)
/-- the law's bag of draws -/
def BagAt (H : Hp) (bl sl : Addr) : Prop := sl ≠ bl ∧ ∃ (xs : List Int) (i : Nat) (c r : Int), H bl = some (.lst [.ref sl, .int (i : Int), .int c, .int r]) ∧ H sl = some (.lst (xs.map V.int)) ∧ 0 ≤ c ∧ 0 ≤ r ∧ r < 2147483648 ∧ (i ≤ xs.length ∧ xs.length ≤ 100)
theorem BagAt.fr {H H' : Hp} {bl sl : Addr} {S : List Addr} (B : BagAt H bl sl) (f : Fr H H' S) (h1 : bl ∉ S) (h2 : sl ∉ S) : BagAt H' bl sl := by
  obtain ⟨n, xs, i, c, r, g1, g2, g3⟩ := B
  exact ⟨n, xs, i, c, r, f _ _ g1 h1, f _ _ g2 h2, g3⟩
theorem BagAt.same {H H' : Hp} {bl sl : Addr} (B : BagAt H bl sl) (s : Same H H') : BagAt H' bl sl := B.fr (S := []) (.same s) (List.not_mem_nil) (List.not_mem_nil)
def spBag (K : PySem.W.Frag) : Sp := fun vs H Q _ => ∃ (p : Addr) (xs : List Int), vs = [.ref p] ∧ SqL K H p (xs.map V.int) ∧ xs.length ≤ 63 ∧ ∀ bl sl H', Same H H' → H bl = none → H sl = none → BagAt H' bl sl → Q (.ref bl) H'
theorem ok__law_bag (T : Te K mg a fd tk) : FnOk P w K mg base CX0 1 (a 40) (fd 40) ["_law_script"] (spBag K) := by
  refine T.F__law_bag.ok sc__law_bag (fun vs H Q E h => ?_) (fun cdv A outer s H vs Q E hr h => ?_)
  · obtain ⟨p, xs, rfl, _⟩ := h
    rfl
  · obtain ⟨p, xs, rfl, hp, hn, k⟩ := h
    refine ⟨_, (pss_one (ps_ret (pe_lst (pa_cons (pe_callTy call_list_of (by rfl) T.b_list bt_list (pa_cons (pv 0) pa_nil)) (pa_cons pe_int (pa_cons pe_int (pa_cons pe_int pa_nil))))))), ?_⟩
    walk_at "rd"
    refine ⟨p, _, rfl, .inl hp, fun sl nsl => ?_⟩
    walk_at "rd"
    intro bl nbl
    have hne : sl ≠ bl := by rintro rfl; rw [upd_same] at nbl; cases nbl
    refine k bl sl _ ((Same.new nsl).trans (Same.new nbl)) ((Same.new nsl).free nbl) nsl ⟨hne, xs, 0, 0, 1, upd_same, ?_, by decide, by decide, by decide, Nat.zero_le _, by omega⟩
    rw [upd_ne hne]
    exact upd_same
theorem b__law_bag (T : Te K mg a fd tk) : Binds K (fd 40) ["_law_script"] [] := T.F__law_bag.binds fun _ _ _ _ _ _ us hl => match us, hl with | [_], _ => rfl
theorem s_augS {σ : L2.St} {H : Hp} {to ti te : TE} {tget : V → V → Hp → VK → Prop} {tip : TIp} {tset : TSet} {na : L2.St → Hp → Prop} {rt : VK} {bk ct : L2.St → Hp → Prop}
    (h : to σ H fun o H1 => ti σ H1 fun i H2 => tget o i H2 fun x H3 => te σ H3 fun y H4 => tip x y H4 fun z H5 => tset o i z H5 fun H6 => na σ H6) : tAugS to ti te tget tip tset ⟨na, rt, bk, ct⟩ σ H := h
theorem s_get {H : Hp} {Q : VK} {p : Addr} {xs : List V} {n : Int} {v : V} (hp : H p = some (.lst xs)) (ha : atI xs n = some v) (q : Q v H) : rGetU (.ref p) (.int n) H Q := by
  simp only [rGetU, hp]
  exact ⟨v, ha, q⟩
def spDraw : Sp := fun vs H Q _ => ∃ (bl sl : Addr) (n : Int), vs = [.ref bl, .int n] ∧ BagAt H bl sl ∧ 0 < n ∧ n < 2 ^ 200 ∧ ∀ (d : Int) H', 0 ≤ d → d < n → BagAt H' bl sl → Fr H H' [bl] → Q (.int d) H'
theorem ok__law_draw (T : Te K mg a fd tk) : FnOk P w K mg base CX0 1 (a 41) (fd 41) ["_law_bag_here", "_law_many"] spDraw := by
  refine T.F__law_draw.ok sc__law_draw (fun vs H Q E h => ?_) (fun cdv A outer s H vs Q E hr h => ?_)
  · obtain ⟨bl, sl, n, rfl, _⟩ := h
    rfl
  · obtain ⟨bl, sl, n, rfl, ⟨hne, xs, i, c, r, hb, hs, c0, r0, r1, hi, hx⟩, n0, n1, k⟩ := h
    refine ⟨_, (pss_cons (ps_if (pt_cmpR (uEq K hr.units) (pe_ix uIx (pv 0) pe_int (fun _ _ => rfl)) (pe_lst pa_nil) (nomark _)) (pss_one (ps_ret pe_int)) pss_nil)
  (pss_cons (ps_if (pt_cmpR (uEq K hr.units) (pe_ix uIx (pv 0) pe_int (fun _ _ => rfl)) pe_int (nomark _)) (pss_cons (ps_asg pe_int (pg_name (i := 3) sc__law_draw.nd rfl (by first | exact Or.inl rfl | exact Or.inr rfl)))
  (pss_cons (ps_if (pt_cmpR op_lt (pe_ix uIx (pv 0) pe_int (fun _ _ => rfl)) (pe_callB uLen (by rfl) T.b_len bt_len (pa_cons (pe_ix uIx (pv 0) pe_int (fun _ _ => rfl)) pa_nil)) (nomark _)) (pss_cons (ps_asg (pe_callB call_abs (by rfl) T.b_abs bt_abs (pa_cons (pe_ix uIx (pe_ix uIx (pv 0) pe_int (fun _ _ => rfl)) (pe_ix uIx (pv 0) pe_int (fun _ _ => rfl)) (fun _ _ => rfl)) pa_nil)) (pg_name (i := 3) sc__law_draw.nd rfl (by first | exact Or.inl rfl | exact Or.inr rfl)))
  (pss_one (ps_augS (pv 0) pe_int get_listU pe_int ip_add set_listU))) pss_nil)
  (pss_cons (ps_if (pt_cmpR op_lt (pv 3) (pe_op op_pow pe_int pe_int) (nomark _)) (pss_cons (ps_asg (pe_op op_mod (pe_callTy uInt (by rfl) T.b_int bt_int (pa_cons (pe_op uAdd (pe_op uAdd (pe_op uAdd (pe_op uMul (pe_ix uIx (pv 0) pe_int (fun _ _ => rfl)) pe_int) (pe_op uMul (pv 3) pe_int)) (pe_ix uIx (pv 0) pe_int (fun _ _ => rfl))) pe_int) pa_nil)) pe_int) (pg_sub (pv 0) pe_int set_listU))
  (pss_one (ps_ret (pe_op op_mod (pe_callTy uInt (by rfl) T.b_int bt_int (pa_cons (pe_op op_fdivW (pe_op op_mod (pe_callTy uInt (by rfl) T.b_int bt_int (pa_cons (pe_op uAdd (pe_op uMul (pe_ix uIx (pv 0) pe_int (fun _ _ => rfl)) pe_int) (pe_op op_fdivW (pe_ix uIx (pv 0) pe_int (fun _ _ => rfl)) pe_int)) pa_nil)) pe_int) pe_int) pa_nil)) (pv 1))))) pss_nil)
  (pss_one (ps_asg (pv 3) (pg_sub (pv 0) pe_int set_listU)))))) pss_nil)
  (pss_cons (ps_asg (pe_op op_mod (pe_callTy uInt (by rfl) T.b_int bt_int (pa_cons (pe_ix uIx (pv 0) pe_int (fun _ _ => rfl)) pa_nil)) (pv 1)) (pg_name (i := 2) sc__law_draw.nd rfl (by first | exact Or.inl rfl | exact Or.inr rfl)))
  (pss_cons (ps_asg (pe_op op_fdivW (pe_ix uIx (pv 0) pe_int (fun _ _ => rfl)) (pv 1)) (pg_sub (pv 0) pe_int set_listU))
  (pss_one (ps_ret (pv 2))))))), ?_⟩
    have hlog : n.natAbs.log2 < 9000 := by
      have : n.natAbs < 2 ^ 200 := by omega
      exact Nat.lt_of_lt_of_le (PySem.Flt.log2_lt_of (by decide) this) (by decide)
    have tail : ∀ (H1 : Hp) (i' : Nat) (c' : Int) (v2 v3 : Option V), H1 bl = some (.lst [.ref sl, .int (i' : Int), .int c', .int r]) → H1 sl = some (.lst (xs.map V.int)) → Fr H H1 [bl] → 0 ≤ c' → i' ≤ xs.length →
        tSeq (tAsg (tOp (rI (fun x j => 0 < j) fun i j => V.int (i % j)) (tCB rIntU (tCons (tOp rIxU (tVar 0) (tC (V.int 2))) tNil)) (tVar 1)) (gName 2))
          (tSeq (tAsg (tOp (rI CDivW fun i j => V.int (i / j)) (tOp rIxU (tVar 0) (tC (V.int 2))) (tVar 1)) (gSub (tVar 0) (tC (V.int 2)) rSetU)) (tRet (tVar 2)))
          ⟨fun _ H' => Q .non H', Q, fun _ _ => False, fun _ _ => False⟩ [some (.ref bl), some (.int n), v2, v3] H1 := by
      intro H1 i' c' v2 v3 hb1 hs1 f1 c1 hi1
      walk_at "rd"
      refine s_I n0 ?_
      walk_at "rd"
      refine s_I ⟨n0, hlog⟩ ?_
      refine s_gsub ?_
      walk_at "rd"
      refine s_setU hb1 (j := 2) rfl ?_
      walk_at "rd"
      refine k _ _ (Int.emod_nonneg _ (by omega)) (Int.emod_lt_of_pos _ n0) ⟨hne, xs, i', c' / n, r, upd_same, ?_, Int.ediv_nonneg c1 (by omega), r0, r1, hi1, hx⟩ (fun x o h hn => ?_)
      · rw [upd_ne hne]; exact hs1
      · rw [upd_ne (by rintro rfl; exact hn (by simp))]; exact f1 x o h hn
    walk_at "rd"
    intro p np
    have s1 : Same H (upd H p (.lst [])) := Same.new np
    refine s_eqNil (s1 _ _ hs) upd_same ?_
    have hb1 := s1 _ _ hb
    have hs1 := s1 _ _ hs
    have f1 : Fr H (upd H p (.lst [])) [bl] := .same s1
    generalize upd H p (.lst []) = H1 at hb1 hs1 f1 s1 ⊢
    walk_at "rd"
    by_cases cx : xs = []
    · refine ifT (by rw [cx]; rfl) ?_
      walk_at "rd"
      exact k 0 H1 (Int.le_refl _) n0 ⟨hne, xs, i, c, r, hb1, hs1, c0, r0, r1, hi, hx⟩ f1
    refine ifF (by rw [List.isEmpty_map]; simpa using cx) ?_
    walk_at "rd"
    by_cases cc : c = 0
    · refine ifT (by simp [cc]) ?_
      walk_at "rd"
      have two : ∀ (H2 : Hp) (i' : Nat) (cell : Int), H2 bl = some (.lst [.ref sl, .int (i' : Int), .int c, .int r]) → H2 sl = some (.lst (xs.map V.int)) → Fr H H2 [bl] → 0 ≤ cell → i' ≤ xs.length → tSeq (tIfS (tTest (tOp (rI0 fun i j => V.bl (decide (i < j))) (tVar 3) (tOp (rI CPow fun i j => V.int (i ^ j.toNat)) (tC (V.int 10)) (tC (V.int 18))))) (tSeq (tAsg (tOp (rI (fun x j => 0 < j) fun i j => V.int (i % j)) (tCB rIntU (tCons (tOp rAddU (tOp rAddU (tOp rAddU (tOp rMulU (tOp rIxU (tVar 0) (tC (V.int 3))) (tC (V.int 48271))) (tOp rMulU (tVar 3) (tC (V.int 69621)))) (tOp rIxU (tVar 0) (tC (V.int 1)))) (tC (V.int 7))) tNil)) (tC (V.int 2147483647))) (gSub (tVar 0) (tC (V.int 3)) rSetU)) (tRet (tOp (rI (fun x j => 0 < j) fun i j => V.int (i % j)) (tCB rIntU (tCons (tOp (rI CDivW fun i j => V.int (i / j)) (tOp (rI (fun x j => 0 < j) fun i j => V.int (i % j)) (tCB rIntU (tCons (tOp rAddU (tOp rMulU (tOp rIxU (tVar 0) (tC (V.int 3))) (tC (V.int 40692))) (tOp (rI CDivW fun i j => V.int (i / j)) (tOp rIxU (tVar 0) (tC (V.int 3))) (tC (V.int 9)))) tNil)) (tC (V.int 2147483399))) (tC (V.int 8))) tNil)) (tVar 1)))) tNext) (tAsg (tVar 3) (gSub (tVar 0) (tC (V.int 2)) rSetU)) ⟨tSeq (tAsg (tOp (rI (fun x j => 0 < j) fun i j => V.int (i % j)) (tCB rIntU (tCons (tOp rIxU (tVar 0) (tC (V.int 2))) tNil)) (tVar 1)) (gName 2)) (tSeq (tAsg (tOp (rI CDivW fun i j => V.int (i / j)) (tOp rIxU (tVar 0) (tC (V.int 2))) (tVar 1)) (gSub (tVar 0) (tC (V.int 2)) rSetU)) (tRet (tVar 2))) ⟨fun _ H' => Q .non H', Q, fun _ _ => False, fun _ _ => False⟩, Q, fun _ _ => False, fun _ _ => False⟩ [some (.ref bl), some (.int n), none, some (.int cell)] H2 := by
        intro H2 i' cell hb2 hs2 f2 cl0 hi2
        walk_at "rd"
        refine s_I (n := 10) (m := 18) ⟨by decide, by decide, by decide⟩ ?_
        walk_at "rd"
        by_cases ch : cell < 10 ^ 18
        · refine ifT (by simp; exact ch) ?_
          have w1 : CMulW r 48271 := wide_mul (a := 31) (b := 16) (by omega) (by decide) (by decide) (by decide) (by decide)
          have w2 : CMulW cell 69621 := wide_mul (a := 60) (b := 17) (by omega) (by decide) (by decide) (by decide) (by decide)
          walk_at "rd"
          refine s_mulI w1 ?_
          walk_at "rd"
          refine s_mulI w2 ?_
          walk_at "rd"
          refine s_I (by decide) ?_
          refine s_gsub ?_
          walk_at "rd"
          refine s_setU hb2 (j := 3) rfl ?_
          have e0 := Int.emod_nonneg (r * 48271 + cell * 69621 + (i' : Int) + 7) (b := 2147483647) (by decide)
          have e1 := Int.emod_lt_of_pos (r * 48271 + cell * 69621 + (i' : Int) + 7) (b := 2147483647) (by decide)
          generalize (r * 48271 + cell * 69621 + (i' : Int) + 7) % 2147483647 = r' at e0 e1 ⊢
          have hb3 : upd H2 bl (.lst [.ref sl, .int (i' : Int), .int c, .int r']) bl = some (.lst [.ref sl, .int (i' : Int), .int c, .int r']) := upd_same
          have w3 : CMulW r' 40692 := wide_mul (a := 31) (b := 16) (by omega) (by decide) (by decide) (by decide) (by decide)
          have f3 : Fr H (upd H2 bl (.lst [.ref sl, .int (i' : Int), .int c, .int r'])) [bl] := fun x o h hn => by
            rw [upd_ne (by rintro rfl; exact hn (by simp))]; exact f2 x o h hn
          have hs3 : upd H2 bl (.lst [.ref sl, .int (i' : Int), .int c, .int r']) sl = some (.lst (xs.map V.int)) := by rw [upd_ne hne]; exact hs2
          show tRet _ _ _ (upd H2 bl (.lst [.ref sl, .int (i' : Int), .int c, .int r']))
          generalize upd H2 bl (.lst [.ref sl, .int (i' : Int), .int c, .int r']) = H3 at hb3 f3 hs3 ⊢
          walk_at "rd"
          refine s_mulI w3 ?_
          walk_at "rd"
          refine s_I ⟨by decide, by decide⟩ ?_
          walk_at "rd"
          refine s_I (by decide) ?_
          walk_at "rd"
          refine s_I ⟨by decide, by decide⟩ ?_
          walk_at "rd"
          refine s_I n0 ?_
          exact k _ H3 (Int.emod_nonneg _ (by omega)) (Int.emod_lt_of_pos _ n0) ⟨hne, xs, i', c, r', hb3, hs3, c0, e0, by omega, hi2, hx⟩ f3
        · refine ifF (by simp; omega) ?_
          walk_at "rd"
          refine s_gsub ?_
          walk_at "rd"
          refine s_setU hb2 (j := 2) rfl ?_
          refine tail _ i' cell _ _ upd_same (by rw [upd_ne hne]; exact hs2) (fun x o h hn => ?_) cl0 hi2
          rw [upd_ne (by rintro rfl; exact hn (by simp))]; exact f2 x o h hn
      by_cases ci : i < xs.length
      · refine ifT (by simp; omega) ?_
        walk_at "rd"
        have hxi : (xs.map V.int)[i]? = some (.int xs[i]) := by simp [ci]
        refine s_ixL hs1 (atI_nat hxi) ?_
        walk_at "rd"
        refine ⟨_, rfl, ?_⟩
        walk_at "rd"
        refine s_augS ?_
        walk_at "rd"
        refine s_get hb1 (atI_1 _ _ _) ?_
        walk_at "rd"
        refine ⟨_, _, rfl, rfl, ?_⟩
        refine s_setU hb1 (j := 1) rfl ?_
        refine two _ (i + 1) _ upd_same (by rw [upd_ne hne]; exact hs1) (fun x o h hn => ?_) (by split <;> omega) (by omega)
        rw [upd_ne (by rintro rfl; exact hn (by simp))]; exact f1 x o h hn
      · refine ifF (by simp; omega) ?_
        refine s_next ?_
        exact two H1 i 0 hb1 hs1 f1 (Int.le_refl _) hi
    · refine ifF (by simp [cc]) ?_
      refine s_next ?_
      exact tail H1 i c _ _ hb1 hs1 f1 c0 hi
theorem b__law_draw (T : Te K mg a fd tk) : Binds K (fd 41) ["_law_bag_here", "_law_many"] [] := T.F__law_draw.binds fun _ _ _ _ _ _ us hl => match us, hl with | [_, _], _ => rfl
end
end Tr
set_option maxHeartbeats 1000000

namespace Tr
open PySem PySem.OXB L2
section
variable {P : Program} {w : World} {K : PySem.W.Frag} {mg : Str → Option Value} {base : Heap} {a : Nat → Addr} {fd : Nat → FuncData} {tk : Nat → Tok}
local macro_rules | `(tactic| walk_at "ne") => `(tactic| first | assumption | (exact Ne.symm (by assumption)) | (refine ne_of_none (by assumption) (by assumption)) | (refine Ne.symm (ne_of_none (by assumption) (by assumption))))
local macro_rules | `(tactic| walk_at "hl") => `(tactic| first | assumption | with_reducible exact upd_same | ((with_reducible refine' Eq.trans (upd_ne ?hne) ?hrest); (case hne => walk_at "ne"); (case hrest => walk_at "hl")) | (refine' get_same ?hs ?hg; (case hs => assumption); (case hg => assumption)))
local macro_rules | `(tactic| walk_at "at") => `(tactic| first | with_reducible exact atI_0 _ _ | with_reducible exact atI_1 _ _ _ | with_reducible exact atI_2 _ _ _ _ | with_reducible exact atI_3 _ _ _ _ _ | assumption)
local macro_rules | `(tactic| walk_at "rd1") => `(tactic| first
  | with_reducible refine s_seq ?_ | with_reducible refine s_next ?_ | with_reducible refine s_if ?_ | with_reducible refine s_ret ?_ | with_reducible refine s_retN ?_ | with_reducible refine s_drop ?_ | with_reducible refine s_asg ?_ | with_reducible refine s_brk ?_ | with_reducible refine s_cont ?_
  | with_reducible refine s_gname ?_ | with_reducible refine s_c ?_ | with_reducible refine s_op ?_ | with_reducible refine s_un ?_ | with_reducible refine s_neg ?_ | with_reducible refine s_test ?_ | with_reducible refine s_tb ?_ | with_reducible refine s_not ?_ | with_reducible refine s_and ?_ | with_reducible refine s_or ?_ | with_reducible refine s_yes ?_
  | ((with_reducible refine' s_var ?hv ?_); (case hv => exact rfl))
  | with_reducible refine s_ifx ?_ | with_reducible refine s_andV ?_ | with_reducible refine s_orV ?_ | with_reducible refine s_notV ?_ | with_reducible refine s_chain ?_ | with_reducible refine s_nil ?_ | with_reducible refine s_cons ?_ | with_reducible refine s_lst ?_ | with_reducible refine s_tup ?_ | with_reducible refine s_cb ?_ | with_reducible refine s_call ?_ | with_reducible refine s_meth ?_ | with_reducible refine s_make ?_
  | with_reducible refine s_dnewK ?_ | with_reducible refine s_sl ?_ | with_reducible refine s_po0 ?_ | with_reducible refine s_po1 ?_ | with_reducible refine s_bm ?_ | with_reducible refine s_bm0 ?_
  | with_reducible refine s_bl ?_ | with_reducible refine s_int ?_ | with_reducible refine s_I0 ?_ | with_reducible refine s_addI ?_ | with_reducible refine s_intI ?_ | with_reducible refine s_intB ?_
  | with_reducible refine s_m1 ?_ | with_reducible refine s_lc ?_ | with_reducible refine s_ilist ?_ | with_reducible refine s_for ?_ | with_reducible refine s_irng ?_ | with_reducible refine s_match ?_ | with_reducible refine s_starT ?_ | with_reducible refine s_isS ?_ | with_reducible refine s_isiSS ?_ | with_reducible refine s_fldU ?_ | with_reducible refine s_sfldU ?_
  | ((with_reducible refine' s_eqS ?hq ?_); (case hq => exact rfl)) | ((with_reducible refine' s_neS ?hq ?_); (case hq => exact rfl))
  | ((with_reducible refine' s_isN ?hq ?_); (case hq => exact rfl)) | ((with_reducible refine' s_notN ?hq ?_); (case hq => exact rfl))
  | ((with_reducible refine' s_eqNil ?h1 ?h2 ?_); (case h1 => walk_at "hl"); (case h2 => walk_at "hl")) | ((with_reducible refine' s_neNil ?h1 ?h2 ?_); (case h1 => walk_at "hl"); (case h2 => walk_at "hl"))
  | ((with_reducible refine' s_ixL ?h1 ?h2 ?_); (case h1 => walk_at "hl"); (case h2 => walk_at "at")) | ((with_reducible refine' s_ixT ?h1 ?h2 ?_); (case h1 => walk_at "hl"); (case h2 => walk_at "at"))
  | ((with_reducible refine' s_inS ?h1 ?_); (case h1 => walk_at "hl")) | ((with_reducible refine' s_ninS ?h1 ?_); (case h1 => walk_at "hl")) | with_reducible refine s_inW ?_
  | ((with_reducible refine' s_lenL ?h1 ?_); (case h1 => walk_at "hl")) | ((with_reducible refine' s_lenT ?h1 ?_); (case h1 => walk_at "hl"))
  | ((with_reducible refine' s_tyL ?h1 ?_); (case h1 => walk_at "hl"))
  | ((with_reducible refine' s_fldM ?h1 ?h2 ?h3 ?_); (case h1 => walk_at "hl"); (case h2 => walk_at "fok"); (case h3 => walk_at "flk"))
  | ((with_reducible refine' s_setM ?h1 ?h2 ?h3 ?h4 ?_); (case h1 => walk_at "hl"); (case h2 => walk_at "fok"); (case h4 => walk_at "put"); (case h3 => exact Nat.le_of_ble_eq_true rfl))
  | ((with_reducible refine' s_starM ?h1 ?_); (case h1 => walk_at "hl"))
  | ((with_reducible refine' s_recv ?h1 ?h2 ?_); (case h1 => walk_at "hl"); (case h2 => exact rfl))
  | ((with_reducible refine' s_sz ?h1 ?_); (case h1 => (simp; done))))
local macro_rules | `(tactic| walk_at "rd") => `(tactic| repeat (walk_at "rd1"))
local macro_rules | `(tactic| walk_at "fok") => `(tactic| assumption)
local macro_rules | `(tactic| walk_at "flk") => `(tactic| rfl)
local macro_rules | `(tactic| walk_at "put") => `(tactic| exact rfl)

theorem Fr.tr {H H' H'' : Hp} {S : List Addr} (f : Fr H H' S) (g : Fr H' H'' S) : Fr H H'' S := fun x o h hn => g _ _ (f _ _ h hn) hn
theorem bt_RuntimeError : bootBuiltins "RuntimeError" = some (.type "RuntimeError") := by decide +kernel
theorem bt_ValueError : bootBuiltins "ValueError" = some (.type "ValueError") := by decide +kernel
/-- a drawn field -/
def FieldV (H : Hp) (v : V) : Prop := scal v v = true ∨ ∃ (t l : Addr) (n : Int), v = .ref t ∧ H t = some (.tup [.str "e", .int n, .ref l]) ∧ H l = some (.lst [])
theorem FieldV.same {H H' : Hp} {v : V} (h : FieldV H v) (s : Same H H') : FieldV H' v := by
  rcases h with h | ⟨t, l, n, e, h1, h2⟩
  · exact .inl h
  · exact .inr ⟨t, l, n, e, s _ _ h1, s _ _ h2⟩
theorem FieldV.fr {H H' : Hp} {v : V} {bl sl : Addr} (h : FieldV H v) (B : BagAt H bl sl) (s : Fr H H' [bl]) : FieldV H' v := by
  rcases h with h | ⟨t, l, n, e, h1, h2⟩
  · exact .inl h
  · obtain ⟨_, _, _, _, _, g1, _⟩ := B
    refine .inr ⟨t, l, n, e, s _ _ h1 ?_, s _ _ h2 ?_⟩
    · intro hm
      rw [List.mem_singleton] at hm
      rw [hm, g1] at h1
      cases h1
    · intro hm
      rw [List.mem_singleton] at hm
      rw [hm, g1] at h2
      cases h2
theorem shaped_f (n : Int) : (PyData.tuple [.str "e", .int n, .list []]).canLay0 = true ∧ SeqAt.shaped (PyData.tuple [.str "e", .int n, .list []]) = true := by
  have h1 : (PyData.tuple [.str "e", .int n, .list []]).canLay0 = true := by
    have h0 : PyData.strOk (Str.ofString "e") = true := by decide +kernel
    simp [PyData.canLay0, PyData.canLayAll0, h0]
  refine ⟨h1, ?_⟩
  unfold SeqAt.shaped
  rw [h1]
  simp [PyData.depth, PyData.depthAll]
theorem s_neV {H : Hp} {v : V} {Q : VK} (h : FieldV H v) (q : Q (.bl false) H) : rNeU K v v H Q := by
  rcases h with h | ⟨t, l, n, rfl, h1, h2⟩
  · refine s_neS h ?_
    simpa using q
  · unfold rNeU
    rw [if_neg (by simp [scal])]
    simp only [h1]
    refine ⟨.tuple [.str "e", .int n, .list []], .tuple [.str "e", .int n, .list []], .tup (SqT.of h1) (.cons (.str _) (.cons (.int _) (.cons (.lst (SqL.of h2) .nil) .nil))), .tup (SqT.of h1) (.cons (.str _) (.cons (.int _) (.cons (.lst (SqL.of h2) .nil) .nil))), (shaped_f n).2, (shaped_f n).2, ?_⟩
    rw [SeqAt.eqv_refl _ (shaped_f n).1]
    exact q
theorem s_eqV {H : Hp} {v : V} {Q : VK} (h : FieldV H v) (q : Q (.bl true) H) : rEqU K v v H Q := by
  rcases h with h | ⟨t, l, n, rfl, h1, h2⟩
  · refine s_eqS h ?_
    simpa using q
  · unfold rEqU
    rw [if_neg (by simp [scal])]
    simp only [h1]
    refine ⟨.tuple [.str "e", .int n, .list []], .tuple [.str "e", .int n, .list []], .tup (SqT.of h1) (.cons (.str _) (.cons (.int _) (.cons (.lst (SqL.of h2) .nil) .nil))), .tup (SqT.of h1) (.cons (.str _) (.cons (.int _) (.cons (.lst (SqL.of h2) .nil) .nil))), (shaped_f n).2, (shaped_f n).2, ?_⟩
    rw [SeqAt.eqv_refl _ (shaped_f n).1]
    exact q
def spField : Sp := fun vs H Q _ => ∃ (bl sl : Addr), vs = [.ref bl] ∧ BagAt H bl sl ∧ ∀ (v : V) H', FieldV H' v → BagAt H' bl sl → Fr H H' [bl] → Q v H'
theorem ok__law_field (T : Te K mg a fd tk) : FnOk P w K mg base CX0 2 (a 42) (fd 42) ["_law_bag_here"] spField := by
  refine T.F__law_field.ok sc__law_field (fun vs H Q E h => ?_) (fun cdv A outer s H vs Q E hr h => ?_)
  · obtain ⟨bl, sl, rfl, _⟩ := h
    rfl
  · obtain ⟨bl, sl, rfl, B, k⟩ := h
    refine ⟨_, (pss_cons (ps_asg (pe_call (ok__law_draw T) (hr.mono (by decide)) (by rfl) T.g__law_draw T.F__law_draw.kp (b__law_draw T) .nil pass0 (pa_cons (pv 0) (pa_cons pe_int pa_nil))) (pg_name (i := 1) sc__law_field.nd rfl (by first | exact Or.inl rfl | exact Or.inr rfl)))
  (pss_cons (ps_if (pt_cmpR (uEq K hr.units) (pv 1) pe_int (nomark _)) (pss_one (ps_ret (pe_op uAdd (pe_op op_sub (pe_call (ok__law_draw T) (hr.mono (by decide)) (by rfl) T.g__law_draw T.F__law_draw.kp (b__law_draw T) .nil pass0 (pa_cons (pv 0) (pa_cons (pe_op op_sub (pe_op uMul pe_int (pe_op op_pow pe_int pe_int)) pe_int) pa_nil))) (pe_op op_pow pe_int pe_int)) pe_int))) pss_nil)
  (pss_cons (ps_if (pt_cmpR (uEq K hr.units) (pv 1) pe_int (nomark _)) (pss_one (ps_ret (pe_tup (pa_cons pe_str (pa_cons (pe_call (ok__law_draw T) (hr.mono (by decide)) (by rfl) T.g__law_draw T.F__law_draw.kp (b__law_draw T) .nil pass0 (pa_cons (pv 0) (pa_cons (pe_op op_pow pe_int pe_int) pa_nil))) (pa_cons (pe_lst pa_nil) pa_nil)))))) pss_nil)
  (pss_cons (ps_if (pt_cmpR (uEq K hr.units) (pv 1) pe_int (nomark _)) (pss_one (ps_ret (pe_op op_mulS (pe_ix uIx pe_str (pe_call (ok__law_draw T) (hr.mono (by decide)) (by rfl) T.g__law_draw T.F__law_draw.kp (b__law_draw T) .nil pass0 (pa_cons (pv 0) (pa_cons pe_int pa_nil))) (fun _ _ => rfl)) (pe_call (ok__law_draw T) (hr.mono (by decide)) (by rfl) T.g__law_draw T.F__law_draw.kp (b__law_draw T) .nil pass0 (pa_cons (pv 0) (pa_cons pe_int pa_nil)))))) pss_nil)
  (pss_one (ps_ret pe_non)))))), ?_⟩
    walk_at "rd"
    refine ⟨bl, sl, 4, rfl, B, by decide, by decide, fun d H1 d0 d1 B1 f1 => ?_⟩
    walk_at "rd"
    by_cases c1 : d = 0
    · refine ifT (by simp [c1]) ?_
      walk_at "rd"
      refine s_I (n := 10) (m := 30) ⟨by decide, by decide, by decide⟩ ?_
      refine s_mulI (wide_mul (a := 3) (b := 100) (by decide) (by decide) (by decide) (by decide) (by decide)) ?_
      walk_at "rd"
      refine ⟨bl, sl, _, rfl, B1, by decide, by decide, fun e H2 e0 e1 B2 f2 => ?_⟩
      walk_at "rd"
      refine s_I (n := 10) (m := 30) ⟨by decide, by decide, by decide⟩ ?_
      walk_at "rd"
      exact k _ H2 (.inl rfl) B2 (f1.tr f2)
    refine ifF (by simp [c1]) ?_
    walk_at "rd"
    by_cases c2 : d = 1
    · refine ifT (by simp [c2]) ?_
      walk_at "rd"
      refine s_I (n := 10) (m := 9) ⟨by decide, by decide, by decide⟩ ?_
      walk_at "rd"
      refine ⟨bl, sl, _, rfl, B1, by decide, by decide, fun e H2 e0 e1 B2 f2 => ?_⟩
      walk_at "rd"
      intro l nl
      walk_at "rd"
      intro t nt
      have s1 := (Same.new (o := .lst []) nl).trans (Same.new (o := .tup [.str "e", .int e, .ref l]) nt)
      refine k _ _ (.inr ⟨t, l, e, rfl, upd_same, ?_⟩) (B2.same s1) ((f1.tr f2).tr (.same s1))
      exact Same.new nt _ _ upd_same
    refine ifF (by simp [c2]) ?_
    walk_at "rd"
    by_cases c3 : d = 2
    · refine ifT (by simp [c3]) ?_
      walk_at "rd"
      refine ⟨bl, sl, 3, rfl, B1, by decide, by decide, fun e H2 e0 e1 B2 f2 => ?_⟩
      obtain ⟨c, hc⟩ : ∃ c, atI (Str.cps "abc").toList e = some c := by
        rcases (by omega : e = 0 ∨ e = 1 ∨ e = 2) with rfl | rfl | rfl
        · exact ⟨97, by decide +kernel⟩
        · exact ⟨98, by decide +kernel⟩
        · exact ⟨99, by decide +kernel⟩
      refine s_ixS (by decide +kernel) hc ?_
      walk_at "rd"
      refine ⟨bl, sl, 20, rfl, B2, by decide, by decide, fun m H3 m0 m1 B3 f3 => ?_⟩
      refine ⟨_, _, rfl, rfl, mulOk_small m0 (by omega) (by show (1 : Nat) ≤ 1000; decide), ?_⟩
      exact k _ H3 (.inl rfl) B3 ((f1.tr f2).tr f3)
    refine ifF (by simp [c3]) ?_
    walk_at "rd"
    exact k _ H1 (.inl rfl) B1 f1
theorem b__law_field (T : Te K mg a fd tk) : Binds K (fd 42) ["_law_bag_here"] [] := T.F__law_field.binds fun _ _ _ _ _ _ us hl => match us, hl with | [_], _ => rfl
/-- an exception stands at p -/
def XAt (H : Hp) (p C : Addr) : Prop := ∃ d, isX H p C d ∧ ∀ dd, d = some dd → ∃ fs, H dd = some (.xd fs) ∨ H dd = some (exd dd fs)
theorem XAt.same {H H' : Hp} {p C : Addr} (x : XAt H p C) (s : Same H H') : XAt H' p C := by
  obtain ⟨d, h1, h2⟩ := x
  refine ⟨d, h1.imp (s _ _) (s _ _), fun dd e => ?_⟩
  obtain ⟨fs, h⟩ := h2 dd e
  exact ⟨fs, h.imp (s _ _) (s _ _)⟩
theorem ExAt.x {H : Hp} {p C : Addr} {fs : List (Str × V)} (x : ExAt H p C fs) : XAt H p C := by
  obtain ⟨d, h1, h2⟩ := x
  exact ⟨some d, .inl h1, fun dd e => by cases e; exact ⟨fs, .inr h2⟩⟩
theorem XAt.of0 {H : Hp} {p C : Addr} (x : H p = some (exo p C none)) : XAt H p C := ⟨none, .inl x, fun dd e => by cases e⟩
theorem Te.xc (T : Te K mg a fd tk) : ∀ i, i < 17 → ExcC K (a (2 * i))
  | 0, _ => T.xc_BadBook
  | 1, _ => T.xc_TooMany
  | 2, _ => T.xc_NoName
  | 3, _ => T.xc_BadArguments
  | 4, _ => T.xc_NotWaiting
  | 5, _ => T.xc_BadState
  | 6, _ => T.xc_BadRow
  | 7, _ => T.xc_BadAsk
  | 8, _ => T.xc_BadStep
  | 9, _ => T.xc_Unlike
  | 10, _ => T.xc_HasWait
  | 11, _ => T.xc_Taken
  | 12, _ => T.xc_Ring
  | 13, _ => T.xc_Over
  | 14, _ => T.xc_TooLong
  | 15, _ => T.xc_Misplaced
  | 16, _ => T.xc_Busy
  | n + 17, h => absurd h (by omega)
theorem s_isX1 (T : Te K mg a fd tk) {H : Hp} {Q : VK} {p : Addr} {i : Nat} {c : V} {cv : Value} {b : Bool} (hi : i < 17) (x : XAt H p (a (2 * i))) (hc : ∀ u, RelV c u → u = cv) (hk : PySem.W.kitOne K (.ref (a (2 * i))) cv = some b) (q : Q (.bl b) H) : rIsX K [.ref p, c] H Q := by
  obtain ⟨d, h1, h2⟩ := x
  exact ⟨p, _, d, c, cv, b, rfl, h1, h2, T.xc i hi, hc, hk, q⟩
def kindsOf (i : Nat) : List V := (List.range 17).map fun j => V.bl (decide (i = j))
def spKinds (a : Nat → Addr) : Sp := fun vs H Q _ => ∃ (p : Addr) (i : Nat), vs = [.ref p] ∧ i < 17 ∧ XAt H p (a (2 * i)) ∧ ∀ l H', Same H H' → H' l = some (.lst (kindsOf i)) → Q (.ref l) H'
theorem ok__law_kinds (T : Te K mg a fd tk) : FnOk P w K mg base CX0 1 (a 43) (fd 43) ["_law_why"] (spKinds a) := by
  refine T.F__law_kinds.ok sc__law_kinds (fun vs H Q E h => ?_) (fun cdv A outer s H vs Q E hr h => ?_)
  · obtain ⟨p, i, rfl, _⟩ := h
    rfl
  · obtain ⟨p, i, rfl, hi, hx, k⟩ := h
    refine ⟨_, (pss_one (ps_ret (pe_lst (pa_cons (pe_callB call_isX (by rfl) T.b_isinstance bt_isinstance (pa_cons (pv 0) (pa_cons (pe_gR (by rfl) T.g_BadBook) pa_nil))) (pa_cons (pe_callB call_isX (by rfl) T.b_isinstance bt_isinstance (pa_cons (pv 0) (pa_cons (pe_gR (by rfl) T.g_TooMany) pa_nil))) (pa_cons (pe_callB call_isX (by rfl) T.b_isinstance bt_isinstance (pa_cons (pv 0) (pa_cons (pe_gR (by rfl) T.g_NoName) pa_nil))) (pa_cons (pe_callB call_isX (by rfl) T.b_isinstance bt_isinstance (pa_cons (pv 0) (pa_cons (pe_gR (by rfl) T.g_BadArguments) pa_nil))) (pa_cons (pe_callB call_isX (by rfl) T.b_isinstance bt_isinstance (pa_cons (pv 0) (pa_cons (pe_gR (by rfl) T.g_NotWaiting) pa_nil))) (pa_cons (pe_callB call_isX (by rfl) T.b_isinstance bt_isinstance (pa_cons (pv 0) (pa_cons (pe_gR (by rfl) T.g_BadState) pa_nil))) (pa_cons (pe_callB call_isX (by rfl) T.b_isinstance bt_isinstance (pa_cons (pv 0) (pa_cons (pe_gR (by rfl) T.g_BadRow) pa_nil))) (pa_cons (pe_callB call_isX (by rfl) T.b_isinstance bt_isinstance (pa_cons (pv 0) (pa_cons (pe_gR (by rfl) T.g_BadAsk) pa_nil))) (pa_cons (pe_callB call_isX (by rfl) T.b_isinstance bt_isinstance (pa_cons (pv 0) (pa_cons (pe_gR (by rfl) T.g_BadStep) pa_nil))) (pa_cons (pe_callB call_isX (by rfl) T.b_isinstance bt_isinstance (pa_cons (pv 0) (pa_cons (pe_gR (by rfl) T.g_Unlike) pa_nil))) (pa_cons (pe_callB call_isX (by rfl) T.b_isinstance bt_isinstance (pa_cons (pv 0) (pa_cons (pe_gR (by rfl) T.g_HasWait) pa_nil))) (pa_cons (pe_callB call_isX (by rfl) T.b_isinstance bt_isinstance (pa_cons (pv 0) (pa_cons (pe_gR (by rfl) T.g_Taken) pa_nil))) (pa_cons (pe_callB call_isX (by rfl) T.b_isinstance bt_isinstance (pa_cons (pv 0) (pa_cons (pe_gR (by rfl) T.g_Ring) pa_nil))) (pa_cons (pe_callB call_isX (by rfl) T.b_isinstance bt_isinstance (pa_cons (pv 0) (pa_cons (pe_gR (by rfl) T.g_Over) pa_nil))) (pa_cons (pe_callB call_isX (by rfl) T.b_isinstance bt_isinstance (pa_cons (pv 0) (pa_cons (pe_gR (by rfl) T.g_TooLong) pa_nil))) (pa_cons (pe_callB call_isX (by rfl) T.b_isinstance bt_isinstance (pa_cons (pv 0) (pa_cons (pe_gR (by rfl) T.g_Misplaced) pa_nil))) (pa_cons (pe_callB call_isX (by rfl) T.b_isinstance bt_isinstance (pa_cons (pv 0) (pa_cons (pe_gR (by rfl) T.g_Busy) pa_nil))) pa_nil)))))))))))))))))))), ?_⟩
    walk_at "rd"
    refine s_isX1 T hi hx (fun u r => r) (T.kit i hi 0 (by decide)) ?_
    walk_at "rd"
    refine s_isX1 T hi hx (fun u r => r) (T.kit i hi 1 (by decide)) ?_
    walk_at "rd"
    refine s_isX1 T hi hx (fun u r => r) (T.kit i hi 2 (by decide)) ?_
    walk_at "rd"
    refine s_isX1 T hi hx (fun u r => r) (T.kit i hi 3 (by decide)) ?_
    walk_at "rd"
    refine s_isX1 T hi hx (fun u r => r) (T.kit i hi 4 (by decide)) ?_
    walk_at "rd"
    refine s_isX1 T hi hx (fun u r => r) (T.kit i hi 5 (by decide)) ?_
    walk_at "rd"
    refine s_isX1 T hi hx (fun u r => r) (T.kit i hi 6 (by decide)) ?_
    walk_at "rd"
    refine s_isX1 T hi hx (fun u r => r) (T.kit i hi 7 (by decide)) ?_
    walk_at "rd"
    refine s_isX1 T hi hx (fun u r => r) (T.kit i hi 8 (by decide)) ?_
    walk_at "rd"
    refine s_isX1 T hi hx (fun u r => r) (T.kit i hi 9 (by decide)) ?_
    walk_at "rd"
    refine s_isX1 T hi hx (fun u r => r) (T.kit i hi 10 (by decide)) ?_
    walk_at "rd"
    refine s_isX1 T hi hx (fun u r => r) (T.kit i hi 11 (by decide)) ?_
    walk_at "rd"
    refine s_isX1 T hi hx (fun u r => r) (T.kit i hi 12 (by decide)) ?_
    walk_at "rd"
    refine s_isX1 T hi hx (fun u r => r) (T.kit i hi 13 (by decide)) ?_
    walk_at "rd"
    refine s_isX1 T hi hx (fun u r => r) (T.kit i hi 14 (by decide)) ?_
    walk_at "rd"
    refine s_isX1 T hi hx (fun u r => r) (T.kit i hi 15 (by decide)) ?_
    walk_at "rd"
    refine s_isX1 T hi hx (fun u r => r) (T.kit i hi 16 (by decide)) ?_
    walk_at "rd"
    exact fun l hl => k l _ (Same.new hl) upd_same
theorem b__law_kinds (T : Te K mg a fd tk) : Binds K (fd 43) ["_law_why"] [] := T.F__law_kinds.binds fun _ _ _ _ _ _ us hl => match us, hl with | [_], _ => rfl
def spAlone (a : Nat → Addr) : Sp := fun vs H Q _ => ∃ (p : Addr) (i : Nat), vs = [.ref p, .int (i : Int)] ∧ i < 17 ∧ XAt H p (a (2 * i)) ∧ ∀ H', Same H H' → Q (.bl true) H'
theorem ok__law_alone (T : Te K mg a fd tk) : FnOk P w K mg base CX0 2 (a 44) (fd 44) ["_law_why", "_law_at"] (spAlone a) := by
  refine T.F__law_alone.ok sc__law_alone (fun vs H Q E h => ?_) (fun cdv A outer s H vs Q E hr h => ?_)
  · obtain ⟨p, i, rfl, _⟩ := h
    rfl
  · obtain ⟨p, i, rfl, hi, hx, k⟩ := h
    refine ⟨_, (pss_cons (ps_asg (pe_call (ok__law_kinds T) (hr.mono (by decide)) (by rfl) T.g__law_kinds T.F__law_kinds.kp (b__law_kinds T) .nil pass0 (pa_cons (pv 0) pa_nil)) (pg_name (i := 2) sc__law_alone.nd rfl (by first | exact Or.inl rfl | exact Or.inr rfl)))
  (pss_cons (ps_for PassesOwn.never rfl (pi_range1 (by rfl) T.b_range (pa_cons pe_int pa_nil)) (pg_name (i := 3) sc__law_alone.nd rfl (by first | exact Or.inl rfl | exact Or.inr rfl))
   (pss_one (ps_if (pt_cmpR (uNe K hr.units) (pe_ix uIx (pv 2) (pv 3) (fun _ _ => rfl)) (pe_cmpR (uEq K hr.units) (pv 3) (pv 1) (nomark _)) (nomark _)) (pss_one (ps_ret pe_bl)) pss_nil)))
  (pss_cons (ps_if (pt_cmpR op_ge (pv 1) pe_int (nomark _)) (pss_one (ps_ret (pe_and (pe_callB call_isX (by rfl) T.b_isinstance bt_isinstance (pa_cons (pv 0) (pa_cons (pe_bltn (v := .ty "RuntimeError") (by rfl) T.b_RuntimeError bt_RuntimeError rfl) pa_nil))) (pe_and (pe_not (pe_callB call_isX (by rfl) T.b_isinstance bt_isinstance (pa_cons (pv 0) (pa_cons (pe_gR (by rfl) T.g_TrackedError) pa_nil)))) (pe_one (pe_not (pe_callB call_isX (by rfl) T.b_isinstance bt_isinstance (pa_cons (pv 0) (pa_cons (pe_bltn (v := .ty "ValueError") (by rfl) T.b_ValueError bt_ValueError rfl) pa_nil))))))))) pss_nil)
  (pss_one (ps_ret (pe_and (pe_callB call_isX (by rfl) T.b_isinstance bt_isinstance (pa_cons (pv 0) (pa_cons (pe_gR (by rfl) T.g_TrackedError) pa_nil))) (pe_one (pe_callB call_isX (by rfl) T.b_isinstance bt_isinstance (pa_cons (pv 0) (pa_cons (pe_bltn (v := .ty "ValueError") (by rfl) T.b_ValueError bt_ValueError rfl) pa_nil)))))))))), ?_⟩
    walk_at "rd"
    refine ⟨p, i, rfl, hi, hx, fun l H1 s1 hl => ?_⟩
    walk_at "rd"
    refine s_forR (by decide) (by decide) (fun n σ' H' => H' = H1 ∧ ∃ w, σ' = [some (.ref p), some (.int (i : Int)), some (.ref l), w]) ⟨rfl, _, rfl⟩ ?_ ?_
    · rintro n σ' H' hn ⟨rfl, w, rfl⟩
      walk_at "rd"
      have hat : (kindsOf i)[n]? = some (V.bl (decide (i = n))) := by
        unfold kindsOf
        rw [List.getElem?_map, List.getElem?_range (by omega)]
        rfl
      refine s_ixL hl (atI_nat hat) ?_
      walk_at "rd"
      refine ifF ?_ ?_
      · by_cases e : i = n
        · simp [e]
        · have e2 : ¬ (n : Int) = (i : Int) := by omega
          simp [e, e2]
      · walk_at "rd"
        exact ⟨rfl, _, rfl⟩
    · rintro σ' H' ⟨rfl, w, rfl⟩
      have hx' := hx.same s1
      walk_at "rd"
      by_cases c : 12 ≤ i
      · refine ifT (by simp; omega) ?_
        walk_at "rd"
        refine s_isX1 T hi hx' (fun u r => r) (T.kitR i hi) ?_
        rw [decide_eq_true c]
        walk_at "rd"
        refine iteT ?_
        walk_at "rd"
        refine s_isX1 T hi hx' (fun u r => r) (T.kitT i hi) ?_
        rw [decide_eq_false (by omega)]
        walk_at "rd"
        refine iteT ?_
        walk_at "rd"
        refine s_isX1 T hi hx' (fun u r => r) (T.kitV i hi) ?_
        rw [decide_eq_false (by omega)]
        walk_at "rd"
        exact k _ s1
      · refine ifF (by simp; omega) ?_
        walk_at "rd"
        refine s_isX1 T hi hx' (fun u r => r) (T.kitT i hi) ?_
        rw [decide_eq_true (by omega)]
        walk_at "rd"
        refine iteT ?_
        walk_at "rd"
        refine s_isX1 T hi hx' (fun u r => r) (T.kitV i hi) ?_
        rw [decide_eq_true (by omega)]
        walk_at "rd"
        exact k _ s1
theorem b__law_alone (T : Te K mg a fd tk) : Binds K (fd 44) ["_law_why", "_law_at"] [] := T.F__law_alone.binds fun _ _ _ _ _ _ us hl => match us, hl with | [_, _], _ => rfl
end
end Tr
set_option maxHeartbeats 1000000

namespace Tr
open PySem PySem.OXB L2
section
variable {P : Program} {w : World} {K : PySem.W.Frag} {mg : Str → Option Value} {base : Heap} {a : Nat → Addr} {fd : Nat → FuncData} {tk : Nat → Tok}
local macro_rules | `(tactic| walk_at "ne") => `(tactic| first | assumption | (exact Ne.symm (by assumption)) | (refine ne_of_none (by assumption) (by assumption)) | (refine Ne.symm (ne_of_none (by assumption) (by assumption))))
local macro_rules | `(tactic| walk_at "hl") => `(tactic| first | assumption | with_reducible exact upd_same | ((with_reducible refine' Eq.trans (upd_ne ?hne) ?hrest); (case hne => walk_at "ne"); (case hrest => walk_at "hl")) | (refine' get_same ?hs ?hg; (case hs => assumption); (case hg => assumption)))
local macro_rules | `(tactic| walk_at "at") => `(tactic| first | with_reducible exact atI_0 _ _ | with_reducible exact atI_1 _ _ _ | with_reducible exact atI_2 _ _ _ _ | with_reducible exact atI_3 _ _ _ _ _ | assumption)
local macro_rules | `(tactic| walk_at "rd1") => `(tactic| first
  | with_reducible refine s_seq ?_ | with_reducible refine s_next ?_ | with_reducible refine s_if ?_ | with_reducible refine s_ret ?_ | with_reducible refine s_retN ?_ | with_reducible refine s_drop ?_ | with_reducible refine s_asg ?_ | with_reducible refine s_brk ?_ | with_reducible refine s_cont ?_
  | with_reducible refine s_gname ?_ | with_reducible refine s_c ?_ | with_reducible refine s_op ?_ | with_reducible refine s_un ?_ | with_reducible refine s_neg ?_ | with_reducible refine s_test ?_ | with_reducible refine s_tb ?_ | with_reducible refine s_not ?_ | with_reducible refine s_and ?_ | with_reducible refine s_or ?_ | with_reducible refine s_yes ?_
  | ((with_reducible refine' s_var ?hv ?_); (case hv => exact rfl))
  | with_reducible refine s_ifx ?_ | with_reducible refine s_andV ?_ | with_reducible refine s_orV ?_ | with_reducible refine s_notV ?_ | with_reducible refine s_chain ?_ | with_reducible refine s_nil ?_ | with_reducible refine s_cons ?_ | with_reducible refine s_lst ?_ | with_reducible refine s_tup ?_ | with_reducible refine s_cb ?_ | with_reducible refine s_call ?_ | with_reducible refine s_meth ?_ | with_reducible refine s_make ?_
  | with_reducible refine s_dnewK ?_ | with_reducible refine s_sl ?_ | with_reducible refine s_po0 ?_ | with_reducible refine s_po1 ?_ | with_reducible refine s_bm ?_ | with_reducible refine s_bm0 ?_
  | with_reducible refine s_bl ?_ | with_reducible refine s_int ?_ | with_reducible refine s_I0 ?_ | with_reducible refine s_addI ?_ | with_reducible refine s_intI ?_ | with_reducible refine s_intB ?_
  | with_reducible refine s_m1 ?_ | with_reducible refine s_lc ?_ | with_reducible refine s_ilist ?_ | with_reducible refine s_for ?_ | with_reducible refine s_irng ?_ | with_reducible refine s_match ?_ | with_reducible refine s_starT ?_ | with_reducible refine s_isS ?_ | with_reducible refine s_isiSS ?_ | with_reducible refine s_fldU ?_ | with_reducible refine s_sfldU ?_
  | ((with_reducible refine' s_eqS ?hq ?_); (case hq => exact rfl)) | ((with_reducible refine' s_neS ?hq ?_); (case hq => exact rfl))
  | ((with_reducible refine' s_isN ?hq ?_); (case hq => exact rfl)) | ((with_reducible refine' s_notN ?hq ?_); (case hq => exact rfl))
  | ((with_reducible refine' s_eqNil ?h1 ?h2 ?_); (case h1 => walk_at "hl"); (case h2 => walk_at "hl")) | ((with_reducible refine' s_neNil ?h1 ?h2 ?_); (case h1 => walk_at "hl"); (case h2 => walk_at "hl"))
  | ((with_reducible refine' s_ixL ?h1 ?h2 ?_); (case h1 => walk_at "hl"); (case h2 => walk_at "at")) | ((with_reducible refine' s_ixT ?h1 ?h2 ?_); (case h1 => walk_at "hl"); (case h2 => walk_at "at"))
  | ((with_reducible refine' s_inS ?h1 ?_); (case h1 => walk_at "hl")) | ((with_reducible refine' s_ninS ?h1 ?_); (case h1 => walk_at "hl")) | with_reducible refine s_inW ?_
  | ((with_reducible refine' s_lenL ?h1 ?_); (case h1 => walk_at "hl")) | ((with_reducible refine' s_lenT ?h1 ?_); (case h1 => walk_at "hl"))
  | ((with_reducible refine' s_tyL ?h1 ?_); (case h1 => walk_at "hl"))
  | ((with_reducible refine' s_fldM ?h1 ?h2 ?h3 ?_); (case h1 => walk_at "hl"); (case h2 => walk_at "fok"); (case h3 => walk_at "flk"))
  | ((with_reducible refine' s_setM ?h1 ?h2 ?h3 ?h4 ?_); (case h1 => walk_at "hl"); (case h2 => walk_at "fok"); (case h4 => walk_at "put"); (case h3 => exact Nat.le_of_ble_eq_true rfl))
  | ((with_reducible refine' s_starM ?h1 ?_); (case h1 => walk_at "hl"))
  | ((with_reducible refine' s_recv ?h1 ?h2 ?_); (case h1 => walk_at "hl"); (case h2 => exact rfl))
  | ((with_reducible refine' s_sz ?h1 ?_); (case h1 => (simp; done))))
local macro_rules | `(tactic| walk_at "rd") => `(tactic| repeat (walk_at "rd1"))
local macro_rules | `(tactic| walk_at "fok") => `(tactic| assumption)
local macro_rules | `(tactic| walk_at "flk") => `(tactic| rfl)
local macro_rules | `(tactic| walk_at "put") => `(tactic| exact rfl)

def mXoB (K : PySem.W.Frag) (f : Str) (Q : VK) (x : V) (H1 : Hp) : Prop := ∃ (a C dd : Addr) (fs : List (Str × V)) (v : V), x = .ref a ∧ isX H1 a C (some dd) ∧ XfC K C ∧ PySem.W.findIn K (.ref C) f = some none ∧ (H1 dd = some (.xd fs) ∨ H1 dd = some (exd dd fs)) ∧ fs.lookup f = some v ∧ Q v H1
theorem s_xoB {σ : L2.St} {H : Hp} {Q : VK} {f : Str} {te : TE} (h : te σ H fun x H1 => mXoB K f Q x H1) : tXoB K f te σ H Q := h
theorem s_xoM {H : Hp} {Q : VK} {f : Str} {p C : Addr} {fs : List (Str × V)} {v : V} (x : ExAt H p C fs) (xf : XfC K C) (no : PySem.W.findIn K (.ref C) f = some none) (hl : fs.lookup f = some v) (q : Q v H) : mXoB K f Q (.ref p) H := by
  obtain ⟨d, h1, h2⟩ := x
  exact ⟨p, C, d, fs, v, rfl, .inl h1, xf, no, .inr h2, hl, q⟩
def mExK (C : Addr) (m : Nat) (sp : Sp) (gV : List V → List V → List V) (Q : VK) (zs : List V) (H1 : Hp) : Prop := zs.length = m ∧ ∀ a, H1 a = none → sp (gV [.ref a] zs) (upd H1 a (exo a C none)) (fun v H2 => v = .non ∧ Q (.ref a) H2) (fun _ _ _ => False)
def mExV (C : Addr) (sp : Sp) (Q : VK) (vs : List V) (H1 : Hp) : Prop := vs.length ≤ 1000 ∧ ∀ a, H1 a = none → sp (.ref a :: vs) (upd H1 a (exo a C none)) (fun v H2 => v = .non ∧ Q (.ref a) H2) (fun _ _ _ => False)
theorem s_exK {σ : L2.St} {H : Hp} {Q : VK} {C : Addr} {m : Nat} {sp : Sp} {gV : List V → List V → List V} {tk : TA} (h : tk σ H fun zs H1 => mExK C m sp gV Q zs H1) : tExK C m sp gV tk σ H Q := h
theorem s_exV {σ : L2.St} {H : Hp} {Q : VK} {C : Addr} {sp : Sp} {ta : TA} (h : ta σ H fun vs H1 => mExV C sp Q vs H1) : tExV C sp ta σ H Q := h
theorem s_k1 {H : Hp} {Q : VK} {C : Addr} {f : Str} {v : V} (q : ∀ p H', Same H H' → H p = none → ExAt H' p C [(f, v)] → Q (.ref p) H') : mExK C 1 (spX1 C f) (fun us ws => us ++ ws) Q [v] H := ⟨rfl, made1 q⟩
theorem s_k2 {H : Hp} {Q : VK} {C : Addr} {f g : Str} {v u : V} (q : ∀ p H', Same H H' → H p = none → ExAt H' p C [(g, u), (f, v)] → Q (.ref p) H') : mExK C 2 (spX2 C f g) (fun us ws => us ++ ws.reverse) Q [u, v] H := by
  refine ⟨rfl, fun p hp => ?_⟩
  have := made2 (f := f) (g := g) q p hp
  simpa only [List.reverse_cons, List.reverse_nil, List.nil_append, List.cons_append] using this
theorem s_v1 {H : Hp} {Q : VK} {C : Addr} {f : Str} {v : V} (q : ∀ p H', Same H H' → H p = none → ExAt H' p C [(f, v)] → Q (.ref p) H') : mExV C (spX1 C f) Q [v] H := ⟨by simp, made1 q⟩
theorem s_v2 {H : Hp} {Q : VK} {C : Addr} {f g : Str} {v u : V} (q : ∀ p H', Same H H' → H p = none → ExAt H' p C [(g, u), (f, v)] → Q (.ref p) H') : mExV C (spX2 C f g) Q [v, u] H := ⟨by simp, made2 q⟩
theorem s_v0 {H : Hp} {Q : VK} {C : Addr} (q : ∀ p H', Same H H' → H p = none → H' p = some (exo p C none) → Q (.ref p) H') : mExV C (spX0 C) Q [] H := ⟨by simp, made0 q⟩
def spByName : Sp := fun vs H Q _ => ∃ (v u : V), vs = [v, u] ∧ FieldV H v ∧ FieldV H u ∧ ∀ H', Same H H' → Q (.bl true) H'
theorem ok__law_by_name (T : Te K mg a fd tk) : FnOk P w K mg base CX0 3 (a 45) (fd 45) ["_law_one", "_law_two"] spByName := by
  refine T.F__law_by_name.ok sc__law_by_name (fun vs H Q E h => ?_) (fun cdv A outer s H vs Q E hr h => ?_)
  · obtain ⟨v, u, rfl, _⟩ := h
    rfl
  · obtain ⟨v, u, rfl, hv, hu, k⟩ := h
    refine ⟨_, (pss_cons (ps_if (PW.pt (pw_or (pt_cmpR (uNe K hr.units) (pe_xoB (pe_exK xbV_ok T.ox_BadBook T.ini_BadBook T.inf_BadBook (ok_BadBook___init__ T) (hr.mono (by decide)) (kb_BadBook___init__ T) passF (by rfl) T.g_BadBook (pk_cons (pv 0) pk_nil))) (pv 0) (nomark _)) (pw_or (pt_cmpR (uNe K hr.units) (pe_xoB (pe_exK xbV_ok T.ox_TooMany T.ini_TooMany T.inf_TooMany (ok_TooMany___init__ T) (hr.mono (by decide)) (kb_TooMany___init__ T) passF (by rfl) T.g_TooMany (pk_cons (pv 0) pk_nil))) (pv 0) (nomark _)) (pw_or1 (pt_cmpR (uNe K hr.units) (pe_xoB (pe_exK xbV_ok T.ox_NoName T.ini_NoName T.inf_NoName (ok_NoName___init__ T) (hr.mono (by decide)) (kb_NoName___init__ T) passF (by rfl) T.g_NoName (pk_cons (pv 0) pk_nil))) (pv 0) (nomark _)))))) (pss_one (ps_ret pe_bl)) pss_nil)
  (pss_cons (ps_if (PW.pt (pw_or (pt_cmpR (uNe K hr.units) (pe_xoB (pe_exK xbV_ok T.ox_BadArguments T.ini_BadArguments T.inf_BadArguments (ok_BadArguments___init__ T) (hr.mono (by decide)) (kb_BadArguments___init__ T) passF (by rfl) T.g_BadArguments (pk_cons (pv 0) pk_nil))) (pv 0) (nomark _)) (pw_or (pt_cmpR (uNe K hr.units) (pe_xoB (pe_exK xbV_ok T.ox_NotWaiting T.ini_NotWaiting T.inf_NotWaiting (ok_NotWaiting___init__ T) (hr.mono (by decide)) (kb_NotWaiting___init__ T) passF (by rfl) T.g_NotWaiting (pk_cons (pv 0) pk_nil))) (pv 0) (nomark _)) (pw_or1 (pt_cmpR (uNe K hr.units) (pe_xoB (pe_exK xbV_ok T.ox_BadState T.ini_BadState T.inf_BadState (ok_BadState___init__ T) (hr.mono (by decide)) (kb_BadState___init__ T) passF (by rfl) T.g_BadState (pk_cons (pv 0) pk_nil))) (pv 0) (nomark _)))))) (pss_one (ps_ret pe_bl)) pss_nil)
  (pss_cons (ps_if (PW.pt (pw_or (pt_cmpR (uNe K hr.units) (pe_xoB (pe_exK xbV_ok T.ox_BadRow T.ini_BadRow T.inf_BadRow (ok_BadRow___init__ T) (hr.mono (by decide)) (kb_BadRow___init__ T) passF (by rfl) T.g_BadRow (pk_cons (pv 0) pk_nil))) (pv 0) (nomark _)) (pw_or (pt_cmpR (uNe K hr.units) (pe_xoB (pe_exK xbV_ok T.ox_BadAsk T.ini_BadAsk T.inf_BadAsk (ok_BadAsk___init__ T) (hr.mono (by decide)) (kb_BadAsk___init__ T) passF (by rfl) T.g_BadAsk (pk_cons (pv 0) pk_nil))) (pv 0) (nomark _)) (pw_or1 (pt_cmpR (uNe K hr.units) (pe_xoB (pe_exK xbV_ok T.ox_BadStep T.ini_BadStep T.inf_BadStep (ok_BadStep___init__ T) (hr.mono (by decide)) (kb_BadStep___init__ T) passF (by rfl) T.g_BadStep (pk_cons (pv 0) pk_nil))) (pv 0) (nomark _)))))) (pss_one (ps_ret pe_bl)) pss_nil)
  (pss_cons (ps_if (PW.pt (pw_or (pt_cmpR (uNe K hr.units) (pe_xoB (pe_exK xbV_ok T.ox_Unlike T.ini_Unlike T.inf_Unlike (ok_Unlike___init__ T) (hr.mono (by decide)) (kb_Unlike___init__ T) passF (by rfl) T.g_Unlike (pk_cons (pv 0) pk_nil))) (pv 0) (nomark _)) (pw_or (pt_cmpR (uNe K hr.units) (pe_xoB (pe_exK xbV_ok T.ox_HasWait T.ini_HasWait T.inf_HasWait (ok_HasWait___init__ T) (hr.mono (by decide)) (kb_HasWait___init__ T) passF (by rfl) T.g_HasWait (pk_cons (pv 0) pk_nil))) (pv 0) (nomark _)) (pw_or1 (pt_cmpR (uNe K hr.units) (pe_xoB (pe_exK xbV_ok T.ox_Taken T.ini_Taken T.inf_Taken (ok_Taken___init__ T) (hr.mono (by decide)) (kb_Taken___init__ T) passF (by rfl) T.g_Taken (pk_cons (pv 0) pk_nil))) (pv 0) (nomark _)))))) (pss_one (ps_ret pe_bl)) pss_nil)
  (pss_cons (ps_asg (pe_exK xbR_ok T.ox_Ring T.ini_Ring T.inf_Ring (ok_Ring___init__ T) (hr.mono (by decide)) (kb_Ring___init__ T) passF (by rfl) T.g_Ring (pk_cons (pv 1) (pk_cons (pv 0) pk_nil))) (pg_name (i := 2) sc__law_by_name.nd rfl (by first | exact Or.inl rfl | exact Or.inr rfl)))
  (pss_cons (ps_if (PW.pt (pw_or (pt_cmpR (uNe K hr.units) (pe_xoB (pv 2)) (pv 0) (nomark _)) (pw_or (pt_cmpR (uNe K hr.units) (pe_xoB (pv 2)) (pv 1) (nomark _)) (pw_or1 (pt_cmpR (uNe K hr.units) (pe_xoB (pe_exK xbR_ok T.ox_TooLong T.ini_TooLong T.inf_TooLong (ok_TooLong___init__ T) (hr.mono (by decide)) (kb_TooLong___init__ T) passF (by rfl) T.g_TooLong (pk_cons (pv 0) pk_nil))) (pv 0) (nomark _)))))) (pss_one (ps_ret pe_bl)) pss_nil)
  (pss_one (ps_ret (pe_and (pe_cmpR (uEq K hr.units) (pe_xoB (pe_exK xbR_ok T.ox_Misplaced T.ini_Misplaced T.inf_Misplaced (ok_Misplaced___init__ T) (hr.mono (by decide)) (kb_Misplaced___init__ T) passF (by rfl) T.g_Misplaced (pk_cons (pv 0) pk_nil))) (pv 0) (nomark _)) (pe_one (pe_cmpR (uEq K hr.units) (pe_xoB (pe_exK xbR_ok T.ox_Busy T.ini_Busy T.inf_Busy (ok_Busy___init__ T) (hr.mono (by decide)) (kb_Busy___init__ T) passF (by rfl) T.g_Busy (pk_cons (pv 0) pk_nil))) (pv 0) (nomark _)))))))))))), ?_⟩
    have s0 := Same.refl H
    walk_at "rd"
    refine s_xoB ?_
    refine s_exK ?_
    walk_at "rd"
    refine s_k1 fun p1 H1 s1 n1 x1 => ?_
    refine s_xoM x1 T.xf_BadBook T.no_BadBook_at rfl ?_
    replace s0 := s0.trans s1
    walk_at "rd"
    refine s_neV (hv.same s0) ?_
    walk_at "rd"
    refine iteF ?_
    walk_at "rd"
    refine s_xoB ?_
    refine s_exK ?_
    walk_at "rd"
    refine s_k1 fun p2 H2 s2 n2 x2 => ?_
    refine s_xoM x2 T.xf_TooMany T.no_TooMany_what rfl ?_
    replace s0 := s0.trans s2
    walk_at "rd"
    refine s_neV (hv.same s0) ?_
    walk_at "rd"
    refine iteF ?_
    walk_at "rd"
    refine s_xoB ?_
    refine s_exK ?_
    walk_at "rd"
    refine s_k1 fun p3 H3 s3 n3 x3 => ?_
    refine s_xoM x3 T.xf_NoName T.no_NoName_name rfl ?_
    replace s0 := s0.trans s3
    walk_at "rd"
    refine s_neV (hv.same s0) ?_
    walk_at "rd"
    refine iteF ?_
    walk_at "rd"
    refine s_xoB ?_
    refine s_exK ?_
    walk_at "rd"
    refine s_k1 fun p4 H4 s4 n4 x4 => ?_
    refine s_xoM x4 T.xf_BadArguments T.no_BadArguments_count rfl ?_
    replace s0 := s0.trans s4
    walk_at "rd"
    refine s_neV (hv.same s0) ?_
    walk_at "rd"
    refine iteF ?_
    walk_at "rd"
    refine s_xoB ?_
    refine s_exK ?_
    walk_at "rd"
    refine s_k1 fun p5 H5 s5 n5 x5 => ?_
    refine s_xoM x5 T.xf_NotWaiting T.no_NotWaiting_name rfl ?_
    replace s0 := s0.trans s5
    walk_at "rd"
    refine s_neV (hv.same s0) ?_
    walk_at "rd"
    refine iteF ?_
    walk_at "rd"
    refine s_xoB ?_
    refine s_exK ?_
    walk_at "rd"
    refine s_k1 fun p6 H6 s6 n6 x6 => ?_
    refine s_xoM x6 T.xf_BadState T.no_BadState_part rfl ?_
    replace s0 := s0.trans s6
    walk_at "rd"
    refine s_neV (hv.same s0) ?_
    walk_at "rd"
    refine iteF ?_
    walk_at "rd"
    refine s_xoB ?_
    refine s_exK ?_
    walk_at "rd"
    refine s_k1 fun p7 H7 s7 n7 x7 => ?_
    refine s_xoM x7 T.xf_BadRow T.no_BadRow_at rfl ?_
    replace s0 := s0.trans s7
    walk_at "rd"
    refine s_neV (hv.same s0) ?_
    walk_at "rd"
    refine iteF ?_
    walk_at "rd"
    refine s_xoB ?_
    refine s_exK ?_
    walk_at "rd"
    refine s_k1 fun p8 H8 s8 n8 x8 => ?_
    refine s_xoM x8 T.xf_BadAsk T.no_BadAsk_ask rfl ?_
    replace s0 := s0.trans s8
    walk_at "rd"
    refine s_neV (hv.same s0) ?_
    walk_at "rd"
    refine iteF ?_
    walk_at "rd"
    refine s_xoB ?_
    refine s_exK ?_
    walk_at "rd"
    refine s_k1 fun p9 H9 s9 n9 x9 => ?_
    refine s_xoM x9 T.xf_BadStep T.no_BadStep_at rfl ?_
    replace s0 := s0.trans s9
    walk_at "rd"
    refine s_neV (hv.same s0) ?_
    walk_at "rd"
    refine iteF ?_
    walk_at "rd"
    refine s_xoB ?_
    refine s_exK ?_
    walk_at "rd"
    refine s_k1 fun p10 H10 s10 n10 x10 => ?_
    refine s_xoM x10 T.xf_Unlike T.no_Unlike_what rfl ?_
    replace s0 := s0.trans s10
    walk_at "rd"
    refine s_neV (hv.same s0) ?_
    walk_at "rd"
    refine iteF ?_
    walk_at "rd"
    refine s_xoB ?_
    refine s_exK ?_
    walk_at "rd"
    refine s_k1 fun p11 H11 s11 n11 x11 => ?_
    refine s_xoM x11 T.xf_HasWait T.no_HasWait_name rfl ?_
    replace s0 := s0.trans s11
    walk_at "rd"
    refine s_neV (hv.same s0) ?_
    walk_at "rd"
    refine iteF ?_
    walk_at "rd"
    refine s_xoB ?_
    refine s_exK ?_
    walk_at "rd"
    refine s_k1 fun p12 H12 s12 n12 x12 => ?_
    refine s_xoM x12 T.xf_Taken T.no_Taken_name rfl ?_
    replace s0 := s0.trans s12
    walk_at "rd"
    refine s_neV (hv.same s0) ?_
    walk_at "rd"
    refine iteF ?_
    walk_at "rd"
    refine s_exK ?_
    walk_at "rd"
    refine s_k2 fun p13 H13 s13 n13 x13 => ?_
    replace s0 := s0.trans s13
    walk_at "rd"
    refine s_xoB ?_
    walk_at "rd"
    refine s_xoM x13 T.xf_Ring T.no_Ring_effects rfl ?_
    walk_at "rd"
    refine s_neV (hv.same s0) ?_
    walk_at "rd"
    refine iteF ?_
    walk_at "rd"
    refine s_xoB ?_
    walk_at "rd"
    refine s_xoM x13 T.xf_Ring T.no_Ring_cells rfl ?_
    walk_at "rd"
    refine s_neV (hu.same s0) ?_
    walk_at "rd"
    refine iteF ?_
    walk_at "rd"
    refine s_xoB ?_
    refine s_exK ?_
    walk_at "rd"
    refine s_k1 fun p14 H14 s14 n14 x14 => ?_
    refine s_xoM x14 T.xf_TooLong T.no_TooLong_cells rfl ?_
    replace s0 := s0.trans s14
    walk_at "rd"
    refine s_neV (hv.same s0) ?_
    walk_at "rd"
    refine iteF ?_
    walk_at "rd"
    refine s_xoB ?_
    refine s_exK ?_
    walk_at "rd"
    refine s_k1 fun p15 H15 s15 n15 x15 => ?_
    refine s_xoM x15 T.xf_Misplaced T.no_Misplaced_name rfl ?_
    replace s0 := s0.trans s15
    walk_at "rd"
    refine s_eqV (hv.same s0) ?_
    walk_at "rd"
    refine iteT ?_
    walk_at "rd"
    refine s_xoB ?_
    refine s_exK ?_
    walk_at "rd"
    refine s_k1 fun p16 H16 s16 n16 x16 => ?_
    refine s_xoM x16 T.xf_Busy T.no_Busy_name rfl ?_
    replace s0 := s0.trans s16
    walk_at "rd"
    refine s_eqV (hv.same s0) ?_
    walk_at "rd"
    exact k _ s0
theorem b__law_by_name (T : Te K mg a fd tk) : Binds K (fd 45) ["_law_one", "_law_two"] [] := T.F__law_by_name.binds fun _ _ _ _ _ _ us hl => match us, hl with | [_, _], _ => rfl
theorem s_mkO {σ : L2.St} {H : Hp} {C : Addr} {sp : Sp} {ta : TA} {Q : XK} (h : ta σ H fun vs H1 => vs.length ≤ 1000 ∧ ∀ a, H1 a = none → sp (.ref a :: vs) (upd H1 a (exo a C none))
  (fun v H2 => v = .non ∧ ∃ (d : Addr) (fs : List (Str × V)), H2 a = some (exo a C (some d)) ∧ H2 d = some (exd d fs) ∧ H1 d = none ∧ Q (.ref C) (some d) (upd (del H2 a) d (.xd fs))) (fun _ _ _ => False)) : tMkO C sp [] ta σ H Q := by
  show ta σ H fun vs H1 => vs.length ≤ 1000 ∧ ∀ a, H1 a = none → sp (.ref a :: (vs ++ [])) (upd H1 a (exo a C none))
    (fun v H2 => v = .non ∧ ∃ (d : Addr) (fs : List (Str × V)), H2 a = some (exo a C (some d)) ∧ H2 d = some (exd d fs) ∧ H1 d = none ∧ Q (.ref C) (some d) (upd (del H2 a) d (.xd fs))) (fun _ _ _ => False)
  simp only [List.append_nil]
  exact h
def spCaught : Sp := fun vs H Q _ => ∃ (v : V), vs = [v] ∧ FieldV H v ∧ ∀ H', Same H H' → Q (.bl true) H'
theorem ok__law_caught (T : Te K mg a fd tk) : FnOk P w K mg base CX0 3 (a 46) (fd 46) ["_law_one"] spCaught := by
  refine T.F__law_caught.ok sc__law_caught (fun vs H Q E h => ?_) (fun cdv A outer s H vs Q E hr h => ?_)
  · obtain ⟨v, rfl, _⟩ := h
    rfl
  · obtain ⟨v, rfl, hv, k⟩ := h
    refine ⟨_, (pss_cons (ps_asg pe_non (pg_name (i := 1) sc__law_caught.nd rfl (Or.inl rfl)))
      (pss_cons (ps_try_keep (i := 2) rfl rfl sc__law_caught.nd rfl rfl ⟨rfl, by decide, .inl T.g_TrackedError⟩ rfl
          (fun W pn xe tk _ => pss_one (ps_raise rfl tk (pmk_oexB xbV_ok T.ox_BadStep T.ini_BadStep T.inf_BadStep (ok_BadStep___init__ T) (hr.mono (by decide)) (b_BadStep___init__ T) .nil passF (by rfl) T.g_BadStep (pa_cons (pv 0) pa_nil))))
          (fun a oe cls d pn hz hf => pss_one (ps_asg (pv 2) (pg_name (i := 1) sc__law_caught.nd rfl (Or.inl rfl)))))
        (pss_one (ps_ret (pe_and (pe_callB call_isX (by rfl) T.b_isinstance bt_isinstance (pa_cons (pv 1) (pa_cons (pe_gR (by rfl) T.g_BadStep) pa_nil))) (pe_one (pe_cmpR (uEq K hr.units) (pe_xoB (pv 1)) (pv 0) (nomark _)))))))), ?_⟩
    walk_at "rd"
    refine s_mkO ?_
    walk_at "rd"
    refine ⟨by simp, fun p np => ⟨p, v, rfl, upd_same, fun d nd hne => ⟨rfl, d, [("at", v)], upd_same, by rw [upd_ne hne]; exact upd_same, by rw [upd_ne hne] at nd; exact nd, ?_⟩⟩⟩
    have nd' : H d = none := by rw [upd_ne hne] at nd; exact nd
    refine ⟨T.exm, fun e ne => ?_⟩
    generalize hG : upd (del (upd (upd (upd H p (exo p (a 16) none)) d (exd d [("at", v)])) p (exo p (a 16) (some d))) p) d (.xd [("at", v)]) = G at ne ⊢
    have sG : Same H G := fun x o hx => by
      rw [← hG, upd_ne (ne_of_none hx nd'), del_ne (ne_of_none hx np), upd_ne (ne_of_none hx np), upd_ne (ne_of_none hx nd'), upd_ne (ne_of_none hx np)]
      exact hx
    have hGd : G d = some (.xd [("at", v)]) := by rw [← hG]; exact upd_same
    have s3 : Same H (upd G e (xo e (.ref (a 16)) (some d))) := sG.trans (Same.new ne)
    have hde : d ≠ e := by rintro rfl; rw [ne] at hGd; cases hGd
    have hx3 : isX (upd G e (xo e (.ref (a 16)) (some d))) e (a 16) (some d) := .inr upd_same
    have hd3 : upd G e (xo e (.ref (a 16)) (some d)) d = some (.xd [("at", v)]) := by rw [upd_ne hde]; exact hGd
    walk_at "rd"
    generalize upd G e (xo e (.ref (a 16)) (some d)) = G3 at s3 hx3 hd3 ⊢
    refine s_isX1 T (i := 8) (by decide) ⟨some d, hx3, fun dd z => by cases z; exact ⟨_, .inl hd3⟩⟩ (fun u r => r) (T.kit 8 (by decide) 8 (by decide)) ?_
    walk_at "rd"
    refine iteT ?_
    refine s_xoB ?_
    walk_at "rd"
    refine ⟨e, a 16, d, _, v, rfl, hx3, T.xf_BadStep, T.no_BadStep_at, .inl hd3, rfl, ?_⟩
    walk_at "rd"
    refine s_eqV (hv.same s3) ?_
    exact k _ s3
theorem b__law_caught (T : Te K mg a fd tk) : Binds K (fd 46) ["_law_one"] [] := T.F__law_caught.binds fun _ _ _ _ _ _ us hl => match us, hl with | [_], _ => rfl
end
end Tr
set_option maxHeartbeats 4000000

namespace Tr
open PySem PySem.OXB L2
section
variable {P : Program} {w : World} {K : PySem.W.Frag} {mg : Str → Option Value} {base : Heap} {a : Nat → Addr} {fd : Nat → FuncData} {tk : Nat → Tok}
local macro_rules | `(tactic| walk_at "ne") => `(tactic| first | assumption | (exact Ne.symm (by assumption)) | (refine ne_of_none (by assumption) (by assumption)) | (refine Ne.symm (ne_of_none (by assumption) (by assumption))))
local macro_rules | `(tactic| walk_at "hl") => `(tactic| first | assumption | with_reducible exact upd_same | ((with_reducible refine' Eq.trans (upd_ne ?hne) ?hrest); (case hne => walk_at "ne"); (case hrest => walk_at "hl")) | (refine' get_same ?hs ?hg; (case hs => assumption); (case hg => assumption)))
local macro_rules | `(tactic| walk_at "at") => `(tactic| first | with_reducible exact atI_0 _ _ | with_reducible exact atI_1 _ _ _ | with_reducible exact atI_2 _ _ _ _ | with_reducible exact atI_3 _ _ _ _ _ | assumption)
local macro_rules | `(tactic| walk_at "rd1") => `(tactic| first
  | with_reducible refine s_seq ?_ | with_reducible refine s_next ?_ | with_reducible refine s_if ?_ | with_reducible refine s_ret ?_ | with_reducible refine s_retN ?_ | with_reducible refine s_drop ?_ | with_reducible refine s_asg ?_ | with_reducible refine s_brk ?_ | with_reducible refine s_cont ?_
  | with_reducible refine s_gname ?_ | with_reducible refine s_c ?_ | with_reducible refine s_op ?_ | with_reducible refine s_un ?_ | with_reducible refine s_neg ?_ | with_reducible refine s_test ?_ | with_reducible refine s_tb ?_ | with_reducible refine s_not ?_ | with_reducible refine s_and ?_ | with_reducible refine s_or ?_ | with_reducible refine s_yes ?_
  | ((with_reducible refine' s_var ?hv ?_); (case hv => exact rfl))
  | with_reducible refine s_ifx ?_ | with_reducible refine s_andV ?_ | with_reducible refine s_orV ?_ | with_reducible refine s_notV ?_ | with_reducible refine s_chain ?_ | with_reducible refine s_nil ?_ | with_reducible refine s_cons ?_ | with_reducible refine s_lst ?_ | with_reducible refine s_tup ?_ | with_reducible refine s_cb ?_ | with_reducible refine s_call ?_ | with_reducible refine s_meth ?_ | with_reducible refine s_make ?_
  | with_reducible refine s_dnewK ?_ | with_reducible refine s_sl ?_ | with_reducible refine s_po0 ?_ | with_reducible refine s_po1 ?_ | with_reducible refine s_bm ?_ | with_reducible refine s_bm0 ?_
  | with_reducible refine s_bl ?_ | with_reducible refine s_int ?_ | with_reducible refine s_I0 ?_ | with_reducible refine s_addI ?_ | with_reducible refine s_intI ?_ | with_reducible refine s_intB ?_
  | with_reducible refine s_m1 ?_ | with_reducible refine s_lc ?_ | with_reducible refine s_ilist ?_ | with_reducible refine s_for ?_ | with_reducible refine s_irng ?_ | with_reducible refine s_match ?_ | with_reducible refine s_starT ?_ | with_reducible refine s_isS ?_ | with_reducible refine s_isiSS ?_ | with_reducible refine s_fldU ?_ | with_reducible refine s_sfldU ?_
  | ((with_reducible refine' s_eqS ?hq ?_); (case hq => exact rfl)) | ((with_reducible refine' s_neS ?hq ?_); (case hq => exact rfl))
  | ((with_reducible refine' s_isN ?hq ?_); (case hq => exact rfl)) | ((with_reducible refine' s_notN ?hq ?_); (case hq => exact rfl))
  | ((with_reducible refine' s_eqNil ?h1 ?h2 ?_); (case h1 => walk_at "hl"); (case h2 => walk_at "hl")) | ((with_reducible refine' s_neNil ?h1 ?h2 ?_); (case h1 => walk_at "hl"); (case h2 => walk_at "hl"))
  | ((with_reducible refine' s_ixL ?h1 ?h2 ?_); (case h1 => walk_at "hl"); (case h2 => walk_at "at")) | ((with_reducible refine' s_ixT ?h1 ?h2 ?_); (case h1 => walk_at "hl"); (case h2 => walk_at "at"))
  | ((with_reducible refine' s_inS ?h1 ?_); (case h1 => walk_at "hl")) | ((with_reducible refine' s_ninS ?h1 ?_); (case h1 => walk_at "hl")) | with_reducible refine s_inW ?_
  | ((with_reducible refine' s_lenL ?h1 ?_); (case h1 => walk_at "hl")) | ((with_reducible refine' s_lenT ?h1 ?_); (case h1 => walk_at "hl"))
  | ((with_reducible refine' s_tyL ?h1 ?_); (case h1 => walk_at "hl"))
  | ((with_reducible refine' s_fldM ?h1 ?h2 ?h3 ?_); (case h1 => walk_at "hl"); (case h2 => walk_at "fok"); (case h3 => walk_at "flk"))
  | ((with_reducible refine' s_setM ?h1 ?h2 ?h3 ?h4 ?_); (case h1 => walk_at "hl"); (case h2 => walk_at "fok"); (case h4 => walk_at "put"); (case h3 => exact Nat.le_of_ble_eq_true rfl))
  | ((with_reducible refine' s_starM ?h1 ?_); (case h1 => walk_at "hl"))
  | ((with_reducible refine' s_recv ?h1 ?h2 ?_); (case h1 => walk_at "hl"); (case h2 => exact rfl))
  | ((with_reducible refine' s_sz ?h1 ?_); (case h1 => (simp; done))))
local macro_rules | `(tactic| walk_at "rd") => `(tactic| repeat (walk_at "rd1"))
local macro_rules | `(tactic| walk_at "fok") => `(tactic| assumption)
local macro_rules | `(tactic| walk_at "flk") => `(tactic| rfl)
local macro_rules | `(tactic| walk_at "put") => `(tactic| exact rfl)

def spLaw (K : PySem.W.Frag) : Sp := fun vs H Q _ => ∃ (p : Addr) (xs : List Int), vs = [.ref p] ∧ SqL K H p (xs.map V.int) ∧ xs.length ≤ 63 ∧ ∀ H', Q (.bl true) H'
/-- what stands at the seventeen places -/
def exFs (v u : V) : Nat → List (Str × V)
  | 0 => [("at", v)]
  | 1 => [("what", v)]
  | 2 => [("name", v)]
  | 3 => [("count", v)]
  | 4 => [("name", v)]
  | 5 => [("part", v)]
  | 6 => [("at", v)]
  | 7 => [("ask", v)]
  | 8 => [("at", v)]
  | 9 => [("what", v)]
  | 10 => [("name", v)]
  | 11 => [("name", v)]
  | 12 => [("cells", u), ("effects", v)]
  | 13 => []
  | 14 => [("cells", v)]
  | 15 => [("name", v)]
  | 16 => [("name", v)]
  | _ => []
structure Whys (a : Nat → Addr) (H : Hp) (pl : List Addr) (v u : V) : Prop where
  len : pl.length = 17
  x : ∀ n, n < 17 → ∃ p, pl[n]? = some p ∧ XAt H p (a (2 * n)) ∧ (n ≠ 13 → ExAt H p (a (2 * n)) (exFs v u n))
theorem Whys.same {H H' : Hp} {pl : List Addr} {v u : V} (x : Whys a H pl v u) (s : Same H H') : Whys a H' pl v u :=
  ⟨x.len, fun n hn => by
    obtain ⟨p, h1, h2, h3⟩ := x.x n hn
    exact ⟨p, h1, h2.same s, fun e => (h3 e).same s⟩⟩

theorem ok_law (T : Te K mg a fd tk) : FnOk P w K mg base CX0 5 (a 50) (fd 50) ["_law_script"] (spLaw K) := by
  refine T.F_law.ok sc_law (fun vs H Q E h => ?_) (fun cdv A outer s H vs Q E hr h => ?_)
  · obtain ⟨p, xs, rfl, _⟩ := h
    rfl
  · obtain ⟨p, xs, rfl, hp, hxs, k⟩ := h
    refine ⟨_, (pss_cons (ps_asg (pe_call (ok__law_bag T) (hr.mono (by decide)) (by rfl) T.g__law_bag T.F__law_bag.kp (b__law_bag T) .nil pass0 (pa_cons (pv 0) pa_nil)) (pg_name (i := 1) sc_law.nd rfl (by first | exact Or.inl rfl | exact Or.inr rfl)))
  (pss_cons (ps_asg (pe_call (ok__law_field T) (hr.mono (by decide)) (by rfl) T.g__law_field T.F__law_field.kp (b__law_field T) .nil pass0 (pa_cons (pv 1) pa_nil)) (pg_name (i := 2) sc_law.nd rfl (by first | exact Or.inl rfl | exact Or.inr rfl)))
  (pss_cons (ps_asg (pe_call (ok__law_field T) (hr.mono (by decide)) (by rfl) T.g__law_field T.F__law_field.kp (b__law_field T) .nil pass0 (pa_cons (pv 1) pa_nil)) (pg_name (i := 3) sc_law.nd rfl (by first | exact Or.inl rfl | exact Or.inr rfl)))
  (pss_cons (ps_asg (pe_lst (pa_cons (pe_exV xbV_ok T.ox_BadBook T.ini_BadBook T.inf_BadBook (ok_BadBook___init__ T) (hr.mono (by decide)) (b_BadBook___init__ T) passF (by rfl) T.g_BadBook (pa_cons (pv 2) pa_nil)) (pa_cons (pe_exV xbV_ok T.ox_TooMany T.ini_TooMany T.inf_TooMany (ok_TooMany___init__ T) (hr.mono (by decide)) (b_TooMany___init__ T) passF (by rfl) T.g_TooMany (pa_cons (pv 2) pa_nil)) (pa_cons (pe_exV xbV_ok T.ox_NoName T.ini_NoName T.inf_NoName (ok_NoName___init__ T) (hr.mono (by decide)) (b_NoName___init__ T) passF (by rfl) T.g_NoName (pa_cons (pv 2) pa_nil)) (pa_cons (pe_exV xbV_ok T.ox_BadArguments T.ini_BadArguments T.inf_BadArguments (ok_BadArguments___init__ T) (hr.mono (by decide)) (b_BadArguments___init__ T) passF (by rfl) T.g_BadArguments (pa_cons (pv 2) pa_nil)) (pa_cons (pe_exV xbV_ok T.ox_NotWaiting T.ini_NotWaiting T.inf_NotWaiting (ok_NotWaiting___init__ T) (hr.mono (by decide)) (b_NotWaiting___init__ T) passF (by rfl) T.g_NotWaiting (pa_cons (pv 2) pa_nil)) (pa_cons (pe_exV xbV_ok T.ox_BadState T.ini_BadState T.inf_BadState (ok_BadState___init__ T) (hr.mono (by decide)) (b_BadState___init__ T) passF (by rfl) T.g_BadState (pa_cons (pv 2) pa_nil)) (pa_cons (pe_exV xbV_ok T.ox_BadRow T.ini_BadRow T.inf_BadRow (ok_BadRow___init__ T) (hr.mono (by decide)) (b_BadRow___init__ T) passF (by rfl) T.g_BadRow (pa_cons (pv 2) pa_nil)) (pa_cons (pe_exV xbV_ok T.ox_BadAsk T.ini_BadAsk T.inf_BadAsk (ok_BadAsk___init__ T) (hr.mono (by decide)) (b_BadAsk___init__ T) passF (by rfl) T.g_BadAsk (pa_cons (pv 2) pa_nil)) (pa_cons (pe_exV xbV_ok T.ox_BadStep T.ini_BadStep T.inf_BadStep (ok_BadStep___init__ T) (hr.mono (by decide)) (b_BadStep___init__ T) passF (by rfl) T.g_BadStep (pa_cons (pv 2) pa_nil)) (pa_cons (pe_exV xbV_ok T.ox_Unlike T.ini_Unlike T.inf_Unlike (ok_Unlike___init__ T) (hr.mono (by decide)) (b_Unlike___init__ T) passF (by rfl) T.g_Unlike (pa_cons (pv 2) pa_nil)) (pa_cons (pe_exV xbV_ok T.ox_HasWait T.ini_HasWait T.inf_HasWait (ok_HasWait___init__ T) (hr.mono (by decide)) (b_HasWait___init__ T) passF (by rfl) T.g_HasWait (pa_cons (pv 2) pa_nil)) (pa_cons (pe_exV xbV_ok T.ox_Taken T.ini_Taken T.inf_Taken (ok_Taken___init__ T) (hr.mono (by decide)) (b_Taken___init__ T) passF (by rfl) T.g_Taken (pa_cons (pv 2) pa_nil)) (pa_cons (pe_exV xbR_ok T.ox_Ring T.ini_Ring T.inf_Ring (ok_Ring___init__ T) (hr.mono (by decide)) (b_Ring___init__ T) passF (by rfl) T.g_Ring (pa_cons (pv 2) (pa_cons (pv 3) pa_nil))) (pa_cons (pe_exV0 xbR_ok T.ox_Over T.ini_Over T.inf_Over (ok_Over___init__ T) (hr.mono (by decide)) (b_Over___init__ T) passF (by rfl) T.g_Over) (pa_cons (pe_exV xbR_ok T.ox_TooLong T.ini_TooLong T.inf_TooLong (ok_TooLong___init__ T) (hr.mono (by decide)) (b_TooLong___init__ T) passF (by rfl) T.g_TooLong (pa_cons (pv 2) pa_nil)) (pa_cons (pe_exV xbR_ok T.ox_Misplaced T.ini_Misplaced T.inf_Misplaced (ok_Misplaced___init__ T) (hr.mono (by decide)) (b_Misplaced___init__ T) passF (by rfl) T.g_Misplaced (pa_cons (pv 2) pa_nil)) (pa_cons (pe_exV xbR_ok T.ox_Busy T.ini_Busy T.inf_Busy (ok_Busy___init__ T) (hr.mono (by decide)) (b_Busy___init__ T) passF (by rfl) T.g_Busy (pa_cons (pv 2) pa_nil)) pa_nil)))))))))))))))))) (pg_name (i := 4) sc_law.nd rfl (by first | exact Or.inl rfl | exact Or.inr rfl)))
  (pss_cons (ps_for PassesOwn.never rfl (pi_range1 (by rfl) T.b_range (pa_cons pe_int pa_nil)) (pg_name (i := 5) sc_law.nd rfl (by first | exact Or.inl rfl | exact Or.inr rfl))
   (pss_one (ps_if (pt_not (pt_val (pe_call (ok__law_alone T) (hr.mono (by decide)) (by rfl) T.g__law_alone T.F__law_alone.kp (b__law_alone T) .nil pass0 (pa_cons (pe_ix uIx (pv 4) (pv 5) (fun _ _ => rfl)) (pa_cons (pv 5) pa_nil))))) (pss_one (ps_ret pe_bl)) pss_nil)))
  (pss_cons (ps_asg (pe_lst (pa_cons (pe_xoB (pe_ix uIx (pv 4) pe_int (fun _ _ => rfl))) (pa_cons (pe_xoB (pe_ix uIx (pv 4) pe_int (fun _ _ => rfl))) (pa_cons (pe_xoB (pe_ix uIx (pv 4) pe_int (fun _ _ => rfl))) (pa_cons (pe_xoB (pe_ix uIx (pv 4) pe_int (fun _ _ => rfl))) (pa_cons (pe_xoB (pe_ix uIx (pv 4) pe_int (fun _ _ => rfl))) (pa_cons (pe_xoB (pe_ix uIx (pv 4) pe_int (fun _ _ => rfl))) (pa_cons (pe_xoB (pe_ix uIx (pv 4) pe_int (fun _ _ => rfl))) (pa_cons (pe_xoB (pe_ix uIx (pv 4) pe_int (fun _ _ => rfl))) (pa_cons (pe_xoB (pe_ix uIx (pv 4) pe_int (fun _ _ => rfl))) (pa_cons (pe_xoB (pe_ix uIx (pv 4) pe_int (fun _ _ => rfl))) (pa_cons (pe_xoB (pe_ix uIx (pv 4) pe_int (fun _ _ => rfl))) (pa_cons (pe_xoB (pe_ix uIx (pv 4) pe_int (fun _ _ => rfl))) (pa_cons (pe_xoB (pe_ix uIx (pv 4) pe_int (fun _ _ => rfl))) (pa_cons (pe_xoB (pe_ix uIx (pv 4) pe_int (fun _ _ => rfl))) (pa_cons (pe_xoB (pe_ix uIx (pv 4) pe_int (fun _ _ => rfl))) (pa_cons (pe_xoB (pe_ix uIx (pv 4) pe_int (fun _ _ => rfl))) pa_nil))))))))))))))))) (pg_name (i := 6) sc_law.nd rfl (by first | exact Or.inl rfl | exact Or.inr rfl)))
  (pss_cons (ps_for PassesOwn.never rfl (pi_list (pv 6)) (pg_name (i := 7) sc_law.nd rfl (by first | exact Or.inl rfl | exact Or.inr rfl))
   (pss_one (ps_if (pt_cmpR (uNe K hr.units) (pv 7) (pv 2) (nomark _)) (pss_one (ps_ret pe_bl)) pss_nil)))
  (pss_one (ps_ret (pe_and (pe_cmpR (uEq K hr.units) (pe_xoB (pe_ix uIx (pv 4) pe_int (fun _ _ => rfl))) (pv 3) (nomark _)) (pe_and (pe_call (ok__law_by_name T) (hr.mono (by decide)) (by rfl) T.g__law_by_name T.F__law_by_name.kp (b__law_by_name T) .nil pass0 (pa_cons (pv 2) (pa_cons (pv 3) pa_nil))) (pe_one (pe_call (ok__law_caught T) (hr.mono (by decide)) (by rfl) T.g__law_caught T.F__law_caught.kp (b__law_caught T) .nil pass0 (pa_cons (pv 2) pa_nil)))))))))))))), ?_⟩
    walk_at "rd"
    refine ⟨p, xs, rfl, hp, hxs, fun bl sl Hb sb nb1 nb2 B => ?_⟩
    walk_at "rd"
    refine ⟨bl, sl, rfl, B, fun v Hv hv Bv fv => ?_⟩
    walk_at "rd"
    refine ⟨bl, sl, rfl, Bv, fun u Hu hu Bu fu => ?_⟩
    replace hv := hv.fr Bv fu
    have s0 := Same.refl Hu
    walk_at "rd"
    refine s_exV ?_
    walk_at "rd"
    refine s_v1 fun p0 H0 s0 n0 x0 => ?_
    walk_at "rd"
    refine s_exV ?_
    walk_at "rd"
    refine s_v1 fun p1 H1 s1 n1 x1 => ?_
    walk_at "rd"
    refine s_exV ?_
    walk_at "rd"
    refine s_v1 fun p2 H2 s2 n2 x2 => ?_
    walk_at "rd"
    refine s_exV ?_
    walk_at "rd"
    refine s_v1 fun p3 H3 s3 n3 x3 => ?_
    walk_at "rd"
    refine s_exV ?_
    walk_at "rd"
    refine s_v1 fun p4 H4 s4 n4 x4 => ?_
    walk_at "rd"
    refine s_exV ?_
    walk_at "rd"
    refine s_v1 fun p5 H5 s5 n5 x5 => ?_
    walk_at "rd"
    refine s_exV ?_
    walk_at "rd"
    refine s_v1 fun p6 H6 s6 n6 x6 => ?_
    walk_at "rd"
    refine s_exV ?_
    walk_at "rd"
    refine s_v1 fun p7 H7 s7 n7 x7 => ?_
    walk_at "rd"
    refine s_exV ?_
    walk_at "rd"
    refine s_v1 fun p8 H8 s8 n8 x8 => ?_
    walk_at "rd"
    refine s_exV ?_
    walk_at "rd"
    refine s_v1 fun p9 H9 s9 n9 x9 => ?_
    walk_at "rd"
    refine s_exV ?_
    walk_at "rd"
    refine s_v1 fun p10 H10 s10 n10 x10 => ?_
    walk_at "rd"
    refine s_exV ?_
    walk_at "rd"
    refine s_v1 fun p11 H11 s11 n11 x11 => ?_
    walk_at "rd"
    refine s_exV ?_
    walk_at "rd"
    refine s_v2 fun p12 H12 s12 n12 x12 => ?_
    walk_at "rd"
    refine s_exV ?_
    walk_at "rd"
    refine s_v0 fun p13 H13 s13 n13 x13 => ?_
    walk_at "rd"
    refine s_exV ?_
    walk_at "rd"
    refine s_v1 fun p14 H14 s14 n14 x14 => ?_
    walk_at "rd"
    refine s_exV ?_
    walk_at "rd"
    refine s_v1 fun p15 H15 s15 n15 x15 => ?_
    walk_at "rd"
    refine s_exV ?_
    walk_at "rd"
    refine s_v1 fun p16 H16 s16 n16 x16 => ?_
    walk_at "rd"
    intro l nl
    have sl := Same.new (o := .lst [.ref p0, .ref p1, .ref p2, .ref p3, .ref p4, .ref p5, .ref p6, .ref p7, .ref p8, .ref p9, .ref p10, .ref p11, .ref p12, .ref p13, .ref p14, .ref p15, .ref p16]) nl
    have y0 := x0.same (s1.trans (s2.trans (s3.trans (s4.trans (s5.trans (s6.trans (s7.trans (s8.trans (s9.trans (s10.trans (s11.trans (s12.trans (s13.trans (s14.trans (s15.trans (s16.trans sl))))))))))))))))
    have y1 := x1.same (s2.trans (s3.trans (s4.trans (s5.trans (s6.trans (s7.trans (s8.trans (s9.trans (s10.trans (s11.trans (s12.trans (s13.trans (s14.trans (s15.trans (s16.trans sl)))))))))))))))
    have y2 := x2.same (s3.trans (s4.trans (s5.trans (s6.trans (s7.trans (s8.trans (s9.trans (s10.trans (s11.trans (s12.trans (s13.trans (s14.trans (s15.trans (s16.trans sl))))))))))))))
    have y3 := x3.same (s4.trans (s5.trans (s6.trans (s7.trans (s8.trans (s9.trans (s10.trans (s11.trans (s12.trans (s13.trans (s14.trans (s15.trans (s16.trans sl)))))))))))))
    have y4 := x4.same (s5.trans (s6.trans (s7.trans (s8.trans (s9.trans (s10.trans (s11.trans (s12.trans (s13.trans (s14.trans (s15.trans (s16.trans sl))))))))))))
    have y5 := x5.same (s6.trans (s7.trans (s8.trans (s9.trans (s10.trans (s11.trans (s12.trans (s13.trans (s14.trans (s15.trans (s16.trans sl)))))))))))
    have y6 := x6.same (s7.trans (s8.trans (s9.trans (s10.trans (s11.trans (s12.trans (s13.trans (s14.trans (s15.trans (s16.trans sl))))))))))
    have y7 := x7.same (s8.trans (s9.trans (s10.trans (s11.trans (s12.trans (s13.trans (s14.trans (s15.trans (s16.trans sl)))))))))
    have y8 := x8.same (s9.trans (s10.trans (s11.trans (s12.trans (s13.trans (s14.trans (s15.trans (s16.trans sl))))))))
    have y9 := x9.same (s10.trans (s11.trans (s12.trans (s13.trans (s14.trans (s15.trans (s16.trans sl)))))))
    have y10 := x10.same (s11.trans (s12.trans (s13.trans (s14.trans (s15.trans (s16.trans sl))))))
    have y11 := x11.same (s12.trans (s13.trans (s14.trans (s15.trans (s16.trans sl)))))
    have y12 := x12.same (s13.trans (s14.trans (s15.trans (s16.trans sl))))
    have y13 := (s14.trans (s15.trans (s16.trans sl))) _ _ x13
    have y14 := x14.same (s15.trans (s16.trans sl))
    have y15 := x15.same (s16.trans sl)
    have y16 := x16.same sl
    have sG := (s0.trans (s1.trans (s2.trans (s3.trans (s4.trans (s5.trans (s6.trans (s7.trans (s8.trans (s9.trans (s10.trans (s11.trans (s12.trans (s13.trans (s14.trans (s15.trans (s16.trans sl)))))))))))))))))
    have hl : upd H16 l (.lst [.ref p0, .ref p1, .ref p2, .ref p3, .ref p4, .ref p5, .ref p6, .ref p7, .ref p8, .ref p9, .ref p10, .ref p11, .ref p12, .ref p13, .ref p14, .ref p15, .ref p16]) l = some (.lst ([p0, p1, p2, p3, p4, p5, p6, p7, p8, p9, p10, p11, p12, p13, p14, p15, p16].map V.ref)) := upd_same
    have W : Whys a (upd H16 l (.lst [.ref p0, .ref p1, .ref p2, .ref p3, .ref p4, .ref p5, .ref p6, .ref p7, .ref p8, .ref p9, .ref p10, .ref p11, .ref p12, .ref p13, .ref p14, .ref p15, .ref p16])) [p0, p1, p2, p3, p4, p5, p6, p7, p8, p9, p10, p11, p12, p13, p14, p15, p16] v u := ⟨rfl, fun n hn => by
      match n, hn with
      | 0, _ => exact ⟨p0, rfl, y0.x, fun _ => y0⟩
      | 1, _ => exact ⟨p1, rfl, y1.x, fun _ => y1⟩
      | 2, _ => exact ⟨p2, rfl, y2.x, fun _ => y2⟩
      | 3, _ => exact ⟨p3, rfl, y3.x, fun _ => y3⟩
      | 4, _ => exact ⟨p4, rfl, y4.x, fun _ => y4⟩
      | 5, _ => exact ⟨p5, rfl, y5.x, fun _ => y5⟩
      | 6, _ => exact ⟨p6, rfl, y6.x, fun _ => y6⟩
      | 7, _ => exact ⟨p7, rfl, y7.x, fun _ => y7⟩
      | 8, _ => exact ⟨p8, rfl, y8.x, fun _ => y8⟩
      | 9, _ => exact ⟨p9, rfl, y9.x, fun _ => y9⟩
      | 10, _ => exact ⟨p10, rfl, y10.x, fun _ => y10⟩
      | 11, _ => exact ⟨p11, rfl, y11.x, fun _ => y11⟩
      | 12, _ => exact ⟨p12, rfl, y12.x, fun _ => y12⟩
      | 13, _ => exact ⟨p13, rfl, XAt.of0 y13, fun z => absurd rfl z⟩
      | 14, _ => exact ⟨p14, rfl, y14.x, fun _ => y14⟩
      | 15, _ => exact ⟨p15, rfl, y15.x, fun _ => y15⟩
      | 16, _ => exact ⟨p16, rfl, y16.x, fun _ => y16⟩
      | n + 17, h => exact absurd h (by omega)⟩
    replace hv := hv.same sG
    replace hu := hu.same sG
    clear sG sl nl s0
    generalize [p0, p1, p2, p3, p4, p5, p6, p7, p8, p9, p10, p11, p12, p13, p14, p15, p16] = pl at hl W
    generalize upd H16 l (.lst [.ref p0, .ref p1, .ref p2, .ref p3, .ref p4, .ref p5, .ref p6, .ref p7, .ref p8, .ref p9, .ref p10, .ref p11, .ref p12, .ref p13, .ref p14, .ref p15, .ref p16]) = G at hl W hv hu ⊢
    clear y16 y15 y14 y13 y12 y11 y10 y9 y8 y7 y6 y5 y4 y3 y2 y1 y0 x16 x15 x14 x13 x12 x11 x10 x9 x8 x7 x6 x5 x4 x3 x2 x1 x0 n16 n15 n14 n13 n12 n11 n10 n9 n8 n7 n6 n5 n4 n3 n2 n1 n0 s16 s15 s14 s13 s12 s11 s10 s9 s8 s7 s6 s5 s4 s3 s2 s1 s0
    walk_at "rd"
    have at_ : ∀ {H' : Hp} {n : Nat}, Whys a H' pl v u → n < 17 → ∃ q, (pl.map V.ref)[n]? = some (.ref q) ∧ XAt H' q (a (2 * n)) ∧ (n ≠ 13 → ExAt H' q (a (2 * n)) (exFs v u n)) := fun {H' n} W hn => by
      obtain ⟨q, h1, h2, h3⟩ := W.x n hn
      exact ⟨q, by rw [List.getElem?_map, h1]; rfl, h2, h3⟩
    refine s_forR (by decide) (by decide) (fun n σ' H' => Same G H' ∧ ∃ w, σ' = [some (.ref p), some (.ref bl), some v, some u, some (.ref l), w, none, none]) ⟨Same.refl G, _, rfl⟩ ?_ ?_
    · rintro n σ' H' hn ⟨sG, w, rfl⟩
      obtain ⟨q, h1, h2, _⟩ := at_ (W.same sG) (show n < 17 by omega)
      walk_at "rd"
      refine s_ixL (sG _ _ hl) (atI_nat h1) ?_
      walk_at "rd"
      refine ⟨q, n, rfl, by omega, h2, fun H'' s'' => ?_⟩
      walk_at "rd"
      refine iteF ?_
      walk_at "rd"
      exact ⟨sG.trans s'', _, rfl⟩
    · rintro σ' H' ⟨sG, w0, rfl⟩
      replace W := W.same sG
      replace hl := sG _ _ hl
      replace hv := hv.same sG
      replace hu := hu.same sG
      clear sG
      walk_at "rd"
      refine s_xoB ?_
      walk_at "rd"
      obtain ⟨q, h1, _, h3⟩ := at_ W (show 0 < 17 by decide)
      refine s_ixL (n := (0 : Nat)) hl (atI_nat h1) ?_
      refine s_xoM (h3 (by decide)) T.xf_BadBook T.no_BadBook_at rfl ?_
      clear h1 h3
      walk_at "rd"
      refine s_xoB ?_
      walk_at "rd"
      obtain ⟨q, h1, _, h3⟩ := at_ W (show 1 < 17 by decide)
      refine s_ixL (n := (1 : Nat)) hl (atI_nat h1) ?_
      refine s_xoM (h3 (by decide)) T.xf_TooMany T.no_TooMany_what rfl ?_
      clear h1 h3
      walk_at "rd"
      refine s_xoB ?_
      walk_at "rd"
      obtain ⟨q, h1, _, h3⟩ := at_ W (show 2 < 17 by decide)
      refine s_ixL (n := (2 : Nat)) hl (atI_nat h1) ?_
      refine s_xoM (h3 (by decide)) T.xf_NoName T.no_NoName_name rfl ?_
      clear h1 h3
      walk_at "rd"
      refine s_xoB ?_
      walk_at "rd"
      obtain ⟨q, h1, _, h3⟩ := at_ W (show 3 < 17 by decide)
      refine s_ixL (n := (3 : Nat)) hl (atI_nat h1) ?_
      refine s_xoM (h3 (by decide)) T.xf_BadArguments T.no_BadArguments_count rfl ?_
      clear h1 h3
      walk_at "rd"
      refine s_xoB ?_
      walk_at "rd"
      obtain ⟨q, h1, _, h3⟩ := at_ W (show 4 < 17 by decide)
      refine s_ixL (n := (4 : Nat)) hl (atI_nat h1) ?_
      refine s_xoM (h3 (by decide)) T.xf_NotWaiting T.no_NotWaiting_name rfl ?_
      clear h1 h3
      walk_at "rd"
      refine s_xoB ?_
      walk_at "rd"
      obtain ⟨q, h1, _, h3⟩ := at_ W (show 5 < 17 by decide)
      refine s_ixL (n := (5 : Nat)) hl (atI_nat h1) ?_
      refine s_xoM (h3 (by decide)) T.xf_BadState T.no_BadState_part rfl ?_
      clear h1 h3
      walk_at "rd"
      refine s_xoB ?_
      walk_at "rd"
      obtain ⟨q, h1, _, h3⟩ := at_ W (show 6 < 17 by decide)
      refine s_ixL (n := (6 : Nat)) hl (atI_nat h1) ?_
      refine s_xoM (h3 (by decide)) T.xf_BadRow T.no_BadRow_at rfl ?_
      clear h1 h3
      walk_at "rd"
      refine s_xoB ?_
      walk_at "rd"
      obtain ⟨q, h1, _, h3⟩ := at_ W (show 7 < 17 by decide)
      refine s_ixL (n := (7 : Nat)) hl (atI_nat h1) ?_
      refine s_xoM (h3 (by decide)) T.xf_BadAsk T.no_BadAsk_ask rfl ?_
      clear h1 h3
      walk_at "rd"
      refine s_xoB ?_
      walk_at "rd"
      obtain ⟨q, h1, _, h3⟩ := at_ W (show 8 < 17 by decide)
      refine s_ixL (n := (8 : Nat)) hl (atI_nat h1) ?_
      refine s_xoM (h3 (by decide)) T.xf_BadStep T.no_BadStep_at rfl ?_
      clear h1 h3
      walk_at "rd"
      refine s_xoB ?_
      walk_at "rd"
      obtain ⟨q, h1, _, h3⟩ := at_ W (show 9 < 17 by decide)
      refine s_ixL (n := (9 : Nat)) hl (atI_nat h1) ?_
      refine s_xoM (h3 (by decide)) T.xf_Unlike T.no_Unlike_what rfl ?_
      clear h1 h3
      walk_at "rd"
      refine s_xoB ?_
      walk_at "rd"
      obtain ⟨q, h1, _, h3⟩ := at_ W (show 10 < 17 by decide)
      refine s_ixL (n := (10 : Nat)) hl (atI_nat h1) ?_
      refine s_xoM (h3 (by decide)) T.xf_HasWait T.no_HasWait_name rfl ?_
      clear h1 h3
      walk_at "rd"
      refine s_xoB ?_
      walk_at "rd"
      obtain ⟨q, h1, _, h3⟩ := at_ W (show 11 < 17 by decide)
      refine s_ixL (n := (11 : Nat)) hl (atI_nat h1) ?_
      refine s_xoM (h3 (by decide)) T.xf_Taken T.no_Taken_name rfl ?_
      clear h1 h3
      walk_at "rd"
      refine s_xoB ?_
      walk_at "rd"
      obtain ⟨q, h1, _, h3⟩ := at_ W (show 12 < 17 by decide)
      refine s_ixL (n := (12 : Nat)) hl (atI_nat h1) ?_
      refine s_xoM (h3 (by decide)) T.xf_Ring T.no_Ring_effects rfl ?_
      clear h1 h3
      walk_at "rd"
      refine s_xoB ?_
      walk_at "rd"
      obtain ⟨q, h1, _, h3⟩ := at_ W (show 14 < 17 by decide)
      refine s_ixL (n := (14 : Nat)) hl (atI_nat h1) ?_
      refine s_xoM (h3 (by decide)) T.xf_TooLong T.no_TooLong_cells rfl ?_
      clear h1 h3
      walk_at "rd"
      refine s_xoB ?_
      walk_at "rd"
      obtain ⟨q, h1, _, h3⟩ := at_ W (show 15 < 17 by decide)
      refine s_ixL (n := (15 : Nat)) hl (atI_nat h1) ?_
      refine s_xoM (h3 (by decide)) T.xf_Misplaced T.no_Misplaced_name rfl ?_
      clear h1 h3
      walk_at "rd"
      refine s_xoB ?_
      walk_at "rd"
      obtain ⟨q, h1, _, h3⟩ := at_ W (show 16 < 17 by decide)
      refine s_ixL (n := (16 : Nat)) hl (atI_nat h1) ?_
      refine s_xoM (h3 (by decide)) T.xf_Busy T.no_Busy_name rfl ?_
      clear h1 h3
      walk_at "rd"
      intro l2 nl2
      have s2 : Same H' (upd H' l2 (.lst (List.replicate 16 v))) := Same.new nl2
      have hl2 : upd H' l2 (.lst (List.replicate 16 v)) l2 = some (.lst (List.replicate 16 v)) := upd_same
      show tSeq _ _ _ _ (upd H' l2 (.lst (List.replicate 16 v)))
      generalize upd H' l2 (.lst (List.replicate 16 v)) = G2 at s2 hl2 ⊢
      replace W := W.same s2
      replace hl := s2 _ _ hl
      replace hv := hv.same s2
      replace hu := hu.same s2
      walk_at "rd"
      refine s_forL hl2 (fun n σ' H' => H' = G2 ∧ ∃ w, σ' = [some (.ref p), some (.ref bl), some v, some u, some (.ref l), w0, some (.ref l2), w]) ⟨rfl, _, rfl⟩ ?_ ?_ ?_
      · rintro n σ' H' hn ⟨rfl, _⟩
        exact hl2
      · rintro n x σ' H' hx ⟨rfl, w, rfl⟩
        have ex : x = v := (List.mem_replicate.mp (List.mem_of_getElem? hx)).2
        subst ex
        walk_at "rd"
        refine s_neV hv ?_
        walk_at "rd"
        refine iteF ?_
        walk_at "rd"
        exact ⟨rfl, _, rfl⟩
      · rintro σ' H' ⟨rfl, w, rfl⟩
        walk_at "rd"
        refine s_xoB ?_
        walk_at "rd"
        obtain ⟨q, h1, _, h3⟩ := at_ W (show 12 < 17 by decide)
        refine s_ixL (n := (12 : Nat)) hl (atI_nat h1) ?_
        refine s_xoM (h3 (by decide)) T.xf_Ring T.no_Ring_cells rfl ?_
        walk_at "rd"
        refine s_eqV hu ?_
        walk_at "rd"
        refine iteT ?_
        walk_at "rd"
        refine ⟨v, u, rfl, hv, hu, fun H3 s3 => ?_⟩
        walk_at "rd"
        refine iteT ?_
        walk_at "rd"
        refine ⟨v, rfl, hv.same s3, fun H4 s4 => ?_⟩
        exact k _
theorem b_law (T : Te K mg a fd tk) : Binds K (fd 50) ["_law_script"] [] := T.F_law.binds fun _ _ _ _ _ _ us hl => match us, hl with | [_], _ => rfl
end
end Tr
set_option maxHeartbeats 0
namespace Tr
open PySem PySem.Spec PyProof.Rows L2
def adrP : Nat → Str × Option Str
  | 0 => ("BadBook", none)
  | 1 => ("BadBook", some "__init__")
  | 2 => ("TooMany", none)
  | 3 => ("TooMany", some "__init__")
  | 4 => ("NoName", none)
  | 5 => ("NoName", some "__init__")
  | 6 => ("BadArguments", none)
  | 7 => ("BadArguments", some "__init__")
  | 8 => ("NotWaiting", none)
  | 9 => ("NotWaiting", some "__init__")
  | 10 => ("BadState", none)
  | 11 => ("BadState", some "__init__")
  | 12 => ("BadRow", none)
  | 13 => ("BadRow", some "__init__")
  | 14 => ("BadAsk", none)
  | 15 => ("BadAsk", some "__init__")
  | 16 => ("BadStep", none)
  | 17 => ("BadStep", some "__init__")
  | 18 => ("Unlike", none)
  | 19 => ("Unlike", some "__init__")
  | 20 => ("HasWait", none)
  | 21 => ("HasWait", some "__init__")
  | 22 => ("Taken", none)
  | 23 => ("Taken", some "__init__")
  | 24 => ("Ring", none)
  | 25 => ("Ring", some "__init__")
  | 26 => ("Over", none)
  | 27 => ("Over", some "__init__")
  | 28 => ("TooLong", none)
  | 29 => ("TooLong", some "__init__")
  | 30 => ("Misplaced", none)
  | 31 => ("Misplaced", some "__init__")
  | 32 => ("Busy", none)
  | 33 => ("Busy", some "__init__")
  | 34 => ("TrackedError", none)
  | 40 => ("_law_bag", none)
  | 41 => ("_law_draw", none)
  | 42 => ("_law_field", none)
  | 43 => ("_law_kinds", none)
  | 44 => ("_law_alone", none)
  | 45 => ("_law_by_name", none)
  | 46 => ("_law_caught", none)
  | 50 => ("law", none)
  | _ => ("law", none)
def adr (K : PySem.W.Frag) (n : Nat) : Addr := He.fAd K (adrP n)
def fdn (K : PySem.W.Frag) (n : Nat) : FuncData := fdG K (adrP n)
def tkn (K : PySem.W.Frag) : Nat → Tok

  | _ => 0
def xnames : List Str := ["BadBook", "TooMany", "NoName", "BadArguments", "NotWaiting", "BadState", "BadRow", "BadAsk", "BadStep", "Unlike", "HasWait", "Taken", "Ring", "Over", "TooLong", "Misplaced", "Busy"]
theorem adrX {K : PySem.W.Frag} : ∀ {i : Nat}, i < 17 → adr K (2 * i) = He.ga K (xnames.getD i "")
  | 0, _ => rfl
  | 1, _ => rfl
  | 2, _ => rfl
  | 3, _ => rfl
  | 4, _ => rfl
  | 5, _ => rfl
  | 6, _ => rfl
  | 7, _ => rfl
  | 8, _ => rfl
  | 9, _ => rfl
  | 10, _ => rfl
  | 11, _ => rfl
  | 12, _ => rfl
  | 13, _ => rfl
  | 14, _ => rfl
  | 15, _ => rfl
  | 16, _ => rfl
  | n + 17, h => absurd h (by omega)
def fx9 : List Fx := [.fa (.free "list"),
  .fa (.free "abs"),
  .fa (.free "len"),
  .fa (.free "int"),
  .fa (.free "isinstance"),
  .fa (.free "range"),
  .fa (.free "RuntimeError"),
  .fa (.free "ValueError"),
  .fa (.glo "TrackedError"),
  .cread "TrackedError",
  .cinit "TrackedError" "ValueError.__init__",
  .cinitT "RuntimeError" "RuntimeError.__init__",
  .fa (.glo "BadBook"),
  .oexb "BadBook" PySem.OXB.xbV,
  .xf "BadBook",
  .excc "BadBook",
  .noats "BadBook" ["at"],
  .init "BadBook",
  .fa (.glo "TooMany"),
  .oexb "TooMany" PySem.OXB.xbV,
  .xf "TooMany",
  .excc "TooMany",
  .noats "TooMany" ["what"],
  .init "TooMany",
  .fa (.glo "NoName"),
  .oexb "NoName" PySem.OXB.xbV,
  .xf "NoName",
  .excc "NoName",
  .noats "NoName" ["name"],
  .init "NoName",
  .fa (.glo "BadArguments"),
  .oexb "BadArguments" PySem.OXB.xbV,
  .xf "BadArguments",
  .excc "BadArguments",
  .noats "BadArguments" ["count"],
  .init "BadArguments",
  .fa (.glo "NotWaiting"),
  .oexb "NotWaiting" PySem.OXB.xbV,
  .xf "NotWaiting",
  .excc "NotWaiting",
  .noats "NotWaiting" ["name"],
  .init "NotWaiting",
  .fa (.glo "BadState"),
  .oexb "BadState" PySem.OXB.xbV,
  .xf "BadState",
  .excc "BadState",
  .noats "BadState" ["part"],
  .init "BadState",
  .fa (.glo "BadRow"),
  .oexb "BadRow" PySem.OXB.xbV,
  .xf "BadRow",
  .excc "BadRow",
  .noats "BadRow" ["at"],
  .init "BadRow",
  .fa (.glo "BadAsk"),
  .oexb "BadAsk" PySem.OXB.xbV,
  .xf "BadAsk",
  .excc "BadAsk",
  .noats "BadAsk" ["ask"],
  .init "BadAsk",
  .fa (.glo "BadStep"),
  .oexb "BadStep" PySem.OXB.xbV,
  .xf "BadStep",
  .excc "BadStep",
  .noats "BadStep" ["at"],
  .init "BadStep",
  .fa (.glo "Unlike"),
  .oexb "Unlike" PySem.OXB.xbV,
  .xf "Unlike",
  .excc "Unlike",
  .noats "Unlike" ["what"],
  .init "Unlike",
  .fa (.glo "HasWait"),
  .oexb "HasWait" PySem.OXB.xbV,
  .xf "HasWait",
  .excc "HasWait",
  .noats "HasWait" ["name"],
  .init "HasWait",
  .fa (.glo "Taken"),
  .oexb "Taken" PySem.OXB.xbV,
  .xf "Taken",
  .excc "Taken",
  .noats "Taken" ["name"],
  .init "Taken",
  .fa (.glo "Ring"),
  .oexb "Ring" PySem.OXB.xbR,
  .xf "Ring",
  .excc "Ring",
  .noats "Ring" ["effects"],
  .noats "Ring" ["cells"],
  .init "Ring",
  .fa (.glo "Over"),
  .oexb "Over" PySem.OXB.xbR,
  .xf "Over",
  .excc "Over",
  .init "Over",
  .fa (.glo "TooLong"),
  .oexb "TooLong" PySem.OXB.xbR,
  .xf "TooLong",
  .excc "TooLong",
  .noats "TooLong" ["cells"],
  .init "TooLong",
  .fa (.glo "Misplaced"),
  .oexb "Misplaced" PySem.OXB.xbR,
  .xf "Misplaced",
  .excc "Misplaced",
  .noats "Misplaced" ["name"],
  .init "Misplaced",
  .fa (.glo "Busy"),
  .oexb "Busy" PySem.OXB.xbR,
  .xf "Busy",
  .excc "Busy",
  .noats "Busy" ["name"],
  .init "Busy",
  .kits xnames,
  .kitt xnames "RuntimeError" 12 true,
  .kitt xnames "ValueError" 12 false,
  .kitc xnames "TrackedError" 12,
  .fa (.exm "BadStep" "TrackedError" true),
  .fa (.glo "_law_bag"),
  .fa (.glo "_law_draw"),
  .fa (.glo "_law_field"),
  .fa (.glo "_law_kinds"),
  .fa (.glo "_law_alone"),
  .fa (.glo "_law_by_name"),
  .fa (.glo "_law_caught"),
  .fa (.glo "law")]
def fn9 : List He.DefD := [mkD ("BadBook", some "__init__") "__init__" "BadBook.__init__" s_BadBook___init__,
  mkD ("TooMany", some "__init__") "__init__" "TooMany.__init__" s_TooMany___init__,
  mkD ("NoName", some "__init__") "__init__" "NoName.__init__" s_NoName___init__,
  mkD ("BadArguments", some "__init__") "__init__" "BadArguments.__init__" s_BadArguments___init__,
  mkD ("NotWaiting", some "__init__") "__init__" "NotWaiting.__init__" s_NotWaiting___init__,
  mkD ("BadState", some "__init__") "__init__" "BadState.__init__" s_BadState___init__,
  mkD ("BadRow", some "__init__") "__init__" "BadRow.__init__" s_BadRow___init__,
  mkD ("BadAsk", some "__init__") "__init__" "BadAsk.__init__" s_BadAsk___init__,
  mkD ("BadStep", some "__init__") "__init__" "BadStep.__init__" s_BadStep___init__,
  mkD ("Unlike", some "__init__") "__init__" "Unlike.__init__" s_Unlike___init__,
  mkD ("HasWait", some "__init__") "__init__" "HasWait.__init__" s_HasWait___init__,
  mkD ("Taken", some "__init__") "__init__" "Taken.__init__" s_Taken___init__,
  mkD ("Ring", some "__init__") "__init__" "Ring.__init__" s_Ring___init__,
  mkD ("Over", some "__init__") "__init__" "Over.__init__" s_Over___init__,
  mkD ("TooLong", some "__init__") "__init__" "TooLong.__init__" s_TooLong___init__,
  mkD ("Misplaced", some "__init__") "__init__" "Misplaced.__init__" s_Misplaced___init__,
  mkD ("Busy", some "__init__") "__init__" "Busy.__init__" s_Busy___init__,
  mkD ("_law_bag", none) "_law_bag" "_law_bag" s__law_bag,
  mkD ("_law_draw", none) "_law_draw" "_law_draw" s__law_draw,
  mkD ("_law_field", none) "_law_field" "_law_field" s__law_field,
  mkD ("_law_kinds", none) "_law_kinds" "_law_kinds" s__law_kinds,
  mkD ("_law_alone", none) "_law_alone" "_law_alone" s__law_alone,
  mkD ("_law_by_name", none) "_law_by_name" "_law_by_name" s__law_by_name,
  mkD ("_law_caught", none) "_law_caught" "_law_caught" s__law_caught,
  mkD ("law", none) "law" "law" s_law]
theorem mkT {K : PySem.W.Frag} {h : Heap} {mg : Str → Option Value} (X : K.In h) (G : h.Ns mainGlobals mg) (c : obsB fx9 fn9 K = valB fn9) : Te K mg (adr K) (fdn K) (tkn K) :=
{ b_list := (fx_free X G (says_fx c 0 rfl)),
  b_abs := (fx_free X G (says_fx c 1 rfl)),
  b_len := (fx_free X G (says_fx c 2 rfl)),
  b_int := (fx_free X G (says_fx c 3 rfl)),
  b_isinstance := (fx_free X G (says_fx c 4 rfl)),
  b_range := (fx_free X G (says_fx c 5 rfl)),
  b_RuntimeError := (fx_free X G (says_fx c 6 rfl)),
  b_ValueError := (fx_free X G (says_fx c 7 rfl)),
  g_TrackedError := (fx_glo X G (says_fx c 8 rfl)),
  cr_TrackedError := (fx_cread (says_fx c 9 rfl)),
  vi_TrackedError := (fx_cinit (says_fx c 10 rfl)),
  vi_RuntimeError := (fx_cinitT (says_fx c 11 rfl)),
  g_BadBook := (fx_glo X G (says_fx c 12 rfl)),
  ox_BadBook := (fx_oexb (says_fx c 13 rfl)),
  xf_BadBook := (fx_xf (says_fx c 14 rfl)),
  xc_BadBook := (fx_excc (says_fx c 15 rfl)),
  no_BadBook_at := (fx_noats (says_fx c 16 rfl) "at" (by decide +kernel)),
  ini_BadBook := (fx_init1 (says_fx c 17 rfl)),
  inf_BadBook := (fx_init2 (says_fx c 17 rfl)),
  F_BadBook___init__ := (says_fun (p := ("BadBook", some "__init__")) c 0 rfl),
  g_TooMany := (fx_glo X G (says_fx c 18 rfl)),
  ox_TooMany := (fx_oexb (says_fx c 19 rfl)),
  xf_TooMany := (fx_xf (says_fx c 20 rfl)),
  xc_TooMany := (fx_excc (says_fx c 21 rfl)),
  no_TooMany_what := (fx_noats (says_fx c 22 rfl) "what" (by decide +kernel)),
  ini_TooMany := (fx_init1 (says_fx c 23 rfl)),
  inf_TooMany := (fx_init2 (says_fx c 23 rfl)),
  F_TooMany___init__ := (says_fun (p := ("TooMany", some "__init__")) c 1 rfl),
  g_NoName := (fx_glo X G (says_fx c 24 rfl)),
  ox_NoName := (fx_oexb (says_fx c 25 rfl)),
  xf_NoName := (fx_xf (says_fx c 26 rfl)),
  xc_NoName := (fx_excc (says_fx c 27 rfl)),
  no_NoName_name := (fx_noats (says_fx c 28 rfl) "name" (by decide +kernel)),
  ini_NoName := (fx_init1 (says_fx c 29 rfl)),
  inf_NoName := (fx_init2 (says_fx c 29 rfl)),
  F_NoName___init__ := (says_fun (p := ("NoName", some "__init__")) c 2 rfl),
  g_BadArguments := (fx_glo X G (says_fx c 30 rfl)),
  ox_BadArguments := (fx_oexb (says_fx c 31 rfl)),
  xf_BadArguments := (fx_xf (says_fx c 32 rfl)),
  xc_BadArguments := (fx_excc (says_fx c 33 rfl)),
  no_BadArguments_count := (fx_noats (says_fx c 34 rfl) "count" (by decide +kernel)),
  ini_BadArguments := (fx_init1 (says_fx c 35 rfl)),
  inf_BadArguments := (fx_init2 (says_fx c 35 rfl)),
  F_BadArguments___init__ := (says_fun (p := ("BadArguments", some "__init__")) c 3 rfl),
  g_NotWaiting := (fx_glo X G (says_fx c 36 rfl)),
  ox_NotWaiting := (fx_oexb (says_fx c 37 rfl)),
  xf_NotWaiting := (fx_xf (says_fx c 38 rfl)),
  xc_NotWaiting := (fx_excc (says_fx c 39 rfl)),
  no_NotWaiting_name := (fx_noats (says_fx c 40 rfl) "name" (by decide +kernel)),
  ini_NotWaiting := (fx_init1 (says_fx c 41 rfl)),
  inf_NotWaiting := (fx_init2 (says_fx c 41 rfl)),
  F_NotWaiting___init__ := (says_fun (p := ("NotWaiting", some "__init__")) c 4 rfl),
  g_BadState := (fx_glo X G (says_fx c 42 rfl)),
  ox_BadState := (fx_oexb (says_fx c 43 rfl)),
  xf_BadState := (fx_xf (says_fx c 44 rfl)),
  xc_BadState := (fx_excc (says_fx c 45 rfl)),
  no_BadState_part := (fx_noats (says_fx c 46 rfl) "part" (by decide +kernel)),
  ini_BadState := (fx_init1 (says_fx c 47 rfl)),
  inf_BadState := (fx_init2 (says_fx c 47 rfl)),
  F_BadState___init__ := (says_fun (p := ("BadState", some "__init__")) c 5 rfl),
  g_BadRow := (fx_glo X G (says_fx c 48 rfl)),
  ox_BadRow := (fx_oexb (says_fx c 49 rfl)),
  xf_BadRow := (fx_xf (says_fx c 50 rfl)),
  xc_BadRow := (fx_excc (says_fx c 51 rfl)),
  no_BadRow_at := (fx_noats (says_fx c 52 rfl) "at" (by decide +kernel)),
  ini_BadRow := (fx_init1 (says_fx c 53 rfl)),
  inf_BadRow := (fx_init2 (says_fx c 53 rfl)),
  F_BadRow___init__ := (says_fun (p := ("BadRow", some "__init__")) c 6 rfl),
  g_BadAsk := (fx_glo X G (says_fx c 54 rfl)),
  ox_BadAsk := (fx_oexb (says_fx c 55 rfl)),
  xf_BadAsk := (fx_xf (says_fx c 56 rfl)),
  xc_BadAsk := (fx_excc (says_fx c 57 rfl)),
  no_BadAsk_ask := (fx_noats (says_fx c 58 rfl) "ask" (by decide +kernel)),
  ini_BadAsk := (fx_init1 (says_fx c 59 rfl)),
  inf_BadAsk := (fx_init2 (says_fx c 59 rfl)),
  F_BadAsk___init__ := (says_fun (p := ("BadAsk", some "__init__")) c 7 rfl),
  g_BadStep := (fx_glo X G (says_fx c 60 rfl)),
  ox_BadStep := (fx_oexb (says_fx c 61 rfl)),
  xf_BadStep := (fx_xf (says_fx c 62 rfl)),
  xc_BadStep := (fx_excc (says_fx c 63 rfl)),
  no_BadStep_at := (fx_noats (says_fx c 64 rfl) "at" (by decide +kernel)),
  ini_BadStep := (fx_init1 (says_fx c 65 rfl)),
  inf_BadStep := (fx_init2 (says_fx c 65 rfl)),
  F_BadStep___init__ := (says_fun (p := ("BadStep", some "__init__")) c 8 rfl),
  g_Unlike := (fx_glo X G (says_fx c 66 rfl)),
  ox_Unlike := (fx_oexb (says_fx c 67 rfl)),
  xf_Unlike := (fx_xf (says_fx c 68 rfl)),
  xc_Unlike := (fx_excc (says_fx c 69 rfl)),
  no_Unlike_what := (fx_noats (says_fx c 70 rfl) "what" (by decide +kernel)),
  ini_Unlike := (fx_init1 (says_fx c 71 rfl)),
  inf_Unlike := (fx_init2 (says_fx c 71 rfl)),
  F_Unlike___init__ := (says_fun (p := ("Unlike", some "__init__")) c 9 rfl),
  g_HasWait := (fx_glo X G (says_fx c 72 rfl)),
  ox_HasWait := (fx_oexb (says_fx c 73 rfl)),
  xf_HasWait := (fx_xf (says_fx c 74 rfl)),
  xc_HasWait := (fx_excc (says_fx c 75 rfl)),
  no_HasWait_name := (fx_noats (says_fx c 76 rfl) "name" (by decide +kernel)),
  ini_HasWait := (fx_init1 (says_fx c 77 rfl)),
  inf_HasWait := (fx_init2 (says_fx c 77 rfl)),
  F_HasWait___init__ := (says_fun (p := ("HasWait", some "__init__")) c 10 rfl),
  g_Taken := (fx_glo X G (says_fx c 78 rfl)),
  ox_Taken := (fx_oexb (says_fx c 79 rfl)),
  xf_Taken := (fx_xf (says_fx c 80 rfl)),
  xc_Taken := (fx_excc (says_fx c 81 rfl)),
  no_Taken_name := (fx_noats (says_fx c 82 rfl) "name" (by decide +kernel)),
  ini_Taken := (fx_init1 (says_fx c 83 rfl)),
  inf_Taken := (fx_init2 (says_fx c 83 rfl)),
  F_Taken___init__ := (says_fun (p := ("Taken", some "__init__")) c 11 rfl),
  g_Ring := (fx_glo X G (says_fx c 84 rfl)),
  ox_Ring := (fx_oexb (says_fx c 85 rfl)),
  xf_Ring := (fx_xf (says_fx c 86 rfl)),
  xc_Ring := (fx_excc (says_fx c 87 rfl)),
  no_Ring_effects := (fx_noats (says_fx c 88 rfl) "effects" (by decide +kernel)),
  no_Ring_cells := (fx_noats (says_fx c 89 rfl) "cells" (by decide +kernel)),
  ini_Ring := (fx_init1 (says_fx c 90 rfl)),
  inf_Ring := (fx_init2 (says_fx c 90 rfl)),
  F_Ring___init__ := (says_fun (p := ("Ring", some "__init__")) c 12 rfl),
  g_Over := (fx_glo X G (says_fx c 91 rfl)),
  ox_Over := (fx_oexb (says_fx c 92 rfl)),
  xf_Over := (fx_xf (says_fx c 93 rfl)),
  xc_Over := (fx_excc (says_fx c 94 rfl)),
  ini_Over := (fx_init1 (says_fx c 95 rfl)),
  inf_Over := (fx_init2 (says_fx c 95 rfl)),
  F_Over___init__ := (says_fun (p := ("Over", some "__init__")) c 13 rfl),
  g_TooLong := (fx_glo X G (says_fx c 96 rfl)),
  ox_TooLong := (fx_oexb (says_fx c 97 rfl)),
  xf_TooLong := (fx_xf (says_fx c 98 rfl)),
  xc_TooLong := (fx_excc (says_fx c 99 rfl)),
  no_TooLong_cells := (fx_noats (says_fx c 100 rfl) "cells" (by decide +kernel)),
  ini_TooLong := (fx_init1 (says_fx c 101 rfl)),
  inf_TooLong := (fx_init2 (says_fx c 101 rfl)),
  F_TooLong___init__ := (says_fun (p := ("TooLong", some "__init__")) c 14 rfl),
  g_Misplaced := (fx_glo X G (says_fx c 102 rfl)),
  ox_Misplaced := (fx_oexb (says_fx c 103 rfl)),
  xf_Misplaced := (fx_xf (says_fx c 104 rfl)),
  xc_Misplaced := (fx_excc (says_fx c 105 rfl)),
  no_Misplaced_name := (fx_noats (says_fx c 106 rfl) "name" (by decide +kernel)),
  ini_Misplaced := (fx_init1 (says_fx c 107 rfl)),
  inf_Misplaced := (fx_init2 (says_fx c 107 rfl)),
  F_Misplaced___init__ := (says_fun (p := ("Misplaced", some "__init__")) c 15 rfl),
  g_Busy := (fx_glo X G (says_fx c 108 rfl)),
  ox_Busy := (fx_oexb (says_fx c 109 rfl)),
  xf_Busy := (fx_xf (says_fx c 110 rfl)),
  xc_Busy := (fx_excc (says_fx c 111 rfl)),
  no_Busy_name := (fx_noats (says_fx c 112 rfl) "name" (by decide +kernel)),
  ini_Busy := (fx_init1 (says_fx c 113 rfl)),
  inf_Busy := (fx_init2 (says_fx c 113 rfl)),
  F_Busy___init__ := (says_fun (p := ("Busy", some "__init__")) c 16 rfl),
  kit := (fun i hi j hj => by rw [adrX hi, adrX hj]; exact fx_kits (says_fx c 114 rfl) i hi j hj),
  kitR := (fun i hi => by rw [adrX hi]; exact fx_kitt (says_fx c 115 rfl) i hi),
  kitV := (fun i hi => by rw [adrX hi]; exact fx_kitt (says_fx c 116 rfl) i hi),
  kitT := (fun i hi => by rw [adrX hi]; exact fx_kitc (says_fx c 117 rfl) i hi),
  exm := (fx_exm (says_fx c 118 rfl)),
  g__law_bag := (fx_glo X G (says_fx c 119 rfl)),
  F__law_bag := (says_fun (p := ("_law_bag", none)) c 17 rfl),
  g__law_draw := (fx_glo X G (says_fx c 120 rfl)),
  F__law_draw := (says_fun (p := ("_law_draw", none)) c 18 rfl),
  g__law_field := (fx_glo X G (says_fx c 121 rfl)),
  F__law_field := (says_fun (p := ("_law_field", none)) c 19 rfl),
  g__law_kinds := (fx_glo X G (says_fx c 122 rfl)),
  F__law_kinds := (says_fun (p := ("_law_kinds", none)) c 20 rfl),
  g__law_alone := (fx_glo X G (says_fx c 123 rfl)),
  F__law_alone := (says_fun (p := ("_law_alone", none)) c 21 rfl),
  g__law_by_name := (fx_glo X G (says_fx c 124 rfl)),
  F__law_by_name := (says_fun (p := ("_law_by_name", none)) c 22 rfl),
  g__law_caught := (fx_glo X G (says_fx c 125 rfl)),
  F__law_caught := (says_fun (p := ("_law_caught", none)) c 23 rfl),
  F_law := (says_fun (p := ("law", none)) c 24 rfl) }
abbrev R9 : PySem.W.OpenRow := PySem.W.OpenLaw.row PySem.Challenge.rw_trackedreads_k01_errors_made
abbrev hk9 : PySem.W.Hook := hookB 5 fx9 fn9
def ob9 (s : PySem.W.SharedT) : AlB := obsBG 5 fx9 fn9 (HandSHeadRun.getT s)
theorem ob9_eq (s : PySem.W.SharedT) : ob9 s = hk9.obs s.abs := obsBG_eq (HandSHeadRun.getT_eq s)
end Tr
set_option maxHeartbeats 0
namespace Tr
open PySem PySem.Spec PyProof.Rows L2
theorem run9 (w : World) : HandSHeadRun.RunEq R9 (PySem.W.view R9.prog [27]) hk9 ob9 20000 ["TrackedError", "BadBook", "TooMany", "NoName", "BadArguments", "NotWaiting", "BadState", "BadRow", "BadAsk", "BadStep", "Unlike", "HasWait", "Taken", "Ring", "Over", "TooLong", "Misplaced", "Busy", "_law_bag", "_law_draw", "_law_field", "_law_kinds", "_law_alone", "_law_by_name", "_law_caught"] w := by
  intro os
  kernel_rfl
end Tr
set_option maxHeartbeats 0
namespace Tr
open PySem PySem.Spec PyProof.Rows L2
theorem walkF {P : Program} (w : World) (mg : Str → Option Value) (fa : Addr) (h : Heap) (Y : hk9.says w h) (G : h.Ns mainGlobals mg) (hmg : mg "law" = some (.ref fa)) :
    ∃ (K : PySem.W.Frag) (fd : FuncData) (sp : Sp), K.In h ∧ (∀ (s : Shared) (u : Value), BindsTo s fd ⟨[u], []⟩ [("_law_script", u)]) ∧
      (∀ (H : Hp) (a : Addr) (ns : List Int), ns.length ≤ 63 → Only H → SqL K H a (ns.map V.int) → sp [.ref a] H (fun v _ => v = .bl true) fun _ _ _ => False) ∧
      ∀ base : Heap, K.In base → base.Ns mainGlobals mg → FnOk P w K mg base CX0 5 fa fd ["_law_script"] sp := by
  obtain ⟨K, KX, c⟩ := Y
  have T := mkT KX G c
  have e0 : mg "law" = some (.ref (adr K 50)) := fx_glo KX G (x := "law") (says_fx c 126 rfl)
  rw [hmg] at e0
  have e' : fa = adr K 50 := by
    injection e0 with e1
    injection e1
  subst e'
  have hb : ∀ (s : Shared) (v : Value), BindsTo s (fdn K 50) ⟨[v], []⟩ [("_law_script", v)] := by
    obtain ⟨_, _, _, _, _, _, _, _, _, e1, _, _⟩ := T.F_law.ex
    intro s v
    rw [e1]
    exact .of_eq rfl
  exact ⟨K, fdn K 50, spLaw K, KX, hb, fun H a ns hl _ hS => ⟨a, ns, rfl, hS, hl, fun _ => rfl⟩, fun base _ _ => ok_law T⟩
end Tr
set_option maxHeartbeats 0
theorem Tr.nameEq : (HandSHeadRun.topDef (PySem.W.OpenLaw.row PySem.Challenge.rw_trackedreads_k01_errors_made).prog 27).name = ("law" : PySem.Str) := by kernel_rfl
open PySem PySem.W PySem.Calls PyProof.Rows
theorem PySem.Challenge.cw_trackedreads_k01_errors_made_holds : PySem.Challenge.rw_trackedreads_k01_errors_made.Holds := by
  w_on; o_law
  refine HandSHeadRun.head_any (r := OpenLaw.row PySem.Challenge.rw_trackedreads_k01_errors_made) (q := view (OpenLaw.row PySem.Challenge.rw_trackedreads_k01_errors_made).prog [27]) (H := Tr.hk9) (ob := Tr.ob9) (M := 20000) (loose := ["TrackedError", "BadBook", "TooMany", "NoName", "BadArguments", "NotWaiting", "BadState", "BadRow", "BadAsk", "BadStep", "Unlike", "HasWait", "Taken", "Ring", "Over", "TooLong", "Misplaced", "Busy", "_law_bag", "_law_draw", "_law_field", "_law_kinds", "_law_alone", "_law_by_name", "_law_caught"]) (d := HandSHeadRun.topDef (OpenLaw.row PySem.Challenge.rw_trackedreads_k01_errors_made).prog 27) (kwd := []) Tr.ob9_eq
    (by kernel_rfl) (fun s => by kernel_rfl) Tr.run9 (by kernel_rfl) (by kernel_rfl) (by kernel_rfl) (by rfl) (by first | assumption | decide +kernel) (by decide +kernel) ⟨rfl, rfl, rfl, rfl, rfl, by decide +kernel⟩ ?hw ?hc
  case hw => w_witness2
  case hc =>
    refine L2.walk_ofE (l := PySem.Challenge.rw_trackedreads_k01_errors_made) (n := 63) (k := 5) (x := "_law_script") (CX := L2.CX0) rfl (by decide) (by kernel_rfl) ⟨rfl, by decide, by decide⟩ ?F (fun _ _ _ _ z => z)
    intro w mg fa h Y G hmg0
    exact Tr.walkF w mg fa h Y G ((congrArg mg Tr.nameEq).symm.trans hmg0)
