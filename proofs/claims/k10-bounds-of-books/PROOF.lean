import PyProof.Rows.All
import Wide.All
import OpenK.AllK
import Wide.FinOn
import HandS.ForMost
import HandS.Wide
import HandS.Walk
import HandS.Deep
import HandS.IsInst
import HandS.Steps
import HandS.Star
import HandS.SortInts
import PyProof.Rows.SortKeyStr
import HandS.Exc
import HandS.ExcInit
import HandS.ExcField
import HandS.ClsMeth
import HandS.ExcOwn
import HandS.WordsExc
import KE.KExcInit
import HandS.ExcIs
import HandS.Defaults
import HandS.Base
import HandS.Call
import HandS.Ends
import HandS.More
import HandS.Words
import HandS.Head0
import HandS.Head1
import HandS.Head2
import HandS.HeadEnd
import HandS.HeadHook1
import HandS.HeadHook2
import HandS.HeadNt
import HandS.Zip0
import PyProof.Draws
import PyProof.EnumMake
import HandS.SetFor
import HandS.Strs
import PyProof.DictUpdate
import HandS.DictComp
import HandS.Text
import KE.IntTextLaws
import HandS.TryMany
import HandS.NoneIn
import KE.KStateDown
import PySem.Challenge.RW_trackedreads_k10_bounds_of_books
set_option Elab.async false
set_option linter.all false
set_option maxRecDepth 100000
set_option maxHeartbeats 4000000
namespace Tr
open PySem PySem.Spec PyProof.Rows L2
section
variable {X : Cx}

theorem K_nox (X : Cx) : X.nox.K = X.K := rfl
theorem K_cxOf {P : Program} {w : World} {K : PySem.W.Frag} {mg : Str → Option Value} {base : Heap} {CX : CXT} {N : List Str} {qual : Str} {scope : Scope} {f : Addr} {cd : Value} {A : Around} {outer : List Env} {s : Shared} {H : Hp} {E : XK} :
    (cxOf CX P w K mg base N qual scope f cd A outer s H E).K = K := rfl

theorem opImp {f : Value → Value → Sem Value} {r r' : R2} (h : OpR X f r) (i : ∀ x y H Q, r' x y H Q → r x y H Q) : OpR X f r' :=
  fun pins s σ H x y v u Q I rx ry q => h pins s σ H x y v u Q I rx ry (i x y H Q q)
theorem callImp {f : Value} {r r' : List V → Hp → VK → Prop} (h : CallR X f r) (i : ∀ xs H Q, r' xs H Q → r xs H Q) : CallR X f r' :=
  fun pins s σ H xs us Q I rx q => h pins s σ H xs us Q I rx (i xs H Q q)
theorem ixImp {r r' : R2} (h : IxR X r) (i : ∀ x y H Q, r' x y H Q → r x y H Q) : IxR X r' :=
  fun value slice pins s σ H x y v u Q I rx ry q hs => h value slice pins s σ H x y v u Q I rx ry (i x y H Q q) hs
theorem slImp {r r' : V → Option Int → Option Int → Hp → VK → Prop} (h : SlR X r) (i : ∀ x lo hi H Q, r' x lo hi H Q → r x lo hi H Q) : SlR X r' :=
  fun pins s σ H x v vl vu lo hi sl Q I rx hs pl pu q => h pins s σ H x v vl vu lo hi sl Q I rx hs pl pu (i x lo hi H Q q)
theorem mtImp {id : String} {r r' : V → List V → Hp → VK → Prop} (h : MtR X id r) (i : ∀ x xs H Q, r' x xs H Q → r x xs H Q) : MtR X id r' :=
  fun pins s σ H x xs v us Q I rx rs q => h pins s σ H x xs v us Q I rx rs (i x xs H Q q)
/-- an expression that is never reached -/
def tFalse : TE := fun _ _ _ => False
theorem pe_never {e : Expr} : PE X e tFalse := ⟨fun _ _ _ _ _ _ h => h.elim⟩
def tFalseT : TT := fun _ _ _ => False
theorem pt_never {e : Expr} : PT X e tFalseT := ⟨fun _ _ _ _ _ _ h => h.elim⟩
def sFalse : TS := fun _ _ _ => False
theorem ps_nev {st : Stmt} : PS X st sFalse := ⟨fun _ _ _ _ _ _ h => h.elim⟩
theorem pss_nev {st : List Stmt} : PSs X st sFalse := ⟨fun _ _ _ _ _ _ h => h.elim⟩

def rEqU (K : PySem.W.Frag) : R2 := fun x y H Q => if scal x y = true then Q (.bl (decide (x = y))) H else
  match y with
  | .ref q => match H q with
    | some (.lst []) => (match x with
      | .ref p => (match H p with
        | some (.lst xs) => Q (.bl xs.isEmpty) H
        | _ => False)
      | _ => False)
    | _ => rEqD K x y H Q
  | _ => rEqD K x y H Q
def rNeU (K : PySem.W.Frag) : R2 := fun x y H Q => if scal x y = true then Q (.bl (!decide (x = y))) H else
  match y with
  | .ref q => match H q with
    | some (.lst []) => (match x with
      | .ref p => (match H p with
        | some (.lst xs) => Q (.bl (!xs.isEmpty)) H
        | _ => False)
      | _ => False)
    | _ => rNeD K x y H Q
  | _ => rNeD K x y H Q
theorem isE_of {xs : List V} {its : List Value} (r : Vals xs its) : xs.isEmpty = its.isEmpty := by cases r <;> rfl
theorem eq_nil {pins : List (Addr × Obj)} {σ : L2.St} {H : Hp} {s : Shared} {p q : Addr} {xs : List V} {Q : Value → Shared → Prop} (I : Inv X pins σ H s) (hp : H p = some (.lst xs)) (hq : H q = some (.lst [])) (hu : X.A.units + 64 < cLine)
    (h : Q (.bool xs.isEmpty) s) : wpAny (model X.prog X.w) X.A (compareOp .Eq (.ref p) (.ref q)) Q X.xe s := by
  obtain ⟨its, r, pl, hz⟩ := I.list (SqL.of hp)
  obtain ⟨it2, r2, pl2, hz2⟩ := I.list (SqL.of hq)
  cases r2
  cases its with
  | nil =>
    cases r
    exact SeqAt.eq_listAt (e := fun _ => true) pl.isList pl2.isList rfl (by omega) (fun j h1 _ => absurd h1 (by simp)) (by simpa using h)
  | cons a l =>
    cases r
    exact SeqAt.eq_list_lengthsAt pl.isList pl2.isList (by simp) (by omega) h
theorem uEq (K : PySem.W.Frag) (hu : X.A.units + 64 < cLine) (hK : X.K = K := by rfl) : OpR X (compareOp .Eq) (rEqU K) := by
  subst hK
  intro pins s σ H x y v u Q I rx ry h
  unfold rEqU at h
  by_cases c : scal x y = true
  · rw [if_pos c] at h
    exact op_eq pins s σ H x y v u Q I rx ry ⟨c, h⟩
  · rw [if_neg c] at h
    split at h
    · split at h
      · rename_i q hq
        split at h
        · split at h
          · rename_i p xs hp
            cases rx
            cases ry
            exact eq_nil I hp hq hu ⟨.bl _, H, I, rfl, h⟩
          · exact h.elim
        · exact h.elim
      · exact op_eqD hu pins s σ H x _ v u Q I rx ry h
    · exact op_eqD hu pins s σ H x y v u Q I rx ry h

theorem ne_nil {pins : List (Addr × Obj)} {σ : L2.St} {H : Hp} {s : Shared} {p q : Addr} {xs : List V} {Q : Value → Shared → Prop} (I : Inv X pins σ H s) (hp : H p = some (.lst xs)) (hq : H q = some (.lst [])) (hu : X.A.units + 64 < cLine)
    (h : Q (.bool (!xs.isEmpty)) s) : wpAny (model X.prog X.w) X.A (compareOp .NotEq (.ref p) (.ref q)) Q X.xe s := by
  obtain ⟨its, r, pl, hz⟩ := I.list (SqL.of hp)
  obtain ⟨it2, r2, pl2, hz2⟩ := I.list (SqL.of hq)
  cases r2
  cases its with
  | nil =>
    cases r
    exact SeqAt.RcNeAt.lists (e := fun _ => true) pl.isList pl2.isList rfl (by omega) (fun j h1 _ => absurd h1 (by simp)) _ _ _ _ (by simpa using h)
  | cons a l =>
    cases r
    exact SeqAt.RcNeAt.lists_lengths pl.isList pl2.isList (by simp) (by omega) _ _ _ _ h
theorem uNe (K : PySem.W.Frag) (hu : X.A.units + 64 < cLine) (hK : X.K = K := by rfl) : OpR X (compareOp .NotEq) (rNeU K) := by
  subst hK
  intro pins s σ H x y v u Q I rx ry h
  unfold rNeU at h
  by_cases c : scal x y = true
  · rw [if_pos c] at h
    exact op_ne pins s σ H x y v u Q I rx ry ⟨c, h⟩
  · rw [if_neg c] at h
    split at h
    · split at h
      · rename_i q hq
        split at h
        · split at h
          · rename_i p xs hp
            cases rx
            cases ry
            exact ne_nil I hp hq hu ⟨.bl _, H, I, rfl, h⟩
          · exact h.elim
        · exact h.elim
      · exact op_neD hu pins s σ H x _ v u Q I rx ry h
    · exact op_neD hu pins s σ H x y v u Q I rx ry h

def rAddU : R2 := fun x y H Q => match x with
  | .int i => (match y with | .int j => Q (.int (i + j)) H | _ => False)
  | .str a => (match y with | .str b => a.length + b.length ≤ sizeLine ∧ Q (.str (a ++ b)) H | _ => False)
  | .ref p => (match y with
    | .ref q => (match H p with
      | some (.lst xs) => (match H q with
        | some (.lst ys) => xs.length + ys.length ≤ sizeLine ∧ ∀ r, H r = none → Q (.ref r) (upd H r (.lst (xs ++ ys)))
        | _ => False)
      | _ => False)
    | _ => False)
  | _ => False
theorem uAdd : OpR X (binaryOp .Add) rAddU := by
  intro pins s σ H x y v u Q I rx ry h
  unfold rAddU at h
  split at h
  · split at h
    · exact op_add pins s σ H _ _ v u Q I rx ry ⟨_, _, rfl, rfl, h⟩
    · exact h.elim
  · split at h
    · exact op_add_str pins s σ H _ _ v u Q I rx ry ⟨_, _, rfl, rfl, h.1, h.2⟩
    · exact h.elim
  · split at h
    · split at h
      · rename_i hp
        split at h
        · rename_i hq
          exact op_cat pins s σ H _ _ v u Q I rx ry ⟨_, _, _, _, rfl, rfl, hp, hq, h.1, h.2⟩
        · exact h.elim
      · exact h.elim
    · exact h.elim
  · exact h.elim
def repS (a : Str) (k : Nat) : Str := ⟨(List.replicate k a.cps.toList).flatten.toArray⟩
def rMulU : R2 := fun x y H Q => match x with
  | .int i => (match y with | .int j => CMulW i j ∧ Q (.int (i * j)) H | _ => False)
  | .ref p => (match y with
    | .int k => (match H p with
      | some (.lst xs) => -(2 ^ 63) ≤ k ∧ k < 2 ^ 63 ∧ xs.length * k.toNat ≤ sizeLine ∧ ∀ r, H r = none → Q (.ref r) (upd H r (.lst (List.replicate k.toNat xs).flatten))
      | _ => False)
    | _ => False)
  | _ => False
theorem uMul : OpR X (binaryOp .Mult) rMulU := by
  intro pins s σ H x y v u Q I rx ry h
  unfold rMulU at h
  split at h
  · split at h
    · exact op_mulW pins s σ H _ _ v u Q I rx ry ⟨_, _, rfl, rfl, h.1, h.2⟩
    · exact h.elim
  · split at h
    · split at h
      · rename_i hp
        exact op_rep pins s σ H _ _ v u Q I rx ry ⟨_, _, _, rfl, rfl, hp, h.1, h.2.1, h.2.2.1, h.2.2.2⟩
      · exact h.elim
    · exact h.elim
  · exact h.elim

def rIxU : R2 := fun x y H Q => match x with
  | .ref p => (match y with
    | .int i => (match H p with
      | some (.lst xs) => ∃ v, atI xs i = some v ∧ Q v H
      | some (.tup xs) => ∃ v, atI xs i = some v ∧ Q v H
      | _ => False)
    | _ => False)
  | .str z => (match y with
    | .int i => z.length ≤ sizeLine ∧ ∃ c, atI z.cps.toList i = some c ∧ Q (.str ⟨#[c]⟩) H
    | _ => False)
  | _ => False
theorem uIx : IxR X rIxU := by
  intro value slice pins s σ H x y v u Q I rx ry h hs
  unfold rIxU at h
  split at h
  · split at h
    · split at h
      · rename_i hp
        obtain ⟨z, hz, q⟩ := h
        exact ix_list value slice pins s σ H _ _ v u Q I rx ry ⟨_, _, _, z, rfl, rfl, SqL.of hp, hz, q⟩ hs
      · rename_i hp
        obtain ⟨z, hz, q⟩ := h
        exact ix_tup value slice pins s σ H _ _ v u Q I rx ry ⟨_, _, _, z, rfl, rfl, SqT.of hp, hz, q⟩ hs
      · exact h.elim
    · exact h.elim
  · split at h
    · obtain ⟨hl, c, hc, q⟩ := h
      exact ix_str value slice pins s σ H _ _ v u Q I rx ry ⟨_, _, c, rfl, rfl, hl, hc, q⟩ hs
    · exact h.elim
  · exact h.elim
def rGetD : R2 := fun x y H Q => match x with
  | .ref a => (match H a with
    | some (.dK kvs) => (match y with
      | .int i => ∃ v, valV kvs (Sum.inl i) = some v ∧ Q v H
      | .str z => ∃ v, valV kvs (Sum.inr z) = some v ∧ Q v H
      | _ => False)
    | _ => False)
  | _ => False
theorem rGetD.to {x y : V} {H : Hp} {Q : VK} (h : rGetD x y H Q) : ∃ a v, x = .ref a ∧ DGet H a y (some v) ∧ Q v H := by
  unfold rGetD at h
  split at h
  · split at h
    · rename_i hp
      split at h
      · obtain ⟨v, e, q⟩ := h
        exact ⟨_, v, rfl, .inl ⟨_, Sum.inl _, .inl hp, rfl, e.symm⟩, q⟩
      · obtain ⟨v, e, q⟩ := h
        exact ⟨_, v, rfl, .inl ⟨_, Sum.inr _, .inl hp, rfl, e.symm⟩, q⟩
      · exact h.elim
    · exact h.elim
  · exact h.elim

def rSlU : V → Option Int → Option Int → Hp → VK → Prop := fun x lo hi H Q => match x with
  | .ref p => (match H p with
    | some (.lst xs) => ∀ r, H r = none → Q (.ref r) (upd H r (.lst (cutV xs lo hi)))
    | some (.tup xs) => ¬ (HT.sIx xs.length 0 lo = 0 ∧ HT.sIx xs.length xs.length hi = xs.length) ∧ ∀ r, H r = none → Q (.ref r) (upd H r (.tup (cutV xs lo hi)))
    | _ => False)
  | .str z => z.length ≤ sizeLine ∧ Q (.str (cutS z lo hi)) H
  | _ => False
theorem uSl : SlR X rSlU := by
  intro pins s σ H x v vl vu lo hi sl Q I rx hs pl pu h
  unfold rSlU at h
  split at h
  · split at h
    · rename_i hp
      exact sl_list pins s σ H _ v vl vu lo hi sl Q I rx hs pl pu ⟨_, _, rfl, SqL.of hp, h⟩
    · rename_i hp
      exact sl_tup pins s σ H _ v vl vu lo hi sl Q I rx hs pl pu ⟨_, _, rfl, SqT.of hp, h.1, h.2⟩
    · exact h.elim
  · exact sl_str pins s σ H _ v vl vu lo hi sl Q I rx hs pl pu ⟨_, rfl, h.1, h.2⟩
  · exact h.elim

def rInU (K : PySem.W.Frag) (neg : Bool) : R2 := fun x y H Q => match y with
  | .ref p => (match H p with
    | some (.lst xs) => flatV x = true ∧ xs.all flatV = true ∧ Q (.bl (if neg then !inV x xs else inV x xs)) H
    | some (.tup xs) => flatV x = true ∧ xs.all flatV = true ∧ Q (.bl (if neg then !inV x xs else inV x xs)) H
    | _ => rIn K neg x y H Q)
  | .str z => (match x with
    | .str w => ∃ c, w = ⟨#[c]⟩ ∧ Q (.bl (if neg then !decide (c ∈ z.cps.toList) else decide (c ∈ z.cps.toList))) H
    | _ => False)
  | _ => False
theorem uIn (K : PySem.W.Frag) (hK : X.K = K := by rfl) : OpR X (compareOp .In) (rInU K false) := by
  subst hK
  intro pins s σ H x y v u Q I rx ry h
  unfold rInU at h
  split at h
  · split at h
    · rename_i hp
      exact op_in_seq pins s σ H x _ v u Q I rx ry ⟨_, _, rfl, .inl (SqL.of hp), h.1, h.2.1, h.2.2⟩
    · rename_i hp
      exact op_in_seq pins s σ H x _ v u Q I rx ry ⟨_, _, rfl, .inr (SqT.of hp), h.1, h.2.1, h.2.2⟩
    · exact op_in_seq pins s σ H x _ v u Q I rx ry h
  · split at h
    · obtain ⟨c, rfl, h⟩ := h
      exact op_in_sign pins s σ H _ _ v u Q I rx ry ⟨c, _, rfl, rfl, h⟩
    · exact h.elim
  · exact h.elim
theorem uNotIn (K : PySem.W.Frag) (hK : X.K = K := by rfl) : OpR X (compareOp .NotIn) (rInU K true) := by
  subst hK
  intro pins s σ H x y v u Q I rx ry h
  unfold rInU at h
  split at h
  · split at h
    · rename_i hp
      exact op_notIn_seq pins s σ H x _ v u Q I rx ry ⟨_, _, rfl, .inl (SqL.of hp), h.1, h.2.1, h.2.2⟩
    · rename_i hp
      exact op_notIn_seq pins s σ H x _ v u Q I rx ry ⟨_, _, rfl, .inr (SqT.of hp), h.1, h.2.1, h.2.2⟩
    · exact op_notIn_seq pins s σ H x _ v u Q I rx ry h
  · split at h
    · obtain ⟨c, rfl, h⟩ := h
      exact op_notIn_sign pins s σ H _ _ v u Q I rx ry ⟨c, _, rfl, rfl, h⟩
    · exact h.elim
  · exact h.elim

def rLenU : List V → Hp → VK → Prop := fun xs H Q => match xs with
  | [.str z] => z.length ≤ sizeLine ∧ Q (.int z.length) H
  | [.ref p] => (match H p with
    | some (.lst ys) => Q (.int ys.length) H
    | some (.tup ys) => Q (.int ys.length) H
    | some (.dK kvs) => Q (.int kvs.length) H
    | _ => False)
  | _ => False
theorem uLen : CallR X (.builtin "len") rLenU := by
  intro pins s σ H xs us Q I r h
  unfold rLenU at h
  split at h
  · exact call_len_str pins s σ H _ us Q I r ⟨_, rfl, h.1, h.2⟩
  · split at h
    · rename_i hp
      exact call_len_seq pins s σ H _ us Q I r ⟨_, _, rfl, .inl (SqL.of hp), h⟩
    · rename_i hp
      exact call_len_seq pins s σ H _ us Q I r ⟨_, _, rfl, .inr (SqT.of hp), h⟩
    · rename_i hp
      exact call_lenD pins s σ H _ us Q I r ⟨_, _, rfl, hp, h⟩
    · exact h.elim
  · exact h.elim
def rListU : List V → Hp → VK → Prop := fun xs H Q => match xs with
  | [.ref p] => (match H p with
    | some (.lst ys) => ∀ l, H l = none → Q (.ref l) (upd H l (.lst ys))
    | some (.tup ys) => ∀ l, H l = none → Q (.ref l) (upd H l (.lst ys))
    | _ => False)
  | _ => False
theorem uList : CallR X (.type "list") rListU := by
  intro pins s σ H xs us Q I r h
  unfold rListU at h
  split at h
  · split at h
    · rename_i hp
      exact call_list_of pins s σ H _ us Q I r ⟨_, _, rfl, .inl (SqL.of hp), h⟩
    · rename_i hp
      exact call_list_of pins s σ H _ us Q I r ⟨_, _, rfl, .inr (SqT.of hp), h⟩
    · exact h.elim
  · exact h.elim
def rTupleU : List V → Hp → VK → Prop := fun xs H Q => match xs with
  | [.ref p] => (match H p with
    | some (.lst ys) => ∀ l, H l = none → Q (.ref l) (upd H l (.tup ys))
    | some (.tup ys) => Q (.ref p) H
    | _ => False)
  | _ => False
theorem uTuple : CallR X (.type "tuple") rTupleU := by
  intro pins s σ H xs us Q I r h
  unfold rTupleU at h
  split at h
  · split at h
    · rename_i hp
      exact call_tuple_of pins s σ H _ us Q I r ⟨_, _, rfl, .inl ⟨SqL.of hp, h⟩⟩
    · rename_i hp
      exact call_tuple_of pins s σ H _ us Q I r ⟨_, _, rfl, .inr ⟨SqT.of hp, h⟩⟩
    · exact h.elim
  · exact h.elim
/-- int(n), int(flag), int(text) -/
def rIntU : List V → Hp → VK → Prop := fun xs H Q => match xs with
  | [.int i] => Q (.int i) H
  | [.bl k] => Q (.int (if k then 1 else 0)) H
  | [.str a] => ∃ n, PySem.intText? a = some n ∧ a.length ≤ 640 ∧ Q (.int n) H
  | _ => False
theorem uInt : CallR X (.type "int") rIntU := by
  intro pins s σ H xs us Q I r h
  unfold rIntU at h
  split at h
  · exact call_int1 pins s σ H _ us Q I r (.inl ⟨_, rfl, h⟩)
  · exact call_int1 pins s σ H _ us Q I r (.inr ⟨_, rfl, h⟩)
  · obtain ⟨n, e, l, q⟩ := h
    exact call_int_str pins s σ H _ us Q I r ⟨_, n, rfl, e, l, q⟩
  · exact h.elim
def rAppU : V → List V → Hp → VK → Prop := fun x xs H Q => match x with
  | .ref l => (match H l with
    | some (.lst ys) => (match xs with | [v] => ys.length < sizeLine ∧ Q .non (upd H l (.lst (ys ++ [v]))) | _ => False)
    | _ => False)
  | _ => False
theorem uAppend : MtR X "list.append" rAppU := by
  intro pins s σ H x xs v us Q I rx rs h
  unfold rAppU at h
  split at h
  · split at h
    · rename_i hp
      split at h
      · exact mt_append pins s σ H _ _ v us Q I rx rs ⟨_, _, _, rfl, rfl, hp, h.1, h.2⟩
      · exact h.elim
    · exact h.elim
  · exact h.elim
end
end Tr
namespace Tr
open PySem PySem.Spec PyProof.Rows L2
theorem bt_len : bootBuiltins "len" = some (.builtin "len") := by decide +kernel
theorem bt_abs : bootBuiltins "abs" = some (.builtin "abs") := by decide +kernel
theorem bt_all : bootBuiltins "all" = some (.builtin "all") := by decide +kernel
theorem bt_any : bootBuiltins "any" = some (.builtin "any") := by decide +kernel
theorem bt_max : bootBuiltins "max" = some (.builtin "max") := by decide +kernel
theorem bt_min : bootBuiltins "min" = some (.builtin "min") := by decide +kernel
theorem bt_isinstance : bootBuiltins "isinstance" = some (.builtin "isinstance") := by decide +kernel
theorem bt_sorted : bootBuiltins "sorted" = some (.builtin "sorted") := by decide +kernel
theorem bt_int : bootBuiltins "int" = some (.type "int") := by decide +kernel
theorem bt_list : bootBuiltins "list" = some (.type "list") := by decide +kernel
theorem bt_tuple : bootBuiltins "tuple" = some (.type "tuple") := by decide +kernel
theorem bt_str : bootBuiltins "str" = some (.type "str") := by decide +kernel
theorem bt_bool : bootBuiltins "bool" = some (.type "bool") := by decide +kernel
theorem bt_dict : bootBuiltins "dict" = some (.type "dict") := by decide +kernel
theorem bt_set : bootBuiltins "set" = some (.type "set") := by decide +kernel
/-- Same, further -/
theorem Same.new {H : Hp} {p : Addr} {o : HO} (h : H p = none) : Same H (upd H p o) := fun b u e => by
  rw [upd_ne (ne_of_none e h)]
  exact e
theorem Same.mut {H H' : Hp} {p : Addr} {o : HO} (e : Same H H') (h : H p = none) : Same H (upd H' p o) := fun b u q => by
  rw [upd_ne (ne_of_none q h)]
  exact e b u q
/-- all but what H did not know is as it was; the converse of Same.free -/
theorem Same.none {H H' : Hp} (e : Same H H') {p : Addr} (h : H' p = none) : H p = none := e.free h
end Tr

namespace Tr
open PySem PySem.Spec PyProof.Rows L2
section
variable {X : Cx}
theorem pe_gI {x : Str} {n : Int} {t : Tok} {pos : Pos} (hg : Gl X x) (hm : X.mg x = some (.int n t)) (hd : (x == ("__debug__" : Str)) = false := by decide) : PE X (.Name x pos) (tC (.int n)) := pe_glob hg hm ⟨t, rfl⟩ hd
theorem pe_gS {x : Str} {n : Str} {t : Tok} {pos : Pos} (hg : Gl X x) (hm : X.mg x = some (.str n t)) (hd : (x == ("__debug__" : Str)) = false := by decide) : PE X (.Name x pos) (tC (.str n)) := pe_glob hg hm ⟨t, rfl⟩ hd
theorem pe_gR {x : Str} {n : Addr} {pos : Pos} (hg : Gl X x) (hm : X.mg x = some (.ref n)) (hd : (x == ("__debug__" : Str)) = false := by decide) : PE X (.Name x pos) (tC (.ref n)) := pe_glob (v := .ref n) hg hm rfl hd
structure FldOk (K : PySem.W.Frag) (C : Addr) (f : Str) : Prop where
  cl : Cls K C
  no : NoAttr K C f
def tFldU (K : PySem.W.Frag) (ta : TE) (f : Str) : TE := fun σ H Q => ta σ H fun x H1 => match x with
  | .ref a => (match H1 a with
    | some (.ins C dx fs) => FldOk K C f ∧ ∃ v, fs.lookup f = some v ∧ Q v H1
    | _ => False)
  | _ => False
theorem peImp {e : Expr} {t t' : TE} (h : PE X e t) (i : ∀ σ H Q, t' σ H Q → t σ H Q) : PE X e t' := ⟨fun pins s σ H Q I q => h.run pins s σ H Q I (i σ H Q q)⟩
theorem psImp {e : Stmt} {t t' : TS} (h : PS X e t) (i : ∀ D σ H, t' D σ H → t D σ H) : PS X e t' := ⟨fun pins s σ H D I q => h.run pins s σ H D I (i D σ H q)⟩
theorem pe_fldU {e : Expr} {f : Str} {pos : Pos} {ta : TE} (K : PySem.W.Frag) (ha : PE X e ta) (hb : attributeBase e f X.env (eval e X.env) = eval e X.env := by rfl) (hK : X.K = K := by rfl) : PE X (.Attribute e f pos) (tFldU K ta f) := by
  subst hK
  refine ⟨fun pins s σ H Q I h => ?_⟩
  refine attr_of hb (thn (ha.run pins s σ H _ I h) fun u s1 ⟨x, H1, I1, rx, q⟩ => ?_)
  dsimp only at q
  split at q
  · split at q
    · rename_i ea
      obtain ⟨c, v, l, q⟩ := q
      cases rx
      exact getattr_ok I1 ea c.cl c.no l fun u' s2 I2 ru => ⟨v, H1, I2, ru, q⟩
    · exact q.elim
  · exact q.elim
/-- o.f = e -/
def sFldU (K : PySem.W.Frag) (ta tv : TE) (f : Str) : TS := fun D σ H => tv σ H fun y H1 => ta σ H1 fun x H2 => match x with
  | .ref a => (match H2 a with
    | some (.ins C dx fs) => FldOk K C f ∧ fs.length < 1000 ∧ D.nx σ (upd H2 a (.ins C dx (putF f y fs)))
    | _ => False)
  | _ => False
theorem ps_fldU {o value : Expr} {f : Str} {pos pos' : Pos} {ta tv : TE} (K : PySem.W.Frag) (ha : PE X o ta) (hv : PE X value tv) (hs : swapsWith value (some (.Attribute o f pos')) pos.line X.env = pure false := by rfl) (hK : X.K = K := by rfl) :
    PS X (.Assign [.Attribute o f pos'] value pos) (sFldU K ta tv f) := by
  subst hK
  refine ⟨fun pins s σ H D I h => ?_⟩
  refine plainObj_wpAny_Assign_Attribute (thn (hv.run pins s σ H _ I h) fun u s1 ⟨y, H1, I1, ry, q⟩ => thn (ha.run pins s1 σ H1 _ I1 q) fun ov s2 ⟨x, H2, I2, rx, q2⟩ => ?_) hs
  dsimp only at q2
  split at q2
  · split at q2
    · rename_i ea
      obtain ⟨c, l, q2⟩ := q2
      cases rx
      exact setattr_ok I2 ea c.cl c.no l ry fun s3 I3 => ⟨σ, _, I3, q2⟩
    · exact q2.elim
  · exact q2.elim
/-- (a, b, ..) = e, a tuple that stands in H -/
def gTupU (n : Nat) (t : TGs) : TG := fun v σ H Q => match v with
  | .ref a => (match H a with
    | some (.tup xs) => xs.length = n ∧ t xs σ H Q
    | _ => False)
  | _ => False
theorem pg_tupU {es : List Expr} {k : Nat} {t : TGs} {n : Nat} {pos : Pos} (hc : X.calm = true) (h : PGs X es t)
    (hn : (assignEach es X.env).length = n := by rfl) (hst : (assignEach es X.env).findIdx? (·.1) = none := by rfl) : PG X (.Tuple es k pos) (gTupU n t) := by
  refine ⟨fun pins s σ H v u Q I r hw => ?_⟩
  unfold gTupU at hw
  split at hw
  · split at hw
    · rename_i ea
      exact (pg_tup hc h hn hst).run pins s σ H _ u Q I r ⟨_, _, rfl, SqT.of ea, hw.1, hw.2⟩
    · exact hw.elim
  · exact hw.elim
/-- xs[i] = v, xs[i] op= v -/
def rSetU : V → V → V → Hp → (Hp → Prop) → Prop := fun o i v H Q => match o with
  | .ref p => (match H p with
    | some (.lst xs) => (match i with
      | .int k => ∃ j, ixN xs.length k = some j ∧ Q (upd H p (.lst (xs.set j v)))
      | _ => False)
    | _ => False)
  | _ => False
theorem set_listU : PSet X rSetU := by
  intro pins s σ H o i v ov iv u Q I ro ri rv h
  unfold rSetU at h
  split at h
  · split at h
    · rename_i hp
      split at h
      · obtain ⟨j, hj, q⟩ := h
        exact set_list pins s σ H _ _ v ov iv u Q I ro ri rv ⟨_, _, _, j, rfl, rfl, hp, hj, q⟩
      · exact h.elim
    · exact h.elim
  · exact h.elim
def rGetU : V → V → Hp → VK → Prop := fun o i H Q => match o with
  | .ref p => (match H p with
    | some (.lst xs) => (match i with
      | .int k => ∃ v, atI xs k = some v ∧ Q v H
      | _ => False)
    | _ => False)
  | _ => False
theorem get_listU : PGet X rGetU := by
  intro pins s σ H x y v u Q I rx ry h
  unfold rGetU at h
  split at h
  · split at h
    · rename_i hp
      split at h
      · obtain ⟨z, he, q⟩ := h
        cases rx
        obtain ⟨t, rfl⟩ := ry
        obtain ⟨its, r, pl, hz⟩ := I.list (SqL.of hp)
        obtain ⟨j, h1, h2, h3, h4, h5⟩ := atI_get he
        obtain ⟨w, ew, rw'⟩ := r.get h2
        have hl := r.length
        have hn := line63
        have fin : EP X pins σ Q w s := ⟨z, H, I, rw', q⟩
        rename_i i
        by_cases h0 : 0 ≤ i
        · have hj : i.toNat = j := by
            rw [seqIndex_of h0 h5] at h1
            exact Option.some.inj h1
          exact wpAny_getItem_list pl.isList h0 (by omega) (by rw [hj]; simpa using ew) fin
        · have hj : (i + (its.toArray.size : Int)).toNat = j := by
            rw [seqIndex_neg (by omega) h4] at h1
            rw [List.size_toArray, ← hl]
            exact Option.some.inj h1
          exact wpAny_getItem_list_neg pl.isList (by omega) (by rw [List.size_toArray] <;> omega) (by omega) (by rw [hj]; simpa using ew) fin
      · exact h.elim
    · exact h.elim
  · exact h.elim
end
end Tr
namespace Tr
open PySem PySem.Spec PyProof.Rows L2
theorem lc_fm {α : Type} (xs : List α) (h : α → Option V) {J : It} {n : Nat} {G : Hp → Prop} {Y : Nat → Hp → V → Hp → Prop} (w : Walk J n G Y) (hn : n = xs.length) (hz : xs.length ≤ sizeLine) {g : TG} {tt : TT} {te : TE} {vs : List Nat} {σ : L2.St} {H1 : Hp} {D : Addr} {Qd : Hp → Prop} (hD : H1 D = none)
    (hG : ∀ H, Same H1 H → G H)
    (hs : ∀ (i : Nat) (a : α) (x : V) (H H' : Hp) (R : VK) (R0 : Hp → Prop), xs[i]? = some a → Same H1 H → Y i H x H' → (∀ v, h a = some v → ∀ H4, Same H H4 → R v H4) → (h a = none → ∀ H3, Same H H3 → R0 H3) →
      g x (wipe σ vs) H' fun σ2 H2 => wipe σ2 vs = wipe σ vs ∧ tt σ2 H2 fun b H3 => if b = true then te σ2 H3 R else R0 H3)
    (hd : ∀ H, Same H1 H → H D = some (.lst (xs.filterMap h)) → Qd H) :
    ∃ W : Nat → Nat → Hp → Prop, (∃ m, W 0 m (upd H1 D (.lst []))) ∧ ∀ i m H, W i m H →
      (J.stop i H ∧ Qd H) ∨ (J.go i H ∧ ∃ Nx : Hp → Prop, (∀ H', Nx H' → ∃ m', m' < m ∧ W (i + 1) m' H') ∧ ∀ x H', J.yld i H x H' → g x (wipe σ vs) H' fun σ2 H2 => wipe σ2 vs = wipe σ vs ∧ tt σ2 H2 fun b H3 =>
        if b = true then te σ2 H3 fun y H4 => ∃ acc, H4 D = some (.lst acc) ∧ acc.length < sizeLine ∧ Nx (upd H4 D (.lst (acc ++ [y]))) else Nx H3) := by
  subst hn
  refine lc_it w (fun i H => Same H1 H ∧ H D = some (.lst ((xs.take i).filterMap h))) ⟨Same.new hD, by rw [upd_same]; simp⟩ (fun i H _ p => hG H p.1) ?_ (fun H p => hd H p.1 (by rw [p.2, List.take_length]))
  intro i x H H' hi p y
  obtain ⟨a, ha⟩ : ∃ a, xs[i]? = some a := ⟨xs[i], List.getElem?_eq_getElem hi⟩
  have et : xs.take (i + 1) = xs.take i ++ [a] := by
    rw [List.take_succ, ha]
    rfl
  have hlen : ((xs.take i).filterMap h).length < sizeLine := by
    refine Nat.lt_of_le_of_lt (List.length_filterMap_le _ _) ?_
    rw [List.length_take]
    omega
  refine hs i a x H H' _ _ ha p.1 y (fun v hv H4 s4 => ?_) (fun hv H3 s3 => ?_)
  · refine ⟨_, s4 _ _ p.2, hlen, Same.mut (p.1.trans s4) hD, ?_⟩
    rw [upd_same, et, List.filterMap_append]
    simp [hv]
  · refine ⟨p.1.trans s3, ?_⟩
    rw [s3 _ _ p.2, et, List.filterMap_append]
    simp [hv]
/-- any, all of a list of truth values that stands in H -/
def rAllU : List V → Hp → VK → Prop := fun xs H Q => match xs with
  | [.ref p] => (match H p with
    | some (.lst ys) => ∃ bs : List Bool, ys = bs.map V.bl ∧ Q (.bl (bs.all id)) H
    | _ => False)
  | _ => False
def rAnyU : List V → Hp → VK → Prop := fun xs H Q => match xs with
  | [.ref p] => (match H p with
    | some (.lst ys) => ∃ bs : List Bool, ys = bs.map V.bl ∧ Q (.bl (bs.any id)) H
    | _ => False)
  | _ => False
section
variable {X : Cx}
theorem uAll (hc : X.calm = true) : CallR X (.builtin "all") rAllU := by
  intro pins s σ H xs us Q I r h
  unfold rAllU at h
  split at h
  · split at h
    · rename_i hp
      obtain ⟨bs, rfl, q⟩ := h
      exact cr_all hc pins s σ H _ us Q I r ⟨_, bs, rfl, SqL.of hp, q⟩
    · exact h.elim
  · exact h.elim
theorem uAny (hc : X.calm = true) : CallR X (.builtin "any") rAnyU := by
  intro pins s σ H xs us Q I r h
  unfold rAnyU at h
  split at h
  · split at h
    · rename_i hp
      obtain ⟨bs, rfl, q⟩ := h
      exact cr_any hc pins s σ H _ us Q I r ⟨_, bs, rfl, SqL.of hp, q⟩
    · exact h.elim
  · exact h.elim
/-- x in T, T a written tuple of the module -/
def rInW (p : Addr) (xs : List V) : R2 := fun x y H Q => y = .ref p ∧ flatV x = true ∧ Q (.bl (inV x xs)) H
theorem uInW {p : Addr} {xs : List V} (hw : ∀ H, SqT X.K H p xs) (hf : xs.all flatV = true) : OpR X (compareOp .In) (rInW p xs) := by
  intro pins s σ H x y v u Q I rx ry h
  obtain ⟨rfl, fx, q⟩ := h
  exact op_in_seq pins s σ H x _ v u Q I rx ry ⟨_, xs, rfl, .inr (hw H), fx, hf, q⟩
end
theorem inV_strs (t : Str) : ∀ l : List Str, inV (.str t) (l.map V.str) = l.contains t
  | [] => rfl
  | b :: l => by
    have ih := inV_strs t l
    unfold inV at ih ⊢
    rw [List.map_cons, List.any_cons, ih, List.contains_cons]
    congr 1
    show (b == t) = (t == b)
    exact Bool.eq_iff_iff.mpr ⟨fun h => by simpa using (by simpa using h : b = t).symm, fun h => by simpa using (by simpa using h : t = b).symm⟩
theorem flat_strs (l : List Str) : (l.map V.str).all flatV = true := by
  induction l with
  | nil => rfl
  | cons a l ih => exact ih
theorem atI_0 {α : Type} (x : α) (l : List α) : atI (x :: l) 0 = some x := atI_nat (j := 0) rfl
theorem atI_1 {α : Type} (x y : α) (l : List α) : atI (x :: y :: l) 1 = some y := atI_nat (j := 1) rfl
theorem atI_2 {α : Type} (x y z : α) (l : List α) : atI (x :: y :: z :: l) 2 = some z := atI_nat (j := 2) rfl
theorem atI_3 {α : Type} (x y z w : α) (l : List α) : atI (x :: y :: z :: w :: l) 3 = some w := atI_nat (j := 3) rfl
end Tr
set_option maxHeartbeats 4000000
namespace Tr
open PySem PySem.Spec PyProof.Rows L2
section
variable {σ : L2.St} {H : Hp} {Q : VK} {D : Ends} {t u : TS} {c d : TT} {ta tb te tv : TE} {tg : TG} {i j : Nat} {v x y : V} {K : PySem.W.Frag}
variable {na : L2.St → Hp → Prop} {rt : VK} {bk ct : L2.St → Hp → Prop}
theorem s_seq (h : t ⟨u ⟨na, rt, bk, ct⟩, rt, bk, ct⟩ σ H) : tSeq t u ⟨na, rt, bk, ct⟩ σ H := h
theorem s_next (h : na σ H) : tNext ⟨na, rt, bk, ct⟩ σ H := h
theorem s_if (h : c σ H fun b H1 => if b = true then t D σ H1 else u D σ H1) : tIfS c t u D σ H := h
theorem s_ret (h : te σ H rt) : tRet te ⟨na, rt, bk, ct⟩ σ H := h
theorem s_retN (h : rt .non H) : tRetN ⟨na, rt, bk, ct⟩ σ H := h
theorem s_drop (h : te σ H fun _ H1 => na σ H1) : tDrop te ⟨na, rt, bk, ct⟩ σ H := h
theorem s_asg (h : te σ H fun x H1 => tg x σ H1 na) : tAsg te tg ⟨na, rt, bk, ct⟩ σ H := h
theorem s_brk (h : bk σ H) : tBreak ⟨na, rt, bk, ct⟩ σ H := h
theorem s_cont (h : ct σ H) : tCont ⟨na, rt, bk, ct⟩ σ H := h
theorem s_gname {R : L2.St → Hp → Prop} (h : R (σ.set i (some v)) H) : gName i v σ H R := h
theorem s_var (h : σ[i]? = some (some v)) (q : Q v H) : tVar i σ H Q := ⟨v, h, q⟩
theorem s_c (q : Q v H) : tC v σ H Q := q
theorem s_op {r : R2} (h : ta σ H fun x H1 => tb σ H1 fun y H2 => r x y H2 Q) : tOp r ta tb σ H Q := h
theorem s_un {r : V → Hp → VK → Prop} (h : ta σ H fun x H1 => r x H1 Q) : tUn r ta σ H Q := h
theorem s_neg {n : Int} (q : Q (.int (-n)) H) : rU (fun i => .int (-i)) (.int n) H Q := ⟨n, rfl, q⟩
theorem s_test {R : Bool → Hp → Prop} (h : te σ H fun x H' => ∃ k, x = .bl k ∧ R k H') : tTest te σ H R := h
theorem s_tb {R : Bool → Hp → Prop} (h : te σ H fun x H' => ∃ k, x = .bl k ∧ R k H') : tB te σ H R := h
theorem s_bl {R : Bool → Prop} {b : Bool} (h : R b) : ∃ k, V.bl b = .bl k ∧ R k := ⟨b, rfl, h⟩
theorem s_not {R : Bool → Hp → Prop} (h : c σ H fun b H1 => R (!b) H1) : tNot c σ H R := h
theorem s_and {R : Bool → Hp → Prop} (h : c σ H fun b H1 => if b = true then d σ H1 R else R false H1) : tAnd c d σ H R := h
theorem s_or {R : Bool → Hp → Prop} (h : c σ H fun b H1 => if b = true then R true H1 else d σ H1 R) : tOr c d σ H R := h
theorem s_yes {R : Bool → Hp → Prop} (h : R true H) : tYes σ H R := h
theorem s_ifx (h : c σ H fun b H1 => if b = true then ta σ H1 Q else tb σ H1 Q) : tIf c ta tb σ H Q := h
theorem s_andV (h : ta σ H fun x H1 => ∃ c, x = .bl c ∧ if c = true then tb σ H1 Q else Q (.bl false) H1) : tAndV ta tb σ H Q := h
theorem s_orV (h : ta σ H fun x H1 => ∃ c, x = .bl c ∧ if c = true then Q (.bl true) H1 else tb σ H1 Q) : tOrV ta tb σ H Q := h
theorem s_notV (h : ta σ H fun x H1 => ∃ c, x = .bl c ∧ Q (.bl (!c)) H1) : tNotV ta σ H Q := h
theorem s_chain {r r' : R2} {tc : TE} (h : ta σ H fun x H1 => tb σ H1 fun y H2 => r x y H2 fun z H3 => ∃ k, z = .bl k ∧ (if k = true then tc σ H3 fun w' H4 => r' y w' H4 Q else Q (.bl false) H3)) : tChain r r' ta tb tc σ H Q := h
theorem s_nil {R : List V → Hp → Prop} (h : R [] H) : tNil σ H R := h
theorem s_cons {tr : TA} {R : List V → Hp → Prop} (h : te σ H fun x H1 => tr σ H1 fun xs H2 => R (x :: xs) H2) : tCons te tr σ H R := h
theorem s_lst {tr : TA} (h : tr σ H fun xs H1 => xs.length ≤ sizeLine ∧ ∀ p, H1 p = none → Q (.ref p) (upd H1 p (.lst xs))) : tLst tr σ H Q := h
theorem s_tup {tr : TA} (h : tr σ H fun xs H1 => xs.length ≤ sizeLine ∧ ∀ p, H1 p = none → Q (.ref p) (upd H1 p (.tup xs))) : tTup tr σ H Q := h
theorem s_cb {r : List V → Hp → VK → Prop} {tr : TA} (h : tr σ H fun vs H1 => r vs H1 Q) : tCB r tr σ H Q := h
theorem s_call {sp : Sp} {E : XK} {tr : TA} (h : tr σ H fun vs H1 => sp vs H1 Q E) : tCall sp [] E tr σ H Q := by
  show tr σ H fun vs H1 => sp (vs ++ []) H1 Q E
  have e : (fun vs H1 => sp (vs ++ []) H1 Q E) = fun vs H1 => sp vs H1 Q E := by funext vs H1; rw [List.append_nil]
  rw [e]
  exact h
def mRecv (C : Addr) (m : Str) (R : V → Hp → Prop) (x : V) (H1 : Hp) : Prop := ∃ a dx fs, x = .ref a ∧ H1 a = some (.ins C dx fs) ∧ fs.lookup m = none ∧ R x H1
theorem s_meth {C : Addr} {m : Str} {sp : Sp} {E : XK} {tr : TA} (h : ta σ H fun x H1 => mRecv C m (fun x H1 => tr σ H1 fun vs H2 => sp (x :: vs) H2 Q E) x H1) : tMeth C m sp [] E ta tr σ H Q := by
  have e : (fun x H1 => ∃ a dx fs, x = V.ref a ∧ H1 a = some (.ins C dx fs) ∧ fs.lookup m = none ∧ tr σ H1 fun vs H2 => sp (x :: (vs ++ [])) H2 Q E) = fun x H1 => mRecv C m (fun x H1 => tr σ H1 fun vs H2 => sp (x :: vs) H2 Q E) x H1 := by
    funext x H1
    simp only [List.append_nil, mRecv]
  show ta σ H fun x H1 => ∃ a dx fs, x = V.ref a ∧ H1 a = some (.ins C dx fs) ∧ fs.lookup m = none ∧ tr σ H1 fun vs H2 => sp (x :: (vs ++ [])) H2 Q E
  rw [e]
  exact h
/-- the receiver is known -/
theorem s_recv {C a dx : Addr} {m : Str} {fs : List (Str × V)} {R : V → Hp → Prop} (h1 : H a = some (.ins C dx fs)) (h2 : fs.lookup m = none) (q : R (.ref a) H) : mRecv C m R (.ref a) H := ⟨a, dx, fs, rfl, h1, h2, q⟩
theorem s_make {C : Addr} {sp : Sp} {E : XK} {tr : TA} (h : tr σ H fun vs H1 => ∀ x dx, H1 x = none → H1 dx = none → dx ≠ x → sp (.ref x :: vs) (upd (upd H1 dx (.own x)) x (.ins C dx [])) (fun v H2 => v = .non ∧ Q (.ref x) H2) E) : tMake C sp [] E tr σ H Q := by
  have e : (fun vs H1 => ∀ x dx, H1 x = none → H1 dx = none → dx ≠ x → sp (.ref x :: (vs ++ [])) (upd (upd H1 dx (.own x)) x (.ins C dx [])) (fun v H2 => v = .non ∧ Q (.ref x) H2) E) = fun vs H1 => ∀ x dx, H1 x = none → H1 dx = none → dx ≠ x → sp (.ref x :: vs) (upd (upd H1 dx (.own x)) x (.ins C dx [])) (fun v H2 => v = .non ∧ Q (.ref x) H2) E := by
    funext vs H1
    simp only [List.append_nil]
  show tr σ H fun vs H1 => ∀ x dx, H1 x = none → H1 dx = none → dx ≠ x → sp (.ref x :: (vs ++ [])) (upd (upd H1 dx (.own x)) x (.ins C dx [])) (fun v H2 => v = .non ∧ Q (.ref x) H2) E
  rw [e]
  exact h
theorem s_I0 {g : Int → Int → V} {n m : Int} (q : Q (g n m) H) : rI0 g (.int n) (.int m) H Q := ⟨n, m, rfl, rfl, q⟩
theorem s_I {C : Int → Int → Prop} {g : Int → Int → V} {n m : Int} (hc : C n m) (q : Q (g n m) H) : rI C g (.int n) (.int m) H Q := ⟨n, m, rfl, rfl, hc, q⟩
theorem s_eqS (hs : scal x y = true) (q : Q (.bl (decide (x = y))) H) : rEqU K x y H Q := by unfold rEqU; rw [if_pos hs]; exact q
theorem s_neS (hs : scal x y = true) (q : Q (.bl (!decide (x = y))) H) : rNeU K x y H Q := by unfold rNeU; rw [if_pos hs]; exact q
theorem s_eqNil {p q' : Addr} {xs : List V} (hp : H p = some (.lst xs)) (hq : H q' = some (.lst [])) (q : Q (.bl xs.isEmpty) H) : rEqU K (.ref p) (.ref q') H Q := by
  unfold rEqU; rw [if_neg (by simp [scal])]; simp only [hp, hq]; exact q
theorem s_neNil {p q' : Addr} {xs : List V} (hp : H p = some (.lst xs)) (hq : H q' = some (.lst [])) (q : Q (.bl (!xs.isEmpty)) H) : rNeU K (.ref p) (.ref q') H Q := by
  unfold rNeU; rw [if_neg (by simp [scal])]; simp only [hp, hq]; exact q
theorem s_isN {b : Bool} (hb : decide (x = .non) = b) (q : Q (.bl b) H) : rIsN x .non H Q := ⟨rfl, by rw [hb]; exact q⟩
theorem s_notN {b : Bool} (hb : decide (x = .non) = b) (q : Q (.bl (!b)) H) : rNotN x .non H Q := ⟨rfl, by rw [hb]; exact q⟩
theorem s_addI {n m : Int} (q : Q (.int (n + m)) H) : rAddU (.int n) (.int m) H Q := q
theorem s_addS {a b : Str} (hl : a.length + b.length ≤ sizeLine) (q : Q (.str (a ++ b)) H) : rAddU (.str a) (.str b) H Q := ⟨hl, q⟩
theorem s_addL {p r : Addr} {xs ys : List V} (hp : H p = some (.lst xs)) (hq : H r = some (.lst ys)) (hl : xs.length + ys.length ≤ sizeLine) (q : ∀ z, H z = none → Q (.ref z) (upd H z (.lst (xs ++ ys)))) : rAddU (.ref p) (.ref r) H Q := by
  simp only [rAddU, hp, hq]
  exact ⟨hl, q⟩
theorem s_mulI {n m : Int} (hc : CMulW n m) (q : Q (.int (n * m)) H) : rMulU (.int n) (.int m) H Q := ⟨hc, q⟩
theorem s_mulL {p : Addr} {xs : List V} {k : Int} (hp : H p = some (.lst xs)) (h1 : -(2 ^ 63) ≤ k) (h2 : k < 2 ^ 63) (h3 : xs.length * k.toNat ≤ sizeLine) (q : ∀ z, H z = none → Q (.ref z) (upd H z (.lst (List.replicate k.toNat xs).flatten))) : rMulU (.ref p) (.int k) H Q := by
  simp only [rMulU, hp]
  exact ⟨h1, h2, h3, q⟩
theorem s_ixL {p : Addr} {xs : List V} {n : Int} (hp : H p = some (.lst xs)) (ha : atI xs n = some v) (q : Q v H) : rIxU (.ref p) (.int n) H Q := by
  simp only [rIxU, hp]
  exact ⟨v, ha, q⟩
theorem s_ixT {p : Addr} {xs : List V} {n : Int} (hp : H p = some (.tup xs)) (ha : atI xs n = some v) (q : Q v H) : rIxU (.ref p) (.int n) H Q := by
  simp only [rIxU, hp]
  exact ⟨v, ha, q⟩
theorem s_ixS {z : Str} {n : Int} {k : Nat} (hz : z.length ≤ sizeLine) (ha : atI z.cps.toList n = some k) (q : Q (.str ⟨#[k]⟩) H) : rIxU (.str z) (.int n) H Q := ⟨hz, k, ha, q⟩
theorem s_sl {r : V → Option Int → Option Int → Hp → VK → Prop} {tl th : TO} (h : te σ H fun x H1 => tl σ H1 fun l H2 => th σ H2 fun u H3 => r x l u H3 Q) : tSl r te tl th σ H Q := h
theorem s_po0 {R : Option Int → Hp → Prop} (h : R none H) : tNoPart σ H R := h
theorem s_po1 {R : Option Int → Hp → Prop} (h : te σ H fun x H1 => ∃ i, x = .int i ∧ R (some i) H1) : tPart te σ H R := h
theorem s_int {R : Int → Prop} {n : Int} (h : R n) : ∃ i, V.int n = .int i ∧ R i := ⟨n, rfl, h⟩
theorem s_slL {p : Addr} {xs : List V} {lo hi : Option Int} (hp : H p = some (.lst xs)) (q : ∀ z, H z = none → Q (.ref z) (upd H z (.lst (cutV xs lo hi)))) : rSlU (.ref p) lo hi H Q := by
  simp only [rSlU, hp]
  exact q
theorem s_slS {z : Str} {lo hi : Option Int} (hz : z.length ≤ sizeLine) (q : Q (.str (cutS z lo hi)) H) : rSlU (.str z) lo hi H Q := ⟨hz, q⟩
theorem s_inL {p : Addr} {xs : List V} {neg : Bool} (hp : H p = some (.lst xs)) (h1 : flatV x = true) (h2 : xs.all flatV = true) (q : Q (.bl (if neg then !inV x xs else inV x xs)) H) : rInU K neg x (.ref p) H Q := by
  simp only [rInU, hp]
  exact ⟨h1, h2, q⟩
theorem s_inT {p : Addr} {xs : List V} {neg : Bool} (hp : H p = some (.tup xs)) (h1 : flatV x = true) (h2 : xs.all flatV = true) (q : Q (.bl (if neg then !inV x xs else inV x xs)) H) : rInU K neg x (.ref p) H Q := by
  simp only [rInU, hp]
  exact ⟨h1, h2, q⟩
/-- a text in a list of texts -/
theorem s_inS {p : Addr} {z : Str} {l : List Str} (hp : H p = some (.lst (l.map V.str))) (q : Q (.bl (l.contains z)) H) : rInU K false (.str z) (.ref p) H Q := s_inL hp rfl (flat_strs _) (by rw [inV_strs]; exact q)
theorem s_ninS {p : Addr} {z : Str} {l : List Str} (hp : H p = some (.lst (l.map V.str))) (q : Q (.bl (!l.contains z)) H) : rInU K true (.str z) (.ref p) H Q := s_inL hp rfl (flat_strs _) (by rw [inV_strs]; exact q)
theorem s_inW {p : Addr} {z : Str} {l : List Str} (q : Q (.bl (l.contains z)) H) : rInW p (l.map V.str) (.str z) (.ref p) H Q := ⟨rfl, rfl, by rw [inV_strs]; exact q⟩
theorem s_lenS {z : Str} (hz : z.length ≤ sizeLine) (q : Q (.int z.length) H) : rLenU [.str z] H Q := ⟨hz, q⟩
theorem s_lenL {p : Addr} {xs : List V} (hp : H p = some (.lst xs)) (q : Q (.int xs.length) H) : rLenU [.ref p] H Q := by
  simp only [rLenU, hp]
  exact q
theorem s_lenT {p : Addr} {xs : List V} (hp : H p = some (.tup xs)) (q : Q (.int xs.length) H) : rLenU [.ref p] H Q := by
  simp only [rLenU, hp]
  exact q
theorem s_intI {n : Int} (q : Q (.int n) H) : rIntU [.int n] H Q := q
theorem s_intB {b : Bool} (q : Q (.int (if b then 1 else 0)) H) : rIntU [.bl b] H Q := q
theorem s_intS {z : Str} {n : Int} (h1 : PySem.intText? z = some n) (h2 : z.length ≤ 640) (q : Q (.int n) H) : rIntU [.str z] H Q := ⟨n, h1, h2, q⟩
theorem s_listL {p : Addr} {xs : List V} (hp : H p = some (.lst xs)) (q : ∀ z, H z = none → Q (.ref z) (upd H z (.lst xs))) : rListU [.ref p] H Q := by
  simp only [rListU, hp]
  exact q
theorem s_listT {p : Addr} {xs : List V} (hp : H p = some (.tup xs)) (q : ∀ z, H z = none → Q (.ref z) (upd H z (.lst xs))) : rListU [.ref p] H Q := by
  simp only [rListU, hp]
  exact q
theorem s_tupleL {p : Addr} {xs : List V} (hp : H p = some (.lst xs)) (q : ∀ z, H z = none → Q (.ref z) (upd H z (.tup xs))) : rTupleU [.ref p] H Q := by
  simp only [rTupleU, hp]
  exact q
theorem s_tupleT {p : Addr} {xs : List V} (hp : H p = some (.tup xs)) (q : Q (.ref p) H) : rTupleU [.ref p] H Q := by
  simp only [rTupleU, hp]
  exact q
theorem s_bm {T : String} {r : V → List V → Hp → VK → Prop} {tr : TA} (h : ta σ H fun x H1 => tyV K T x H1 ∧ tr σ H1 fun xs H2 => r x xs H2 Q) : tBM K T r ta tr σ H Q := h
theorem s_bm0 {T : String} {r : V → List V → Hp → VK → Prop} (h : ta σ H fun x H1 => tyV K T x H1 ∧ r x [] H1 Q) : tBM0 K T r ta σ H Q := h
theorem s_tyL {p : Addr} {xs : List V} {R : Prop} (hp : H p = some (.lst xs)) (h : R) : tyV K "list" (.ref p) H ∧ R := ⟨.inl ⟨rfl, _, SqL.of hp⟩, h⟩
theorem s_app {p : Addr} {xs : List V} (hp : H p = some (.lst xs)) (hl : xs.length < sizeLine) (q : Q .non (upd H p (.lst (xs ++ [v])))) : rAppU (.ref p) [v] H Q := by
  simp only [rAppU, hp]
  exact ⟨hl, q⟩
theorem s_fld {a C dx : Addr} {fs : List (Str × V)} {f : Str} (hp : H a = some (.ins C dx fs)) (hc : FldOk K C f) (hl : fs.lookup f = some v) (q : Q v H) : (fun x H1 => (match x with
  | V.ref a => (match H1 a with
    | some (HO.ins C dx fs) => FldOk K C f ∧ ∃ v, fs.lookup f = some v ∧ Q v H1
    | _ => False)
  | _ => False)) (V.ref a) H := by
  simp only [hp]
  exact ⟨hc, v, hl, q⟩
end
end Tr
namespace Tr
open PySem PySem.Spec PyProof.Rows L2
theorem get_same {H H' : Hp} {a : Addr} {o : HO} (S : Same H H') (h : H a = some o) : H' a = some o := S a o h
theorem upd_none {H : Hp} {a z : Addr} {o : HO} (h : upd H a o z = none) : z ≠ a ∧ H z = none := by
  by_cases e : z = a
  · rw [e, upd_same] at h
    cases h
  · rw [upd_ne e] at h
    exact ⟨e, h⟩
theorem sz_le {n : Nat} (h : n ≤ 100000) : n ≤ sizeLine := Nat.le_trans h (by decide)
theorem sz_lt {n : Nat} (h : n < 100000) : n < sizeLine := Nat.lt_of_lt_of_le h (by decide)
theorem ifT {b : Bool} {A B : Prop} (e : b = true) (h : A) : if b = true then A else B := by rw [if_pos e]; exact h
theorem ifF {b : Bool} {A B : Prop} (e : b = false) (h : B) : if b = true then A else B := by rw [if_neg (by rw [e]; decide)]; exact h
theorem ifB {b : Bool} {A B : Prop} (h1 : b = true → A) (h2 : b = false → B) : if b = true then A else B := by
  cases b
  · exact ifF rfl (h2 rfl)
  · exact ifT rfl (h1 rfl)
end Tr
namespace Tr
open PySem PySem.Spec PyProof.Rows L2
section
variable {σ : L2.St} {H : Hp} {Q : VK} {D : Ends} {ta tb te tv : TE} {v x y : V} {K : PySem.W.Frag}
theorem s_m1 {r : V → List V → Hp → VK → Prop} (h : ta σ H fun x H1 => (∃ a, x = .str a) ∧ te σ H1 fun y H2 => r x [y] H2 Q) : tM1 r ta te σ H Q := h
theorem s_isS {z : Str} {R : Prop} (h : R) : (∃ a, V.str z = .str a) ∧ R := ⟨⟨z, rfl⟩, h⟩
theorem s_isiSS {z : Str} (q : Q (.bl true) H) : rIsi K [.str z, .ty "str"] H Q := ⟨_, _, _, _, true, rfl, .ty _, .base (.str z), kit_ty (by decide +kernel), q⟩
theorem s_isiLT {p tp : Addr} {xs : List V} (hp : H p = some (.lst xs)) (ht : H tp = some (.tup [.ty "list", .ty "tuple"])) (q : Q (.bl true) H) : rIsiT K [.ref p, .ref tp] H Q :=
  ⟨_, tp, _, .type "list", [.type "list", .type "tuple"], true, rfl, ht, .cons (.ty _) (.cons (.ty _) .nil), .base (.lst hp), by rfl, q⟩
theorem s_split {z b : Str} (h1 : (b.length == 0) = false) (h2 : z.length + 2 ≤ sizeLine) (q : ∀ p, H p = none → Q (.ref p) (upd H p (.lst ((Txt.split z b).map V.str)))) :
    ∃ a b', V.str z = V.str a ∧ [V.str b] = [V.str b'] ∧ (b'.length == 0) = false ∧ a.length + 2 ≤ sizeLine ∧ rNewStrs (Txt.split a b') H Q := ⟨z, b, rfl, rfl, h1, h2, q⟩
end
end Tr
namespace Tr
open PySem L2
theorem s_sz {n : Nat} {R : Prop} (h : n ≤ 1000) (q : R) : n ≤ sizeLine ∧ R := ⟨Nat.le_trans h (by decide), q⟩
end Tr
namespace Tr
open PySem PySem.Spec PyProof.Rows L2
section
variable {σ : L2.St} {H : Hp} {Q : VK} {D : Ends} {K : PySem.W.Frag}
/-- for i, x in enumerate(xs) -/
theorem s_forEnum {p : Addr} {xs : List V} {g : TG} {tb : TS} {te : TE} {na : L2.St → Hp → Prop} {rt : VK} {bk ct : L2.St → Hp → Prop} (h1 : te σ H fun v H1 => v = .ref p ∧ H1 = H) (hm : ∀ Q : VK, (te σ H fun v H1 => v = .ref p ∧ H1 = H) → Q (.ref p) H → te σ H Q) (hp : H p = some (.lst xs)) (Pv : Nat → L2.St → Hp → Prop) (h0 : Pv 0 σ H)
    (hG : ∀ i σ H, i ≤ xs.length → Pv i σ H → H p = some (.lst xs))
    (hs : ∀ i x T σ H, xs[i]? = some x → Pv i σ H → H T = none → g (.ref T) σ (upd H T (.tup [.int (i : Nat), x])) fun σ2 H2 => tb ⟨Pv (i + 1), rt, na, Pv (i + 1)⟩ σ2 H2)
    (hd : ∀ σ H, Pv xs.length σ H → na σ H) : tFor (iEnum K (tCons te tNil)) g tb ⟨na, rt, bk, ct⟩ σ H := by
  refine hm _ h1 ⟨p, xs, rfl, SqL.of hp, ?_⟩
  refine for_it (D := ⟨na, rt, bk, ct⟩) (walk_enum (xs := xs)) Pv h0 (fun i σ H hi pv => SqL.of (hG i σ H hi pv)) ?_ hd
  rintro i x σ H H' hi pv ⟨T, x1, y1, rfl, hT, rfl, e1, e2⟩
  cases e1
  exact hs i y1 T σ H e2 pv hT
theorem s_forEnumV {p : Addr} {xs : List V} {g : TG} {tb : TS} {j : Nat} {na : L2.St → Hp → Prop} {rt : VK} {bk ct : L2.St → Hp → Prop} (hv : σ[j]? = some (some (.ref p))) (hp : H p = some (.lst xs)) (Pv : Nat → L2.St → Hp → Prop) (h0 : Pv 0 σ H)
    (hG : ∀ i σ H, i ≤ xs.length → Pv i σ H → H p = some (.lst xs))
    (hs : ∀ i x T σ H, xs[i]? = some x → Pv i σ H → H T = none → g (.ref T) σ (upd H T (.tup [.int (i : Nat), x])) fun σ2 H2 => tb ⟨Pv (i + 1), rt, na, Pv (i + 1)⟩ σ2 H2)
    (hd : ∀ σ H, Pv xs.length σ H → na σ H) : tFor (iEnum K (tCons (tVar j) tNil)) g tb ⟨na, rt, bk, ct⟩ σ H :=
  s_forEnum ⟨_, hv, rfl, rfl⟩ (fun Q _ q => ⟨_, hv, q⟩) hp Pv h0 hG hs hd
/-- for x in xs, xs what te gives, a list that stands in H -/
theorem s_forList {p : Addr} {xs : List V} {g : TG} {tb : TS} {te : TE} {na : L2.St → Hp → Prop} {rt : VK} {bk ct : L2.St → Hp → Prop} (Pv : Nat → L2.St → Hp → Prop) (h0 : Pv 0 σ H) (hp : H p = some (.lst xs))
    (hG : ∀ i σ H, i ≤ xs.length → Pv i σ H → H p = some (.lst xs))
    (hs : ∀ i x σ H, xs[i]? = some x → Pv i σ H → g x σ H fun σ2 H2 => tb ⟨Pv (i + 1), rt, na, Pv (i + 1)⟩ σ2 H2)
    (hd : ∀ σ H, Pv xs.length σ H → na σ H) :
    ∃ W : Nat → Nat → L2.St → Hp → Prop, (∃ m, W 0 m σ H) ∧ ∀ i m σ H, W i m σ H →
      ((Itl K p).stop i H ∧ na σ H) ∨ ((Itl K p).go i H ∧ ∃ N : L2.St → Hp → Prop, (∀ σ' H', N σ' H' → ∃ m', m' < m ∧ W (i + 1) m' σ' H') ∧ ∀ x H', (Itl K p).yld i H x H' → g x σ H' fun σ2 H2 => tb ⟨N, rt, na, N⟩ σ2 H2) :=
  for_list (K := K) (D := ⟨na, rt, bk, ct⟩) Pv h0 (fun i σ H hi pv => SqL.of (hG i σ H hi pv)) hs hd
theorem s_gtup2 {T : Addr} {x y : V} {i j n : Nat} {R : L2.St → Hp → Prop} (hT : H T = some (.tup [x, y])) (hn : 2 = n) (q : R ((σ.set i (some x)).set j (some y)) H) : gTupU n (gCons (gName i) (gCons (gName j) gNil)) (.ref T) σ H R := by
  subst hn
  simp only [gTupU, hT]
  exact ⟨rfl, _, _, rfl, _, _, rfl, rfl, q⟩
theorem s_gtup3 {T : Addr} {x y z : V} {i j k n : Nat} {R : L2.St → Hp → Prop} (hT : H T = some (.tup [x, y, z])) (hn : 3 = n) (q : R (((σ.set i (some x)).set j (some y)).set k (some z)) H) : gTupU n (gCons (gName i) (gCons (gName j) (gCons (gName k) gNil))) (.ref T) σ H R := by
  subst hn
  simp only [gTupU, hT]
  exact ⟨rfl, _, _, rfl, _, _, rfl, _, _, rfl, rfl, q⟩
end
end Tr
namespace Tr
open PySem PySem.Spec PyProof.Rows L2
section
variable {H : Hp} {Q : VK} {K : PySem.W.Frag}
/-- a text in a written tuple of texts that was just laid -/
theorem s_inTS {p : Addr} {z : Str} {l : List Str} (hp : H p = some (.tup (l.map V.str))) (q : Q (.bl (l.contains z)) H) : rInU K false (.str z) (.ref p) H Q := s_inT hp rfl (flat_strs _) (by rw [inV_strs]; exact q)
theorem s_ninTS {p : Addr} {z : Str} {l : List Str} (hp : H p = some (.tup (l.map V.str))) (q : Q (.bl (!l.contains z)) H) : rInU K true (.str z) (.ref p) H Q := s_inT hp rfl (flat_strs _) (by rw [inV_strs]; exact q)
theorem contains2 (z a b : Str) : [a, b].contains z = decide (z = a ∨ z = b) := by simp [List.contains_cons, Bool.decide_or]
theorem dec_str (a b : Str) : decide (V.str a = V.str b) = decide (a = b) := decide_eq_decide.mpr ⟨fun e => by injection e, fun e => by rw [e]⟩
theorem dec_int (a b : Int) : decide (V.int a = V.int b) = decide (a = b) := decide_eq_decide.mpr ⟨fun e => by injection e, fun e => by rw [e]⟩
theorem split_at {α : Type} {l : List α} {i : Nat} {z : α} (h : l[i]? = some z) : l = l.take i ++ z :: l.drop (i + 1) := by
  obtain ⟨hi, e⟩ := List.getElem?_eq_some_iff.mp h
  have e2 := List.drop_eq_getElem_cons hi
  rw [e] at e2
  rw [← e2, List.take_append_drop]
theorem str_at {l : List Str} {i : Nat} {x : V} (hx : (l.map V.str)[i]? = some x) : ∃ z, l[i]? = some z ∧ x = .str z := by
  rw [List.getElem?_map] at hx
  cases e : l[i]? with
  | none => rw [e] at hx; cases hx
  | some z => rw [e] at hx; exact ⟨z, rfl, (Option.some.inj hx).symm⟩
end
end Tr
namespace Tr
open PySem PySem.Spec PyProof.Rows L2
section
variable {σ : L2.St} {H : Hp} {Q : VK} {K : PySem.W.Frag} {ta tv : TE} {f : Str} {v : V} {na : L2.St → Hp → Prop} {rt : VK} {bk ct : L2.St → Hp → Prop}
def mFld (K : PySem.W.Frag) (f : Str) (x : V) (H1 : Hp) (Q : VK) : Prop := match x with
  | .ref a => (match H1 a with
    | some (.ins C dx fs) => FldOk K C f ∧ ∃ v, fs.lookup f = some v ∧ Q v H1
    | _ => False)
  | _ => False
theorem s_fldU (h : ta σ H fun x H1 => mFld K f x H1 Q) : tFldU K ta f σ H Q := h
theorem s_fldM {a C dx : Addr} {fs : List (Str × V)} (hp : H a = some (.ins C dx fs)) (hc : FldOk K C f) (hl : fs.lookup f = some v) (q : Q v H) : mFld K f (.ref a) H Q := by
  simp only [mFld, hp]
  exact ⟨hc, v, hl, q⟩
def mSet (K : PySem.W.Frag) (f : Str) (x y : V) (H2 : Hp) (R : Hp → Prop) : Prop := match x with
  | .ref a => (match H2 a with
    | some (.ins C dx fs) => FldOk K C f ∧ fs.length < 1000 ∧ R (upd H2 a (.ins C dx (putF f y fs)))
    | _ => False)
  | _ => False
theorem s_sfldU (h : tv σ H fun y H1 => ta σ H1 fun x H2 => mSet K f x y H2 fun H3 => na σ H3) : sFldU K ta tv f ⟨na, rt, bk, ct⟩ σ H := h
theorem s_setM {a C dx : Addr} {fs fs' : List (Str × V)} {y : V} {R : Hp → Prop} (hp : H a = some (.ins C dx fs)) (hc : FldOk K C f) (hl : fs.length < 1000) (he : putF f y fs = fs') (q : R (upd H a (.ins C dx fs'))) : mSet K f (.ref a) y H R := by
  simp only [mSet, hp]
  exact ⟨hc, hl, by rw [he]; exact q⟩
end
end Tr
set_option maxHeartbeats 1000000
namespace Tr
open PySem PySem.Spec PyProof.Rows L2
section
variable {X : Cx}
def PPt (X : Cx) (p : Pattern) (r : Str → Bool) : Prop := ∀ (pins : List (Addr × Obj)) (s : Shared) (σ : L2.St) (H : Hp) (z : Str) (u : Value) (Q : Option (List (Str × Value)) → Shared → Prop), Inv X pins σ H s → RelV (.str z) u →
  (∀ s', Inv X pins σ H s' → Q (if r z = true then some [] else none) s') → wpAny (model X.prog X.w) X.A (matchPattern p X.env u) Q X.xe s
theorem ppt_val {w : Str} {k : Nat} {p1 p2 : Pos} : PPt X (.MatchValue (.Constant (.str w) k p1) p2) (fun z => decide (z = w)) := by
  intro pins s σ H z u Q I ru hq
  refine wpAny_matchPattern_Value ?_
  refine thn ((pe_str (X := X)).run pins s σ H (fun v H1 => v = .str w ∧ H1 = H) I ⟨rfl, rfl⟩) fun x s1 hx => ?_
  obtain ⟨v, H1, I1, rx, rfl, rfl⟩ := hx
  refine thn (op_eq pins s1 σ _ (.str z) (.str w) u x (fun v H1 => v = .bl (decide (V.str z = V.str w)) ∧ H1 = _) I1 ru rx ⟨rfl, rfl, rfl⟩) fun c s2 hc => ?_
  obtain ⟨v, H2, I2, rc, rfl, rfl⟩ := hc
  have ec : c = Value.bool (decide (V.str z = V.str w)) := rc
  subst ec
  refine wpAny_truthy_bool ?_
  have := hq s2 I2
  rw [dec_str]
  by_cases e : z = w
  · simpa [e] using this
  · simpa [e] using this
def PFs (X : Cx) (ps : List Pattern) (r : Str → Bool) : Prop := ∀ (pins : List (Addr × Obj)) (s : Shared) (σ : L2.St) (H : Hp) (z : Str) (u : Value) (Q : Option (List (Str × Value)) → Shared → Prop), Inv X pins σ H s → RelV (.str z) u →
  (∀ s', Inv X pins σ H s' → Q (if r z = true then some [] else none) s') → wpAny (model X.prog X.w) X.A (matchFirst ps X.env u) Q X.xe s
theorem pfs_nil : PFs X [] (fun _ => false) := by
  intro pins s σ H z u Q I ru hq
  exact wpAny_matchFirst_nil (hq s I)
theorem pfs_cons {p : Pattern} {ps : List Pattern} {r r' : Str → Bool} (h : PPt X p r) (h' : PFs X ps r') : PFs X (p :: ps) (fun z => r z || r' z) := by
  intro pins s σ H z u Q I ru hq
  refine wpAny_matchFirst_cons (h pins s σ H z u _ I ru fun s' I' => ?_)
  cases e : r z with
  | true =>
    rw [if_pos rfl]
    simpa [e] using hq s' I'
  | false =>
    rw [if_neg (by decide)]
    refine h' pins s' σ H z u Q I' ru fun s2 I2 => ?_
    simpa [e] using hq s2 I2
theorem ppt_or {ps : List Pattern} {r : Str → Bool} {pos : Pos} (h : PFs X ps r) (hn : (namesOfAll (ps.take 1)) = [] := by rfl) : PPt X (.MatchOr ps pos) r := by
  intro pins s σ H z u Q I ru hq
  refine wpAny_matchPattern_Or (h pins s σ H z u _ I ru fun s' I' => ?_)
  have := hq s' I'
  cases e : r z with
  | true =>
    rw [if_pos rfl]
    rw [e, if_pos rfl] at this
    simpa [hn] using this
  | false =>
    rw [if_neg (by decide)]
    rw [e, if_neg (by decide)] at this
    exact this
abbrev TM := Str → TS
structure PM (X : Cx) (cs : List MatchCase) (t : TM) : Prop where
  run : ∀ (first : Bool) (pins : List (Addr × Obj)) (s : Shared) (σ : L2.St) (H : Hp) (D : Ends) (z : Str) (u : Value), Inv X pins σ H s → RelV (.str z) u → t z D σ H → wpAny (model X.prog X.w) X.A (matchCases cs X.env u first) (SP X pins D) X.xe s
def mNil : TM := fun _ D σ H => D.nx σ H
theorem pm_nil : PM X [] mNil := ⟨fun _ _ s σ H D z u I _ h => wpAny_matchCases_nil ⟨σ, H, I, h⟩⟩
def mCons (r : Str → Bool) (t : TS) (m : TM) : TM := fun z D σ H => if r z = true then t D σ H else m z D σ H
theorem pm_cons {p : Pattern} {body : List Stmt} {rest : List MatchCase} {r : Str → Bool} {t : TS} {m : TM} (hp : PPt X p r) (hb : PSs X body t) (hr : PM X rest m) : PM X (⟨p, none, body⟩ :: rest) (mCons r t m) := by
  refine ⟨fun first pins s σ H D z u I ru h => ?_⟩
  refine wpAny_matchCases_cons (hp pins s σ H z u _ I ru fun s' I' => ?_)
  unfold mCons at h
  cases e : r z with
  | true =>
    rw [e, if_pos rfl] at h
    rw [if_pos rfl]
    exact wpAny_assignInOrder_none (hb.run pins s' σ H D I' h)
  | false =>
    rw [e, if_neg (by decide)] at h
    rw [if_neg (by decide)]
    exact hr.run false pins s' σ H D z u I' ru h
def mAny (t : TS) : TM := fun _ D σ H => t D σ H
theorem pm_any {body : List Stmt} {rest : List MatchCase} {t : TS} {pos : Pos} (hb : PSs X body t) : PM X (⟨.MatchAs none none pos, none, body⟩ :: rest) (mAny t) := by
  refine ⟨fun first pins s σ H D z u I ru h => ?_⟩
  refine wpAny_matchCases_cons (wpAny_matchPattern_Capture ?_)
  exact wpAny_assignInOrder_none (hb.run pins s σ H D I h)
theorem pm_one {body : List Stmt} {rest : List MatchCase} {w : Str} {k : Nat} {p1 p2 : Pos} {t : TS} {m : TM} (hb : PSs X body t) (hr : PM X rest m) : PM X (⟨.MatchValue (.Constant (.str w) k p1) p2, none, body⟩ :: rest) (mCons (fun z => decide (z = w)) t m) :=
  pm_cons ppt_val hb hr
theorem pm_or2 {body : List Stmt} {rest : List MatchCase} {w1 w2 : Str} {k1 k2 : Nat} {p1 p2 p3 p4 pos : Pos} {t : TS} {m : TM} (hb : PSs X body t) (hr : PM X rest m) :
    PM X (⟨.MatchOr [.MatchValue (.Constant (.str w1) k1 p1) p2, .MatchValue (.Constant (.str w2) k2 p3) p4] pos, none, body⟩ :: rest) (mCons (fun z => decide (z = w1) || (decide (z = w2) || false)) t m) :=
  pm_cons (ppt_or (pfs_cons ppt_val (pfs_cons ppt_val pfs_nil))) hb hr
theorem pm_or3 {body : List Stmt} {rest : List MatchCase} {w1 w2 w3 : Str} {k1 k2 k3 : Nat} {p1 p2 p3 p4 p5 p6 pos : Pos} {t : TS} {m : TM} (hb : PSs X body t) (hr : PM X rest m) :
    PM X (⟨.MatchOr [.MatchValue (.Constant (.str w1) k1 p1) p2, .MatchValue (.Constant (.str w2) k2 p3) p4, .MatchValue (.Constant (.str w3) k3 p5) p6] pos, none, body⟩ :: rest) (mCons (fun z => decide (z = w1) || (decide (z = w2) || (decide (z = w3) || false))) t m) :=
  pm_cons (ppt_or (pfs_cons ppt_val (pfs_cons ppt_val (pfs_cons ppt_val pfs_nil)))) hb hr
theorem pm_or4 {body : List Stmt} {rest : List MatchCase} {w1 w2 w3 w4 : Str} {k1 k2 k3 k4 : Nat} {p1 p2 p3 p4 p5 p6 p7 p8 pos : Pos} {t : TS} {m : TM} (hb : PSs X body t) (hr : PM X rest m) :
    PM X (⟨.MatchOr [.MatchValue (.Constant (.str w1) k1 p1) p2, .MatchValue (.Constant (.str w2) k2 p3) p4, .MatchValue (.Constant (.str w3) k3 p5) p6, .MatchValue (.Constant (.str w4) k4 p7) p8] pos, none, body⟩ :: rest) (mCons (fun z => decide (z = w1) || (decide (z = w2) || (decide (z = w3) || (decide (z = w4) || false)))) t m) :=
  pm_cons (ppt_or (pfs_cons ppt_val (pfs_cons ppt_val (pfs_cons ppt_val (pfs_cons ppt_val pfs_nil))))) hb hr
def sMatch (te : TE) (m : TM) : TS := fun D σ H => te σ H fun v H1 => match v with | .str z => m z D σ H1 | _ => False
theorem ps_match {e : Expr} {cs : List MatchCase} {te : TE} {m : TM} {pos : Pos} (he : PE X e te) (hm : PM X cs m) : PS X (.Match e cs pos) (sMatch te m) := by
  refine ⟨fun pins s σ H D I h => ?_⟩
  refine wpAny_Match (thn (he.run pins s σ H _ I h) fun u s1 hu => ?_)
  obtain ⟨v, H1, I1, rv, q⟩ := hu
  split at q
  · exact hm.run true pins s1 σ H1 D _ u I1 rv q
  · exact q.elim

theorem s_match {σ : L2.St} {H : Hp} {te : TE} {m : TM} {D : Ends} (h : te σ H fun v H1 => match v with | .str z => m z D σ H1 | _ => False) : sMatch te m D σ H := h
theorem s_mT {r : Str → Bool} {t : TS} {m : TM} {z : Str} {D : Ends} {σ : L2.St} {H : Hp} (e : r z = true) (h : t D σ H) : mCons r t m z D σ H := by unfold mCons; rw [if_pos e]; exact h
theorem s_mF {r : Str → Bool} {t : TS} {m : TM} {z : Str} {D : Ends} {σ : L2.St} {H : Hp} (e : r z = false) (h : m z D σ H) : mCons r t m z D σ H := by unfold mCons; rw [if_neg (by rw [e]; decide)]; exact h
def rPopU : V → List V → Hp → VK → Prop := fun x xs H Q => match x with
  | .ref l => (match H l with
    | some (.lst ys) => ∃ y, ys[ys.length - 1]? = some y ∧ xs = [] ∧ Q y (upd H l (.lst ys.dropLast))
    | _ => False)
  | _ => False
theorem uPop : MtR X "list.pop" rPopU := by
  intro pins s σ H x xs v us Q I rx rs h
  unfold rPopU at h
  split at h
  · split at h
    · rename_i hp
      obtain ⟨y, hy, rfl, q⟩ := h
      exact mt_pop pins s σ H _ _ v us Q I rx rs ⟨_, _, y, rfl, rfl, hp, hy, q⟩
    · exact h.elim
  · exact h.elim
theorem s_pop {H : Hp} {Q : VK} {l : Addr} {ys : List V} {y : V} (hp : H l = some (.lst ys)) (hy : ys[ys.length - 1]? = some y) (q : Q y (upd H l (.lst ys.dropLast))) : rPopU (.ref l) [] H Q := by
  simp only [rPopU, hp]
  exact ⟨y, hy, trivial, q⟩
def rExtU : V → List V → Hp → VK → Prop := fun x xs H Q => match x with
  | .ref l => (match xs with
    | [.ref b] => (match H l with
      | some (.lst ys) => (match H b with
        | some (.lst zs) => ys.length + zs.length ≤ sizeLine ∧ l ≠ b ∧ Q .non (upd H l (.lst (ys ++ zs)))
        | _ => False)
      | _ => False)
    | _ => False)
  | _ => False
theorem uExtend : MtR X "list.extend" rExtU := by
  intro pins s σ H x xs v us Q I rx rs h
  unfold rExtU at h
  split at h
  · split at h
    · split at h
      · rename_i hp
        split at h
        · rename_i hb
          exact mt_extend pins s σ H _ _ v us Q I rx rs ⟨_, _, _, _, rfl, rfl, hp, hb, h.1, h.2.2⟩
        · exact h.elim
      · exact h.elim
    · exact h.elim
  · exact h.elim
theorem s_ext {H : Hp} {Q : VK} {l b : Addr} {ys zs : List V} (hp : H l = some (.lst ys)) (hb : H b = some (.lst zs)) (hl : ys.length + zs.length ≤ sizeLine) (ne : l ≠ b) (q : Q .non (upd H l (.lst (ys ++ zs)))) : rExtU (.ref l) [.ref b] H Q := by
  simp only [rExtU, hp, hb]
  exact ⟨hl, ne, q⟩

theorem s_starT {σ : L2.St} {H : Hp} {K : PySem.W.Frag} {te : TE} {t : TA} {Q : List V → Hp → Prop} (h : te σ H fun y H1 => ∃ a xs, y = .ref a ∧ (SqT K H1 a xs ∨ SqL K H1 a xs) ∧ t σ H1 fun vs H2 => Q (xs ++ vs) H2) : StX.tStar K te t σ H Q := h
theorem s_starM {H : Hp} {K : PySem.W.Frag} {p : Addr} {xs : List V} {R : List V → Prop} (hp : H p = some (.tup xs)) (h : R xs) : ∃ a ys, V.ref p = .ref a ∧ (SqT K H a ys ∨ SqL K H a ys) ∧ R ys := ⟨p, xs, rfl, .inl (SqT.of hp), h⟩
end
end Tr
namespace Tr
open PySem PySem.Spec PyProof.Rows L2
section
variable {σ : L2.St} {H : Hp} {Q : VK} {K : PySem.W.Frag}
def LcGo (g : TG) (tt : TT) (te : TE) (vs : List Nat) (σ : L2.St) (Q : VK) (J : It) (H1 : Hp) : Prop := ∀ D, H1 D = none → ∃ W : Nat → Nat → Hp → Prop, (∃ m, W 0 m (upd H1 D (.lst []))) ∧ ∀ i m H, W i m H →
  (J.stop i H ∧ Q (.ref D) H) ∨ (J.go i H ∧ ∃ Nx : Hp → Prop, (∀ H', Nx H' → ∃ m', m' < m ∧ W (i + 1) m' H') ∧ ∀ x H', J.yld i H x H' → g x (wipe σ vs) H' fun σ2 H2 => wipe σ2 vs = wipe σ vs ∧ tt σ2 H2 fun b H3 =>
    if b = true then te σ2 H3 fun y H4 => ∃ acc, H4 D = some (.lst acc) ∧ acc.length < sizeLine ∧ Nx (upd H4 D (.lst (acc ++ [y]))) else Nx H3)
theorem s_lc {wi : TI} {g : TG} {tt : TT} {te : TE} {vs : List Nat} (h : wi σ H (LcGo g tt te vs σ Q)) : tLc wi g tt te vs σ H Q := h
def mList (K : PySem.W.Frag) (R : It → Hp → Prop) (x : V) (H1 : Hp) : Prop := ∃ a, x = .ref a ∧ (∃ xs, SqL K H1 a xs) ∧ R (Itl K a) H1
theorem s_ilist {tl : TE} {R : It → Hp → Prop} (h : tl σ H fun x H1 => mList K R x H1) : iList K tl σ H R := h
theorem s_lcM {α : Type} (ys : List α) (h : α → Option V) {p : Addr} {xs : List V} {g : TG} {tt : TT} {te : TE} {vs : List Nat} (hp : H p = some (.lst xs)) (hx : xs.length = ys.length) (hz : ys.length ≤ 100000)
    (hs : ∀ (i : Nat) (a : α) (x : V) (H2 : Hp) (R : VK) (R0 : Hp → Prop), ys[i]? = some a → xs[i]? = some x → Same H H2 → (∀ v, h a = some v → ∀ H4, Same H2 H4 → R v H4) → (h a = none → ∀ H3, Same H2 H3 → R0 H3) →
      g x (wipe σ vs) H2 fun σ2 H3 => wipe σ2 vs = wipe σ vs ∧ tt σ2 H3 fun b H4 => if b = true then te σ2 H4 R else R0 H4)
    (hd : ∀ D H', Same H H' → H D = none → H' D = some (.lst (ys.filterMap h)) → Q (.ref D) H') : mList K (LcGo g tt te vs σ Q) (.ref p) H := by
  refine ⟨p, rfl, ⟨xs, SqL.of hp⟩, fun D hD => ?_⟩
  refine lc_fm ys h (walk_list (xs := xs)) hx (sz_le hz) hD (fun H' s' => SqL.of (s' _ _ hp)) ?_ (fun H' s' hD' => hd D H' s' hD hD')
  rintro i b x H2 H' R R0 hb s2 ⟨rfl, hxx⟩ k1 k2
  exact hs i b x H' R R0 hb hxx s2 k1 k2
def ForGo (g : TG) (tb : TS) (D : Ends) (σ : L2.St) (J : It) (H1 : Hp) : Prop := ∃ W : Nat → Nat → L2.St → Hp → Prop, (∃ m, W 0 m σ H1) ∧ ∀ i m σ H, W i m σ H →
  (J.stop i H ∧ D.nx σ H) ∨ (J.go i H ∧ ∃ N : L2.St → Hp → Prop, (∀ σ' H', N σ' H' → ∃ m', m' < m ∧ W (i + 1) m' σ' H') ∧ ∀ x H', J.yld i H x H' → g x σ H' fun σ2 H2 => tb { D with nx := N, ct := N, bk := D.nx } σ2 H2)
theorem s_for {wi : TI} {g : TG} {tb : TS} {D : Ends} (h : wi σ H (ForGo g tb D σ)) : tFor wi g tb D σ H := h
theorem s_forL {p : Addr} {xs : List V} {g : TG} {tb : TS} {na : L2.St → Hp → Prop} {rt : VK} {bk ct : L2.St → Hp → Prop} (hp : H p = some (.lst xs)) (Pv : Nat → L2.St → Hp → Prop) (h0 : Pv 0 σ H)
    (hG : ∀ i σ H, i ≤ xs.length → Pv i σ H → H p = some (.lst xs))
    (hs : ∀ i x σ H, xs[i]? = some x → Pv i σ H → g x σ H fun σ2 H2 => tb ⟨Pv (i + 1), rt, na, Pv (i + 1)⟩ σ2 H2)
    (hd : ∀ σ H, Pv xs.length σ H → na σ H) : mList K (ForGo g tb ⟨na, rt, bk, ct⟩ σ) (.ref p) H :=
  ⟨p, rfl, ⟨xs, SqL.of hp⟩, for_list (K := K) (D := ⟨na, rt, bk, ct⟩) Pv h0 (fun i σ H hi pv => SqL.of (hG i σ H hi pv)) hs hd⟩
def mRng (R : It → Hp → Prop) (vs : List V) (H1 : Hp) : Prop := ∃ j : Int, vs = [.int j] ∧ -(2 ^ 62) ≤ j ∧ j < 2 ^ 62 ∧ R (Itr 0 j.toNat) H1
theorem s_irng {ta : TA} {R : It → Hp → Prop} (h : ta σ H fun vs H1 => mRng R vs H1) : iRng1 ta σ H R := h
theorem s_forR {n : Int} {g : TG} {tb : TS} {na : L2.St → Hp → Prop} {rt : VK} {bk ct : L2.St → Hp → Prop} (h0 : 0 ≤ n) (h1 : n ≤ 1000000) (Pv : Nat → L2.St → Hp → Prop) (p0 : Pv 0 σ H)
    (hs : ∀ (i : Nat) σ H, (i : Int) < n → Pv i σ H → g (.int (i : Int)) σ H fun σ2 H2 => tb ⟨Pv (i + 1), rt, na, Pv (i + 1)⟩ σ2 H2)
    (hd : ∀ σ H, Pv n.toNat σ H → na σ H) : mRng (ForGo g tb ⟨na, rt, bk, ct⟩ σ) [.int n] H := by
  refine ⟨n, rfl, by omega, by omega, for_range (lo := 0) (n := n.toNat) (D := ⟨na, rt, bk, ct⟩) Pv p0 (fun i σ H hi pv => ?_) hd⟩
  have e : (0 : Int) + (i : Int) = (i : Int) := Int.zero_add _
  rw [e]
  exact hs i σ H (by omega) pv
theorem s_lcR {n : Int} (h : Nat → Option V) {g : TG} {tt : TT} {te : TE} {vs : List Nat} (h0 : 0 ≤ n) (h1 : n ≤ 100000)
    (hs : ∀ (i : Nat) (H2 : Hp) (R : VK) (R0 : Hp → Prop), (i : Int) < n → Same H H2 → (∀ v, h i = some v → ∀ H4, Same H2 H4 → R v H4) → (h i = none → ∀ H3, Same H2 H3 → R0 H3) →
      g (.int (i : Int)) (wipe σ vs) H2 fun σ2 H3 => wipe σ2 vs = wipe σ vs ∧ tt σ2 H3 fun b H4 => if b = true then te σ2 H4 R else R0 H4)
    (hd : ∀ D H', Same H H' → H D = none → H' D = some (.lst ((List.range n.toNat).filterMap h)) → Q (.ref D) H') : mRng (LcGo g tt te vs σ Q) [.int n] H := by
  refine ⟨n, rfl, by omega, by omega, fun D hD => ?_⟩
  refine lc_fm (List.range n.toNat) h walk_range (by simp) (sz_le (by simp; omega)) hD (fun _ _ => trivial) ?_ (fun H' s' hD' => hd D H' s' hD hD')
  rintro i b x H2 H' R R0 hb s2 ⟨rfl, rfl⟩ k1 k2
  have hi : i < n.toNat := by
    have := (List.getElem?_eq_some_iff.mp hb).1
    simpa using this
  have eb : b = i := by
    have := (List.getElem?_eq_some_iff.mp hb).2
    simpa using this.symm
  subst eb
  have e : (0 : Int) + (b : Int) = (b : Int) := Int.zero_add _
  show g (V.int (0 + (b : Int))) (wipe σ vs) H' _
  rw [e]
  exact hs b H' R R0 (by omega) s2 k1 k2
end
theorem fm_some {α : Type} (f : α → V) : ∀ l : List α, l.filterMap (fun x => some (f x)) = l.map f
  | [] => rfl
  | x :: l => by simp [fm_some f l]
theorem s_any {H : Hp} {Q : VK} {p : Addr} {bs : List Bool} (hp : H p = some (.lst (bs.map V.bl))) (q : Q (.bl (bs.any id)) H) : rAnyU [.ref p] H Q := by
  simp only [rAnyU, hp]
  exact ⟨bs, rfl, q⟩
theorem s_all {H : Hp} {Q : VK} {p : Addr} {bs : List Bool} (hp : H p = some (.lst (bs.map V.bl))) (q : Q (.bl (bs.all id)) H) : rAllU [.ref p] H Q := by
  simp only [rAllU, hp]
  exact ⟨bs, rfl, q⟩
end Tr
set_option maxHeartbeats 1000000
namespace Tr
open PySem PySem.Spec PyProof.Rows L2
section
variable {σ : L2.St} {H : Hp} {Q : VK} {K : PySem.W.Frag}
/-- all that is no list stays -/
def KeepN (H H' : Hp) : Prop := ∀ x o, H x = some o → (∀ l, o ≠ .lst l) → H' x = some o
theorem KeepN.same {H H' : Hp} (s : Same H H') : KeepN H H' := fun x o h _ => s _ _ h
theorem KeepN.mut {H : Hp} {p : Addr} {l : List V} {o : HO} (hp : H p = some (.lst l)) : KeepN H (upd H p o) := fun x o' h hn => by
  rw [upd_ne (by rintro rfl; rw [hp] at h; exact hn l (Option.some.inj h).symm)]
  exact h
theorem KeepN.trans {H H' H'' : Hp} (a : KeepN H H') (b : KeepN H' H'') : KeepN H H'' := fun x o h hn => b _ _ (a _ _ h hn) hn
theorem s_lcE {α : Type} (ys : List α) (E : α → V → Hp → Prop) (hE : ∀ b v H H', E b v H → KeepN H H' → E b v H') {p : Addr} {xs : List V} {g : TG} {te : TE} {vs : List Nat} (hp : H p = some (.lst xs)) (hx : xs.length = ys.length) (hz : ys.length ≤ 100000)
    (hs : ∀ (i : Nat) (b : α) (x : V) (H2 : Hp) (R : VK), ys[i]? = some b → xs[i]? = some x → Same H H2 → (∀ v H4, Same H2 H4 → E b v H4 → R v H4) →
      g x (wipe σ vs) H2 fun σ2 H3 => wipe σ2 vs = wipe σ vs ∧ te σ2 H3 R)
    (hd : ∀ D us H', Same H H' → H D = none → H' D = some (.lst us) → us.length = ys.length → (∀ (i : Nat) (b : α) (v : V), ys[i]? = some b → us[i]? = some v → E b v H') → Q (.ref D) H') : mList K (LcGo g tYes te vs σ Q) (.ref p) H := by
  refine ⟨p, rfl, ⟨xs, SqL.of hp⟩, fun D hD => ?_⟩
  refine lc_it (walk_list (xs := xs)) (fun i H' => Same H H' ∧ ∃ us, H' D = some (.lst us) ∧ us.length = i ∧ ∀ (j : Nat) (b : α) (v : V), ys[j]? = some b → us[j]? = some v → E b v H') ⟨Same.new hD, [], upd_same, rfl, fun j b v _ h => by simp at h⟩ (fun i H' _ pv => SqL.of (pv.1 _ _ hp)) ?_ ?_
  · rintro i x H2 H' hi ⟨s2, us, hD2, hl, he⟩ ⟨rfl, hxx⟩
    obtain ⟨b, hb⟩ : ∃ b, ys[i]? = some b := ⟨_, List.getElem?_eq_getElem (by rw [← hx]; exact hi)⟩
    have := hs i b x H' (fun y H4 => ∃ acc, H4 D = some (.lst acc) ∧ acc.length < sizeLine ∧ (Same H (upd H4 D (.lst (acc ++ [y]))) ∧ ∃ us, upd H4 D (.lst (acc ++ [y])) D = some (.lst us) ∧ us.length = i + 1 ∧ ∀ (j : Nat) (b : α) (v : V), ys[j]? = some b → us[j]? = some v → E b v (upd H4 D (.lst (acc ++ [y]))))) hb hxx s2 ?_
    · have e : ∀ (a b : L2.St → Hp → Prop), (∀ σ H, a σ H = b σ H) → a = b := fun a b h => by funext σ H; exact h σ H
      have e2 : (fun σ2 H3 => wipe σ2 vs = wipe σ vs ∧ te σ2 H3 (fun y H4 => ∃ acc, H4 D = some (.lst acc) ∧ acc.length < sizeLine ∧ (Same H (upd H4 D (.lst (acc ++ [y]))) ∧ ∃ us, upd H4 D (.lst (acc ++ [y])) D = some (.lst us) ∧ us.length = i + 1 ∧ ∀ (j : Nat) (b : α) (v : V), ys[j]? = some b → us[j]? = some v → E b v (upd H4 D (.lst (acc ++ [y])))))) =
        (fun σ2 H3 => wipe σ2 vs = wipe σ vs ∧ tYes σ2 H3 fun b' H3 => if b' = true then te σ2 H3 (fun y H4 => ∃ acc, H4 D = some (.lst acc) ∧ acc.length < sizeLine ∧ (Same H (upd H4 D (.lst (acc ++ [y]))) ∧ ∃ us, upd H4 D (.lst (acc ++ [y])) D = some (.lst us) ∧ us.length = i + 1 ∧ ∀ (j : Nat) (b : α) (v : V), ys[j]? = some b → us[j]? = some v → E b v (upd H4 D (.lst (acc ++ [y]))))) else (Same H H3 ∧ ∃ us, H3 D = some (.lst us) ∧ us.length = i + 1 ∧ ∀ (j : Nat) (b : α) (v : V), ys[j]? = some b → us[j]? = some v → E b v H3)) := rfl
      rw [e2] at this
      exact this
    · intro v H4 s4 hv
      have hD4 := s4 _ _ hD2
      have k4 : KeepN H4 (upd H4 D (.lst (us ++ [v]))) := KeepN.mut hD4
      refine ⟨us, hD4, by rw [hl]; exact sz_lt (by omega), Same.mut (s2.trans s4) hD, us ++ [v], upd_same, by rw [List.length_append, hl]; rfl, fun j c u hc hu => ?_⟩
      by_cases hj : j < us.length
      · rw [List.getElem?_append_left hj] at hu
        exact hE _ _ _ _ (hE _ _ _ _ (he j c u hc hu) (KeepN.same s4)) k4
      · have hji : j = i := by
          have := (List.getElem?_eq_some_iff.mp hu).1
          simp at this
          omega
        subst hji
        rw [hb] at hc
        cases hc
        rw [← hl] at hu
        simp at hu
        subst hu
        exact hE _ _ _ _ hv k4
  · rintro H' ⟨s', us, h1, h2, h3⟩
    exact hd D us H' s' hD h1 (by rw [h2, hx]) h3
end
theorem s_dnewK {σ : L2.St} {H : Hp} {Q : VK} (h : ∀ p, H p = none → Q (.ref p) (upd H p (.dK []))) : tDNewK σ H Q := h
theorem nodup_ix {ad : List Addr} (nd : ad.Nodup) {i j : Nat} (hi : i < ad.length) (hj : j < ad.length) (e : ad[i] = ad[j]) : i = j := by
  rw [List.nodup_iff_pairwise_ne, List.pairwise_iff_getElem] at nd
  rcases Nat.lt_trichotomy i j with h | h | h
  · exact absurd e (nd i j hi hj h)
  · exact h
  · exact absurd e.symm (nd j i hj hi h)
def HasAll (H : Hp) (ad : List Addr) (os : List HO) : Prop := ad.length = os.length ∧ ∀ (i : Nat) (y : Addr) (o : HO), ad[i]? = some y → os[i]? = some o → H y = some o
theorem HasAll.at {H : Hp} {ad : List Addr} {os : List HO} (h : HasAll H ad os) (i : Nat) {y : Addr} {o : HO} (h1 : ad[i]? = some y) (h2 : os[i]? = some o) : H y = some o := h.2 i y o h1 h2
theorem HasAll.put {H : Hp} {ad : List Addr} {os : List HO} (h : HasAll H ad os) (nd : ad.Nodup) {j : Nat} {y : Addr} {o : HO} (hj : ad[j]? = some y) : HasAll (upd H y o) ad (os.set j o) := by
  refine ⟨by rw [List.length_set]; exact h.1, fun i z u h1 h2 => ?_⟩
  obtain ⟨hi, hi2⟩ := List.getElem?_eq_some_iff.mp h1
  obtain ⟨hj1, hj2⟩ := List.getElem?_eq_some_iff.mp hj
  by_cases e : i = j
  · subst e
    rw [hj] at h1
    cases h1
    rw [List.getElem?_set_self (by rw [← h.1]; exact hi)] at h2
    cases h2
    exact upd_same
  · rw [List.getElem?_set_ne (Ne.symm e)] at h2
    rw [upd_ne]
    · exact h.2 i z u h1 h2
    · rintro rfl
      exact e (nodup_ix nd hi hj1 (by rw [hi2, hj2]))
theorem HasAll.keep {H H' : Hp} {ad : List Addr} {os : List HO} (h : HasAll H ad os) (f : ∀ x o, H x = some o → x ∈ ad → H' x = some o) : HasAll H' ad os := ⟨h.1, fun i y o h1 h2 => f _ _ (h.2 i y o h1 h2) (List.mem_of_getElem? h1)⟩
/-- tuples stay -/
def KeepT (H H' : Hp) : Prop := ∀ x vs, H x = some (.tup vs) → H' x = some (.tup vs)
theorem KeepT.same {H H' : Hp} (s : Same H H') : KeepT H H' := fun x vs h => s _ _ h
theorem KeepT.trans {H H' H'' : Hp} (a : KeepT H H') (b : KeepT H' H'') : KeepT H H'' := fun x vs h => b _ _ (a _ _ h)
theorem KeepT.upd {H : Hp} {y : Addr} {o o' : HO} (h : H y = some o) (hn : ∀ vs, o ≠ .tup vs) : KeepT H (upd H y o') := fun x vs hx => by
  rw [upd_ne (by rintro rfl; rw [h] at hx; exact hn vs (Option.some.inj hx))]
  exact hx
/-- tuples with these items -/
def TupsAt (H : Hp) (xs : List Addr) (ys : List (List V)) : Prop := xs.length = ys.length ∧ ∀ (i : Nat) (x : Addr) (y : List V), xs[i]? = some x → ys[i]? = some y → H x = some (.tup y)
theorem TupsAt.keep {H H' : Hp} {xs : List Addr} {ys : List (List V)} (h : TupsAt H xs ys) (k : KeepT H H') : TupsAt H' xs ys := ⟨h.1, fun i x y h1 h2 => k _ _ (h.2 i x y h1 h2)⟩
theorem TupsAt.snoc {H : Hp} {xs : List Addr} {ys : List (List V)} (h : TupsAt H xs ys) {x : Addr} {y : List V} (hx : H x = some (.tup y)) : TupsAt H (xs ++ [x]) (ys ++ [y]) := by
  refine ⟨by rw [List.length_append, List.length_append, h.1]; rfl, fun i z u h1 h2 => ?_⟩
  by_cases hi : i < xs.length
  · rw [List.getElem?_append_left hi] at h1
    rw [List.getElem?_append_left (by rw [← h.1]; exact hi)] at h2
    exact h.2 i z u h1 h2
  · have e : i = xs.length := by
      have := (List.getElem?_eq_some_iff.mp h1).1
      simp at this
      omega
    subst e
    rw [h.1] at h2
    simp at h1 h2
    subst h1 h2
    exact hx
end Tr
set_option maxHeartbeats 1000000
namespace SrtO
open PySem PyProof.Rows Srt
section
variable {prog : Program} {w : World} {A : Around} {E : Value → Shared → Prop} {s : Shared}
def sv : Value → PySem.Str
  | .str i _ => i
  | _ => ⟨#[]⟩
def ltSv (v u : Value) : Bool := decide ((sv v).cps.toList < (sv u).cps.toList)
theorem swo_str : Swo ltSv := by
  refine ⟨fun x y h => ?_, fun x y z h1 h2 => ?_⟩
  · have a := of_decide_eq_true (p := (sv x).cps.toList < (sv y).cps.toList) h
    exact decide_eq_false (p := (sv y).cps.toList < (sv x).cps.toList) fun b => List.lt_irrefl _ (List.lt_trans a b)
  · have a := of_decide_eq_false (p := (sv y).cps.toList < (sv x).cps.toList) h1
    have b := of_decide_eq_false (p := (sv z).cps.toList < (sv y).cps.toList) h2
    refine decide_eq_false (p := (sv z).cps.toList < (sv x).cps.toList) fun c => ?_
    have a' : (sv x).cps.toList ≤ (sv y).cps.toList := List.not_lt.mp a
    have b' : (sv y).cps.toList ≤ (sv z).cps.toList := List.not_lt.mp b
    exact List.not_lt.mpr (List.le_trans a' b') c
theorem strs_mem : ∀ {vs : List Value} {ns : List PySem.Str}, StrsAre vs ns → ∀ v ∈ vs, ∃ i t, v = Value.str i t
  | _, _, .nil, v, h => absurd h (by simp)
  | _, _, .cons n t r, v, h => by
    rcases List.mem_cons.mp h with e | h
    · exact ⟨n, t, e⟩
    · exact strs_mem r v h
theorem strs_sv : ∀ {vs : List Value}, (∀ v ∈ vs, ∃ i t, v = Value.str i t) → StrsAre vs (vs.map sv)
  | [], _ => .nil
  | v :: vs, h => by
    obtain ⟨i, t, e⟩ := h v List.mem_cons_self
    subst e
    exact .cons i t (strs_sv fun u hu => h u (List.mem_cons_of_mem _ hu))
theorem sv_strs : ∀ {vs : List Value} {ns : List PySem.Str}, StrsAre vs ns → vs.map sv = ns
  | _, _, .nil => rfl
  | _, _, .cons n t r => congrArg (n :: ·) (sv_strs r)
theorem str_cmp {vs : List Value} {ns : List PySem.Str} (hI : StrsAre vs ns) : Cmp prog w A s oneType' (fun p => p.1 ∈ vs) (lt2 ltSv) := by
  intro p q hm hm'
  obtain ⟨a, t, e⟩ := strs_mem hI _ hm
  obtain ⟨b, u, e'⟩ := strs_mem hI _ hm'
  show wpAny (model prog w) A (keyLt' oneType' p.1 q.1) (fun r s' => s' = s ∧ r = ltSv p.1 q.1) (fun _ _ => False) s
  rw [e, e', keyLt'_oneType]
  exact oneLt_str ⟨rfl, rfl⟩
theorem strs_sortable {a : Addr} {vs : List Value} {ns : List PySem.Str} (hI : StrsAre vs ns) (h2 : 2 ≤ vs.length) : SortableO prog w A s a vs ltSv := by
  intro h' _
  refine ⟨oneType', fun Q E hq => ?_, str_cmp hI⟩
  match vs, hI, h2 with
  | v1 :: v2 :: rest, hI, _ =>
    rw [keyKind_strs hI]
    exact wpAny_pure hq
  | [], _, h => exact absurd h (by decide)
  | [v], _, h => exact absurd h (by simp)
theorem strs_out {vs out : List Value} {ns : List PySem.Str} (hI : StrsAre vs ns) (hs : Srtd ltSv out) (hb : Stb ltSv out vs) : StrsAre out (out.map sv) ∧ (out.map sv).Perm ns ∧ (out.map sv).Pairwise (fun x y => x.cps.toList ≤ y.cps.toList) := by
  refine ⟨strs_sv fun v hv => strs_mem hI v (hb.perm.mem_iff.mp hv), ?_, ?_⟩
  · have q := hb.perm.map sv
    rw [sv_strs hI] at q
    exact q
  · exact List.pairwise_map.mpr (hs.imp fun {x y} h => List.not_lt.mp (of_decide_eq_false (p := (sv y).cps.toList < (sv x).cps.toList) h))
end
end SrtO
namespace L2
open PySem PySem.Spec PyProof.Rows
/-- sorted(xs), texts, any number of them -/
def rSortedA (K : PySem.W.Frag) : List V → Hp → VK → Prop := fun vs H Q => ∃ (a : Addr) (ns : List Str), vs = [V.ref a] ∧ SqL K H a (ns.map V.str) ∧
  ∀ (ns' : List Str) (p : Addr), ns'.Perm ns → ns'.Pairwise (fun x y => x.cps.toList ≤ y.cps.toList) → H p = none → Q (.ref p) (upd H p (.lst (ns'.map V.str)))
section
variable {X : Cx}
theorem cr_sortedA : CallR X (.builtin "sorted") (rSortedA X.K) := by
  intro pins s σ H vs us Q I r h
  obtain ⟨a, ns, rfl, hs, q⟩ := h
  obtain ⟨its, rv, hl, hz⟩ := I.list hs
  rw [Vals.ref1 r]
  have hi := rv.strs
  refine SrtO.sorted_ord SrtO.swo_str hl.isList (by rw [← rv.length]; exact hz) (fun h2 h₁ a' _ _ => SrtO.strs_sortable hi h2) fun out h1 h2 => ?_
  obtain ⟨k1, k2, k3⟩ := SrtO.strs_out hi h1 h2
  obtain ⟨ep, he'⟩ := PyProof.Rows.sortedAll_at s.heap its out.toArray
  have hlen : ((out.map SrtO.sv).map V.str).length ≤ sizeLine := by
    rw [List.length_map, k2.length_eq]
    rw [List.length_map] at hz
    exact hz
  exact ⟨.ref _, upd H (s.heap.objs.size + 1) (.lst ((out.map SrtO.sv).map V.str)), I.laid (t' := s.toks) (fun _ _ => PyProof.Rows.sortedAll_old) (Nat.le_succ _) ⟨hlen, out, ep, vals_of_strs k1, he'⟩, rfl, q _ _ k2 k3 (I.hok.fresh (Nat.le_succ _))⟩
end
end L2
set_option maxHeartbeats 4000000

namespace Tr
open PySem L2
def top (i : Nat) : Stmt := PySem.Challenge.pw_trackedreads_k10_bounds_of_books.main.body.getD i (.Pass ⟨0, 0, 0, 0⟩)
abbrev s_is_word : Stmt := (top 12)
abbrev N_is_word : List Str := ["text", "sign"]
theorem sc_is_word : FnScope ["text", "sign"] ["text"] (defScope s_is_word) := ⟨rfl, rfl, rfl, by decide +kernel, rfl, by decide +kernel, by decide +kernel⟩
abbrev s_is_number : Stmt := (top 13)
abbrev N_is_number : List Str := ["text", "sign"]
theorem sc_is_number : FnScope ["text", "sign"] ["text"] (defScope s_is_number) := ⟨rfl, rfl, rfl, by decide +kernel, rfl, by decide +kernel, by decide +kernel⟩
abbrev s_words_of : Stmt := (top 14)
abbrev N_words_of : List Str := ["line", "words"]
theorem sc_words_of : FnScope ["line", "words"] ["line"] (defScope s_words_of) := ⟨rfl, rfl, rfl, by decide +kernel, rfl, by decide +kernel, by decide +kernel⟩
abbrev s_expression : Stmt := (top 15)
abbrev N_expression : List Str := ["words", "scope", "sources", "word"]
theorem sc_expression : FnScope ["words", "scope", "sources", "word"] ["words", "scope", "sources"] (defScope s_expression) := ⟨rfl, rfl, rfl, by decide +kernel, rfl, by decide +kernel, by decide +kernel⟩
abbrev s_comparison : Stmt := (top 16)
abbrev N_comparison : List Str := ["words", "scope", "sources", "at", "word", "first", "second"]
theorem sc_comparison : FnScope ["words", "scope", "sources", "at", "word", "first", "second"] ["words", "scope", "sources"] (defScope s_comparison) := ⟨rfl, rfl, rfl, by decide +kernel, rfl, by decide +kernel, by decide +kernel⟩

def keptWords : List Str := ["cell", "kept", "each", "effect", "handler", "let", "set", "tell", "note", "give", "if", "else", "end", "quiet", "batch", "wait", "peek"]
def letters : Str := "abcdefghijklmnopqrstuvwxyz"
def digits : Str := "0123456789"
structure Tx (K : PySem.W.Frag) (mg : Str → Option Value) (a : Nat → Addr) (fd : Nat → FuncData) (tk : Nat → Tok) : Prop where
  b_len : mg "len" = none
  b_all : mg "all" = none
  b_int : mg "int" = none
  b_str : mg "str" = none
  b_isinstance : mg "isinstance" = none
  b_enumerate : mg "enumerate" = none
  c_LONGEST_WORD : mg "LONGEST_WORD" = some (.int 8 (tk 0))
  c_LONGEST_NUMBER : mg "LONGEST_NUMBER" = some (.int 30 (tk 1))
  c_LETTERS : mg "LETTERS" = some (.str letters (tk 2))
  c_DIGITS : mg "DIGITS" = some (.str digits (tk 3))
  c_KEPT_WORDS : mg "KEPT_WORDS" = some (.ref (a 0))
  w_KEPT_WORDS : ∀ H, SqT K H (a 0) (keptWords.map V.str)
  g_is_word : mg "is_word" = some (.ref (a 1))
  F_is_word : Fun K "is_word" "is_word" s_is_word (a 1) (fd 1)
  g_is_number : mg "is_number" = some (.ref (a 2))
  F_is_number : Fun K "is_number" "is_number" s_is_number (a 2) (fd 2)
  g_words_of : mg "words_of" = some (.ref (a 3))
  F_words_of : Fun K "words_of" "words_of" s_words_of (a 3) (fd 3)
  g_expression : mg "expression" = some (.ref (a 4))
  F_expression : Fun K "expression" "expression" s_expression (a 4) (fd 4)
  g_comparison : mg "comparison" = some (.ref (a 5))
  F_comparison : Fun K "comparison" "comparison" s_comparison (a 5) (fd 5)
def isWord (t : Str) : Bool := (decide (1 ≤ t.length) && decide (t.length ≤ 8)) && !(keptWords.contains t) && t.cps.toList.all (fun c => decide (c ∈ letters.cps.toList))
def spIsWord : Sp := fun vs H Q _ => ∃ t : Str, vs = [.str t] ∧ t.length ≤ sizeLine ∧ ∀ H', Same H H' → Q (.bl (isWord t)) H'
def isNumber (t : Str) : Bool := (decide (1 ≤ t.length) && decide (t.length ≤ 30)) && (if t.cps[0]? = some 48 then decide (t = "0") else t.cps.toList.all (fun c => decide (c ∈ digits.cps.toList)))
def spIsNumber : Sp := fun vs H Q _ => ∃ t : Str, vs = [.str t] ∧ t.length ≤ sizeLine ∧ ∀ H', Same H H' → Q (.bl (isNumber t)) H'
section
variable {P : Program} {w : World} {K : PySem.W.Frag} {mg : Str → Option Value} {base : Heap} {a : Nat → Addr} {fd : Nat → FuncData} {tk : Nat → Tok}
local macro_rules | `(tactic| walk_at "ne") => `(tactic| first | assumption | (exact Ne.symm (by assumption)) | (refine ne_of_none (by assumption) (by assumption)) | (refine Ne.symm (ne_of_none (by assumption) (by assumption))))
local macro_rules | `(tactic| walk_at "hl") => `(tactic| first | assumption | with_reducible exact upd_same | ((with_reducible refine' Eq.trans (upd_ne ?hne) ?hrest); (case hne => walk_at "ne"); (case hrest => walk_at "hl")) | (refine' get_same ?hs ?hg; (case hs => assumption); (case hg => assumption)))
local macro_rules | `(tactic| walk_at "at") => `(tactic| first | with_reducible exact atI_0 _ _ | with_reducible exact atI_1 _ _ _ | with_reducible exact atI_2 _ _ _ _ | with_reducible exact atI_3 _ _ _ _ _ | assumption)
local macro_rules | `(tactic| walk_at "rd1") => `(tactic| first
  | with_reducible refine s_seq ?_ | with_reducible refine s_next ?_ | with_reducible refine s_if ?_ | with_reducible refine s_ret ?_ | with_reducible refine s_retN ?_ | with_reducible refine s_drop ?_ | with_reducible refine s_asg ?_ | with_reducible refine s_brk ?_ | with_reducible refine s_cont ?_
  | with_reducible refine s_gname ?_ | with_reducible refine s_c ?_ | with_reducible refine s_op ?_ | with_reducible refine s_un ?_ | with_reducible refine s_neg ?_ | with_reducible refine s_test ?_ | with_reducible refine s_tb ?_ | with_reducible refine s_not ?_ | with_reducible refine s_and ?_ | with_reducible refine s_or ?_ | with_reducible refine s_yes ?_
  | ((with_reducible refine' s_var ?hv ?_); (case hv => exact rfl))
  | with_reducible refine s_ifx ?_ | with_reducible refine s_andV ?_ | with_reducible refine s_orV ?_ | with_reducible refine s_notV ?_ | with_reducible refine s_chain ?_ | with_reducible refine s_nil ?_ | with_reducible refine s_cons ?_ | with_reducible refine s_lst ?_ | with_reducible refine s_tup ?_ | with_reducible refine s_cb ?_ | with_reducible refine s_call ?_ | with_reducible refine s_meth ?_ | with_reducible refine s_make ?_
  | with_reducible refine s_dnewK ?_ | with_reducible refine s_sl ?_ | with_reducible refine s_po0 ?_ | with_reducible refine s_po1 ?_ | with_reducible refine s_bm ?_ | with_reducible refine s_bm0 ?_
  | with_reducible refine s_bl ?_ | with_reducible refine s_int ?_ | with_reducible refine s_I0 ?_ | with_reducible refine s_addI ?_ | with_reducible refine s_intI ?_ | with_reducible refine s_intB ?_
  | with_reducible refine s_m1 ?_ | with_reducible refine s_lc ?_ | with_reducible refine s_ilist ?_ | with_reducible refine s_for ?_ | with_reducible refine s_irng ?_ | with_reducible refine s_match ?_ | with_reducible refine s_starT ?_ | with_reducible refine s_isS ?_ | with_reducible refine s_isiSS ?_ | with_reducible refine s_fldU ?_ | with_reducible refine s_sfldU ?_
  | ((with_reducible refine' s_eqS ?hq ?_); (case hq => exact rfl)) | ((with_reducible refine' s_neS ?hq ?_); (case hq => exact rfl))
  | ((with_reducible refine' s_isN ?hq ?_); (case hq => exact rfl)) | ((with_reducible refine' s_notN ?hq ?_); (case hq => exact rfl))
  | ((with_reducible refine' s_eqNil ?h1 ?h2 ?_); (case h1 => walk_at "hl"); (case h2 => walk_at "hl")) | ((with_reducible refine' s_neNil ?h1 ?h2 ?_); (case h1 => walk_at "hl"); (case h2 => walk_at "hl"))
  | ((with_reducible refine' s_ixL ?h1 ?h2 ?_); (case h1 => walk_at "hl"); (case h2 => walk_at "at")) | ((with_reducible refine' s_ixT ?h1 ?h2 ?_); (case h1 => walk_at "hl"); (case h2 => walk_at "at"))
  | ((with_reducible refine' s_inS ?h1 ?_); (case h1 => walk_at "hl")) | ((with_reducible refine' s_ninS ?h1 ?_); (case h1 => walk_at "hl")) | with_reducible refine s_inW ?_
  | ((with_reducible refine' s_lenL ?h1 ?_); (case h1 => walk_at "hl")) | ((with_reducible refine' s_lenT ?h1 ?_); (case h1 => walk_at "hl"))
  | ((with_reducible refine' s_tyL ?h1 ?_); (case h1 => walk_at "hl"))
  | ((with_reducible refine' s_fldM ?h1 ?h2 ?h3 ?_); (case h1 => walk_at "hl"); (case h2 => walk_at "fok"); (case h3 => walk_at "flk"))
  | ((with_reducible refine' s_setM ?h1 ?h2 ?h3 ?h4 ?_); (case h1 => walk_at "hl"); (case h2 => walk_at "fok"); (case h4 => walk_at "put"); (case h3 => exact Nat.le_of_ble_eq_true rfl))
  | ((with_reducible refine' s_starM ?h1 ?_); (case h1 => walk_at "hl"))
  | ((with_reducible refine' s_recv ?h1 ?h2 ?_); (case h1 => walk_at "hl"); (case h2 => exact rfl))
  | ((with_reducible refine' s_sz ?h1 ?_); (case h1 => (simp; done))))
local macro_rules | `(tactic| walk_at "rd") => `(tactic| repeat (walk_at "rd1"))
local macro_rules | `(tactic| walk_at "fok") => `(tactic| assumption)
local macro_rules | `(tactic| walk_at "flk") => `(tactic| rfl)
local macro_rules | `(tactic| walk_at "put") => `(tactic| exact rfl)

/-- all([c in LETTERS for c in text]) -/
theorem all_in {σ : L2.St} {H : Hp} {Q : VK} {z t : Str} (hz : t.length ≤ sizeLine) (h0 : σ[0]? = some (some (.str t))) (h1 : wipe σ [1] = [some (.str t), none]) (hq : ∀ H', Same H H' → Q (.bl (t.cps.toList.all fun c => decide (c ∈ z.cps.toList))) H') :
    tLc (iStr (tVar 0)) (gName 1) tYes (tOp (rInU K false) (tVar 1) (tC (V.str z))) [1] σ H fun x H1 => rAllU [x] H1 Q := by
  refine ⟨_, h0, t, rfl, fun D hD => ?_⟩
  have hl : t.cps.size = t.cps.toList.length := by simp
  refine lc_fm t.cps.toList (fun c => some (.bl (decide (c ∈ z.cps.toList)))) walk_str hl (by rw [← hl]; exact hz) hD (fun _ _ => trivial) ?_ ?_
  · rintro i c x H2 H' R R0 hc s2 ⟨rfl, c', hc', rfl⟩ k1 k2
    have e : c' = c := by
      have : t.cps[i]? = some c := by simpa using hc
      rw [hc'] at this
      exact Option.some.inj this
    subst e
    rw [h1]
    refine ⟨by rfl, ?_⟩
    show (if true = true then tOp (rInU K false) (tVar 1) (tC (V.str z)) [some (.str t), some (.str ⟨#[c']⟩)] H' R else R0 H')
    rw [if_pos rfl]
    exact ⟨_, rfl, c', rfl, k1 _ rfl _ (Same.refl _)⟩
  · intro H' s' hD'
    have e : t.cps.toList.filterMap (fun c => some (V.bl (decide (c ∈ z.cps.toList)))) = (t.cps.toList.map fun c => decide (c ∈ z.cps.toList)).map V.bl := by
      rw [List.map_map]
      induction t.cps.toList with
      | nil => rfl
      | cons a l ih => simp
    rw [e] at hD'
    show rAllU [.ref D] H' Q
    unfold rAllU
    simp only [hD']
    refine ⟨_, rfl, ?_⟩
    rw [List.all_map]
    exact hq H' s'
theorem ok_is_word (T : Tx K mg a fd tk) : FnOk P w K mg base CX0 1 (a 1) (fd 1) ["text"] spIsWord := by
  refine T.F_is_word.ok sc_is_word (fun vs H Q E h => ?_) (fun cdv A outer s H vs Q E hr h => ?_)
  · obtain ⟨t, rfl, _⟩ := h
    rfl
  · obtain ⟨t, rfl, hl, k⟩ := h
    have hw : ∀ b, isWord t = b → ∀ H', Same H H' → Q (.bl b) H' := fun b e H' s' => e ▸ k H' s'
    refine ⟨_, (pss_cons (ps_if (PW.pt (pw_or (pt_not (pt_chain op_le op_le pe_int (pe_callB uLen (by rfl) T.b_len bt_len (pa_cons (pv 0) pa_nil)) (pe_gI (by rfl) T.c_LONGEST_WORD))) (pw_or1 (pt_cmpR (uInW T.w_KEPT_WORDS (flat_strs _)) (pv 0) (pe_gR (by rfl) T.c_KEPT_WORDS) (by rfl))))) (pss_one (ps_ret pe_bl)) pss_nil)
  (pss_one (ps_ret (pe_callB (uAll rfl) (by rfl) T.b_all bt_all (pa_cons (pe_lc (own := [("sign", 1)]) rfl sc_is_word.nd (pi_str (pv 0)) (blkOk_by (N := N_is_word) (sc := defScope s_is_word) (by decide +kernel)) (fun _ _ _ _ _ => (pg_name (i := 1) sc_is_word.nd rfl (by first | exact Or.inl rfl | exact Or.inr rfl))) (fun _ _ _ _ _ => pts_nil) (fun _ _ _ _ _ => (pe_cmpR (uIn K) (pv 1) (pe_gS (by rfl) T.c_LETTERS) (by rfl)))) pa_nil))))), ?_⟩
    walk_at "rd"
    refine s_lenS hl ?_
    walk_at "rd"
    refine ifB (fun c1 => ?_) (fun c1 => ?_)
    · walk_at "rd"
      refine ifB (fun c2 => ?_) (fun c2 => ?_)
      · walk_at "rd"
        exact hw _ (by simp only [isWord]; simp at c1 c2; simp [c2]; omega) _ (Same.refl _)
      · walk_at "rd"
        refine ifB (fun c3 => ?_) (fun c3 => ?_)
        · walk_at "rd"
          exact hw _ (by simp only [isWord, c3, Bool.not_true, Bool.and_false, Bool.false_and]) _ (Same.refl _)
        · walk_at "rd"
          refine all_in hl rfl rfl fun H' s' => hw _ ?_ H' s'
          simp only [isWord, c3, Bool.not_false, Bool.and_true]
          simp at c1 c2
          have d1 : 1 ≤ t.length := by omega
          have d2 : t.length ≤ 8 := by omega
          simp [d1, d2]
    · walk_at "rd"
      refine ifT rfl ?_
      walk_at "rd"
      exact hw _ (by simp only [isWord]; simp at c1; simp; omega) _ (Same.refl _)
theorem ok_is_number (T : Tx K mg a fd tk) : FnOk P w K mg base CX0 1 (a 2) (fd 2) ["text"] spIsNumber := by
  refine T.F_is_number.ok sc_is_number (fun vs H Q E h => ?_) (fun cdv A outer s H vs Q E hr h => ?_)
  · obtain ⟨t, rfl, _⟩ := h
    rfl
  · obtain ⟨t, rfl, hl, k⟩ := h
    have hw : ∀ b, isNumber t = b → ∀ H', Same H H' → Q (.bl b) H' := fun b e H' s' => e ▸ k H' s'
    refine ⟨_, (pss_cons (ps_if (pt_not (pt_chain op_le op_le pe_int (pe_callB uLen (by rfl) T.b_len bt_len (pa_cons (pv 0) pa_nil)) (pe_gI (by rfl) T.c_LONGEST_NUMBER))) (pss_one (ps_ret pe_bl)) pss_nil)
  (pss_cons (ps_if (pt_cmpR (uEq K hr.units) (pe_ix uIx (pv 0) pe_int (fun _ _ => rfl)) pe_str (nomark _)) (pss_one (ps_ret (pe_cmpR (uEq K hr.units) (pv 0) pe_str (nomark _)))) pss_nil)
  (pss_one (ps_ret (pe_callB (uAll rfl) (by rfl) T.b_all bt_all (pa_cons (pe_lc (own := [("sign", 1)]) rfl sc_is_number.nd (pi_str (pv 0)) (blkOk_by (N := N_is_number) (sc := defScope s_is_number) (by decide +kernel)) (fun _ _ _ _ _ => (pg_name (i := 1) sc_is_number.nd rfl (by first | exact Or.inl rfl | exact Or.inr rfl))) (fun _ _ _ _ _ => pts_nil) (fun _ _ _ _ _ => (pe_cmpR (uIn K) (pv 1) (pe_gS (by rfl) T.c_DIGITS) (by rfl)))) pa_nil)))))), ?_⟩
    walk_at "rd"
    refine s_lenS hl ?_
    walk_at "rd"
    refine ifB (fun c1 => ?_) (fun c1 => ?_)
    · walk_at "rd"
      have d1 : 1 ≤ t.length := by simp at c1; omega
      refine ifB (fun c2 => ?_) (fun c2 => ?_)
      · walk_at "rd"
        exact hw _ (by simp only [isNumber]; simp at c2; have : ¬ t.length ≤ 30 := by omega
                       simp [this]) _ (Same.refl _)
      · walk_at "rd"
        have d2 : t.length ≤ 30 := by simp at c2; omega
        have h0 : 0 < t.cps.size := d1
        have hc : t.cps[0]? = some t.cps[0] := by simp [h0]
        refine s_ixS hl (k := t.cps[0]) (atI_nat (j := 0) (by simpa using hc)) ?_
        walk_at "rd"
        have e0 : decide (V.str { cps := #[t.cps[0]] } = V.str "0") = decide (t.cps[0] = 48) := by
          refine decide_eq_decide.mpr ⟨fun e => ?_, fun e => by rw [e]; rfl⟩
          have e1 : ({ cps := #[t.cps[0]] } : Str) = "0" := by injection e
          have e2 := congrArg (fun z : Str => z.cps.toList) e1
          have e3 : [t.cps[0]] = [48] := e2
          simpa using e3
        rw [e0]
        refine ifB (fun c3 => ?_) (fun c3 => ?_)
        · walk_at "rd"
          have d3 : t.cps[0] = 48 := by simpa using c3
          refine hw _ ?_ _ (Same.refl _)
          simp only [isNumber, d1, d2, hc, d3, decide_true, Bool.true_and, if_true]
          exact decide_eq_decide.mpr ⟨fun e => by rw [e], fun e => by injection e⟩
        · walk_at "rd"
          have d3 : ¬ t.cps[0] = 48 := by simpa using c3
          refine all_in hl rfl rfl fun H' s' => hw _ ?_ H' s'
          simp only [isNumber, d1, d2, hc, d3, decide_true, Bool.true_and, Option.some.injEq, if_false]
    · walk_at "rd"
      refine ifT rfl ?_
      walk_at "rd"
      exact hw _ (by simp only [isNumber]; simp at c1; simp; omega) _ (Same.refl _)
theorem b_is_word (T : Tx K mg a fd tk) : Binds K (fd 1) ["text"] [] := T.F_is_word.binds fun _ _ _ _ _ _ us hl => match us, hl with | [_], _ => rfl
theorem b_is_number (T : Tx K mg a fd tk) : Binds K (fd 2) ["text"] [] := T.F_is_number.binds fun _ _ _ _ _ _ us hl => match us, hl with | [_], _ => rfl
/-- the words of a line -/
def wordsOf (z : Str) : List Str := if (Txt.split z " ").contains "" then [] else Txt.split z " "
/-- no text: None, a truth value, an int, a list, a tuple -/
def NonStr (H : Hp) (v : V) : Prop := v = .non ∨ (∃ b, v = .bl b) ∨ (∃ i, v = .int i) ∨ ∃ p xs, v = .ref p ∧ (H p = some (.lst xs) ∨ H p = some (.tup xs))
theorem NonStr.same {H H' : Hp} {v : V} (h : NonStr H v) (s : Same H H') : NonStr H' v := by
  rcases h with h | h | h | ⟨p, xs, e, h⟩
  · exact .inl h
  · exact .inr (.inl h)
  · exact .inr (.inr (.inl h))
  · exact .inr (.inr (.inr ⟨p, xs, e, h.imp (s _ _) (s _ _)⟩))
theorem s_isiNS {H : Hp} {v : V} {Q : VK} (h : NonStr H v) (q : Q (.bl false) H) : rIsi K [v, .ty "str"] H Q := by
  rcases h with rfl | ⟨b, rfl⟩ | ⟨i, rfl⟩ | ⟨p, xs, rfl, h | h⟩
  · exact ⟨_, _, _, _, false, rfl, .ty _, .base .non, kit_ty (by decide +kernel), q⟩
  · exact ⟨_, _, _, _, false, rfl, .ty _, .base (.bl b), kit_ty (by decide +kernel), q⟩
  · exact ⟨_, _, _, _, false, rfl, .ty _, .base (.int i), kit_ty (by decide +kernel), q⟩
  · exact ⟨_, _, _, _, false, rfl, .ty _, .base (.lst h), kit_ty (by decide +kernel), q⟩
  · exact ⟨_, _, _, _, false, rfl, .ty _, .base (.tup h), kit_ty (by decide +kernel), q⟩
def spWordsOf : Sp := fun vs H Q _ => (∃ z : Str, vs = [.str z] ∧ z.length ≤ 100000 ∧ ∀ l H', Same H H' → H l = none → H' l = some (.lst ((wordsOf z).map V.str)) → Q (.ref l) H') ∨
  ∃ v, vs = [v] ∧ NonStr H v ∧ ∀ l H', Same H H' → H l = none → H' l = some (.lst []) → Q (.ref l) H'
theorem ok_words_of (T : Tx K mg a fd tk) : FnOk P w K mg base CX0 1 (a 3) (fd 3) ["line"] spWordsOf := by
  refine T.F_words_of.ok sc_words_of (fun vs H Q E h => ?_) (fun cdv A outer s H vs Q E hr h => ?_)
  · rcases h with ⟨t, rfl, _⟩ | ⟨t, rfl, _⟩ <;> rfl
  · rcases h with ⟨z, rfl, hl, k⟩ | ⟨v, rfl, hv, k⟩
    rotate_left
    · refine ⟨_, (pss_cons (ps_if (pt_not (pt_val (pe_callB call_isi (by rfl) T.b_isinstance bt_isinstance (pa_cons (pv 0) (pa_cons (pe_bltn (v := .ty "str") (by rfl) T.b_str bt_str rfl) pa_nil))))) (pss_one (ps_ret (pe_lst pa_nil))) pss_nil)
  (pss_cons (ps_asg (pe_split (pv 0) pe_str) (pg_name (i := 1) sc_words_of.nd rfl (by first | exact Or.inl rfl | exact Or.inr rfl)))
  (pss_one (ps_ret (pe_ifExp (pt_cmpR (uIn K) pe_str (pv 1) (by rfl)) (pe_lst pa_nil) (pv 1)))))), ?_⟩
      walk_at "rd"
      refine s_isiNS hv ?_
      walk_at "rd"
      refine ifT rfl ?_
      walk_at "rd"
      exact fun q hq => k q _ (Same.new hq) hq upd_same
    refine ⟨_, (pss_cons (ps_if (pt_not (pt_val (pe_callB call_isi (by rfl) T.b_isinstance bt_isinstance (pa_cons (pv 0) (pa_cons (pe_bltn (v := .ty "str") (by rfl) T.b_str bt_str rfl) pa_nil))))) (pss_one (ps_ret (pe_lst pa_nil))) pss_nil)
  (pss_cons (ps_asg (pe_split (pv 0) pe_str) (pg_name (i := 1) sc_words_of.nd rfl (by first | exact Or.inl rfl | exact Or.inr rfl)))
  (pss_one (ps_ret (pe_ifExp (pt_cmpR (uIn K) pe_str (pv 1) (by rfl)) (pe_lst pa_nil) (pv 1)))))), ?_⟩
    walk_at "rd"
    refine ifF rfl ?_
    walk_at "rd"
    refine s_split rfl (Nat.le_trans (Nat.add_le_add_right hl 2) (by decide)) fun p hp => ?_
    walk_at "rd"
    refine ifB (fun c1 => ?_) (fun c1 => ?_)
    · walk_at "rd"
      refine fun q hq => ?_
      obtain ⟨n1, n2⟩ := upd_none hq
      refine k q _ (Same.mut (Same.new hp) n2) n2 ?_
      rw [upd_same]
      simp only [wordsOf, c1, if_true, List.map_nil]
    · walk_at "rd"
      refine k p _ (Same.new hp) hp ?_
      rw [upd_same]
      simp only [wordsOf, c1, Bool.false_eq_true, if_false]
/-- what an expression is -/
inductive Ex where
  | num (n : Int) | loc (x : Str) | read (x : Str) | peek (x : Str)
def exV : Ex → List V
  | .num n => [.str "number", .int n]
  | .loc x => [.str "local", .str x]
  | .read x => [.str "read", .str x]
  | .peek x => [.str "peek", .str x]
def intOf (z : Str) : Int := (PySem.intText? z).getD 0
def exprOf (ws scope sources : List Str) : Option Ex :=
  match ws with
  | [x] => if isNumber x then some (.num (intOf x)) else if scope.contains x then some (.loc x) else if sources.contains x then some (.read x) else none
  | [p, x] => if p = "peek" ∧ sources.contains x = true then some (.peek x) else none
  | _ => none
/-- what expression gives: None, or a new tuple -/
def ExAt (H H' : Hp) (v : V) : Option Ex → Prop
  | none => v = .non
  | some e => ∃ t, v = .ref t ∧ H t = none ∧ H' t = some (.tup (exV e))
def spExpression : Sp := fun vs H Q _ => ∃ (p q r : Addr) (ws scope sources : List Str), vs = [.ref p, .ref q, .ref r] ∧ H p = some (.lst (ws.map V.str)) ∧ H q = some (.lst (scope.map V.str)) ∧ H r = some (.lst (sources.map V.str)) ∧
  (∀ z ∈ ws, z.length ≤ 100000) ∧ (∀ z ∈ ws, isNumber z = true → ∃ n, PySem.intText? z = some n) ∧ ∀ v H', Same H H' → ExAt H H' v (exprOf ws scope sources) → Q v H'
theorem ok_expression (T : Tx K mg a fd tk) : FnOk P w K mg base CX0 2 (a 4) (fd 4) ["words", "scope", "sources"] spExpression := by
  refine T.F_expression.ok sc_expression (fun vs H Q E h => ?_) (fun cdv A outer s H vs Q E hr h => ?_)
  · obtain ⟨p, q, r, ws, scope, sources, rfl, _⟩ := h
    rfl
  · obtain ⟨p, q, r, ws, scope, sources, rfl, hp, hq, hr', hz, hn, k⟩ := h
    refine ⟨_, (pss_cons (ps_if (pt_cmpR (uEq K hr.units) (pe_callB uLen (by rfl) T.b_len bt_len (pa_cons (pv 0) pa_nil)) pe_int (nomark _)) (pss_cons (ps_asg (pe_ix uIx (pv 0) pe_int (fun _ _ => rfl)) (pg_name (i := 3) sc_expression.nd rfl (by first | exact Or.inl rfl | exact Or.inr rfl)))
  (pss_cons (ps_if (pt_val (pe_call (ok_is_number T) (hr.mono (by decide)) (by rfl) T.g_is_number T.F_is_number.kp (b_is_number T) .nil pass0 (pa_cons (pv 3) pa_nil))) (pss_one (ps_ret (pe_tup (pa_cons pe_str (pa_cons (pe_callTy uInt (by rfl) T.b_int bt_int (pa_cons (pv 3) pa_nil)) pa_nil))))) pss_nil)
  (pss_cons (ps_if (pt_cmpR (uIn K) (pv 3) (pv 1) (by rfl)) (pss_one (ps_ret (pe_tup (pa_cons pe_str (pa_cons (pv 3) pa_nil))))) pss_nil)
  (pss_one (ps_ret (pe_ifExp (pt_cmpR (uIn K) (pv 3) (pv 2) (by rfl)) (pe_tup (pa_cons pe_str (pa_cons (pv 3) pa_nil))) pe_non)))))) pss_nil)
  (pss_cons (ps_if (PW.pt (pw_and (pt_cmpR (uEq K hr.units) (pe_callB uLen (by rfl) T.b_len bt_len (pa_cons (pv 0) pa_nil)) pe_int (nomark _)) (pw_and (pt_cmpR (uEq K hr.units) (pe_ix uIx (pv 0) pe_int (fun _ _ => rfl)) pe_str (nomark _)) (pw_and1 (pt_cmpR (uIn K) (pe_ix uIx (pv 0) pe_int (fun _ _ => rfl)) (pv 2) (by rfl)))))) (pss_one (ps_ret (pe_tup (pa_cons pe_str (pa_cons (pe_ix uIx (pv 0) pe_int (fun _ _ => rfl)) pa_nil))))) pss_nil)
  (pss_one (ps_ret pe_non)))), ?_⟩
    walk_at "rd"
    match ws, hp, hz, hn, k with
    | [], hp, hz, hn, k =>
      refine ifF (by rfl) ?_
      walk_at "rd"
      refine ifF (by rfl) ?_
      walk_at "rd"
      refine ifF (by rfl) ?_
      walk_at "rd"
      exact k _ _ (Same.refl _) rfl
    | [x], hp, hz, hn, k =>
      refine ifT (by rfl) ?_
      have hp' : H p = some (.lst [.str x]) := hp
      walk_at "rd"
      refine ⟨x, rfl, sz_le (hz x (by simp)), fun H' s' => ?_⟩
      walk_at "rd"
      have hk : ∀ e, exprOf [x] scope sources = e → ∀ v H', Same H H' → ExAt H H' v e → Q v H' := fun e ee v H' s1 ea => k v H' s1 (by rw [ee]; exact ea)
      refine ifB (fun c1 => ?_) (fun c1 => ?_)
      · walk_at "rd"
        obtain ⟨n, en⟩ := hn x (by simp) c1
        have hx : x.length ≤ 30 := by
          simp only [isNumber, Bool.and_eq_true, decide_eq_true_eq] at c1
          exact c1.1.2
        refine s_intS en (by omega) ?_
        walk_at "rd"
        refine fun t ht => ?_
        refine hk (some (.num n)) (by simp [exprOf, c1, intOf, en]) _ _ (s'.trans (Same.new ht)) ⟨t, rfl, s'.free ht, upd_same⟩
      · walk_at "rd"
        have hq' := s' _ _ hq
        have hr2 := s' _ _ hr'
        walk_at "rd"
        refine ifB (fun c2 => ?_) (fun c2 => ?_)
        · walk_at "rd"
          refine fun t ht => ?_
          refine hk (some (.loc x)) (by simp only [exprOf, c1, c2, Bool.false_eq_true, if_false, if_true]) _ _ (s'.trans (Same.new ht)) ⟨t, rfl, s'.free ht, upd_same⟩
        · walk_at "rd"
          refine ifB (fun c3 => ?_) (fun c3 => ?_)
          · walk_at "rd"
            refine fun t ht => ?_
            refine hk (some (.read x)) (by simp only [exprOf, c1, c2, c3, Bool.false_eq_true, if_false, if_true]) _ _ (s'.trans (Same.new ht)) ⟨t, rfl, s'.free ht, upd_same⟩
          · walk_at "rd"
            refine hk none (by simp only [exprOf, c1, c2, c3, Bool.false_eq_true, if_false]) _ _ s' rfl
    | [x1, x], hp, hz, hn, k =>
      refine ifF (by rfl) ?_
      walk_at "rd"
      refine ifT (by rfl) ?_
      have hp' : H p = some (.lst [.str x1, .str x]) := hp
      have hk : ∀ e, exprOf [x1, x] scope sources = e → ∀ v H', Same H H' → ExAt H H' v e → Q v H' := fun e ee v H' s1 ea => k v H' s1 (by rw [ee]; exact ea)
      walk_at "rd"
      refine ifB (fun c1 => ?_) (fun c1 => ?_)
      · have c1' : x1 = "peek" := by
          have := of_decide_eq_true c1
          injection this
        walk_at "rd"
        refine ifB (fun c2 => ?_) (fun c2 => ?_)
        · walk_at "rd"
          refine fun t ht => ?_
          refine hk (some (.peek x)) (by simp only [exprOf, c1', c2, and_self, if_true]) _ _ (Same.new ht) ⟨t, rfl, ht, upd_same⟩
        · walk_at "rd"
          refine hk none (by simp only [exprOf, c2, Bool.false_eq_true, and_false, if_false]) _ _ (Same.refl _) rfl
      · have c1' : ¬ x1 = "peek" := fun e => by
          have := of_decide_eq_false c1
          exact this (by rw [e])
        refine ifF (by rfl) ?_
        walk_at "rd"
        refine hk none (by simp only [exprOf, c1', false_and, if_false]) _ _ (Same.refl _) rfl
    | x1 :: x2 :: x3 :: l, hp, hz, hn, k =>
      have l1 : decide (V.int ↑(List.map V.str (x1 :: x2 :: x3 :: l)).length = V.int 1) = false := decide_eq_false fun e => by
        injection e with e
        simp at e
        omega
      have l2 : decide (V.int ↑(List.map V.str (x1 :: x2 :: x3 :: l)).length = V.int 2) = false := decide_eq_false fun e => by
        injection e with e
        simp at e
        omega
      refine ifF l1 ?_
      walk_at "rd"
      refine ifF l2 ?_
      walk_at "rd"
      refine ifF (by rfl) ?_
      walk_at "rd"
      exact k _ _ (Same.refl _) rfl
theorem b_words_of (T : Tx K mg a fd tk) : Binds K (fd 3) ["line"] [] := T.F_words_of.binds fun _ _ _ _ _ _ us hl => match us, hl with | [_], _ => rfl
theorem b_expression (T : Tx K mg a fd tk) : Binds K (fd 4) ["words", "scope", "sources"] [] := T.F_expression.binds fun _ _ _ _ _ _ us hl => match us, hl with | [_, _, _], _ => rfl
theorem b_comparison (T : Tx K mg a fd tk) : Binds K (fd 5) ["words", "scope", "sources"] [] := T.F_comparison.binds fun _ _ _ _ _ _ us hl => match us, hl with | [_, _, _], _ => rfl
end
end Tr
set_option maxHeartbeats 1000000
namespace L2
open PySem PySem.Spec PyProof.Rows
section
variable {X : Cx} {o e : Expr} {es : List Expr} {to te : TE} {ta : TA} {f : Str} {p p' p1 p2 pos : Pos}
/-- B.__init__(self, ..), B an own class over ValueError without own __init__ -/
theorem pe_ownInit {pl : Sem Bool} {x : Str} {B : Addr} (hg : Gl X x) (hm : X.mg x = some (.ref B)) (r : ClX.CRead X.K B (.type "type")) (vV : PySem.W.findCls X.K (.ref B) (.type "type") "__init__" = some (.val (.builtin "ValueError.__init__"))) (ha : PA X (e :: es) ta)
    (hdb : (x == ("__debug__" : Str)) = false := by decide)
    (hc : eval (.Call (.Attribute (.Name x p1) "__init__" p2) (e :: es) [] pos) X.env = (do
      let ov ← eval (.Name x p1) X.env
      standAt p2.atName
      let (f, first) ← holding [ov] (getMethod ov "__init__" pl)
      callWith pos f first (backTo pos (starEach (e :: es) X.env)) (backToKw pos (keywordEach [] X.env))) := by rfl)
    (he : starEach (e :: es) X.env = (false, eval e X.env) :: starEach es X.env := by rfl) (hpl : (backTo pos (starEach es X.env)).any (·.1) = false := by rfl) :
    PE X (.Call (.Attribute (.Name x p1) "__init__" p2) (e :: es) [] pos) (tVeI X.K ta) := by
  refine ⟨fun pins s σ H Q I h => ?_⟩
  refine PySem.W.methodCall_KW (ld_glob I hg hm ?_ hdb) hc
  refine PySem.W.method_cls I.kIn r.ga (PySem.W.cls_value I.kIn r.rd vV (by decide +kernel) ?_)
  show wpAny _ _ (callWith pos (Value.builtin "ValueError.__init__") [] (backTo pos (starEach (e :: es) X.env)) []) _ _ _
  refine PyProof.Rows.callWith_method1 (thn (ha.run pos pins _ σ H _ (I.tok _) h) fun us s1 ⟨vs, H1, I1, r1, a, C, ws, ev, hl, T, ea, q⟩ => ?_) he hpl
  subst ev
  cases r1 with
  | @cons _ u0 _ ur ra rw' =>
    obtain rfl : u0 = Value.ref a := ra
    have hlen : ur.length ≤ sizeLine := by
      rw [← Paired.length rw', sizeLine_eq]
      omega
    exact oinit_ok T I1 ea hlen fun s' J => ⟨.non, H1, J, rfl, q⟩
end
/-- at a: an exception of the class cls, its dict d -/
def xo (a : Addr) (cls : Value) (d : Option Addr) : HO := .ext fun h => ∃ oe vs, h.get? a = some oe ∧ Zc cls d oe ∧ oe.data = .fields vs
theorem xo_own {e x : Addr} {c : Value} {d : Option Addr} : xo e c d ≠ .own x := fun z => by
  have z' : HO.ext _ = HO.own x := z
  cases z'
theorem xo_lst {e : Addr} {c : Value} {d : Option Addr} {l : List V} : xo e c d ≠ .lst l := fun z => by
  have z' : HO.ext _ = HO.lst l := z
  cases z'
theorem xo_ok {P : Program} {w : World} {H : Hp} {h : Heap} {a : Addr} {cls : Value} {d : Option Addr} {oe : Obj} {vs : Array Value} (he : h.get? a = some oe) (hz : Zc cls d oe) (hd : oe.data = .fields vs) : ObjOk P w H h a (xo a cls d) :=
  ⟨⟨oe, vs, he, hz, hd⟩, ⟨_, he⟩, fun h1 h2 z k => by
    obtain ⟨o, u, q1, q2, q3⟩ := z
    exact ⟨o, u, k _ q1, q2, q3⟩⟩
theorem xo_at {P : Program} {w : World} {H : Hp} {h : Heap} {a : Addr} {cls : Value} {d : Option Addr} (hok : HOk P w H h) (he : H a = some (xo a cls d)) : ∃ oe vs, h.get? a = some oe ∧ Zc cls d oe ∧ oe.data = .fields vs := by
  have x : ObjOk P w H h a (.ext fun h => ∃ oe vs, h.get? a = some oe ∧ Zc cls d oe ∧ oe.data = .fields vs) := hok a _ he
  exact x.1
section
variable {X : Cx} {pins : List (Addr × Obj)} {σ : St} {H : Hp} {s : Shared}
theorem Inv.track {a : Addr} {oe : Obj} {cls : Value} {d : Option Addr} {vs : Array Value} (I : Inv X ((a, oe) :: pins) σ H s) (hz : Zc cls d oe) (hd : oe.data = .fields vs) (n0 : X.s_0.heap.get? a = none) (np : ∀ p ∈ X.pn ++ pins, p.1 ≠ a) :
    Inv X pins σ (upd H a (xo a cls d)) s := by
  obtain ⟨ha, hn, nL, nF, _⟩ := I.pin (a, oe) (List.mem_append_right _ List.mem_cons_self)
  have ha' : s.heap.get? a = some oe := ha
  have hn' : H a = none := hn
  have ne : ∀ {b : Addr} {u : HO}, H b = some u → b ≠ a := fun {b u} q z => by
    rw [z, hn'] at q
    cases q
  refine ⟨I.ok, I.os, I.bare, ⟨I.base.keep, I.base.slot, fun b o q n hx => ?_, I.base.there, fun b xs q => ?_, fun b o u q => ?_, fun b ps q => ?_⟩, I.loc, I.cell, ?_, fun x c e => ?_, fun p hp => ?_, fun b o q => ?_, I.len⟩
  · rw [upd_ne (by rintro rfl; rw [n0] at q; cases q)]
    exact I.base.free b o q n hx
  · have := I.base.tups b xs q
    rw [upd_ne (ne this)]
    exact this
  · have := I.base.frzs b o u q
    rw [upd_ne (ne this)]
    exact this
  · obtain ⟨more, this⟩ := I.base.tbls b ps q
    exact ⟨more, by rw [upd_ne (ne this)]; exact this⟩
  · rw [upd_ne (Ne.symm nL)]
    exact I.free
  · have hca : c ≠ a := by
      rintro rfl
      obtain ⟨v, oc, h1, h2⟩ := I.cell x c e
      rw [ha'] at h1
      cases h1
      rw [hd] at h2
      first | cases h2 | (cases h2.1) | (cases h2.2)
    rw [upd_ne hca]
    exact I.freeC x c e
  · have hp' : p ∈ X.pn ++ ((a, oe) :: pins) := by
      rcases List.mem_append.mp hp with h | h
      · exact List.mem_append_left _ h
      · exact List.mem_append_right _ (List.mem_cons_of_mem _ h)
    obtain ⟨q1, q2, q3⟩ := I.pin p hp'
    exact ⟨q1, by rw [upd_ne (np p hp)]; exact q2, q3⟩
  · by_cases hb : b = a
    · subst hb
      rw [upd_same] at q
      cases q
      exact xo_ok ha' hz hd
    · rw [upd_ne hb] at q
      exact (I.hok b o q).stay (fun c v hc z => z) (fun c hc => by rw [upd_ne (ne hc)]; exact hc) (fun c xs hc => by rw [upd_ne (ne hc)]; exact hc)
end
/-- what the clause 'except x as n' wishes of the one kind of exception that the body lets out: caught, bound to slot i, kept at its place -/
def wKeep (K : PySem.W.Frag) (c : Value) (i : Nat) (ts : Addr → Value → Option Addr → TS) (D : Ends) : WX := fun cls d σ H =>
  PySem.W.exmOne K cls c = some true ∧ ∀ a, H a = none → ts a cls d ⟨fun σ' H' => D.nx (σ'.set i none) (upd H' a (xo a cls d)), fun _ _ => False, fun _ _ => False, fun _ _ => False⟩ (σ.set i (some (.ref a))) H
section
variable {X : Cx} {x n : Str} {c : Value} {i : Nat} {body suite : List Stmt} {b₀ : Stmt} {np pos pos' : Pos} {tb : WX → TS} {ts : Addr → Value → Option Addr → TS}
/-- what the body of a try leaves is what the try leaves -/
theorem SP.ofTry {pins : List (Addr × Obj)} {xe : Value → Shared → Prop} {D : Ends} (ok : X.Ok) : ∀ {f : Flow} {s1 : Shared}, SP (X.tr (X.pn ++ pins) xe) [] D f s1 → SP X pins D f s1
  | .next, _, ⟨σ', H', J, q⟩ => ⟨σ', H', J.ofTry ok, q⟩
  | .brk, _, ⟨σ', H', J, q⟩ => ⟨σ', H', J.ofTry ok, q⟩
  | .cont, _, ⟨σ', H', J, q⟩ => ⟨σ', H', J.ofTry ok, q⟩
  | .ret _, _, ⟨v, σ', H', J, r, q⟩ => ⟨v, σ', H', J.ofTry ok, r, q⟩
/-- the suite of the clause, begun with the exception landed at a; behind it the exception is tracked -/
theorem suite_keep {pins : List (Addr × Obj)} {σ : St} {H : Hp} {s : Shared} {D : Ends} {a : Addr} {oe : Obj} {vs : Array Value} {cls : Value} {d : Option Addr} (ok : X.Ok) (hN : X.N.Nodup) (hi : X.N[i]? = some n) (hln : X.env.kindOf n = some .local)
    (hsu : PSs (X.suite a ((a, oe) :: (X.pn ++ pins))) (b₀ :: suite) (ts a cls d)) (S : Inv (X.suite a ((a, oe) :: (X.pn ++ pins))) [] (σ.set i (some (.ref a))) H s) (hz : Zc cls d oe) (hd : oe.data = .fields vs) (n0 : X.s_0.heap.get? a = none) (np' : ∀ p ∈ X.pn ++ pins, p.1 ≠ a)
    (h : ts a cls d ⟨fun σ' H' => D.nx (σ'.set i none) (upd H' a (xo a cls d)), fun _ _ => False, fun _ _ => False, fun _ _ => False⟩ (σ.set i (some (.ref a))) H) :
    wpAny (model X.prog X.w) (X.A.mark (some (.ref a))) (execs (b₀ :: suite) X.env) (fun f s6 => wpAny (model X.prog X.w) X.A (do bindName X.env n .none; unbindBehindTheSuite X.env n pos') (fun _ s7 => SP X pins D f s7) X.xe s6) (fun _ _ => False) s := by
  refine wpAny_mono (hsu.run [] s _ H _ S h) (fun f s6 hsp => ?_) (fun _ _ z => z)
  match f, hsp with
  | .next, ⟨σ6, H6, S6, q6⟩ =>
    have P6 : Inv X ((a, oe) :: pins) σ6 H6 s6 := (S6.unsuite ok).pins_of fun p hp => S6.pin p (List.mem_append_left _ (by
      rcases List.mem_cons.mp hp with e | e
      · rw [e]; exact List.mem_cons_self
      · exact List.mem_cons_of_mem _ (List.mem_append_right _ e)))
    exact gone_ok P6 hN hi hln fun s7 I7 => ⟨_, _, I7.track hz hd n0 np', q6⟩
  | .brk, ⟨_, _, _, q6⟩ => exact q6.elim
  | .cont, ⟨_, _, _, q6⟩ => exact q6.elim
  | .ret _, ⟨_, _, _, _, _, q6⟩ => exact q6.elim
/-- try: body, except x as n: suite, where every exception of the body is caught -/
theorem ps_try_keep (hs : X.stack = X.env :: X.outer) (hf : X.env.frame = some X.env.locals) (hN : X.N.Nodup) (hi : X.N[i]? = some n) (hln : X.env.kindOf n = some .local) (hc : Names X x c) (hex : X.ex = [])
    (hb : ∀ (W : WX) (pn : List (Addr × Obj)) (xe : Value → Shared → Prop), Takes (X.tr pn xe) W → PassesOwn (model X.prog X.w) X.A X.env xe → PSs (X.tr pn xe) body (tb W))
    (hsu : ∀ (a : Addr) (oe : Obj) (cls : Value) (d : Option Addr) (pn : List (Addr × Obj)), Zc cls d oe → (∃ vs, oe.data = .fields vs) → PSs (X.suite a ((a, oe) :: pn)) (b₀ :: suite) (ts a cls d)) :
    PS X (.Try body [.ExceptHandler (some (.Name x np)) (some n) (b₀ :: suite) pos'] [] [] pos) (fun D σ H => tb (wKeep X.K c i ts D) D σ H) := by
  refine ⟨fun pins s σ H D I h => wpAny_Try_except ?_⟩
  have ok := I.ok
  have body := hb (wKeep X.K c i ts D) (X.pn ++ pins) (fun e s₁ => wpAny (model X.prog X.w) X.A (noteFrame e X.env) (fun _ s₂ => wpAny (model X.prog X.w) X.A (setFlight e none) (fun _ s₃ =>
    wpAny (model X.prog X.w) X.A (handleBy e X.env [.ExceptHandler (some (.Name x np)) (some n) (b₀ :: suite) pos']) (SP X pins D) X.xe s₃) X.xe s₂) X.xe s₁)
  refine wpAny_mono ((body ?_ PassesOwn.looking).run [] s σ H D (I.toTry _) h) ?_ (fun e s1 he => he)
  · rintro u s' ⟨a, B, sI, pins', σ', H', cls, d, rfl, J', nb, up, sky, na, os, ag, hyes, hts⟩
    have J : Inv X pins σ' H' sI := J'.ofTry ok
    rw [hs] at sky
    refine Sky.land Zc.steady (by rw [ok.frames, hs]) hf sky fun h3 fl up3 => ?_
    obtain ⟨oe, vs, he, hz, hd⟩ := fl.there
    have nfr : a ∉ frs (X.env :: X.outer) := fun hm => by
      obtain ⟨_, o, e1, e2⟩ := fl.2.2.1.mem hm
      rw [he] at e1
      cases e1
      exact e2 _ hd
    have nL : a ≠ X.env.locals := fun z => nfr (List.mem_filterMap.mpr ⟨X.env, List.mem_cons_self, by rw [hf, z]⟩)
    have nF : a ∉ X.fs := fun hm => let ⟨e, g1, g2⟩ := List.mem_filterMap.mp hm; nfr (List.mem_filterMap.mpr ⟨e, List.mem_cons_of_mem _ g1, g2⟩)
    have noI : sI.heap.get? a = none := by
      cases q : sI.heap.get? a with
      | none => rfl
      | some o => exact absurd ((nb a o q (by rw [hs]; exact nfr)).symm.trans fl.2.1) (by simp)
    have n0 : X.s_0.heap.get? a = none := by
      cases q : X.s_0.heap.get? a with
      | none => rfl
      | some o =>
        obtain ⟨o', e'⟩ := J.base.there a o q (by rw [hex]; simp)
        rw [noI] at e'
        cases e'
    have npn : ∀ p ∈ X.pn ++ pins, p.1 ≠ a := fun p hp z => by
      have := (J.pin p hp).1
      rw [z, noI] at this
      cases this
    have J3 : Inv X pins σ' H' { s' with heap := h3 } := J.landed nb fl.1 (up.trans up3) os ag
    refine wpAny_handleBy_cons (codeAny_handlers_test ?_) (by intro q; cases q)
    have L := PySem.W.exm_one (M := model X.prog X.w) J3.kIn (fun A Q E s k q => wpAny_typeOf_ref (k _ _ he) (by rw [hz.1]; exact q)) hyes
    have named : ∀ {Q : Value → Shared → Prop} {E : Value → Shared → Prop}, Q c { s' with heap := h3 } → wpAny (model X.prog X.w) (X.A.mark (some (.ref a))) (eval (.Name x np) X.env) Q E { s' with heap := h3 } := fun q => by
      have S := J3.suite he hd na nL nF
      obtain ⟨hg, hdbg, hm | ⟨hm, hv, hnn⟩⟩ := hc
      · exact ld_glob (X := X.suite a ((a, oe) :: (X.pn ++ pins))) S hg hm q hdbg
      · exact ld_blt (X := X.suite a ((a, oe) :: (X.pn ++ pins))) S hg hm hv q hnn hdbg
    refine named (L.here (codeAny_handlers_suite_as (HandSPX.lands_againZ fl fun h4 fl4 up4 => ?_)))
    obtain ⟨oe4, vs4, he4, hz4, hd4⟩ := fl4.there
    have J4 : Inv X pins σ' H' { s' with heap := h4 } := J.landed nb fl4.1 ((up.trans up3).trans up4) os ag
    refine store_ok (X := X.suite a ((a, oe4) :: (X.pn ++ pins))) (v := .ref a) (J4.suite he4 hd4 na nL nF) hN hi (.inl hln) rfl (fun s5 S5 => ?_) (.inr hln)
    exact wpAny_mono (suite_keep ok hN hi hln (hsu a oe4 cls d _ hz4 ⟨_, hd4⟩) S5 hz4 hd4 n0 npn (hts a na)) (fun _ _ z => z) fun _ _ z => z.elim
  · intro f s1 hsp
    have q := SP.ofTry ok hsp
    cases f with
    | next => exact wpAny_execs_nil q
    | brk => exact q
    | cont => exact q
    | ret u => exact q
/-- err.f, err a caught exception that stays at its place -/
def tXo (K : PySem.W.Frag) (f : Str) (te : TE) : TE := fun σ H Q => te σ H fun x H1 => ∃ (a C dd : Addr) (fs : List (Str × V)) (v : V), x = .ref a ∧ H1 a = some (xo a (.ref C) (some dd)) ∧ XfC K C ∧ PySem.W.findIn K (.ref C) f = some none ∧ H1 dd = some (.xd fs) ∧ fs.lookup f = some v ∧ Q v H1
theorem pe_xo {e : Expr} {te : TE} {pos : Pos} {f : Str} (he : PE X e te) (hb : attributeBase e f X.env (eval e X.env) = eval e X.env := by rfl) : PE X (.Attribute e f pos) (tXo X.K f te) := by
  refine ⟨fun pins s σ H Q I h => ?_⟩
  refine attr_of hb (thn (he.run pins s σ H _ I h) fun u s1 hh => ?_)
  obtain ⟨x, H1, I1, rx, a, C, dd, fs, v, ex, ea, T, hno, ed, l, q⟩ := hh
  subst ex
  obtain rfl : u = Value.ref a := rx
  obtain ⟨oe, vs, ha, hz, hd⟩ := xo_at I1.hok ea
  have hx : ObjOk X.prog X.w H1 s1.heap dd (.xd fs) := I1.hok dd _ ed
  obtain ⟨mA, hns, hr⟩ := hx
  obtain ⟨od, ho, hl⟩ := lookIn_ns hns
  obtain ⟨u, hu, ru⟩ := RelO.some_of (v := v) (o := mA f) (by rw [← l]; exact hr f)
  have J : PySem.W.InstAt s1.heap a oe C (some od) := ⟨ha, hz.1, by unfold PySem.W.notCls; rw [hd] <;> rfl, by rw [hz.2]; exact ho⟩
  exact HandSPX.exc_get I1.kIn J T.ga T.gg T.exC (PySem.W.findObj_own T.hdC hno rfl (by rw [hl, hu])) (handed_of ru) ⟨v, H1, I1.tok _, ru, q⟩
end
end L2
set_option maxHeartbeats 1000000
namespace L2
open PySem PySem.Spec PyProof.Rows
section
variable {X : Cx} {CX : CXT} {k : Nat} {f C : Addr} {fd : FuncData} {ps : List Str} {sp : Sp} {E : St → XK} {x : Str} {p pos : Pos} {e : Expr} {es : List Expr} {t : TA} {ds : List Value} {dvs : List V}
def tMakeS (C : Addr) (sp : Sp) (E : St → XK) (t : TA) : TE := fun σ H Q => t σ H fun vs H1 =>
  ∀ x dx, H1 x = none → H1 dx = none → dx ≠ x →
    sp (.ref x :: vs) (upd (upd H1 dx (.own x)) x (.ins C dx [])) (fun v H2 => v = .non ∧ Q (.ref x) H2) (E σ)
theorem pe_makeS (M : Mk X.K C f)
    (F : FnOk X.prog X.w X.K X.mg X.base CX k f fd ps sp) (hr : Room (k + 1) X.A)
    (hg : Gl X x) (hm : X.mg x = some (.ref C)) (hb : Binds X.K fd ps []) (hx : ∀ σ, PassesAt CX X σ (E σ)) (ha : PA X (e :: es) t)
    (hdb : (x == ("__debug__" : Str)) = false := by decide)
    (he : starEach (e :: es) X.env = (false, eval e X.env) :: starEach es X.env := by rfl)
    (hpl : (backTo pos (starEach es X.env)).any (·.1) = false := by rfl) :
    PE X (.Call (.Name x p) (e :: es) [] pos) (tMakeS C sp E t) := by
  constructor
  intro pins s σ H Q I h
  refine wpAny_Call_Name_kw (ld_glob I hg hm ?_ hdb)
  refine PySem.W.callWith_K (h₀ := X.base) I.ok.mod.kin M.kp (thn (ha.run pos pins s σ H _ I h) fun us s1 hh => ?_) he hpl
  obtain ⟨vs, H1, I1, r, q⟩ := hh
  refine ⟨I1.kIn, ?_⟩
  show wpAny _ _ (call (.ref C) us) _ _ _
  generalize hn : s1.heap.objs.size = n
  have f0 : H1 n = none := by rw [← hn]; exact I1.hok.fresh (Nat.le_refl _)
  have f1 : H1 (n + 1) = none := by rw [← hn]; exact I1.hok.fresh (Nat.le_succ _)
  have hq := q (n + 1) n f1 f0 (Nat.ne_of_lt (Nat.lt_succ_self _))
  have I2 := Inv.made (C := C) I1
  rw [hn] at I2
  have r2 : Vals (V.ref (n + 1) :: vs) (Value.ref (n + 1) :: us) := .cons rfl r
  have hl : (Value.ref (n + 1) :: us ++ []).length = ps.length := by
    have z := r2.length
    rw [F.len _ _ _ _ hq] at z
    rw [List.append_nil]
    exact z.symm
  have b := hb _ (Value.ref (n + 1) :: us) I2.kIn hl
  rw [List.append_nil] at b
  have run := F.run _ X.stack _ _ ⟨Value.ref (n + 1) :: us, []⟩ (Value.ref (n + 1) :: us) _ _ (E σ) (hr.make C us []) (I2.env0.make C us []) b r2 hq
  refine wpAny_call (make_map (f := f) I1.kIn M.makes M.init (beq_iff_eq.mp M.fn) (codeAny_mono (by rw [hn]; exact run) fun r s' hq' => ?_))
  cases r with
  | error er => exact hx σ pins _ _ er s' I2 hq'
  | ok fl =>
    cases fl with
    | next => exact False.elim hq'
    | brk => exact False.elim hq'
    | cont => exact False.elim hq'
    | ret u =>
      obtain ⟨v, H', I3, rv, ev, q3⟩ := I2.after hq'
      cases ev
      rw [hn]
      exact ⟨rv, ⟨V.ref (n + 1), H', I3, rfl, q3⟩⟩
end
end L2
set_option maxHeartbeats 4000000
namespace PySem
namespace OXB
open Builtin Builtin.ObjectAttr PySem.W PySem.Calls PyProof.Rows PySem.HandSPX
/-- own classes, then the base's mro -/
def refsT (bm : List Value) : List Value → Bool
  | .ref _ :: r => refsT bm r
  | l => l == bm
theorem refsT_cases {bm : List Value} : ∀ l : List Value, refsT bm l = true → (∃ c r, l = .ref c :: r ∧ refsT bm r = true) ∨ l = bm
  | [], e => .inr (beq_iff_eq.mp e)
  | .ref c :: r, e => .inl ⟨c, r, rfl, e⟩
  | .none :: _, e => .inr (beq_iff_eq.mp e)
  | .ellipsis :: _, e => .inr (beq_iff_eq.mp e)
  | .notImplemented :: _, e => .inr (beq_iff_eq.mp e)
  | .bool _ :: _, e => .inr (beq_iff_eq.mp e)
  | .int _ _ :: _, e => .inr (beq_iff_eq.mp e)
  | .float _ _ :: _, e => .inr (beq_iff_eq.mp e)
  | .str _ _ :: _, e => .inr (beq_iff_eq.mp e)
  | .bytes _ _ :: _, e => .inr (beq_iff_eq.mp e)
  | .type _ :: _, e => .inr (beq_iff_eq.mp e)
  | .builtin _ :: _, e => .inr (beq_iff_eq.mp e)
structure XB where
  B : String
  newId : String
  initId : String
  bm : List Value
/-- what is so of the base -/
structure XB.Ok (b : XB) : Prop where
  F : ExcBaseFacts b.B b.newId b.initId b.bm
  pass : ∀ self, refuseLoop self "__setattr__" b.bm = pure ()
  obj : b.bm.contains (.type "object") = true
  ne : b.bm.isEmpty = false
def xbV : XB := ⟨"ValueError", "ValueError.__new__", "ValueError.__init__", [.type "ValueError", .type "Exception", .type "BaseException", .type "object"]⟩
def xbR : XB := ⟨"RuntimeError", "RuntimeError.__new__", "RuntimeError.__init__", [.type "RuntimeError", .type "Exception", .type "BaseException", .type "object"]⟩
theorem xbV_ok : xbV.Ok := ⟨F.excBase_ValueError, fun self => F.store_ValueError.passes self, by decide +kernel, rfl⟩
theorem xbR_ok : xbR.Ok := ⟨F.excBase_RuntimeError, fun self => F.store_RuntimeError.passes self, by decide +kernel, rfl⟩
theorem refsT_pass {b : XB} (O : b.Ok) (self : Value) : ∀ l : List Value, refsT b.bm l = true → refuseLoop self "__setattr__" l = pure () := by
  intro l
  induction l with
  | nil =>
    intro e
    have e' : ([] : List Value) = b.bm := beq_iff_eq.mp e
    rw [e']
    exact O.pass self
  | cons a r ih =>
    intro e
    rcases refsT_cases (a :: r) e with ⟨c, r', q, h⟩ | q
    · obtain ⟨rfl, rfl⟩ := List.cons.inj q
      rw [refuseLoop_ref]; exact ih h
    · rw [q]; exact O.pass self
theorem refsT_contains {bm : List Value} (X : String) : ∀ l : List Value, refsT bm l = true → l.contains (.type X) = bm.contains (.type X) := by
  intro l
  induction l with
  | nil =>
    intro e
    have e' : ([] : List Value) = bm := beq_iff_eq.mp e
    rw [e']
  | cons a r ih =>
    intro e
    rcases refsT_cases (a :: r) e with ⟨c, r', q, h⟩ | q
    · obtain ⟨rfl, rfl⟩ := List.cons.inj q
      rw [List.contains_cons, ih h]; rfl
    · rw [q]
theorem refsT_ne {b : XB} (O : b.Ok) {l : List Value} (e : refsT b.bm l = true) : l.isEmpty = false := by
  cases l with
  | nil =>
    have e' : ([] : List Value) = b.bm := beq_iff_eq.mp e
    have := O.ne
    rw [← e'] at this
    exact this
  | cons _ _ => rfl
section
variable {M : Model} {A : Around} {E : Value → Shared → Prop} {h : Heap} {g : Array GenState} {d : Drawn} {t : Nat} {os : OsState}
variable {nm q : Str} {C N : Addr} {bs bm bmB : List Value} {hdct : Bool} {sn : List Str} {sub : List Value} {ab : Bool} {col : Option Bool} {dd : Option Addr} {k0 k1 k2 k3 k5 : Option Value} {B newId initId : String}
theorem check_new_ownK (F : ExcBaseFacts B newId initId bmB) (hT : ∀ X : String, bm.contains (.type X) = bmB.contains (.type X)) {rest : List Value} {kw : List (Str × Value)} {Q : Unit → Shared → Prop}
    (hC : h.get? C = some (excClassObj nm q C N bs bm hdct sn sub ab col dd k0 k1 k2 k3 k5 newId)) (hq : Q () ⟨h, g, d, t, os⟩) : wpAny M A (checkBuiltinCall newId ⟨.ref C :: rest, kw⟩) Q E ⟨h, g, d, t, os⟩ := by
  have hcont : (Value.ref C :: bm).contains (.type B) = true := by rw [List.contains_cons, hT, F.hasB, Bool.or_true]
  have hstar := F.noStar
  simp only [checkBuiltinCall, F.newKind, F.newSplit, F.newRow]
  repeat (first | refine wpAny_loadPart_at hC ?_ | (refine wpAny_isSubtype_exc hC ?_; rw [hcont]) | refine wpAny_staticBase_exc hC ?_ | refine wpAny_madeBy_exc hC ?_ | simp only [bne_self_eq_false, Bool.false_eq_true, if_false] | wp_step)
  exact hq
end
section
variable {prog : Program} {w : World} {A : Around} {E : Value → Shared → Prop} {R : Result → Shared → Prop} {h : Heap} {g : Array GenState} {d : Drawn} {t : Nat} {os : OsState}
variable {nm q : Str} {C N : Addr} {bs bm bmB : List Value} {hdct : Bool} {sn : List Str} {sub : List Value} {ab : Bool} {col : Option Bool} {dd : Option Addr} {k0 k1 k2 k3 k5 : Option Value} {B newId initId : String}
theorem new_ownK (F : ExcBaseFacts B newId initId bmB) (hT : ∀ X : String, bm.contains (.type X) = bmB.contains (.type X)) {rest : List Value} {kw : List (Str × Value)}
    (hC : h.get? C = some (excClassObj nm q C N bs bm hdct sn sub ab col dd k0 k1 k2 k3 k5 newId))
    (hq : R (.ok (.ret (.ref (h.objs.size + 1)))) ⟨(h.push { cls := .type "tuple", data := .seq rest.toArray }).push
      { cls := .ref C, data := .fields #[.ref h.objs.size, .none, .none, .none, .bool false, .none] }, g, d, t, os⟩) (hrest : rest.length ≤ sizeLine) :
    codeAny (model prog w) A (.builtin newId ⟨.ref C :: rest, kw⟩) R ⟨h, g, d, t, os⟩ := by
  have hends := F.ends
  have hcB : (Value.ref C :: bm).contains (.type B) = true := by rw [List.contains_cons, hT, F.hasB, Bool.or_true]
  have hcA : (Value.ref C :: bm).contains (.type "AttributeError") = false := by rw [List.contains_cons, hT, F.noAttr]; rfl
  have hcN : (Value.ref C :: bm).contains (.type "NameError") = false := by rw [List.contains_cons, hT, F.noName]; rfl
  refine codeAny_builtinAt F.entry ?_
  unfold Builtin.«BaseException.__new__»
  refine wpAt_bind ?_
  show wpAt _ _ _ (stack >>= _) _ _ _
  refine wpAt_bind (wpAt_stack fun p below => wpAt_of_wpAny ?_)
  wp_walk
  refine wpAt_of_wpAny ?_
  rw [F.owner]
  repeat (first | with_reducible refine wpAny_madeHere_exc F.canon hC ?_ | with_reducible refine wpAny_loadPart_at hC ?_ | (with_reducible refine wpAny_isSubtype_exc hC ?_; first | rw [hcB] | rw [hcA] | rw [hcN]) | wp_step)
  show R _ _
  rw [Heap.size_push]
  exact hq
theorem type_call_ownK (F : ExcBaseFacts B newId initId bmB) (hT : ∀ X : String, bm.contains (.type X) = bmB.contains (.type X)) {rest : List Value} {kw : List (Str × Value)} {fI : Addr} {Q : Fin → Shared → Prop}
    (hC : h.get? C = some (excClassObj nm q C N bs bm hdct sn sub ab col dd k0 k1 k2 k3 k5 newId))
    (hi : W.Looks (model prog w) h (typeLookup (.ref C) "__init__") (some (.ref fI))) (hb : ∀ self, W.Looks (model prog w) h (bindSpecial (.ref fI) self) (.ref fI, [self])) (hrest : rest.length ≤ sizeLine)
    (hq : codeAny (model prog w) A (.call (.ref fI) ⟨.ref (h.objs.size + 1) :: rest, kw⟩)
      (fun r s' => match r with | .ok (.ret v) => v = .none ∧ Q (.done (.ret (.ref (h.objs.size + 1)))) s' | .ok _ => False | .error e => E e s')
      ⟨(h.push (W.kdv_tup rest)).push (excO C h.objs.size), g, d, t, os⟩) :
    wpAny (model prog w) A (Builtin.«type.__call__» ⟨.ref C :: rest, kw⟩) Q E ⟨h, g, d, t, os⟩ := by
  repeat (first | with_reducible refine wpAny_loadPart_at hC ?_ | with_reducible refine wpAny_madeBy_exc hC ?_ | wp_step)
  refine codeAny_call_builtin_code (Code.quiet_builtin _ F.quiet) (check_new_ownK F hT hC ?_)
  refine new_ownK F hT hC ?_ hrest
  show wpAny _ _ _ _ _ _
  have k : ∀ b o, h.get? b = some o → ((h.push (W.kdv_tup rest)).push (excO C h.objs.size)).get? b = some o := fun b o e => Heap.get?_push_of_some _ (Heap.get?_push_of_some _ e)
  have hC₁ := k _ _ hC
  have hget : ((h.push (W.kdv_tup rest)).push (excO C h.objs.size)).get? (h.objs.size + 1) = some (excO C h.objs.size) := by heap_get
  have hcC : (Value.ref C :: bm).contains (.ref C) = true := by simp
  have i1 := hi.keeps k
  have b1 := (hb (.ref (h.objs.size + 1))).keeps k
  unfold isInstance
  repeat (first | with_reducible refine wpAny_loadPart_at hget ?_ | (with_reducible refine wpAny_isSubtype_exc hC₁ ?_; rw [hcC]) | wp_step)
  show wpAny _ _ (typeLookup (.ref C) _) _ _ _
  refine i1.at ?_
  refine wpAny_holding (wpAny_bind (b1.at ?_))
  refine wpAny_bind (wpAny_call (codeAny_mono hq fun r s' z => ?_))
  rcases r with e | (v | _ | _ | _) <;> first | exact z | exact z.elim | skip
  obtain ⟨rfl, z⟩ := z
  first
    | exact wpAny_pure (wpAny_pure z)
    | (wp_walk; exact z)
theorem call_ownK (F : ExcBaseFacts B newId initId bmB) (hT : ∀ X : String, bm.contains (.type X) = bmB.contains (.type X)) {rest : List Value} {kw : List (Str × Value)} {fI : Addr}
    (hC : h.get? C = some (excClassObj nm q C N bs bm hdct sn sub ab col dd k0 k1 k2 k3 k5 newId))
    (hi : W.Looks (model prog w) h (typeLookup (.ref C) "__init__") (some (.ref fI))) (hb : ∀ self, W.Looks (model prog w) h (bindSpecial (.ref fI) self) (.ref fI, [self])) (hrest : rest.length ≤ sizeLine)
    (hq : codeAny (model prog w) (A.under (.builtin "type.__call__" ⟨.ref C :: rest, kw⟩)) (.call (.ref fI) ⟨.ref (h.objs.size + 1) :: rest, kw⟩) (W.InitBack (h.objs.size + 1) R)
      ⟨(h.push (W.kdv_tup rest)).push (excO C h.objs.size), g, d, t, os⟩) :
    codeAny (model prog w) A (.call (.ref C) ⟨rest, kw⟩) R ⟨h, g, d, t, os⟩ := by
  have f1 := tc_lookup
  have f2 := tc_bind (.ref C)
  have hTy : (⟨h, g, d, t, os⟩ : Shared).TypeIs (.ref C) "type" := ⟨_, hC, rfl⟩
  refine codeAny_of_tree ?_
  show wpAny _ _ (callAny (.ref C) _) _ _ _
  repeat (any_goals (first | assumption | with_reducible refine wpAny_loadPart_at hC ?_ | wp_step))
  refine ⟨rfl, ?_⟩
  refine codeAny_call_builtin_at (Code.quiet_builtin _ (by decide +kernel)) entry_typeCall (wpAny_check_type_call_sub hC (type_call_ownK F hT hC hi hb hrest ?_))
  refine codeAny_mono hq fun r s' z => ?_
  rcases r with e | (v | _ | _ | _) <;> exact z
end
section
variable {prog : Program} {w : World} {A : Around} {E : Value → Shared → Prop} {R : Result → Shared → Prop} {hp : Heap} {g : Array GenState} {d : Drawn} {t : Nat} {os : OsState}
theorem exc_osaB {b : XB} (O : b.Ok) {K : W.Frag} {name : Str} {tk : Tok} {v : Value} {x C : Addr} {fv : Array Value} {cd : ClassData}
    (X : K.In hp) (hx : hp.get? x = some { cls := .ref C, data := .fields fv }) (hcd : W.clsIn K C = some cd) (hm : refsT b.bm cd.mro = true) (hh : cd.hasDict = true) (ha : W.findIn K (.ref C) name = some none)
    (hq : ∀ h' tk' dx, (∀ b o, b ≠ x → hp.get? b = some o → h'.get? b = some o) → hp.objs.size ≤ dx → dx ≠ x → h'.get? x = some { cls := .ref C, dict := some dx, data := .fields fv } →
      h'.Ns1 dx (fun y => if y = name then some v else none) → R (.ok (.ret .none)) ⟨h', g, d, tk', os⟩) :
    codeAny (model prog w) A (.call (.builtin "object.__setattr__") ⟨[.ref x, .str name tk, v], []⟩) R ⟨hp, g, d, t, os⟩ := by
  have I : W.InstAt hp x { cls := .ref C, data := .fields fv } C none := ⟨hx, rfl, rfl, trivial⟩
  have SF := F.store_object
  have ne := refsT_ne O hm
  have hob : cd.mro.contains (.type "object") = true := (refsT_contains "object" _ hm).trans O.obj
  have hxs : x ≠ hp.objs.size := Nat.ne_of_lt (Heap.lt_size hx)
  have sub : W.Looks (model prog w) hp (isInstance (.ref x) (.type "object")) true := I.type.andThen (W.looks_mroIn X (by unfold W.mroIn; rw [hcd, Option.bind_some, if_neg (by rw [ne]; decide), hob]))
  refine codeAny_call_builtin SF.slot.plain SF.entry (@W.check_slot (model prog w) _ _ ⟨hp, g, d, t, os⟩ "object.__setattr__" "object" "__setattr__" (.ref x) [.str name tk, v] [] _ SF.kind SF.split sub (SF.args (.ref x) (.str name tk) v) ?_)
  have hmr : W.Looks (model prog w) hp (mroOf (.ref C)) cd.mro := (W.looks_clsIn X hcd).andThen .now
  have L3 : W.Looks (model prog w) hp (storeTaker? none) none := .now
  have hcls : W.Looks (model prog w) hp (classData C) cd := W.looks_clsIn X hcd
  rw [W.osa_eq, refuse_eq]
  refine wpAny_bind (wpAny_bind (I.type.at (wpAny_bind (hmr.at ?_))))
  rw [refsT_pass O _ _ hm]
  refine wpAny_pure (wpAny_bind (I.type.at (wpAny_bind ((W.looks_findIn X ha).at (wpAny_bind (L3.at ?_))))))
  show wpAny _ _ (storeInOwnDict (.ref x) (.ref C) (.str name tk) name v false) _ _ _
  obtain ⟨nm, bs, mro, ns, qn, hd, sn, sb, ab, col, del⟩ := cd
  dsimp only at hh
  subst hh
  unfold storeInOwnDict ownDictForStores
  repeat (first | with_reducible refine store_in_new ?_ ?_ | with_reducible refine wpAny_loadPart_at hx ?_ | with_reducible refine hcls.at ?_ | wp_step)
  · exact ⟨_, #[], _, (Heap.get?_update_ne _ _ _ _ hxs.symm).trans (Heap.get?_push_at rfl rfl), rfl, fun e he => absurd he (by simp), fun _ => rfl⟩
  · intro h' tk' hn' hs
    have hx₁ : (hp.push { cls := .type "dict", data := .dict #[] }).get? x = some { cls := .ref C, data := .fields fv } := Heap.get?_push_of_some _ hx
    refine hq h' tk' hp.objs.size (fun b o hb ho => ?_) (Nat.le_refl _) hxs.symm ?_ hn'
    · exact (hs.2 b (Nat.ne_of_lt (Heap.lt_size ho))).trans ((Heap.get?_update_ne _ _ _ _ hb).trans (Heap.get?_push_of_some _ ho))
    · exact (hs.2 x hxs).trans (Heap.get?_update_self _ hx₁ rfl)
theorem osa_oldB {b : XB} (O : b.Ok) {K : W.Frag} {name : Str} {tk : Tok} {v : Value} {x C dx : Addr} {fv : Array Value} {cd : ClassData} {m0 : Str → Option Value} {nl : List Str}
    (X : K.In hp) (hx : hp.get? x = some { cls := .ref C, dict := some dx, data := .fields fv }) (hns : hp.Ns1 dx m0) (hw : Within m0 nl) (hz : nl.length ≤ 1000) (hcd : W.clsIn K C = some cd) (hm : refsT b.bm cd.mro = true) (hh : cd.hasDict = true)
    (ha : W.findIn K (.ref C) name = some none)
    (hq : ∀ h' tk', (∀ b o, b ≠ dx → hp.get? b = some o → h'.get? b = some o) → h'.Ns1 dx (fun y => if y = name then some v else m0 y) → R (.ok (.ret .none)) ⟨h', g, d, tk', os⟩) :
    codeAny (model prog w) A (.call (.builtin "object.__setattr__") ⟨[.ref x, .str name tk, v], []⟩) R ⟨hp, g, d, t, os⟩ := by
  obtain ⟨oD, esD, epD, hoD, hdD, _⟩ := hns.count hw
  have I : W.InstAt hp x { cls := .ref C, dict := some dx, data := .fields fv } C (some oD) := ⟨hx, rfl, rfl, hoD⟩
  have SF := F.store_object
  have ne := refsT_ne O hm
  have hob : cd.mro.contains (.type "object") = true := (refsT_contains "object" _ hm).trans O.obj
  have sub : W.Looks (model prog w) hp (isInstance (.ref x) (.type "object")) true := I.type.andThen (W.looks_mroIn X (by unfold W.mroIn; rw [hcd, Option.bind_some, if_neg (by rw [ne]; decide), hob]))
  refine codeAny_call_builtin SF.slot.plain SF.entry (@W.check_slot (model prog w) _ _ ⟨hp, g, d, t, os⟩ "object.__setattr__" "object" "__setattr__" (.ref x) [.str name tk, v] [] _ SF.kind SF.split sub (SF.args (.ref x) (.str name tk) v) ?_)
  have hmr : W.Looks (model prog w) hp (mroOf (.ref C)) cd.mro := (W.looks_clsIn X hcd).andThen .now
  have L3 : W.Looks (model prog w) hp (storeTaker? none) none := .now
  have hcls : W.Looks (model prog w) hp (classData C) cd := W.looks_clsIn X hcd
  rw [W.osa_eq, refuse_eq]
  refine wpAny_bind (wpAny_bind (I.type.at (wpAny_bind (hmr.at ?_))))
  rw [refsT_pass O _ _ hm]
  refine wpAny_pure (wpAny_bind (I.type.at (wpAny_bind ((W.looks_findIn X ha).at (wpAny_bind (L3.at ?_))))))
  show wpAny _ _ (storeInOwnDict (.ref x) (.ref C) (.str name tk) name v false) _ _ _
  obtain ⟨nm, bs, mro, ns, qn, hd, sn, sb, ab, col, del⟩ := cd
  dsimp only at hh
  subst hh
  unfold storeInOwnDict ownDictForStores
  repeat (first | with_reducible refine PySem.OEX.store_in_old hns hw hz ?_ | with_reducible refine wpAny_loadPart_at hx ?_ | with_reducible refine hcls.at ?_ | wp_step)
  intro h' tk' hn' hs
  exact hq h' tk' (fun b o hb ho => (hs.2 b hb).trans ho) hn'
end
end OXB
end PySem
set_option maxHeartbeats 4000000
namespace L2
open PySem PySem.Spec PyProof.Rows PySem.OXB
/-- what the written part says of the class -/
structure OexB (K : PySem.W.Frag) (C : Addr) (b : XB) : Prop where
  cls : ∃ nm q N bs bm sn sub ab col dd k0 k1 k2 k3 k5, K.lookup C = some (excClassObj nm q C N bs bm true sn sub ab col dd k0 k1 k2 k3 k5 b.newId) ∧ refsT b.bm bm = true
  sa : PySem.W.findIn K (.ref C) "__setattr__" = some (some (.builtin "object.__setattr__"))
  exC : PySem.W.subIn K (.ref C) (.type "BaseException") = some true
  tyC : PySem.W.typeIn K (.ref C) = some (.type "type")
  kC : PySem.W.keepIn K (.ref C) = true
section
variable {X : Cx} {pins : List (Addr × Obj)} {σ : St} {H : Hp} {s : Shared} {a C dx : Addr} {f : Str} {y : V} {u : Value} {fs : List (Str × V)} {Q : Unit → Shared → Prop} {E : Value → Shared → Prop} {A : Around} {b : XB}
/-- self.f = y, the first one -/
theorem ostB_new (O : b.Ok) (T : OexB X.K C b) (I : Inv X pins σ H s) (e : H a = some (exo a C none)) (hno : PySem.W.findIn X.K (.ref C) f = some none) (ry : RelV y u)
    (h : ∀ dx s', H dx = none → dx ≠ a → Inv X pins σ (upd (upd H dx (exd dx [(f, y)])) a (exo a C (some dx))) s' → Q () s') : wpAny (model X.prog X.w) A (setAttr (.ref a) f u) Q E s := by
  obtain ⟨nm, q, N, bs, bm, sn, sub, ab, col, dd, k0, k1, k2, k3, k5, hC, hbm⟩ := T.cls
  have hcl : PySem.W.clsIn X.K C = some { name := nm, bases := bs, mro := .ref C :: bm, ns := N, qualname := q, hasDict := true, slotNames := sn, subclasses := sub, abstract := ab, collection := col, hasDel := false } := by unfold PySem.W.clsIn; rw [hC] <;> rfl
  obtain ⟨t1, ho⟩ := exo_at I.hok e
  obtain ⟨hp, g, d, t, os⟩ := s
  refine PySem.W.set_plain I.kIn (ox := { cls := .ref C, dict := none, data := .fields #[.ref t1, .none, .none, .none, .bool false, .none] }) (od := none) ⟨ho, rfl, rfl, trivial⟩ T.sa ?_
  refine exc_osaB O I.kIn ho hcl (show refsT b.bm (.ref C :: bm) = true from hbm) rfl hno (fun h' tk' dx k dn dne hx hn => ?_)
  have hnd : H dx = none := I.hok.fresh dn
  have nd : ∀ {b : Addr} {o : Obj}, hp.get? b = some o → b ≠ dx := fun {b o} q => Nat.ne_of_lt (Nat.lt_of_lt_of_le (Heap.lt_size q) dn)
  have na : ∀ {b : Addr}, H b = none → b ≠ a := fun {b} n z => by
    rw [z, e] at n
    cases n
  have Un1 : Un X.fs [] H (upd (upd H dx (exd dx [(f, y)])) a (exo a C (some dx))) hp h' := {
    keep := fun b o q n _ _ => k b o (na n) q
    slot := fun b o q n _ _ => ⟨o.slots, k b o (na n) q⟩
    free := fun b o q n _ => by rw [upd_ne (na n), upd_ne (nd q)]; exact n
    there := fun b o q _ => by
      by_cases hb : b = a
      · exact ⟨_, by rw [hb]; exact hx⟩
      · exact ⟨o, k b o hb q⟩
    tups := fun b xs q => by rw [upd_ne (at_ne e q exo_tup), upd_ne (ne_of_none q hnd)]; exact q
    frzs := fun b o v q => by rw [upd_ne (at_ne e q exo_frz), upd_ne (ne_of_none q hnd)]; exact q
    tbls := fun b ps q => ⟨#[], by rw [upd_ne (at_ne e q exo_tbl), upd_ne (ne_of_none q hnd), q]; simp⟩ }
  refine h dx _ hnd dne (I.un (t' := tk') Un1 fun b o q => ?_)
  by_cases hb : b = a
  · subst hb
    rw [upd_same] at q
    cases q
    exact exo_ok hx
  · rw [upd_ne hb] at q
    by_cases hd : b = dx
    · subst hd
      rw [upd_same] at q
      cases q
      exact exd_ok hn (relO_put (fs := []) ry fun g => True.intro)
    · rw [upd_ne hd] at q
      exact (I.hok b o q).stay (fun c v hc z => k c v (by
          rcases hc with hc | hc
          · rw [hc]
            exact hb
          · exact at_ne e hc exo_own) z)
        (fun c hc => by rw [upd_ne (at_ne e hc exo_own), upd_ne (ne_of_none hc hnd)]; exact hc) (fun c xs hc => by rw [upd_ne (at_ne e hc exo_tup), upd_ne (ne_of_none hc hnd)]; exact hc)
/-- self.f = y, a further one -/
theorem ostB_old (O : b.Ok) (T : OexB X.K C b) (I : Inv X pins σ H s) (e : H a = some (exo a C (some dx))) (ed : H dx = some (exd dx fs)) (hl : fs.length ≤ 900) (hno : PySem.W.findIn X.K (.ref C) f = some none) (ry : RelV y u)
    (h : ∀ s', Inv X pins σ (upd H dx (exd dx ((f, y) :: fs))) s' → Q () s') : wpAny (model X.prog X.w) A (setAttr (.ref a) f u) Q E s := by
  obtain ⟨nm, q, N, bs, bm, sn, sub, ab, col, dd, k0, k1, k2, k3, k5, hC, hbm⟩ := T.cls
  have hcl : PySem.W.clsIn X.K C = some { name := nm, bases := bs, mro := .ref C :: bm, ns := N, qualname := q, hasDict := true, slotNames := sn, subclasses := sub, abstract := ab, collection := col, hasDel := false } := by unfold PySem.W.clsIn; rw [hC] <;> rfl
  obtain ⟨t1, ho⟩ := exo_at I.hok e
  obtain ⟨mA, hns, rel⟩ := exd_at I.hok ed
  have hw := within_of rel
  obtain ⟨hp, g, d, t, os⟩ := s
  obtain ⟨oD, _, _, hoD, _, _⟩ := hns.count hw
  refine PySem.W.set_plain I.kIn (ox := { cls := .ref C, dict := some dx, data := .fields #[.ref t1, .none, .none, .none, .bool false, .none] }) (od := some oD) ⟨ho, rfl, rfl, hoD⟩ T.sa ?_
  refine osa_oldB O I.kIn ho hns hw (by rw [List.length_map]; omega) hcl (show refsT b.bm (.ref C :: bm) = true from hbm) rfl hno (fun h' tk' k hn => ?_)
  have hd : ∃ o, h'.get? dx = some o := by
    obtain ⟨o, _, _, e', _⟩ := hn
    exact ⟨o, e'⟩
  exact h _ (I.write (t' := tk') (x := dx) (e := dx) (o := exd dx ((f, y) :: fs)) (by rw [ed]; exact True.intro) (.inl rfl) k hd (exd_ok hn (relO_put ry rel)))
/-- B.__init__(self, ..): nothing of it is told -/
theorem oinitB_ok {us : List Value} {Q : Value → Shared → Prop} (O : b.Ok) (T : OexB X.K C b) (I : Inv X pins σ H s) (e : H a = some (exo a C none)) (hl : us.length ≤ sizeLine) (h : ∀ s', Inv X pins σ H s' → Q .none s') :
    wpAny (model X.prog X.w) A (call (.builtin b.initId) (.ref a :: us)) Q E s := by
  obtain ⟨nm, q, N, bs, bm, sn, sub, ab, col, dd, k0, k1, k2, k3, k5, hC, hbm⟩ := T.cls
  obtain ⟨t1, ho⟩ := exo_at I.hok e
  obtain ⟨hp, g, d, t, os⟩ := s
  refine wpAny_call (PySem.HandSPX.init_base O.F (fun Y => refsT_contains Y bm hbm) (I.kIn _ _ hC) ho hl fun h' t2 k hx => ?_)
  have J := I.write (t' := t) (x := a) (e := a) (o := exo a C none) (by rw [e]; exact True.intro) (.inl rfl) k ⟨_, hx⟩ (exo_ok hx)
  have eu : upd H a (exo a C none) = H := by
    funext b
    by_cases hb : b = a
    · rw [hb, upd_same, e]
    · rw [upd_ne hb]
  rw [eu] at J
  exact h _ J
end
/-- B.__init__(self, ..) -/
def tVeB (K : PySem.W.Frag) (b : XB) (ta : TA) : TE := fun σ H Q => ta σ H fun vs H1 => ∃ (a C : Addr) (ws : List V), vs = .ref a :: ws ∧ ws.length ≤ 1000 ∧ OexB K C b ∧ H1 a = some (exo a C none) ∧ Q .non H1
/-- self.f = e -/
def tOsB (K : PySem.W.Frag) (b : XB) (f : Str) (to te : TE) : TS := fun D σ H => te σ H fun y H1 => to σ H1 fun x H2 => ∃ a C : Addr, x = .ref a ∧ OexB K C b ∧ PySem.W.findIn K (.ref C) f = some none ∧
  ((H2 a = some (exo a C none) ∧ ∀ dx, H2 dx = none → dx ≠ a → D.nx σ (upd (upd H2 dx (exd dx [(f, y)])) a (exo a C (some dx)))) ∨
    ∃ (dx : Addr) (fs : List (Str × V)), H2 a = some (exo a C (some dx)) ∧ H2 dx = some (exd dx fs) ∧ fs.length ≤ 900 ∧ D.nx σ (upd H2 dx (exd dx ((f, y) :: fs))))
/-- C(e, ..) as a value, C's own __init__ keeping sp -/
def tExV (C : Addr) (sp : Sp) (ta : TA) : TE := fun σ H Q => ta σ H fun vs H1 => vs.length ≤ 1000 ∧ ∀ a, H1 a = none → sp (.ref a :: vs) (upd H1 a (exo a C none)) (fun v H2 => v = .non ∧ Q (.ref a) H2) (fun _ _ _ => False)
def tExK (C : Addr) (m : Nat) (sp : Sp) (gV : List V → List V → List V) (tk : TA) : TE := fun σ H Q => tk σ H fun zs H1 => zs.length = m ∧ ∀ a, H1 a = none → sp (gV [.ref a] zs) (upd H1 a (exo a C none)) (fun v H2 => v = .non ∧ Q (.ref a) H2) (fun _ _ _ => False)
section
variable {X : Cx} {o e : Expr} {es : List Expr} {to te : TE} {ta tk : TA} {f : Str} {p p' p1 p2 pos : Pos} {b : XB}
theorem pe_ownInitB {pl : Sem Bool} {x : Str} {B : Addr} (O : b.Ok) (hg : Gl X x) (hm : X.mg x = some (.ref B)) (r : ClX.CRead X.K B (.type "type")) (vV : PySem.W.findCls X.K (.ref B) (.type "type") "__init__" = some (.val (.builtin b.initId))) (ha : PA X (e :: es) ta)
    (hbi : PySem.W.handedIn (.builtin b.initId) = true := by decide +kernel)
    (hdb : (x == ("__debug__" : Str)) = false := by decide)
    (hc : eval (.Call (.Attribute (.Name x p1) "__init__" p2) (e :: es) [] pos) X.env = (do
      let ov ← eval (.Name x p1) X.env
      standAt p2.atName
      let (f, first) ← holding [ov] (getMethod ov "__init__" pl)
      callWith pos f first (backTo pos (starEach (e :: es) X.env)) (backToKw pos (keywordEach [] X.env))) := by rfl)
    (he : starEach (e :: es) X.env = (false, eval e X.env) :: starEach es X.env := by rfl) (hpl : (backTo pos (starEach es X.env)).any (·.1) = false := by rfl) :
    PE X (.Call (.Attribute (.Name x p1) "__init__" p2) (e :: es) [] pos) (tVeB X.K b ta) := by
  refine ⟨fun pins s σ H Q I h => ?_⟩
  refine PySem.W.methodCall_KW (ld_glob I hg hm ?_ hdb) hc
  refine PySem.W.method_cls I.kIn r.ga (PySem.W.cls_value I.kIn r.rd vV hbi ?_)
  show wpAny _ _ (callWith pos (Value.builtin b.initId) [] (backTo pos (starEach (e :: es) X.env)) []) _ _ _
  refine PyProof.Rows.callWith_method1 (thn (ha.run pos pins _ σ H _ (I.tok _) h) fun us s1 ⟨vs, H1, I1, r1, a, C, ws, ev, hl, T, ea, q⟩ => ?_) he hpl
  subst ev
  cases r1 with
  | @cons _ u0 _ ur ra rw' =>
    obtain rfl : u0 = Value.ref a := ra
    have hlen : ur.length ≤ sizeLine := by
      rw [← Paired.length rw', sizeLine_eq]
      omega
    exact oinitB_ok O T I1 ea hlen fun s' J => ⟨.non, H1, J, rfl, q⟩
theorem typ_RE : typeOf (.type "RuntimeError") = pure (.type "type") := by kernel_rfl
theorem pe_reinit {pl : Sem Bool} (hg : Gl X "RuntimeError") (hm : X.mg "RuntimeError" = none) (vV : PySem.W.findCls X.K (.type "RuntimeError") (.type "type") "__init__" = some (.val (.builtin "RuntimeError.__init__"))) (ha : PA X (e :: es) ta)
    (hc : eval (.Call (.Attribute (.Name "RuntimeError" p1) "__init__" p2) (e :: es) [] pos) X.env = (do
      let ov ← eval (.Name "RuntimeError" p1) X.env
      standAt p2.atName
      let (f, first) ← holding [ov] (getMethod ov "__init__" pl)
      callWith pos f first (backTo pos (starEach (e :: es) X.env)) (backToKw pos (keywordEach [] X.env))) := by rfl)
    (he : starEach (e :: es) X.env = (false, eval e X.env) :: starEach es X.env := by rfl) (hpl : (backTo pos (starEach es X.env)).any (·.1) = false := by rfl) :
    PE X (.Call (.Attribute (.Name "RuntimeError" p1) "__init__" p2) (e :: es) [] pos) (tVeB X.K xbR ta) := by
  refine ⟨fun pins s σ H Q I h => ?_⟩
  refine PySem.W.methodCall_KW (ld_blt I hg hm PyProof.Rows.Boot.«RuntimeError» ?_ (by decide) (by decide)) hc
  obtain ⟨m, fr⟩ := I.fr
  refine PySem.W.method_type fr I.ok.mod.kin typ_RE (by decide +kernel) vV (by decide +kernel) ?_
  show wpAny _ _ (callWith pos (Value.builtin "RuntimeError.__init__") [] (backTo pos (starEach (e :: es) X.env)) []) _ _ _
  refine PyProof.Rows.callWith_method1 (thn (ha.run pos pins _ σ H _ (I.tok _) h) fun us s1 ⟨vs, H1, I1, r1, a, C, ws, ev, hl, T, ea, q⟩ => ?_) he hpl
  subst ev
  cases r1 with
  | @cons _ u0 _ ur ra rw' =>
    obtain rfl : u0 = Value.ref a := ra
    have hlen : ur.length ≤ sizeLine := by
      rw [← Paired.length rw', sizeLine_eq]
      omega
    exact oinitB_ok (b := xbR) xbR_ok T I1 ea hlen fun s' J => ⟨.non, H1, J, rfl, q⟩
theorem ps_ostB (O : b.Ok) (ho : PE X o to) (he : PE X e te) (hs : swapsWith e (some (.Attribute o f p')) pos.line X.env = pure false := by rfl) : PS X (.Assign [.Attribute o f p'] e pos) (tOsB X.K b f to te) := by
  refine ⟨fun pins s σ H D I h => ?_⟩
  refine plainObj_wpAny_Assign_Attribute (thn (he.run pins s σ H _ I h) fun v s1 ⟨y, H1, I1, r1, q1⟩ => thn (ho.run pins s1 σ H1 _ I1 q1) fun u s2 ⟨x, H2, I2, r2, a, C, ex, T, hno, q⟩ => ?_) hs
  subst ex
  obtain rfl : u = Value.ref a := r2
  rcases q with ⟨ea, q⟩ | ⟨dx, fs, ea, ed, hl, q⟩
  · exact ostB_new O T I2 ea hno r1 fun dx s' n ne J => ⟨σ, _, J, q dx n ne⟩
  · exact ostB_old O T I2 ea ed hl hno r1 fun s' J => ⟨σ, _, J, q⟩
/-- the call of the class -/
theorem run_exV {CX : CXT} {C fI : Addr} {k : Nat} {fd : FuncData} {ps : List Str} {sp : Sp} {pins : List (Addr × Obj)} {σ : St} {H1 : Hp} {s1 : Shared} {Q : VK} {us : List Value} {kw : List (Str × Value)} {args : Addr → List Value} {vals : Addr → List V}
    (O : b.Ok) (T : OexB X.K C b) (iC : PySem.W.findIn X.K (.ref C) "__init__" = some (some (.ref fI))) (tI : PySem.W.typeIn X.K (.ref fI) = some (.type "function"))
    (F1 : FnOk X.prog X.w X.K X.mg X.base CX k fI fd ps sp) (hr : Room (k + 1) X.A) (hx : Passes CX X (fun _ _ _ => False)) (I1 : Inv X pins σ H1 s1) (hus : us.length ≤ sizeLine)
    (hb : ∀ a (s : Shared), X.K.In s.heap → BindsTo s fd ⟨.ref a :: us, kw⟩ (ps.zip (args a))) (r2 : ∀ a, Vals (vals a) (args a))
    (q1 : ∀ a, H1 a = none → sp (vals a) (upd H1 a (exo a C none)) (fun v H2 => v = .non ∧ Q (.ref a) H2) (fun _ _ _ => False)) :
    wpAny (model X.prog X.w) X.A (call (.ref C) us kw) (EP X pins σ Q) X.xe s1 := by
  obtain ⟨nm, q, N, bs, bm, sn, sub, ab, col, dd, k0, k1, k2, k3, k5, hC, hbm⟩ := T.cls
  obtain ⟨hp, g, dr, tk, os⟩ := s1
  have hsz : hp.objs.size ≤ hp.objs.size + 1 := Nat.le_succ _
  have hn : H1 (hp.objs.size + 1) = none := I1.hok.fresh hsz
  have hq := q1 (hp.objs.size + 1) hn
  have kk : ∀ b o, hp.get? b = some o → ((hp.push (PySem.W.kdv_tup us)).push (PySem.HandSPX.excO C hp.objs.size)).get? b = some o := fun b o e => Heap.get?_push_of_some _ (Heap.get?_push_of_some _ e)
  have hget : ((hp.push (PySem.W.kdv_tup us)).push (PySem.HandSPX.excO C hp.objs.size)).get? (hp.objs.size + 1) = some (PySem.HandSPX.excO C hp.objs.size) := by heap_get
  have I2 : Inv X pins σ (upd H1 (hp.objs.size + 1) (exo (hp.objs.size + 1) C none)) ⟨(hp.push (PySem.W.kdv_tup us)).push (PySem.HandSPX.excO C hp.objs.size), g, dr, tk, os⟩ :=
    I1.laid (t' := tk) (a := hp.objs.size + 1) (o := exo (hp.objs.size + 1) C none) (h' := (hp.push (PySem.W.kdv_tup us)).push (PySem.HandSPX.excO C hp.objs.size)) kk hsz (exo_ok hget)
  refine wpAny_call (call_ownK O.F (fun Y => refsT_contains Y bm hbm) (I1.kIn _ _ hC) (PySem.W.looks_findIn I1.kIn iC) (fun self => PySem.W.bind_fn I1.kIn self tI) hus
    (codeAny_mono (F1.run _ X.stack _ _ ⟨Value.ref (hp.objs.size + 1) :: us, kw⟩ (args (hp.objs.size + 1)) _ _ (fun _ _ _ => False) (hr.make C us kw) (I2.env0.make C us kw) (hb _ _ I2.kIn) (r2 _) hq) fun r s' hq' => ?_))
  cases r with
  | error er => exact hx pins σ _ _ er s' I2 hq'
  | ok fl =>
    cases fl with
    | ret u =>
      obtain ⟨v, H', I3, rv, ev, q3⟩ := I2.after hq'
      subst ev
      exact ⟨rv, ⟨V.ref (hp.objs.size + 1), H', I3, rfl, q3⟩⟩
    | next => exact False.elim hq'
    | brk => exact False.elim hq'
    | cont => exact False.elim hq'
theorem pe_exV {CX : CXT} {x : Str} {C fI : Addr} {k : Nat} {fd : FuncData} {ps : List Str} {sp : Sp} (O : b.Ok) (T : OexB X.K C b) (iC : PySem.W.findIn X.K (.ref C) "__init__" = some (some (.ref fI))) (tI : PySem.W.typeIn X.K (.ref fI) = some (.type "function"))
    (F1 : FnOk X.prog X.w X.K X.mg X.base CX k fI fd ps sp) (hr : Room (k + 1) X.A) (hb : Binds X.K fd ps []) (hx : Passes CX X (fun _ _ _ => False)) (hg : Gl X x) (hm : X.mg x = some (.ref C)) (ha : PA X (e :: es) ta)
    (hdb : (x == ("__debug__" : Str)) = false := by decide) (he : starEach (e :: es) X.env = (false, eval e X.env) :: starEach es X.env := by rfl) (hpl : (backTo pos (starEach es X.env)).any (·.1) = false := by rfl) :
    PE X (.Call (.Name x p) (e :: es) [] pos) (tExV C sp ta) := by
  refine ⟨fun pins s σ H Q I h => ?_⟩
  refine wpAny_Call_Name_kw (ld_glob I hg hm ?_ hdb)
  refine PySem.W.callWith_K (h₀ := X.base) I.ok.mod.kin T.kC (thn (ha.run pos pins s σ H _ I h) fun us s1 ⟨vs, H1, I1, r1, hz, q1⟩ => ⟨I1.kIn, ?_⟩) he hpl
  show wpAny _ _ (call (.ref C) us) _ _ _
  have hus : us.length ≤ sizeLine := by
    rw [← Paired.length r1, sizeLine_eq]
    omega
  have hl : ∀ a, (Value.ref a :: us).length = ps.length := fun a => by
    have q := q1 s1.heap.objs.size (I1.hok.fresh (Nat.le_refl _))
    have e1 := F1.len _ _ _ _ q
    have e2 := Paired.length r1
    rw [List.length_cons] at e1 ⊢
    rw [← e2]
    exact e1
  refine run_exV (args := fun a => .ref a :: us) (vals := fun a => .ref a :: vs) O T iC tI F1 hr hx I1 hus (fun a s hK => ?_) (fun a => .cons rfl r1) q1
  have z := hb s (.ref a :: us) hK (by rw [List.append_nil]; exact hl a)
  rw [List.append_nil] at z
  exact z
theorem pe_exV0 {CX : CXT} {x : Str} {C fI : Addr} {k : Nat} {fd : FuncData} {ps : List Str} {sp : Sp} (O : b.Ok) (T : OexB X.K C b) (iC : PySem.W.findIn X.K (.ref C) "__init__" = some (some (.ref fI))) (tI : PySem.W.typeIn X.K (.ref fI) = some (.type "function"))
    (F1 : FnOk X.prog X.w X.K X.mg X.base CX k fI fd ps sp) (hr : Room (k + 1) X.A) (hb : Binds X.K fd ps []) (hx : Passes CX X (fun _ _ _ => False)) (hg : Gl X x) (hm : X.mg x = some (.ref C))
    (hdb : (x == ("__debug__" : Str)) = false := by decide) : PE X (.Call (.Name x p) [] [] pos) (tExV C sp tNil) := by
  refine ⟨fun pins s σ H Q I h => ?_⟩
  refine wpAny_Call_Name_kw (ld_glob I hg hm ?_ hdb)
  refine PySem.W.callWith_K0 I.kIn T.kC ?_
  obtain ⟨_, q1⟩ := (show ([] : List V).length ≤ 1000 ∧ ∀ a, H a = none → sp (.ref a :: []) (upd H a (exo a C none)) (fun v H2 => v = .non ∧ Q (.ref a) H2) (fun _ _ _ => False) from h)
  have hl : ∀ a, [Value.ref a].length = ps.length := fun a => by
    have q := q1 s.heap.objs.size (I.hok.fresh (Nat.le_refl _))
    have e := F1.len _ _ _ _ q
    exact e
  refine run_exV (us := []) (kw := []) (args := fun a => [.ref a]) (vals := fun a => [.ref a]) O T iC tI F1 hr hx I (Nat.zero_le _) (fun a s hK => ?_) (fun a => .cons rfl .nil) q1
  have z := hb s [.ref a] hK (by rw [List.append_nil]; exact hl a)
  rw [List.append_nil] at z
  exact z
theorem pe_exK {CX : CXT} {x : Str} {C fI : Addr} {k : Nat} {fd : FuncData} {ps ks : List Str} {sp : Sp} {kws : List Keyword} {g : List Value → List Value → List Value} {gV : List V → List V → List V} (O : b.Ok) (T : OexB X.K C b) (iC : PySem.W.findIn X.K (.ref C) "__init__" = some (some (.ref fI))) (tI : PySem.W.typeIn X.K (.ref fI) = some (.type "function"))
    (F1 : FnOk X.prog X.w X.K X.mg X.base CX k fI fd ps sp) (hr : Room (k + 1) X.A) (hb : KBn X.K fd ps 1 ks g gV) (hx : Passes CX X (fun _ _ _ => False)) (hg : Gl X x) (hm : X.mg x = some (.ref C)) (hkw : PK X kws tk)
    (hall : (backToKw pos (keywordEach kws X.env)).all (·.1.isSome) = true := by rfl) (hks : (backToKw pos (keywordEach kws X.env)).filterMap (·.1) = ks := by rfl) (hdb : (x == ("__debug__" : Str)) = false := by decide)
    (hpl : ((backTo pos (starEach [] X.env)).any (·.1) || (backToKw pos (keywordEach kws X.env)).any (·.1.isNone)) = false := by rfl) :
    PE X (.Call (.Name x p) [] kws pos) (tExK C ks.length sp gV tk) := by
  refine ⟨fun pins s σ H Q I h => ?_⟩
  refine wpAny_Call_Name_kw (ld_glob I hg hm ?_ hdb)
  refine PySem.W.callWith_KW0 (h₀ := X.base) I.ok.mod.kin T.kC hall ?_ hpl
  refine thn (hkw.run pos pins s σ H _ I h) fun ws s2 ⟨zs, H2, I2, rz, l2, q2⟩ => ⟨I2.kIn, ?_⟩
  rw [hks]
  exact run_exV (us := []) (kw := ks.zip ws) (args := fun a => g [.ref a] ws) (vals := fun a => gV [.ref a] zs) O T iC tI F1 hr hx I2 (Nat.zero_le _)
    (fun a s hK => hb.to s [.ref a] ws hK rfl (rz.length.symm.trans l2)) (fun a => hb.rel (.cons rfl .nil) rz) q2

/-- raise C(e, ..) -/
theorem pmk_oexB {CX : CXT} {x : Str} {C fI : Addr} {k : Nat} {fd : FuncData} {ps : List Str} {sp : Sp} {ds : List Value} {dvs : List V} (O : b.Ok) (T : OexB X.K C b) (iC : PySem.W.findIn X.K (.ref C) "__init__" = some (some (.ref fI))) (tI : PySem.W.typeIn X.K (.ref fI) = some (.type "function"))
    (F1 : FnOk X.prog X.w X.K X.mg X.base CX k fI fd ps sp) (hr : Room (k + 1) X.A) (hb : Binds X.K fd ps ds) (hd : Vals dvs ds) (hx : Passes CX X (fun _ _ _ => False)) (hg : Gl X x) (hm : X.mg x = some (.ref C)) (ha : PA X (e :: es) ta)
    (hdb : (x == ("__debug__" : Str)) = false := by decide) (he : starEach (e :: es) X.env = (false, eval e X.env) :: starEach es X.env := by rfl) (hpl : (backTo pos (starEach es X.env)).any (·.1) = false := by rfl) :
    PMk X (.Call (.Name x p) (e :: es) [] pos) (tMkO C sp dvs ta) := by
  intro pins s σ H Q I h
  obtain ⟨nm, q, N, bs, bm, sn, sub, ab, col, dd, k0, k1, k2, k3, k5, hC, hbm⟩ := T.cls
  refine wpAny_Call_Name_kw (ld_glob I hg hm ?_ hdb)
  refine PySem.W.callWith_K (h₀ := X.base) I.ok.mod.kin T.kC (thn (ha.run pos pins s σ H _ I h) fun us s1 ⟨vs, H1, I1, r1, hz, q1⟩ => ⟨I1.kIn, ?_⟩) he hpl
  show wpAny _ _ (call (.ref C) us) _ _ _
  obtain ⟨hp, g, dr, tk, os⟩ := s1
  have hsz : hp.objs.size ≤ hp.objs.size + 1 := Nat.le_succ _
  have hn : H1 (hp.objs.size + 1) = none := I1.hok.fresh hsz
  have hq := q1 (hp.objs.size + 1) hn
  have kk : ∀ b o, hp.get? b = some o → ((hp.push (PySem.W.kdv_tup us)).push (PySem.HandSPX.excO C hp.objs.size)).get? b = some o := fun b o e => Heap.get?_push_of_some _ (Heap.get?_push_of_some _ e)
  have hget : ((hp.push (PySem.W.kdv_tup us)).push (PySem.HandSPX.excO C hp.objs.size)).get? (hp.objs.size + 1) = some (PySem.HandSPX.excO C hp.objs.size) := by heap_get
  have I2 : Inv X pins σ (upd H1 (hp.objs.size + 1) (exo (hp.objs.size + 1) C none)) ⟨(hp.push (PySem.W.kdv_tup us)).push (PySem.HandSPX.excO C hp.objs.size), g, dr, tk, os⟩ :=
    I1.laid (t' := tk) (a := hp.objs.size + 1) (o := exo (hp.objs.size + 1) C none) (h' := (hp.push (PySem.W.kdv_tup us)).push (PySem.HandSPX.excO C hp.objs.size)) kk hsz (exo_ok hget)
  have r2 : Vals (V.ref (hp.objs.size + 1) :: (vs ++ dvs)) (Value.ref (hp.objs.size + 1) :: (us ++ ds)) := .cons rfl (r1.append hd)
  have hl : (Value.ref (hp.objs.size + 1) :: us ++ ds).length = ps.length := by
    have e := r2.length
    rw [F1.len _ _ _ _ hq] at e
    exact e.symm
  have hus : us.length ≤ sizeLine := by
    rw [← Paired.length r1, sizeLine_eq]
    omega
  refine wpAny_call (call_ownK O.F (fun Y => refsT_contains Y bm hbm) (I1.kIn _ _ hC) (PySem.W.looks_findIn I1.kIn iC) (fun self => PySem.W.bind_fn I1.kIn self tI) hus
    (codeAny_mono (F1.run _ X.stack _ _ ⟨Value.ref (hp.objs.size + 1) :: us, []⟩ (Value.ref (hp.objs.size + 1) :: (us ++ ds)) _ _ (fun _ _ _ => False) (hr.make C us []) (I2.env0.make C us []) (hb _ (Value.ref (hp.objs.size + 1) :: us) I2.kIn hl) r2 hq) fun r s' hq' => ?_))
  cases r with
  | error er => exact hx pins σ _ _ er s' I2 hq'
  | ok fl =>
    cases fl with
    | ret u =>
      obtain ⟨v, H2, os2, bare2, un2, hok2, rv, ev, d, fs, ea, ed, hd1, q2⟩ := hq'
      subst ev
      obtain ⟨h2, g2, d2, t2, os'⟩ := s'
      exact ⟨rv, mk_end (raises_own T.exC T.tyC) I1 hsz kk un2 hok2 os2 bare2 ea ed hd1 q2⟩
    | next => exact False.elim hq'
    | brk => exact False.elim hq'
    | cont => exact False.elim hq'
end
/-- at a stands an exception of the class at C, its dict at d -/
def isX (H : Hp) (a C : Addr) (d : Option Addr) : Prop := H a = some (exo a C d) ∨ H a = some (xo a (.ref C) d)
theorem isX_at {P : Program} {w : World} {H : Hp} {h : Heap} {a C : Addr} {d : Option Addr} (hok : HOk P w H h) (he : isX H a C d) : ∃ oe vs, h.get? a = some oe ∧ Zc (.ref C) d oe ∧ oe.data = .fields vs := by
  rcases he with he | he
  · obtain ⟨t1, e⟩ := exo_at hok he
    exact ⟨_, _, e, ⟨rfl, rfl⟩, rfl⟩
  · exact xo_at hok he
/-- err.f -/
def tXoB (K : PySem.W.Frag) (f : Str) (te : TE) : TE := fun σ H Q => te σ H fun x H1 => ∃ (a C dd : Addr) (fs : List (Str × V)) (v : V), x = .ref a ∧ isX H1 a C (some dd) ∧ XfC K C ∧ PySem.W.findIn K (.ref C) f = some none ∧ (H1 dd = some (.xd fs) ∨ H1 dd = some (exd dd fs)) ∧ fs.lookup f = some v ∧ Q v H1
section
variable {X : Cx}
theorem pe_xoB {e : Expr} {te : TE} {pos : Pos} {f : Str} (he : PE X e te) (hb : attributeBase e f X.env (eval e X.env) = eval e X.env := by rfl) : PE X (.Attribute e f pos) (tXoB X.K f te) := by
  refine ⟨fun pins s σ H Q I h => ?_⟩
  refine attr_of hb (thn (he.run pins s σ H _ I h) fun u s1 hh => ?_)
  obtain ⟨x, H1, I1, rx, a, C, dd, fs, v, ex, ea, T, hno, ed, l, q⟩ := hh
  subst ex
  obtain rfl : u = Value.ref a := rx
  obtain ⟨oe, vs, ha, hz, hd⟩ := isX_at I1.hok ea
  have hx : ∃ mA, s1.heap.Ns1 dd mA ∧ ∀ f, RelO (fs.lookup f) (mA f) := by
    rcases ed with ed | ed
    · exact I1.hok dd _ ed
    · exact exd_at I1.hok ed
  obtain ⟨mA, hns, hr⟩ := hx
  obtain ⟨od, ho, hl⟩ := lookIn_ns hns
  obtain ⟨u, hu, ru⟩ := RelO.some_of (v := v) (o := mA f) (by rw [← l]; exact hr f)
  have J : PySem.W.InstAt s1.heap a oe C (some od) := ⟨ha, hz.1, by unfold PySem.W.notCls; rw [hd] <;> rfl, by rw [hz.2]; exact ho⟩
  exact HandSPX.exc_get I1.kIn J T.ga T.gg T.exC (PySem.W.findObj_own T.hdC hno rfl (by rw [hl, hu])) (handed_of ru) ⟨v, H1, I1.tok _, ru, q⟩
end
end L2
namespace PySem.W
open PySem PySem.Spec PySem.Calls PyProof.Rows
section
variable {prog : Program} {w : World} {A : Around} {E : Value → Shared → Prop} {s : Shared} {K : Frag} {x D : Addr} {ox : Obj} {od : Option Obj}
theorem findObj_dataO {C : Addr} {name : Str} {a g : Value} (hc : (clsIn K C).isSome = true) (ha : findIn K (.ref C) name = some (some a)) (hg : specialIn K a "__get__" = some (some g)) (ht : takesIn K a = some true) : findObj K C od name = some (.bind g a) := by
  obtain ⟨cd, hc⟩ := Option.isSome_iff_exists.mp hc
  unfold findObj
  rw [hc, Option.bind_some, ha, Option.bind_some]
  simp [hg, ht]
theorem kin_classO {Q : Option Value → Shared → Prop} (hga : findIn K (.ref D) "__getattribute__" = some (some (.builtin "BaseException.__getattribute__"))) (hgt : findIn K (.ref D) "__getattr__" = some none) (hsub : subIn K (.ref D) (.type "BaseException") = some true)
    (hdct : hasDictIn K D = true) (ha : findIn K (.ref D) "__class__" = some (some (.builtin "object.__class__")))
    (hn : specialIn K (.builtin "object.__class__") "__get__" = some (some (.builtin "getset_descriptor.__get__"))) (htk : takesIn K (.builtin "object.__class__") = some true) (hm : mroIn K D (.type "object") = some true)
    (X : K.In s.heap) (I : InstAt s.heap x ox D od) (h : Q (some (.ref D)) { s with toks := s.toks + 1 }) : wpAny (model prog w) A (getAttr? (.ref x) "__class__") Q E s := by
  have hf : findObj K D od "__class__" = some (.bind (.builtin "getset_descriptor.__get__") (.builtin "object.__class__")) := findObj_dataO (by obtain ⟨cd, hc, _⟩ := any_some hdct; rw [hc]; rfl) ha hn htk
  obtain ⟨hp, g, d, t, os⟩ := s
  have L0 := I.type (M := model prog w)
  have L1 := looks_findIn (M := model prog w) X hga
  have L2 := looks_findIn (M := model prog w) X hgt
  have L3 := looks_find (M := model prog w) X I hf
  have sub : Looks (model prog w) hp (isInstance (.ref x) (.type "BaseException")) true := L0.andThen (looks_subIn X hsub)
  have hx0 : (false && onTheHeap (Value.builtin "BaseException.__getattribute__")) = false := rfl
  have hx2 : (Value.builtin "BaseException.__getattribute__" == Value.builtin "object.__getattribute__") = false := by decide +kernel
  have hx1 : (onTheHeap (Value.ref D) && Value.builtin "BaseException.__getattribute__" == Value.builtin "object.__getattribute__") = false := by rw [hx2]; rfl
  unfold getAttr? getAttrBy? getAttrBy
  refine wpAny_bind (wpAny_mkText (wpAny_bind (wpAny_attempt (wpAny_holding (wpAny_bind (L0.at (wpAny_bind (L1.at ?_))))))))
  show wpAny _ _ (if (onTheHeap (Value.ref D) && Value.builtin "BaseException.__getattribute__" == Value.builtin "object.__getattribute__") = true then _ else _) _ _ _
  rw [hx1, if_neg Bool.false_ne_true]
  unfold getAttrByItsOwn hookBefore
  refine wpAny_bind ?_
  rw [if_pos (show onTheHeap (Value.ref D) = true from rfl)]
  refine L2.at ?_
  refine wpAny_bind (wpAny_attempt (wpAny_holding ?_))
  unfold callGetattribute
  rw [hx0, if_neg Bool.false_ne_true]
  unfold boundAndCalled
  rw [PySem.F.excAttr_ValueError.ga.bind (.ref x)]
  refine wpAny_bind (wpAny_pure ?_)
  show wpAny _ _ (call (.builtin "BaseException.__getattribute__") [.ref x, .str "__class__" t]) _ _ _
  refine wpAny_call (codeAny_call_builtin PySem.F.excAttr_ValueError.ga.plain PySem.F.entry_bexc_ga ?_)
  refine @check_slot (model prog w) _ _ ⟨hp, g, d, t + 1, os⟩ "BaseException.__getattribute__" "BaseException" "__getattribute__" (.ref x) [.str "__class__" t] [] _ (by decide +kernel) (by decide +kernel) sub (PySem.F.args_bexc_ga (.ref x) (.str "__class__" t)) ?_
  unfold Builtin.«object.__getattribute__»
  refine wpAny_bind (wpAny_of_eq (a := ((Value.ref x : Value), [Value.str "__class__" t])) (by first | rfl | (simp only [slotArgs]; rfl)) ?_)
  refine wpAny_bind (wpAny_pure (wpAny_bind (L0.at (wpAny_bind (L3.at ?_)))))
  show wpAny _ _ (holding [Value.builtin "object.__class__"] (call (.builtin "getset_descriptor.__get__") [.builtin "object.__class__", .ref x, .ref D]) >>= ret) _ _ _
  refine wpAny_bind (wpAny_holding (wpAny_call (class_get (s := ⟨hp, g, d, t + 1, os⟩) (ox := ox) (od := od) X I hm ?_)))
  refine wpAny_pure ?_
  show wpAny _ _ (handedOut (.ref D)) _ _ _
  rw [handedOut_of (v := .ref D) rfl]
  first
    | exact wpAny_pure (wpAny_pure h)
    | exact wpAny_pure h
    | exact wpAny_pure (wpAny_bind (wpAny_pure (wpAny_pure h)))
theorem kitx_excO (hga : findIn K (.ref D) "__getattribute__" = some (some (.builtin "BaseException.__getattribute__"))) (hgt : findIn K (.ref D) "__getattr__" = some none) (hsub : subIn K (.ref D) (.type "BaseException") = some true) (hdct : hasDictIn K D = true) (ha : findIn K (.ref D) "__class__" = some (some (.builtin "object.__class__")))
    (hn : specialIn K (.builtin "object.__class__") "__get__" = some (some (.builtin "getset_descriptor.__get__"))) (htk : takesIn K (.builtin "object.__class__") = some true) (hm : mroIn K D (.type "object") = some true) :
    KitX K (.ref x) (.ref D) (fun h => ∃ ox od, InstAt h x ox D od) where
  ty := fun _ _ _ ⟨_, _, I⟩ => I.type
  it := fun _ _ X _ => by
    obtain ⟨cdD, hcD, _⟩ := any_some hdct
    unfold clsIn at hcD
    split at hcD
    · rename_i c' d' cd' sl' ho
      intro A' Q' E' s' k q
      unfold isType loadHead
      exact wpAny_bind (wpAny_loadPart (k _ _ (X _ _ ho)) (wpAny_pure q))
    · cases hcD
  ne := fun h tp dd its n sl X htp => by
    obtain ⟨cdD, hcD, _⟩ := any_some hdct
    refine Bool.eq_false_iff.mpr fun q => ?_
    have e : D = tp := Value.ref.inj (beq_iff_eq.mp q)
    subst e
    unfold clsIn at hcD
    split at hcD
    · rename_i c' d' cd' sl' ho
      have z := (X _ _ ho).symm.trans htp
      cases z
    · cases hcD
  ca := fun X ⟨ox, od, I⟩ k => kin_classO hga hgt hsub hdct ha hn htk hm X I k
end
end PySem.W
namespace L2
open PySem PySem.Spec PyProof.Rows PySem.OXB
/-- isinstance(e, c), e an exception that stands -/
def rIsX (K : PySem.W.Frag) : List V → Hp → VK → Prop := fun xs H Q => ∃ (a D : Addr) (d : Option Addr) (c : V) (cv : Value) (b : Bool), xs = [.ref a, c] ∧ isX H a D d ∧ (∀ dd, d = some dd → ∃ fs, H dd = some (.xd fs) ∨ H dd = some (exd dd fs)) ∧ ExcC K D ∧ (∀ u, RelV c u → u = cv) ∧ PySem.W.kitOne K (.ref D) cv = some b ∧ Q (.bl b) H
theorem call_isX {X : Cx} : CallR X (.builtin "isinstance") (rIsX X.K) := by
  intro pins s σ H xs us Q I r h
  obtain ⟨a, D, d, c, cv, b, rfl, ha, hdd, C, hcv, e, q⟩ := h
  cases r with
  | cons rx rr =>
    cases rr with
    | cons rt rr =>
      cases rr
      cases rx
      have ec := hcv _ rt
      subst ec
      obtain ⟨oe, vs, hget, hz, hv⟩ := isX_at I.hok ha
      have J : ∃ ox od, PySem.W.InstAt s.heap a ox D od := by
        cases d with
        | none => exact ⟨oe, none, hget, hz.1, by unfold PySem.W.notCls; rw [hv] <;> rfl, by rw [hz.2]; trivial⟩
        | some dd =>
          obtain ⟨fs, ed⟩ := hdd dd rfl
          have hx : ∃ mA, s.heap.Ns1 dd mA ∧ ∀ f, RelO (fs.lookup f) (mA f) := by
            rcases ed with ed | ed
            · exact I.hok dd _ ed
            · exact exd_at I.hok ed
          obtain ⟨mA, hns, _⟩ := hx
          obtain ⟨od, ho, _⟩ := lookIn_ns hns
          exact ⟨oe, some od, hget, hz.1, by unfold PySem.W.notCls; rw [hv] <;> rfl, by rw [hz.2]; exact ho⟩
      exact PySem.W.kia_one (PySem.W.kitx_excO C.hg C.hk C.hs C.hd C.ha C.hn C.ht C.hm) I.kIn J e (fun z => nomatch z) fun tk => ⟨.bl b, H, I.kept (t' := tk) fun _ _ z => z, rfl, q⟩
end L2
set_option maxHeartbeats 1000000
namespace Tr
open PySem PySem.Spec PyProof.Rows L2
def tkG (K : PySem.W.Frag) (x : Str) : Tok := match PySem.W.nsIn K mainGlobals x with
  | some (some (.int _ t)) => t
  | some (some (.str _ t)) => t
  | _ => 0
def tkC (K : PySem.W.Frag) (C : Addr) (x : Str) : Tok := match PySem.W.findIn K (.ref C) x with
  | some (some (.int _ t)) => t
  | some (some (.str _ t)) => t
  | _ => 0
/-- where a thing stands: a global's name, a class and its method; the def of a classmethod -/
def pl (p : Str × Option Str) (K : PySem.W.Frag) : Addr := He.fAd K p
def plc (C m : Str) (K : PySem.W.Frag) : Addr := He5.wf K (He.ga K C) "classmethod" m
def fdG (K : PySem.W.Frag) (p : Addr) : FuncData := match K.lookup p with
  | some ⟨_, _, .func fd, _⟩ => fd
  | _ => default
inductive Fx where
  | fa (f : He.Fa)
  | tup (x : Str) (vs : List Str)
  | noats (C : Str) (fs : List Str)
  | con (C f : Str) (i : Int)
  | cread (C : Str)
  | cinit (C : Str) (id : String)
  | cval (C f : Str) (i : Int)
  | oex (C : Str)
  | xf (C : Str)
  | init (C : Str)
  | oexb (C : Str) (b : PySem.OXB.XB)
  | excc (C : Str)
  | cinitT (T id : String)
  | kits (ns : List Str)
  | kitc (ns : List Str) (C : Str) (n : Nat)
  | kitt (ns : List Str) (T : String) (n : Nat) (ge : Bool)
  | kit (C D : Str) (b : Bool)
  | cm (C m : Str)
  | ins (C : Str)
  | kitn (C : Str) (Ts : List String)
def oexbB (K : PySem.W.Frag) (C : Addr) (b : PySem.OXB.XB) : Bool := (match K.lookup C with
  | some ⟨.type t, _, .cls cd, sl⟩ => (match cd.mro, sl.toList with
    | .ref C' :: bm, [_, _, _, _, some (.builtin n), _] => decide (t = "type") && (decide (C' = C) && (decide (n = b.newId) && (!cd.hasDel && (cd.hasDict && PySem.OXB.refsT b.bm bm))))
    | _, _ => false)
  | _ => false) && (He.eqO (PySem.W.findIn K (.ref C) "__setattr__") (some (some (.builtin "object.__setattr__"))) && (decide (PySem.W.subIn K (.ref C) (.type "BaseException") = some true) && (decide (PySem.W.typeIn K (.ref C) = some (.type "type")) && PySem.W.keepIn K (.ref C))))
def exccB (K : PySem.W.Frag) (C : Addr) : Bool := He.eqO (PySem.W.findIn K (.ref C) "__getattribute__") (some (some (.builtin "BaseException.__getattribute__"))) && (He.eqO (PySem.W.findIn K (.ref C) "__getattr__") (some none) && (decide (PySem.W.subIn K (.ref C) (.type "BaseException") = some true) && (PySem.W.hasDictIn K C &&
  (He.eqO (PySem.W.findIn K (.ref C) "__class__") (some (some (.builtin "object.__class__"))) && (He.eqO (PySem.W.specialIn K (.builtin "object.__class__") "__get__") (some (some (.builtin "getset_descriptor.__get__"))) && (decide (PySem.W.takesIn K (.builtin "object.__class__") = some true) && decide (PySem.W.mroIn K C (.type "object") = some true)))))))
def cinitTB (K : PySem.W.Frag) (T id : String) : Bool := match PySem.W.findCls K (.type T) (.type "type") "__init__" with
  | some (.val (.builtin s)) => decide (s = id)
  | _ => false
def oexB (K : PySem.W.Frag) (C : Addr) : Bool := (match K.lookup C with
  | some ⟨.type t, _, .cls cd, sl⟩ => (match cd.mro, sl.toList with
    | .ref C' :: bm, [_, _, _, _, some (.builtin n), _] => decide (t = "type") && (decide (C' = C) && (decide (n = "ValueError.__new__") && (!cd.hasDel && (cd.hasDict && PySem.HandSPX.refsVE bm))))
    | _, _ => false)
  | _ => false) && (He.eqO (PySem.W.findIn K (.ref C) "__setattr__") (some (some (.builtin "object.__setattr__"))) && (decide (PySem.W.subIn K (.ref C) (.type "BaseException") = some true) && (decide (PySem.W.typeIn K (.ref C) = some (.type "type")) && PySem.W.keepIn K (.ref C))))
def conB (K : PySem.W.Frag) (C : Addr) (f : Str) (i : Int) : Bool := match PySem.W.findIn K (.ref C) f with
  | some (some (.int j t)) => decide (j = i) && (He.eqO (PySem.W.specialIn K (.int j t) "__get__") (some none) && !(PySem.W.copiedNames.contains f))
  | _ => false
def tkV (K : PySem.W.Frag) (C : Addr) (x : Str) : Tok := match PySem.W.findCls K (.ref C) (.type "type") x with
  | some (.val (.int _ t)) => t
  | _ => 0
def cvalB (K : PySem.W.Frag) (C : Addr) (f : Str) (i : Int) : Bool := match PySem.W.findCls K (.ref C) (.type "type") f with
  | some (.val (.int j _)) => decide (j = i)
  | _ => false
def cinitB (K : PySem.W.Frag) (C : Addr) (id : String) : Bool := match PySem.W.findCls K (.ref C) (.type "type") "__init__" with
  | some (.val (.builtin s)) => decide (s = id)
  | _ => false
def Fx.ok (K : PySem.W.Frag) : Fx → Bool
  | .fa f => f.ok K
  | .tup x vs => He.tupB K x (vs.map He.Dv.str) && He.eqO (PySem.W.nsIn K mainGlobals x) (some (some (.ref (He.ga K x))))
  | .noats C fs => fs.all fun f => He.eqO (PySem.W.findIn K (.ref (He.ga K C)) f) (some none)
  | .con C f i => conB K (He.ga K C) f i
  | .cread C => PySem.W.readsIn K (He.ga K C) (.type "type") && He.eqO (PySem.W.specialIn K (.ref (He.ga K C)) "__getattribute__") (some (some (.builtin "type.__getattribute__")))
  | .cinit C id => cinitB K (He.ga K C) id
  | .cval C f i => cvalB K (He.ga K C) f i
  | .oex C => oexB K (He.ga K C)
  | .xf C => L2.xfB K (He.ga K C)
  | .init C => He.eqO (PySem.W.findIn K (.ref (He.ga K C)) "__init__") (some (some (.ref (He.ma K (He.ga K C) "__init__")))) && decide (PySem.W.typeIn K (.ref (He.ma K (He.ga K C) "__init__")) = some (.type "function"))
  | .oexb C b => oexbB K (He.ga K C) b
  | .excc C => exccB K (He.ga K C)
  | .cinitT T id => cinitTB K T id
  | .kits ns => (List.range ns.length).all fun i => (List.range ns.length).all fun j => decide (PySem.W.kitOne K (.ref (He.ga K (ns.getD i ""))) (.ref (He.ga K (ns.getD j ""))) = some (decide (i = j)))
  | .kitc ns C n => (List.range ns.length).all fun i => decide (PySem.W.kitOne K (.ref (He.ga K (ns.getD i ""))) (.ref (He.ga K C)) = some (decide (i < n)))
  | .kitt ns T n ge => (List.range ns.length).all fun i => decide (PySem.W.kitOne K (.ref (He.ga K (ns.getD i ""))) (.type T) = some (if ge then decide (n ≤ i) else decide (i < n)))
  | .kit C D b => decide (PySem.W.kitOne K (.ref (He.ga K C)) (.ref (He.ga K D)) = some b)
  | .ins C => He.eqO (PySem.W.findIn K (.ref (He.ga K C)) "__class__") (some (some (.builtin "object.__class__"))) && (He.eqO (PySem.W.specialIn K (.builtin "object.__class__") "__get__") (some (some (.builtin "getset_descriptor.__get__"))) && (decide (PySem.W.takesIn K (.builtin "object.__class__") = some true) && decide (PySem.W.mroIn K (He.ga K C) (.type "object") = some true)))
  | .kitn C Ts => Ts.all fun T => decide (PySem.W.kitOne K (.type T) (.ref (He.ga K C)) = some false) && PySem.W.notFirst K (He.ga K C) (.type T)
  | .cm C m => He5.wrapB K (He.ga K C) "classmethod" "classmethod.__get__" m && PySem.W.fnIn K (He5.wf K (He.ga K C) "classmethod" m)
section
variable {K : PySem.W.Frag} {h : Heap} {mg : Str → Option Value}
theorem fx_int (X : K.In h) (G : h.Ns mainGlobals mg) {x : Str} {i : Int} (c : (Fx.fa (.int x i)).ok K = true) : mg x = some (.int i (tkG K x)) := by
  have c2 : (match PySem.W.nsIn K mainGlobals x with
    | some (some (.int j _)) => decide (j = i)
    | _ => false) = true := c
  unfold tkG
  split at c2
  · rename_i j t e
    have ej : j = i := of_decide_eq_true c2
    subst ej
    rw [e]
    exact PySem.W.mg_of X G e
  · cases c2
theorem fx_str (X : K.In h) (G : h.Ns mainGlobals mg) {x z : Str} (c : (Fx.fa (.str x z)).ok K = true) : mg x = some (.str z (tkG K x)) := by
  have c2 : (match PySem.W.nsIn K mainGlobals x with
    | some (some (.str y _)) => decide (y = z)
    | _ => false) = true := c
  unfold tkG
  split at c2
  · rename_i j t e
    have ej : j = z := of_decide_eq_true c2
    subst ej
    rw [e]
    exact PySem.W.mg_of X G e
  · cases c2
theorem fx_glo (X : K.In h) (G : h.Ns mainGlobals mg) {x : Str} (c : (Fx.fa (.glo x)).ok K = true) : mg x = some (.ref (He.ga K x)) := He.glo_ok X G c
theorem fx_free (X : K.In h) (G : h.Ns mainGlobals mg) {x : Str} (c : (Fx.fa (.free x)).ok K = true) : mg x = none := He.free_ok X G c
theorem fx_cls {x : Str} (c : (Fx.fa (.cls x)).ok K = true) : Cls K (He.ga K x) := He.cls_ok c
theorem fx_meth {x m : Str} (c : (Fx.fa (.meth x m)).ok K = true) : Meth K (He.ga K x) m (He.ma K (He.ga K x) m) := He.meth_ok c
theorem fx_mkr {x : Str} (c : (Fx.fa (.mkr x)).ok K = true) : Mk K (He.ga K x) (He.ma K (He.ga K x) "__init__") := He.mkr_ok c
theorem fx_exm {x y : Str} {b : Bool} (c : (Fx.fa (.exm x y b)).ok K = true) : PySem.W.exmOne K (.ref (He.ga K x)) (.ref (He.ga K y)) = some b := He.exm_ok c
theorem fx_tup {x : Str} {vs : List Str} (c : (Fx.tup x vs).ok K = true) (H : Hp) : SqT K H (He.ga K x) (vs.map V.str) := by
  have c1 := (He.ba c).1
  have e := He.tupB_ok c1 H
  rw [List.map_map] at e
  exact e
theorem fx_tupG (X : K.In h) (G : h.Ns mainGlobals mg) {x : Str} {vs : List Str} (c : (Fx.tup x vs).ok K = true) : mg x = some (.ref (He.ga K x)) := PySem.W.mg_of X G (He.eqO_ok (He.ba c).2)
theorem fx_noats {C : Str} {fs : List Str} (c : (Fx.noats C fs).ok K = true) (f : Str) (hf : f ∈ fs) : PySem.W.findIn K (.ref (He.ga K C)) f = some none := He.eqO_ok (List.all_eq_true.mp c f hf)
theorem fx_cval {C f : Str} {i : Int} (c : (Fx.cval C f i).ok K = true) : ClX.CVal K (He.ga K C) (.type "type") f (.int i) (.int i (tkV K (He.ga K C) f)) := by
  have c2 : cvalB K (He.ga K C) f i = true := c
  unfold cvalB at c2
  unfold tkV
  split at c2
  · rename_i j t e
    have ej : j = i := of_decide_eq_true c2
    subst ej
    exact ⟨e, ⟨t, rfl⟩⟩
  · cases c2
theorem fx_con {C f : Str} {i : Int} (c : (Fx.con C f i).ok K = true) : Con K (He.ga K C) f (.int i) (.int i (tkC K (He.ga K C) f)) := by
  have c2 : conB K (He.ga K C) f i = true := c
  unfold conB at c2
  unfold tkC
  split at c2
  · rename_i j t e
    obtain ⟨h1, h2⟩ := He.ba c2
    obtain ⟨h3, h4⟩ := He.ba h2
    have ej : j = i := of_decide_eq_true h1
    subst ej
    rw [e]
    exact ⟨e, ⟨t, rfl⟩, He.eqO_ok h3, by simpa using h4⟩
  · cases c2
theorem fx_cread {C : Str} (c : (Fx.cread C).ok K = true) : ClX.CRead K (He.ga K C) (.type "type") := ⟨(He.ba c).1, He.eqO_ok (He.ba c).2⟩
theorem fx_cinit {C : Str} {id : String} (c : (Fx.cinit C id).ok K = true) : PySem.W.findCls K (.ref (He.ga K C)) (.type "type") "__init__" = some (.val (.builtin id)) := by
  have c2 : cinitB K (He.ga K C) id = true := c
  unfold cinitB at c2
  split at c2
  · rename_i s e
    have es : s = id := of_decide_eq_true c2
    subst es
    exact e
  · cases c2
theorem fx_oex {C : Str} (c : (Fx.oex C).ok K = true) : OexC K (He.ga K C) := by
  have c2 : oexB K (He.ga K C) = true := c
  unfold oexB at c2
  obtain ⟨h1, h2⟩ := He.ba c2
  obtain ⟨h3, h4⟩ := He.ba h2
  obtain ⟨h5, h6⟩ := He.ba h4
  obtain ⟨h7, h8⟩ := He.ba h6
  refine ⟨?_, He.eqO_ok h3, of_decide_eq_true h5, of_decide_eq_true h7, h8⟩
  split at h1
  · rename_i t dd cd sl ho
    split at h1
    · rename_i C' bm k0 k1 k2 k3 n k5 hm hs
      obtain ⟨g1, g⟩ := He.ba h1
      obtain ⟨g2, g⟩ := He.ba g
      obtain ⟨g3, g⟩ := He.ba g
      obtain ⟨g4, g⟩ := He.ba g
      obtain ⟨g5, g6⟩ := He.ba g
      have e1 : t = "type" := of_decide_eq_true g1
      have e2 : C' = He.ga K C := of_decide_eq_true g2
      have e3 : n = "ValueError.__new__" := of_decide_eq_true g3
      have e4 : cd.hasDel = false := by simpa using g4
      subst e1 e2 e3
      obtain ⟨nm, bs, mro, ns, qn, hd, sn, sub, ab, col, del⟩ := cd
      have hm' : mro = .ref (He.ga K C) :: bm := hm
      have e4' : del = false := e4
      have e5 : hd = true := g5
      subst hm' e4' e5
      have hsl : sl = #[k0, k1, k2, k3, some (.builtin "ValueError.__new__"), k5] := by
        cases sl with
        | mk l =>
          have hl : l = [k0, k1, k2, k3, some (.builtin "ValueError.__new__"), k5] := hs
          rw [hl]
      subst hsl
      exact ⟨nm, qn, ns, bs, bm, sn, sub, ab, col, dd, k0, k1, k2, k3, k5, ho, g6⟩
    · cases h1
  · cases h1
theorem fx_oexb {C : Str} {b : PySem.OXB.XB} (c : (Fx.oexb C b).ok K = true) : OexB K (He.ga K C) b := by
  have c2 : oexbB K (He.ga K C) b = true := c
  unfold oexbB at c2
  obtain ⟨h1, h2⟩ := He.ba c2
  obtain ⟨h3, h4⟩ := He.ba h2
  obtain ⟨h5, h6⟩ := He.ba h4
  obtain ⟨h7, h8⟩ := He.ba h6
  refine ⟨?_, He.eqO_ok h3, of_decide_eq_true h5, of_decide_eq_true h7, h8⟩
  split at h1
  · rename_i t dd cd sl ho
    split at h1
    · rename_i C' bm k0 k1 k2 k3 n k5 hm hs
      obtain ⟨g1, g⟩ := He.ba h1
      obtain ⟨g2, g⟩ := He.ba g
      obtain ⟨g3, g⟩ := He.ba g
      obtain ⟨g4, g⟩ := He.ba g
      obtain ⟨g5, g6⟩ := He.ba g
      have e1 : t = "type" := of_decide_eq_true g1
      have e2 : C' = He.ga K C := of_decide_eq_true g2
      have e3 : n = b.newId := of_decide_eq_true g3
      have e4 : cd.hasDel = false := by simpa using g4
      subst e1 e2 e3
      obtain ⟨nm, bs, mro, ns, qn, hd, sn, sub, ab, col, del⟩ := cd
      have hm' : mro = .ref (He.ga K C) :: bm := hm
      have e4' : del = false := e4
      have e5 : hd = true := g5
      subst hm' e4' e5
      have hsl : sl = #[k0, k1, k2, k3, some (.builtin b.newId), k5] := by
        cases sl with
        | mk l =>
          have hl : l = [k0, k1, k2, k3, some (.builtin b.newId), k5] := hs
          rw [hl]
      subst hsl
      exact ⟨nm, qn, ns, bs, bm, sn, sub, ab, col, dd, k0, k1, k2, k3, k5, ho, g6⟩
    · cases h1
  · cases h1
theorem fx_excc {C : Str} (c : (Fx.excc C).ok K = true) : ExcC K (He.ga K C) := by
  have c2 : exccB K (He.ga K C) = true := c
  unfold exccB at c2
  obtain ⟨h1, c2⟩ := He.ba c2
  obtain ⟨h2, c2⟩ := He.ba c2
  obtain ⟨h3, c2⟩ := He.ba c2
  obtain ⟨h4, c2⟩ := He.ba c2
  obtain ⟨h5, c2⟩ := He.ba c2
  obtain ⟨h6, c2⟩ := He.ba c2
  obtain ⟨h7, h8⟩ := He.ba c2
  exact ⟨He.eqO_ok h1, He.eqO_ok h2, of_decide_eq_true h3, h4, He.eqO_ok h5, He.eqO_ok h6, of_decide_eq_true h7, of_decide_eq_true h8⟩
theorem fx_cinitT {T id : String} (c : (Fx.cinitT T id).ok K = true) : PySem.W.findCls K (.type T) (.type "type") "__init__" = some (.val (.builtin id)) := by
  have c2 : cinitTB K T id = true := c
  unfold cinitTB at c2
  split at c2
  · rename_i s e
    have es : s = id := of_decide_eq_true c2
    subst es
    exact e
  · cases c2
theorem fx_kits {ns : List Str} (c : (Fx.kits ns).ok K = true) (i : Nat) (hi : i < ns.length) (j : Nat) (hj : j < ns.length) : PySem.W.kitOne K (.ref (He.ga K (ns.getD i ""))) (.ref (He.ga K (ns.getD j ""))) = some (decide (i = j)) :=
  of_decide_eq_true (List.all_eq_true.mp (List.all_eq_true.mp c i (List.mem_range.mpr hi)) j (List.mem_range.mpr hj))
theorem fx_kitc {ns : List Str} {C : Str} {n : Nat} (c : (Fx.kitc ns C n).ok K = true) (i : Nat) (hi : i < ns.length) : PySem.W.kitOne K (.ref (He.ga K (ns.getD i ""))) (.ref (He.ga K C)) = some (decide (i < n)) :=
  of_decide_eq_true (List.all_eq_true.mp c i (List.mem_range.mpr hi))
theorem fx_kitt {ns : List Str} {T : String} {n : Nat} {ge : Bool} (c : (Fx.kitt ns T n ge).ok K = true) (i : Nat) (hi : i < ns.length) : PySem.W.kitOne K (.ref (He.ga K (ns.getD i ""))) (.type T) = some (if ge then decide (n ≤ i) else decide (i < n)) :=
  of_decide_eq_true (List.all_eq_true.mp c i (List.mem_range.mpr hi))
theorem fx_kit {C D : Str} {b : Bool} (c : (Fx.kit C D b).ok K = true) : PySem.W.kitOne K (.ref (He.ga K C)) (.ref (He.ga K D)) = some b := of_decide_eq_true c
theorem fx_cm {C m : Str} (c : (Fx.cm C m).ok K = true) : ClX.CMet K (He.ga K C) (.type "type") m (He.ma K (He.ga K C) m) (He5.wf K (He.ga K C) "classmethod" m) := He5.cmet_of (He.ba c).1 (He.ba c).2
theorem fx_ins1 {C : Str} (c : (Fx.ins C).ok K = true) : PySem.W.findIn K (.ref (He.ga K C)) "__class__" = some (some (.builtin "object.__class__")) := He.eqO_ok (He.ba c).1
theorem fx_ins2 {C : Str} (c : (Fx.ins C).ok K = true) : PySem.W.specialIn K (.builtin "object.__class__") "__get__" = some (some (.builtin "getset_descriptor.__get__")) := He.eqO_ok (He.ba (He.ba c).2).1
theorem fx_ins3 {C : Str} (c : (Fx.ins C).ok K = true) : PySem.W.takesIn K (.builtin "object.__class__") = some true := of_decide_eq_true (He.ba (He.ba (He.ba c).2).2).1
theorem fx_ins4 {C : Str} (c : (Fx.ins C).ok K = true) : PySem.W.mroIn K (He.ga K C) (.type "object") = some true := of_decide_eq_true (He.ba (He.ba (He.ba c).2).2).2
theorem fx_kitn {C : Str} {Ts : List String} (c : (Fx.kitn C Ts).ok K = true) (T : String) (hT : T ∈ Ts) : PySem.W.kitOne K (.type T) (.ref (He.ga K C)) = some false := of_decide_eq_true (He.ba (List.all_eq_true.mp c T hT)).1
theorem fx_notf {C : Str} {Ts : List String} (c : (Fx.kitn C Ts).ok K = true) (T : String) (hT : T ∈ Ts) : PySem.W.notFirst K (He.ga K C) (.type T) = true := (He.ba (List.all_eq_true.mp c T hT)).2
theorem fx_xf {C : Str} (c : (Fx.xf C).ok K = true) : XfC K (He.ga K C) := xfB_ok c
theorem fx_init1 {C : Str} (c : (Fx.init C).ok K = true) : PySem.W.findIn K (.ref (He.ga K C)) "__init__" = some (some (.ref (He.ma K (He.ga K C) "__init__"))) := He.eqO_ok (He.ba c).1
theorem fx_init2 {C : Str} (c : (Fx.init C).ok K = true) : PySem.W.typeIn K (.ref (He.ma K (He.ga K C) "__init__")) = some (.type "function") := of_decide_eq_true (He.ba c).2
end
abbrev AlB : Type := Bool × List He.FnW
def obsB (fx : List Fx) (fn : List He5.DefA) (K : PySem.W.Frag) : AlB := ((fx.all fun f => f.ok K) && fn.all fun d => d.ok K, fn.map fun d => He5.fnA K (d.at_ K))
def valB (fn : List He5.DefA) : AlB := (true, fn.map He5.DefA.val)
def obsBG (n : Nat) (fx : List Fx) (fn : List He5.DefA) (g : Addr → Option Obj) : AlB := obsB fx fn (He.frG g (cStatics :: He.asD g n))
def hookB (n : Nat) (fx : List Fx) (fn : List He5.DefA) : PySem.W.Hook where
  α := AlB
  obs := fun s => obsBG n fx fn s.heap.get?
  val := fun _ => valB fn
  says := fun _ h => ∃ K : PySem.W.Frag, K.In h ∧ obsB fx fn K = valB fn
  of := fun _ _ e => ⟨_, He.frG_in, e⟩
  keeps := fun _ _ _ ⟨K, hK, c⟩ k => ⟨K, PySem.W.Frag.In.keeps hK k, c⟩
theorem obsBG_eq {n : Nat} {fx : List Fx} {fn : List He5.DefA} {g : Addr → Option Obj} {s : Shared} (h : ∀ a, g a = s.heap.get? a) : obsBG n fx fn g = (hookB n fx fn).obs s := by
  have e : g = s.heap.get? := funext h
  rw [e]
  rfl
section
variable {fx : List Fx} {fn : List He5.DefA} {K : PySem.W.Frag}
theorem says_fx (c : obsB fx fn K = valB fn) (i : Nat) {f : Fx} (hf : fx[i]? = some f) : f.ok K = true := by
  have c1 := (He.ba (show ((fx.all fun f => f.ok K) && fn.all fun d => d.ok K) = true from congrArg Prod.fst c)).1
  exact List.all_eq_true.mp c1 f (List.mem_of_getElem? hf)
theorem says_fn (c : obsB fx fn K = valB fn) (i : Nat) {d : He5.DefA} (hd : fn[i]? = some d) : ∃ fd, FunD K d.name d.qual d.params d.body d.scope (d.dvs K) (d.kws K) (d.at_ K) fd := by
  have c2 := (He.ba (show ((fx.all fun f => f.ok K) && fn.all fun d => d.ok K) = true from congrArg Prod.fst c)).2
  have e : fn.map (fun d => He5.fnA K (d.at_ K)) = fn.map He5.DefA.val := congrArg Prod.snd c
  have e2 : (fn.map fun d => He5.fnA K (d.at_ K))[i]? = (fn.map He5.DefA.val)[i]? := by rw [e]
  rw [List.getElem?_map, List.getElem?_map, hd] at e2
  exact He5.DefA.funD (Option.some.inj e2) (List.all_eq_true.mp c2 d (List.mem_of_getElem? hd))
/-- a def without defaults -/
def mkD (at_ : PySem.W.Frag → Addr) (x qual : Str) (st : Stmt) : He5.DefA := ⟨at_, x, qual, defArgs st, defBody st, defScope st, [], []⟩
theorem says_fun {x qual : Str} {st : Stmt} {p : PySem.W.Frag → Addr} (c : obsB fx fn K = valB fn) (i : Nat) (hd : fn[i]? = some (mkD p x qual st)) : Fun K x qual st (p K) (fdG K (p K)) := by
  obtain ⟨fd, F⟩ := says_fn c i hd
  obtain ⟨oc, od, dV, kV, doc, pm, an, cdv, ct, osl, e1, e2, e3, e4, e5⟩ := F.ex
  have e0 : dV = .none := by
    rcases e4 with ⟨q1, q2⟩ | ⟨q1, _⟩
    · first | exact q1 | exact q2
    · exact absurd rfl q1
  subst e0
  have ef : fdG K (p K) = fd := by
    unfold fdG
    have e2' : K.lookup (p K) = some ⟨oc, od, .func fd, osl⟩ := e2
    rw [e2']
  rw [ef]
  exact ⟨⟨oc, od, kV, doc, pm, an, cdv, ct, osl, e1, e2, e3⟩, F.kp⟩
end
end Tr
set_option maxHeartbeats 0
namespace Tr
open PySem PySem.Spec PyProof.Rows L2
def fx9 : List Fx := [.fa (.free "len"),
  .fa (.free "all"),
  .fa (.free "int"),
  .fa (.free "str"),
  .fa (.free "isinstance"),
  .fa (.free "enumerate"),
  .fa (.int "LONGEST_WORD" 8),
  .fa (.int "LONGEST_NUMBER" 30),
  .fa (.str "LETTERS" letters),
  .fa (.str "DIGITS" digits),
  .fa (.glo "KEPT_WORDS"),
  .tup "KEPT_WORDS" keptWords,
  .fa (.glo "is_word"),
  .fa (.glo "is_number"),
  .fa (.glo "words_of"),
  .fa (.glo "expression"),
  .fa (.glo "comparison"),
  .fa (.free "any"),
  .fa (.free "max"),
  .fa (.free "list"),
  .fa (.free "tuple"),
  .fa (.free "sorted"),
  .fa (.glo "Block"),
  .fa (.cls "Block"),
  .noats "Block" ["word", "start", "outer"],
  .fa (.mkr "Block"),
  .fa (.glo "BodyReader"),
  .fa (.cls "BodyReader"),
  .noats "BodyReader" ["kind", "scope", "cells", "readable", "code", "blocks", "deepest", "is_closed"],
  .fa (.mkr "BodyReader"),
  .fa (.meth "BodyReader" "take"),
  .fa (.meth "BodyReader" "entry"),
  .fa (.meth "BodyReader" "in_quiet"),
  .fa (.meth "BodyReader" "assignment"),
  .fa (.meth "BodyReader" "single"),
  .fa (.meth "BodyReader" "opening"),
  .fa (.meth "BodyReader" "turning"),
  .fa (.meth "BodyReader" "closing"),
  .fa (.meth "BodyReader" "finished"),
  .fa (.glo "BookReader"),
  .fa (.cls "BookReader"),
  .noats "BookReader" ["cells", "answers", "effects", "handlers", "written", "code", "places", "count", "deepest", "name", "open_body"],
  .fa (.mkr "BookReader"),
  .fa (.meth "BookReader" "is_complete"),
  .fa (.meth "BookReader" "all_names"),
  .fa (.meth "BookReader" "sources_above"),
  .fa (.meth "BookReader" "take"),
  .fa (.meth "BookReader" "shut"),
  .fa (.meth "BookReader" "declaration"),
  .fa (.meth "BookReader" "cell"),
  .fa (.meth "BookReader" "handler"),
  .fa (.meth "BookReader" "begin"),
  .fa (.free "set"),
  .fa (.free "dict"),
  .fa (.glo "Book"),
  .fa (.cls "Book"),
  .noats "Book" ["lines", "cells", "answers", "effects", "handlers", "numbers", "code", "places", "kinds"],
  .fa (.mkr "Book"),
  .fa (.meth "Book" "check_bounds"),
  .con "Book" "MOST_LINES" 80,
  .con "Book" "MOST_CELLS" 4,
  .con "Book" "MOST_ANSWERS" 3,
  .con "Book" "MOST_EFFECTS" 3,
  .con "Book" "MOST_HANDLERS" 3,
  .con "Book" "MOST_DEEP" 8,
  .con "Book" "MOST_NUMBERS" 4,
  .fa (.glo "TrackedError"),
  .cread "TrackedError",
  .cinit "TrackedError" "ValueError.__init__",
  .fa (.glo "BadBook"),
  .oex "BadBook",
  .xf "BadBook",
  .noats "BadBook" ["at"],
  .init "BadBook",
  .fa (.glo "TooMany"),
  .oex "TooMany",
  .xf "TooMany",
  .noats "TooMany" ["what"],
  .init "TooMany",
  .fa (.free "abs"),
  .fa (.free "range"),
  .fa (.glo "_law_bag"),
  .fa (.glo "_law_draw"),
  .fa (.glo "_law_name"),
  .fa (.glo "_law_number"),
  .fa (.free "min"),
  .cread "Book",
  .cval "Book" "MOST_LINES" 80,
  .cval "Book" "MOST_CELLS" 4,
  .cval "Book" "MOST_ANSWERS" 3,
  .cval "Book" "MOST_EFFECTS" 3,
  .cval "Book" "MOST_HANDLERS" 3,
  .cval "Book" "MOST_DEEP" 8,
  .cval "Book" "MOST_NUMBERS" 4,
  .fa (.exm "BadBook" "BadBook" true),
  .fa (.exm "TooMany" "TooMany" true),
  .fa (.exm "BadBook" "TooMany" false),
  .excc "TooMany",
  .kit "TooMany" "TrackedError" true,
  .fa (.glo "_law_what"),
  .fa (.glo "_law_deep"),
  .fa (.glo "_law_built"),
  .fa (.glo "law")]
def fn9 : List He5.DefA := [mkD (pl ("is_word", none)) "is_word" "is_word" (top 12),
  mkD (pl ("is_number", none)) "is_number" "is_number" (top 13),
  mkD (pl ("words_of", none)) "words_of" "words_of" (top 14),
  mkD (pl ("expression", none)) "expression" "expression" (top 15),
  mkD (pl ("comparison", none)) "comparison" "comparison" (top 16),
  mkD (pl ("Block", some "__init__")) "__init__" "Block.__init__" (inClass (top 18) 0),
  mkD (pl ("BodyReader", some "__init__")) "__init__" "BodyReader.__init__" (inClass (top 19) 0),
  mkD (pl ("BodyReader", some "take")) "take" "BodyReader.take" (inClass (top 19) 1),
  mkD (pl ("BodyReader", some "entry")) "entry" "BodyReader.entry" (inClass (top 19) 2),
  mkD (pl ("BodyReader", some "in_quiet")) "in_quiet" "BodyReader.in_quiet" (inClass (top 19) 3),
  mkD (pl ("BodyReader", some "assignment")) "assignment" "BodyReader.assignment" (inClass (top 19) 4),
  mkD (pl ("BodyReader", some "single")) "single" "BodyReader.single" (inClass (top 19) 5),
  mkD (pl ("BodyReader", some "opening")) "opening" "BodyReader.opening" (inClass (top 19) 6),
  mkD (pl ("BodyReader", some "turning")) "turning" "BodyReader.turning" (inClass (top 19) 7),
  mkD (pl ("BodyReader", some "closing")) "closing" "BodyReader.closing" (inClass (top 19) 8),
  mkD (pl ("BodyReader", some "finished")) "finished" "BodyReader.finished" (inClass (top 19) 9),
  mkD (pl ("BookReader", some "__init__")) "__init__" "BookReader.__init__" (inClass (top 21) 0),
  mkD (pl ("BookReader", some "is_complete")) "is_complete" "BookReader.is_complete" (inClass (top 21) 1),
  mkD (pl ("BookReader", some "all_names")) "all_names" "BookReader.all_names" (inClass (top 21) 2),
  mkD (pl ("BookReader", some "sources_above")) "sources_above" "BookReader.sources_above" (inClass (top 21) 3),
  mkD (pl ("BookReader", some "take")) "take" "BookReader.take" (inClass (top 21) 4),
  mkD (pl ("BookReader", some "shut")) "shut" "BookReader.shut" (inClass (top 21) 5),
  mkD (pl ("BookReader", some "declaration")) "declaration" "BookReader.declaration" (inClass (top 21) 6),
  mkD (pl ("BookReader", some "cell")) "cell" "BookReader.cell" (inClass (top 21) 7),
  mkD (pl ("BookReader", some "handler")) "handler" "BookReader.handler" (inClass (top 21) 8),
  mkD (pl ("BookReader", some "begin")) "begin" "BookReader.begin" (inClass (top 21) 9),
  mkD (pl ("Book", some "__init__")) "__init__" "Book.__init__" (inClass (top 23) 7),
  mkD (pl ("Book", some "check_bounds")) "check_bounds" "Book.check_bounds" (inClass (top 23) 9),
  mkD (pl ("BadBook", some "__init__")) "__init__" "BadBook.__init__" (inClass (top 3) 0),
  mkD (pl ("TooMany", some "__init__")) "__init__" "TooMany.__init__" (inClass (top 4) 0),
  mkD (pl ("_law_bag", none)) "_law_bag" "_law_bag" (top 25),
  mkD (pl ("_law_draw", none)) "_law_draw" "_law_draw" (top 26),
  mkD (pl ("_law_name", none)) "_law_name" "_law_name" (top 27),
  mkD (pl ("_law_number", none)) "_law_number" "_law_number" (top 28),
  mkD (pl ("law", none)) "law" "law" (top 33),
  mkD (pl ("_law_what", none)) "_law_what" "_law_what" (top 30),
  mkD (pl ("_law_deep", none)) "_law_deep" "_law_deep" (top 31),
  mkD (pl ("_law_built", none)) "_law_built" "_law_built" (top 32)]
abbrev R9 : PySem.W.OpenRow := PySem.W.OpenLaw.row PySem.Challenge.rw_trackedreads_k10_bounds_of_books
abbrev hk9 : PySem.W.Hook := hookB 5 fx9 fn9
def ob9 (s : PySem.W.SharedT) : AlB := obsBG 5 fx9 fn9 (HandSHeadRun.getT s)
theorem ob9_eq (s : PySem.W.SharedT) : ob9 s = hk9.obs s.abs := obsBG_eq (HandSHeadRun.getT_eq s)
theorem run9 (w : World) : HandSHeadRun.RunEq R9 (PySem.W.view R9.prog [33]) hk9 ob9 20000 ("_wall" :: "TrackedError" :: "BadBook" :: "TooMany" :: "NoName" :: "KEPT_WORDS" :: "LETTERS" :: "DIGITS" :: "LONGEST_WORD" :: "LONGEST_NUMBER" :: "is_word" :: "is_number" :: "words_of" :: "expression" :: "comparison" :: "Block" :: "BodyReader" :: "BookReader" :: "Book" :: "_law_bag" :: "_law_draw" :: "_law_name" :: "_law_number" :: "_law_value" :: "_law_what" :: "_law_deep" :: "_law_built" :: ([] : List Str)) w := by
  intro os
  kernel_rfl
end Tr
section
open PySem PySem.W PySem.Calls PyProof.Rows
theorem Tr.nameEq : (HandSHeadRun.topDef (PySem.W.OpenLaw.row PySem.Challenge.rw_trackedreads_k10_bounds_of_books).prog 33).name = ("law" : PySem.Str) := by kernel_rfl
theorem Tr.headE (hc : PySem.W.WalkO (view (OpenLaw.row PySem.Challenge.rw_trackedreads_k10_bounds_of_books).prog [33]) ("_wall" :: "TrackedError" :: "BadBook" :: "TooMany" :: "NoName" :: "KEPT_WORDS" :: "LETTERS" :: "DIGITS" :: "LONGEST_WORD" :: "LONGEST_NUMBER" :: "is_word" :: "is_number" :: "words_of" :: "expression" :: "comparison" :: "Block" :: "BodyReader" :: "BookReader" :: "Book" :: "_law_bag" :: "_law_draw" :: "_law_name" :: "_law_number" :: "_law_value" :: "_law_what" :: "_law_deep" :: "_law_built" :: ([] : List Str)) (XL (view (OpenLaw.row PySem.Challenge.rw_trackedreads_k10_bounds_of_books).prog [33]) []) Tr.hk9.says (OpenLaw.row PySem.Challenge.rw_trackedreads_k10_bounds_of_books).toRowW (HandSHeadRun.topDef (OpenLaw.row PySem.Challenge.rw_trackedreads_k10_bounds_of_books).prog 33) [] fun f vs => PySem.call f vs) : PySem.Challenge.rw_trackedreads_k10_bounds_of_books.Holds := by
  w_on; o_law
  refine HandSHeadRun.head_any (r := OpenLaw.row PySem.Challenge.rw_trackedreads_k10_bounds_of_books) (q := view (OpenLaw.row PySem.Challenge.rw_trackedreads_k10_bounds_of_books).prog [33]) (H := Tr.hk9) (ob := Tr.ob9) (M := 20000) (loose := ("_wall" :: "TrackedError" :: "BadBook" :: "TooMany" :: "NoName" :: "KEPT_WORDS" :: "LETTERS" :: "DIGITS" :: "LONGEST_WORD" :: "LONGEST_NUMBER" :: "is_word" :: "is_number" :: "words_of" :: "expression" :: "comparison" :: "Block" :: "BodyReader" :: "BookReader" :: "Book" :: "_law_bag" :: "_law_draw" :: "_law_name" :: "_law_number" :: "_law_value" :: "_law_what" :: "_law_deep" :: "_law_built" :: ([] : List Str))) (d := HandSHeadRun.topDef (OpenLaw.row PySem.Challenge.rw_trackedreads_k10_bounds_of_books).prog 33) (kwd := []) Tr.ob9_eq
    (by kernel_rfl) (fun s => by kernel_rfl) Tr.run9 (by kernel_rfl) (by kernel_rfl) (by kernel_rfl) (by rfl) (by first | assumption | decide +kernel) (by decide +kernel) ⟨rfl, rfl, rfl, rfl, rfl, by decide +kernel⟩ ?hw hc
  case hw => w_witness2
end
set_option maxHeartbeats 1000000

namespace Tr
open PySem L2
section
variable {P : Program} {w : World} {K : PySem.W.Frag} {mg : Str → Option Value} {base : Heap} {a : Nat → Addr} {fd : Nat → FuncData} {tk : Nat → Tok}
local macro_rules | `(tactic| walk_at "ne") => `(tactic| first | assumption | (exact Ne.symm (by assumption)) | (refine ne_of_none (by assumption) (by assumption)) | (refine Ne.symm (ne_of_none (by assumption) (by assumption))))
local macro_rules | `(tactic| walk_at "hl") => `(tactic| first | assumption | with_reducible exact upd_same | ((with_reducible refine' Eq.trans (upd_ne ?hne) ?hrest); (case hne => walk_at "ne"); (case hrest => walk_at "hl")) | (refine' get_same ?hs ?hg; (case hs => assumption); (case hg => assumption)))
local macro_rules | `(tactic| walk_at "at") => `(tactic| first | with_reducible exact atI_0 _ _ | with_reducible exact atI_1 _ _ _ | with_reducible exact atI_2 _ _ _ _ | with_reducible exact atI_3 _ _ _ _ _ | assumption)
local macro_rules | `(tactic| walk_at "rd1") => `(tactic| first
  | with_reducible refine s_seq ?_ | with_reducible refine s_next ?_ | with_reducible refine s_if ?_ | with_reducible refine s_ret ?_ | with_reducible refine s_retN ?_ | with_reducible refine s_drop ?_ | with_reducible refine s_asg ?_ | with_reducible refine s_brk ?_ | with_reducible refine s_cont ?_
  | with_reducible refine s_gname ?_ | with_reducible refine s_c ?_ | with_reducible refine s_op ?_ | with_reducible refine s_un ?_ | with_reducible refine s_neg ?_ | with_reducible refine s_test ?_ | with_reducible refine s_tb ?_ | with_reducible refine s_not ?_ | with_reducible refine s_and ?_ | with_reducible refine s_or ?_ | with_reducible refine s_yes ?_
  | ((with_reducible refine' s_var ?hv ?_); (case hv => exact rfl))
  | with_reducible refine s_ifx ?_ | with_reducible refine s_andV ?_ | with_reducible refine s_orV ?_ | with_reducible refine s_notV ?_ | with_reducible refine s_chain ?_ | with_reducible refine s_nil ?_ | with_reducible refine s_cons ?_ | with_reducible refine s_lst ?_ | with_reducible refine s_tup ?_ | with_reducible refine s_cb ?_ | with_reducible refine s_call ?_ | with_reducible refine s_meth ?_ | with_reducible refine s_make ?_
  | with_reducible refine s_dnewK ?_ | with_reducible refine s_sl ?_ | with_reducible refine s_po0 ?_ | with_reducible refine s_po1 ?_ | with_reducible refine s_bm ?_ | with_reducible refine s_bm0 ?_
  | with_reducible refine s_bl ?_ | with_reducible refine s_int ?_ | with_reducible refine s_I0 ?_ | with_reducible refine s_addI ?_ | with_reducible refine s_intI ?_ | with_reducible refine s_intB ?_
  | with_reducible refine s_m1 ?_ | with_reducible refine s_lc ?_ | with_reducible refine s_ilist ?_ | with_reducible refine s_for ?_ | with_reducible refine s_irng ?_ | with_reducible refine s_match ?_ | with_reducible refine s_starT ?_ | with_reducible refine s_isS ?_ | with_reducible refine s_isiSS ?_ | with_reducible refine s_fldU ?_ | with_reducible refine s_sfldU ?_
  | ((with_reducible refine' s_eqS ?hq ?_); (case hq => exact rfl)) | ((with_reducible refine' s_neS ?hq ?_); (case hq => exact rfl))
  | ((with_reducible refine' s_isN ?hq ?_); (case hq => exact rfl)) | ((with_reducible refine' s_notN ?hq ?_); (case hq => exact rfl))
  | ((with_reducible refine' s_eqNil ?h1 ?h2 ?_); (case h1 => walk_at "hl"); (case h2 => walk_at "hl")) | ((with_reducible refine' s_neNil ?h1 ?h2 ?_); (case h1 => walk_at "hl"); (case h2 => walk_at "hl"))
  | ((with_reducible refine' s_ixL ?h1 ?h2 ?_); (case h1 => walk_at "hl"); (case h2 => walk_at "at")) | ((with_reducible refine' s_ixT ?h1 ?h2 ?_); (case h1 => walk_at "hl"); (case h2 => walk_at "at"))
  | ((with_reducible refine' s_inS ?h1 ?_); (case h1 => walk_at "hl")) | ((with_reducible refine' s_ninS ?h1 ?_); (case h1 => walk_at "hl")) | with_reducible refine s_inW ?_
  | ((with_reducible refine' s_lenL ?h1 ?_); (case h1 => walk_at "hl")) | ((with_reducible refine' s_lenT ?h1 ?_); (case h1 => walk_at "hl"))
  | ((with_reducible refine' s_tyL ?h1 ?_); (case h1 => walk_at "hl"))
  | ((with_reducible refine' s_fldM ?h1 ?h2 ?h3 ?_); (case h1 => walk_at "hl"); (case h2 => walk_at "fok"); (case h3 => walk_at "flk"))
  | ((with_reducible refine' s_setM ?h1 ?h2 ?h3 ?h4 ?_); (case h1 => walk_at "hl"); (case h2 => walk_at "fok"); (case h4 => walk_at "put"); (case h3 => exact Nat.le_of_ble_eq_true rfl))
  | ((with_reducible refine' s_starM ?h1 ?_); (case h1 => walk_at "hl"))
  | ((with_reducible refine' s_recv ?h1 ?h2 ?_); (case h1 => walk_at "hl"); (case h2 => exact rfl))
  | ((with_reducible refine' s_sz ?h1 ?_); (case h1 => (simp; done))))
local macro_rules | `(tactic| walk_at "rd") => `(tactic| repeat (walk_at "rd1"))
local macro_rules | `(tactic| walk_at "fok") => `(tactic| assumption)
local macro_rules | `(tactic| walk_at "flk") => `(tactic| rfl)
local macro_rules | `(tactic| walk_at "put") => `(tactic| exact rfl)

/-- the place of the sign -/
def signAt : List Str → Option Nat
  | [] => none
  | x :: l => if x = "==" ∨ x = "!=" then some 0 else (signAt l).map (· + 1)
def compOf (ws scope sources : List Str) : Option (Ex × Bool × Ex) :=
  match signAt ws with
  | none => none
  | some j => match exprOf (ws.take j) scope sources, exprOf (ws.drop (j + 1)) scope sources with
    | some e1, some e2 => some (e1, decide (ws.getD j "" = "=="), e2)
    | _, _ => none
def CmAt (H H' : Hp) (v : V) : Option (Ex × Bool × Ex) → Prop
  | none => v = .non
  | some (e1, b, e2) => ∃ t t1 t2, v = .ref t ∧ H t = none ∧ H' t = some (.tup [.ref t1, .bl b, .ref t2]) ∧ H' t1 = some (.tup (exV e1)) ∧ H' t2 = some (.tup (exV e2))
def spComparison : Sp := fun vs H Q _ => ∃ (p q r : Addr) (ws scope sources : List Str), vs = [.ref p, .ref q, .ref r] ∧ H p = some (.lst (ws.map V.str)) ∧ H q = some (.lst (scope.map V.str)) ∧ H r = some (.lst (sources.map V.str)) ∧
  (∀ z ∈ ws, z.length ≤ 100000) ∧ (∀ z ∈ ws, isNumber z = true → ∃ n, PySem.intText? z = some n) ∧ ws.length ≤ 100000 ∧ ∀ v H', Same H H' → CmAt H H' v (compOf ws scope sources) → Q v H'
theorem signAt_app {x : Str} (hx : x = "==" ∨ x = "!=") : ∀ {l1 l2 : List Str}, signAt l1 = none → signAt (l1 ++ x :: l2) = some l1.length
  | [], l2, _ => by simp only [List.nil_append, signAt, hx, if_true, List.length_nil]
  | y :: l1, l2, h => by
    simp only [signAt] at h
    split at h
    · cases h
    · rename_i hy
      have h' : signAt l1 = none := by
        cases e : signAt l1 with
        | none => rfl
        | some n => rw [e] at h; cases h
      simp only [List.cons_append, signAt, hy, if_false, signAt_app hx h', Option.map_some, List.length_cons]
theorem signAt_snoc {x : Str} (hx : ¬ (x = "==" ∨ x = "!=")) : ∀ {l1 : List Str}, signAt l1 = none → signAt (l1 ++ [x]) = none
  | [], _ => by simp only [List.nil_append, signAt, hx, if_false, Option.map_none]
  | y :: l1, h => by
    simp only [signAt] at h
    split at h
    · cases h
    · rename_i hy
      have h' : signAt l1 = none := by
        cases e : signAt l1 with
        | none => rfl
        | some n => rw [e] at h; cases h
      simp only [List.cons_append, signAt, hy, if_false, signAt_snoc hx h', Option.map_none]
theorem cutV_take (l : List Str) (j : Nat) (hj : j ≤ l.length) : cutV (l.map V.str) none (some (j : Int)) = (l.take j).map V.str := by
  unfold cutV
  simp only [HT.sIx_none, HT.sIx_nat, List.length_map, List.drop_zero, Nat.sub_zero, Nat.min_eq_left hj, List.map_take]
theorem cutV_drop (l : List Str) (j : Nat) (hj : j ≤ l.length) : cutV (l.map V.str) (some (j : Int)) none = (l.drop j).map V.str := by
  unfold cutV
  simp only [HT.sIx_none, HT.sIx_nat, List.length_map, Nat.min_eq_left hj, List.map_drop]
  rw [List.take_of_length_le (by simp)]
theorem ok_comparison (T : Tx K mg a fd tk) : FnOk P w K mg base CX0 3 (a 5) (fd 5) ["words", "scope", "sources"] spComparison := by
  refine T.F_comparison.ok sc_comparison (fun vs H Q E h => ?_) (fun cdv A outer s H vs Q E hr h => ?_)
  · obtain ⟨p, q, r, ws, scope, sources, rfl, _⟩ := h
    rfl
  · obtain ⟨p, q, r, ws, scope, sources, rfl, hp, hq, hr', hz, hn, hlen, k⟩ := h
    refine ⟨_, (pss_cons (ps_for PassesOwn.never rfl (pi_enum (by rfl) T.b_enumerate (pa_cons (pv 0) pa_nil)) (pg_tupU (n := 2) rfl (pgs_cons (pg_name (i := 3) sc_comparison.nd rfl (by first | exact Or.inl rfl | exact Or.inr rfl)) (pgs_cons (pg_name (i := 4) sc_comparison.nd rfl (by first | exact Or.inl rfl | exact Or.inr rfl)) pgs_nil)))
   (pss_one (ps_if (pt_cmpR (uIn K) (pv 4) (pe_tup (pa_cons pe_str (pa_cons pe_str pa_nil))) (by rfl)) (pss_cons (ps_asg (pe_call (ok_expression T) (hr.mono (by decide)) (by rfl) T.g_expression T.F_expression.kp (b_expression T) .nil pass0 (pa_cons (pe_slice uSl (pv 0) po_none (po_some (pv 3))) (pa_cons (pv 1) (pa_cons (pv 2) pa_nil)))) (pg_name (i := 5) sc_comparison.nd rfl (by first | exact Or.inl rfl | exact Or.inr rfl)))
  (pss_cons (ps_asg (pe_call (ok_expression T) (hr.mono (by decide)) (by rfl) T.g_expression T.F_expression.kp (b_expression T) .nil pass0 (pa_cons (pe_slice uSl (pv 0) (po_some (pe_op uAdd (pv 3) pe_int)) po_none) (pa_cons (pv 1) (pa_cons (pv 2) pa_nil)))) (pg_name (i := 6) sc_comparison.nd rfl (by first | exact Or.inl rfl | exact Or.inr rfl)))
  (pss_cons (ps_if (PW.pt (pw_or (pt_cmpR op_isN1 (pv 5) pe_non (nomark _)) (pw_or1 (pt_cmpR op_isN1 (pv 6) pe_non (nomark _))))) (pss_one (ps_ret pe_non)) pss_nil)
  (pss_one (ps_ret (pe_tup (pa_cons (pv 5) (pa_cons (pe_cmpR (uEq K hr.units) (pv 4) pe_str (nomark _)) (pa_cons (pv 6) pa_nil))))))))) pss_nil)))
  (pss_one (ps_ret pe_non))), ?_⟩
    walk_at "rd"
    refine s_forEnumV (p := p) rfl hp (fun i σ H' => ∃ v3 v4, σ = [some (.ref p), some (.ref q), some (.ref r), v3, v4, none, none] ∧ Same H H' ∧ signAt (ws.take i) = none) ⟨none, none, rfl, Same.refl _, rfl⟩ (fun i σ H' _ ⟨_, _, _, s', _⟩ => s' _ _ hp) ?_ ?_
    · rintro i x t σ H1 hx ⟨v3, v4, rfl, s1, hs⟩ ht
      obtain ⟨z, hz1, rfl⟩ : ∃ z, ws[i]? = some z ∧ x = .str z := by
        rw [List.getElem?_map] at hx
        cases e : ws[i]? with
        | none => rw [e] at hx; cases hx
        | some z => rw [e] at hx; exact ⟨z, rfl, (Option.some.inj hx).symm⟩
      have hi : i < ws.length := (List.getElem?_eq_some_iff.mp hz1).1
      have et : ws.take (i + 1) = ws.take i ++ [z] := by
        rw [List.take_succ, hz1]
        rfl
      have ews := split_at hz1
      refine s_gtup2 upd_same rfl ?_
      walk_at "rd"
      refine fun u hu => ?_
      refine s_inTS (l := ["==", "!="]) upd_same ?_
      have s2 : Same H (upd (upd H1 t (.tup [.int (i : Nat), .str z])) u (.tup [.str "==", .str "!="])) := s1.trans ((Same.new ht).trans (Same.new hu))
      generalize (upd (upd H1 t (.tup [.int (i : Nat), .str z])) u (.tup [.str "==", .str "!="])) = H2 at s2 ⊢
      walk_at "rd"
      rw [contains2]
      refine ifB (fun c1 => ?_) (fun c1 => ?_)
      · have c1' : z = "==" ∨ z = "!=" := of_decide_eq_true c1
        have esg : signAt ws = some i := by
          have := signAt_app (l2 := ws.drop (i + 1)) c1' hs
          rw [← ews, List.length_take, Nat.min_eq_left (by omega)] at this
          exact this
        have egd : ws.getD i "" = z := by rw [List.getD_eq_getElem?_getD, hz1]; rfl
        have hp2 := s2 _ _ hp
        walk_at "rd"
        refine s_slL hp2 fun p1 hp1 => ?_
        walk_at "rd"
        have s3 : Same H (upd H2 p1 (.lst (cutV (ws.map V.str) none (some (i : Int))))) := s2.trans (Same.new hp1)
        refine ⟨p1, q, r, ws.take i, scope, sources, rfl, by rw [upd_same, cutV_take ws i (by omega)], s3 _ _ hq, s3 _ _ hr', fun y hy => hz y (List.mem_of_mem_take hy), fun y hy => hn y (List.mem_of_mem_take hy), fun v5 H5 s5 e5 => ?_⟩
        have s5' := s3.trans s5
        walk_at "rd"
        refine s_slL (s5' _ _ hp) fun p2 hp2' => ?_
        walk_at "rd"
        have s6 : Same H (upd H5 p2 (.lst (cutV (ws.map V.str) (some ((i : Int) + 1)) none))) := s5'.trans (Same.new hp2')
        refine ⟨p2, q, r, ws.drop (i + 1), scope, sources, rfl, by rw [upd_same, ← cutV_drop ws (i + 1) (by omega)]; rfl, s6 _ _ hq, s6 _ _ hr', fun y hy => hz y (List.mem_of_mem_drop hy), fun y hy => hn y (List.mem_of_mem_drop hy), fun v6 H6 s7 e6 => ?_⟩
        have s7' := s6.trans s7
        walk_at "rd"
        have hk : ∀ e, compOf ws scope sources = e → ∀ v H', Same H H' → CmAt H H' v e → Q v H' := fun e ee v H' s1 ea => k v H' s1 (by rw [ee]; exact ea)
        cases h5 : exprOf (ws.take i) scope sources with
        | none =>
          rw [h5] at e5
          have e5' : v5 = .non := e5
          subst e5'
          refine ifT rfl ?_
          walk_at "rd"
          exact hk none (by simp only [compOf, esg, h5]) _ _ s7' rfl
        | some x5 =>
          rw [h5] at e5
          obtain ⟨t5, rfl, n5, g5⟩ := e5
          refine ifF rfl ?_
          walk_at "rd"
          cases h6 : exprOf (ws.drop (i + 1)) scope sources with
          | none =>
            rw [h6] at e6
            have e6' : v6 = .non := e6
            subst e6'
            refine ifT rfl ?_
            walk_at "rd"
            exact hk none (by simp only [compOf, esg, h5, h6]) _ _ s7' rfl
          | some x6 =>
            rw [h6] at e6
            obtain ⟨t6, rfl, n6, g6⟩ := e6
            refine ifF rfl ?_
            walk_at "rd"
            refine fun t7 h7 => ?_
            have s8 := s7'.trans (Same.new (o := .tup [V.ref t5, V.bl (decide (V.str z = V.str "==")), V.ref t6]) h7)
            have g5' : H6 t5 = some (.tup (exV x5)) := s7 _ _ (Same.new hp2' _ _ g5)
            have ez : decide (V.str z = V.str "==") = decide (z = "==") := decide_eq_decide.mpr ⟨fun e => by injection e, fun e => by rw [e]⟩
            refine hk (some (x5, decide (z = "=="), x6)) (by simp only [compOf, esg, h5, h6, egd]) _ _ s8 ⟨t7, t5, t6, rfl, s7'.free h7, by rw [upd_same, ez], Same.new h7 _ _ g5', Same.new h7 _ _ g6⟩
      · have c1' : ¬ (z = "==" ∨ z = "!=") := of_decide_eq_false c1
        walk_at "rd"
        exact ⟨_, _, rfl, s2, by rw [et]; exact signAt_snoc c1' hs⟩
    · rintro σ H' ⟨v3, v4, rfl, s', hs⟩
      rw [List.length_map, List.take_length] at hs
      walk_at "rd"
      exact k _ _ s' (by simp only [compOf, hs]; rfl)
end
end Tr
set_option maxHeartbeats 1000000

namespace Tr
open PySem L2
abbrev s_Block___init__ : Stmt := (inClass (top 18) 0)
abbrev N_Block___init__ : List Str := ["self", "word", "start", "outer"]
theorem sc_Block___init__ : FnScope ["self", "word", "start", "outer"] ["self", "word", "start", "outer"] (defScope s_Block___init__) := ⟨rfl, rfl, rfl, by decide +kernel, rfl, by decide +kernel, by decide +kernel⟩
abbrev s_BodyReader___init__ : Stmt := (inClass (top 19) 0)
abbrev N_BodyReader___init__ : List Str := ["self", "kind", "parameters", "cells", "sources"]
theorem sc_BodyReader___init__ : FnScope ["self", "kind", "parameters", "cells", "sources"] ["self", "kind", "parameters", "cells", "sources"] (defScope s_BodyReader___init__) := ⟨rfl, rfl, rfl, by decide +kernel, rfl, by decide +kernel, by decide +kernel⟩
abbrev s_BodyReader_take : Stmt := (inClass (top 19) 1)
abbrev N_BodyReader_take : List Str := ["self", "words", "entry"]
theorem sc_BodyReader_take : FnScope ["self", "words", "entry"] ["self", "words"] (defScope s_BodyReader_take) := ⟨rfl, rfl, rfl, by decide +kernel, rfl, by decide +kernel, by decide +kernel⟩
abbrev s_BodyReader_entry : Stmt := (inClass (top 19) 2)
abbrev N_BodyReader_entry : List Str := ["self", "words"]
theorem sc_BodyReader_entry : FnScope ["self", "words"] ["self", "words"] (defScope s_BodyReader_entry) := ⟨rfl, rfl, rfl, by decide +kernel, rfl, by decide +kernel, by decide +kernel⟩
abbrev s_BodyReader_in_quiet : Stmt := (inClass (top 19) 3)
abbrev N_BodyReader_in_quiet : List Str := ["self", "block"]
theorem sc_BodyReader_in_quiet : FnScope ["self", "block"] ["self"] (defScope s_BodyReader_in_quiet) := ⟨rfl, rfl, rfl, by decide +kernel, rfl, by decide +kernel, by decide +kernel⟩
abbrev s_BodyReader_assignment : Stmt := (inClass (top 19) 4)
abbrev N_BodyReader_assignment : List Str := ["self", "words", "name", "worth"]
theorem sc_BodyReader_assignment : FnScope ["self", "words", "name", "worth"] ["self", "words"] (defScope s_BodyReader_assignment) := ⟨rfl, rfl, rfl, by decide +kernel, rfl, by decide +kernel, by decide +kernel⟩
abbrev s_BodyReader_single : Stmt := (inClass (top 19) 5)
abbrev N_BodyReader_single : List Str := ["self", "words", "worth"]
theorem sc_BodyReader_single : FnScope ["self", "words", "worth"] ["self", "words"] (defScope s_BodyReader_single) := ⟨rfl, rfl, rfl, by decide +kernel, rfl, by decide +kernel, by decide +kernel⟩
abbrev s_BodyReader_opening : Stmt := (inClass (top 19) 6)
abbrev N_BodyReader_opening : List Str := ["self", "words", "word", "quiet", "asked", "entry"]
theorem sc_BodyReader_opening : FnScope ["self", "words", "word", "quiet", "asked", "entry"] ["self", "words"] (defScope s_BodyReader_opening) := ⟨rfl, rfl, rfl, by decide +kernel, rfl, by decide +kernel, by decide +kernel⟩
abbrev s_BodyReader_turning : Stmt := (inClass (top 19) 7)
abbrev N_BodyReader_turning : List Str := ["self", "words", "block"]
theorem sc_BodyReader_turning : FnScope ["self", "words", "block"] ["self", "words"] (defScope s_BodyReader_turning) := ⟨rfl, rfl, rfl, by decide +kernel, rfl, by decide +kernel, by decide +kernel⟩
abbrev s_BodyReader_closing : Stmt := (inClass (top 19) 8)
abbrev N_BodyReader_closing : List Str := ["self"]
theorem sc_BodyReader_closing : FnScope ["self"] ["self"] (defScope s_BodyReader_closing) := ⟨rfl, rfl, rfl, by decide +kernel, rfl, by decide +kernel, by decide +kernel⟩
abbrev s_BodyReader_finished : Stmt := (inClass (top 19) 9)
abbrev N_BodyReader_finished : List Str := ["self", "entry"]
theorem sc_BodyReader_finished : FnScope ["self", "entry"] ["self"] (defScope s_BodyReader_finished) := ⟨rfl, rfl, rfl, by decide +kernel, rfl, by decide +kernel, by decide +kernel⟩

/-- what the top has made of the classes of bodies -/
structure Ty (K : PySem.W.Frag) (mg : Str → Option Value) (a : Nat → Addr) (fd : Nat → FuncData) : Prop where
  b_any : mg "any" = none
  b_max : mg "max" = none
  b_list : mg "list" = none
  b_tuple : mg "tuple" = none
  b_sorted : mg "sorted" = none
  g_Block : mg "Block" = some (.ref (a 6))
  cl_Block : Cls K (a 6)
  f_Block : ∀ f, f ∈ (["word", "start", "outer"] : List Str) → NoAttr K (a 6) f
  mk_Block : Mk K (a 6) (a 7)
  F_Block___init__ : Fun K "__init__" "Block.__init__" s_Block___init__ (a 7) (fd 7)
  g_BodyReader : mg "BodyReader" = some (.ref (a 8))
  cl_BodyReader : Cls K (a 8)
  f_BodyReader : ∀ f, f ∈ (["kind", "scope", "cells", "readable", "code", "blocks", "deepest", "is_closed"] : List Str) → NoAttr K (a 8) f
  mk_BodyReader : Mk K (a 8) (a 9)
  F_BodyReader___init__ : Fun K "__init__" "BodyReader.__init__" s_BodyReader___init__ (a 9) (fd 9)
  m_BodyReader_take : Meth K (a 8) "take" (a 10)
  F_BodyReader_take : Fun K "take" "BodyReader.take" s_BodyReader_take (a 10) (fd 10)
  m_BodyReader_entry : Meth K (a 8) "entry" (a 11)
  F_BodyReader_entry : Fun K "entry" "BodyReader.entry" s_BodyReader_entry (a 11) (fd 11)
  m_BodyReader_in_quiet : Meth K (a 8) "in_quiet" (a 12)
  F_BodyReader_in_quiet : Fun K "in_quiet" "BodyReader.in_quiet" s_BodyReader_in_quiet (a 12) (fd 12)
  m_BodyReader_assignment : Meth K (a 8) "assignment" (a 13)
  F_BodyReader_assignment : Fun K "assignment" "BodyReader.assignment" s_BodyReader_assignment (a 13) (fd 13)
  m_BodyReader_single : Meth K (a 8) "single" (a 14)
  F_BodyReader_single : Fun K "single" "BodyReader.single" s_BodyReader_single (a 14) (fd 14)
  m_BodyReader_opening : Meth K (a 8) "opening" (a 15)
  F_BodyReader_opening : Fun K "opening" "BodyReader.opening" s_BodyReader_opening (a 15) (fd 15)
  m_BodyReader_turning : Meth K (a 8) "turning" (a 16)
  F_BodyReader_turning : Fun K "turning" "BodyReader.turning" s_BodyReader_turning (a 16) (fd 16)
  m_BodyReader_closing : Meth K (a 8) "closing" (a 17)
  F_BodyReader_closing : Fun K "closing" "BodyReader.closing" s_BodyReader_closing (a 17) (fd 17)
  m_BodyReader_finished : Meth K (a 8) "finished" (a 18)
  F_BodyReader_finished : Fun K "finished" "BodyReader.finished" s_BodyReader_finished (a 18) (fd 18)
theorem Ty.blk {K : PySem.W.Frag} {mg : Str → Option Value} {a : Nat → Addr} {fd : Nat → FuncData} (T : Ty K mg a fd) {f : Str} (h : f ∈ (["word", "start", "outer"] : List Str)) : FldOk K (a 6) f := ⟨T.cl_Block, T.f_Block f h⟩
theorem Ty.bdy {K : PySem.W.Frag} {mg : Str → Option Value} {a : Nat → Addr} {fd : Nat → FuncData} (T : Ty K mg a fd) {f : Str} (h : f ∈ (["kind", "scope", "cells", "readable", "code", "blocks", "deepest", "is_closed"] : List Str)) : FldOk K (a 8) f := ⟨T.cl_BodyReader, T.f_BodyReader f h⟩
def blF (w : Str) (st ou : Nat) : List (Str × V) := [("word", .str w), ("start", .int st), ("outer", .int ou)]
/-- where a BodyReader's parts stand -/
structure BF where
  dx : Addr
  s : Addr
  c : Addr
  d : Addr
  k : Addr
  l : Addr
  es : List Addr
  bs : List Addr
/-- a body as it is read so far: its lines by their first words -/
structure Bd where
  kind : Str
  scope : List Str
  cells : List Str
  readable : List Str
  code : List Str
  blocks : List (Str × Nat × Nat)
  deepest : Nat
  closed : Bool
def bdF (kind : Str) (s c d k l : Addr) (n : Nat) (b : Bool) : List (Str × V) :=
  [("kind", .str kind), ("scope", .ref s), ("cells", .ref c), ("readable", .ref d), ("code", .ref k), ("blocks", .ref l), ("deepest", .int n), ("is_closed", .bl b)]
section
variable {P : Program} {w : World} {K : PySem.W.Frag} {mg : Str → Option Value} {base : Heap} {a : Nat → Addr} {fd : Nat → FuncData} {tk : Nat → Tok}
local macro_rules | `(tactic| walk_at "ne") => `(tactic| first | assumption | (exact Ne.symm (by assumption)) | (refine ne_of_none (by assumption) (by assumption)) | (refine Ne.symm (ne_of_none (by assumption) (by assumption))))
local macro_rules | `(tactic| walk_at "hl") => `(tactic| first | assumption | with_reducible exact upd_same | ((with_reducible refine' Eq.trans (upd_ne ?hne) ?hrest); (case hne => walk_at "ne"); (case hrest => walk_at "hl")) | (refine' get_same ?hs ?hg; (case hs => assumption); (case hg => assumption)))
local macro_rules | `(tactic| walk_at "at") => `(tactic| first | with_reducible exact atI_0 _ _ | with_reducible exact atI_1 _ _ _ | with_reducible exact atI_2 _ _ _ _ | with_reducible exact atI_3 _ _ _ _ _ | assumption)
local macro_rules | `(tactic| walk_at "rd1") => `(tactic| first
  | with_reducible refine s_seq ?_ | with_reducible refine s_next ?_ | with_reducible refine s_if ?_ | with_reducible refine s_ret ?_ | with_reducible refine s_retN ?_ | with_reducible refine s_drop ?_ | with_reducible refine s_asg ?_ | with_reducible refine s_brk ?_ | with_reducible refine s_cont ?_
  | with_reducible refine s_gname ?_ | with_reducible refine s_c ?_ | with_reducible refine s_op ?_ | with_reducible refine s_un ?_ | with_reducible refine s_neg ?_ | with_reducible refine s_test ?_ | with_reducible refine s_tb ?_ | with_reducible refine s_not ?_ | with_reducible refine s_and ?_ | with_reducible refine s_or ?_ | with_reducible refine s_yes ?_
  | ((with_reducible refine' s_var ?hv ?_); (case hv => exact rfl))
  | with_reducible refine s_ifx ?_ | with_reducible refine s_andV ?_ | with_reducible refine s_orV ?_ | with_reducible refine s_notV ?_ | with_reducible refine s_chain ?_ | with_reducible refine s_nil ?_ | with_reducible refine s_cons ?_ | with_reducible refine s_lst ?_ | with_reducible refine s_tup ?_ | with_reducible refine s_cb ?_ | with_reducible refine s_call ?_ | with_reducible refine s_meth ?_ | with_reducible refine s_make ?_
  | with_reducible refine s_dnewK ?_ | with_reducible refine s_sl ?_ | with_reducible refine s_po0 ?_ | with_reducible refine s_po1 ?_ | with_reducible refine s_bm ?_ | with_reducible refine s_bm0 ?_
  | with_reducible refine s_bl ?_ | with_reducible refine s_int ?_ | with_reducible refine s_I0 ?_ | with_reducible refine s_addI ?_ | with_reducible refine s_intI ?_ | with_reducible refine s_intB ?_
  | with_reducible refine s_m1 ?_ | with_reducible refine s_lc ?_ | with_reducible refine s_ilist ?_ | with_reducible refine s_for ?_ | with_reducible refine s_irng ?_ | with_reducible refine s_match ?_ | with_reducible refine s_starT ?_ | with_reducible refine s_isS ?_ | with_reducible refine s_isiSS ?_ | with_reducible refine s_fldU ?_ | with_reducible refine s_sfldU ?_
  | ((with_reducible refine' s_eqS ?hq ?_); (case hq => exact rfl)) | ((with_reducible refine' s_neS ?hq ?_); (case hq => exact rfl))
  | ((with_reducible refine' s_isN ?hq ?_); (case hq => exact rfl)) | ((with_reducible refine' s_notN ?hq ?_); (case hq => exact rfl))
  | ((with_reducible refine' s_eqNil ?h1 ?h2 ?_); (case h1 => walk_at "hl"); (case h2 => walk_at "hl")) | ((with_reducible refine' s_neNil ?h1 ?h2 ?_); (case h1 => walk_at "hl"); (case h2 => walk_at "hl"))
  | ((with_reducible refine' s_ixL ?h1 ?h2 ?_); (case h1 => walk_at "hl"); (case h2 => walk_at "at")) | ((with_reducible refine' s_ixT ?h1 ?h2 ?_); (case h1 => walk_at "hl"); (case h2 => walk_at "at"))
  | ((with_reducible refine' s_inS ?h1 ?_); (case h1 => walk_at "hl")) | ((with_reducible refine' s_ninS ?h1 ?_); (case h1 => walk_at "hl")) | with_reducible refine s_inW ?_
  | ((with_reducible refine' s_lenL ?h1 ?_); (case h1 => walk_at "hl")) | ((with_reducible refine' s_lenT ?h1 ?_); (case h1 => walk_at "hl"))
  | ((with_reducible refine' s_tyL ?h1 ?_); (case h1 => walk_at "hl"))
  | ((with_reducible refine' s_fldM ?h1 ?h2 ?h3 ?_); (case h1 => walk_at "hl"); (case h2 => walk_at "fok"); (case h3 => walk_at "flk"))
  | ((with_reducible refine' s_setM ?h1 ?h2 ?h3 ?h4 ?_); (case h1 => walk_at "hl"); (case h2 => walk_at "fok"); (case h4 => walk_at "put"); (case h3 => exact Nat.le_of_ble_eq_true rfl))
  | ((with_reducible refine' s_starM ?h1 ?_); (case h1 => walk_at "hl"))
  | ((with_reducible refine' s_recv ?h1 ?h2 ?_); (case h1 => walk_at "hl"); (case h2 => exact rfl))
  | ((with_reducible refine' s_sz ?h1 ?_); (case h1 => (simp; done))))
local macro_rules | `(tactic| walk_at "rd") => `(tactic| repeat (walk_at "rd1"))
local macro_rules | `(tactic| walk_at "fok") => `(tactic| assumption)
local macro_rules | `(tactic| walk_at "flk") => `(tactic| rfl)
local macro_rules | `(tactic| walk_at "put") => `(tactic| exact rfl)

local macro_rules | `(tactic| walk_at "fok") => `(tactic| first | exact Ty.blk (by assumption) (by decide) | exact Ty.bdy (by assumption) (by decide))
def spBlock (C : Addr) : Sp := fun vs H Q _ => ∃ (p dx : Addr) (w : Str) (st ou : Nat), vs = [.ref p, .str w, .int st, .int ou] ∧ H p = some (.ins C dx []) ∧ Q .non (upd H p (.ins C dx (blF w st ou)))
theorem ok_Block___init__ (T : Ty K mg a fd) : FnOk P w K mg base CX0 1 (a 7) (fd 7) ["self", "word", "start", "outer"] (spBlock (a 6)) := by
  refine T.F_Block___init__.ok sc_Block___init__ (fun vs H Q E h => ?_) (fun cdv A outer s H vs Q E hr h => ?_)
  · obtain ⟨p, dx, w, st, ou, rfl, _⟩ := h
    rfl
  · obtain ⟨p, dx, w, st, ou, rfl, hp, k⟩ := h
    refine ⟨_, (pss_cons (ps_fldU K (pv 0) (pv 1))
  (pss_cons (ps_fldU K (pv 0) (pv 2))
  (pss_one (ps_fldU K (pv 0) (pv 3))))), ?_⟩
    walk_at "rd"
    rw [upd_upd, upd_upd]
    exact k
theorem b_Block___init__ (T : Ty K mg a fd) : Binds K (fd 7) ["self", "word", "start", "outer"] [] := T.F_Block___init__.binds fun _ _ _ _ _ _ us hl => match us, hl with | [_, _, _, _], _ => rfl
/-- a BodyReader stands at r: its parts at F -/
structure BodyAt (a : Nat → Addr) (H : Hp) (r : Addr) (b : Bd) (F : BF) : Prop where
  ob : H r = some (.ins (a 8) F.dx (bdF b.kind F.s F.c F.d F.k F.l b.deepest b.closed))
  sc : H F.s = some (.lst (b.scope.map V.str))
  ce : H F.c = some (.lst (b.cells.map V.str))
  re : H F.d = some (.lst (b.readable.map V.str))
  co : H F.k = some (.lst (F.es.map V.ref))
  bl : H F.l = some (.lst (F.bs.map V.ref))
  en : ∀ (i : Nat) (e : Addr), F.es[i]? = some e → ∃ w vs, b.code[i]? = some w ∧ H e = some (.lst (.str w :: vs)) ∧ (w = "if" → vs.length = 5) ∧ (w = "else" → vs.length = 2)
  el : F.es.length = b.code.length
  bk : ∀ (i : Nat) (e : Addr), F.bs[i]? = some e → ∃ w st ou dx, b.blocks[i]? = some (w, st, ou) ∧ H e = some (.ins (a 6) dx (blF w st ou))
  bn : F.bs.length = b.blocks.length
  nd : (F.s :: F.c :: F.d :: F.k :: F.l :: F.es).Nodup
/-- what a BodyReader owns -/
def BF.own (F : BF) (r : Addr) : List Addr := r :: F.s :: F.c :: F.d :: F.k :: F.l :: (F.es ++ F.bs)
theorem rListU_or {H : Hp} {Q : VK} {p : Addr} {xs : List V} (hp : H p = some (.lst xs) ∨ H p = some (.tup xs)) (q : ∀ z, H z = none → Q (.ref z) (upd H z (.lst xs))) : rListU [.ref p] H Q := by
  rcases hp with hp | hp
  · exact s_listL hp q
  · exact s_listT hp q
def spBody (a : Nat → Addr) : Sp := fun vs H Q _ => ∃ (r dx : Addr) (kind : Str) (p q t : Addr) (ps cs rs : List Str), vs = [.ref r, .str kind, .ref p, .ref q, .ref t] ∧ H r = some (.ins (a 8) dx []) ∧ (H p = some (.lst (ps.map V.str)) ∨ H p = some (.tup (ps.map V.str))) ∧
  H q = some (.lst (cs.map V.str)) ∧ H t = some (.lst (rs.map V.str)) ∧ ps.length ≤ 5000 ∧
  ∀ (F : BF) (H' : Hp), BodyAt a H' r ⟨kind, ps, cs, rs, [], [], 0, false⟩ F → (∀ x o, H x = some o → x ≠ r → H' x = some o) → (∀ x ∈ F.own r, x = r ∨ H x = none) → Q .non H'
theorem ok_BodyReader___init__ (T : Ty K mg a fd) : FnOk P w K mg base CX0 1 (a 9) (fd 9) ["self", "kind", "parameters", "cells", "sources"] (spBody a) := by
  refine T.F_BodyReader___init__.ok sc_BodyReader___init__ (fun vs H Q E h => ?_) (fun cdv A outer s H vs Q E hr h => ?_)
  · obtain ⟨r, dx, kind, p, q, t, ps, cs, rs, rfl, _⟩ := h
    rfl
  · obtain ⟨r, dx, kind, p, q, t, ps, cs, rs, rfl, hr0, hp, hq, ht, hz, k⟩ := h
    refine ⟨_, (pss_cons (ps_fldU K (pv 0) (pv 1))
  (pss_cons (ps_fldU K (pv 0) (pe_callTy uList (by rfl) T.b_list bt_list (pa_cons (pv 2) pa_nil)))
  (pss_cons (ps_fldU K (pv 0) (pe_callTy uList (by rfl) T.b_list bt_list (pa_cons (pv 3) pa_nil)))
  (pss_cons (ps_fldU K (pv 0) (pe_callTy uList (by rfl) T.b_list bt_list (pa_cons (pv 4) pa_nil)))
  (pss_cons (ps_fldU K (pv 0) (pe_lst pa_nil))
  (pss_cons (ps_fldU K (pv 0) (pe_lst pa_nil))
  (pss_cons (ps_fldU K (pv 0) pe_int)
  (pss_one (ps_fldU K (pv 0) pe_bl))))))))), ?_⟩
    have hpr : p ≠ r := by
      rcases hp with hp | hp <;> exact ne_of hp hr0 (by intro e; cases e)
    have hqr : q ≠ r := ne_of hq hr0 (by intro e; cases e)
    have htr : t ≠ r := ne_of ht hr0 (by intro e; cases e)
    walk_at "rd"
    refine rListU_or (xs := ps.map V.str) (by rw [upd_ne hpr]; exact hp) fun s1 n1 => ?_
    obtain ⟨m1, n1'⟩ := upd_none n1
    have q1 := ne_of_none hq n1'
    have t1 := ne_of_none ht n1'
    walk_at "rd"
    refine s_listL (xs := cs.map V.str) (by walk_at "hl") fun s2 n2 => ?_
    obtain ⟨m2, n2⟩ := upd_none n2
    obtain ⟨m21, n2⟩ := upd_none n2
    obtain ⟨_, n2⟩ := upd_none n2
    have t2 := ne_of_none ht n2
    walk_at "rd"
    refine s_listL (xs := rs.map V.str) (by walk_at "hl") fun s3 n3 => ?_
    obtain ⟨m3, n3⟩ := upd_none n3
    obtain ⟨m32, n3⟩ := upd_none n3
    obtain ⟨_, n3⟩ := upd_none n3
    obtain ⟨m31, n3⟩ := upd_none n3
    obtain ⟨_, n3⟩ := upd_none n3
    walk_at "rd"
    intro s4 n4
    obtain ⟨m4, n4⟩ := upd_none n4
    obtain ⟨m43, n4⟩ := upd_none n4
    obtain ⟨_, n4⟩ := upd_none n4
    obtain ⟨m42, n4⟩ := upd_none n4
    obtain ⟨_, n4⟩ := upd_none n4
    obtain ⟨m41, n4⟩ := upd_none n4
    obtain ⟨_, n4⟩ := upd_none n4
    walk_at "rd"
    intro s5 n5
    obtain ⟨m5, n5⟩ := upd_none n5
    obtain ⟨m54, n5⟩ := upd_none n5
    obtain ⟨_, n5⟩ := upd_none n5
    obtain ⟨m53, n5⟩ := upd_none n5
    obtain ⟨_, n5⟩ := upd_none n5
    obtain ⟨m52, n5⟩ := upd_none n5
    obtain ⟨_, n5⟩ := upd_none n5
    obtain ⟨m51, n5⟩ := upd_none n5
    obtain ⟨_, n5⟩ := upd_none n5
    walk_at "rd"
    refine k ⟨dx, s1, s2, s3, s4, s5, [], []⟩ _ ⟨upd_same, ?_, ?_, ?_, ?_, ?_, fun i e h => by simp at h, rfl, fun i e h => by simp at h, rfl, ?_⟩ ?_ ?_
    · walk_at "hl"
    · walk_at "hl"
    · walk_at "hl"
    · show _ = some (HO.lst [])
      walk_at "hl"
    · show _ = some (HO.lst [])
      walk_at "hl"
    · simp only [List.nodup_cons, List.mem_cons, List.not_mem_nil, or_false, not_or, not_false_eq_true, List.nodup_nil, and_true]
      exact ⟨⟨Ne.symm m21, Ne.symm m31, Ne.symm m41, Ne.symm m51⟩, ⟨Ne.symm m32, Ne.symm m42, Ne.symm m52⟩, ⟨Ne.symm m43, Ne.symm m53⟩, Ne.symm m54⟩
    · intro x o hx hxr
      have x1 := ne_of_none hx n1'
      have x2 := ne_of_none hx n2
      have x3 := ne_of_none hx n3
      have x4 := ne_of_none hx n4
      have x5 := ne_of_none hx n5
      walk_at "hl"
    · intro x hx
      simp only [BF.own, List.append_nil, List.mem_cons, List.not_mem_nil, or_false] at hx
      rcases hx with e | e | e | e | e | e
      · exact .inl e
      · exact .inr (by rw [e]; exact n1')
      · exact .inr (by rw [e]; exact n2)
      · exact .inr (by rw [e]; exact n3)
      · exact .inr (by rw [e]; exact n4)
      · exact .inr (by rw [e]; exact n5)
theorem b_BodyReader___init__ (T : Ty K mg a fd) : Binds K (fd 9) ["self", "kind", "parameters", "cells", "sources"] [] := T.F_BodyReader___init__.binds fun _ _ _ _ _ _ us hl => match us, hl with | [_, _, _, _, _], _ => rfl
def inQuiet (b : Bd) : Bool := b.blocks.any fun x => decide (x.1 = "quiet")
def spInQuiet (a : Nat → Addr) : Sp := fun vs H Q _ => ∃ (r : Addr) (b : Bd) (F : BF), vs = [.ref r] ∧ BodyAt a H r b F ∧ b.blocks.length ≤ 5000 ∧ ∀ H', Same H H' → Q (.bl (inQuiet b)) H'
theorem ok_BodyReader_in_quiet (T : Ty K mg a fd) : FnOk P w K mg base CX0 1 (a 12) (fd 12) ["self"] (spInQuiet a) := by
  refine T.F_BodyReader_in_quiet.ok sc_BodyReader_in_quiet (fun vs H Q E h => ?_) (fun cdv A outer s H vs Q E hr h => ?_)
  · obtain ⟨r, b, F, rfl, _⟩ := h
    rfl
  · obtain ⟨r, b, F, rfl, B, hz, k⟩ := h
    refine ⟨_, (pss_one (ps_ret (pe_callB (uAny rfl) (by rfl) T.b_any bt_any (pa_cons (pe_lc (own := [("block", 1)]) rfl sc_BodyReader_in_quiet.nd (pi_list (pe_fldU K (pv 0))) (blkOk_by (N := N_BodyReader_in_quiet) (sc := defScope s_BodyReader_in_quiet) (by decide +kernel)) (fun _ _ _ _ _ => (pg_name (i := 1) sc_BodyReader_in_quiet.nd rfl (by first | exact Or.inl rfl | exact Or.inr rfl))) (fun _ _ _ _ _ => pts_nil) (fun _ _ _ _ _ => (pe_cmpR (uEq K hr.units) (pe_fldU K (pv 1)) pe_str (nomark _)))) pa_nil)))), ?_⟩
    have hob := B.ob
    have hbl := B.bl
    walk_at "rd"
    refine s_lcM (H := H) b.blocks (fun x => some (.bl (decide (x.1 = "quiet")))) hbl (by rw [List.length_map]; exact B.bn) (by omega) ?_ ?_
    · rintro i ⟨w1, st, ou⟩ x H2 R R0 hy hx s2 k1 _
      rw [List.getElem?_map] at hx
      cases he : F.bs[i]? with
      | none => rw [he] at hx; cases hx
      | some e =>
        rw [he] at hx
        cases hx
        obtain ⟨w', st', ou', dx', e1, e2⟩ := B.bk i e he
        rw [hy] at e1
        cases e1
        have e2' := s2 _ _ e2
        refine ⟨by rfl, ?_⟩
        walk_at "rd"
        refine ifT rfl ?_
        walk_at "rd"
        rw [dec_str]
        exact k1 _ rfl _ (Same.refl _)
    · intro D H' s' hD hD'
      rw [fm_some] at hD'
      walk_at "rd"
      refine s_any (bs := b.blocks.map fun x : Str × Nat × Nat => decide (x.1 = ("quiet" : Str))) (by rw [hD', List.map_map]; rfl) ?_
      have e : (b.blocks.map fun x : Str × Nat × Nat => decide (x.1 = ("quiet" : Str))).any id = inQuiet b := by
        rw [List.any_map]
        rfl
      rw [e]
      exact k H' s'
theorem b_BodyReader_in_quiet (T : Ty K mg a fd) : Binds K (fd 12) ["self"] [] := T.F_BodyReader_in_quiet.binds fun _ _ _ _ _ _ us hl => match us, hl with | [_], _ => rfl

theorem BodyAt.same {H H' : Hp} {r : Addr} {b : Bd} {F : BF} (B : BodyAt a H r b F) (s : Same H H') : BodyAt a H' r b F where
  ob := s _ _ B.ob
  sc := s _ _ B.sc
  ce := s _ _ B.ce
  re := s _ _ B.re
  co := s _ _ B.co
  bl := s _ _ B.bl
  en := fun i e h => by
    obtain ⟨w, vs, h1, h2, h3⟩ := B.en i e h
    exact ⟨w, vs, h1, s _ _ h2, h3⟩
  el := B.el
  bk := fun i e h => by
    obtain ⟨w, st, ou, dx, h1, h2⟩ := B.bk i e h
    exact ⟨w, st, ou, dx, h1, s _ _ h2⟩
  bn := B.bn
  nd := B.nd
/-- the open blocks stand where their lines are -/
def Bd.Ok (b : Bd) : Prop := ∀ w st ou, (w, st, ou) ∈ b.blocks → (w = "if" → b.code[st]? = some ("if" : Str)) ∧ (w = "else" → b.code[st]? = some ("else" : Str)) ∧ st < b.code.length ∧ ou ≤ b.scope.length
/-- words that a line may have -/
structure WsOk (ws : List Str) : Prop where
  len : ∀ z ∈ ws, z.length ≤ 100000
  num : ∀ z ∈ ws, isNumber z = true → ∃ n, PySem.intText? z = some n
  few : ws.length ≤ 100000
  one : ws ≠ []
/-- what a method hands back that reads one line: None, or a new entry; f: what it makes of the body -/
def spE (a : Nat → Addr) (pre : List Str → Prop) (f : Bd → List Str → Option (Str × Bd)) : Sp := fun vs H Q _ => ∃ (r p : Addr) (b : Bd) (F : BF) (ws : List Str), vs = [.ref r, .ref p] ∧ BodyAt a H r b F ∧ H p = some (.lst (ws.map V.str)) ∧ p ∉ F.own r ∧ WsOk ws ∧ (pre ws ∧ b.Ok) ∧
  b.code.length ≤ 5000 ∧ b.scope.length ≤ 5000 ∧ b.blocks.length ≤ 5000 ∧
  (f b ws = none → ∀ H', (∀ x o, H x = some o → x ∉ F.own r → H' x = some o) → Q .non H') ∧
  (∀ w b', f b ws = some (w, b') → ∀ (F' : BF) (e : Addr) (vs : List V) (H' : Hp), BodyAt a H' r b' F' → H' e = some (.lst (.str w :: vs)) → (w = "if" → vs.length = 5) → (w = "else" → vs.length = 2) → H e = none → e ∉ F'.own r →
    (∀ x o, H x = some o → x ∉ F.own r → H' x = some o) → (∀ x ∈ F'.own r, x ∈ F.own r ∨ H x = none) → Q (.ref e) H')
def assignB (b : Bd) (ws : List Str) : Option (Str × Bd) :=
  match ws with
  | w0 :: name :: eq :: x :: l =>
    if eq ≠ "=" then none else
    match exprOf (x :: l) b.scope b.readable with
    | none => none
    | some _ =>
      if w0 = "set" then (if b.kind = "answer" ∨ b.cells.contains name = false then none else some ("set", b))
      else if isWord name = false ∨ b.readable.contains name = true then none
      else some ("let", { b with scope := if b.scope.contains name then b.scope else b.scope ++ [name] })
  | _ => none
theorem own_none {F : BF} {H : Hp} {r : Addr} {b : Bd} (B : BodyAt a H r b F) {e : Addr} (h : H e = none) : e ∉ F.own r := by
  intro he
  have hb : ∀ x ∈ F.own r, ∃ o, H x = some o := by
    intro x hx
    simp only [BF.own, List.mem_cons, List.mem_append] at hx
    rcases hx with e | e | e | e | e | e | e | e
    · exact ⟨_, by rw [e]; exact B.ob⟩
    · exact ⟨_, by rw [e]; exact B.sc⟩
    · exact ⟨_, by rw [e]; exact B.ce⟩
    · exact ⟨_, by rw [e]; exact B.re⟩
    · exact ⟨_, by rw [e]; exact B.co⟩
    · exact ⟨_, by rw [e]; exact B.bl⟩
    · obtain ⟨i, hi, hi2⟩ := List.mem_iff_getElem.mp e
      obtain ⟨w, vs, _, h2, _⟩ := B.en i x (by rw [List.getElem?_eq_getElem hi, hi2])
      exact ⟨_, h2⟩
    · obtain ⟨i, hi, hi2⟩ := List.mem_iff_getElem.mp e
      obtain ⟨w, st, ou, dx, _, h2⟩ := B.bk i x (by rw [List.getElem?_eq_getElem hi, hi2])
      exact ⟨_, h2⟩
  obtain ⟨o, ho⟩ := hb e he
  rw [h] at ho
  cases ho
end
end Tr
set_option maxHeartbeats 1000000

namespace Tr
open PySem L2
section
variable {P : Program} {w : World} {K : PySem.W.Frag} {mg : Str → Option Value} {base : Heap} {a : Nat → Addr} {fd : Nat → FuncData} {tk : Nat → Tok}
local macro_rules | `(tactic| walk_at "ne") => `(tactic| first | assumption | (exact Ne.symm (by assumption)) | (refine ne_of_none (by assumption) (by assumption)) | (refine Ne.symm (ne_of_none (by assumption) (by assumption))))
local macro_rules | `(tactic| walk_at "hl") => `(tactic| first | assumption | with_reducible exact upd_same | ((with_reducible refine' Eq.trans (upd_ne ?hne) ?hrest); (case hne => walk_at "ne"); (case hrest => walk_at "hl")) | (refine' get_same ?hs ?hg; (case hs => assumption); (case hg => assumption)))
local macro_rules | `(tactic| walk_at "at") => `(tactic| first | with_reducible exact atI_0 _ _ | with_reducible exact atI_1 _ _ _ | with_reducible exact atI_2 _ _ _ _ | with_reducible exact atI_3 _ _ _ _ _ | assumption)
local macro_rules | `(tactic| walk_at "rd1") => `(tactic| first
  | with_reducible refine s_seq ?_ | with_reducible refine s_next ?_ | with_reducible refine s_if ?_ | with_reducible refine s_ret ?_ | with_reducible refine s_retN ?_ | with_reducible refine s_drop ?_ | with_reducible refine s_asg ?_ | with_reducible refine s_brk ?_ | with_reducible refine s_cont ?_
  | with_reducible refine s_gname ?_ | with_reducible refine s_c ?_ | with_reducible refine s_op ?_ | with_reducible refine s_un ?_ | with_reducible refine s_neg ?_ | with_reducible refine s_test ?_ | with_reducible refine s_tb ?_ | with_reducible refine s_not ?_ | with_reducible refine s_and ?_ | with_reducible refine s_or ?_ | with_reducible refine s_yes ?_
  | ((with_reducible refine' s_var ?hv ?_); (case hv => exact rfl))
  | with_reducible refine s_ifx ?_ | with_reducible refine s_andV ?_ | with_reducible refine s_orV ?_ | with_reducible refine s_notV ?_ | with_reducible refine s_chain ?_ | with_reducible refine s_nil ?_ | with_reducible refine s_cons ?_ | with_reducible refine s_lst ?_ | with_reducible refine s_tup ?_ | with_reducible refine s_cb ?_ | with_reducible refine s_call ?_ | with_reducible refine s_meth ?_ | with_reducible refine s_make ?_
  | with_reducible refine s_dnewK ?_ | with_reducible refine s_sl ?_ | with_reducible refine s_po0 ?_ | with_reducible refine s_po1 ?_ | with_reducible refine s_bm ?_ | with_reducible refine s_bm0 ?_
  | with_reducible refine s_bl ?_ | with_reducible refine s_int ?_ | with_reducible refine s_I0 ?_ | with_reducible refine s_addI ?_ | with_reducible refine s_intI ?_ | with_reducible refine s_intB ?_
  | with_reducible refine s_m1 ?_ | with_reducible refine s_lc ?_ | with_reducible refine s_ilist ?_ | with_reducible refine s_for ?_ | with_reducible refine s_irng ?_ | with_reducible refine s_match ?_ | with_reducible refine s_starT ?_ | with_reducible refine s_isS ?_ | with_reducible refine s_isiSS ?_ | with_reducible refine s_fldU ?_ | with_reducible refine s_sfldU ?_
  | ((with_reducible refine' s_eqS ?hq ?_); (case hq => exact rfl)) | ((with_reducible refine' s_neS ?hq ?_); (case hq => exact rfl))
  | ((with_reducible refine' s_isN ?hq ?_); (case hq => exact rfl)) | ((with_reducible refine' s_notN ?hq ?_); (case hq => exact rfl))
  | ((with_reducible refine' s_eqNil ?h1 ?h2 ?_); (case h1 => walk_at "hl"); (case h2 => walk_at "hl")) | ((with_reducible refine' s_neNil ?h1 ?h2 ?_); (case h1 => walk_at "hl"); (case h2 => walk_at "hl"))
  | ((with_reducible refine' s_ixL ?h1 ?h2 ?_); (case h1 => walk_at "hl"); (case h2 => walk_at "at")) | ((with_reducible refine' s_ixT ?h1 ?h2 ?_); (case h1 => walk_at "hl"); (case h2 => walk_at "at"))
  | ((with_reducible refine' s_inS ?h1 ?_); (case h1 => walk_at "hl")) | ((with_reducible refine' s_ninS ?h1 ?_); (case h1 => walk_at "hl")) | with_reducible refine s_inW ?_
  | ((with_reducible refine' s_lenL ?h1 ?_); (case h1 => walk_at "hl")) | ((with_reducible refine' s_lenT ?h1 ?_); (case h1 => walk_at "hl"))
  | ((with_reducible refine' s_tyL ?h1 ?_); (case h1 => walk_at "hl"))
  | ((with_reducible refine' s_fldM ?h1 ?h2 ?h3 ?_); (case h1 => walk_at "hl"); (case h2 => walk_at "fok"); (case h3 => walk_at "flk"))
  | ((with_reducible refine' s_setM ?h1 ?h2 ?h3 ?h4 ?_); (case h1 => walk_at "hl"); (case h2 => walk_at "fok"); (case h4 => walk_at "put"); (case h3 => exact Nat.le_of_ble_eq_true rfl))
  | ((with_reducible refine' s_starM ?h1 ?_); (case h1 => walk_at "hl"))
  | ((with_reducible refine' s_recv ?h1 ?h2 ?_); (case h1 => walk_at "hl"); (case h2 => exact rfl))
  | ((with_reducible refine' s_sz ?h1 ?_); (case h1 => (simp; done))))
local macro_rules | `(tactic| walk_at "rd") => `(tactic| repeat (walk_at "rd1"))
local macro_rules | `(tactic| walk_at "fok") => `(tactic| assumption)
local macro_rules | `(tactic| walk_at "flk") => `(tactic| rfl)
local macro_rules | `(tactic| walk_at "put") => `(tactic| exact rfl)

local macro_rules | `(tactic| walk_at "fok") => `(tactic| first | exact Ty.blk (by assumption) (by decide) | exact Ty.bdy (by assumption) (by decide))
theorem cutV_1 (w0 : Str) (l : List Str) : cutV ((w0 :: l).map V.str) (some 1) none = l.map V.str := cutV_drop (w0 :: l) 1 (by simp)
theorem cutV_3 (w0 w1 w2 : Str) (l : List Str) : cutV ((w0 :: w1 :: w2 :: l).map V.str) (some 3) none = l.map V.str := cutV_drop (w0 :: w1 :: w2 :: l) 3 (by simp)
/-- the scope's list is changed -/
theorem BodyAt.scopeAt {H : Hp} {r : Addr} {b : Bd} {F : BF} (B : BodyAt a H r b F) {xs : List Str} : BodyAt a (upd H F.s (.lst (xs.map V.str))) r { b with scope := xs } F := by
  obtain ⟨ns1, ns2, ns3, ns4, nse⟩ : F.s ≠ F.c ∧ F.s ≠ F.d ∧ F.s ≠ F.k ∧ F.s ≠ F.l ∧ F.s ∉ F.es := by
    have := (List.nodup_cons.mp B.nd).1
    simp only [List.mem_cons, not_or] at this
    exact this
  refine ⟨?_, upd_same, ?_, ?_, ?_, ?_, fun i e h => ?_, B.el, fun i e h => ?_, B.bn, B.nd⟩
  · rw [upd_ne (ne_of B.ob B.sc (by intro e; cases e))]
    exact B.ob
  · rw [upd_ne (Ne.symm ns1)]
    exact B.ce
  · rw [upd_ne (Ne.symm ns2)]
    exact B.re
  · rw [upd_ne (Ne.symm ns3)]
    exact B.co
  · rw [upd_ne (Ne.symm ns4)]
    exact B.bl
  · obtain ⟨w, vs, h1, h2, h3⟩ := B.en i e h
    exact ⟨w, vs, h1, by rw [upd_ne (fun q => nse (by rw [← q]; exact List.mem_of_getElem? h))]; exact h2, h3⟩
  · obtain ⟨w, st, ou, dx, h1, h2⟩ := B.bk i e h
    exact ⟨w, st, ou, dx, h1, by rw [upd_ne (ne_of h2 B.sc (by intro e; cases e))]; exact h2⟩
/-- the frame where all that stood stands -/
theorem frame_same {H H' : Hp} {p : Addr → Prop} (s : Same H H') : ∀ x o, H x = some o → p x → H' x = some o := fun x o h _ => s x o h
theorem ok_BodyReader_assignment (T : Ty K mg a fd) (T1 : Tx K mg a fd tk) : FnOk P w K mg base CX0 3 (a 13) (fd 13) ["self", "words"] (spE a (fun _ => True) assignB) := by
  refine T.F_BodyReader_assignment.ok sc_BodyReader_assignment (fun vs H Q E h => ?_) (fun cdv A outer s H vs Q E hr h => ?_)
  · obtain ⟨r, p, b, F, ws, rfl, _⟩ := h
    rfl
  · obtain ⟨r, p, b, F, ws, rfl, B, hp, hpo, W, _, z1, z2, z3, kN, kS⟩ := h
    refine ⟨_, (pss_cons (ps_if (PW.pt (pw_or (pt_cmpR op_lt (pe_callB uLen (by rfl) T1.b_len bt_len (pa_cons (pv 1) pa_nil)) pe_int (nomark _)) (pw_or1 (pt_cmpR (uNe K hr.units) (pe_ix uIx (pv 1) pe_int (fun _ _ => rfl)) pe_str (nomark _))))) (pss_one (ps_ret pe_non)) pss_nil)
  (pss_cons (ps_asg (pe_ix uIx (pv 1) pe_int (fun _ _ => rfl)) (pg_name (i := 2) sc_BodyReader_assignment.nd rfl (by first | exact Or.inl rfl | exact Or.inr rfl)))
  (pss_cons (ps_asg (pe_call (ok_expression T1) (hr.mono (by decide)) (by rfl) T1.g_expression T1.F_expression.kp (b_expression T1) .nil pass0 (pa_cons (pe_slice uSl (pv 1) (po_some pe_int) po_none) (pa_cons (pe_fldU K (pv 0)) (pa_cons (pe_fldU K (pv 0)) pa_nil)))) (pg_name (i := 3) sc_BodyReader_assignment.nd rfl (by first | exact Or.inl rfl | exact Or.inr rfl)))
  (pss_cons (ps_if (pt_cmpR op_isN1 (pv 3) pe_non (nomark _)) (pss_one (ps_ret pe_non)) pss_nil)
  (pss_cons (ps_if (pt_cmpR (uEq K hr.units) (pe_ix uIx (pv 1) pe_int (fun _ _ => rfl)) pe_str (nomark _)) (pss_cons (ps_if (PW.pt (pw_or (pt_cmpR (uEq K hr.units) (pe_fldU K (pv 0)) pe_str (nomark _)) (pw_or1 (pt_cmpR (uNotIn K) (pv 2) (pe_fldU K (pv 0)) (by rfl))))) (pss_one (ps_ret pe_non)) pss_nil)
  (pss_one (ps_ret (pe_lst (pa_cons pe_str (pa_cons (pe_meth0 (pv 0) T.cl_BodyReader T.m_BodyReader_in_quiet (ok_BodyReader_in_quiet T) (hr.mono (by decide)) (b_BodyReader_in_quiet T) .nil pass0) (pa_cons (pv 2) (pa_cons (pv 3) pa_nil)))))))) pss_nil)
  (pss_cons (ps_if (PW.pt (pw_or (pt_not (pt_val (pe_call (ok_is_word T1) (hr.mono (by decide)) (by rfl) T1.g_is_word T1.F_is_word.kp (b_is_word T1) .nil pass0 (pa_cons (pv 2) pa_nil)))) (pw_or1 (pt_cmpR (uIn K) (pv 2) (pe_fldU K (pv 0)) (by rfl))))) (pss_one (ps_ret pe_non)) pss_nil)
  (pss_cons (ps_if (pt_cmpR (uNotIn K) (pv 2) (pe_fldU K (pv 0)) (by rfl)) (pss_one (ps_expr (pe_bm PySem.F.plainAttrs_list PySem.F.slot_list_append PySem.F.type_list_append uAppend (pe_fldU K (pv 0)) (pa_cons (pv 2) pa_nil)))) pss_nil)
  (pss_one (ps_ret (pe_lst (pa_cons pe_str (pa_cons (pe_meth0 (pv 0) T.cl_BodyReader T.m_BodyReader_in_quiet (ok_BodyReader_in_quiet T) (hr.mono (by decide)) (b_BodyReader_in_quiet T) .nil pass0) (pa_cons (pv 2) (pa_cons (pv 3) pa_nil)))))))))))))), ?_⟩
    have hob := B.ob
    have hsc := B.sc
    have hre := B.re
    have hce := B.ce
    walk_at "rd"
    match ws, hp, W, kN, kS with
    | [], hp, W, kN, kS => exact absurd rfl W.one
    | [w0], hp, W, kN, kS =>
      refine ifT (by rfl) (ifT rfl ?_)
      walk_at "rd"
      exact kN rfl _ fun x o h _ => h
    | [w0, w1], hp, W, kN, kS =>
      refine ifT (by rfl) (ifT rfl ?_)
      walk_at "rd"
      exact kN rfl _ fun x o h _ => h
    | [w0, w1, w2], hp, W, kN, kS =>
      refine ifT (by rfl) (ifT rfl ?_)
      walk_at "rd"
      exact kN rfl _ fun x o h _ => h
    | w0 :: name :: eq :: x :: l, hp, W, kN, kS =>
      have l4 : decide (((List.map V.str (w0 :: name :: eq :: x :: l)).length : Int) < 4) = false := decide_eq_false (by simp; omega)
      refine ifF l4 ?_
      have hp' : H p = some (.lst (.str w0 :: .str name :: .str eq :: .str x :: l.map V.str)) := hp
      walk_at "rd"
      rw [dec_str]
      by_cases c1 : eq = "="
      · refine ifF (by simp [c1]) ?_
        walk_at "rd"
        refine s_slL hp fun p1 hp1 => ?_
        walk_at "rd"
        have s1 := Same.new (o := .lst (cutV (List.map V.str (w0 :: name :: eq :: x :: l)) (some 3) none)) hp1
        have hob1 := s1 _ _ hob
        walk_at "rd"
        refine ⟨p1, F.s, F.d, x :: l, b.scope, b.readable, rfl, by rw [upd_same, cutV_3], s1 _ _ hsc, s1 _ _ hre, fun z hz => W.len z (by simp [List.mem_cons] at hz ⊢; exact .inr (.inr (.inr hz))), fun z hz => W.num z (by simp [List.mem_cons] at hz ⊢; exact .inr (.inr (.inr hz))), fun v5 H5 s5 e5 => ?_⟩
        have s5' := s1.trans s5
        walk_at "rd"
        cases h5 : exprOf (x :: l) b.scope b.readable with
        | none =>
          rw [h5] at e5
          have e5' : v5 = .non := e5
          subst e5'
          refine ifT rfl ?_
          walk_at "rd"
          exact kN (by simp [assignB, c1, h5]) _ (frame_same s5')
        | some x5 =>
          rw [h5] at e5
          obtain ⟨t5, rfl, n5, g5⟩ := e5
          refine ifF rfl ?_
          have hp5 := s5' _ _ hp'
          have hob5 := s5' _ _ hob
          have hce5 := s5' _ _ hce
          have hre5 := s5' _ _ hre
          have hsc5 := s5' _ _ hsc
          walk_at "rd"
          rw [dec_str]
          by_cases c2 : w0 = "set"
          · refine ifT (by simp [c2]) ?_
            walk_at "rd"
            rw [dec_str]
            by_cases c3 : b.kind = "answer"
            · refine ifT (by simp [c3]) ?_
              refine ifT rfl ?_
              walk_at "rd"
              exact kN (by simp [assignB, c1, h5, c2, c3]) _ (frame_same s5')
            · refine ifF (by simp [c3]) ?_
              walk_at "rd"
              cases c4 : b.cells.contains name with
              | false =>
                refine ifT rfl ?_
                walk_at "rd"
                exact kN (by simp only [assignB, c1, h5, c2, c3, c4]; rfl) _ (frame_same s5')
              | true =>
                refine ifF rfl ?_
                walk_at "rd"
                refine ⟨r, b, F, rfl, B.same s5', z3, fun H6 s6 => ?_⟩
                have s6' := s5'.trans s6
                walk_at "rd"
                refine fun e he => ?_
                have s7 := s6'.trans (Same.new (o := .lst [.str "set", .bl (inQuiet b), .str name, .ref t5]) he)
                refine kS "set" b (by simp [assignB, c1, h5, c2, c3]; simpa using c4) F e [.bl (inQuiet b), .str name, .ref t5] _ (B.same s7) upd_same (fun q => absurd q (by decide)) (fun q => absurd q (by decide)) (s6'.free he) (own_none B (s6'.free he)) (frame_same s7) fun x hx => .inl hx
          · refine ifF (by simp [c2]) ?_
            walk_at "rd"
            refine ⟨name, rfl, sz_le (W.len name (by simp)), fun H6 s6 => ?_⟩
            have s6' := s5'.trans s6
            have hob6 := s6' _ _ hob
            have hre6 := s6' _ _ hre
            have hsc6 := s6' _ _ hsc
            walk_at "rd"
            cases c3 : isWord name with
            | false =>
              refine ifT rfl (ifT rfl ?_)
              walk_at "rd"
              exact kN (by simp [assignB, c1, h5, c2, c3]) _ (frame_same s6')
            | true =>
              refine ifF rfl ?_
              walk_at "rd"
              cases c4 : b.readable.contains name with
              | true =>
                refine ifT rfl ?_
                walk_at "rd"
                exact kN (by simp only [assignB, c1, h5, c2, c3, c4]; rfl) _ (frame_same s6')
              | false =>
                refine ifF rfl ?_
                walk_at "rd"
                have nsF : ∀ x ∈ F.own r, x ≠ F.s → True := fun _ _ _ => trivial
                obtain ⟨ns1, ns2, ns3, ns4, nse⟩ : F.s ≠ F.c ∧ F.s ≠ F.d ∧ F.s ≠ F.k ∧ F.s ≠ F.l ∧ F.s ∉ F.es := by
                  have := (List.nodup_cons.mp B.nd).1
                  simp only [List.mem_cons, not_or] at this
                  exact this
                cases c5 : b.scope.contains name with
                | true =>
                  refine ifF rfl ?_
                  walk_at "rd"
                  refine ⟨r, b, F, rfl, B.same s6', z3, fun H7 s7 => ?_⟩
                  have s7' := s6'.trans s7
                  walk_at "rd"
                  refine fun e he => ?_
                  have s8 := s7'.trans (Same.new (o := .lst [.str "let", .bl (inQuiet b), .str name, .ref t5]) he)
                  have eb : ({ b with scope := if b.scope.contains name then b.scope else b.scope ++ [name] } : Bd) = b := by rw [c5]; rfl
                  refine kS "let" b (by simp only [assignB, c1, h5, c2, c3, c4, ne_eq, not_true_eq_false, if_false, Bool.true_eq_false, Bool.false_eq_true, or_self, eb]) F e [.bl (inQuiet b), .str name, .ref t5] _ (B.same s8) upd_same (fun q => absurd q (by decide)) (fun q => absurd q (by decide)) (s7'.free he) (own_none B (s7'.free he)) (frame_same s8) fun x hx => .inl hx
                | false =>
                  refine ifT rfl ?_
                  walk_at "rd"
                  refine s_app hsc6 (sz_lt (by rw [List.length_map]; omega)) ?_
                  walk_at "rd"
                  have eb : ({ b with scope := if b.scope.contains name then b.scope else b.scope ++ [name] } : Bd) = { b with scope := b.scope ++ [name] } := by rw [c5]; rfl
                  have B7 := (B.same s6').scopeAt (xs := b.scope ++ [name])
                  rw [List.map_append] at B7
                  have hob7 := B7.ob
                  walk_at "rd"
                  refine ⟨r, _, F, rfl, B7, z3, fun H7 s7 => ?_⟩
                  walk_at "rd"
                  refine fun e he => ?_
                  have s8 := s7.trans (Same.new (o := .lst [.str "let", .bl (inQuiet { b with scope := b.scope ++ [name] }), .str name, .ref t5]) he)
                  have he6 : H6 e = none := (upd_none (s7.free he)).2
                  refine kS "let" { b with scope := b.scope ++ [name] } (by simp only [assignB, c1, h5, c2, c3, c4, ne_eq, not_true_eq_false, if_false, Bool.true_eq_false, Bool.false_eq_true, or_self, eb]) F e [.bl (inQuiet { b with scope := b.scope ++ [name] }), .str name, .ref t5] _ (B7.same s8) upd_same (fun q => absurd q (by decide)) (fun q => absurd q (by decide)) (s6'.free he6) (own_none B (s6'.free he6)) (fun x o hx hn => s8 _ _ ?_) fun x hx => .inl hx
                  rw [upd_ne (fun q => hn (by rw [q]; simp [BF.own]))]
                  exact s6' _ _ hx
      · refine ifT (by simp [c1]) ?_
        walk_at "rd"
        exact kN (by simp [assignB, c1]) _ fun x o h _ => h
end
end Tr
set_option maxHeartbeats 1000000

namespace Tr
open PySem L2
section
variable {P : Program} {w : World} {K : PySem.W.Frag} {mg : Str → Option Value} {base : Heap} {a : Nat → Addr} {fd : Nat → FuncData} {tk : Nat → Tok}
local macro_rules | `(tactic| walk_at "ne") => `(tactic| first | assumption | (exact Ne.symm (by assumption)) | (refine ne_of_none (by assumption) (by assumption)) | (refine Ne.symm (ne_of_none (by assumption) (by assumption))))
local macro_rules | `(tactic| walk_at "hl") => `(tactic| first | assumption | with_reducible exact upd_same | ((with_reducible refine' Eq.trans (upd_ne ?hne) ?hrest); (case hne => walk_at "ne"); (case hrest => walk_at "hl")) | (refine' get_same ?hs ?hg; (case hs => assumption); (case hg => assumption)))
local macro_rules | `(tactic| walk_at "at") => `(tactic| first | with_reducible exact atI_0 _ _ | with_reducible exact atI_1 _ _ _ | with_reducible exact atI_2 _ _ _ _ | with_reducible exact atI_3 _ _ _ _ _ | assumption)
local macro_rules | `(tactic| walk_at "rd1") => `(tactic| first
  | with_reducible refine s_seq ?_ | with_reducible refine s_next ?_ | with_reducible refine s_if ?_ | with_reducible refine s_ret ?_ | with_reducible refine s_retN ?_ | with_reducible refine s_drop ?_ | with_reducible refine s_asg ?_ | with_reducible refine s_brk ?_ | with_reducible refine s_cont ?_
  | with_reducible refine s_gname ?_ | with_reducible refine s_c ?_ | with_reducible refine s_op ?_ | with_reducible refine s_un ?_ | with_reducible refine s_neg ?_ | with_reducible refine s_test ?_ | with_reducible refine s_tb ?_ | with_reducible refine s_not ?_ | with_reducible refine s_and ?_ | with_reducible refine s_or ?_ | with_reducible refine s_yes ?_
  | ((with_reducible refine' s_var ?hv ?_); (case hv => exact rfl))
  | with_reducible refine s_ifx ?_ | with_reducible refine s_andV ?_ | with_reducible refine s_orV ?_ | with_reducible refine s_notV ?_ | with_reducible refine s_chain ?_ | with_reducible refine s_nil ?_ | with_reducible refine s_cons ?_ | with_reducible refine s_lst ?_ | with_reducible refine s_tup ?_ | with_reducible refine s_cb ?_ | with_reducible refine s_call ?_ | with_reducible refine s_meth ?_ | with_reducible refine s_make ?_
  | with_reducible refine s_dnewK ?_ | with_reducible refine s_sl ?_ | with_reducible refine s_po0 ?_ | with_reducible refine s_po1 ?_ | with_reducible refine s_bm ?_ | with_reducible refine s_bm0 ?_
  | with_reducible refine s_bl ?_ | with_reducible refine s_int ?_ | with_reducible refine s_I0 ?_ | with_reducible refine s_addI ?_ | with_reducible refine s_intI ?_ | with_reducible refine s_intB ?_
  | with_reducible refine s_m1 ?_ | with_reducible refine s_lc ?_ | with_reducible refine s_ilist ?_ | with_reducible refine s_for ?_ | with_reducible refine s_irng ?_ | with_reducible refine s_match ?_ | with_reducible refine s_starT ?_ | with_reducible refine s_isS ?_ | with_reducible refine s_isiSS ?_ | with_reducible refine s_fldU ?_ | with_reducible refine s_sfldU ?_
  | ((with_reducible refine' s_eqS ?hq ?_); (case hq => exact rfl)) | ((with_reducible refine' s_neS ?hq ?_); (case hq => exact rfl))
  | ((with_reducible refine' s_isN ?hq ?_); (case hq => exact rfl)) | ((with_reducible refine' s_notN ?hq ?_); (case hq => exact rfl))
  | ((with_reducible refine' s_eqNil ?h1 ?h2 ?_); (case h1 => walk_at "hl"); (case h2 => walk_at "hl")) | ((with_reducible refine' s_neNil ?h1 ?h2 ?_); (case h1 => walk_at "hl"); (case h2 => walk_at "hl"))
  | ((with_reducible refine' s_ixL ?h1 ?h2 ?_); (case h1 => walk_at "hl"); (case h2 => walk_at "at")) | ((with_reducible refine' s_ixT ?h1 ?h2 ?_); (case h1 => walk_at "hl"); (case h2 => walk_at "at"))
  | ((with_reducible refine' s_inS ?h1 ?_); (case h1 => walk_at "hl")) | ((with_reducible refine' s_ninS ?h1 ?_); (case h1 => walk_at "hl")) | with_reducible refine s_inW ?_
  | ((with_reducible refine' s_lenL ?h1 ?_); (case h1 => walk_at "hl")) | ((with_reducible refine' s_lenT ?h1 ?_); (case h1 => walk_at "hl"))
  | ((with_reducible refine' s_tyL ?h1 ?_); (case h1 => walk_at "hl"))
  | ((with_reducible refine' s_fldM ?h1 ?h2 ?h3 ?_); (case h1 => walk_at "hl"); (case h2 => walk_at "fok"); (case h3 => walk_at "flk"))
  | ((with_reducible refine' s_setM ?h1 ?h2 ?h3 ?h4 ?_); (case h1 => walk_at "hl"); (case h2 => walk_at "fok"); (case h4 => walk_at "put"); (case h3 => exact Nat.le_of_ble_eq_true rfl))
  | ((with_reducible refine' s_starM ?h1 ?_); (case h1 => walk_at "hl"))
  | ((with_reducible refine' s_recv ?h1 ?h2 ?_); (case h1 => walk_at "hl"); (case h2 => exact rfl))
  | ((with_reducible refine' s_sz ?h1 ?_); (case h1 => (simp; done))))
local macro_rules | `(tactic| walk_at "rd") => `(tactic| repeat (walk_at "rd1"))
local macro_rules | `(tactic| walk_at "fok") => `(tactic| assumption)
local macro_rules | `(tactic| walk_at "flk") => `(tactic| rfl)
local macro_rules | `(tactic| walk_at "put") => `(tactic| exact rfl)

local macro_rules | `(tactic| walk_at "fok") => `(tactic| first | exact Ty.blk (by assumption) (by decide) | exact Ty.bdy (by assumption) (by decide))
def singleB (b : Bd) (ws : List Str) : Option (Str × Bd) :=
  match ws with
  | [] => none
  | w0 :: l =>
    if w0 = "note" then
      (if b.kind = "handler" then none else match l with
        | [n] => if b.readable.contains n then some ("note", b) else none
        | _ => none)
    else if b.kind ≠ (if w0 = "tell" then "effect" else "answer" : Str) then none else
    match exprOf l b.scope b.readable with
    | none => none
    | some _ => some (w0, b)
theorem b_BodyReader_assignment (T : Ty K mg a fd) : Binds K (fd 13) ["self", "words"] [] := T.F_BodyReader_assignment.binds fun _ _ _ _ _ _ us hl => match us, hl with | [_, _], _ => rfl
theorem b_BodyReader_single (T : Ty K mg a fd) : Binds K (fd 14) ["self", "words"] [] := T.F_BodyReader_single.binds fun _ _ _ _ _ _ us hl => match us, hl with | [_, _], _ => rfl
theorem ok_BodyReader_single (T : Ty K mg a fd) (T1 : Tx K mg a fd tk) : FnOk P w K mg base CX0 3 (a 14) (fd 14) ["self", "words"] (spE a (fun ws => ws.headD "" = "note" ∨ ws.headD "" = "tell" ∨ ws.headD "" = "give") singleB) := by
  refine T.F_BodyReader_single.ok sc_BodyReader_single (fun vs H Q E h => ?_) (fun cdv A outer s H vs Q E hr h => ?_)
  · obtain ⟨r, p, b, F, ws, rfl, _⟩ := h
    rfl
  · obtain ⟨r, p, b, F, ws, rfl, B, hp, hpo, W, ⟨hpre, _⟩, z1, z2, z3, kN, kS⟩ := h
    refine ⟨_, (pss_cons (ps_if (pt_cmpR (uEq K hr.units) (pe_ix uIx (pv 1) pe_int (fun _ _ => rfl)) pe_str (nomark _)) (pss_cons (ps_if (PW.pt (pw_or (pt_cmpR (uEq K hr.units) (pe_fldU K (pv 0)) pe_str (nomark _)) (pw_or (pt_cmpR (uNe K hr.units) (pe_callB uLen (by rfl) T1.b_len bt_len (pa_cons (pv 1) pa_nil)) pe_int (nomark _)) (pw_or1 (pt_cmpR (uNotIn K) (pe_ix uIx (pv 1) pe_int (fun _ _ => rfl)) (pe_fldU K (pv 0)) (by rfl)))))) (pss_one (ps_ret pe_non)) pss_nil)
  (pss_one (ps_ret (pe_lst (pa_cons pe_str (pa_cons (pe_meth0 (pv 0) T.cl_BodyReader T.m_BodyReader_in_quiet (ok_BodyReader_in_quiet T) (hr.mono (by decide)) (b_BodyReader_in_quiet T) .nil pass0) (pa_cons (pe_ix uIx (pv 1) pe_int (fun _ _ => rfl)) pa_nil))))))) pss_nil)
  (pss_cons (ps_if (pt_cmpR (uNe K hr.units) (pe_fldU K (pv 0)) (pe_ifExp (pt_cmpR (uEq K hr.units) (pe_ix uIx (pv 1) pe_int (fun _ _ => rfl)) pe_str (nomark _)) pe_str pe_str) (nomark _)) (pss_one (ps_ret pe_non)) pss_nil)
  (pss_cons (ps_asg (pe_call (ok_expression T1) (hr.mono (by decide)) (by rfl) T1.g_expression T1.F_expression.kp (b_expression T1) .nil pass0 (pa_cons (pe_slice uSl (pv 1) (po_some pe_int) po_none) (pa_cons (pe_fldU K (pv 0)) (pa_cons (pe_fldU K (pv 0)) pa_nil)))) (pg_name (i := 2) sc_BodyReader_single.nd rfl (by first | exact Or.inl rfl | exact Or.inr rfl)))
  (pss_one (ps_ret (pe_ifExp (pt_cmpR op_isN1 (pv 2) pe_non (nomark _)) pe_non (pe_lst (pa_cons (pe_ix uIx (pv 1) pe_int (fun _ _ => rfl)) (pa_cons (pe_meth0 (pv 0) T.cl_BodyReader T.m_BodyReader_in_quiet (ok_BodyReader_in_quiet T) (hr.mono (by decide)) (b_BodyReader_in_quiet T) .nil pass0) (pa_cons (pv 2) pa_nil)))))))))), ?_⟩
    have hob := B.ob
    have hsc := B.sc
    have hre := B.re
    have hce := B.ce
    match ws, hp, W, hpre, kN, kS with
    | [], hp, W, hpre, kN, kS => exact absurd rfl W.one
    | w0 :: l, hp, W, hpre, kN, kS =>
      have hp' : H p = some (.lst (.str w0 :: l.map V.str)) := hp
      have hno : w0 ≠ "if" ∧ w0 ≠ "else" := by
        have hpre' : w0 = "note" ∨ w0 = "tell" ∨ w0 = "give" := hpre
        rcases hpre' with e | e | e <;> rw [e] <;> exact ⟨by decide, by decide⟩
      walk_at "rd"
      rw [dec_str]
      by_cases c1 : w0 = "note"
      · refine ifT (by simp [c1]) ?_
        walk_at "rd"
        rw [dec_str]
        by_cases c2 : b.kind = "handler"
        · refine ifT (by simp [c2]) (ifT rfl ?_)
          walk_at "rd"
          exact kN (by simp [singleB, c1, c2]) _ fun x o h _ => h
        · refine ifF (by simp [c2]) ?_
          walk_at "rd"
          rw [dec_int]
          match l, hp, hp', W, kN, kS with
          | [], hp, hp', W, kN, kS =>
            refine ifT (by simp) (ifT rfl ?_)
            walk_at "rd"
            exact kN (by simp [singleB, c1, c2]) _ fun x o h _ => h
          | x :: y :: l, hp, hp', W, kN, kS =>
            refine ifT (by simp; omega) (ifT rfl ?_)
            walk_at "rd"
            exact kN (by simp [singleB, c1, c2]) _ fun x o h _ => h
          | [n], hp, hp', W, kN, kS =>
            refine ifF (by simp) ?_
            have hp'' : H p = some (.lst [.str w0, .str n]) := hp
            walk_at "rd"
            cases c3 : b.readable.contains n with
            | false =>
              refine ifT rfl ?_
              walk_at "rd"
              exact kN (by simp [singleB, c1, c2]; simpa using c3) _ fun x o h _ => h
            | true =>
              refine ifF rfl ?_
              walk_at "rd"
              refine ⟨r, b, F, rfl, B, z3, fun H6 s6 => ?_⟩
              have hp6 := s6 _ _ hp''
              walk_at "rd"
              refine fun e he => ?_
              have s7 := s6.trans (Same.new (o := .lst [.str "note", .bl (inQuiet b), .str n]) he)
              exact kS "note" b (by simp [singleB, c1, c2]; simpa using c3) F e _ _ (B.same s7) upd_same (fun q => absurd q (by decide)) (fun q => absurd q (by decide)) (s6.free he) (own_none B (s6.free he)) (frame_same s7) fun x hx => .inl hx
      · refine ifF (by simp [c1]) ?_
        walk_at "rd"
        rw [dec_str]
        have hk : b.kind ≠ (if w0 = "tell" then "effect" else "answer" : Str) → singleB b (w0 :: l) = none := fun q => by simp only [singleB, c1, if_false, ne_eq, q, not_false_eq_true, if_true]
        have hk2 : b.kind = (if w0 = "tell" then "effect" else "answer" : Str) → singleB b (w0 :: l) = (exprOf l b.scope b.readable).map fun _ => (w0, b) := fun q => by
          simp only [singleB, c1, if_false, ne_eq, q, not_true_eq_false]
          cases exprOf l b.scope b.readable <;> rfl
        by_cases c2 : w0 = "tell"
        rotate_left
        refine ifF (by simp [c2]) ?_
        rotate_right
        refine ifT (by simp [c2]) ?_
        all_goals
          walk_at "rd"
          rw [dec_str]
          refine ifB (fun c3 => ?_) (fun c3 => ?_)
          · walk_at "rd"
            refine kN (hk ?_) _ fun x o h _ => h
            simp at c3
            simpa [c2] using c3
          · have ek := hk2 (by simp at c3; simpa [c2] using c3)
            walk_at "rd"
            refine s_slL hp fun p1 hp1 => ?_
            have s1 := Same.new (o := .lst (cutV (List.map V.str (w0 :: l)) (some 1) none)) hp1
            have hob1 := s1 _ _ hob
            walk_at "rd"
            refine ⟨p1, F.s, F.d, l, b.scope, b.readable, rfl, by rw [upd_same, cutV_1], s1 _ _ hsc, s1 _ _ hre, fun z hz => W.len z (by simp [hz]), fun z hz => W.num z (by simp [hz]), fun v5 H5 s5 e5 => ?_⟩
            have s5' := s1.trans s5
            walk_at "rd"
            cases h5 : exprOf l b.scope b.readable with
            | none =>
              rw [h5] at e5 ek
              have e5' : v5 = .non := e5
              subst e5'
              refine ifT rfl ?_
              walk_at "rd"
              exact kN ek _ (frame_same s5')
            | some x5 =>
              rw [h5] at e5 ek
              obtain ⟨t5, rfl, n5, g5⟩ := e5
              refine ifF rfl ?_
              have hp5 := s5' _ _ hp'
              have hob5 := s5' _ _ hob
              walk_at "rd"
              refine ⟨r, b, F, rfl, B.same s5', z3, fun H6 s6 => ?_⟩
              have s6' := s5'.trans s6
              walk_at "rd"
              refine fun e he => ?_
              have s7 := s6'.trans (Same.new (o := .lst [.str w0, .bl (inQuiet b), .ref t5]) he)
              exact kS w0 b ek F e _ _ (B.same s7) upd_same (fun q => absurd q hno.1) (fun q => absurd q hno.2) (s6'.free he) (own_none B (s6'.free he)) (frame_same s7) fun x hx => .inl hx
end
end Tr
set_option maxHeartbeats 1000000

namespace Tr
open PySem L2
section
variable {P : Program} {w : World} {K : PySem.W.Frag} {mg : Str → Option Value} {base : Heap} {a : Nat → Addr} {fd : Nat → FuncData} {tk : Nat → Tok}
local macro_rules | `(tactic| walk_at "ne") => `(tactic| first | assumption | (exact Ne.symm (by assumption)) | (refine ne_of_none (by assumption) (by assumption)) | (refine Ne.symm (ne_of_none (by assumption) (by assumption))))
local macro_rules | `(tactic| walk_at "hl") => `(tactic| first | assumption | with_reducible exact upd_same | ((with_reducible refine' Eq.trans (upd_ne ?hne) ?hrest); (case hne => walk_at "ne"); (case hrest => walk_at "hl")) | (refine' get_same ?hs ?hg; (case hs => assumption); (case hg => assumption)))
local macro_rules | `(tactic| walk_at "at") => `(tactic| first | with_reducible exact atI_0 _ _ | with_reducible exact atI_1 _ _ _ | with_reducible exact atI_2 _ _ _ _ | with_reducible exact atI_3 _ _ _ _ _ | assumption)
local macro_rules | `(tactic| walk_at "rd1") => `(tactic| first
  | with_reducible refine s_seq ?_ | with_reducible refine s_next ?_ | with_reducible refine s_if ?_ | with_reducible refine s_ret ?_ | with_reducible refine s_retN ?_ | with_reducible refine s_drop ?_ | with_reducible refine s_asg ?_ | with_reducible refine s_brk ?_ | with_reducible refine s_cont ?_
  | with_reducible refine s_gname ?_ | with_reducible refine s_c ?_ | with_reducible refine s_op ?_ | with_reducible refine s_un ?_ | with_reducible refine s_neg ?_ | with_reducible refine s_test ?_ | with_reducible refine s_tb ?_ | with_reducible refine s_not ?_ | with_reducible refine s_and ?_ | with_reducible refine s_or ?_ | with_reducible refine s_yes ?_
  | ((with_reducible refine' s_var ?hv ?_); (case hv => exact rfl))
  | with_reducible refine s_ifx ?_ | with_reducible refine s_andV ?_ | with_reducible refine s_orV ?_ | with_reducible refine s_notV ?_ | with_reducible refine s_chain ?_ | with_reducible refine s_nil ?_ | with_reducible refine s_cons ?_ | with_reducible refine s_lst ?_ | with_reducible refine s_tup ?_ | with_reducible refine s_cb ?_ | with_reducible refine s_call ?_ | with_reducible refine s_meth ?_ | with_reducible refine s_make ?_
  | with_reducible refine s_dnewK ?_ | with_reducible refine s_sl ?_ | with_reducible refine s_po0 ?_ | with_reducible refine s_po1 ?_ | with_reducible refine s_bm ?_ | with_reducible refine s_bm0 ?_
  | with_reducible refine s_bl ?_ | with_reducible refine s_int ?_ | with_reducible refine s_I0 ?_ | with_reducible refine s_addI ?_ | with_reducible refine s_intI ?_ | with_reducible refine s_intB ?_
  | with_reducible refine s_m1 ?_ | with_reducible refine s_lc ?_ | with_reducible refine s_ilist ?_ | with_reducible refine s_for ?_ | with_reducible refine s_irng ?_ | with_reducible refine s_match ?_ | with_reducible refine s_starT ?_ | with_reducible refine s_isS ?_ | with_reducible refine s_isiSS ?_ | with_reducible refine s_fldU ?_ | with_reducible refine s_sfldU ?_
  | ((with_reducible refine' s_eqS ?hq ?_); (case hq => exact rfl)) | ((with_reducible refine' s_neS ?hq ?_); (case hq => exact rfl))
  | ((with_reducible refine' s_isN ?hq ?_); (case hq => exact rfl)) | ((with_reducible refine' s_notN ?hq ?_); (case hq => exact rfl))
  | ((with_reducible refine' s_eqNil ?h1 ?h2 ?_); (case h1 => walk_at "hl"); (case h2 => walk_at "hl")) | ((with_reducible refine' s_neNil ?h1 ?h2 ?_); (case h1 => walk_at "hl"); (case h2 => walk_at "hl"))
  | ((with_reducible refine' s_ixL ?h1 ?h2 ?_); (case h1 => walk_at "hl"); (case h2 => walk_at "at")) | ((with_reducible refine' s_ixT ?h1 ?h2 ?_); (case h1 => walk_at "hl"); (case h2 => walk_at "at"))
  | ((with_reducible refine' s_inS ?h1 ?_); (case h1 => walk_at "hl")) | ((with_reducible refine' s_ninS ?h1 ?_); (case h1 => walk_at "hl")) | with_reducible refine s_inW ?_
  | ((with_reducible refine' s_lenL ?h1 ?_); (case h1 => walk_at "hl")) | ((with_reducible refine' s_lenT ?h1 ?_); (case h1 => walk_at "hl"))
  | ((with_reducible refine' s_tyL ?h1 ?_); (case h1 => walk_at "hl"))
  | ((with_reducible refine' s_fldM ?h1 ?h2 ?h3 ?_); (case h1 => walk_at "hl"); (case h2 => walk_at "fok"); (case h3 => walk_at "flk"))
  | ((with_reducible refine' s_setM ?h1 ?h2 ?h3 ?h4 ?_); (case h1 => walk_at "hl"); (case h2 => walk_at "fok"); (case h4 => walk_at "put"); (case h3 => exact Nat.le_of_ble_eq_true rfl))
  | ((with_reducible refine' s_starM ?h1 ?_); (case h1 => walk_at "hl"))
  | ((with_reducible refine' s_recv ?h1 ?h2 ?_); (case h1 => walk_at "hl"); (case h2 => exact rfl))
  | ((with_reducible refine' s_sz ?h1 ?_); (case h1 => (simp; done))))
local macro_rules | `(tactic| walk_at "rd") => `(tactic| repeat (walk_at "rd1"))
local macro_rules | `(tactic| walk_at "fok") => `(tactic| assumption)
local macro_rules | `(tactic| walk_at "flk") => `(tactic| rfl)
local macro_rules | `(tactic| walk_at "put") => `(tactic| exact rfl)

local macro_rules | `(tactic| walk_at "fok") => `(tactic| first | exact Ty.blk (by assumption) (by decide) | exact Ty.bdy (by assumption) (by decide))
theorem s_ixLast {H : Hp} {Q : VK} {p : Addr} {xs : List V} {v : V} (hp : H p = some (.lst (xs ++ [v]))) (q : Q v H) : rIxU (.ref p) (.int (-1)) H Q := s_ixL hp (atI_last xs v) q
theorem blF_ne {C C' dx dx' : Addr} {w : Str} {st ou : Nat} {kind : Str} {s c d k l : Addr} {n : Nat} {b : Bool} : HO.ins C dx (blF w st ou) ≠ HO.ins C' dx' (bdF kind s c d k l n b) := fun e => by
  injection e with _ _ e3
  have := congrArg List.length e3
  simp [blF, bdF] at this
/-- the object itself is changed: deepest, is_closed -/
theorem BodyAt.setOb {H : Hp} {r : Addr} {b : Bd} {F : BF} (B : BodyAt a H r b F) (dp : Nat) (cl : Bool) : BodyAt a (upd H r (.ins (a 8) F.dx (bdF b.kind F.s F.c F.d F.k F.l dp cl))) r { b with deepest := dp, closed := cl } F := by
  have nl : ∀ {x : Addr} {l : List V}, H x = some (.lst l) → x ≠ r := fun h => ne_of h B.ob (by intro e; cases e)
  refine ⟨upd_same, ?_, ?_, ?_, ?_, ?_, fun i e h => ?_, B.el, fun i e h => ?_, B.bn, B.nd⟩
  · rw [upd_ne (nl B.sc)]; exact B.sc
  · rw [upd_ne (nl B.ce)]; exact B.ce
  · rw [upd_ne (nl B.re)]; exact B.re
  · rw [upd_ne (nl B.co)]; exact B.co
  · rw [upd_ne (nl B.bl)]; exact B.bl
  · obtain ⟨w, vs, h1, h2, h3⟩ := B.en i e h
    exact ⟨w, vs, h1, by rw [upd_ne (nl h2)]; exact h2, h3⟩
  · obtain ⟨w, st, ou, dx, h1, h2⟩ := B.bk i e h
    exact ⟨w, st, ou, dx, h1, by rw [upd_ne (ne_of h2 B.ob blF_ne)]; exact h2⟩
def closeB (b : Bd) : Option (Str × Bd) := if b.kind = "answer" ∧ b.code.getLast? ≠ some ("give" : Str) then none else some ("end", { b with closed := true })
def spClose (a : Nat → Addr) : Sp := fun vs H Q _ => ∃ (r : Addr) (b : Bd) (F : BF), vs = [.ref r] ∧ BodyAt a H r b F ∧
  (closeB b = none → ∀ H', Same H H' → Q .non H') ∧
  (∀ b', closeB b = some (("end" : Str), b') → ∀ (e : Addr) (H' : Hp), BodyAt a H' r b' F → H' e = some (.lst [.str "end", .bl false]) → H e = none → (∀ x o, H x = some o → x ≠ r → H' x = some o) → Q (.ref e) H')
theorem last_word {H : Hp} {r : Addr} {b : Bd} {F : BF} (B : BodyAt a H r b F) : (F.es = [] ∧ b.code.getLast? = none) ∨ ∃ es e w vs, F.es = es ++ [e] ∧ b.code.getLast? = some w ∧ H e = some (.lst (.str w :: vs)) := by
  rcases List.eq_nil_or_concat F.es with h | ⟨es, e, h⟩
  · left
    have := B.el
    rw [h] at this
    exact ⟨h, by rw [List.eq_nil_of_length_eq_zero this.symm]; rfl⟩
  · right
    rw [List.concat_eq_append] at h
    have he : F.es[es.length]? = some e := by rw [h]; simp
    obtain ⟨w, vs, h1, h2, _⟩ := B.en _ _ he
    refine ⟨es, e, w, vs, h, ?_, h2⟩
    have hl := B.el
    rw [h, List.length_append] at hl
    rw [List.getLast?_eq_getElem?, ← hl]
    simpa using h1
theorem ok_BodyReader_closing (T : Ty K mg a fd) (T1 : Tx K mg a fd tk) : FnOk P w K mg base CX0 3 (a 17) (fd 17) ["self"] (spClose a) := by
  refine T.F_BodyReader_closing.ok sc_BodyReader_closing (fun vs H Q E h => ?_) (fun cdv A outer s H vs Q E hr h => ?_)
  · obtain ⟨r, b, F, rfl, _⟩ := h
    rfl
  · obtain ⟨r, b, F, rfl, B, kN, kS⟩ := h
    refine ⟨_, (pss_cons (ps_if (PW.pt (pw_and (pt_cmpR (uEq K hr.units) (pe_fldU K (pv 0)) pe_str (nomark _)) (pw_and1 (PW.pt (pw_or (pt_cmpR (uEq K hr.units) (pe_fldU K (pv 0)) (pe_lst pa_nil) (nomark _)) (pw_or1 (pt_cmpR (uNe K hr.units) (pe_ix uIx (pe_ix uIx (pe_fldU K (pv 0)) (pe_un un_neg pe_int) (fun _ _ => rfl)) pe_int (fun _ _ => rfl)) pe_str (nomark _)))))))) (pss_one (ps_ret pe_non)) pss_nil)
  (pss_cons (ps_fldU K (pv 0) pe_bl)
  (pss_one (ps_ret (pe_lst (pa_cons pe_str (pa_cons pe_bl pa_nil))))))), ?_⟩
    have hob := B.ob
    have hco := B.co
    have fin : ∀ H', Same H H' → closeB b = some (("end" : Str), { b with closed := true }) → tSeq (sFldU K (tVar 0) (tC (V.bl true)) "is_closed") (tRet (tLst (tCons (tC (V.str "end")) (tCons (tC (V.bl false)) tNil)))) ⟨fun _ H' => Q .non H', Q, fun _ _ => False, fun _ _ => False⟩ [some (.ref r)] H' := by
      intro H' s' hc
      have hob' := s' _ _ hob
      walk_at "rd"
      refine fun e he => ?_
      obtain ⟨ner, he'⟩ := upd_none he
      refine kS _ hc e _ (((B.same s').setOb b.deepest true).same (Same.new he)) upd_same (s'.free he') fun x o hx hxr => ?_
      rw [upd_ne (ne_of_none (s' _ _ hx) he'), upd_ne hxr]
      exact s' _ _ hx
    walk_at "rd"
    rw [dec_str]
    by_cases c1 : b.kind = "answer"
    · refine ifT (by simp [c1]) ?_
      walk_at "rd"
      refine fun q hq => ?_
      have s1 := Same.new (o := .lst []) hq
      have hob1 := s1 _ _ hob
      have hco1 := s1 _ _ hco
      walk_at "rd"
      rcases last_word B with ⟨h1, h2⟩ | ⟨es, e, w, vs, h1, h2, h3⟩
      · refine ifT (by rw [h1]; rfl) (ifT rfl ?_)
        walk_at "rd"
        exact kN (by simp [closeB, c1, h2]) _ s1
      · have hem : (List.map V.ref F.es).isEmpty = false := by rw [h1]; simp
        refine ifF hem ?_
        walk_at "rd"
        have hco2 : upd H q (.lst []) F.k = some (.lst (es.map V.ref ++ [.ref e])) := by rw [hco1, h1, List.map_append]; rfl
        refine s_ixLast hco2 ?_
        have h3' := s1 _ _ h3
        walk_at "rd"
        rw [dec_str]
        by_cases c2 : w = "give"
        · refine ifF (by simp [c2]) ?_
          exact fin _ s1 (by simp [closeB, c1, h2, c2])
        · refine ifT (by simp [c2]) ?_
          walk_at "rd"
          exact kN (by simp [closeB, c1, h2, c2]) _ s1
    · refine ifF (by simp [c1]) ?_
      exact fin _ (Same.refl _) (by simp [closeB, c1])
theorem b_BodyReader_closing (T : Ty K mg a fd) : Binds K (fd 17) ["self"] [] := T.F_BodyReader_closing.binds fun _ _ _ _ _ _ us hl => match us, hl with | [_], _ => rfl
end
end Tr
set_option maxHeartbeats 1000000

namespace Tr
open PySem L2
section
variable {P : Program} {w : World} {K : PySem.W.Frag} {mg : Str → Option Value} {base : Heap} {a : Nat → Addr} {fd : Nat → FuncData} {tk : Nat → Tok}
local macro_rules | `(tactic| walk_at "ne") => `(tactic| first | assumption | (exact Ne.symm (by assumption)) | (refine ne_of_none (by assumption) (by assumption)) | (refine Ne.symm (ne_of_none (by assumption) (by assumption))))
local macro_rules | `(tactic| walk_at "hl") => `(tactic| first | assumption | with_reducible exact upd_same | ((with_reducible refine' Eq.trans (upd_ne ?hne) ?hrest); (case hne => walk_at "ne"); (case hrest => walk_at "hl")) | (refine' get_same ?hs ?hg; (case hs => assumption); (case hg => assumption)))
local macro_rules | `(tactic| walk_at "at") => `(tactic| first | with_reducible exact atI_0 _ _ | with_reducible exact atI_1 _ _ _ | with_reducible exact atI_2 _ _ _ _ | with_reducible exact atI_3 _ _ _ _ _ | assumption)
local macro_rules | `(tactic| walk_at "rd1") => `(tactic| first
  | with_reducible refine s_seq ?_ | with_reducible refine s_next ?_ | with_reducible refine s_if ?_ | with_reducible refine s_ret ?_ | with_reducible refine s_retN ?_ | with_reducible refine s_drop ?_ | with_reducible refine s_asg ?_ | with_reducible refine s_brk ?_ | with_reducible refine s_cont ?_
  | with_reducible refine s_gname ?_ | with_reducible refine s_c ?_ | with_reducible refine s_op ?_ | with_reducible refine s_un ?_ | with_reducible refine s_neg ?_ | with_reducible refine s_test ?_ | with_reducible refine s_tb ?_ | with_reducible refine s_not ?_ | with_reducible refine s_and ?_ | with_reducible refine s_or ?_ | with_reducible refine s_yes ?_
  | ((with_reducible refine' s_var ?hv ?_); (case hv => exact rfl))
  | with_reducible refine s_ifx ?_ | with_reducible refine s_andV ?_ | with_reducible refine s_orV ?_ | with_reducible refine s_notV ?_ | with_reducible refine s_chain ?_ | with_reducible refine s_nil ?_ | with_reducible refine s_cons ?_ | with_reducible refine s_lst ?_ | with_reducible refine s_tup ?_ | with_reducible refine s_cb ?_ | with_reducible refine s_call ?_ | with_reducible refine s_meth ?_ | with_reducible refine s_make ?_
  | with_reducible refine s_dnewK ?_ | with_reducible refine s_sl ?_ | with_reducible refine s_po0 ?_ | with_reducible refine s_po1 ?_ | with_reducible refine s_bm ?_ | with_reducible refine s_bm0 ?_
  | with_reducible refine s_bl ?_ | with_reducible refine s_int ?_ | with_reducible refine s_I0 ?_ | with_reducible refine s_addI ?_ | with_reducible refine s_intI ?_ | with_reducible refine s_intB ?_
  | with_reducible refine s_m1 ?_ | with_reducible refine s_lc ?_ | with_reducible refine s_ilist ?_ | with_reducible refine s_for ?_ | with_reducible refine s_irng ?_ | with_reducible refine s_match ?_ | with_reducible refine s_starT ?_ | with_reducible refine s_isS ?_ | with_reducible refine s_isiSS ?_ | with_reducible refine s_fldU ?_ | with_reducible refine s_sfldU ?_
  | ((with_reducible refine' s_eqS ?hq ?_); (case hq => exact rfl)) | ((with_reducible refine' s_neS ?hq ?_); (case hq => exact rfl))
  | ((with_reducible refine' s_isN ?hq ?_); (case hq => exact rfl)) | ((with_reducible refine' s_notN ?hq ?_); (case hq => exact rfl))
  | ((with_reducible refine' s_eqNil ?h1 ?h2 ?_); (case h1 => walk_at "hl"); (case h2 => walk_at "hl")) | ((with_reducible refine' s_neNil ?h1 ?h2 ?_); (case h1 => walk_at "hl"); (case h2 => walk_at "hl"))
  | ((with_reducible refine' s_ixL ?h1 ?h2 ?_); (case h1 => walk_at "hl"); (case h2 => walk_at "at")) | ((with_reducible refine' s_ixT ?h1 ?h2 ?_); (case h1 => walk_at "hl"); (case h2 => walk_at "at"))
  | ((with_reducible refine' s_inS ?h1 ?_); (case h1 => walk_at "hl")) | ((with_reducible refine' s_ninS ?h1 ?_); (case h1 => walk_at "hl")) | with_reducible refine s_inW ?_
  | ((with_reducible refine' s_lenL ?h1 ?_); (case h1 => walk_at "hl")) | ((with_reducible refine' s_lenT ?h1 ?_); (case h1 => walk_at "hl"))
  | ((with_reducible refine' s_tyL ?h1 ?_); (case h1 => walk_at "hl"))
  | ((with_reducible refine' s_fldM ?h1 ?h2 ?h3 ?_); (case h1 => walk_at "hl"); (case h2 => walk_at "fok"); (case h3 => walk_at "flk"))
  | ((with_reducible refine' s_setM ?h1 ?h2 ?h3 ?h4 ?_); (case h1 => walk_at "hl"); (case h2 => walk_at "fok"); (case h4 => walk_at "put"); (case h3 => exact Nat.le_of_ble_eq_true rfl))
  | ((with_reducible refine' s_starM ?h1 ?_); (case h1 => walk_at "hl"))
  | ((with_reducible refine' s_recv ?h1 ?h2 ?_); (case h1 => walk_at "hl"); (case h2 => exact rfl))
  | ((with_reducible refine' s_sz ?h1 ?_); (case h1 => (simp; done))))
local macro_rules | `(tactic| walk_at "rd") => `(tactic| repeat (walk_at "rd1"))
local macro_rules | `(tactic| walk_at "fok") => `(tactic| assumption)
local macro_rules | `(tactic| walk_at "flk") => `(tactic| rfl)
local macro_rules | `(tactic| walk_at "put") => `(tactic| exact rfl)

local macro_rules | `(tactic| walk_at "fok") => `(tactic| first | exact Ty.blk (by assumption) (by decide) | exact Ty.bdy (by assumption) (by decide))
def openB (b : Bd) (ws : List Str) : Option (Str × Bd) :=
  match ws with
  | [] => none
  | w0 :: l =>
    if (if w0 = "if" then (compOf l b.scope b.readable).isSome else (l.isEmpty && (decide (w0 = "batch") == decide (b.kind = "handler")))) = true
    then some (w0, { b with blocks := b.blocks ++ [(w0, b.code.length, b.scope.length)], deepest := max b.deepest (b.blocks.length + 1) })
    else none
/-- a block is opened -/
theorem BodyAt.push {H : Hp} {r : Addr} {b : Bd} {F : BF} (B : BodyAt a H r b F) {x dx : Addr} {w : Str} {st ou : Nat} (hx : H x = some (.ins (a 6) dx (blF w st ou))) :
    BodyAt a (upd H F.l (.lst (F.bs.map V.ref ++ [.ref x]))) r { b with blocks := b.blocks ++ [(w, st, ou)] } { F with bs := F.bs ++ [x] } := by
  obtain ⟨n1, n2, n3, n4, ne⟩ : F.s ≠ F.l ∧ F.c ≠ F.l ∧ F.d ≠ F.l ∧ F.k ≠ F.l ∧ F.l ∉ F.es := by
    have h := B.nd
    simp only [List.nodup_cons, List.mem_cons, not_or] at h
    exact ⟨h.1.2.2.2.1, h.2.1.2.2.1, h.2.2.1.2.1, h.2.2.2.1.1, h.2.2.2.2.1⟩
  refine ⟨?_, ?_, ?_, ?_, ?_, ?_, fun i e h => ?_, B.el, fun i e h => ?_, ?_, B.nd⟩
  · rw [upd_ne (ne_of B.ob B.bl (by intro e; cases e))]; exact B.ob
  · rw [upd_ne n1]; exact B.sc
  · rw [upd_ne n2]; exact B.ce
  · rw [upd_ne n3]; exact B.re
  · rw [upd_ne n4]; exact B.co
  · rw [upd_same, List.map_append]
    rfl
  · obtain ⟨w', vs, h1, h2, h3⟩ := B.en i e h
    exact ⟨w', vs, h1, by rw [upd_ne (fun q => ne (by rw [← q]; exact List.mem_of_getElem? h))]; exact h2, h3⟩
  · have h' : (F.bs ++ [x])[i]? = some e := h
    by_cases hi : i < F.bs.length
    · rw [List.getElem?_append_left hi] at h'
      obtain ⟨w', st', ou', dx', h1, h2⟩ := B.bk i e h'
      refine ⟨w', st', ou', dx', ?_, by rw [upd_ne (ne_of h2 B.bl (by intro e; cases e))]; exact h2⟩
      show (b.blocks ++ _)[i]? = _
      rw [List.getElem?_append_left (by rw [← B.bn]; exact hi)]
      exact h1
    · have hl : i = F.bs.length := by
        have := (List.getElem?_eq_some_iff.mp h').1
        simp at this
        omega
      subst hl
      simp at h'
      subst h'
      refine ⟨w, st, ou, dx, ?_, by rw [upd_ne (ne_of hx B.bl (by intro e; cases e))]; exact hx⟩
      show (b.blocks ++ _)[F.bs.length]? = _
      rw [B.bn]
      simp
  · show (F.bs ++ [x]).length = (b.blocks ++ [(w, st, ou)]).length
    rw [List.length_append, List.length_append, B.bn]
    rfl
theorem ok_BodyReader_opening (T : Ty K mg a fd) (T1 : Tx K mg a fd tk) : FnOk P w K mg base CX0 4 (a 15) (fd 15) ["self", "words"] (spE a (fun ws => ws.headD "" = "if" ∨ ws.headD "" = "quiet" ∨ ws.headD "" = "batch") openB) := by
  refine T.F_BodyReader_opening.ok sc_BodyReader_opening (fun vs H Q E h => ?_) (fun cdv A outer s H vs Q E hr h => ?_)
  · obtain ⟨r, p, b, F, ws, rfl, _⟩ := h
    rfl
  · obtain ⟨r, p, b, F, ws, rfl, B, hp, hpo, W, ⟨hpre, _⟩, z1, z2, z3, kN, kS⟩ := h
    refine ⟨_, (pss_cons (ps_asg (pe_ix uIx (pv 1) pe_int (fun _ _ => rfl)) (pg_name (i := 2) sc_BodyReader_opening.nd rfl (by first | exact Or.inl rfl | exact Or.inr rfl)))
  (pss_cons (ps_asg (pe_meth0 (pv 0) T.cl_BodyReader T.m_BodyReader_in_quiet (ok_BodyReader_in_quiet T) (hr.mono (by decide)) (b_BodyReader_in_quiet T) .nil pass0) (pg_name (i := 3) sc_BodyReader_opening.nd rfl (by first | exact Or.inl rfl | exact Or.inr rfl)))
  (pss_cons (ps_if (pt_cmpR (uEq K hr.units) (pv 2) pe_str (nomark _)) (pss_cons (ps_asg (pe_call (ok_comparison T1) (hr.mono (by decide)) (by rfl) T1.g_comparison T1.F_comparison.kp (b_comparison T1) .nil pass0 (pa_cons (pe_slice uSl (pv 1) (po_some pe_int) po_none) (pa_cons (pe_fldU K (pv 0)) (pa_cons (pe_fldU K (pv 0)) pa_nil)))) (pg_name (i := 4) sc_BodyReader_opening.nd rfl (by first | exact Or.inl rfl | exact Or.inr rfl)))
  (pss_cons (ps_if (pt_cmpR op_isN1 (pv 4) pe_non (nomark _)) (pss_one (ps_ret pe_non)) pss_nil)
  (pss_one (ps_asg (pe_lst (pa_cons pe_str (pa_cons (pv 3) (StX.pa_star (pv 4) (pa_cons pe_int pa_nil))))) (pg_name (i := 5) sc_BodyReader_opening.nd rfl (by first | exact Or.inl rfl | exact Or.inr rfl)))))) (pss_cons (ps_if (PW.pt (pw_or (pt_cmpR op_gt (pe_callB uLen (by rfl) T1.b_len bt_len (pa_cons (pv 1) pa_nil)) pe_int (nomark _)) (pw_or1 (pt_cmpR (uNe K hr.units) (pe_cmpR (uEq K hr.units) (pv 2) pe_str (nomark _)) (pe_cmpR (uEq K hr.units) (pe_fldU K (pv 0)) pe_str (nomark _)) (nomark _))))) (pss_one (ps_ret pe_non)) pss_nil)
  (pss_one (ps_asg (pe_lst (pa_cons (pv 2) (pa_cons (pv 3) pa_nil))) (pg_name (i := 5) sc_BodyReader_opening.nd rfl (by first | exact Or.inl rfl | exact Or.inr rfl))))))
  (pss_cons (ps_expr (pe_bm PySem.F.plainAttrs_list PySem.F.slot_list_append PySem.F.type_list_append uAppend (pe_fldU K (pv 0)) (pa_cons (pe_make T.mk_Block (ok_Block___init__ T) (hr.mono (by decide)) (by rfl) T.g_Block (b_Block___init__ T) .nil pass0 (pa_cons (pv 2) (pa_cons (pe_callB uLen (by rfl) T1.b_len bt_len (pa_cons (pe_fldU K (pv 0)) pa_nil)) (pa_cons (pe_callB uLen (by rfl) T1.b_len bt_len (pa_cons (pe_fldU K (pv 0)) pa_nil)) pa_nil)))) pa_nil)))
  (pss_cons (ps_fldU K (pv 0) (pe_callB (call_max2 rfl) (by rfl) T.b_max bt_max (pa_cons (pe_fldU K (pv 0)) (pa_cons (pe_callB uLen (by rfl) T1.b_len bt_len (pa_cons (pe_fldU K (pv 0)) pa_nil)) pa_nil))))
  (pss_one (ps_ret (pv 5)))))))), ?_⟩
    have hob := B.ob
    have hsc := B.sc
    have hre := B.re
    have hce := B.ce
    match ws, hp, W, hpre, kN, kS with
    | [], hp, W, hpre, kN, kS => exact absurd rfl W.one
    | w0 :: l, hp, W, hpre, kN, kS =>
      have hp' : H p = some (.lst (.str w0 :: l.map V.str)) := hp
      have hne : w0 ≠ "else" := by
        have hpre' : w0 = "if" ∨ w0 = "quiet" ∨ w0 = "batch" := hpre
        rcases hpre' with e | e | e <;> rw [e] <;> decide
      have fin : ∀ (v4 : Option V) (H5 : Hp) (e : Addr) (vs : List V), Same H H5 → H e = none → H5 e = some (.lst (.str w0 :: vs)) → (w0 = "if" → vs.length = 5) →
          openB b (w0 :: l) = some (w0, { b with blocks := b.blocks ++ [(w0, b.code.length, b.scope.length)], deepest := max b.deepest (b.blocks.length + 1) }) →
          tSeq (tDrop (tBM K "list" rAppU (tFldU K (tVar 0) "blocks") (tCons (tMake (a 6) (spBlock (a 6)) [] E0 (tCons (tVar 2) (tCons (tCB rLenU (tCons (tFldU K (tVar 0) "code") tNil)) (tCons (tCB rLenU (tCons (tFldU K (tVar 0) "scope") tNil)) tNil)))) tNil)))
            (tSeq (sFldU K (tVar 0) (tCB (fun xs H Q => ∃ i j, xs = [.int i, .int j] ∧ Q (.int (if j > i then j else i)) H) (tCons (tFldU K (tVar 0) "deepest") (tCons (tCB rLenU (tCons (tFldU K (tVar 0) "blocks") tNil)) tNil))) "deepest") (tRet (tVar 5)))
            ⟨fun _ H' => Q .non H', Q, fun _ _ => False, fun _ _ => False⟩ [some (.ref r), some (.ref p), some (.str w0), some (.bl (inQuiet b)), v4, some (.ref e)] H5 := by
        intro v4 H5 e vs s5 he ge hvs hres
        have B5 := B.same s5
        have hob5 := B5.ob
        have hbl5 := B5.bl
        have hco5 := B5.co
        have hsc5 := B5.sc
        walk_at "rd"
        intro x dx nx ndx hdx
        have hxd : upd (upd H5 dx (.own x)) x (.ins (a 6) dx []) x = some (.ins (a 6) dx []) := upd_same
        refine ⟨x, dx, w0, b.code.length, b.scope.length, ?_, upd_same, rfl, ?_⟩
        · rw [List.length_map, List.length_map, B.el]
        have s6 : Same H5 (upd (upd (upd H5 dx (.own x)) x (.ins (a 6) dx [])) x (.ins (a 6) dx (blF w0 b.code.length b.scope.length))) := by
          rw [upd_upd]
          exact (Same.new ndx).trans (Same.new (by rw [upd_ne (Ne.symm hdx)]; exact nx))
        have gx : upd (upd (upd H5 dx (.own x)) x (.ins (a 6) dx [])) x (.ins (a 6) dx (blF w0 b.code.length b.scope.length)) x = some (.ins (a 6) dx (blF w0 b.code.length b.scope.length)) := upd_same
        generalize (upd (upd (upd H5 dx (.own x)) x (.ins (a 6) dx [])) x (.ins (a 6) dx (blF w0 b.code.length b.scope.length))) = H6 at s6 gx ⊢
        have B6 := B5.same s6
        have hbl6 := B6.bl
        walk_at "rd"
        refine s_app hbl6 (sz_lt (by rw [List.length_map, B.bn]; omega)) ?_
        have B7 := B6.push gx
        have hob7 := B7.ob
        have hbl7 := B7.bl
        walk_at "rd"
        refine ⟨_, _, rfl, ?_⟩
        walk_at "rd"
        have em : (if (((F.bs ++ [x]).map V.ref).length : Int) > (b.deepest : Int) then (((F.bs ++ [x]).map V.ref).length : Int) else (b.deepest : Int)) = ((max b.deepest (b.blocks.length + 1) : Nat) : Int) := by
          rw [List.length_map, List.length_append, B.bn]
          simp only [List.length_cons, List.length_nil]
          split <;> omega
        show Q (.ref e) (upd (upd H6 F.l (.lst (F.bs.map V.ref ++ [.ref x]))) r (.ins (a 8) F.dx (putF "deepest" (.int (if (((F.bs ++ [x]).map V.ref).length : Int) > (b.deepest : Int) then (((F.bs ++ [x]).map V.ref).length : Int) else (b.deepest : Int))) (bdF b.kind F.s F.c F.d F.k F.l b.deepest b.closed))))
        rw [em]
        have s56 := s5.trans s6
        have hx6 : H x = none := s5.free nx
        have hnx : F.l ≠ e := fun q => own_none B he (by rw [← q]; simp [BF.own])
        have hnr : r ≠ e := fun q => own_none B he (by rw [← q]; simp [BF.own])
        have hex : x ≠ e := fun q => by rw [q, ge] at nx; cases nx
        have hl6 : ∀ y, y ∈ F.own r → y ∈ ({ F with bs := F.bs ++ [x] } : BF).own r := by
          intro y hy
          simp only [BF.own, List.mem_cons, List.mem_append] at hy ⊢
          rcases hy with h | h | h | h | h | h | h | h <;> simp [h]
        refine kS _ _ hres { F with bs := F.bs ++ [x] } e vs _ (B7.setOb (max b.deepest (b.blocks.length + 1)) b.closed) ?_ hvs (fun h => absurd h hne) he ?_ ?_ ?_
        · rw [upd_ne (Ne.symm hnr), upd_ne (Ne.symm hnx)]
          exact s6 _ _ ge
        · intro h
          simp only [BF.own, List.mem_cons, List.mem_append, List.not_mem_nil, or_false] at h
          have := own_none B he
          simp only [BF.own, List.mem_cons, List.mem_append, not_or] at this
          rcases h with h | h | h | h | h | h | h | h | h
          · exact this.1 h
          · exact this.2.1 h
          · exact this.2.2.1 h
          · exact this.2.2.2.1 h
          · exact this.2.2.2.2.1 h
          · exact this.2.2.2.2.2.1 h
          · exact this.2.2.2.2.2.2.1 h
          · exact this.2.2.2.2.2.2.2 h
          · exact hex h.symm
        · intro y o hy hn
          rw [upd_ne (fun q => hn (by rw [q]; simp [BF.own])), upd_ne (fun q => hn (by rw [q]; simp [BF.own]))]
          exact s56 _ _ hy
        · intro y hy
          simp only [BF.own, List.mem_cons, List.mem_append, List.not_mem_nil, or_false] at hy ⊢
          rcases hy with h | h | h | h | h | h | h | h | h
          · exact .inl (.inl h)
          · exact .inl (.inr (.inl h))
          · exact .inl (.inr (.inr (.inl h)))
          · exact .inl (.inr (.inr (.inr (.inl h))))
          · exact .inl (.inr (.inr (.inr (.inr (.inl h)))))
          · exact .inl (.inr (.inr (.inr (.inr (.inr (.inl h))))))
          · exact .inl (.inr (.inr (.inr (.inr (.inr (.inr (.inl h)))))))
          · exact .inl (.inr (.inr (.inr (.inr (.inr (.inr (.inr h)))))))
          · exact .inr (by rw [h]; exact hx6)
      walk_at "rd"
      refine ⟨r, b, F, rfl, B, z3, fun H1 s1 => ?_⟩
      have hp1 := s1 _ _ hp'
      have hob1 := s1 _ _ hob
      walk_at "rd"
      rw [dec_str]
      by_cases c1 : w0 = "if"
      · refine ifT (by simp [c1]) ?_
        walk_at "rd"
        refine s_slL (s1 _ _ hp) fun p1 hp1' => ?_
        have s2 := s1.trans (Same.new (o := .lst (cutV (List.map V.str (w0 :: l)) (some 1) none)) hp1')
        have hob2 := s2 _ _ hob
        walk_at "rd"
        refine ⟨p1, F.s, F.d, l, b.scope, b.readable, rfl, by rw [upd_same, cutV_1], s2 _ _ hsc, s2 _ _ hre, fun z hz => W.len z (by simp [hz]), fun z hz => W.num z (by simp [hz]), by have := W.few; simp at this; omega, fun v5 H5 s5 e5 => ?_⟩
        have s5' := s2.trans s5
        walk_at "rd"
        cases h5 : compOf l b.scope b.readable with
        | none =>
          rw [h5] at e5
          have e5' : v5 = .non := e5
          subst e5'
          refine ifT rfl ?_
          walk_at "rd"
          exact kN (by simp [openB, c1, h5]) _ (frame_same s5')
        | some x5 =>
          obtain ⟨x1, bb, x2⟩ := x5
          rw [h5] at e5
          obtain ⟨t5, t1, t2, rfl, n5, g5, g51, g52⟩ := e5
          refine ifF rfl ?_
          walk_at "rd"
          refine fun e he => ?_
          refine fin _ _ e [.bl (inQuiet b), .ref t1, .bl bb, .ref t2, .int 0] (s5'.trans (Same.new he)) (s5'.free he) ?_ (fun _ => rfl) (by simp [openB, c1, h5])
          rw [upd_same, c1]
          rfl
      · refine ifF (by simp [c1]) ?_
        walk_at "rd"
        match l, hp, hp', hp1, W, kN, kS, fin with
        | x :: l, hp, hp', hp1, W, kN, kS, fin =>
          refine ifT (by simp; omega) (ifT rfl ?_)
          walk_at "rd"
          exact kN (by simp [openB, c1]) _ (frame_same s1)
        | [], hp, hp', hp1, W, kN, kS, fin =>
          refine ifF (by simp) ?_
          walk_at "rd"
          rw [dec_str, dec_str]
          refine ifB (fun c3 => ?_) (fun c3 => ?_)
          · walk_at "rd"
            refine kN ?_ _ (frame_same s1)
            cases d1 : decide (w0 = "batch") <;> cases d2 : decide (b.kind = "handler") <;> simp [d1, d2] at c3 <;> simp [openB, c1, d1, d2]
          · walk_at "rd"
            refine fun e he => ?_
            refine fin _ _ e [.bl (inQuiet b)] (s1.trans (Same.new he)) (s1.free he) upd_same (fun q => absurd q c1) ?_
            cases d1 : decide (w0 = "batch") <;> cases d2 : decide (b.kind = "handler") <;> simp [d1, d2] at c3 <;> simp [openB, c1, d1, d2]
theorem b_BodyReader_opening (T : Ty K mg a fd) : Binds K (fd 15) ["self", "words"] [] := T.F_BodyReader_opening.binds fun _ _ _ _ _ _ us hl => match us, hl with | [_, _], _ => rfl
end
end Tr
set_option maxHeartbeats 1000000

namespace Tr
open PySem L2
section
variable {P : Program} {w : World} {K : PySem.W.Frag} {mg : Str → Option Value} {base : Heap} {a : Nat → Addr} {fd : Nat → FuncData} {tk : Nat → Tok}
local macro_rules | `(tactic| walk_at "ne") => `(tactic| first | assumption | (exact Ne.symm (by assumption)) | (refine ne_of_none (by assumption) (by assumption)) | (refine Ne.symm (ne_of_none (by assumption) (by assumption))))
local macro_rules | `(tactic| walk_at "hl") => `(tactic| first | assumption | with_reducible exact upd_same | ((with_reducible refine' Eq.trans (upd_ne ?hne) ?hrest); (case hne => walk_at "ne"); (case hrest => walk_at "hl")) | (refine' get_same ?hs ?hg; (case hs => assumption); (case hg => assumption)))
local macro_rules | `(tactic| walk_at "at") => `(tactic| first | with_reducible exact atI_0 _ _ | with_reducible exact atI_1 _ _ _ | with_reducible exact atI_2 _ _ _ _ | with_reducible exact atI_3 _ _ _ _ _ | assumption)
local macro_rules | `(tactic| walk_at "rd1") => `(tactic| first
  | with_reducible refine s_seq ?_ | with_reducible refine s_next ?_ | with_reducible refine s_if ?_ | with_reducible refine s_ret ?_ | with_reducible refine s_retN ?_ | with_reducible refine s_drop ?_ | with_reducible refine s_asg ?_ | with_reducible refine s_brk ?_ | with_reducible refine s_cont ?_
  | with_reducible refine s_gname ?_ | with_reducible refine s_c ?_ | with_reducible refine s_op ?_ | with_reducible refine s_un ?_ | with_reducible refine s_neg ?_ | with_reducible refine s_test ?_ | with_reducible refine s_tb ?_ | with_reducible refine s_not ?_ | with_reducible refine s_and ?_ | with_reducible refine s_or ?_ | with_reducible refine s_yes ?_
  | ((with_reducible refine' s_var ?hv ?_); (case hv => exact rfl))
  | with_reducible refine s_ifx ?_ | with_reducible refine s_andV ?_ | with_reducible refine s_orV ?_ | with_reducible refine s_notV ?_ | with_reducible refine s_chain ?_ | with_reducible refine s_nil ?_ | with_reducible refine s_cons ?_ | with_reducible refine s_lst ?_ | with_reducible refine s_tup ?_ | with_reducible refine s_cb ?_ | with_reducible refine s_call ?_ | with_reducible refine s_meth ?_ | with_reducible refine s_make ?_
  | with_reducible refine s_dnewK ?_ | with_reducible refine s_sl ?_ | with_reducible refine s_po0 ?_ | with_reducible refine s_po1 ?_ | with_reducible refine s_bm ?_ | with_reducible refine s_bm0 ?_
  | with_reducible refine s_bl ?_ | with_reducible refine s_int ?_ | with_reducible refine s_I0 ?_ | with_reducible refine s_addI ?_ | with_reducible refine s_intI ?_ | with_reducible refine s_intB ?_
  | with_reducible refine s_m1 ?_ | with_reducible refine s_lc ?_ | with_reducible refine s_ilist ?_ | with_reducible refine s_for ?_ | with_reducible refine s_irng ?_ | with_reducible refine s_match ?_ | with_reducible refine s_starT ?_ | with_reducible refine s_isS ?_ | with_reducible refine s_isiSS ?_ | with_reducible refine s_fldU ?_ | with_reducible refine s_sfldU ?_
  | ((with_reducible refine' s_eqS ?hq ?_); (case hq => exact rfl)) | ((with_reducible refine' s_neS ?hq ?_); (case hq => exact rfl))
  | ((with_reducible refine' s_isN ?hq ?_); (case hq => exact rfl)) | ((with_reducible refine' s_notN ?hq ?_); (case hq => exact rfl))
  | ((with_reducible refine' s_eqNil ?h1 ?h2 ?_); (case h1 => walk_at "hl"); (case h2 => walk_at "hl")) | ((with_reducible refine' s_neNil ?h1 ?h2 ?_); (case h1 => walk_at "hl"); (case h2 => walk_at "hl"))
  | ((with_reducible refine' s_ixL ?h1 ?h2 ?_); (case h1 => walk_at "hl"); (case h2 => walk_at "at")) | ((with_reducible refine' s_ixT ?h1 ?h2 ?_); (case h1 => walk_at "hl"); (case h2 => walk_at "at"))
  | ((with_reducible refine' s_inS ?h1 ?_); (case h1 => walk_at "hl")) | ((with_reducible refine' s_ninS ?h1 ?_); (case h1 => walk_at "hl")) | with_reducible refine s_inW ?_
  | ((with_reducible refine' s_lenL ?h1 ?_); (case h1 => walk_at "hl")) | ((with_reducible refine' s_lenT ?h1 ?_); (case h1 => walk_at "hl"))
  | ((with_reducible refine' s_tyL ?h1 ?_); (case h1 => walk_at "hl"))
  | ((with_reducible refine' s_fldM ?h1 ?h2 ?h3 ?_); (case h1 => walk_at "hl"); (case h2 => walk_at "fok"); (case h3 => walk_at "flk"))
  | ((with_reducible refine' s_setM ?h1 ?h2 ?h3 ?h4 ?_); (case h1 => walk_at "hl"); (case h2 => walk_at "fok"); (case h4 => walk_at "put"); (case h3 => exact Nat.le_of_ble_eq_true rfl))
  | ((with_reducible refine' s_starM ?h1 ?_); (case h1 => walk_at "hl"))
  | ((with_reducible refine' s_recv ?h1 ?h2 ?_); (case h1 => walk_at "hl"); (case h2 => exact rfl))
  | ((with_reducible refine' s_sz ?h1 ?_); (case h1 => (simp; done))))
local macro_rules | `(tactic| walk_at "rd") => `(tactic| repeat (walk_at "rd1"))
local macro_rules | `(tactic| walk_at "fok") => `(tactic| assumption)
local macro_rules | `(tactic| walk_at "flk") => `(tactic| rfl)
local macro_rules | `(tactic| walk_at "put") => `(tactic| exact rfl)

local macro_rules | `(tactic| walk_at "fok") => `(tactic| first | exact Ty.blk (by assumption) (by decide) | exact Ty.bdy (by assumption) (by decide))
theorem s_gsub {to ti : TE} {t : TSet} {v : V} {σ : L2.St} {H : Hp} {Q : L2.St → Hp → Prop} (h : to σ H fun o H1 => ti σ H1 fun i H2 => t o i v H2 fun H3 => Q σ H3) : gSub to ti t v σ H Q := h
theorem s_setU {p : Addr} {xs : List V} {k : Int} {j : Nat} {v : V} {H : Hp} {Q : Hp → Prop} (hp : H p = some (.lst xs)) (hj : ixN xs.length k = some j) (q : Q (upd H p (.lst (xs.set j v)))) : rSetU (.ref p) (.int k) v H Q := by
  simp only [rSetU, hp]
  exact ⟨j, hj, q⟩
theorem ixN_nat {n j : Nat} (h : j < n) : ixN n (j : Int) = some j := by
  unfold ixN
  rw [if_pos (by omega), if_pos (by omega)]
  simp
theorem ixN_last {n : Nat} (h : 0 < n) : ixN n (-1) = some (n - 1) := by
  unfold ixN
  rw [if_neg (by omega), if_pos (by omega)]
  congr 1
  omega
theorem atI_nat {xs : List V} {j : Nat} {v : V} (h : xs[j]? = some v) : atI xs (j : Int) = some v := by
  unfold atI
  rw [ixN_nat (List.getElem?_eq_some_iff.mp h).1]
  exact h
theorem own_all {F : BF} {r : Addr} {C : Addr → Prop} (h1 : C r) (h2 : C F.s) (h3 : C F.c) (h4 : C F.d) (h5 : C F.k) (h6 : C F.l) (h7 : ∀ x ∈ F.es, C x) (h8 : ∀ x ∈ F.bs, C x) : ∀ x ∈ F.own r, C x := by
  intro x hx
  simp only [BF.own, List.mem_cons, List.mem_append] at hx
  rcases hx with e | e | e | e | e | e | e | e
  · exact e ▸ h1
  · exact e ▸ h2
  · exact e ▸ h3
  · exact e ▸ h4
  · exact e ▸ h5
  · exact e ▸ h6
  · exact h7 _ e
  · exact h8 _ e
theorem own_r {F : BF} {r : Addr} : r ∈ F.own r := by simp [BF.own]
theorem own_s {F : BF} {r : Addr} : F.s ∈ F.own r := by simp [BF.own]
theorem own_c {F : BF} {r : Addr} : F.c ∈ F.own r := by simp [BF.own]
theorem own_d {F : BF} {r : Addr} : F.d ∈ F.own r := by simp [BF.own]
theorem own_k {F : BF} {r : Addr} : F.k ∈ F.own r := by simp [BF.own]
theorem own_l {F : BF} {r : Addr} : F.l ∈ F.own r := by simp [BF.own]
theorem own_es {F : BF} {r x : Addr} (h : x ∈ F.es) : x ∈ F.own r := by simp [BF.own, h]
theorem own_bs {F : BF} {r x : Addr} (h : x ∈ F.bs) : x ∈ F.own r := by simp [BF.own, h]
/-- the list of blocks is changed -/
theorem BodyAt.setBl {H : Hp} {r : Addr} {b : Bd} {F : BF} (B : BodyAt a H r b F) {bs : List Addr} {bl : List (Str × Nat × Nat)} (hb : ∀ (i : Nat) (e : Addr), bs[i]? = some e → ∃ w st ou dx, bl[i]? = some (w, st, ou) ∧ H e = some (.ins (a 6) dx (blF w st ou))) (hl : bs.length = bl.length) :
    BodyAt a (upd H F.l (.lst (bs.map V.ref))) r { b with blocks := bl } { F with bs := bs } := by
  obtain ⟨n1, n2, n3, n4, ne⟩ : F.s ≠ F.l ∧ F.c ≠ F.l ∧ F.d ≠ F.l ∧ F.k ≠ F.l ∧ F.l ∉ F.es := by
    have h := B.nd
    simp only [List.nodup_cons, List.mem_cons, not_or] at h
    exact ⟨h.1.2.2.2.1, h.2.1.2.2.1, h.2.2.1.2.1, h.2.2.2.1.1, h.2.2.2.2.1⟩
  refine ⟨?_, ?_, ?_, ?_, ?_, upd_same, fun i e h => ?_, B.el, fun i e h => ?_, hl, B.nd⟩
  · rw [upd_ne (ne_of B.ob B.bl (by intro e; cases e))]; exact B.ob
  · rw [upd_ne n1]; exact B.sc
  · rw [upd_ne n2]; exact B.ce
  · rw [upd_ne n3]; exact B.re
  · rw [upd_ne n4]; exact B.co
  · obtain ⟨w', vs, h1, h2, h3⟩ := B.en i e h
    exact ⟨w', vs, h1, by rw [upd_ne (fun q => ne (by rw [← q]; exact List.mem_of_getElem? h))]; exact h2, h3⟩
  · obtain ⟨w', st', ou', dx', h1, h2⟩ := hb i e h
    exact ⟨w', st', ou', dx', h1, by rw [upd_ne (ne_of h2 B.bl (by intro e; cases e))]; exact h2⟩
/-- an entry is changed behind its word -/
theorem BodyAt.setEn {H : Hp} {r : Addr} {b : Bd} {F : BF} (B : BodyAt a H r b F) {e : Addr} {w0 : Str} {vs ws : List V} (he : e ∈ F.es) (hh : H e = some (.lst (.str w0 :: vs))) (hl : ws.length = vs.length) : BodyAt a (upd H e (.lst (.str w0 :: ws))) r b F := by
  obtain ⟨n1, n2, n3, n4, n5⟩ : F.s ≠ e ∧ F.c ≠ e ∧ F.d ≠ e ∧ F.k ≠ e ∧ F.l ≠ e := by
    have h := B.nd
    simp only [List.nodup_cons, List.mem_cons, not_or] at h
    exact ⟨fun q => h.1.2.2.2.2 (q ▸ he), fun q => h.2.1.2.2.2 (q ▸ he), fun q => h.2.2.1.2.2 (q ▸ he), fun q => h.2.2.2.1.2 (q ▸ he), fun q => h.2.2.2.2.1 (q ▸ he)⟩
  refine ⟨?_, ?_, ?_, ?_, ?_, ?_, fun i x h => ?_, B.el, fun i x h => ?_, B.bn, B.nd⟩
  · rw [upd_ne (ne_of B.ob hh (by intro e; cases e))]; exact B.ob
  · rw [upd_ne n1]; exact B.sc
  · rw [upd_ne n2]; exact B.ce
  · rw [upd_ne n3]; exact B.re
  · rw [upd_ne n4]; exact B.co
  · rw [upd_ne n5]; exact B.bl
  · obtain ⟨w', us, h1, h2, h3, h4⟩ := B.en i x h
    by_cases q : x = e
    · subst q
      rw [hh] at h2
      injection h2 with h2
      injection h2 with h2
      injection h2 with h2a h2b
      injection h2a with h2a
      subst h2a h2b
      exact ⟨_, ws, h1, upd_same, by rw [hl]; exact h3, by rw [hl]; exact h4⟩
    · exact ⟨w', us, h1, by rw [upd_ne q]; exact h2, h3, h4⟩
  · obtain ⟨w', st', ou', dx', h1, h2⟩ := B.bk i x h
    exact ⟨w', st', ou', dx', h1, by rw [upd_ne (ne_of h2 hh (by intro e; cases e))]; exact h2⟩
/-- the scope is a new list -/
theorem BodyAt.newScope {H : Hp} {r : Addr} {b : Bd} {F : BF} (B : BodyAt a H r b F) {s2 : Addr} {xs : List Str} (h2 : H s2 = none) :
    BodyAt a (upd (upd H s2 (.lst (xs.map V.str))) r (.ins (a 8) F.dx (bdF b.kind s2 F.c F.d F.k F.l b.deepest b.closed))) r { b with scope := xs } { F with s := s2 } := by
  have B2 := B.same (Same.new (o := .lst (xs.map V.str)) h2)
  have nl : ∀ {x : Addr} {l : List V}, upd H s2 (.lst (xs.map V.str)) x = some (.lst l) → x ≠ r := fun h => ne_of h B2.ob (by intro e; cases e)
  have ns := own_none B h2
  simp only [BF.own, List.mem_cons, List.mem_append, not_or] at ns
  obtain ⟨m1, m2, m3, m4, m5, m6, m7, m8⟩ := ns
  refine ⟨upd_same, ?_, ?_, ?_, ?_, ?_, fun i x h => ?_, B.el, fun i x h => ?_, B.bn, ?_⟩
  · rw [upd_ne (Ne.symm (fun q => m1 q.symm))]; exact upd_same
  · rw [upd_ne (nl B2.ce)]; exact B2.ce
  · rw [upd_ne (nl B2.re)]; exact B2.re
  · rw [upd_ne (nl B2.co)]; exact B2.co
  · rw [upd_ne (nl B2.bl)]; exact B2.bl
  · obtain ⟨w, vs, h1, h2, h3⟩ := B2.en i x h
    exact ⟨w, vs, h1, by rw [upd_ne (nl h2)]; exact h2, h3⟩
  · obtain ⟨w, st, ou, dx, h1, h2⟩ := B2.bk i x h
    exact ⟨w, st, ou, dx, h1, by rw [upd_ne (ne_of h2 B2.ob blF_ne)]; exact h2⟩
  · have h := B.nd
    rw [List.nodup_cons] at h ⊢
    refine ⟨?_, h.2⟩
    simp only [List.mem_cons, not_or]
    exact ⟨m3, m4, m5, m6, m7⟩
theorem none_f {H H' : Hp} {y e : Addr} {o : HO} (f : ∀ x, x ≠ y → H' x = H x) (hy : H' y = some o) (he : H' e = none) : H e = none := by
  rw [← f e (by rintro rfl; rw [he] at hy; cases hy)]; exact he
theorem none_g {H H' : Hp} {y e : Addr} {o : HO} (f : ∀ x o, H x = some o → x ≠ y → H' x = some o) (hy : H' y = some o) (he : H' e = none) : H e = none := by
  cases h : H e with
  | none => rfl
  | some o' =>
    have := f e o' h (by rintro rfl; rw [he] at hy; cases hy)
    rw [he] at this
    cases this
theorem s_setEn {Hc : Hp} {r : Addr} {b : Bd} {F : BF} (B : BodyAt a Hc r b F) {st : Nat} {e0 : Addr} {w0 : Str} {vs : List V} {v : V} {j : Nat} {k : Int} {R : Hp → Prop} (he : F.es[st]? = some e0) (hh : Hc e0 = some (.lst (.str w0 :: vs))) (hj : j < vs.length) (hk : k = ((j + 1 : Nat) : Int)) (q : ∀ H', BodyAt a H' r b F → (∀ x, x ≠ e0 → H' x = Hc x) → R H') : rSetU (.ref e0) (.int k) v Hc R := by
  subst hk
  refine s_setU hh (ixN_nat (by rw [List.length_cons]; omega)) (q _ ?_ fun x hx => upd_ne hx)
  exact B.setEn (ws := vs.set j v) (List.mem_of_getElem? he) hh (by simp)
theorem s_mScope (T : Ty K mg a fd) {Hc : Hp} {r : Addr} {b : Bd} {F : BF} (B : BodyAt a Hc r b F) {s2 : Addr} {ou : Nat} {R : Hp → Prop} (h2 : Hc s2 = none) (ho : ou ≤ b.scope.length) (q : ∀ H', BodyAt a H' r { b with scope := b.scope.take ou } { F with s := s2 } → (∀ x o, Hc x = some o → x ≠ r → H' x = some o) → R H') : mSet K "scope" (.ref r) (.ref s2) (upd Hc s2 (.lst (cutV (b.scope.map V.str) none (some (ou : Int))))) R := by
  rw [cutV_take _ _ ho]
  have hob : upd Hc s2 (.lst ((b.scope.take ou).map V.str)) r = some (.ins (a 8) F.dx (bdF b.kind F.s F.c F.d F.k F.l b.deepest b.closed)) := (Same.new h2) _ _ B.ob
  refine s_setM hob (T.bdy (by decide)) (Nat.le_of_ble_eq_true rfl) rfl (q _ (B.newScope h2) fun x o hx hxr => ?_)
  rw [upd_ne hxr]
  exact (Same.new h2) _ _ hx
theorem s_lastBl {Hc : Hp} {r : Addr} {b : Bd} {F : BF} (B : BodyAt a Hc r b F) {bl0 : List (Str × Nat × Nat)} {y : Str × Nat × Nat} {bs0 : List Addr} {eb x dx : Addr} {w0 : Str} {st ou : Nat} {R : Hp → Prop} (hb : b.blocks = bl0 ++ [y]) (hbs : F.bs = bs0 ++ [eb]) (hx : Hc x = some (.ins (a 6) dx (blF w0 st ou)))
    (q : ∀ H', BodyAt a H' r { b with blocks := bl0 ++ [(w0, st, ou)] } { F with bs := bs0 ++ [x] } → (∀ z, z ≠ F.l → H' z = Hc z) → R H') : rSetU (.ref F.l) (.int (-1)) (.ref x) Hc R := by
  have hl : bs0.length = bl0.length := by
    have := B.bn
    rw [hbs, hb] at this
    simpa using this
  refine s_setU B.bl (ixN_last (by rw [hbs]; simp)) ?_
  have e : (F.bs.map V.ref).set ((F.bs.map V.ref).length - 1) (.ref x) = (bs0 ++ [x]).map V.ref := by
    rw [hbs]
    simp
  rw [e]
  refine q _ (B.setBl (fun i z h => ?_) (by simp [hl])) fun z hz => upd_ne hz
  by_cases hi : i < bs0.length
  · rw [List.getElem?_append_left hi] at h
    obtain ⟨w', st', ou', dx', h1, h2⟩ := B.bk i z (by rw [hbs, List.getElem?_append_left hi]; exact h)
    rw [hb, List.getElem?_append_left (by omega)] at h1
    exact ⟨w', st', ou', dx', by rw [List.getElem?_append_left (by omega)]; exact h1, h2⟩
  · have hl' : i = bs0.length := by
      have := (List.getElem?_eq_some_iff.mp h).1
      simp at this
      omega
    subst hl'
    simp at h
    subst h
    exact ⟨w0, st, ou, dx, by rw [hl]; simp, hx⟩
theorem s_popBl {Hc : Hp} {r : Addr} {b : Bd} {F : BF} (B : BodyAt a Hc r b F) {bl0 : List (Str × Nat × Nat)} {y : Str × Nat × Nat} {bs0 : List Addr} {eb : Addr} {R : VK} (hb : b.blocks = bl0 ++ [y]) (hbs : F.bs = bs0 ++ [eb])
    (q : ∀ H', BodyAt a H' r { b with blocks := bl0 } { F with bs := bs0 } → (∀ z, z ≠ F.l → H' z = Hc z) → R (.ref eb) H') : rPopU (.ref F.l) [] Hc R := by
  have hl : bs0.length = bl0.length := by
    have := B.bn
    rw [hbs, hb] at this
    simpa using this
  refine s_pop B.bl (y := .ref eb) (by rw [hbs]; simp) ?_
  have e : (F.bs.map V.ref).dropLast = bs0.map V.ref := by
    rw [hbs]
    simp
  rw [e]
  refine q _ (B.setBl (fun i z h => ?_) (by simp [hl])) fun z hz => upd_ne hz
  have hi : i < bs0.length := (List.getElem?_eq_some_iff.mp h).1
  obtain ⟨w', st', ou', dx', h1, h2⟩ := B.bk i z (by rw [hbs, List.getElem?_append_left hi]; exact h)
  rw [hb, List.getElem?_append_left (by omega)] at h1
  exact ⟨w', st', ou', dx', h1, h2⟩
def turnB (b : Bd) (ws : List Str) : Option (Str × Bd) :=
  match ws with
  | [w0] =>
    match b.blocks.getLast? with
    | none => if w0 = "end" then closeB b else none
    | some (bw, st, ou) =>
      if w0 = "else" then
        if bw = "if" then some ("else", { b with scope := b.scope.take ou, blocks := b.blocks.dropLast ++ [(("else" : Str), b.code.length, ou)] }) else none
      else some (if bw = "batch" then "close" else "end", { b with scope := b.scope.take ou, blocks := b.blocks.dropLast })
  | _ => none
theorem ok_BodyReader_turning (T : Ty K mg a fd) (T1 : Tx K mg a fd tk) : FnOk P w K mg base CX0 4 (a 16) (fd 16) ["self", "words"] (spE a (fun ws => ws.headD "" = "else" ∨ ws.headD "" = "end") turnB) := by
  refine T.F_BodyReader_turning.ok sc_BodyReader_turning (fun vs H Q E h => ?_) (fun cdv A outer s H vs Q E hr h => ?_)
  · obtain ⟨r, p, b, F, ws, rfl, _⟩ := h
    rfl
  · obtain ⟨r, p, b, F, ws, rfl, B, hp, hpo, W, ⟨hpre, hok⟩, z1, z2, z3, kN, kS⟩ := h
    refine ⟨_, (pss_cons (ps_if (pt_cmpR op_gt (pe_callB uLen (by rfl) T1.b_len bt_len (pa_cons (pv 1) pa_nil)) pe_int (nomark _)) (pss_one (ps_ret pe_non)) pss_nil)
  (pss_cons (ps_if (pt_cmpR (uEq K hr.units) (pe_fldU K (pv 0)) (pe_lst pa_nil) (nomark _)) (pss_one (ps_ret (pe_ifExp (pt_cmpR (uEq K hr.units) (pe_ix uIx (pv 1) pe_int (fun _ _ => rfl)) pe_str (nomark _)) (pe_meth0 (pv 0) T.cl_BodyReader T.m_BodyReader_closing (ok_BodyReader_closing T T1) (hr.mono (by decide)) (b_BodyReader_closing T) .nil pass0) pe_non))) pss_nil)
  (pss_cons (ps_asg (pe_ix uIx (pe_fldU K (pv 0)) (pe_un un_neg pe_int) (fun _ _ => rfl)) (pg_name (i := 2) sc_BodyReader_turning.nd rfl (by first | exact Or.inl rfl | exact Or.inr rfl)))
  (pss_cons (ps_if (pt_cmpR (uEq K hr.units) (pe_ix uIx (pv 1) pe_int (fun _ _ => rfl)) pe_str (nomark _)) (pss_cons (ps_if (pt_cmpR (uNe K hr.units) (pe_fldU K (pv 2)) pe_str (nomark _)) (pss_one (ps_ret pe_non)) pss_nil)
  (pss_cons (ps_asg (pe_op uAdd (pe_callB uLen (by rfl) T1.b_len bt_len (pa_cons (pe_fldU K (pv 0)) pa_nil)) pe_int) (pg_sub (pe_ix uIx (pe_fldU K (pv 0)) (pe_fldU K (pv 2)) (fun _ _ => rfl)) pe_int set_listU))
  (pss_cons (ps_fldU K (pv 0) (pe_slice uSl (pe_fldU K (pv 0)) po_none (po_some (pe_fldU K (pv 2)))))
  (pss_cons (ps_asg (pe_make T.mk_Block (ok_Block___init__ T) (hr.mono (by decide)) (by rfl) T.g_Block (b_Block___init__ T) .nil pass0 (pa_cons pe_str (pa_cons (pe_callB uLen (by rfl) T1.b_len bt_len (pa_cons (pe_fldU K (pv 0)) pa_nil)) (pa_cons (pe_fldU K (pv 2)) pa_nil)))) (pg_sub (pe_fldU K (pv 0)) (pe_un un_neg pe_int) set_listU))
  (pss_one (ps_ret (pe_lst (pa_cons pe_str (pa_cons pe_bl (pa_cons pe_int pa_nil)))))))))) pss_nil)
  (pss_cons (ps_expr (pe_bm0 PySem.F.plainAttrs_list PySem.F.slot_list_pop PySem.F.type_list_pop uPop (pe_fldU K (pv 0))))
  (pss_cons (ps_fldU K (pv 0) (pe_slice uSl (pe_fldU K (pv 0)) po_none (po_some (pe_fldU K (pv 2)))))
  (pss_cons (ps_if (pt_cmpR (uEq K hr.units) (pe_fldU K (pv 2)) pe_str (nomark _)) (pss_one (ps_asg (pe_callB uLen (by rfl) T1.b_len bt_len (pa_cons (pe_fldU K (pv 0)) pa_nil)) (pg_sub (pe_ix uIx (pe_fldU K (pv 0)) (pe_fldU K (pv 2)) (fun _ _ => rfl)) pe_int set_listU))) pss_nil)
  (pss_cons (ps_if (pt_cmpR (uEq K hr.units) (pe_fldU K (pv 2)) pe_str (nomark _)) (pss_one (ps_asg (pe_callB uLen (by rfl) T1.b_len bt_len (pa_cons (pe_fldU K (pv 0)) pa_nil)) (pg_sub (pe_ix uIx (pe_fldU K (pv 0)) (pe_fldU K (pv 2)) (fun _ _ => rfl)) pe_int set_listU))) pss_nil)
  (pss_one (ps_ret (pe_lst (pa_cons (pe_ifExp (pt_cmpR (uEq K hr.units) (pe_fldU K (pv 2)) pe_str (nomark _)) pe_str pe_str) (pa_cons pe_bl pa_nil))))))))))))), ?_⟩
    have hob := B.ob
    have hsc := B.sc
    have hbl := B.bl
    have hco := B.co
    match ws, hp, W, hpre, kN, kS with
    | [], hp, W, hpre, kN, kS => exact absurd rfl W.one
    | w0 :: w1 :: l, hp, W, hpre, kN, kS =>
      have hp' : H p = some (.lst (.str w0 :: .str w1 :: l.map V.str)) := hp
      walk_at "rd"
      refine ifT (by simp; omega) ?_
      walk_at "rd"
      exact kN rfl _ fun x o h _ => h
    | [w0], hp, W, hpre, kN, kS =>
      have hpre' : w0 = "else" ∨ w0 = "end" := hpre
      have hp' : H p = some (.lst [.str w0]) := hp
      walk_at "rd"
      refine ifF (by simp) ?_
      walk_at "rd"
      intro z1 hz1
      have sz := Same.new (o := .lst []) hz1
      have hobz := sz _ _ hob
      have hblz := sz _ _ hbl
      have hpz := sz _ _ hp'
      walk_at "rd"
      rcases List.eq_nil_or_concat b.blocks with hb | ⟨bl0, ⟨bw, st, ou⟩, hb⟩
      · have hbs : F.bs = [] := List.eq_nil_of_length_eq_zero (by rw [B.bn, hb]; rfl)
        refine ifT (by rw [hbs]; rfl) ?_
        walk_at "rd"
        rw [dec_str]
        refine ifB (fun c1 => ?_) (fun c1 => ?_)
        · walk_at "rd"
          have c1' : w0 = "end" := by simpa using c1
          have ht : turnB b [w0] = closeB b := by simp [turnB, hb, c1']
          refine ⟨r, b, F, rfl, B.same sz, fun hc H' s' => kN (by rw [ht]; exact hc) _ (frame_same (sz.trans s')), fun b' hc e H' B' he hne hfr => ?_⟩
          refine kS "end" b' (by rw [ht]; exact hc) F e _ H' B' he (fun q => absurd q (by decide)) (fun q => absurd q (by decide)) (sz.free hne) (own_none B (sz.free hne)) (fun x o hx hn => hfr x o (sz _ _ hx) fun q => hn (by rw [q]; exact own_r)) fun x hx => .inl hx
        · walk_at "rd"
          refine kN ?_ _ (frame_same sz)
          simp at c1
          simp [turnB, hb, c1]
      · rw [List.concat_eq_append] at hb
        obtain ⟨bs0, eb, hbs⟩ : ∃ bs0 eb, F.bs = bs0 ++ [eb] := by
          rcases List.eq_nil_or_concat F.bs with h | ⟨x, y, h⟩
          · have := B.bn
            rw [h, hb] at this
            simp at this
          · exact ⟨x, y, by rw [h, List.concat_eq_append]⟩
        have hbl0 : bs0.length = bl0.length := by
          have := B.bn
          rw [hbs, hb] at this
          simpa using this
        have hlast : b.blocks.getLast? = some (bw, st, ou) := by rw [hb]; simp
        have hdrop : b.blocks.dropLast = bl0 := by rw [hb]; simp
        obtain ⟨dx, heb⟩ : ∃ dx, H eb = some (.ins (a 6) dx (blF bw st ou)) := by
          obtain ⟨w', st', ou', dx, h1, h2⟩ := B.bk bs0.length eb (by rw [hbs]; simp)
          rw [hb, hbl0] at h1
          simp at h1
          obtain ⟨rfl, rfl, rfl⟩ := h1
          exact ⟨dx, h2⟩
        obtain ⟨ok1, ok2, ok3, ok4⟩ := hok bw st ou (by rw [hb]; simp)
        refine ifF (by rw [hbs]; simp) ?_
        walk_at "rd"
        refine s_ixLast (xs := bs0.map V.ref) (v := .ref eb) (by rw [hblz, hbs, List.map_append]; rfl) ?_
        walk_at "rd"
        rw [dec_str]
        have hebz := sz _ _ heb
        have Bz := B.same sz
        have hokl : ∀ (x : Addr) (o : HO), H x = some o → x ∉ F.own r → upd H z1 (.lst []) x = some o := fun x o h _ => sz _ _ h
        refine ifB (fun c1 => ?_) (fun c1 => ?_)
        · have c1' : w0 = "else" := by simpa using c1
          walk_at "rd"
          rw [dec_str]
          refine ifB (fun c2 => ?_) (fun c2 => ?_)
          · walk_at "rd"
            have c2' : bw ≠ "if" := by simpa using c2
            exact kN (by simp [turnB, hlast, c1', c2']) _ (frame_same sz)
          · have c2' : bw = "if" := by simpa using c2
            have hcoz := Bz.co
            obtain ⟨e0, he0⟩ : ∃ e0, F.es[st]? = some e0 := ⟨_, List.getElem?_eq_getElem (by rw [B.el]; exact ok3)⟩
            obtain ⟨w', vs0, g1, g2, g3, g4⟩ := Bz.en st e0 he0
            rw [ok1 c2'] at g1
            injection g1 with g1
            subst g1
            have hv := g3 rfl
            walk_at "rd"
            refine s_gsub ?_
            walk_at "rd"
            refine s_ixL hcoz (atI_nat (by rw [List.getElem?_map, he0]; rfl)) ?_
            walk_at "rd"
            refine s_setEn Bz he0 g2 (j := 4) (by omega) rfl fun H3 B3 f3 => ?_
            have heb3 : H3 eb = some (.ins (a 6) dx (blF bw st ou)) := by rw [f3 _ (ne_of hebz g2 (by intro e; cases e))]; exact hebz
            have hob3 := B3.ob
            walk_at "rd"
            refine s_slL B3.sc fun s2 hs2 => ?_
            walk_at "rd1"
            refine s_mScope T B3 hs2 ok4 fun H4 B4 f4 => ?_
            have heb4 := f4 _ _ heb3 (ne_of heb3 hob3 blF_ne)
            have hob4 := B4.ob
            have hco4 := B4.co
            walk_at "rd"
            intro x dx' nx ndx hdx
            refine ⟨x, dx', "else", b.code.length, ou, by rw [List.length_map, B.el], upd_same, rfl, ?_⟩
            rw [upd_upd]
            have s5 : Same H4 (upd (upd H4 dx' (.own x)) x (.ins (a 6) dx' (blF "else" b.code.length ou))) := (Same.new ndx).trans (Same.new (by rw [upd_ne (Ne.symm hdx)]; exact nx))
            have gx : (upd (upd H4 dx' (.own x)) x (.ins (a 6) dx' (blF "else" b.code.length ou))) x = some (.ins (a 6) dx' (blF "else" b.code.length ou)) := upd_same
            generalize (upd (upd H4 dx' (.own x)) x (.ins (a 6) dx' (blF "else" b.code.length ou))) = H5 at s5 gx ⊢
            have B5 := B4.same s5
            have hob5 := B5.ob
            walk_at "rd"
            refine s_gsub ?_
            walk_at "rd"
            refine s_lastBl B5 (bl0 := bl0) (y := (bw, st, ou)) hb hbs gx fun H6 B6 f6 => ?_
            walk_at "rd"
            intro e he
            have B7 := B6.same (Same.new (o := .lst [.str "else", .bl false, .int 0]) he)
            obtain ⟨_, _, _, he03, _⟩ := B3.en st e0 he0
            have fr4 : ∀ y, H4 y = none → H y = none := fun y hy => sz.free (none_f f3 he03 (none_g f4 B4.ob hy))
            have hs2' : H s2 = none := sz.free (none_f f3 he03 hs2)
            have fr6 : ∀ y, H6 y = none → H y = none := fun y hy => fr4 _ (s5.free (none_f f6 B6.bl hy))
            refine kS "else" _ (by simp [turnB, hlast, c1', c2', hdrop]) _ e _ _ B7 upd_same (fun q => absurd q (by decide)) (fun _ => rfl) (fr6 _ he) (own_none B6 he) ?_ ?_
            · intro y o hy hn
              have m1 : y ≠ F.l := fun q => hn (by rw [q]; exact own_l)
              have m2 : y ≠ r := fun q => hn (by rw [q]; exact own_r)
              have m3 : y ≠ e0 := fun q => hn (by rw [q]; exact own_es (List.mem_of_getElem? he0))
              refine (Same.new he) _ _ ?_
              rw [f6 _ m1]
              refine s5 _ _ (f4 _ _ ?_ m2)
              rw [f3 _ m3]
              exact sz _ _ hy
            · refine own_all (.inl own_r) (.inr hs2') (.inl own_c) (.inl own_d) (.inl own_k) (.inl own_l) (fun y hy => .inl (own_es hy)) fun y hy => ?_
              rcases List.mem_append.mp hy with h | h
              · exact .inl (own_bs (by rw [hbs]; simp [h]))
              · rw [List.mem_singleton] at h
                exact .inr (by rw [h]; exact fr4 _ nx)
        · have c1' : w0 = "end" := by
            rcases hpre' with h | h
            · exact absurd h (by simpa using c1)
            · exact h
          have c1'' : w0 ≠ "else" := by rw [c1']; decide
          walk_at "rd"
          refine s_popBl Bz (bl0 := bl0) (y := (bw, st, ou)) hb hbs fun H3 B3 f3 => ?_
          have heb3 : H3 eb = some (.ins (a 6) dx (blF bw st ou)) := by rw [f3 _ (ne_of hebz hblz (by intro e; cases e))]; exact hebz
          have hob3 := B3.ob
          walk_at "rd"
          refine s_slL B3.sc fun s2 hs2 => ?_
          walk_at "rd1"
          refine s_mScope T B3 hs2 ok4 fun H4 B4 f4 => ?_
          have heb4 := f4 _ _ heb3 (ne_of heb3 hob3 blF_ne)
          have hob4 := B4.ob
          have hco4 := B4.co
          have fr4 : ∀ y, H4 y = none → H y = none := fun y hy => sz.free (none_f f3 B3.bl (none_g f4 B4.ob hy))
          have hs2' : H s2 = none := sz.free (none_f f3 B3.bl hs2)
          obtain ⟨e0, he0⟩ : ∃ e0, F.es[st]? = some e0 := ⟨_, List.getElem?_eq_getElem (by rw [B.el]; exact ok3)⟩
          have fin : ∀ (σ : L2.St) (H5 : Hp) (w1 : Str), BodyAt a H5 r { b with scope := b.scope.take ou, blocks := bl0 } { F with s := s2, bs := bs0 } → (∀ x, x ≠ e0 → H5 x = H4 x) → w1 = (if bw = "batch" then "close" else "end" : Str) →
              ∀ e, H5 e = none → Q (.ref e) (upd H5 e (.lst [.str w1, .bl false])) := by
            intro σ H5 w1 B5 f5 hw e he
            obtain ⟨_, _, _, he05, _⟩ := B5.en st e0 he0
            have hw1 : w1 ≠ "if" ∧ w1 ≠ "else" := by
              rw [hw]
              split <;> decide
            refine kS w1 _ (by simp [turnB, hlast, c1'', hdrop, hw]) _ e _ _ (B5.same (Same.new he)) upd_same (fun q => absurd q hw1.1) (fun q => absurd q hw1.2) (fr4 _ (none_f f5 he05 he)) (own_none B5 he) ?_ ?_
            · intro y o hy hn
              have m1 : y ≠ F.l := fun q => hn (by rw [q]; exact own_l)
              have m2 : y ≠ r := fun q => hn (by rw [q]; exact own_r)
              have m3 : y ≠ e0 := fun q => hn (by rw [q]; exact own_es (List.mem_of_getElem? he0))
              refine (Same.new he) _ _ ?_
              rw [f5 _ m3]
              refine f4 _ _ ?_ m2
              rw [f3 _ m1]
              exact sz _ _ hy
            · refine own_all (.inl own_r) (.inr hs2') (.inl own_c) (.inl own_d) (.inl own_k) (.inl own_l) (fun y hy => .inl (own_es hy)) fun y hy => ?_
              exact .inl (own_bs (by rw [hbs]; simp [show y ∈ bs0 from hy]))
          obtain ⟨w', vs0, g1, g2, g3, g4⟩ := B4.en st e0 he0
          walk_at "rd"
          rw [dec_str]
          refine ifB (fun c2 => ?_) (fun c2 => ?_)
          · have c2' : bw = "if" := by simpa using c2
            have g1' : b.code[st]? = some w' := g1
            rw [ok1 c2'] at g1'
            injection g1' with g1'
            subst g1'
            have hv := g3 rfl
            walk_at "rd"
            refine s_gsub ?_
            walk_at "rd"
            refine s_ixL hco4 (atI_nat (by rw [List.getElem?_map]; show (F.es[st]?).map _ = _; rw [he0]; rfl)) ?_
            walk_at "rd"
            refine s_setEn B4 he0 g2 (j := 4) (by omega) rfl fun H5 B5 f5 => ?_
            have heb5 : H5 eb = some (.ins (a 6) dx (blF bw st ou)) := by rw [f5 _ (ne_of heb4 g2 (by intro e; cases e))]; exact heb4
            walk_at "rd"
            rw [dec_str]
            refine ifF (by rw [c2']; rfl) ?_
            walk_at "rd"
            rw [dec_str]
            refine ifF (by rw [c2']; rfl) ?_
            walk_at "rd"
            exact fin [] H5 "end" B5 f5 (by rw [c2']; rfl)
          · have c2' : bw ≠ "if" := by simpa using c2
            walk_at "rd"
            rw [dec_str]
            refine ifB (fun c3 => ?_) (fun c3 => ?_)
            · have c3' : bw = "else" := by simpa using c3
              have g1' : b.code[st]? = some w' := g1
              rw [ok2 c3'] at g1'
              injection g1' with g1'
              subst g1'
              have hv := g4 rfl
              walk_at "rd"
              refine s_gsub ?_
              walk_at "rd"
              refine s_ixL hco4 (atI_nat (by rw [List.getElem?_map]; show (F.es[st]?).map _ = _; rw [he0]; rfl)) ?_
              walk_at "rd"
              refine s_setEn B4 he0 g2 (j := 1) (by omega) rfl fun H5 B5 f5 => ?_
              have heb5 : H5 eb = some (.ins (a 6) dx (blF bw st ou)) := by rw [f5 _ (ne_of heb4 g2 (by intro e; cases e))]; exact heb4
              walk_at "rd"
              rw [dec_str]
              refine ifF (by rw [c3']; rfl) ?_
              walk_at "rd"
              exact fin [] H5 "end" B5 f5 (by rw [c3']; rfl)
            · walk_at "rd"
              rw [dec_str]
              refine ifB (fun c4 => ?_) (fun c4 => ?_)
              · have c4' : bw = "batch" := by simpa using c4
                walk_at "rd"
                exact fin [] H4 "close" B4 (fun _ _ => rfl) (by rw [c4']; rfl)
              · have c4' : bw ≠ "batch" := by simpa using c4
                walk_at "rd"
                exact fin [] H4 "end" B4 (fun _ _ => rfl) (by rw [if_neg c4'])
theorem b_BodyReader_turning (T : Ty K mg a fd) : Binds K (fd 16) ["self", "words"] [] := T.F_BodyReader_turning.binds fun _ _ _ _ _ _ us hl => match us, hl with | [_, _], _ => rfl
end
end Tr
set_option maxHeartbeats 1000000

namespace Tr
open PySem L2
section
variable {P : Program} {w : World} {K : PySem.W.Frag} {mg : Str → Option Value} {base : Heap} {a : Nat → Addr} {fd : Nat → FuncData} {tk : Nat → Tok}
local macro_rules | `(tactic| walk_at "ne") => `(tactic| first | assumption | (exact Ne.symm (by assumption)) | (refine ne_of_none (by assumption) (by assumption)) | (refine Ne.symm (ne_of_none (by assumption) (by assumption))))
local macro_rules | `(tactic| walk_at "hl") => `(tactic| first | assumption | with_reducible exact upd_same | ((with_reducible refine' Eq.trans (upd_ne ?hne) ?hrest); (case hne => walk_at "ne"); (case hrest => walk_at "hl")) | (refine' get_same ?hs ?hg; (case hs => assumption); (case hg => assumption)))
local macro_rules | `(tactic| walk_at "at") => `(tactic| first | with_reducible exact atI_0 _ _ | with_reducible exact atI_1 _ _ _ | with_reducible exact atI_2 _ _ _ _ | with_reducible exact atI_3 _ _ _ _ _ | assumption)
local macro_rules | `(tactic| walk_at "rd1") => `(tactic| first
  | with_reducible refine s_seq ?_ | with_reducible refine s_next ?_ | with_reducible refine s_if ?_ | with_reducible refine s_ret ?_ | with_reducible refine s_retN ?_ | with_reducible refine s_drop ?_ | with_reducible refine s_asg ?_ | with_reducible refine s_brk ?_ | with_reducible refine s_cont ?_
  | with_reducible refine s_gname ?_ | with_reducible refine s_c ?_ | with_reducible refine s_op ?_ | with_reducible refine s_un ?_ | with_reducible refine s_neg ?_ | with_reducible refine s_test ?_ | with_reducible refine s_tb ?_ | with_reducible refine s_not ?_ | with_reducible refine s_and ?_ | with_reducible refine s_or ?_ | with_reducible refine s_yes ?_
  | ((with_reducible refine' s_var ?hv ?_); (case hv => exact rfl))
  | with_reducible refine s_ifx ?_ | with_reducible refine s_andV ?_ | with_reducible refine s_orV ?_ | with_reducible refine s_notV ?_ | with_reducible refine s_chain ?_ | with_reducible refine s_nil ?_ | with_reducible refine s_cons ?_ | with_reducible refine s_lst ?_ | with_reducible refine s_tup ?_ | with_reducible refine s_cb ?_ | with_reducible refine s_call ?_ | with_reducible refine s_meth ?_ | with_reducible refine s_make ?_
  | with_reducible refine s_dnewK ?_ | with_reducible refine s_sl ?_ | with_reducible refine s_po0 ?_ | with_reducible refine s_po1 ?_ | with_reducible refine s_bm ?_ | with_reducible refine s_bm0 ?_
  | with_reducible refine s_bl ?_ | with_reducible refine s_int ?_ | with_reducible refine s_I0 ?_ | with_reducible refine s_addI ?_ | with_reducible refine s_intI ?_ | with_reducible refine s_intB ?_
  | with_reducible refine s_m1 ?_ | with_reducible refine s_lc ?_ | with_reducible refine s_ilist ?_ | with_reducible refine s_for ?_ | with_reducible refine s_irng ?_ | with_reducible refine s_match ?_ | with_reducible refine s_starT ?_ | with_reducible refine s_isS ?_ | with_reducible refine s_isiSS ?_ | with_reducible refine s_fldU ?_ | with_reducible refine s_sfldU ?_
  | ((with_reducible refine' s_eqS ?hq ?_); (case hq => exact rfl)) | ((with_reducible refine' s_neS ?hq ?_); (case hq => exact rfl))
  | ((with_reducible refine' s_isN ?hq ?_); (case hq => exact rfl)) | ((with_reducible refine' s_notN ?hq ?_); (case hq => exact rfl))
  | ((with_reducible refine' s_eqNil ?h1 ?h2 ?_); (case h1 => walk_at "hl"); (case h2 => walk_at "hl")) | ((with_reducible refine' s_neNil ?h1 ?h2 ?_); (case h1 => walk_at "hl"); (case h2 => walk_at "hl"))
  | ((with_reducible refine' s_ixL ?h1 ?h2 ?_); (case h1 => walk_at "hl"); (case h2 => walk_at "at")) | ((with_reducible refine' s_ixT ?h1 ?h2 ?_); (case h1 => walk_at "hl"); (case h2 => walk_at "at"))
  | ((with_reducible refine' s_inS ?h1 ?_); (case h1 => walk_at "hl")) | ((with_reducible refine' s_ninS ?h1 ?_); (case h1 => walk_at "hl")) | with_reducible refine s_inW ?_
  | ((with_reducible refine' s_lenL ?h1 ?_); (case h1 => walk_at "hl")) | ((with_reducible refine' s_lenT ?h1 ?_); (case h1 => walk_at "hl"))
  | ((with_reducible refine' s_tyL ?h1 ?_); (case h1 => walk_at "hl"))
  | ((with_reducible refine' s_fldM ?h1 ?h2 ?h3 ?_); (case h1 => walk_at "hl"); (case h2 => walk_at "fok"); (case h3 => walk_at "flk"))
  | ((with_reducible refine' s_setM ?h1 ?h2 ?h3 ?h4 ?_); (case h1 => walk_at "hl"); (case h2 => walk_at "fok"); (case h4 => walk_at "put"); (case h3 => exact Nat.le_of_ble_eq_true rfl))
  | ((with_reducible refine' s_starM ?h1 ?_); (case h1 => walk_at "hl"))
  | ((with_reducible refine' s_recv ?h1 ?h2 ?_); (case h1 => walk_at "hl"); (case h2 => exact rfl))
  | ((with_reducible refine' s_sz ?h1 ?_); (case h1 => (simp; done))))
local macro_rules | `(tactic| walk_at "rd") => `(tactic| repeat (walk_at "rd1"))
local macro_rules | `(tactic| walk_at "fok") => `(tactic| assumption)
local macro_rules | `(tactic| walk_at "flk") => `(tactic| rfl)
local macro_rules | `(tactic| walk_at "put") => `(tactic| exact rfl)

local macro_rules | `(tactic| walk_at "fok") => `(tactic| first | exact Ty.blk (by assumption) (by decide) | exact Ty.bdy (by assumption) (by decide))
theorem s_mCons {r : Str → Bool} {t : TS} {m : TM} {z : Str} {D : Ends} {σ : L2.St} {H : Hp} (h1 : r z = true → t D σ H) (h2 : r z = false → m z D σ H) : mCons r t m z D σ H := by
  show if r z = true then t D σ H else m z D σ H
  cases e : r z with
  | true => exact h1 e
  | false => exact h2 e
theorem s_mAny {t : TS} {z : Str} {D : Ends} {σ : L2.St} {H : Hp} (h : t D σ H) : mAny t z D σ H := h
def entryB (b : Bd) (ws : List Str) : Option (Str × Bd) :=
  match ws with
  | [] => none
  | w0 :: l =>
    if w0 = "let" ∨ w0 = "set" then assignB b (w0 :: l)
    else if w0 = "note" ∨ w0 = "tell" ∨ w0 = "give" then singleB b (w0 :: l)
    else if w0 = "if" ∨ w0 = "quiet" ∨ w0 = "batch" then openB b (w0 :: l)
    else if w0 = "wait" then (if b.kind = "effect" ∧ l = [] then some ("wait", b) else none)
    else if w0 = "else" ∨ w0 = "end" then turnB b (w0 :: l)
    else none
theorem closeB_code {b b' : Bd} {w : Str} (h : closeB b = some (w, b')) : b'.code = b.code := by
  unfold closeB at h
  split at h
  · cases h
  · cases h; rfl
theorem entryB_code {b b' : Bd} {ws : List Str} {w : Str} (h : entryB b ws = some (w, b')) : b'.code = b.code := by
  match ws with
  | [] => cases h
  | w0 :: l =>
    simp only [entryB] at h
    split at h
    · unfold assignB at h
      repeat' split at h
      all_goals first | (cases h; rfl) | cases h
    split at h
    · unfold singleB at h
      repeat' split at h
      all_goals first | (cases h; rfl) | cases h
    split at h
    · unfold openB at h
      repeat' split at h
      all_goals first | (cases h; rfl) | cases h
    split at h
    · repeat' split at h
      all_goals first | (cases h; rfl) | cases h
    split at h
    · unfold turnB at h
      repeat' split at h
      all_goals first | (cases h; rfl) | cases h | exact closeB_code h
    · cases h
def spEn (a : Nat → Addr) : Sp := fun vs H Q _ => ∃ (r p : Addr) (b : Bd) (F : BF) (ws : List Str), vs = [.ref r, .ref p] ∧ BodyAt a H r b F ∧ H p = some (.lst (ws.map V.str)) ∧ p ∉ F.own r ∧ WsOk ws ∧ b.Ok ∧
  b.code.length ≤ 5000 ∧ b.scope.length ≤ 5000 ∧ b.blocks.length ≤ 5000 ∧
  (entryB b ws = none → ∀ H', (∀ x o, H x = some o → x ∉ F.own r → H' x = some o) → Q .non H') ∧
  (∀ w b', entryB b ws = some (w, b') → ∀ (F' : BF) (e : Addr) (vs : List V) (H' : Hp), BodyAt a H' r b' F' → H' e = some (.lst (.str w :: vs)) → (w = "if" → vs.length = 5) → (w = "else" → vs.length = 2) → H e = none → e ∉ F'.own r →
    (∀ x o, H x = some o → x ∉ F.own r → H' x = some o) → (∀ x ∈ F'.own r, x ∈ F.own r ∨ H x = none) → Q (.ref e) H')
theorem ok_BodyReader_entry (T : Ty K mg a fd) (T1 : Tx K mg a fd tk) : FnOk P w K mg base CX0 5 (a 11) (fd 11) ["self", "words"] (spEn a) := by
  refine T.F_BodyReader_entry.ok sc_BodyReader_entry (fun vs H Q E h => ?_) (fun cdv A outer s H vs Q E hr h => ?_)
  · obtain ⟨r, p, b, F, ws, rfl, _⟩ := h
    rfl
  · obtain ⟨r, p, b, F, ws, rfl, B, hp, hpo, W, hok, z1, z2, z3, kN, kS⟩ := h
    refine ⟨_, (pss_one (ps_match (pe_ix uIx (pv 1) pe_int (fun _ _ => rfl)) (pm_or2 (pss_one (ps_ret (pe_meth (pv 0) T.cl_BodyReader T.m_BodyReader_assignment (ok_BodyReader_assignment T T1) (hr.mono (by decide)) (b_BodyReader_assignment T) .nil pass0 (pa_cons (pv 1) pa_nil))))
   (pm_or3 (pss_one (ps_ret (pe_meth (pv 0) T.cl_BodyReader T.m_BodyReader_single (ok_BodyReader_single T T1) (hr.mono (by decide)) (b_BodyReader_single T) .nil pass0 (pa_cons (pv 1) pa_nil))))
   (pm_or3 (pss_one (ps_ret (pe_meth (pv 0) T.cl_BodyReader T.m_BodyReader_opening (ok_BodyReader_opening T T1) (hr.mono (by decide)) (b_BodyReader_opening T) .nil pass0 (pa_cons (pv 1) pa_nil))))
   (pm_one (pss_cons (ps_if (PW.pt (pw_or (pt_cmpR (uNe K hr.units) (pe_fldU K (pv 0)) pe_str (nomark _)) (pw_or1 (pt_cmpR op_gt (pe_callB uLen (by rfl) T1.b_len bt_len (pa_cons (pv 1) pa_nil)) pe_int (nomark _))))) (pss_one (ps_ret pe_non)) pss_nil)
  (pss_one (ps_ret (pe_lst (pa_cons pe_str (pa_cons pe_bl (pa_cons (pe_callTy uTuple (by rfl) T.b_tuple bt_tuple (pa_cons (pe_callB cr_sortedA (by rfl) T.b_sorted bt_sorted (pa_cons (pe_fldU K (pv 0)) pa_nil)) pa_nil)) pa_nil)))))))
   (pm_or2 (pss_one (ps_ret (pe_meth (pv 0) T.cl_BodyReader T.m_BodyReader_turning (ok_BodyReader_turning T T1) (hr.mono (by decide)) (b_BodyReader_turning T) .nil pass0 (pa_cons (pv 1) pa_nil))))
   (pm_any (pss_one (ps_ret pe_non)))))))))), ?_⟩
    have hob := B.ob
    have hsc := B.sc
    match ws, hp, W, kN, kS with
    | [], hp, W, kN, kS => exact absurd rfl W.one
    | w0 :: l, hp, W, kN, kS =>
      have hp' : H p = some (.lst (.str w0 :: l.map V.str)) := hp
      walk_at "rd"
      show mCons _ _ _ w0 _ _ _
      refine s_mCons (fun c1 => ?_) (fun c1 => ?_)
      · have c1' : w0 = "let" ∨ w0 = "set" := by simpa using c1
        have e : entryB b (w0 :: l) = assignB b (w0 :: l) := by simp only [entryB, c1', if_true]
        walk_at "rd"
        exact ⟨r, p, b, F, w0 :: l, rfl, B, hp, hpo, W, ⟨trivial, hok⟩, z1, by omega, z3, fun h => kN (by rw [e]; exact h), fun w b' h => kS w b' (by rw [e]; exact h)⟩
      have c1' : ¬ (w0 = "let" ∨ w0 = "set") := by simpa using c1
      refine s_mCons (fun c2 => ?_) (fun c2 => ?_)
      · have c2' : w0 = "note" ∨ w0 = "tell" ∨ w0 = "give" := by simpa using c2
        have e : entryB b (w0 :: l) = singleB b (w0 :: l) := by simp only [entryB, c1', c2', if_true, if_false]
        walk_at "rd"
        exact ⟨r, p, b, F, w0 :: l, rfl, B, hp, hpo, W, ⟨c2', hok⟩, z1, by omega, z3, fun h => kN (by rw [e]; exact h), fun w b' h => kS w b' (by rw [e]; exact h)⟩
      have c2' : ¬ (w0 = "note" ∨ w0 = "tell" ∨ w0 = "give") := by simpa using c2
      refine s_mCons (fun c3 => ?_) (fun c3 => ?_)
      · have c3' : w0 = "if" ∨ w0 = "quiet" ∨ w0 = "batch" := by simpa using c3
        have e : entryB b (w0 :: l) = openB b (w0 :: l) := by simp only [entryB, c1', c2', c3', if_true, if_false]
        walk_at "rd"
        exact ⟨r, p, b, F, w0 :: l, rfl, B, hp, hpo, W, ⟨c3', hok⟩, z1, by omega, z3, fun h => kN (by rw [e]; exact h), fun w b' h => kS w b' (by rw [e]; exact h)⟩
      have c3' : ¬ (w0 = "if" ∨ w0 = "quiet" ∨ w0 = "batch") := by simpa using c3
      refine s_mCons (fun c4 => ?_) (fun c4 => ?_)
      · have c4' : w0 = "wait" := by simpa using c4
        have e : entryB b (w0 :: l) = if b.kind = "effect" ∧ l = [] then some (("wait" : Str), b) else none := by
          show (if _ then _ else _) = _
          rw [if_neg c1', if_neg c2', if_neg c3', if_pos c4']
        walk_at "rd"
        rw [dec_str]
        refine ifB (fun c5 => ?_) (fun c5 => ?_)
        · refine ifT rfl ?_
          walk_at "rd"
          exact kN (by rw [e]; simp at c5; simp [c5]) _ fun x o h _ => h
        · have c5' : b.kind = "effect" := by simpa using c5
          walk_at "rd"
          match l, hp, hp', W, kN, kS, e with
          | x :: l, hp, hp', W, kN, kS, e =>
            refine ifT (by simp; omega) ?_
            walk_at "rd"
            exact kN (by rw [e]; simp) _ fun x o h _ => h
          | [], hp, hp', W, kN, kS, e =>
            refine ifF (by simp) ?_
            walk_at "rd"
            refine ⟨F.s, b.scope, rfl, SqL.of hsc, fun ys p1 hperm hsrt hp1 => ?_⟩
            walk_at "rd"
            refine s_tupleL upd_same fun z hz => ?_
            walk_at "rd"
            intro e1 he1
            have s1 := ((Same.new hp1).trans (Same.new hz)).trans (Same.new (o := .lst [.str "wait", .bl true, .ref z]) he1)
            have hn : H e1 = none := ((Same.new hp1).trans (Same.new hz)).free he1
            exact kS "wait" b (by rw [e, if_pos ⟨c5', rfl⟩]) F e1 _ _ (B.same s1) upd_same (fun q => absurd q (by decide)) (fun q => absurd q (by decide)) hn (own_none B hn) (frame_same s1) fun x hx => .inl hx
      have c4' : ¬ w0 = "wait" := by simpa using c4
      refine s_mCons (fun c5 => ?_) (fun c5 => ?_)
      · have c5' : w0 = "else" ∨ w0 = "end" := by simpa using c5
        have e : entryB b (w0 :: l) = turnB b (w0 :: l) := by simp only [entryB, c1', c2', c3', c4', c5', if_true, if_false]
        walk_at "rd"
        exact ⟨r, p, b, F, w0 :: l, rfl, B, hp, hpo, W, ⟨c5', hok⟩, z1, by omega, z3, fun h => kN (by rw [e]; exact h), fun w b' h => kS w b' (by rw [e]; exact h)⟩
      have c5' : ¬ (w0 = "else" ∨ w0 = "end") := by simpa using c5
      refine s_mAny ?_
      walk_at "rd"
      exact kN (by simp only [entryB, c1', c2', c3', c4', c5', if_false]) _ fun x o h _ => h
theorem b_BodyReader_entry (T : Ty K mg a fd) : Binds K (fd 11) ["self", "words"] [] := T.F_BodyReader_entry.binds fun _ _ _ _ _ _ us hl => match us, hl with | [_, _], _ => rfl
def takeB (b : Bd) (ws : List Str) : Option Bd := (entryB b ws).map fun x => { x.2 with code := x.2.code ++ [x.1] }
/-- an entry is put behind the others -/
theorem BodyAt.addEn {H : Hp} {r : Addr} {b : Bd} {F : BF} (B : BodyAt a H r b F) {e : Addr} {w0 : Str} {vs : List V} (he : H e = some (.lst (.str w0 :: vs))) (h1 : w0 = "if" → vs.length = 5) (h2 : w0 = "else" → vs.length = 2) (hn : e ∉ F.own r) :
    BodyAt a (upd H F.k (.lst (F.es.map V.ref ++ [.ref e]))) r { b with code := b.code ++ [w0] } { F with es := F.es ++ [e] } := by
  obtain ⟨n1, n2, n3, n4, ne⟩ : F.s ≠ F.k ∧ F.c ≠ F.k ∧ F.d ≠ F.k ∧ F.l ≠ F.k ∧ F.k ∉ F.es := by
    have h := B.nd
    simp only [List.nodup_cons, List.mem_cons, not_or] at h
    exact ⟨h.1.2.2.1, h.2.1.2.1, h.2.2.1.1, Ne.symm h.2.2.2.1.1, h.2.2.2.1.2⟩
  have hm := hn
  simp only [BF.own, List.mem_cons, List.mem_append, not_or] at hm
  obtain ⟨m1, m2, m3, m4, m5, m6, m7, m8⟩ := hm
  refine ⟨?_, ?_, ?_, ?_, ?_, ?_, fun i x h => ?_, ?_, fun i x h => ?_, B.bn, ?_⟩
  · rw [upd_ne (ne_of B.ob B.co (by intro e; cases e))]; exact B.ob
  · rw [upd_ne n1]; exact B.sc
  · rw [upd_ne n2]; exact B.ce
  · rw [upd_ne n3]; exact B.re
  · rw [upd_same, List.map_append]; rfl
  · rw [upd_ne n4]; exact B.bl
  · have h' : (F.es ++ [e])[i]? = some x := h
    by_cases hi : i < F.es.length
    · rw [List.getElem?_append_left hi] at h'
      obtain ⟨w', us, g1, g2, g3⟩ := B.en i x h'
      refine ⟨w', us, ?_, by rw [upd_ne (fun q => ne (by rw [← q]; exact List.mem_of_getElem? h'))]; exact g2, g3⟩
      show (b.code ++ [w0])[i]? = some w'
      rw [List.getElem?_append_left (by rw [← B.el]; exact hi)]
      exact g1
    · have hl : i = F.es.length := by
        have := (List.getElem?_eq_some_iff.mp h').1
        simp at this
        omega
      subst hl
      simp at h'
      subst h'
      refine ⟨w0, vs, ?_, by rw [upd_ne m5]; exact he, h1, h2⟩
      show (b.code ++ [w0])[F.es.length]? = some w0
      rw [B.el]
      simp
  · show (F.es ++ [e]).length = (b.code ++ [w0]).length
    rw [List.length_append, List.length_append, B.el]
    rfl
  · obtain ⟨w', st', ou', dx', h1, h2⟩ := B.bk i x h
    exact ⟨w', st', ou', dx', h1, by rw [upd_ne (ne_of h2 B.co (by intro e; cases e))]; exact h2⟩
  · show (F.s :: F.c :: F.d :: F.k :: F.l :: (F.es ++ [e])).Nodup
    have := B.nd
    have e1 : (F.s :: F.c :: F.d :: F.k :: F.l :: (F.es ++ [e])) = (F.s :: F.c :: F.d :: F.k :: F.l :: F.es) ++ [e] := rfl
    rw [e1, List.nodup_append]
    refine ⟨this, by simp, fun x hx y hy => ?_⟩
    rw [List.mem_singleton] at hy
    subst hy
    rintro rfl
    simp only [List.mem_cons] at hx
    rcases hx with h | h | h | h | h | h
    · exact m2 h
    · exact m3 h
    · exact m4 h
    · exact m5 h
    · exact m6 h
    · exact m7 h
def spTake (a : Nat → Addr) : Sp := fun vs H Q _ => ∃ (r p : Addr) (b : Bd) (F : BF) (ws : List Str), vs = [.ref r, .ref p] ∧ BodyAt a H r b F ∧ H p = some (.lst (ws.map V.str)) ∧ p ∉ F.own r ∧ WsOk ws ∧ b.Ok ∧
  b.code.length < 5000 ∧ b.scope.length ≤ 5000 ∧ b.blocks.length ≤ 5000 ∧
  (takeB b ws = none → ∀ H', (∀ x o, H x = some o → x ∉ F.own r → H' x = some o) → Q (.bl false) H') ∧
  (∀ b', takeB b ws = some b' → ∀ (F' : BF) (H' : Hp), BodyAt a H' r b' F' → (∀ x o, H x = some o → x ∉ F.own r → H' x = some o) → (∀ x ∈ F'.own r, x ∈ F.own r ∨ H x = none) → Q (.bl true) H')
theorem ok_BodyReader_take (T : Ty K mg a fd) (T1 : Tx K mg a fd tk) : FnOk P w K mg base CX0 6 (a 10) (fd 10) ["self", "words"] (spTake a) := by
  refine T.F_BodyReader_take.ok sc_BodyReader_take (fun vs H Q E h => ?_) (fun cdv A outer s H vs Q E hr h => ?_)
  · obtain ⟨r, p, b, F, ws, rfl, _⟩ := h
    rfl
  · obtain ⟨r, p, b, F, ws, rfl, B, hp, hpo, W, hok, z1, z2, z3, kN, kS⟩ := h
    refine ⟨_, (pss_cons (ps_asg (pe_meth (pv 0) T.cl_BodyReader T.m_BodyReader_entry (ok_BodyReader_entry T T1) (hr.mono (by decide)) (b_BodyReader_entry T) .nil pass0 (pa_cons (pv 1) pa_nil)) (pg_name (i := 2) sc_BodyReader_take.nd rfl (by first | exact Or.inl rfl | exact Or.inr rfl)))
  (pss_cons (ps_if (pt_cmpR op_isN1 (pv 2) pe_non (nomark _)) (pss_one (ps_ret pe_bl)) pss_nil)
  (pss_cons (ps_expr (pe_bm PySem.F.plainAttrs_list PySem.F.slot_list_append PySem.F.type_list_append uAppend (pe_fldU K (pv 0)) (pa_cons (pv 2) pa_nil)))
  (pss_one (ps_ret pe_bl))))), ?_⟩
    have hob := B.ob
    walk_at "rd"
    refine ⟨r, p, b, F, ws, rfl, B, hp, hpo, W, hok, by omega, z2, z3, fun h H' f => ?_, fun w0 b' h F' e vs H' B' he i1 i2 hn hno f fo => ?_⟩
    · walk_at "rd"
      refine ifT rfl ?_
      walk_at "rd"
      exact kN (by simp [takeB, h]) H' f
    · walk_at "rd"
      refine ifF rfl ?_
      have hob' := B'.ob
      have hco' := B'.co
      walk_at "rd"
      have hcl : b'.code = b.code := entryB_code h
      refine s_app hco' (sz_lt (by rw [List.length_map, B'.el, hcl]; omega)) ?_
      walk_at "rd"
      refine kS _ (by simp [takeB, h]) { F' with es := F'.es ++ [e] } _ (B'.addEn he i1 i2 hno) ?_ ?_
      · intro x o hx hxn
        have : x ≠ F'.k := by
          rintro rfl
          rcases fo _ (own_k (F := F') (r := r)) with h | h
          · exact hxn h
          · rw [h] at hx; cases hx
        rw [upd_ne this]
        exact f _ _ hx hxn
      · refine own_all (fo _ own_r) (fo _ own_s) (fo _ own_c) (fo _ own_d) (fo _ own_k) (fo _ own_l) (fun y hy => ?_) fun y hy => fo _ (own_bs hy)
        rcases List.mem_append.mp hy with h | h
        · exact fo _ (own_es h)
        · rw [List.mem_singleton] at h
          exact .inr (by rw [h]; exact hn)
theorem b_BodyReader_take (T : Ty K mg a fd) : Binds K (fd 10) ["self", "words"] [] := T.F_BodyReader_take.binds fun _ _ _ _ _ _ us hl => match us, hl with | [_, _], _ => rfl
end
end Tr
set_option maxHeartbeats 1000000

namespace Tr
open PySem L2
abbrev s_BookReader___init__ : Stmt := (inClass (top 21) 0)
abbrev N_BookReader___init__ : List Str := ["self"]
theorem sc_BookReader___init__ : FnScope ["self"] ["self"] (defScope s_BookReader___init__) := ⟨rfl, rfl, rfl, by decide +kernel, rfl, by decide +kernel, by decide +kernel⟩
abbrev s_BookReader_is_complete : Stmt := (inClass (top 21) 1)
abbrev N_BookReader_is_complete : List Str := ["self"]
theorem sc_BookReader_is_complete : FnScope ["self"] ["self"] (defScope s_BookReader_is_complete) := ⟨rfl, rfl, rfl, by decide +kernel, rfl, by decide +kernel, by decide +kernel⟩
abbrev s_BookReader_all_names : Stmt := (inClass (top 21) 2)
abbrev N_BookReader_all_names : List Str := ["self", "used", "name", "value", "kind", "parameters"]
theorem sc_BookReader_all_names : FnScope ["self", "used", "name", "value", "kind", "parameters"] ["self"] (defScope s_BookReader_all_names) := ⟨rfl, rfl, rfl, by decide +kernel, rfl, by decide +kernel, by decide +kernel⟩
abbrev s_BookReader_sources_above : Stmt := (inClass (top 21) 3)
abbrev N_BookReader_sources_above : List Str := ["self", "name", "value", "kind"]
theorem sc_BookReader_sources_above : FnScope ["self", "name", "value", "kind"] ["self"] (defScope s_BookReader_sources_above) := ⟨rfl, rfl, rfl, by decide +kernel, rfl, by decide +kernel, by decide +kernel⟩
abbrev s_BookReader_take : Stmt := (inClass (top 21) 4)
abbrev N_BookReader_take : List Str := ["self", "line", "words", "fits", "word"]
theorem sc_BookReader_take : FnScope ["self", "line", "words", "fits", "word"] ["self", "line"] (defScope s_BookReader_take) := ⟨rfl, rfl, rfl, by decide +kernel, rfl, by decide +kernel, by decide +kernel⟩
abbrev s_BookReader_shut : Stmt := (inClass (top 21) 5)
abbrev N_BookReader_shut : List Str := ["self", "first"]
theorem sc_BookReader_shut : FnScope ["self", "first"] ["self"] (defScope s_BookReader_shut) := ⟨rfl, rfl, rfl, by decide +kernel, rfl, by decide +kernel, by decide +kernel⟩
abbrev s_BookReader_declaration : Stmt := (inClass (top 21) 6)
abbrev N_BookReader_declaration : List Str := ["self", "words", "word"]
theorem sc_BookReader_declaration : FnScope ["self", "words", "word"] ["self", "words"] (defScope s_BookReader_declaration) := ⟨rfl, rfl, rfl, by decide +kernel, rfl, by decide +kernel, by decide +kernel⟩
abbrev s_BookReader_cell : Stmt := (inClass (top 21) 7)
abbrev N_BookReader_cell : List Str := ["self", "words"]
theorem sc_BookReader_cell : FnScope ["self", "words"] ["self", "words"] (defScope s_BookReader_cell) := ⟨rfl, rfl, rfl, by decide +kernel, rfl, by decide +kernel, by decide +kernel⟩
abbrev s_BookReader_handler : Stmt := (inClass (top 21) 8)
abbrev N_BookReader_handler : List Str := ["self", "words", "parameters", "at", "parameter"]
theorem sc_BookReader_handler : FnScope ["self", "words", "parameters", "at", "parameter"] ["self", "words"] (defScope s_BookReader_handler) := ⟨rfl, rfl, rfl, by decide +kernel, rfl, by decide +kernel, by decide +kernel⟩
abbrev s_BookReader_begin : Stmt := (inClass (top 21) 9)
abbrev N_BookReader_begin : List Str := ["self", "name", "kind", "parameters", "value"]
theorem sc_BookReader_begin : FnScope ["self", "name", "kind", "parameters", "value"] ["self", "name", "kind", "parameters"] (defScope s_BookReader_begin) := ⟨rfl, rfl, rfl, by decide +kernel, rfl, by decide +kernel, by decide +kernel⟩

/-- what the top has made of the class of readers -/
structure Tb (K : PySem.W.Frag) (mg : Str → Option Value) (a : Nat → Addr) (fd : Nat → FuncData) (tk : Nat → Tok) : Prop where
  x : Tx K mg a fd tk
  y : Ty K mg a fd
  g_BookReader : mg "BookReader" = some (.ref (a 19))
  cl_BookReader : Cls K (a 19)
  f_BookReader : ∀ f, f ∈ (["cells", "answers", "effects", "handlers", "written", "code", "places", "count", "deepest", "name", "open_body"] : List Str) → NoAttr K (a 19) f
  mk_BookReader : Mk K (a 19) (a 20)
  F_BookReader___init__ : Fun K "__init__" "BookReader.__init__" s_BookReader___init__ (a 20) (fd 20)
  m_BookReader_is_complete : Meth K (a 19) "is_complete" (a 21)
  F_BookReader_is_complete : Fun K "is_complete" "BookReader.is_complete" s_BookReader_is_complete (a 21) (fd 21)
  m_BookReader_all_names : Meth K (a 19) "all_names" (a 22)
  F_BookReader_all_names : Fun K "all_names" "BookReader.all_names" s_BookReader_all_names (a 22) (fd 22)
  m_BookReader_sources_above : Meth K (a 19) "sources_above" (a 23)
  F_BookReader_sources_above : Fun K "sources_above" "BookReader.sources_above" s_BookReader_sources_above (a 23) (fd 23)
  m_BookReader_take : Meth K (a 19) "take" (a 24)
  F_BookReader_take : Fun K "take" "BookReader.take" s_BookReader_take (a 24) (fd 24)
  m_BookReader_shut : Meth K (a 19) "shut" (a 25)
  F_BookReader_shut : Fun K "shut" "BookReader.shut" s_BookReader_shut (a 25) (fd 25)
  m_BookReader_declaration : Meth K (a 19) "declaration" (a 26)
  F_BookReader_declaration : Fun K "declaration" "BookReader.declaration" s_BookReader_declaration (a 26) (fd 26)
  m_BookReader_cell : Meth K (a 19) "cell" (a 27)
  F_BookReader_cell : Fun K "cell" "BookReader.cell" s_BookReader_cell (a 27) (fd 27)
  m_BookReader_handler : Meth K (a 19) "handler" (a 28)
  F_BookReader_handler : Fun K "handler" "BookReader.handler" s_BookReader_handler (a 28) (fd 28)
  m_BookReader_begin : Meth K (a 19) "begin" (a 29)
  F_BookReader_begin : Fun K "begin" "BookReader.begin" s_BookReader_begin (a 29) (fd 29)
theorem Tb.bkr {K : PySem.W.Frag} {mg : Str → Option Value} {a : Nat → Addr} {fd : Nat → FuncData} {tk : Nat → Tok} (T : Tb K mg a fd tk) {f : Str} (h : f ∈ (["cells", "answers", "effects", "handlers", "written", "code", "places", "count", "deepest", "name", "open_body"] : List Str)) : FldOk K (a 19) f := ⟨T.cl_BookReader, T.f_BookReader f h⟩
section
variable {P : Program} {w : World} {K : PySem.W.Frag} {mg : Str → Option Value} {base : Heap} {a : Nat → Addr} {fd : Nat → FuncData} {tk : Nat → Tok}
local macro_rules | `(tactic| walk_at "ne") => `(tactic| first | assumption | (exact Ne.symm (by assumption)) | (refine ne_of_none (by assumption) (by assumption)) | (refine Ne.symm (ne_of_none (by assumption) (by assumption))))
local macro_rules | `(tactic| walk_at "hl") => `(tactic| first | assumption | with_reducible exact upd_same | ((with_reducible refine' Eq.trans (upd_ne ?hne) ?hrest); (case hne => walk_at "ne"); (case hrest => walk_at "hl")) | (refine' get_same ?hs ?hg; (case hs => assumption); (case hg => assumption)))
local macro_rules | `(tactic| walk_at "at") => `(tactic| first | with_reducible exact atI_0 _ _ | with_reducible exact atI_1 _ _ _ | with_reducible exact atI_2 _ _ _ _ | with_reducible exact atI_3 _ _ _ _ _ | assumption)
local macro_rules | `(tactic| walk_at "rd1") => `(tactic| first
  | with_reducible refine s_seq ?_ | with_reducible refine s_next ?_ | with_reducible refine s_if ?_ | with_reducible refine s_ret ?_ | with_reducible refine s_retN ?_ | with_reducible refine s_drop ?_ | with_reducible refine s_asg ?_ | with_reducible refine s_brk ?_ | with_reducible refine s_cont ?_
  | with_reducible refine s_gname ?_ | with_reducible refine s_c ?_ | with_reducible refine s_op ?_ | with_reducible refine s_un ?_ | with_reducible refine s_neg ?_ | with_reducible refine s_test ?_ | with_reducible refine s_tb ?_ | with_reducible refine s_not ?_ | with_reducible refine s_and ?_ | with_reducible refine s_or ?_ | with_reducible refine s_yes ?_
  | ((with_reducible refine' s_var ?hv ?_); (case hv => exact rfl))
  | with_reducible refine s_ifx ?_ | with_reducible refine s_andV ?_ | with_reducible refine s_orV ?_ | with_reducible refine s_notV ?_ | with_reducible refine s_chain ?_ | with_reducible refine s_nil ?_ | with_reducible refine s_cons ?_ | with_reducible refine s_lst ?_ | with_reducible refine s_tup ?_ | with_reducible refine s_cb ?_ | with_reducible refine s_call ?_ | with_reducible refine s_meth ?_ | with_reducible refine s_make ?_
  | with_reducible refine s_dnewK ?_ | with_reducible refine s_sl ?_ | with_reducible refine s_po0 ?_ | with_reducible refine s_po1 ?_ | with_reducible refine s_bm ?_ | with_reducible refine s_bm0 ?_
  | with_reducible refine s_bl ?_ | with_reducible refine s_int ?_ | with_reducible refine s_I0 ?_ | with_reducible refine s_addI ?_ | with_reducible refine s_intI ?_ | with_reducible refine s_intB ?_
  | with_reducible refine s_m1 ?_ | with_reducible refine s_lc ?_ | with_reducible refine s_ilist ?_ | with_reducible refine s_for ?_ | with_reducible refine s_irng ?_ | with_reducible refine s_match ?_ | with_reducible refine s_starT ?_ | with_reducible refine s_isS ?_ | with_reducible refine s_isiSS ?_ | with_reducible refine s_fldU ?_ | with_reducible refine s_sfldU ?_
  | ((with_reducible refine' s_eqS ?hq ?_); (case hq => exact rfl)) | ((with_reducible refine' s_neS ?hq ?_); (case hq => exact rfl))
  | ((with_reducible refine' s_isN ?hq ?_); (case hq => exact rfl)) | ((with_reducible refine' s_notN ?hq ?_); (case hq => exact rfl))
  | ((with_reducible refine' s_eqNil ?h1 ?h2 ?_); (case h1 => walk_at "hl"); (case h2 => walk_at "hl")) | ((with_reducible refine' s_neNil ?h1 ?h2 ?_); (case h1 => walk_at "hl"); (case h2 => walk_at "hl"))
  | ((with_reducible refine' s_ixL ?h1 ?h2 ?_); (case h1 => walk_at "hl"); (case h2 => walk_at "at")) | ((with_reducible refine' s_ixT ?h1 ?h2 ?_); (case h1 => walk_at "hl"); (case h2 => walk_at "at"))
  | ((with_reducible refine' s_inS ?h1 ?_); (case h1 => walk_at "hl")) | ((with_reducible refine' s_ninS ?h1 ?_); (case h1 => walk_at "hl")) | with_reducible refine s_inW ?_
  | ((with_reducible refine' s_lenL ?h1 ?_); (case h1 => walk_at "hl")) | ((with_reducible refine' s_lenT ?h1 ?_); (case h1 => walk_at "hl"))
  | ((with_reducible refine' s_tyL ?h1 ?_); (case h1 => walk_at "hl"))
  | ((with_reducible refine' s_fldM ?h1 ?h2 ?h3 ?_); (case h1 => walk_at "hl"); (case h2 => walk_at "fok"); (case h3 => walk_at "flk"))
  | ((with_reducible refine' s_setM ?h1 ?h2 ?h3 ?h4 ?_); (case h1 => walk_at "hl"); (case h2 => walk_at "fok"); (case h4 => walk_at "put"); (case h3 => exact Nat.le_of_ble_eq_true rfl))
  | ((with_reducible refine' s_starM ?h1 ?_); (case h1 => walk_at "hl"))
  | ((with_reducible refine' s_recv ?h1 ?h2 ?_); (case h1 => walk_at "hl"); (case h2 => exact rfl))
  | ((with_reducible refine' s_sz ?h1 ?_); (case h1 => (simp; done))))
local macro_rules | `(tactic| walk_at "rd") => `(tactic| repeat (walk_at "rd1"))
local macro_rules | `(tactic| walk_at "fok") => `(tactic| assumption)
local macro_rules | `(tactic| walk_at "flk") => `(tactic| rfl)
local macro_rules | `(tactic| walk_at "put") => `(tactic| exact rfl)

local macro_rules | `(tactic| walk_at "fok") => `(tactic| first | exact Ty.bdy (by assumption) (by decide) | exact Tb.bkr (by assumption) (by decide) | exact Ty.bdy (Tb.y (by assumption)) (by decide))
def spFinished (a : Nat → Addr) : Sp := fun vs H Q _ => ∃ (r : Addr) (b : Bd) (F : BF), vs = [.ref r] ∧ BodyAt a H r b F ∧ b.code.length ≤ 5000 ∧ ∀ (t : Addr) (xs : List V) (H' : Hp), Same H H' → H t = none → H' t = some (.tup xs) → Q (.ref t) H'
theorem cutV_mem {xs : List V} {lo hi : Option Int} {v : V} (h : v ∈ cutV xs lo hi) : v ∈ xs := List.mem_of_mem_drop (List.mem_of_mem_take h)
theorem ok_BodyReader_finished (T : Tb K mg a fd tk) : FnOk P w K mg base CX0 1 (a 18) (fd 18) ["self"] (spFinished a) := by
  refine T.y.F_BodyReader_finished.ok sc_BodyReader_finished (fun vs H Q E h => ?_) (fun cdv A outer s H vs Q E hr h => ?_)
  · obtain ⟨r, b, F, rfl, _⟩ := h
    rfl
  · obtain ⟨r, b, F, rfl, B, hz, k⟩ := h
    refine ⟨_, (pss_one (ps_ret (pe_callTy uTuple (by rfl) T.y.b_tuple bt_tuple (pa_cons (pe_lc (own := [("entry", 1)]) rfl sc_BodyReader_finished.nd (pi_list (pe_slice uSl (pe_fldU K (pv 0)) po_none (po_some (pe_un un_neg pe_int)))) (blkOk_by (N := N_BodyReader_finished) (sc := defScope s_BodyReader_finished) (by decide +kernel)) (fun _ _ _ _ _ => (pg_name (i := 1) sc_BodyReader_finished.nd rfl (by first | exact Or.inl rfl | exact Or.inr rfl))) (fun _ _ _ _ _ => pts_nil) (fun _ _ _ _ _ => (pe_callTy uTuple (by rfl) T.y.b_tuple bt_tuple (pa_cons (pv 1) pa_nil)))) pa_nil)))), ?_⟩
    have hob := B.ob
    have hco := B.co
    walk_at "rd"
    refine s_slL hco fun p1 hp1 => ?_
    have s1 : Same H (upd H p1 (.lst (cutV (F.es.map V.ref) none (some (-1))))) := Same.new hp1
    have hl := cutV_length (F.es.map V.ref) none (some (-1))
    rw [List.length_map, B.el] at hl
    refine s_lcE (cutV (F.es.map V.ref) none (some (-1))) (fun _ _ _ => True) (fun _ _ _ _ _ _ => trivial) upd_same rfl (by omega) (fun i x x' H2 R hx hx' s2 kk => ?_) (fun D us H' s' hD hD' _ _ => ?_)
    · rw [hx] at hx'
      cases hx'
      have hm := cutV_mem (List.mem_of_getElem? hx)
      rw [List.mem_map] at hm
      obtain ⟨e, he, rfl⟩ := hm
      obtain ⟨i', hi, hi2⟩ := List.mem_iff_getElem.mp he
      obtain ⟨w', vs', _, g2, _⟩ := B.en i' e (by rw [List.getElem?_eq_getElem hi, hi2])
      have g2' := s2 _ _ (s1 _ _ g2)
      refine ⟨by rfl, ?_⟩
      walk_at "rd"
      refine s_tupleL g2' fun z hz => ?_
      exact kk _ _ (Same.new hz) trivial
    · walk_at "rd"
      refine s_tupleL hD' fun z hz => ?_
      exact k z us _ ((s1.trans s').trans (Same.new hz)) ((s1.trans s').free hz) upd_same
theorem b_BodyReader_finished (T : Tb K mg a fd tk) : Binds K (fd 18) ["self"] [] := T.y.F_BodyReader_finished.binds fun _ _ _ _ _ _ us hl => match us, hl with | [_], _ => rfl
/-- where its parts stand -/
structure RF where
  dx : Addr
  c : Addr
  an : Addr
  ef : Addr
  ha : Addr
  wr : Addr
  co : Addr
  pl : Addr
  cs : List Addr
  as : List Addr
  hs : List Addr
  ck : List (Key × V)
  pk : List (Key × V)
  bd : Option (Addr × BF)
/-- a book as it is read so far -/
structure Bk where
  cells : List (Str × Int)
  answers : List (Str × Str)
  effects : List Str
  handlers : List (Str × List Str)
  written : List Int
  places : List (Str × Nat × Nat)
  coded : List Str
  count : Nat
  deepest : Nat
  name : Str
  body : Option Bd
def obV : Option (Addr × BF) → V
  | none => .non
  | some (x, _) => .ref x
def bkF (R : RF) (count deepest : Nat) (name : Str) : List (Str × V) :=
  [("cells", .ref R.c), ("answers", .ref R.an), ("effects", .ref R.ef), ("handlers", .ref R.ha), ("written", .ref R.wr), ("code", .ref R.co), ("places", .ref R.pl), ("count", .int count), ("deepest", .int deepest), ("name", .str name), ("open_body", obV R.bd)]
def RF.ad (R : RF) (r : Addr) : List Addr := [r, R.c, R.an, R.ef, R.ha, R.wr, R.co, R.pl]
def cont (a : Nat → Addr) (k : Bk) (R : RF) : List HO := [.ins (a 19) R.dx (bkF R k.count k.deepest k.name), .lst (R.cs.map V.ref), .lst (R.as.map V.ref), .lst (k.effects.map V.str), .lst (R.hs.map V.ref), .lst (k.written.map V.int), .dK R.ck, .dK R.pk]
def HandAt (H : Hp) (xs : List Addr) (hs : List (Str × List Str)) : Prop := xs.length = hs.length ∧ ∀ (i : Nat) (x : Addr) (n : Str) (ps : List Str), xs[i]? = some x → hs[i]? = some (n, ps) → ∃ pt, H x = some (.tup [.str n, .ref pt]) ∧ H pt = some (.tup (ps.map V.str))
theorem HandAt.keep {H H' : Hp} {xs : List Addr} {hs : List (Str × List Str)} (h : HandAt H xs hs) (k : KeepT H H') : HandAt H' xs hs := ⟨h.1, fun i x n ps h1 h2 => by
  obtain ⟨pt, g1, g2⟩ := h.2 i x n ps h1 h2
  exact ⟨pt, k _ _ g1, k _ _ g2⟩⟩
def PlAt (H : Hp) (kvs : List (Key × V)) (ps : List (Str × Nat × Nat)) : Prop := kvs.length = ps.length ∧ ∀ (i : Nat) (kv : Key × V) (p : Str × Nat × Nat), kvs[i]? = some kv → ps[i]? = some p → kv.1 = .inr p.1 ∧ ∃ t, kv.2 = .ref t ∧ H t = some (.tup [.int p.2.1, .int p.2.2])
theorem PlAt.keep {H H' : Hp} {kvs : List (Key × V)} {ps : List (Str × Nat × Nat)} (h : PlAt H kvs ps) (k : KeepT H H') : PlAt H' kvs ps := ⟨h.1, fun i kv p h1 h2 => by
  obtain ⟨g0, t, g1, g2⟩ := h.2 i kv p h1 h2
  exact ⟨g0, t, g1, k _ _ g2⟩⟩
def BdAt (a : Nat → Addr) (H : Hp) (ad : List Addr) : Option (Addr × BF) → Option Bd → Prop
  | none, none => True
  | some (x, F), some b => BodyAt a H x b F ∧ ∀ y ∈ F.own x, y ∉ ad
  | _, _ => False
theorem BodyAt.keep {H H' : Hp} {r : Addr} {b : Bd} {F : BF} (B : BodyAt a H r b F) (f : ∀ x o, H x = some o → x ∈ F.own r → H' x = some o) : BodyAt a H' r b F where
  ob := f _ _ B.ob own_r
  sc := f _ _ B.sc own_s
  ce := f _ _ B.ce own_c
  re := f _ _ B.re own_d
  co := f _ _ B.co own_k
  bl := f _ _ B.bl own_l
  en := fun i e h => by
    obtain ⟨w, vs, h1, h2, h3⟩ := B.en i e h
    exact ⟨w, vs, h1, f _ _ h2 (own_es (List.mem_of_getElem? h)), h3⟩
  el := B.el
  bk := fun i e h => by
    obtain ⟨w, st, ou, dx, h1, h2⟩ := B.bk i e h
    exact ⟨w, st, ou, dx, h1, f _ _ h2 (own_bs (List.mem_of_getElem? h))⟩
  bn := B.bn
  nd := B.nd
theorem BdAt.keep {H H' : Hp} {ad : List Addr} {o : Option (Addr × BF)} {b : Option Bd} (h : BdAt a H ad o b) (f : ∀ x u, H x = some u → x ∉ ad → H' x = some u) : BdAt a H' ad o b := by
  match o, b, h with
  | none, none, _ => exact trivial
  | some (x, F), some b, h => exact ⟨h.1.keep fun y u hy hm => f y u hy (h.2 y hm), h.2⟩
structure BkAt (a : Nat → Addr) (H : Hp) (r : Addr) (k : Bk) (R : RF) : Prop where
  all : HasAll H (R.ad r) (cont a k R)
  nd : (R.ad r).Nodup
  ct : TupsAt H R.cs (k.cells.map fun x => [.str x.1, .int x.2])
  at_ : TupsAt H R.as (k.answers.map fun x => [.str x.1, .str x.2])
  ht : HandAt H R.hs k.handlers
  ckl : R.ck.map (·.1) = k.coded.map Sum.inr
  plk : PlAt H R.pk k.places
  bd : BdAt a H (R.ad r) R.bd k.body
section
variable {H : Hp} {r : Addr} {k : Bk} {R : RF}
theorem BkAt.ob (B : BkAt a H r k R) : H r = some (.ins (a 19) R.dx (bkF R k.count k.deepest k.name)) := B.all.at 0 rfl rfl
theorem BkAt.ce (B : BkAt a H r k R) : H R.c = some (.lst (R.cs.map V.ref)) := B.all.at 1 rfl rfl
theorem BkAt.aw (B : BkAt a H r k R) : H R.an = some (.lst (R.as.map V.ref)) := B.all.at 2 rfl rfl
theorem BkAt.ef (B : BkAt a H r k R) : H R.ef = some (.lst (k.effects.map V.str)) := B.all.at 3 rfl rfl
theorem BkAt.ha (B : BkAt a H r k R) : H R.ha = some (.lst (R.hs.map V.ref)) := B.all.at 4 rfl rfl
theorem BkAt.wr (B : BkAt a H r k R) : H R.wr = some (.lst (k.written.map V.int)) := B.all.at 5 rfl rfl
theorem BkAt.co (B : BkAt a H r k R) : H R.co = some (.dK R.ck) := B.all.at 6 rfl rfl
theorem BkAt.pl (B : BkAt a H r k R) : H R.pl = some (.dK R.pk) := B.all.at 7 rfl rfl
theorem BkAt.same (B : BkAt a H r k R) {H' : Hp} (s : Same H H') : BkAt a H' r k R where
  all := B.all.keep fun x o h _ => s _ _ h
  nd := B.nd
  ct := B.ct.keep (.same s)
  at_ := B.at_.keep (.same s)
  ht := B.ht.keep (.same s)
  ckl := B.ckl
  plk := B.plk.keep (.same s)
  bd := B.bd.keep fun x u h _ => s _ _ h
theorem cont_notTup {j : Nat} {o : HO} (h : (cont a k R)[j]? = some o) : ∀ vs, o ≠ .tup vs := by
  match j, h with
  | 0, h | 1, h | 2, h | 3, h | 4, h | 5, h | 6, h | 7, h => cases h; intro vs e; cases e
  | j + 8, h => simp [cont] at h
/-- tuples stay when a part is written -/
theorem BkAt.kt (B : BkAt a H r k R) {j : Nat} {y : Addr} {o : HO} (hj : (R.ad r)[j]? = some y) : KeepT H (upd H y o) := by
  obtain ⟨hi, hi2⟩ := List.getElem?_eq_some_iff.mp hj
  have hc : (cont a k R)[j]? = some ((cont a k R)[j]'(by rw [← B.all.1]; exact hi)) := List.getElem?_eq_getElem _
  exact KeepT.upd (B.all.at j hj hc) (cont_notTup hc)
/-- one part is written -/
theorem BkAt.put (B : BkAt a H r k R) {j : Nat} {y : Addr} {o : HO} (hj : (R.ad r)[j]? = some y) (k' : Bk) (R' : RF) (e1 : R'.ad r = R.ad r) (e2 : cont a k' R' = (cont a k R).set j o)
    (e3 : TupsAt (upd H y o) R'.cs (k'.cells.map fun x => [.str x.1, .int x.2])) (e4 : TupsAt (upd H y o) R'.as (k'.answers.map fun x => [.str x.1, .str x.2])) (e5 : HandAt (upd H y o) R'.hs k'.handlers)
    (e6 : R'.ck.map (·.1) = k'.coded.map Sum.inr) (e7 : PlAt (upd H y o) R'.pk k'.places)
    (e8 : R'.bd = R.bd ∧ k'.body = k.body) : BkAt a (upd H y o) r k' R' where
  all := by rw [e1, e2]; exact B.all.put B.nd hj
  nd := by rw [e1]; exact B.nd
  ct := e3
  at_ := e4
  ht := e5
  ckl := e6
  plk := e7
  bd := by
    rw [e1, e8.1, e8.2]
    exact B.bd.keep fun x u h hn => by rw [upd_ne (by rintro rfl; exact hn (List.mem_of_getElem? hj))]; exact h
end
end
end Tr
set_option maxHeartbeats 1000000

namespace Tr
open PySem L2
section
variable {P : Program} {w : World} {K : PySem.W.Frag} {mg : Str → Option Value} {base : Heap} {a : Nat → Addr} {fd : Nat → FuncData} {tk : Nat → Tok}
local macro_rules | `(tactic| walk_at "ne") => `(tactic| first | assumption | (exact Ne.symm (by assumption)) | (refine ne_of_none (by assumption) (by assumption)) | (refine Ne.symm (ne_of_none (by assumption) (by assumption))))
local macro_rules | `(tactic| walk_at "hl") => `(tactic| first | assumption | with_reducible exact upd_same | ((with_reducible refine' Eq.trans (upd_ne ?hne) ?hrest); (case hne => walk_at "ne"); (case hrest => walk_at "hl")) | (refine' get_same ?hs ?hg; (case hs => assumption); (case hg => assumption)))
local macro_rules | `(tactic| walk_at "at") => `(tactic| first | with_reducible exact atI_0 _ _ | with_reducible exact atI_1 _ _ _ | with_reducible exact atI_2 _ _ _ _ | with_reducible exact atI_3 _ _ _ _ _ | assumption)
local macro_rules | `(tactic| walk_at "rd1") => `(tactic| first
  | with_reducible refine s_seq ?_ | with_reducible refine s_next ?_ | with_reducible refine s_if ?_ | with_reducible refine s_ret ?_ | with_reducible refine s_retN ?_ | with_reducible refine s_drop ?_ | with_reducible refine s_asg ?_ | with_reducible refine s_brk ?_ | with_reducible refine s_cont ?_
  | with_reducible refine s_gname ?_ | with_reducible refine s_c ?_ | with_reducible refine s_op ?_ | with_reducible refine s_un ?_ | with_reducible refine s_neg ?_ | with_reducible refine s_test ?_ | with_reducible refine s_tb ?_ | with_reducible refine s_not ?_ | with_reducible refine s_and ?_ | with_reducible refine s_or ?_ | with_reducible refine s_yes ?_
  | ((with_reducible refine' s_var ?hv ?_); (case hv => exact rfl))
  | with_reducible refine s_ifx ?_ | with_reducible refine s_andV ?_ | with_reducible refine s_orV ?_ | with_reducible refine s_notV ?_ | with_reducible refine s_chain ?_ | with_reducible refine s_nil ?_ | with_reducible refine s_cons ?_ | with_reducible refine s_lst ?_ | with_reducible refine s_tup ?_ | with_reducible refine s_cb ?_ | with_reducible refine s_call ?_ | with_reducible refine s_meth ?_ | with_reducible refine s_make ?_
  | with_reducible refine s_dnewK ?_ | with_reducible refine s_sl ?_ | with_reducible refine s_po0 ?_ | with_reducible refine s_po1 ?_ | with_reducible refine s_bm ?_ | with_reducible refine s_bm0 ?_
  | with_reducible refine s_bl ?_ | with_reducible refine s_int ?_ | with_reducible refine s_I0 ?_ | with_reducible refine s_addI ?_ | with_reducible refine s_intI ?_ | with_reducible refine s_intB ?_
  | with_reducible refine s_m1 ?_ | with_reducible refine s_lc ?_ | with_reducible refine s_ilist ?_ | with_reducible refine s_for ?_ | with_reducible refine s_irng ?_ | with_reducible refine s_match ?_ | with_reducible refine s_starT ?_ | with_reducible refine s_isS ?_ | with_reducible refine s_isiSS ?_ | with_reducible refine s_fldU ?_ | with_reducible refine s_sfldU ?_
  | ((with_reducible refine' s_eqS ?hq ?_); (case hq => exact rfl)) | ((with_reducible refine' s_neS ?hq ?_); (case hq => exact rfl))
  | ((with_reducible refine' s_isN ?hq ?_); (case hq => exact rfl)) | ((with_reducible refine' s_notN ?hq ?_); (case hq => exact rfl))
  | ((with_reducible refine' s_eqNil ?h1 ?h2 ?_); (case h1 => walk_at "hl"); (case h2 => walk_at "hl")) | ((with_reducible refine' s_neNil ?h1 ?h2 ?_); (case h1 => walk_at "hl"); (case h2 => walk_at "hl"))
  | ((with_reducible refine' s_ixL ?h1 ?h2 ?_); (case h1 => walk_at "hl"); (case h2 => walk_at "at")) | ((with_reducible refine' s_ixT ?h1 ?h2 ?_); (case h1 => walk_at "hl"); (case h2 => walk_at "at"))
  | ((with_reducible refine' s_inS ?h1 ?_); (case h1 => walk_at "hl")) | ((with_reducible refine' s_ninS ?h1 ?_); (case h1 => walk_at "hl")) | with_reducible refine s_inW ?_
  | ((with_reducible refine' s_lenL ?h1 ?_); (case h1 => walk_at "hl")) | ((with_reducible refine' s_lenT ?h1 ?_); (case h1 => walk_at "hl"))
  | ((with_reducible refine' s_tyL ?h1 ?_); (case h1 => walk_at "hl"))
  | ((with_reducible refine' s_fldM ?h1 ?h2 ?h3 ?_); (case h1 => walk_at "hl"); (case h2 => walk_at "fok"); (case h3 => walk_at "flk"))
  | ((with_reducible refine' s_setM ?h1 ?h2 ?h3 ?h4 ?_); (case h1 => walk_at "hl"); (case h2 => walk_at "fok"); (case h4 => walk_at "put"); (case h3 => exact Nat.le_of_ble_eq_true rfl))
  | ((with_reducible refine' s_starM ?h1 ?_); (case h1 => walk_at "hl"))
  | ((with_reducible refine' s_recv ?h1 ?h2 ?_); (case h1 => walk_at "hl"); (case h2 => exact rfl))
  | ((with_reducible refine' s_sz ?h1 ?_); (case h1 => (simp; done))))
local macro_rules | `(tactic| walk_at "rd") => `(tactic| repeat (walk_at "rd1"))
local macro_rules | `(tactic| walk_at "fok") => `(tactic| assumption)
local macro_rules | `(tactic| walk_at "flk") => `(tactic| rfl)
local macro_rules | `(tactic| walk_at "put") => `(tactic| exact rfl)

local macro_rules | `(tactic| walk_at "fok") => `(tactic| first | exact Ty.bdy (by assumption) (by decide) | exact Tb.bkr (by assumption) (by decide) | exact Ty.bdy (Tb.y (by assumption)) (by decide))
/-- [name for name, value in ..] -/
theorem s_lcNames {σ : L2.St} {H : Hp} {Q : VK} {p : Addr} {i j : Nat} {cs : List Addr} {ns : List Str} (hp : H p = some (.lst (cs.map V.ref))) (hl : cs.length = ns.length) (hz : ns.length ≤ 100000)
    (ht : ∀ (n : Nat) (x : Addr), cs[n]? = some x → ∃ m v, ns[n]? = some m ∧ H x = some (.tup [.str m, v]))
    (hw : ∀ x y, wipe (((wipe σ [i, j]).set i x).set j y) [i, j] = wipe σ [i, j]) (hv : ∀ x y, (((wipe σ [i, j]).set i (some x)).set j y)[i]? = some (some x))
    (hd : ∀ D H', Same H H' → H D = none → H' D = some (.lst (ns.map V.str)) → Q (.ref D) H') : mList K (LcGo (gTupU 2 (gCons (gName i) (gCons (gName j) gNil))) tYes (tVar i) [i, j] σ Q) (.ref p) H := by
  refine s_lcM (H := H) ns (fun x => some (.str x)) hp (by rw [List.length_map]; exact hl) hz ?_ ?_
  · intro n m x H2 R R0 hy hx s2 k1 _
    rw [List.getElem?_map] at hx
    cases he : cs[n]? with
    | none => rw [he] at hx; cases hx
    | some e =>
      rw [he] at hx
      cases hx
      obtain ⟨m', v, g1, g2⟩ := ht n e he
      rw [hy] at g1
      cases g1
      refine s_gtup2 (s2 _ _ g2) rfl ⟨hw _ _, ?_⟩
      walk_at "rd"
      refine ifT rfl ?_
      exact s_var (hv _ _) (k1 _ rfl _ (Same.refl _))
  · intro D H' s' hD hD'
    rw [fm_some] at hD'
    exact hd D H' s' hD hD'
def bk0 : Bk := ⟨[], [], [], [], [], [], [], 0, 0, "", none⟩
def RF.own (R : RF) (r : Addr) : List Addr := R.ad r ++ (match R.bd with | none => [] | some (x, F) => F.own x)
def Fr (H H' : Hp) (S : List Addr) : Prop := ∀ x o, H x = some o → x ∉ S → H' x = some o
theorem Fr.same {H H' : Hp} {S : List Addr} (s : Same H H') : Fr H H' S := fun x o h _ => s _ _ h
theorem Fr.trans {H H' H'' : Hp} {S S' : List Addr} (f : Fr H H' S) (f' : Fr H' H'' S') (g : ∀ x ∈ S', x ∈ S ∨ H x = none) : Fr H H'' S := fun x o h hn => f' _ _ (f _ _ h hn) fun hm => by
  rcases g x hm with q | q
  · exact hn q
  · rw [q] at h; cases h
theorem Fr.none {H H' : Hp} {S : List Addr} (f : Fr H H' S) (hb : ∀ x ∈ S, ∃ o, H' x = some o) {e : Addr} (he : H' e = none) : H e = none := by
  cases h : H e with
  | none => rfl
  | some o =>
    by_cases hm : e ∈ S
    · obtain ⟨o', ho⟩ := hb e hm
      rw [he] at ho
      cases ho
    · have := f _ _ h hm
      rw [he] at this
      cases this
theorem grow_trans {H H' : Hp} {S S' S'' : List Addr} (g : ∀ x ∈ S', x ∈ S ∨ H x = none) (g' : ∀ x ∈ S'', x ∈ S' ∨ H' x = none) (hn : ∀ e, H' e = none → H e = none) : ∀ x ∈ S'', x ∈ S ∨ H x = none := fun x hx => by
  rcases g' x hx with q | q
  · exact g x q
  · exact .inr (hn _ q)
theorem HasAll.bound {H : Hp} {ad : List Addr} {os : List HO} (h : HasAll H ad os) {x : Addr} (hx : x ∈ ad) : ∃ o, H x = some o := by
  obtain ⟨i, hi, hi2⟩ := List.mem_iff_getElem.mp hx
  exact ⟨os[i]'(by rw [← h.1]; exact hi), h.2 i x _ (by rw [List.getElem?_eq_getElem hi, hi2]) (List.getElem?_eq_getElem _)⟩
theorem own_bound {F : BF} {H : Hp} {r : Addr} {b : Bd} (B : BodyAt a H r b F) {x : Addr} (hx : x ∈ F.own r) : ∃ o, H x = some o := by
  cases h : H x with
  | some o => exact ⟨o, rfl⟩
  | none => exact absurd hx (own_none B h)
theorem BkAt.bound {H : Hp} {r : Addr} {k : Bk} {R : RF} (B : BkAt a H r k R) {x : Addr} (hx : x ∈ R.own r) : ∃ o, H x = some o := by
  unfold RF.own at hx
  rcases List.mem_append.mp hx with h | h
  · exact B.all.bound h
  · have hb := B.bd
    match hR : R.bd, hk : k.body with
    | none, _ => rw [hR] at h; cases h
    | some (y, F), none => rw [hR, hk] at hb; exact hb.elim
    | some (y, F), some b =>
      rw [hR, hk] at hb
      rw [hR] at h
      exact own_bound hb.1 h
theorem BkAt.fresh {H : Hp} {r : Addr} {k : Bk} {R : RF} (B : BkAt a H r k R) {x : Addr} (hx : H x = none) : x ∉ R.own r := fun h => by
  obtain ⟨o, ho⟩ := B.bound h
  rw [hx] at ho
  cases ho
theorem BkAt.ct_at {H : Hp} {r : Addr} {k : Bk} {R : RF} (B : BkAt a H r k R) (n : Nat) (x : Addr) (h : R.cs[n]? = some x) : ∃ m v, (k.cells.map (·.1))[n]? = some m ∧ H x = some (.tup [.str m, v]) := by
  have hn : n < k.cells.length := by
    have h1 := (List.getElem?_eq_some_iff.mp h).1
    have h2 := B.ct.1
    rw [List.length_map] at h2
    omega
  refine ⟨k.cells[n].1, .int k.cells[n].2, by simp [hn], B.ct.2 n x _ h (by simp [hn])⟩
theorem BkAt.at_at {H : Hp} {r : Addr} {k : Bk} {R : RF} (B : BkAt a H r k R) (n : Nat) (x : Addr) (h : R.as[n]? = some x) : ∃ m v, (k.answers.map (·.1))[n]? = some m ∧ H x = some (.tup [.str m, v]) := by
  have hn : n < k.answers.length := by
    have h1 := (List.getElem?_eq_some_iff.mp h).1
    have h2 := B.at_.1
    rw [List.length_map] at h2
    omega
  refine ⟨k.answers[n].1, .str k.answers[n].2, by simp [hn], B.at_.2 n x _ h (by simp [hn])⟩
theorem BkAt.ht_at {H : Hp} {r : Addr} {k : Bk} {R : RF} (B : BkAt a H r k R) (n : Nat) (x : Addr) (h : R.hs[n]? = some x) : ∃ m v, (k.handlers.map (·.1))[n]? = some m ∧ H x = some (.tup [.str m, v]) := by
  have hn : n < k.handlers.length := by
    have h1 := (List.getElem?_eq_some_iff.mp h).1
    have h2 := B.ht.1
    omega
  obtain ⟨pt, g1, g2⟩ := B.ht.2 n x k.handlers[n].1 k.handlers[n].2 h (by simp [hn])
  exact ⟨k.handlers[n].1, .ref pt, by simp [hn], g1⟩
theorem ad_own {R : RF} {r x : Addr} (h : x ∈ R.ad r) : x ∈ R.own r := List.mem_append.mpr (.inl h)
def spNewR (a : Nat → Addr) : Sp := fun vs H Q _ => ∃ (r dx : Addr), vs = [.ref r] ∧ H r = some (.ins (a 19) dx []) ∧ ∀ (R : RF) (H' : Hp), BkAt a H' r bk0 R → (∀ x o, H x = some o → x ≠ r → H' x = some o) → (∀ x ∈ R.own r, x = r ∨ H x = none) → Q .non H'
theorem ok_BookReader___init__ (T : Tb K mg a fd tk) : FnOk P w K mg base CX0 1 (a 20) (fd 20) ["self"] (spNewR a) := by
  refine T.F_BookReader___init__.ok sc_BookReader___init__ (fun vs H Q E h => ?_) (fun cdv A outer s H vs Q E hr h => ?_)
  · obtain ⟨r, dx, rfl, _⟩ := h
    rfl
  · obtain ⟨r, dx, rfl, h0, k⟩ := h
    refine ⟨_, (pss_cons (ps_fldU K (pv 0) (pe_lst pa_nil))
  (pss_cons (ps_fldU K (pv 0) (pe_lst pa_nil))
  (pss_cons (ps_fldU K (pv 0) (pe_lst pa_nil))
  (pss_cons (ps_fldU K (pv 0) (pe_lst pa_nil))
  (pss_cons (ps_fldU K (pv 0) (pe_lst pa_nil))
  (pss_cons (ps_fldU K (pv 0) pe_dnewK)
  (pss_cons (ps_fldU K (pv 0) pe_dnewK)
  (pss_cons (ps_fldU K (pv 0) pe_int)
  (pss_cons (ps_fldU K (pv 0) pe_int)
  (pss_cons (ps_fldU K (pv 0) pe_str)
  (pss_one (ps_fldU K (pv 0) pe_non)))))))))))), ?_⟩
    walk_at "rd"
    intro c n1
    have m1 := ne_of_none h0 n1
    walk_at "rd"
    intro an n2
    obtain ⟨m2, n2⟩ := upd_none n2
    obtain ⟨m21, n2⟩ := upd_none n2
    walk_at "rd"
    intro ef n3
    obtain ⟨m3, n3⟩ := upd_none n3
    obtain ⟨m32, n3⟩ := upd_none n3
    obtain ⟨_, n3⟩ := upd_none n3
    obtain ⟨m31, n3⟩ := upd_none n3
    walk_at "rd"
    intro ha n4
    obtain ⟨m4, n4⟩ := upd_none n4
    obtain ⟨m43, n4⟩ := upd_none n4
    obtain ⟨_, n4⟩ := upd_none n4
    obtain ⟨m42, n4⟩ := upd_none n4
    obtain ⟨_, n4⟩ := upd_none n4
    obtain ⟨m41, n4⟩ := upd_none n4
    walk_at "rd"
    intro wr n5
    obtain ⟨m5, n5⟩ := upd_none n5
    obtain ⟨m54, n5⟩ := upd_none n5
    obtain ⟨_, n5⟩ := upd_none n5
    obtain ⟨m53, n5⟩ := upd_none n5
    obtain ⟨_, n5⟩ := upd_none n5
    obtain ⟨m52, n5⟩ := upd_none n5
    obtain ⟨_, n5⟩ := upd_none n5
    obtain ⟨m51, n5⟩ := upd_none n5
    walk_at "rd"
    intro co n6
    obtain ⟨m6, n6⟩ := upd_none n6
    obtain ⟨m65, n6⟩ := upd_none n6
    obtain ⟨_, n6⟩ := upd_none n6
    obtain ⟨m64, n6⟩ := upd_none n6
    obtain ⟨_, n6⟩ := upd_none n6
    obtain ⟨m63, n6⟩ := upd_none n6
    obtain ⟨_, n6⟩ := upd_none n6
    obtain ⟨m62, n6⟩ := upd_none n6
    obtain ⟨_, n6⟩ := upd_none n6
    obtain ⟨m61, n6⟩ := upd_none n6
    walk_at "rd"
    intro pl n7
    obtain ⟨m7, n7⟩ := upd_none n7
    obtain ⟨m76, n7⟩ := upd_none n7
    obtain ⟨_, n7⟩ := upd_none n7
    obtain ⟨m75, n7⟩ := upd_none n7
    obtain ⟨_, n7⟩ := upd_none n7
    obtain ⟨m74, n7⟩ := upd_none n7
    obtain ⟨_, n7⟩ := upd_none n7
    obtain ⟨m73, n7⟩ := upd_none n7
    obtain ⟨_, n7⟩ := upd_none n7
    obtain ⟨m72, n7⟩ := upd_none n7
    obtain ⟨_, n7⟩ := upd_none n7
    obtain ⟨m71, n7⟩ := upd_none n7
    walk_at "rd"
    refine k ⟨dx, c, an, ef, ha, wr, co, pl, [], [], [], [], [], none⟩ _ ⟨⟨rfl, fun i y o h1 h2 => ?_⟩, ?_, ⟨rfl, fun i x y h1 => by simp at h1⟩, ⟨rfl, fun i x y h1 => by simp at h1⟩, ⟨rfl, fun i x n ps h1 => by simp at h1⟩, rfl, ⟨rfl, fun i x y h1 => by simp at h1⟩, trivial⟩ ?_ ?_
    · match i, h1, h2 with
      | 0, h1, h2 => cases h1; cases h2; exact upd_same
      | 1, h1, h2 => cases h1; cases h2; show upd _ _ _ c = some (HO.lst []); walk_at "hl"
      | 2, h1, h2 => cases h1; cases h2; show upd _ _ _ an = some (HO.lst []); walk_at "hl"
      | 3, h1, h2 => cases h1; cases h2; show upd _ _ _ ef = some (HO.lst []); walk_at "hl"
      | 4, h1, h2 => cases h1; cases h2; show upd _ _ _ ha = some (HO.lst []); walk_at "hl"
      | 5, h1, h2 => cases h1; cases h2; show upd _ _ _ wr = some (HO.lst []); walk_at "hl"
      | 6, h1, h2 => cases h1; cases h2; show upd _ _ _ co = some (HO.dK []); walk_at "hl"
      | 7, h1, h2 => cases h1; cases h2; show upd _ _ _ pl = some (HO.dK []); walk_at "hl"
      | i + 8, h1, h2 => simp [RF.ad] at h1
    · simp only [RF.ad, List.nodup_cons, List.mem_cons, List.not_mem_nil, or_false, not_or, not_false_eq_true, List.nodup_nil, and_true]
      exact ⟨⟨m1, Ne.symm m2, Ne.symm m3, Ne.symm m4, Ne.symm m5, Ne.symm m6, Ne.symm m7⟩, ⟨Ne.symm m21, Ne.symm m31, Ne.symm m41, Ne.symm m51, Ne.symm m61, Ne.symm m71⟩, ⟨Ne.symm m32, Ne.symm m42, Ne.symm m52, Ne.symm m62, Ne.symm m72⟩, ⟨Ne.symm m43, Ne.symm m53, Ne.symm m63, Ne.symm m73⟩, ⟨Ne.symm m54, Ne.symm m64, Ne.symm m74⟩, ⟨Ne.symm m65, Ne.symm m75⟩, Ne.symm m76⟩
    · intro x o hx hxr
      have x1 := ne_of_none hx n1
      have x2 := ne_of_none hx n2
      have x3 := ne_of_none hx n3
      have x4 := ne_of_none hx n4
      have x5 := ne_of_none hx n5
      have x6 := ne_of_none hx n6
      have x7 := ne_of_none hx n7
      walk_at "hl"
    · intro x hx
      simp only [RF.own, RF.ad, List.append_nil, List.mem_cons, List.not_mem_nil, or_false] at hx
      rcases hx with e | e | e | e | e | e | e | e
      · exact .inl e
      · exact .inr (by rw [e]; exact n1)
      · exact .inr (by rw [e]; exact n2)
      · exact .inr (by rw [e]; exact n3)
      · exact .inr (by rw [e]; exact n4)
      · exact .inr (by rw [e]; exact n5)
      · exact .inr (by rw [e]; exact n6)
      · exact .inr (by rw [e]; exact n7)
theorem b_BookReader___init__ (T : Tb K mg a fd tk) : Binds K (fd 20) ["self"] [] := T.F_BookReader___init__.binds fun _ _ _ _ _ _ us hl => match us, hl with | [_], _ => rfl
def isComplete (k : Bk) : Bool := k.body.isNone && !k.cells.isEmpty && !k.effects.isEmpty
def spComplete (a : Nat → Addr) : Sp := fun vs H Q _ => ∃ (r : Addr) (k : Bk) (R : RF), vs = [.ref r] ∧ BkAt a H r k R ∧ ∀ H', Same H H' → Q (.bl (isComplete k)) H'
theorem ok_BookReader_is_complete (T : Tb K mg a fd tk) : FnOk P w K mg base CX0 1 (a 21) (fd 21) ["self"] (spComplete a) := by
  refine T.F_BookReader_is_complete.ok sc_BookReader_is_complete (fun vs H Q E h => ?_) (fun cdv A outer s H vs Q E hr h => ?_)
  · obtain ⟨r, k, R, rfl, _⟩ := h
    rfl
  · obtain ⟨r, k, R, rfl, B, kk⟩ := h
    refine ⟨_, (pss_one (ps_ret (pe_and (pe_cmpR op_isN1 (pe_fldU K (pv 0)) pe_non (nomark _)) (pe_and (pe_cmpR (uNe K hr.units) (pe_fldU K (pv 0)) (pe_lst pa_nil) (nomark _)) (pe_one (pe_cmpR (uNe K hr.units) (pe_fldU K (pv 0)) (pe_lst pa_nil) (nomark _))))))), ?_⟩
    have hob := B.ob
    have hce := B.ce
    have hef := B.ef
    have hbd := B.bd
    have ec : R.cs.isEmpty = k.cells.isEmpty := by
      have := B.ct.1
      rw [List.length_map] at this
      cases h1 : R.cs <;> cases h2 : k.cells <;> simp [h1, h2] at this <;> rfl
    walk_at "rd"
    match hR : R.bd, hk : k.body with
    | some (y, F), none => rw [hR, hk] at hbd; exact hbd.elim
    | none, some b => rw [hR, hk] at hbd; exact hbd.elim
    | some (y, F), some b =>
      refine ifF (by simp [obV]) ?_
      have := kk H (Same.refl _)
      simpa [isComplete, hk] using this
    | none, none =>
      refine ifT (by simp [obV]) ?_
      walk_at "rd"
      intro z1 hz1
      have s1 := Same.new (o := .lst []) hz1
      have hce1 := s1 _ _ hce
      have hob1 := s1 _ _ hob
      have hef1 := s1 _ _ hef
      walk_at "rd"
      cases hc : k.cells.isEmpty with
      | true =>
        refine ifF (by rw [List.isEmpty_map, ec, hc]; rfl) ?_
        have := kk _ s1
        simpa [isComplete, hk, hc] using this
      | false =>
        refine ifT (by rw [List.isEmpty_map, ec, hc]; rfl) ?_
        walk_at "rd"
        intro z2 hz2
        have s2 := s1.trans (Same.new (o := .lst []) hz2)
        have hef2 := s2 _ _ hef
        walk_at "rd"
        have := kk _ s2
        have e2 : (List.map V.str k.effects).isEmpty = k.effects.isEmpty := by rw [List.isEmpty_map]
        rw [e2]
        simpa [isComplete, hk, hc] using this
theorem b_BookReader_is_complete (T : Tb K mg a fd tk) : Binds K (fd 21) ["self"] [] := T.F_BookReader_is_complete.binds fun _ _ _ _ _ _ us hl => match us, hl with | [_], _ => rfl
def sourcesOf (k : Bk) : List Str := k.cells.map (·.1) ++ k.answers.map (·.1)
def namesOf (k : Bk) : List Str := sourcesOf k ++ k.effects ++ k.handlers.map (·.1)
def BkSz (k : Bk) : Prop := k.cells.length ≤ 5000 ∧ k.answers.length ≤ 5000 ∧ k.effects.length ≤ 5000 ∧ k.handlers.length ≤ 5000
def spNames (a : Nat → Addr) (f : Bk → List Str) : Sp := fun vs H Q _ => ∃ (r : Addr) (k : Bk) (R : RF), vs = [.ref r] ∧ BkAt a H r k R ∧ BkSz k ∧ ∀ l H', Same H H' → H l = none → H' l = some (.lst ((f k).map V.str)) → Q (.ref l) H'
theorem ok_BookReader_sources_above (T : Tb K mg a fd tk) : FnOk P w K mg base CX0 1 (a 23) (fd 23) ["self"] (spNames a sourcesOf) := by
  refine T.F_BookReader_sources_above.ok sc_BookReader_sources_above (fun vs H Q E h => ?_) (fun cdv A outer s H vs Q E hr h => ?_)
  · obtain ⟨r, k, R, rfl, _⟩ := h
    rfl
  · obtain ⟨r, k, R, rfl, B, z, kk⟩ := h
    refine ⟨_, (pss_one (ps_ret (pe_op uAdd (pe_lc (own := [("name", 1), ("value", 2)]) rfl sc_BookReader_sources_above.nd (pi_list (pe_fldU K (pv 0))) (blkOk_by (N := N_BookReader_sources_above) (sc := defScope s_BookReader_sources_above) (by decide +kernel)) (fun _ _ _ _ _ => (pg_tupU (n := 2) rfl (pgs_cons (pg_name (i := 1) sc_BookReader_sources_above.nd rfl (by first | exact Or.inl rfl | exact Or.inr rfl)) (pgs_cons (pg_name (i := 2) sc_BookReader_sources_above.nd rfl (by first | exact Or.inl rfl | exact Or.inr rfl)) pgs_nil)))) (fun _ _ _ _ _ => pts_nil) (fun _ _ _ _ _ => (pv 1))) (pe_lc (own := [("name", 1), ("kind", 3)]) rfl sc_BookReader_sources_above.nd (pi_list (pe_fldU K (pv 0))) (blkOk_by (N := N_BookReader_sources_above) (sc := defScope s_BookReader_sources_above) (by decide +kernel)) (fun _ _ _ _ _ => (pg_tupU (n := 2) rfl (pgs_cons (pg_name (i := 1) sc_BookReader_sources_above.nd rfl (by first | exact Or.inl rfl | exact Or.inr rfl)) (pgs_cons (pg_name (i := 3) sc_BookReader_sources_above.nd rfl (by first | exact Or.inl rfl | exact Or.inr rfl)) pgs_nil)))) (fun _ _ _ _ _ => pts_nil) (fun _ _ _ _ _ => (pv 1)))))), ?_⟩
    have hob := B.ob
    obtain ⟨z1, z2, z3, z4⟩ := z
    walk_at "rd"
    refine s_lcNames (ns := k.cells.map (·.1)) B.ce (by rw [B.ct.1]; simp) (by rw [List.length_map]; omega) B.ct_at (fun _ _ => rfl) (fun _ _ => rfl) fun D H1 s1 hD hD1 => ?_
    have hob1 := s1 _ _ hob
    walk_at "rd"
    refine s_lcNames (ns := k.answers.map (·.1)) (s1 _ _ B.aw) (by rw [B.at_.1]; simp) (by rw [List.length_map]; omega) (B.same s1).at_at (fun _ _ => rfl) (fun _ _ => rfl) fun D2 H2 s2 hD2 hD2' => ?_
    refine s_addL (s2 _ _ hD1) hD2' (sz_le (by simp; omega)) fun z hz => ?_
    refine kk z _ ((s1.trans s2).trans (Same.new hz)) ((s1.trans s2).free hz) ?_
    rw [upd_same, ← List.map_append]
    rfl
theorem b_BookReader_sources_above (T : Tb K mg a fd tk) : Binds K (fd 23) ["self"] [] := T.F_BookReader_sources_above.binds fun _ _ _ _ _ _ us hl => match us, hl with | [_], _ => rfl
theorem ok_BookReader_all_names (T : Tb K mg a fd tk) : FnOk P w K mg base CX0 1 (a 22) (fd 22) ["self"] (spNames a namesOf) := by
  refine T.F_BookReader_all_names.ok sc_BookReader_all_names (fun vs H Q E h => ?_) (fun cdv A outer s H vs Q E hr h => ?_)
  · obtain ⟨r, k, R, rfl, _⟩ := h
    rfl
  · obtain ⟨r, k, R, rfl, B, z, kk⟩ := h
    refine ⟨_, (pss_cons (ps_asg (pe_op uAdd (pe_lc (own := [("name", 2), ("value", 3)]) rfl sc_BookReader_all_names.nd (pi_list (pe_fldU K (pv 0))) (blkOk_by (N := N_BookReader_all_names) (sc := defScope s_BookReader_all_names) (by decide +kernel)) (fun _ _ _ _ _ => (pg_tupU (n := 2) rfl (pgs_cons (pg_name (i := 2) sc_BookReader_all_names.nd rfl (by first | exact Or.inl rfl | exact Or.inr rfl)) (pgs_cons (pg_name (i := 3) sc_BookReader_all_names.nd rfl (by first | exact Or.inl rfl | exact Or.inr rfl)) pgs_nil)))) (fun _ _ _ _ _ => pts_nil) (fun _ _ _ _ _ => (pv 2))) (pe_lc (own := [("name", 2), ("kind", 4)]) rfl sc_BookReader_all_names.nd (pi_list (pe_fldU K (pv 0))) (blkOk_by (N := N_BookReader_all_names) (sc := defScope s_BookReader_all_names) (by decide +kernel)) (fun _ _ _ _ _ => (pg_tupU (n := 2) rfl (pgs_cons (pg_name (i := 2) sc_BookReader_all_names.nd rfl (by first | exact Or.inl rfl | exact Or.inr rfl)) (pgs_cons (pg_name (i := 4) sc_BookReader_all_names.nd rfl (by first | exact Or.inl rfl | exact Or.inr rfl)) pgs_nil)))) (fun _ _ _ _ _ => pts_nil) (fun _ _ _ _ _ => (pv 2)))) (pg_name (i := 1) sc_BookReader_all_names.nd rfl (by first | exact Or.inl rfl | exact Or.inr rfl)))
  (pss_one (ps_ret (pe_op uAdd (pe_op uAdd (pv 1) (pe_fldU K (pv 0))) (pe_lc (own := [("name", 2), ("parameters", 5)]) rfl sc_BookReader_all_names.nd (pi_list (pe_fldU K (pv 0))) (blkOk_by (N := N_BookReader_all_names) (sc := defScope s_BookReader_all_names) (by decide +kernel)) (fun _ _ _ _ _ => (pg_tupU (n := 2) rfl (pgs_cons (pg_name (i := 2) sc_BookReader_all_names.nd rfl (by first | exact Or.inl rfl | exact Or.inr rfl)) (pgs_cons (pg_name (i := 5) sc_BookReader_all_names.nd rfl (by first | exact Or.inl rfl | exact Or.inr rfl)) pgs_nil)))) (fun _ _ _ _ _ => pts_nil) (fun _ _ _ _ _ => (pv 2))))))), ?_⟩
    have hob := B.ob
    obtain ⟨z1, z2, z3, z4⟩ := z
    walk_at "rd"
    refine s_lcNames (ns := k.cells.map (·.1)) B.ce (by rw [B.ct.1]; simp) (by rw [List.length_map]; omega) B.ct_at (fun _ _ => rfl) (fun _ _ => rfl) fun D H1 s1 hD hD1 => ?_
    have hob1 := s1 _ _ hob
    walk_at "rd"
    refine s_lcNames (ns := k.answers.map (·.1)) (s1 _ _ B.aw) (by rw [B.at_.1]; simp) (by rw [List.length_map]; omega) (B.same s1).at_at (fun _ _ => rfl) (fun _ _ => rfl) fun D2 H2 s2 hD2 hD2' => ?_
    refine s_addL (s2 _ _ hD1) hD2' (sz_le (by simp; omega)) fun z hz => ?_
    have s3 := (s1.trans s2).trans (Same.new (o := .lst (List.map V.str (List.map (fun x => x.fst) k.cells) ++ List.map V.str (List.map (fun x => x.fst) k.answers))) hz)
    have hob3 := s3 _ _ hob
    have hef3 := s3 _ _ B.ef
    walk_at "rd"
    refine s_addL (xs := List.map V.str (List.map (fun x => x.fst) k.cells) ++ List.map V.str (List.map (fun x => x.fst) k.answers)) upd_same hef3 (sz_le (by simp; omega)) fun z' hz' => ?_
    have s4 := s3.trans (Same.new (o := .lst (List.map V.str (List.map (fun x => x.fst) k.cells) ++ List.map V.str (List.map (fun x => x.fst) k.answers) ++ List.map V.str k.effects)) hz')
    have hob4 := s4 _ _ hob
    walk_at "rd"
    refine s_lcNames (ns := k.handlers.map (·.1)) (s4 _ _ B.ha) (by rw [B.ht.1]; simp) (by rw [List.length_map]; omega) (B.same s4).ht_at (fun _ _ => rfl) (fun _ _ => rfl) fun D5 H5 s5 hD5 hD5' => ?_
    refine s_addL (xs := List.map V.str (List.map (fun x => x.fst) k.cells) ++ List.map V.str (List.map (fun x => x.fst) k.answers) ++ List.map V.str k.effects) (s5 _ _ upd_same) hD5' (sz_le (by simp; omega)) fun z6 hz6 => ?_
    refine kk z6 _ ((s4.trans s5).trans (Same.new hz6)) ((s4.trans s5).free hz6) ?_
    rw [upd_same, ← List.map_append, ← List.map_append, ← List.map_append]
    rfl
theorem b_BookReader_all_names (T : Tb K mg a fd tk) : Binds K (fd 22) ["self"] [] := T.F_BookReader_all_names.binds fun _ _ _ _ _ _ us hl => match us, hl with | [_], _ => rfl
end
end Tr
set_option maxHeartbeats 1000000

namespace Tr
open PySem L2
section
variable {P : Program} {w : World} {K : PySem.W.Frag} {mg : Str → Option Value} {base : Heap} {a : Nat → Addr} {fd : Nat → FuncData} {tk : Nat → Tok}
local macro_rules | `(tactic| walk_at "ne") => `(tactic| first | assumption | (exact Ne.symm (by assumption)) | (refine ne_of_none (by assumption) (by assumption)) | (refine Ne.symm (ne_of_none (by assumption) (by assumption))))
local macro_rules | `(tactic| walk_at "hl") => `(tactic| first | assumption | with_reducible exact upd_same | ((with_reducible refine' Eq.trans (upd_ne ?hne) ?hrest); (case hne => walk_at "ne"); (case hrest => walk_at "hl")) | (refine' get_same ?hs ?hg; (case hs => assumption); (case hg => assumption)))
local macro_rules | `(tactic| walk_at "at") => `(tactic| first | with_reducible exact atI_0 _ _ | with_reducible exact atI_1 _ _ _ | with_reducible exact atI_2 _ _ _ _ | with_reducible exact atI_3 _ _ _ _ _ | assumption)
local macro_rules | `(tactic| walk_at "rd1") => `(tactic| first
  | with_reducible refine s_seq ?_ | with_reducible refine s_next ?_ | with_reducible refine s_if ?_ | with_reducible refine s_ret ?_ | with_reducible refine s_retN ?_ | with_reducible refine s_drop ?_ | with_reducible refine s_asg ?_ | with_reducible refine s_brk ?_ | with_reducible refine s_cont ?_
  | with_reducible refine s_gname ?_ | with_reducible refine s_c ?_ | with_reducible refine s_op ?_ | with_reducible refine s_un ?_ | with_reducible refine s_neg ?_ | with_reducible refine s_test ?_ | with_reducible refine s_tb ?_ | with_reducible refine s_not ?_ | with_reducible refine s_and ?_ | with_reducible refine s_or ?_ | with_reducible refine s_yes ?_
  | ((with_reducible refine' s_var ?hv ?_); (case hv => exact rfl))
  | with_reducible refine s_ifx ?_ | with_reducible refine s_andV ?_ | with_reducible refine s_orV ?_ | with_reducible refine s_notV ?_ | with_reducible refine s_chain ?_ | with_reducible refine s_nil ?_ | with_reducible refine s_cons ?_ | with_reducible refine s_lst ?_ | with_reducible refine s_tup ?_ | with_reducible refine s_cb ?_ | with_reducible refine s_call ?_ | with_reducible refine s_meth ?_ | with_reducible refine s_make ?_
  | with_reducible refine s_dnewK ?_ | with_reducible refine s_sl ?_ | with_reducible refine s_po0 ?_ | with_reducible refine s_po1 ?_ | with_reducible refine s_bm ?_ | with_reducible refine s_bm0 ?_
  | with_reducible refine s_bl ?_ | with_reducible refine s_int ?_ | with_reducible refine s_I0 ?_ | with_reducible refine s_addI ?_ | with_reducible refine s_intI ?_ | with_reducible refine s_intB ?_
  | with_reducible refine s_m1 ?_ | with_reducible refine s_lc ?_ | with_reducible refine s_ilist ?_ | with_reducible refine s_for ?_ | with_reducible refine s_irng ?_ | with_reducible refine s_match ?_ | with_reducible refine s_starT ?_ | with_reducible refine s_isS ?_ | with_reducible refine s_isiSS ?_ | with_reducible refine s_fldU ?_ | with_reducible refine s_sfldU ?_
  | ((with_reducible refine' s_eqS ?hq ?_); (case hq => exact rfl)) | ((with_reducible refine' s_neS ?hq ?_); (case hq => exact rfl))
  | ((with_reducible refine' s_isN ?hq ?_); (case hq => exact rfl)) | ((with_reducible refine' s_notN ?hq ?_); (case hq => exact rfl))
  | ((with_reducible refine' s_eqNil ?h1 ?h2 ?_); (case h1 => walk_at "hl"); (case h2 => walk_at "hl")) | ((with_reducible refine' s_neNil ?h1 ?h2 ?_); (case h1 => walk_at "hl"); (case h2 => walk_at "hl"))
  | ((with_reducible refine' s_ixL ?h1 ?h2 ?_); (case h1 => walk_at "hl"); (case h2 => walk_at "at")) | ((with_reducible refine' s_ixT ?h1 ?h2 ?_); (case h1 => walk_at "hl"); (case h2 => walk_at "at"))
  | ((with_reducible refine' s_inS ?h1 ?_); (case h1 => walk_at "hl")) | ((with_reducible refine' s_ninS ?h1 ?_); (case h1 => walk_at "hl")) | with_reducible refine s_inW ?_
  | ((with_reducible refine' s_lenL ?h1 ?_); (case h1 => walk_at "hl")) | ((with_reducible refine' s_lenT ?h1 ?_); (case h1 => walk_at "hl"))
  | ((with_reducible refine' s_tyL ?h1 ?_); (case h1 => walk_at "hl"))
  | ((with_reducible refine' s_fldM ?h1 ?h2 ?h3 ?_); (case h1 => walk_at "hl"); (case h2 => walk_at "fok"); (case h3 => walk_at "flk"))
  | ((with_reducible refine' s_starM ?h1 ?_); (case h1 => walk_at "hl"))
  | ((with_reducible refine' s_recv ?h1 ?h2 ?_); (case h1 => walk_at "hl"); (case h2 => exact rfl))
  | ((with_reducible refine' s_sz ?h1 ?_); (case h1 => (simp; done))))
local macro_rules | `(tactic| walk_at "rd") => `(tactic| repeat (walk_at "rd1"))
local macro_rules | `(tactic| walk_at "fok") => `(tactic| assumption)
local macro_rules | `(tactic| walk_at "flk") => `(tactic| rfl)
local macro_rules | `(tactic| walk_at "put") => `(tactic| exact rfl)

local macro_rules | `(tactic| walk_at "fok") => `(tactic| first | exact Ty.bdy (by assumption) (by decide) | exact Tb.bkr (by assumption) (by decide) | exact Ty.bdy (Tb.y (by assumption)) (by decide))
def beginK (k : Bk) (n kind : Str) (ps : List Str) : Bk := { k with name := n, body := some ⟨kind, ps, k.cells.map (·.1), sourcesOf k, [], [], 0, false⟩ }
/-- the reader itself is written -/
theorem BkAt.setOb {H : Hp} {r : Addr} {k : Bk} {R : RF} (B : BkAt a H r k R) (count deepest : Nat) (name : Str) : BkAt a (upd H r (.ins (a 19) R.dx (bkF R count deepest name))) r { k with count := count, deepest := deepest, name := name } R :=
  B.put (j := 0) rfl _ R rfl rfl (B.ct.keep (B.kt (j := 0) rfl)) (B.at_.keep (B.kt (j := 0) rfl)) (B.ht.keep (B.kt (j := 0) rfl)) B.ckl (B.plk.keep (B.kt (j := 0) rfl)) ⟨rfl, rfl⟩
theorem BkAt.setBd {H : Hp} {r : Addr} {k : Bk} {R : RF} (B : BkAt a H r k R) (o : Option (Addr × BF)) (b : Option Bd) (hb : BdAt a H (R.ad r) o b) : BkAt a (upd H r (.ins (a 19) R.dx (bkF { R with bd := o } k.count k.deepest k.name))) r { k with body := b } { R with bd := o } where
  all := B.all.put B.nd (j := 0) rfl
  nd := B.nd
  ct := B.ct.keep (B.kt (j := 0) rfl)
  at_ := B.at_.keep (B.kt (j := 0) rfl)
  ht := B.ht.keep (B.kt (j := 0) rfl)
  ckl := B.ckl
  plk := B.plk.keep (B.kt (j := 0) rfl)
  bd := hb.keep fun x u h hn => by rw [upd_ne (by rintro rfl; exact hn (by simp [RF.ad]))]; exact h
theorem r_own {R : RF} {r : Addr} : r ∈ R.own r := ad_own (by simp [RF.ad])
theorem s_rName (T : Tb K mg a fd tk) {Hc : Hp} {r : Addr} {k : Bk} {R : RF} (B : BkAt a Hc r k R) {n : Str} {Rr : Hp → Prop} (q : ∀ H', BkAt a H' r { k with name := n } R → (∀ x, x ≠ r → H' x = Hc x) → Rr H') : mSet K "name" (.ref r) (.str n) Hc Rr :=
  s_setM B.ob (T.bkr (by decide)) (Nat.le_of_ble_eq_true rfl) rfl (q _ (B.setOb k.count k.deepest n) fun x hx => upd_ne hx)
theorem s_rCount (T : Tb K mg a fd tk) {Hc : Hp} {r : Addr} {k : Bk} {R : RF} (B : BkAt a Hc r k R) {n : Nat} {v : V} (hv : v = .int (n : Int)) {Rr : Hp → Prop} (q : ∀ H', BkAt a H' r { k with count := n } R → (∀ x, x ≠ r → H' x = Hc x) → Rr H') : mSet K "count" (.ref r) v Hc Rr := by
  subst hv
  exact s_setM B.ob (T.bkr (by decide)) (Nat.le_of_ble_eq_true rfl) rfl (q _ (B.setOb n k.deepest k.name) fun x hx => upd_ne hx)
theorem s_rDeep (T : Tb K mg a fd tk) {Hc : Hp} {r : Addr} {k : Bk} {R : RF} (B : BkAt a Hc r k R) {n : Nat} {v : V} (hv : v = .int (n : Int)) {Rr : Hp → Prop} (q : ∀ H', BkAt a H' r { k with deepest := n } R → (∀ x, x ≠ r → H' x = Hc x) → Rr H') : mSet K "deepest" (.ref r) v Hc Rr := by
  subst hv
  exact s_setM B.ob (T.bkr (by decide)) (Nat.le_of_ble_eq_true rfl) rfl (q _ (B.setOb k.count n k.name) fun x hx => upd_ne hx)
theorem s_rBody (T : Tb K mg a fd tk) {Hc : Hp} {r : Addr} {k : Bk} {R : RF} (B : BkAt a Hc r k R) {o : Option (Addr × BF)} {b : Option Bd} (hb : BdAt a Hc (R.ad r) o b) {v : V} (hv : v = obV o) {Rr : Hp → Prop} (q : ∀ H', BkAt a H' r { k with body := b } { R with bd := o } → (∀ x, x ≠ r → H' x = Hc x) → Rr H') : mSet K "open_body" (.ref r) v Hc Rr := by
  subst hv
  exact s_setM B.ob (T.bkr (by decide)) (Nat.le_of_ble_eq_true rfl) rfl (q _ (B.setBd o b hb) fun x hx => upd_ne hx)
def spBegin (a : Nat → Addr) : Sp := fun vs H Q _ => ∃ (r pp : Addr) (n kind : Str) (ps : List Str) (k : Bk) (R : RF), vs = [.ref r, .str n, .str kind, .ref pp] ∧ BkAt a H r k R ∧ H pp = some (.tup (ps.map V.str)) ∧ ps.length ≤ 5000 ∧ BkSz k ∧
  ∀ (R' : RF) (H' : Hp), BkAt a H' r (beginK k n kind ps) R' → Fr H H' (R.own r) → (∀ x ∈ R'.own r, x ∈ R.own r ∨ H x = none) → Q .non H'
theorem ok_BookReader_begin (T : Tb K mg a fd tk) : FnOk P w K mg base CX0 3 (a 29) (fd 29) ["self", "name", "kind", "parameters"] (spBegin a) := by
  refine T.F_BookReader_begin.ok sc_BookReader_begin (fun vs H Q E h => ?_) (fun cdv A outer s H vs Q E hr h => ?_)
  · obtain ⟨r, pp, n, kind, ps, k, R, rfl, _⟩ := h
    rfl
  · obtain ⟨r, pp, n, kind, ps, k, R, rfl, B, hpp, zp, z, kk⟩ := h
    refine ⟨_, (pss_cons (ps_fldU K (pv 0) (pv 1))
  (pss_one (ps_fldU K (pv 0) (pe_make T.y.mk_BodyReader (ok_BodyReader___init__ T.y) (hr.mono (by decide)) (by rfl) T.y.g_BodyReader (b_BodyReader___init__ T.y) .nil pass0 (pa_cons (pv 2) (pa_cons (pv 3) (pa_cons (pe_lc (own := [("name", 1), ("value", 4)]) rfl sc_BookReader_begin.nd (pi_list (pe_fldU K (pv 0))) (blkOk_by (N := N_BookReader_begin) (sc := defScope s_BookReader_begin) (by decide +kernel)) (fun _ _ _ _ _ => (pg_tupU (n := 2) rfl (pgs_cons (pg_name (i := 1) sc_BookReader_begin.nd rfl (by first | exact Or.inl rfl | exact Or.inr rfl)) (pgs_cons (pg_name (i := 4) sc_BookReader_begin.nd rfl (by first | exact Or.inl rfl | exact Or.inr rfl)) pgs_nil)))) (fun _ _ _ _ _ => pts_nil) (fun _ _ _ _ _ => (pv 1))) (pa_cons (pe_meth0 (pv 0) T.cl_BookReader T.m_BookReader_sources_above (ok_BookReader_sources_above T) (hr.mono (by decide)) (b_BookReader_sources_above T) .nil pass0) pa_nil)))))))), ?_⟩
    have hob := B.ob
    have hne : pp ≠ r := ne_of hpp hob (by intro e; cases e)
    walk_at "rd"
    refine s_rName T B fun H1 B1 f1 => ?_
    have hob1 := B1.ob
    have hpp1 : H1 pp = some (.tup (ps.map V.str)) := by rw [f1 _ hne]; exact hpp
    obtain ⟨z1, z2, z3, z4⟩ := z
    walk_at "rd"
    refine s_lcNames (ns := k.cells.map (·.1)) B1.ce (by rw [B1.ct.1]; simp) (by rw [List.length_map]; omega) B1.ct_at (fun _ _ => rfl) (fun _ _ => rfl) fun D H2 s2 hD hD2 => ?_
    have hob2 := s2 _ _ hob1
    have B2 := B1.same s2
    walk_at "rd"
    refine ⟨r, { k with name := n }, R, rfl, B2, ⟨z1, z2, z3, z4⟩, fun l H3 s3 hl hl3 => ?_⟩
    walk_at "rd"
    intro x dx nx ndx hdx
    have s23 := s2.trans s3
    have s4 : Same H3 (upd (upd H3 dx (.own x)) x (.ins (a 8) dx [])) := (Same.new ndx).trans (Same.new (by rw [upd_ne (Ne.symm hdx)]; exact nx))
    refine ⟨x, dx, kind, pp, D, l, ps, k.cells.map (·.1), sourcesOf k, rfl, upd_same, .inr (s4 _ _ (s23 _ _ hpp1)), s4 _ _ (s3 _ _ hD2), s4 _ _ hl3, zp, fun F H5 B5 f5 o5 => ⟨rfl, ?_⟩⟩
    have hxr : x ≠ r := fun q => by rw [q, s3 _ _ hob2] at nx; cases nx
    have hxo : ∀ y ∈ F.own x, y = x ∨ H3 y = none := fun y hy => by
      rcases o5 y hy with h | h
      · exact .inl h
      · exact .inr (s4.free h)
    have hno : ∀ y, H3 y = none → H y = none := fun y hy => none_f f1 hob1 (s23.free hy)
    have hxo' : ∀ y ∈ F.own x, H y = none := fun y hy => by
      rcases hxo y hy with h | h
      · exact hno _ (h ▸ nx)
      · exact hno _ h
    have B3' : BkAt a H5 r { k with name := n } R := by
      have B4 := B1.same (s23.trans s4)
      have f5' : ∀ y o, H1 y = some o → H5 y = some o := fun y o hy => f5 _ _ (s4 _ _ (s23 _ _ hy)) (fun q => by
        rw [q] at hy
        have := s23 _ _ hy
        rw [nx] at this
        cases this)
      exact B1.same f5'
    walk_at "rd"
    refine s_rBody T B3' (o := some (x, F)) (b := some ⟨kind, ps, k.cells.map (·.1), sourcesOf k, [], [], 0, false⟩) ⟨B5, fun y hy hm => ?_⟩ rfl fun H6 B6 f6 => ?_
    · obtain ⟨o, ho⟩ := B.all.bound hm
      rw [hxo' y hy] at ho
      cases ho
    · refine kk _ H6 B6 (fun y o hy hn => ?_) fun y hy => ?_
      · have yr : y ≠ r := fun q => hn (q ▸ r_own)
        rw [f6 _ yr]
        refine f5 _ _ (s4 _ _ (s23 _ _ (by rw [f1 _ yr]; exact hy))) fun q => ?_
        rw [q, hno _ nx] at hy
        cases hy
      · rcases List.mem_append.mp hy with h | h
        · exact .inl (ad_own h)
        · exact .inr (hxo' y h)
theorem b_BookReader_begin (T : Tb K mg a fd tk) : Binds K (fd 29) ["self", "name", "kind", "parameters"] [] := T.F_BookReader_begin.binds fun _ _ _ _ _ _ us hl => match us, hl with | [_, _, _, _], _ => rfl
theorem isNumber_len {x : Str} (h : isNumber x = true) : x.length ≤ 30 := by
  unfold isNumber at h
  simp only [Bool.and_eq_true, decide_eq_true_eq] at h
  exact h.1.2
section
variable {H : Hp} {r t : Addr} {k : Bk} {R : RF}
theorem BkAt.addCell (B : BkAt a H r k R) {n : Str} {v : Int} (ht : H t = some (.tup [.str n, .int v])) : BkAt a (upd H R.c (.lst (R.cs.map V.ref ++ [.ref t]))) r { k with cells := k.cells ++ [(n, v)] } { R with cs := R.cs ++ [t] } := by
  have kt : KeepT H (upd H R.c (.lst (R.cs.map V.ref ++ [.ref t]))) := B.kt (j := 1) rfl
  refine B.put (j := 1) rfl _ _ rfl ?_ ?_ (B.at_.keep kt) (B.ht.keep kt) B.ckl (B.plk.keep kt) ⟨rfl, rfl⟩
  · simp only [cont, List.map_append]; rfl
  · rw [List.map_append]
    exact (B.ct.keep kt).snoc (kt _ _ ht)
theorem BkAt.addAns (B : BkAt a H r k R) {n v : Str} (ht : H t = some (.tup [.str n, .str v])) : BkAt a (upd H R.an (.lst (R.as.map V.ref ++ [.ref t]))) r { k with answers := k.answers ++ [(n, v)] } { R with as := R.as ++ [t] } := by
  have kt : KeepT H (upd H R.an (.lst (R.as.map V.ref ++ [.ref t]))) := B.kt (j := 2) rfl
  refine B.put (j := 2) rfl _ _ rfl ?_ (B.ct.keep kt) ?_ (B.ht.keep kt) B.ckl (B.plk.keep kt) ⟨rfl, rfl⟩
  · simp only [cont, List.map_append]; rfl
  · rw [List.map_append]
    exact (B.at_.keep kt).snoc (kt _ _ ht)
theorem BkAt.addEff (B : BkAt a H r k R) {n : Str} : BkAt a (upd H R.ef (.lst (k.effects.map V.str ++ [.str n]))) r { k with effects := k.effects ++ [n] } R := by
  have kt : KeepT H (upd H R.ef (.lst (k.effects.map V.str ++ [.str n]))) := B.kt (j := 3) rfl
  refine B.put (j := 3) rfl _ _ rfl ?_ (B.ct.keep kt) (B.at_.keep kt) (B.ht.keep kt) B.ckl (B.plk.keep kt) ⟨rfl, rfl⟩
  simp only [cont, List.map_append]; rfl
theorem BkAt.addHand (B : BkAt a H r k R) {n : Str} {ps : List Str} {pt : Addr} (ht : H t = some (.tup [.str n, .ref pt])) (hp : H pt = some (.tup (ps.map V.str))) : BkAt a (upd H R.ha (.lst (R.hs.map V.ref ++ [.ref t]))) r { k with handlers := k.handlers ++ [(n, ps)] } { R with hs := R.hs ++ [t] } := by
  have kt : KeepT H (upd H R.ha (.lst (R.hs.map V.ref ++ [.ref t]))) := B.kt (j := 4) rfl
  refine B.put (j := 4) rfl _ _ rfl ?_ (B.ct.keep kt) (B.at_.keep kt) ?_ B.ckl (B.plk.keep kt) ⟨rfl, rfl⟩
  · simp only [cont, List.map_append]; rfl
  · refine ⟨by simp [B.ht.1], fun i x m qs h1 h2 => ?_⟩
    have h1' : (R.hs ++ [t])[i]? = some x := h1
    have h2' : (k.handlers ++ [(n, ps)])[i]? = some (m, qs) := h2
    by_cases hi : i < R.hs.length
    · rw [List.getElem?_append_left hi] at h1'
      rw [List.getElem?_append_left (by rw [← B.ht.1]; exact hi)] at h2'
      obtain ⟨q, g1, g2⟩ := B.ht.2 i x m qs h1' h2'
      exact ⟨q, kt _ _ g1, kt _ _ g2⟩
    · have e : i = R.hs.length := by
        have := (List.getElem?_eq_some_iff.mp h1').1
        simp at this
        omega
      subst e
      rw [B.ht.1] at h2'
      simp at h1' h2'
      obtain ⟨rfl, rfl⟩ := h2'
      subst h1'
      exact ⟨pt, kt _ _ ht, kt _ _ hp⟩
theorem BkAt.addWr (B : BkAt a H r k R) {ns : List Int} : BkAt a (upd H R.wr (.lst (k.written.map V.int ++ ns.map V.int))) r { k with written := k.written ++ ns } R := by
  have kt : KeepT H (upd H R.wr (.lst (k.written.map V.int ++ ns.map V.int))) := B.kt (j := 5) rfl
  refine B.put (j := 5) rfl _ _ rfl ?_ (B.ct.keep kt) (B.at_.keep kt) (B.ht.keep kt) B.ckl (B.plk.keep kt) ⟨rfl, rfl⟩
  simp only [cont, List.map_append]; rfl
end
def cellK (k : Bk) (ws : List Str) : Option Bk :=
  match ws with
  | [_, n, eq, x] => if k.answers ≠ [] ∨ k.effects ≠ [] ∨ eq ≠ "=" ∨ isNumber x = false then none else some { k with cells := k.cells ++ [(n, intOf x)] }
  | _ => none
def spK (a : Nat → Addr) (f : Bk → List Str → Option Bk) (pre : List Str → Prop) : Sp := fun vs H Q _ => ∃ (r p : Addr) (k : Bk) (R : RF) (ws : List Str), vs = [.ref r, .ref p] ∧ BkAt a H r k R ∧ H p = some (.lst (ws.map V.str)) ∧ p ∉ R.own r ∧ WsOk ws ∧ BkSz k ∧ pre ws ∧ k.body = none ∧
  (f k ws = none → ∀ H', Fr H H' (R.own r) → Q (.bl false) H') ∧
  (∀ k', f k ws = some k' → ∀ (R' : RF) (H' : Hp), BkAt a H' r k' R' → Fr H H' (R.own r) → (∀ x ∈ R'.own r, x ∈ R.own r ∨ H x = none) → Q (.bl true) H')
theorem ok_BookReader_cell (T : Tb K mg a fd tk) : FnOk P w K mg base CX0 2 (a 27) (fd 27) ["self", "words"] (spK a cellK (fun _ => True)) := by
  refine T.F_BookReader_cell.ok sc_BookReader_cell (fun vs H Q E h => ?_) (fun cdv A outer s H vs Q E hr h => ?_)
  · obtain ⟨r, p, k, R, ws, rfl, _⟩ := h
    rfl
  · obtain ⟨r, p, k, R, ws, rfl, B, hp, hpo, W, z, hpre, hb, kN, kS⟩ := h
    refine ⟨_, (pss_cons (ps_if (PW.pt (pw_or (pt_cmpR (uNe K hr.units) (pe_fldU K (pv 0)) (pe_lst pa_nil) (nomark _)) (pw_or (pt_cmpR (uNe K hr.units) (pe_fldU K (pv 0)) (pe_lst pa_nil) (nomark _)) (pw_or1 (pt_cmpR (uNe K hr.units) (pe_callB uLen (by rfl) T.x.b_len bt_len (pa_cons (pv 1) pa_nil)) pe_int (nomark _)))))) (pss_one (ps_ret pe_bl)) pss_nil)
  (pss_cons (ps_if (PW.pt (pw_or (pt_cmpR (uNe K hr.units) (pe_ix uIx (pv 1) pe_int (fun _ _ => rfl)) pe_str (nomark _)) (pw_or1 (pt_not (pt_val (pe_call (ok_is_number T.x) (hr.mono (by decide)) (by rfl) T.x.g_is_number T.x.F_is_number.kp (b_is_number T.x) .nil pass0 (pa_cons (pe_ix uIx (pv 1) pe_int (fun _ _ => rfl)) pa_nil))))))) (pss_one (ps_ret pe_bl)) pss_nil)
  (pss_cons (ps_expr (pe_bm PySem.F.plainAttrs_list PySem.F.slot_list_append PySem.F.type_list_append uAppend (pe_fldU K (pv 0)) (pa_cons (pe_tup (pa_cons (pe_ix uIx (pv 1) pe_int (fun _ _ => rfl)) (pa_cons (pe_callTy uInt (by rfl) T.x.b_int bt_int (pa_cons (pe_ix uIx (pv 1) pe_int (fun _ _ => rfl)) pa_nil)) pa_nil))) pa_nil)))
  (pss_one (ps_ret pe_bl))))), ?_⟩
    have hob := B.ob
    have haw := B.aw
    have hef := B.ef
    have ea : R.as.isEmpty = k.answers.isEmpty := by
      have := B.at_.1
      rw [List.length_map] at this
      cases h1 : R.as <;> cases h2 : k.answers <;> simp [h1, h2] at this <;> rfl
    walk_at "rd"
    intro z1 hz1
    have s1 := Same.new (o := .lst []) hz1
    have haw1 := s1 _ _ haw
    have hob1 := s1 _ _ hob
    have hef1 := s1 _ _ hef
    walk_at "rd"
    cases c1 : k.answers.isEmpty with
    | false =>
      refine ifT (by rw [List.isEmpty_map, ea, c1]; rfl) (ifT rfl ?_)
      walk_at "rd"
      refine kN ?_ _ (.same s1)
      have : k.answers ≠ [] := fun q => by rw [q] at c1; cases c1
      unfold cellK
      split <;> simp [this]
    | true =>
      refine ifF (by rw [List.isEmpty_map, ea, c1]; rfl) ?_
      walk_at "rd"
      intro z2 hz2
      have s2 := s1.trans (Same.new (o := .lst []) hz2)
      have hob2 := s2 _ _ hob
      have hef2 := s2 _ _ hef
      have hp2 := s2 _ _ hp
      walk_at "rd"
      cases c2 : k.effects.isEmpty with
      | false =>
        refine ifT (by rw [List.isEmpty_map, c2]; rfl) (ifT rfl ?_)
        walk_at "rd"
        refine kN ?_ _ (.same s2)
        have : k.effects ≠ [] := fun q => by rw [q] at c2; cases c2
        unfold cellK
        split <;> simp [this]
      | true =>
        refine ifF (by rw [List.isEmpty_map, c2]; rfl) ?_
        have c1' : k.answers = [] := by simpa using c1
        have c2' : k.effects = [] := by simpa using c2
        walk_at "rd"
        rw [dec_int]
        by_cases c3 : ws.length = 4
        rotate_left
        · refine ifT ?_ ?_
          · simp; omega
          walk_at "rd"
          refine kN ?_ _ (.same s2)
          unfold cellK
          split
          · exact absurd rfl c3
          · rfl
        · match ws, c3, hp, W, kN, kS, hp2 with
          | [w0, n, eq, x], c3, hp, W, kN, kS, hp2 =>
            refine ifF (by simp) ?_
            have hp2' : upd (upd H z1 (.lst [])) z2 (.lst []) p = some (.lst [.str w0, .str n, .str eq, .str x]) := hp2
            walk_at "rd"
            rw [dec_str]
            refine ifB (fun c4 => ?_) (fun c4 => ?_)
            · refine ifT rfl ?_
              walk_at "rd"
              exact kN (by simp at c4; simp [cellK, c4]) _ (.same s2)
            · have c4' : eq = "=" := by simpa using c4
              walk_at "rd"
              refine ⟨x, rfl, sz_le (W.len x (by simp)), fun H3 s3 => ?_⟩
              have s3' := s2.trans s3
              have hob3 := s3' _ _ hob
              have hp3 := s3' _ _ hp
              have hp3' : H3 p = some (.lst [.str w0, .str n, .str eq, .str x]) := hp3
              walk_at "rd"
              cases c5 : isNumber x with
              | false =>
                refine ifT rfl ?_
                walk_at "rd"
                exact kN (by simp [cellK, c5]) _ (.same s3')
              | true =>
                refine ifF rfl ?_
                have hce3 := s3' _ _ B.ce
                obtain ⟨nn, hnn⟩ := W.num x (by simp) c5
                have hio : intOf x = nn := by simp [intOf, hnn]
                walk_at "rd"
                refine s_intS hnn (by have := isNumber_len c5; omega) ?_
                walk_at "rd"
                refine fun t ht => ?_
                have s4 := Same.new (o := .tup [.str n, .int nn]) ht
                have B4 := B.same (s3'.trans s4)
                have hce4 := B4.ce
                walk_at "rd"
                have hl : R.cs.length ≤ 5000 := by
                  have := B.ct.1
                  rw [List.length_map] at this
                  have := z.1
                  omega
                refine s_app hce4 (sz_lt (by rw [List.length_map]; omega)) ?_
                walk_at "rd"
                refine kS { k with cells := k.cells ++ [(n, intOf x)] } (by simp [cellK, c1', c2', c4', c5]) { R with cs := R.cs ++ [t] } _ (B4.addCell (by rw [upd_same, hio])) (fun y o hy hn => ?_) fun y hy => .inl hy
                rw [upd_ne (by rintro rfl; exact hn (ad_own (by simp [RF.ad])))]
                exact (s3'.trans s4) _ _ hy
theorem b_BookReader_cell (T : Tb K mg a fd tk) : Binds K (fd 27) ["self", "words"] [] := T.F_BookReader_cell.binds fun _ _ _ _ _ _ us hl => match us, hl with | [_, _], _ => rfl
end
end Tr
set_option maxHeartbeats 2000000
namespace Tr
open PySem PySem.Spec PyProof.Rows L2
open AutoSeq1 (wpAny_loadPart')
/-- the iterator's object, the enumerate's -/
abbrev tio (l : Addr) : Obj := { cls := .type "tuple_iterator", data := .fields #[.ref l, .int 0 0] }
abbrev eno (n : Addr) : Obj := { cls := .type "enumerate", data := .fields #[.none, .bool false, .ref n, rawInt 0, .none, .none] }
theorem meets_enumT (l : Addr) (its : Array Value) (n : Nat) (dct : Option Addr) (sl : Array (Option Value)) :
    Meets (Builtin.«enumerate.__new__» ⟨[.type "enumerate", .ref l], []⟩)
      (fun _ R s => s.heap.get? l = some { cls := .type "tuple", dict := dct, data := .seq its n, slots := sl } ∧
        R (.ok (.ret (.ref (s.heap.push (tio l)).objs.size))) { s with heap := (s.heap.push (tio l)).push (eno s.heap.objs.size) }) :=
  .of_wp fun prog w A R s h => by
    obtain ⟨hp, g, d, tk, os⟩ := s
    obtain ⟨hl, h⟩ := h
    have hsub := PySem.sub_enumerate
    have hT : Heap.IsTuple (Shared.heap ⟨hp, g, d, tk, os⟩) l its := ⟨_, hl, rfl, n, rfl⟩
    wp_walk using wpAny_loadPart' hl
    refine PySem.wpAny_stack_any fun st => wpAny_pure ?_
    split
    case h_1 =>
      rename_i c _ _ _ _ _
      cases (c == Value.type "enumerate") <;> (wp_walk using wpAny_loadPart' hl, wpAny_pyIter_tuple hT; exact ⟨_, rfl, h⟩)
    case h_2 => wp_walk using wpAny_loadPart' hl, wpAny_pyIter_tuple hT; exact ⟨_, rfl, h⟩
theorem call_enumT {prog : Program} {w : World} {A : Around} {E : Value → Shared → Prop} {s : Shared} {l : Addr} {its : Array Value} {Q : Value → Shared → Prop} (hT : s.heap.IsTuple l its)
    (h : ∀ h', IsEnum h' (s.heap.objs.size + 1) s.heap.objs.size 0 .none → h'.IsTupleIter s.heap.objs.size l 0 → (∀ b o, s.heap.get? b = some o → h'.get? b = some o) → Q (.ref (s.heap.objs.size + 1)) { s with heap := h' }) :
    wpAny (model prog w) A (call (.type "enumerate") [.ref l]) Q E s := by
  obtain ⟨⟨c, dct, dt, sl⟩, hl, hc, n, hd⟩ := hT
  have hc' : c = .type "tuple" := hc
  have hd' : dt = .seq its n := hd
  subst hc' hd'
  refine callType_new F.called_enumerate (by decide) (F.typeCall_enumerate_1 _) (F.newCall_enumerate_1 _)
    (fun obj => F.args_object_init_2 obj _) F.entry_enumerate_new (meets_enumT l its n dct sl) ⟨hl, ?_⟩
  have hz : (s.heap.push (tio l)).objs.size = s.heap.objs.size + 1 := Heap.size_push ..
  show _ ∧ _
  rw [hz]
  have he : IsEnum ((s.heap.push (tio l)).push (eno s.heap.objs.size)) (s.heap.objs.size + 1) s.heap.objs.size 0 .none := by
    have z := Heap.get?_push_size (s.heap.push (tio l)) (o := eno s.heap.objs.size) rfl
    rw [hz] at z
    exact z
  refine ⟨⟨_, he, rfl⟩, h _ he ⟨_, Heap.get?_push_of_some _ (Heap.get?_push_size _ rfl), rfl, rfl⟩ fun b o x => ?_⟩
  exact Heap.get?_push_of_some _ (Heap.get?_push_of_some _ x)
theorem draws_tup {prog : Program} {w : World} {A : Around} (hh : A.handled = none) (it l : Addr) (hne : l ≠ it) (its : Array Value) :
    Draws prog w A it [it, l] its.size (fun i v => its[i]? = some v) (fun i h => h.IsTupleIter it l i ∧ h.IsTuple l its) where
  live := fun _ _ st => by
    obtain ⟨o, ho, _⟩ := st.1
    exact ⟨o, ho⟩
  frame := fun _ _ _ st hk => by
    obtain ⟨⟨o, ho, r⟩, ⟨o2, ho2, r2⟩⟩ := st
    exact ⟨⟨o, hk it (by simp) o ho, r⟩, ⟨o2, hk l (by simp) o2 ho2, r2⟩⟩
  item := fun i s Q E hi st hQ => by
    refine RZ.nextOf_tuple_item st.1 st.2 (x := its[i]) (by simp [hi]) fun h' hit' hs' => ?_
    obtain ⟨o2, ho2, r2⟩ := st.2
    exact hQ _ h' s.toks (by simp [hi]) ⟨hit', o2, (hs'.2 l hne).trans ho2, r2⟩ hs'
  done := fun s Q E st hE => RZ.nextOf_tuple_end hh st.1 st.2 (by simp) hE
/-- the tuple at a as it stands at each turn, each item in a new pair -/
def IteT (K : PySem.W.Frag) (a : Addr) : It :=
  ⟨fun i H => ∃ (xs : List V) (x : V), SqT K H a xs ∧ xs[i]? = some x,
   fun i H v H' => ∃ T x, v = .ref T ∧ H T = none ∧ H' = upd H T (.tup [.int (i : Nat), x]) ∧ ∀ xs, SqT K H a xs → xs[i]? = some x,
   fun i H => ∃ xs : List V, SqT K H a xs ∧ xs.length ≤ i⟩
theorem turn_enumT {P : Program} {w : World} {K : PySem.W.Frag} {elts : List Expr} {kk : Nat} {tpos : Pos} (a e it : Addr) (ha : a ≠ it) (hae : a ≠ e) :
    Turn P w K (.Tuple elts kk tpos) (IteT K a) [e, it] e (fun i h => (∃ old, IsEnum h e it ((i : Nat) : Int) old) ∧ h.IsTupleIter it a i ∧ e ≠ it) where
  mem := by simp
  obj := fun i h st b hb => by
    obtain ⟨⟨old, he⟩, ⟨o, ho, hc, hd⟩, _⟩ := st
    have e' : b = e ∨ b = it := by simpa using hb
    rcases e' with rfl | rfl
    · exact ⟨_, he, fun v q => nomatch q⟩
    · exact ⟨o, ho, fun v q => by rw [hd] at q; cases q⟩
  keep := fun i h h' st k => by
    obtain ⟨⟨old, he⟩, ⟨o, ho, r⟩, hne⟩ := st
    exact ⟨⟨old, k e (by simp) _ he⟩, ⟨o, k it (by simp) o ho, r⟩, hne⟩
  item := by
    intro X hP hw hK hc i pins s σ H E I hf st hg
    subst hP hw hK
    obtain ⟨⟨old, he⟩, hit, hne⟩ := st
    obtain ⟨xs, x, hq, hx⟩ := hg
    obtain ⟨its, rv, p, hz⟩ := I.tuple hq
    obtain ⟨u, hu, ru⟩ := rv.get hx
    have p' : s.heap.IsTuple a its.toArray := p
    have hel : e < s.heap.objs.size := Heap.lt_size he
    have hil : it < s.heap.objs.size := by obtain ⟨_, q, _⟩ := hit; exact Heap.lt_size q
    have hlt : i < its.toArray.size := by
      have := (List.getElem?_eq_some_iff.mp hu).1
      simpa using this
    have D := draws_tup (prog := X.prog) (w := X.w) (A := X.A.in1) (I.ok.hd hc) it a ha its.toArray
    refine wpAny_pyNext_enum_itemD D he ⟨hit, p'⟩ hlt hne (by simp [hne, Ne.symm hae]) fun y h' tk hy ho hst hT hsz hk => ?_
    have ey : y = u := by
      rw [List.getElem?_toArray, hu] at hy
      exact (Option.some.inj hy).symm
    subst ey
    refine ⟨_, rfl, wpAny_letOwnedTupleGo_enum (s := { s with heap := h', toks := tk + 1 }) ho fun h'' he' sb => ?_⟩
    have hT2 : h''.get? s.heap.objs.size = some { cls := .type "tuple", data := .seq #[.int i tk, y] } := (sb.2 _ (Nat.ne_of_gt hel)).trans hT
    have new : ObjOk X.prog X.w (upd H s.heap.objs.size (.tup [.int (i : Nat), x])) h'' s.heap.objs.size (.tup [.int (i : Nat), x]) :=
      ⟨by show 2 ≤ sizeLine; decide, [.int i tk, y], .cons ⟨_, rfl⟩ (.cons ru .nil), ⟨_, hT2, rfl, _, rfl⟩⟩
    have keep : ∀ b ob, b ∉ [e, it] → s.heap.get? b = some ob → h''.get? b = some ob := fun b ob hb q => by
      have b1 : b ≠ e := fun z => hb (by simp [z])
      have b2 : b ≠ it := fun z => hb (by simp [z])
      exact (sb.2 b b1).trans (hk b ob b1 b2 q)
    have I1 : Inv X pins σ (upd H s.heap.objs.size (.tup [.int (i : Nat), x])) { s with heap := h'', toks := tk + 1 } :=
      I.turnedNew (ch := [e, it]) keep hf (Nat.le_refl _) new
    have e1 : ((i + 1 : Nat) : Int) = (i : Int) + 1 := by omega
    obtain ⟨o2, ho2, r2⟩ := hst.1
    refine ⟨.ref s.heap.objs.size, _, I1, rfl, ⟨_, x, rfl, I.hok.fresh (Nat.le_refl _), rfl, fun ys hy => ?_⟩, ⟨⟨y, by rw [e1]; exact he'⟩, ⟨o2, (sb.2 it (Ne.symm hne)).trans ho2, r2⟩, hne⟩, fun b hb => ?_⟩
    · rw [I.tuple_inj hy hq]
      exact hx
    · have hb' : b < s.heap.objs.size := by
        have z : b = e ∨ b = it := by simpa using hb
        rcases z with rfl | rfl
        · exact hel
        · exact hil
      rw [upd_ne (Nat.ne_of_lt hb')]
      exact (hf b hb).1
  done := by
    intro X hP hw hK hc i pins s σ H E I hf st hg
    subst hP hw hK
    obtain ⟨⟨old, he⟩, hit, hne⟩ := st
    obtain ⟨xs, hq, hx⟩ := hg
    obtain ⟨its, rv, p, hz⟩ := I.tuple hq
    have p' : s.heap.IsTuple a its.toArray := p
    obtain ⟨f0, f1, f2, f3, f4, f5⟩ := hf it (by simp)
    have hl := rv.length
    have hT : s.TypeIs (.ref e) "enumerate" := ⟨_, he, rfl⟩
    unfold pyNext
    refine wpAny_bind (wpAny_attempt (wpAny_callSpecial?_slot (name := Str.ofString "__next__") hT F.slot_enumerate_next
      (wpAny_call_entry F.slot_enumerate_next hT F.entry_enumerate_next ?_ (F.args_enumerate_next_1 _))))
    show wpAny _ _ (field (.ref e) 2 >>= _) _ _ _
    refine wpAny_bind (wpAny_field he rfl (x := .ref it) rfl (wpAny_bind ?_))
    refine RZ.nextOf_tuple_end (I.ok.hd hc) hit p' (by simp; omega) fun h' ex eb hx' => ?_
    obtain ⟨o, ho, hcl⟩ := hx'
    refine wpAny_bind (wpAny_isInstance (T := "StopIteration") (b := true) ⟨o, ho, hcl⟩ isSubtype_stop (wpAny_pure ?_))
    exact ⟨rfl, I.turned (t' := s.toks) (fun b o hb q => eb b o hb q) f0 f1 f3 f4 f5⟩
  self := fun A i s Q E st h => by
    obtain ⟨⟨_, he⟩, _⟩ := st
    exact wpAny_pyIter_enum he h
def iEnumT (K : PySem.W.Frag) (ta : TA) : TI := fun σ H R => ta σ H fun vs H1 => ∃ a xs, vs = [.ref a] ∧ SqT K H1 a xs ∧ R (IteT K a) H1
theorem pi_enumT {X : Cx} {e : Expr} {ta : TA} {p pos tpos : Pos} {elts : List Expr} {kk : Nat} (hg : Gl X "enumerate") (hm : X.mg "enumerate" = none)
    (ha : PA X [e] ta) (hs : starEach [e] X.env = [(false, eval e X.env)] := by rfl) :
    PI X (.Tuple elts kk tpos) (.Call (.Name "enumerate" p) [e] [] pos) (iEnumT X.K ta) := by
  constructor
  intro pins s σ H R I h
  refine Call_ (ld_blt I hg hm boot_enumerate (PyProof.Rows.callWith_type1 (thn (ha.run pos pins s σ H _ I h) fun us s1 hh => ?_) hs rfl))
  obtain ⟨vs, H1, I1, r1, a, xs, ex, hq, q⟩ := hh
  subst ex
  cases r1 with
  | cons r rr =>
    cases rr
    cases r
    obtain ⟨its, rv, p', hz⟩ := I1.tuple hq
    have pt : s1.heap.IsTuple a its.toArray := p'
    have hal : a < s1.heap.objs.size := by obtain ⟨_, z, _⟩ := pt; exact Heap.lt_size z
    refine call_enumT pt fun h' he hit hk => wpAny_pyIter_enum he ?_
    have I2 : Inv X pins σ H1 { s1 with heap := h' } := I1.kept (t' := s1.toks) hk
    refine ⟨s1.heap.objs.size + 1, [s1.heap.objs.size + 1, s1.heap.objs.size], _, _, H1, rfl, I2,
      turn_enumT a (s1.heap.objs.size + 1) s1.heap.objs.size (Nat.ne_of_lt hal) (Nat.ne_of_lt (Nat.lt_succ_of_lt hal)), ⟨⟨.none, he⟩, hit, Nat.succ_ne_self _⟩, fun b hb => ?_, q⟩
    have z : b = s1.heap.objs.size + 1 ∨ b = s1.heap.objs.size := by simpa using hb
    have hle : s1.heap.objs.size ≤ b := by
      rcases z with rfl | rfl
      · exact Nat.le_succ _
      · exact Nat.le_refl _
    exact I1.fpOk hle (I1.hok.fresh hle)
theorem walk_enumT {K : PySem.W.Frag} {a : Addr} {xs : List V} : Walk (IteT K a) xs.length (fun H => SqT K H a xs) (YPair (fun i => some (.int (i : Nat))) (fun i => xs[i]?)) := by
  refine ⟨fun i _ hi q => ⟨xs, xs[i], q, by simp [hi]⟩, fun _ q => ⟨xs, q, Nat.le_refl _⟩, fun i H v H' _ q y => ?_⟩
  obtain ⟨T, x, h1, h2, h3, h4⟩ := y
  exact ⟨T, .int (i : Nat), x, h1, h2, h3, rfl, h4 xs q⟩
/-- for i, x in enumerate(t), t a tuple of the slot j -/
theorem s_forEnumT {σ : L2.St} {H : Hp} {K : PySem.W.Frag} {p : Addr} {xs : List V} {g : TG} {tb : TS} {j : Nat} {na : L2.St → Hp → Prop} {rt : VK} {bk ct : L2.St → Hp → Prop} (hv : σ[j]? = some (some (.ref p))) (hp : H p = some (.tup xs)) (Pv : Nat → L2.St → Hp → Prop) (h0 : Pv 0 σ H)
    (hG : ∀ i σ H, i ≤ xs.length → Pv i σ H → H p = some (.tup xs))
    (hs : ∀ i x T σ H, xs[i]? = some x → Pv i σ H → H T = none → g (.ref T) σ (upd H T (.tup [.int (i : Nat), x])) fun σ2 H2 => tb ⟨Pv (i + 1), rt, na, Pv (i + 1)⟩ σ2 H2)
    (hd : ∀ σ H, Pv xs.length σ H → na σ H) : tFor (iEnumT K (tCons (tVar j) tNil)) g tb ⟨na, rt, bk, ct⟩ σ H := by
  refine ⟨_, hv, p, xs, rfl, SqT.of hp, ?_⟩
  refine for_it (D := ⟨na, rt, bk, ct⟩) (walk_enumT (xs := xs)) Pv h0 (fun i σ H hi pv => SqT.of (hG i σ H hi pv)) ?_ hd
  rintro i x σ H H' hi pv ⟨T, x1, y1, rfl, hT, rfl, e1, e2⟩
  cases e1
  exact hs i y1 T σ H e2 pv hT
end Tr
set_option maxHeartbeats 1000000

namespace Tr
open PySem L2
section
variable {P : Program} {w : World} {K : PySem.W.Frag} {mg : Str → Option Value} {base : Heap} {a : Nat → Addr} {fd : Nat → FuncData} {tk : Nat → Tok}
local macro_rules | `(tactic| walk_at "ne") => `(tactic| first | assumption | (exact Ne.symm (by assumption)) | (refine ne_of_none (by assumption) (by assumption)) | (refine Ne.symm (ne_of_none (by assumption) (by assumption))))
local macro_rules | `(tactic| walk_at "hl") => `(tactic| first | assumption | with_reducible exact upd_same | ((with_reducible refine' Eq.trans (upd_ne ?hne) ?hrest); (case hne => walk_at "ne"); (case hrest => walk_at "hl")) | (refine' get_same ?hs ?hg; (case hs => assumption); (case hg => assumption)))
local macro_rules | `(tactic| walk_at "at") => `(tactic| first | with_reducible exact atI_0 _ _ | with_reducible exact atI_1 _ _ _ | with_reducible exact atI_2 _ _ _ _ | with_reducible exact atI_3 _ _ _ _ _ | assumption)
local macro_rules | `(tactic| walk_at "rd1") => `(tactic| first
  | with_reducible refine s_seq ?_ | with_reducible refine s_next ?_ | with_reducible refine s_if ?_ | with_reducible refine s_ret ?_ | with_reducible refine s_retN ?_ | with_reducible refine s_drop ?_ | with_reducible refine s_asg ?_ | with_reducible refine s_brk ?_ | with_reducible refine s_cont ?_
  | with_reducible refine s_gname ?_ | with_reducible refine s_c ?_ | with_reducible refine s_op ?_ | with_reducible refine s_un ?_ | with_reducible refine s_neg ?_ | with_reducible refine s_test ?_ | with_reducible refine s_tb ?_ | with_reducible refine s_not ?_ | with_reducible refine s_and ?_ | with_reducible refine s_or ?_ | with_reducible refine s_yes ?_
  | ((with_reducible refine' s_var ?hv ?_); (case hv => exact rfl))
  | with_reducible refine s_ifx ?_ | with_reducible refine s_andV ?_ | with_reducible refine s_orV ?_ | with_reducible refine s_notV ?_ | with_reducible refine s_chain ?_ | with_reducible refine s_nil ?_ | with_reducible refine s_cons ?_ | with_reducible refine s_lst ?_ | with_reducible refine s_tup ?_ | with_reducible refine s_cb ?_ | with_reducible refine s_call ?_ | with_reducible refine s_meth ?_ | with_reducible refine s_make ?_
  | with_reducible refine s_dnewK ?_ | with_reducible refine s_sl ?_ | with_reducible refine s_po0 ?_ | with_reducible refine s_po1 ?_ | with_reducible refine s_bm ?_ | with_reducible refine s_bm0 ?_
  | with_reducible refine s_bl ?_ | with_reducible refine s_int ?_ | with_reducible refine s_I0 ?_ | with_reducible refine s_addI ?_ | with_reducible refine s_intI ?_ | with_reducible refine s_intB ?_
  | with_reducible refine s_m1 ?_ | with_reducible refine s_lc ?_ | with_reducible refine s_ilist ?_ | with_reducible refine s_for ?_ | with_reducible refine s_irng ?_ | with_reducible refine s_match ?_ | with_reducible refine s_starT ?_ | with_reducible refine s_isS ?_ | with_reducible refine s_isiSS ?_ | with_reducible refine s_fldU ?_ | with_reducible refine s_sfldU ?_
  | ((with_reducible refine' s_eqS ?hq ?_); (case hq => exact rfl)) | ((with_reducible refine' s_neS ?hq ?_); (case hq => exact rfl))
  | ((with_reducible refine' s_isN ?hq ?_); (case hq => exact rfl)) | ((with_reducible refine' s_notN ?hq ?_); (case hq => exact rfl))
  | ((with_reducible refine' s_eqNil ?h1 ?h2 ?_); (case h1 => walk_at "hl"); (case h2 => walk_at "hl")) | ((with_reducible refine' s_neNil ?h1 ?h2 ?_); (case h1 => walk_at "hl"); (case h2 => walk_at "hl"))
  | ((with_reducible refine' s_ixL ?h1 ?h2 ?_); (case h1 => walk_at "hl"); (case h2 => walk_at "at")) | ((with_reducible refine' s_ixT ?h1 ?h2 ?_); (case h1 => walk_at "hl"); (case h2 => walk_at "at"))
  | ((with_reducible refine' s_inS ?h1 ?_); (case h1 => walk_at "hl")) | ((with_reducible refine' s_ninS ?h1 ?_); (case h1 => walk_at "hl")) | with_reducible refine s_inW ?_
  | ((with_reducible refine' s_lenL ?h1 ?_); (case h1 => walk_at "hl")) | ((with_reducible refine' s_lenT ?h1 ?_); (case h1 => walk_at "hl"))
  | ((with_reducible refine' s_tyL ?h1 ?_); (case h1 => walk_at "hl"))
  | ((with_reducible refine' s_fldM ?h1 ?h2 ?h3 ?_); (case h1 => walk_at "hl"); (case h2 => walk_at "fok"); (case h3 => walk_at "flk"))
  | ((with_reducible refine' s_starM ?h1 ?_); (case h1 => walk_at "hl"))
  | ((with_reducible refine' s_recv ?h1 ?h2 ?_); (case h1 => walk_at "hl"); (case h2 => exact rfl))
  | ((with_reducible refine' s_sz ?h1 ?_); (case h1 => (simp; done))))
local macro_rules | `(tactic| walk_at "rd") => `(tactic| repeat (walk_at "rd1"))
local macro_rules | `(tactic| walk_at "fok") => `(tactic| assumption)
local macro_rules | `(tactic| walk_at "flk") => `(tactic| rfl)
local macro_rules | `(tactic| walk_at "put") => `(tactic| exact rfl)

local macro_rules | `(tactic| walk_at "fok") => `(tactic| first | exact Ty.bdy (by assumption) (by decide) | exact Tb.bkr (by assumption) (by decide) | exact Ty.bdy (Tb.y (by assumption)) (by decide))
def handlerK (k : Bk) (ws : List Str) : Option Bk :=
  match ws with
  | _ :: n :: ps =>
    if k.effects = [] ∨ ps.length > 2 then none
    else if ((List.range ps.length).all fun i => isWord (ps.getD i "") && !((sourcesOf k).contains (ps.getD i "")) && !((ps.take i).contains (ps.getD i ""))) = true then some { beginK k n "handler" ps with handlers := k.handlers ++ [(n, ps)] }
    else none
  | _ => none
theorem cutV_2 (w0 w1 : Str) (l : List Str) : cutV ((w0 :: w1 :: l).map V.str) (some 2) none = l.map V.str := cutV_drop (w0 :: w1 :: l) 2 (by simp)
theorem s_slT {H : Hp} {Q : VK} {p : Addr} {xs : List V} {lo hi : Option Int} (hp : H p = some (.tup xs)) (hn : ¬ (HT.sIx xs.length 0 lo = 0 ∧ HT.sIx xs.length xs.length hi = xs.length)) (q : ∀ z, H z = none → Q (.ref z) (upd H z (.tup (cutV xs lo hi)))) : rSlU (.ref p) lo hi H Q := by
  simp only [rSlU, hp]
  exact ⟨hn, q⟩
def goodP (k : Bk) (ps : List Str) (i : Nat) : Bool := isWord (ps.getD i "") && !((sourcesOf k).contains (ps.getD i "")) && !((ps.take i).contains (ps.getD i ""))
theorem handlerK_eq (k : Bk) (w0 n : Str) (ps : List Str) : handlerK k (w0 :: n :: ps) = if k.effects = [] ∨ ps.length > 2 then none else if ((List.range ps.length).all fun i => goodP k ps i) = true then some { beginK k n "handler" ps with handlers := k.handlers ++ [(n, ps)] } else none := rfl
theorem ok_BookReader_handler (T : Tb K mg a fd tk) : FnOk P w K mg base CX0 4 (a 28) (fd 28) ["self", "words"] (spK a handlerK (fun ws => 2 ≤ ws.length)) := by
  refine T.F_BookReader_handler.ok sc_BookReader_handler (fun vs H Q E h => ?_) (fun cdv A outer s H vs Q E hr h => ?_)
  · obtain ⟨r, p, k, R, ws, rfl, _⟩ := h
    rfl
  · obtain ⟨r, p, k, R, ws, rfl, B, hp, hpo, W, z, hpre, hb, kN, kS⟩ := h
    refine ⟨_, (pss_cons (ps_asg (pe_callTy uTuple (by rfl) T.y.b_tuple bt_tuple (pa_cons (pe_slice uSl (pv 1) (po_some pe_int) po_none) pa_nil)) (pg_name (i := 2) sc_BookReader_handler.nd rfl (by first | exact Or.inl rfl | exact Or.inr rfl)))
  (pss_cons (ps_if (PW.pt (pw_or (pt_cmpR (uEq K hr.units) (pe_fldU K (pv 0)) (pe_lst pa_nil) (nomark _)) (pw_or1 (pt_cmpR op_gt (pe_callB uLen (by rfl) T.x.b_len bt_len (pa_cons (pv 2) pa_nil)) pe_int (nomark _))))) (pss_one (ps_ret pe_bl)) pss_nil)
  (pss_cons (ps_for PassesOwn.never rfl (pi_enumT (by rfl) T.x.b_enumerate (pa_cons (pv 2) pa_nil)) (pg_tupU (n := 2) rfl (pgs_cons (pg_name (i := 3) sc_BookReader_handler.nd rfl (by first | exact Or.inl rfl | exact Or.inr rfl)) (pgs_cons (pg_name (i := 4) sc_BookReader_handler.nd rfl (by first | exact Or.inl rfl | exact Or.inr rfl)) pgs_nil)))
   (pss_one (ps_if (PW.pt (pw_or (pt_not (pt_val (pe_call (ok_is_word T.x) (hr.mono (by decide)) (by rfl) T.x.g_is_word T.x.F_is_word.kp (b_is_word T.x) .nil pass0 (pa_cons (pv 4) pa_nil)))) (pw_or (pt_cmpR (uIn K) (pv 4) (pe_meth0 (pv 0) T.cl_BookReader T.m_BookReader_sources_above (ok_BookReader_sources_above T) (hr.mono (by decide)) (b_BookReader_sources_above T) .nil pass0) (by rfl)) (pw_or1 (pt_cmpR (uIn K) (pv 4) (pe_slice uSl (pv 2) po_none (po_some (pv 3))) (by rfl)))))) (pss_one (ps_ret pe_bl)) pss_nil)))
  (pss_cons (ps_expr (pe_meth (pv 0) T.cl_BookReader T.m_BookReader_begin (ok_BookReader_begin T) (hr.mono (by decide)) (b_BookReader_begin T) .nil pass0 (pa_cons (pe_ix uIx (pv 1) pe_int (fun _ _ => rfl)) (pa_cons pe_str (pa_cons (pv 2) pa_nil)))))
  (pss_cons (ps_expr (pe_bm PySem.F.plainAttrs_list PySem.F.slot_list_append PySem.F.type_list_append uAppend (pe_fldU K (pv 0)) (pa_cons (pe_tup (pa_cons (pe_ix uIx (pv 1) pe_int (fun _ _ => rfl)) (pa_cons (pv 2) pa_nil))) pa_nil)))
  (pss_one (ps_ret pe_bl))))))), ?_⟩
    match ws, hp, W, hpre, kN, kS with
    | [], hp, W, hpre, kN, kS => exact absurd rfl W.one
    | [_], hp, W, hpre, kN, kS => simp at hpre
    | w0 :: n :: ps, hp, W, hpre, kN, kS =>
      have hob := B.ob
      walk_at "rd"
      refine s_slL hp fun p1 np1 => ?_
      rw [cutV_2]
      have s1 := Same.new (o := .lst (ps.map V.str)) np1
      have h1 : upd H p1 (.lst (ps.map V.str)) p1 = some (.lst (ps.map V.str)) := upd_same
      generalize upd H p1 (.lst (ps.map V.str)) = H1 at s1 h1 ⊢
      walk_at "rd"
      refine s_tupleL h1 fun pt npt => ?_
      have s2 := s1.trans (Same.new (o := .tup (ps.map V.str)) npt)
      have hpt : upd H1 pt (.tup (ps.map V.str)) pt = some (.tup (ps.map V.str)) := upd_same
      generalize upd H1 pt (.tup (ps.map V.str)) = H2 at s2 hpt ⊢
      have B2 := B.same s2
      have hob2 := B2.ob
      have hef2 := B2.ef
      walk_at "rd"
      intro z1 nz1
      have s3 := s2.trans (Same.new (o := .lst []) nz1)
      have hef3 := (Same.new (o := .lst []) nz1) _ _ hef2
      have hpt3 := (Same.new (o := .lst []) nz1) _ _ hpt
      refine s_eqNil hef3 upd_same ?_
      have hob3 := (B.same s3).ob
      have hp3 := s3 _ _ hp
      generalize upd H2 z1 (.lst []) = H3 at s3 hef3 hpt3 hob3 hp3 ⊢
      walk_at "rd"
      by_cases c1 : k.effects = []
      · refine ifT (by rw [c1]; rfl) (ifT rfl ?_)
        walk_at "rd"
        exact kN (by rw [handlerK_eq, if_pos (.inl c1)]) _ (.same s3)
      refine ifF (by rw [List.isEmpty_map]; simpa using c1) ?_
      walk_at "rd"
      by_cases c2 : ps.length > 2
      · refine ifT (by simp; omega) ?_
        walk_at "rd"
        exact kN (by rw [handlerK_eq, if_pos (.inr c2)]) _ (.same s3)
      refine ifF (by simp; omega) ?_
      have hD : handlerK k (w0 :: n :: ps) = if ((List.range ps.length).all fun i => goodP k ps i) = true then some { beginK k n "handler" ps with handlers := k.handlers ++ [(n, ps)] } else none := by
        rw [handlerK_eq, if_neg (by simp [c1]; omega)]
      walk_at "rd1"
      walk_at "rd1"
      refine s_forEnumT (p := pt) (xs := ps.map V.str) rfl hpt3 (fun i σ H' => ∃ v3 v4, σ = [some (.ref r), some (.ref p), some (.ref pt), v3, v4] ∧ Same H H' ∧ H' pt = some (.tup (ps.map V.str)) ∧ ∀ j, j < i → goodP k ps j = true)
        ⟨none, none, rfl, s3, hpt3, fun j hj => by omega⟩ (fun i σ H' _ ⟨_, _, _, _, q, _⟩ => q) ?_ ?_
      · rintro i x T' σ H' hx ⟨v3, v4, rfl, s', hpt', hgood⟩ nT
        obtain ⟨y, hy, rfl⟩ := str_at hx
        have hi : i < ps.length := (List.getElem?_eq_some_iff.mp hy).1
        have hgd : ps.getD i "" = y := by simp [List.getD, hy]
        have hym : y ∈ ps := List.mem_of_getElem? hy
        have s4 := s'.trans (Same.new (o := .tup [.int (i : Nat), .str y]) nT)
        have hpt4 := (Same.new (o := .tup [.int (i : Nat), .str y]) nT) _ _ hpt'
        refine s_gtup2 upd_same rfl ?_
        generalize upd H' T' (.tup [.int (i : Nat), .str y]) = H4 at s4 hpt4 ⊢
        have hob4 := (B.same s4).ob
        have bad : goodP k ps i = false → handlerK k (w0 :: n :: ps) = none := fun e => by
          rw [hD, if_neg]
          intro h
          rw [List.all_eq_true] at h
          have := h i (List.mem_range.mpr hi)
          rw [e] at this
          cases this
        walk_at "rd"
        refine ⟨y, rfl, sz_le (W.len y (by simp [hym])), fun H5 s5 => ?_⟩
        have s5' := s4.trans s5
        have hpt5 := s5 _ _ hpt4
        have hob5 := (B.same s5').ob
        walk_at "rd"
        cases c3 : isWord y with
        | false =>
          refine ifT rfl (ifT rfl ?_)
          walk_at "rd"
          exact kN (bad (by unfold goodP; rw [hgd, c3]; rfl)) _ (.same s5')
        | true =>
          refine ifF rfl ?_
          walk_at "rd"
          refine ⟨r, k, R, rfl, B.same s5', z, fun la H6 s6 hl hl2 => ?_⟩
          have s6' := s5'.trans s6
          have hpt6 := s6 _ _ hpt5
          walk_at "rd"
          cases c4 : (sourcesOf k).contains y with
          | true =>
            refine ifT rfl (ifT rfl ?_)
            walk_at "rd"
            exact kN (bad (by unfold goodP; rw [hgd, c4]; simp)) _ (.same s6')
          | false =>
            refine ifF rfl ?_
            walk_at "rd"
            refine s_slT hpt6 ?_ fun cz ncz => ?_
            · rintro ⟨_, q⟩
              have : HT.sIx (ps.map V.str).length (ps.map V.str).length (some (i : Int)) = min i (ps.map V.str).length := by
                simp [HT.sIx]
                omega
              rw [this, List.length_map] at q
              omega
            have s7 := s6'.trans (Same.new (o := .tup (cutV (ps.map V.str) none (some (i : Int)))) ncz)
            have hpt7 := (Same.new (o := .tup (cutV (ps.map V.str) none (some (i : Int)))) ncz) _ _ hpt6
            have hcz : upd H6 cz (.tup (cutV (ps.map V.str) none (some (i : Int)))) cz = some (.tup ((ps.take i).map V.str)) := by rw [upd_same, cutV_take ps i (by omega)]
            generalize upd H6 cz (.tup (cutV (ps.map V.str) none (some (i : Int)))) = H7 at s7 hpt7 hcz ⊢
            refine s_inTS hcz ?_
            walk_at "rd"
            cases c5 : (ps.take i).contains y with
            | true =>
              refine ifT rfl ?_
              walk_at "rd"
              exact kN (bad (by unfold goodP; rw [hgd, c5]; simp)) _ (.same s7)
            | false =>
              refine ifF rfl ?_
              walk_at "rd"
              refine ⟨_, _, rfl, s7, hpt7, fun j hj => ?_⟩
              by_cases e : j = i
              · subst e
                unfold goodP
                rw [hgd, c3, c4, c5]
                rfl
              · exact hgood j (by omega)
      · rintro σ H4 ⟨v3, v4, rfl, s4, hpt4, hgood⟩
        rw [List.length_map] at hgood
        have eD : handlerK k (w0 :: n :: ps) = some { beginK k n "handler" ps with handlers := k.handlers ++ [(n, ps)] } := by
          rw [hD, if_pos]
          rw [List.all_eq_true]
          intro i hi
          exact hgood i (List.mem_range.mp hi)
        have B4 := B.same s4
        have hob4 := B4.ob
        have hp4 : H4 p = some (.lst (.str w0 :: .str n :: ps.map V.str)) := s4 _ _ hp
        walk_at "rd"
        refine ⟨r, pt, n, "handler", ps, k, R, rfl, B4, hpt4, by omega, z, fun R' H8 B8 f8 o8 => ?_⟩
        have hp8 := f8 _ _ hp4 hpo
        have hpt8 := f8 _ _ hpt4 (B.fresh (s1.free npt))
        have hob8 := B8.ob
        have hha8 := B8.ha
        walk_at "rd"
        intro t ht
        have s9 := Same.new (o := .tup [.str n, .ref pt]) ht
        have B9 := B8.same s9
        have hha9 := B9.ha
        walk_at "rd"
        have hl : R'.hs.length = k.handlers.length := B8.ht.1
        refine s_app hha9 (sz_lt (by rw [List.length_map, hl]; have := z.2.2.2; omega)) ?_
        walk_at "rd"
        refine kS _ eD { R' with hs := R'.hs ++ [t] } _ (B9.addHand upd_same (s9 _ _ hpt8)) ?_ ?_
        · intro y o hy hn
          have : y ∉ R'.own r := fun hm => by
            rcases o8 y hm with q | q
            · exact hn q
            · rw [s4 _ _ hy] at q; cases q
          rw [upd_ne (by rintro rfl; exact this (ad_own (by simp [RF.ad])))]
          exact s9 _ _ (f8 _ _ (s4 _ _ hy) hn)
        · intro y hy
          rcases o8 y hy with q | q
          · exact .inl q
          · exact .inr (s4.free q)
theorem b_BookReader_handler (T : Tb K mg a fd tk) : Binds K (fd 28) ["self", "words"] [] := T.F_BookReader_handler.binds fun _ _ _ _ _ _ us hl => match us, hl with | [_, _], _ => rfl
end
end Tr
set_option maxHeartbeats 1000000

namespace Tr
open PySem L2
section
variable {P : Program} {w : World} {K : PySem.W.Frag} {mg : Str → Option Value} {base : Heap} {a : Nat → Addr} {fd : Nat → FuncData} {tk : Nat → Tok}
local macro_rules | `(tactic| walk_at "ne") => `(tactic| first | assumption | (exact Ne.symm (by assumption)) | (refine ne_of_none (by assumption) (by assumption)) | (refine Ne.symm (ne_of_none (by assumption) (by assumption))))
local macro_rules | `(tactic| walk_at "hl") => `(tactic| first | assumption | with_reducible exact upd_same | ((with_reducible refine' Eq.trans (upd_ne ?hne) ?hrest); (case hne => walk_at "ne"); (case hrest => walk_at "hl")) | (refine' get_same ?hs ?hg; (case hs => assumption); (case hg => assumption)))
local macro_rules | `(tactic| walk_at "at") => `(tactic| first | with_reducible exact atI_0 _ _ | with_reducible exact atI_1 _ _ _ | with_reducible exact atI_2 _ _ _ _ | with_reducible exact atI_3 _ _ _ _ _ | assumption)
local macro_rules | `(tactic| walk_at "rd1") => `(tactic| first
  | with_reducible refine s_seq ?_ | with_reducible refine s_next ?_ | with_reducible refine s_if ?_ | with_reducible refine s_ret ?_ | with_reducible refine s_retN ?_ | with_reducible refine s_drop ?_ | with_reducible refine s_asg ?_ | with_reducible refine s_brk ?_ | with_reducible refine s_cont ?_
  | with_reducible refine s_gname ?_ | with_reducible refine s_c ?_ | with_reducible refine s_op ?_ | with_reducible refine s_un ?_ | with_reducible refine s_neg ?_ | with_reducible refine s_test ?_ | with_reducible refine s_tb ?_ | with_reducible refine s_not ?_ | with_reducible refine s_and ?_ | with_reducible refine s_or ?_ | with_reducible refine s_yes ?_
  | ((with_reducible refine' s_var ?hv ?_); (case hv => exact rfl))
  | with_reducible refine s_ifx ?_ | with_reducible refine s_andV ?_ | with_reducible refine s_orV ?_ | with_reducible refine s_notV ?_ | with_reducible refine s_chain ?_ | with_reducible refine s_nil ?_ | with_reducible refine s_cons ?_ | with_reducible refine s_lst ?_ | with_reducible refine s_tup ?_ | with_reducible refine s_cb ?_ | with_reducible refine s_call ?_ | with_reducible refine s_meth ?_ | with_reducible refine s_make ?_
  | with_reducible refine s_dnewK ?_ | with_reducible refine s_sl ?_ | with_reducible refine s_po0 ?_ | with_reducible refine s_po1 ?_ | with_reducible refine s_bm ?_ | with_reducible refine s_bm0 ?_
  | with_reducible refine s_bl ?_ | with_reducible refine s_int ?_ | with_reducible refine s_I0 ?_ | with_reducible refine s_addI ?_ | with_reducible refine s_intI ?_ | with_reducible refine s_intB ?_
  | with_reducible refine s_m1 ?_ | with_reducible refine s_lc ?_ | with_reducible refine s_ilist ?_ | with_reducible refine s_for ?_ | with_reducible refine s_irng ?_ | with_reducible refine s_match ?_ | with_reducible refine s_starT ?_ | with_reducible refine s_isS ?_ | with_reducible refine s_isiSS ?_ | with_reducible refine s_fldU ?_ | with_reducible refine s_sfldU ?_
  | ((with_reducible refine' s_eqS ?hq ?_); (case hq => exact rfl)) | ((with_reducible refine' s_neS ?hq ?_); (case hq => exact rfl))
  | ((with_reducible refine' s_isN ?hq ?_); (case hq => exact rfl)) | ((with_reducible refine' s_notN ?hq ?_); (case hq => exact rfl))
  | ((with_reducible refine' s_eqNil ?h1 ?h2 ?_); (case h1 => walk_at "hl"); (case h2 => walk_at "hl")) | ((with_reducible refine' s_neNil ?h1 ?h2 ?_); (case h1 => walk_at "hl"); (case h2 => walk_at "hl"))
  | ((with_reducible refine' s_ixL ?h1 ?h2 ?_); (case h1 => walk_at "hl"); (case h2 => walk_at "at")) | ((with_reducible refine' s_ixT ?h1 ?h2 ?_); (case h1 => walk_at "hl"); (case h2 => walk_at "at"))
  | ((with_reducible refine' s_inS ?h1 ?_); (case h1 => walk_at "hl")) | ((with_reducible refine' s_ninS ?h1 ?_); (case h1 => walk_at "hl")) | with_reducible refine s_inW ?_
  | ((with_reducible refine' s_lenL ?h1 ?_); (case h1 => walk_at "hl")) | ((with_reducible refine' s_lenT ?h1 ?_); (case h1 => walk_at "hl"))
  | ((with_reducible refine' s_tyL ?h1 ?_); (case h1 => walk_at "hl"))
  | ((with_reducible refine' s_fldM ?h1 ?h2 ?h3 ?_); (case h1 => walk_at "hl"); (case h2 => walk_at "fok"); (case h3 => walk_at "flk"))
  | ((with_reducible refine' s_starM ?h1 ?_); (case h1 => walk_at "hl"))
  | ((with_reducible refine' s_recv ?h1 ?h2 ?_); (case h1 => walk_at "hl"); (case h2 => exact rfl))
  | ((with_reducible refine' s_sz ?h1 ?_); (case h1 => (simp; done))))
local macro_rules | `(tactic| walk_at "rd") => `(tactic| repeat (walk_at "rd1"))
local macro_rules | `(tactic| walk_at "fok") => `(tactic| assumption)
local macro_rules | `(tactic| walk_at "flk") => `(tactic| rfl)
local macro_rules | `(tactic| walk_at "put") => `(tactic| exact rfl)

local macro_rules | `(tactic| walk_at "fok") => `(tactic| first | exact Ty.bdy (by assumption) (by decide) | exact Tb.bkr (by assumption) (by decide) | exact Ty.bdy (Tb.y (by assumption)) (by decide))
def declK (k : Bk) (ws : List Str) : Option Bk :=
  match ws with
  | w0 :: n :: l =>
    if isWord n = false ∨ (namesOf k).contains n = true then none
    else if w0 = "cell" then cellK k (w0 :: n :: l)
    else if k.cells = [] then none
    else if w0 = "handler" then handlerK k (w0 :: n :: l)
    else if l ≠ [] ∨ k.handlers ≠ [] then none
    else if (w0 = "kept" ∨ w0 = "each") ∧ k.effects = [] then some { beginK k n "answer" [] with answers := k.answers ++ [(n, w0)] }
    else if w0 = "effect" then some { beginK k n "effect" [] with effects := k.effects ++ [n] }
    else none
  | _ => none
theorem ok_BookReader_declaration (T : Tb K mg a fd tk) : FnOk P w K mg base CX0 5 (a 26) (fd 26) ["self", "words"] (spK a declK (fun _ => True)) := by
  refine T.F_BookReader_declaration.ok sc_BookReader_declaration (fun vs H Q E h => ?_) (fun cdv A outer s H vs Q E hr h => ?_)
  · obtain ⟨r, p, k, R, ws, rfl, _⟩ := h
    rfl
  · obtain ⟨r, p, k, R, ws, rfl, B, hp, hpo, W, z, hpre, hb, kN, kS⟩ := h
    refine ⟨_, (pss_cons (ps_asg (pe_ix uIx (pv 1) pe_int (fun _ _ => rfl)) (pg_name (i := 2) sc_BookReader_declaration.nd rfl (by first | exact Or.inl rfl | exact Or.inr rfl)))
  (pss_cons (ps_if (PW.pt (pw_or (pt_cmpR op_lt (pe_callB uLen (by rfl) T.x.b_len bt_len (pa_cons (pv 1) pa_nil)) pe_int (nomark _)) (pw_or (pt_not (pt_val (pe_call (ok_is_word T.x) (hr.mono (by decide)) (by rfl) T.x.g_is_word T.x.F_is_word.kp (b_is_word T.x) .nil pass0 (pa_cons (pe_ix uIx (pv 1) pe_int (fun _ _ => rfl)) pa_nil)))) (pw_or1 (pt_cmpR (uIn K) (pe_ix uIx (pv 1) pe_int (fun _ _ => rfl)) (pe_meth0 (pv 0) T.cl_BookReader T.m_BookReader_all_names (ok_BookReader_all_names T) (hr.mono (by decide)) (b_BookReader_all_names T) .nil pass0) (by rfl)))))) (pss_one (ps_ret pe_bl)) pss_nil)
  (pss_cons (ps_if (pt_cmpR (uEq K hr.units) (pv 2) pe_str (nomark _)) (pss_one (ps_ret (pe_meth (pv 0) T.cl_BookReader T.m_BookReader_cell (ok_BookReader_cell T) (hr.mono (by decide)) (b_BookReader_cell T) .nil pass0 (pa_cons (pv 1) pa_nil)))) pss_nil)
  (pss_cons (ps_if (pt_cmpR (uEq K hr.units) (pe_fldU K (pv 0)) (pe_lst pa_nil) (nomark _)) (pss_one (ps_ret pe_bl)) pss_nil)
  (pss_cons (ps_if (pt_cmpR (uEq K hr.units) (pv 2) pe_str (nomark _)) (pss_one (ps_ret (pe_meth (pv 0) T.cl_BookReader T.m_BookReader_handler (ok_BookReader_handler T) (hr.mono (by decide)) (b_BookReader_handler T) .nil pass0 (pa_cons (pv 1) pa_nil)))) pss_nil)
  (pss_cons (ps_if (PW.pt (pw_or (pt_cmpR (uNe K hr.units) (pe_callB uLen (by rfl) T.x.b_len bt_len (pa_cons (pv 1) pa_nil)) pe_int (nomark _)) (pw_or1 (pt_cmpR (uNe K hr.units) (pe_fldU K (pv 0)) (pe_lst pa_nil) (nomark _))))) (pss_one (ps_ret pe_bl)) pss_nil)
  (pss_cons (ps_if (PW.pt (pw_and (pt_cmpR (uIn K) (pv 2) (pe_tup (pa_cons pe_str (pa_cons pe_str pa_nil))) (by rfl)) (pw_and1 (pt_cmpR (uEq K hr.units) (pe_fldU K (pv 0)) (pe_lst pa_nil) (nomark _))))) (pss_cons (ps_expr (pe_meth (pv 0) T.cl_BookReader T.m_BookReader_begin (ok_BookReader_begin T) (hr.mono (by decide)) (b_BookReader_begin T) .nil pass0 (pa_cons (pe_ix uIx (pv 1) pe_int (fun _ _ => rfl)) (pa_cons pe_str (pa_cons (pe_tup pa_nil) pa_nil)))))
  (pss_cons (ps_expr (pe_bm PySem.F.plainAttrs_list PySem.F.slot_list_append PySem.F.type_list_append uAppend (pe_fldU K (pv 0)) (pa_cons (pe_tup (pa_cons (pe_ix uIx (pv 1) pe_int (fun _ _ => rfl)) (pa_cons (pv 2) pa_nil))) pa_nil)))
  (pss_one (ps_ret pe_bl)))) pss_nil)
  (pss_cons (ps_if (pt_cmpR (uEq K hr.units) (pv 2) pe_str (nomark _)) (pss_cons (ps_expr (pe_meth (pv 0) T.cl_BookReader T.m_BookReader_begin (ok_BookReader_begin T) (hr.mono (by decide)) (b_BookReader_begin T) .nil pass0 (pa_cons (pe_ix uIx (pv 1) pe_int (fun _ _ => rfl)) (pa_cons pe_str (pa_cons (pe_tup pa_nil) pa_nil)))))
  (pss_cons (ps_expr (pe_bm PySem.F.plainAttrs_list PySem.F.slot_list_append PySem.F.type_list_append uAppend (pe_fldU K (pv 0)) (pa_cons (pe_ix uIx (pv 1) pe_int (fun _ _ => rfl)) pa_nil)))
  (pss_one (ps_ret pe_bl)))) pss_nil)
  (pss_one (ps_ret pe_bl)))))))))), ?_⟩
    have hob := B.ob
    match ws, hp, W, hpre, kN, kS with
    | [], hp, W, hpre, kN, kS => exact absurd rfl W.one
    | [w0], hp, W, hpre, kN, kS =>
      have hp' : H p = some (.lst [.str w0]) := hp
      walk_at "rd"
      refine ifT (by simp) (ifT rfl ?_)
      walk_at "rd"
      exact kN rfl _ (.same (Same.refl _))
    | w0 :: n :: l, hp, W, hpre, kN, kS =>
      have hp' : H p = some (.lst (.str w0 :: .str n :: l.map V.str)) := hp
      walk_at "rd"
      refine ifF (by simp; omega) ?_
      walk_at "rd"
      refine ⟨n, rfl, sz_le (W.len n (by simp)), fun H1 s1 => ?_⟩
      have hob1 := s1 _ _ hob
      have hp1 := s1 _ _ hp'
      walk_at "rd"
      cases c1 : isWord n with
      | false =>
        refine ifT rfl (ifT rfl ?_)
        walk_at "rd"
        exact kN (by simp [declK, c1]) _ (.same s1)
      | true =>
        refine ifF rfl ?_
        walk_at "rd"
        refine ⟨r, k, R, rfl, B.same s1, z, fun la H2 s2 hl hl2 => ?_⟩
        have s2' := s1.trans s2
        have hob2 := s2' _ _ hob
        have hp2 := s2' _ _ hp'
        walk_at "rd"
        cases c2 : (namesOf k).contains n with
        | true =>
          refine ifT rfl ?_
          walk_at "rd"
          exact kN (by simp only [declK]; rw [if_pos (.inr c2)]) _ (.same s2')
        | false =>
          refine ifF rfl ?_
          have hN : ¬ (isWord n = false ∨ (namesOf k).contains n = true) := by rw [c1, c2]; simp
          have B2 := B.same s2'
          walk_at "rd"
          rw [dec_str]
          refine ifB (fun c3 => ?_) (fun c3 => ?_)
          · have c3' : w0 = "cell" := by simpa using c3
            have e : declK k (w0 :: n :: l) = cellK k (w0 :: n :: l) := by simp only [declK, if_neg hN, if_pos c3']
            walk_at "rd"
            refine ⟨r, p, k, R, w0 :: n :: l, rfl, B2, hp2, hpo, W, z, trivial, hb, fun h H' f => kN (by rw [e]; exact h) H' (fun x o hx hn => f _ _ (s2' _ _ hx) hn), fun k' h R' H' B' f o => kS k' (by rw [e]; exact h) R' H' B' (fun x o hx hn => f _ _ (s2' _ _ hx) hn) fun x hx => ?_⟩
            rcases o x hx with q | q
            · exact .inl q
            · exact .inr (s2'.free q)
          · have c3' : w0 ≠ "cell" := by simpa using c3
            have hce2 := B2.ce
            walk_at "rd"
            intro z1 hz1
            have s3 := s2'.trans (Same.new (o := .lst []) hz1)
            have B3 := B.same s3
            have hob3 := B3.ob
            have hce3 := B3.ce
            have hha3 := B3.ha
            have hp3 := s3 _ _ hp'
            have ec : R.cs.isEmpty = k.cells.isEmpty := by
              have := B.ct.1
              rw [List.length_map] at this
              cases h1 : R.cs <;> cases h2 : k.cells <;> simp [h1, h2] at this <;> rfl
            have eh : R.hs.isEmpty = k.handlers.isEmpty := by
              have := B.ht.1
              cases h1 : R.hs <;> cases h2 : k.handlers <;> simp [h1, h2] at this <;> rfl
            walk_at "rd"
            cases c4 : k.cells.isEmpty with
            | true =>
              refine ifT (by rw [List.isEmpty_map, ec, c4]) ?_
              have c4' : k.cells = [] := by simpa using c4
              walk_at "rd"
              exact kN (by simp only [declK, if_neg hN, if_neg c3', if_pos c4']) _ (.same s3)
            | false =>
              refine ifF (by rw [List.isEmpty_map, ec, c4]) ?_
              have c4' : k.cells ≠ [] := fun q => by rw [q] at c4; cases c4
              walk_at "rd"
              rw [dec_str]
              by_cases hpre' : w0 = "handler"
              · have e : declK k (w0 :: n :: l) = handlerK k (w0 :: n :: l) := by simp only [declK, if_neg hN, if_neg c3', if_neg c4', if_pos hpre']
                refine ifT (by simp [hpre']) ?_
                walk_at "rd"
                refine ⟨r, p, k, R, w0 :: n :: l, rfl, B3, hp3, hpo, W, z, by simp, hb, fun h H' f => kN (by rw [e]; exact h) H' (fun x o hx hn => f _ _ (s3 _ _ hx) hn), fun k' h R' H' B' f o => kS k' (by rw [e]; exact h) R' H' B' (fun x o hx hn => f _ _ (s3 _ _ hx) hn) fun x hx => ?_⟩
                rcases o x hx with q | q
                · exact .inl q
                · exact .inr (s3.free q)
              refine ifF (by simp [hpre']) ?_
              have eD : declK k (w0 :: n :: l) = (if l ≠ [] ∨ k.handlers ≠ [] then none
                  else if (w0 = "kept" ∨ w0 = "each") ∧ k.effects = [] then some { beginK k n "answer" [] with answers := k.answers ++ [(n, w0)] }
                  else if w0 = "effect" then some { beginK k n "effect" [] with effects := k.effects ++ [n] }
                  else none) := by simp only [declK, if_neg hN, if_neg c3', if_neg c4', if_neg hpre']
              walk_at "rd"
              rw [dec_int]
              match l, hp, hp', hp3, W, kN, kS, eD with
              | x :: l, hp, hp', hp3, W, kN, kS, eD =>
                refine ifT (by simp; omega) (ifT rfl ?_)
                walk_at "rd"
                exact kN (by rw [eD]; simp) _ (.same s3)
              | [], hp, hp', hp3, W, kN, kS, eD =>
                refine ifF (by simp) ?_
                walk_at "rd"
                intro z4 hz4
                have s4 := s3.trans (Same.new (o := .lst []) hz4)
                have B4 := B.same s4
                have hha4 := B4.ha
                have hob4 := B4.ob
                have hp4 := s4 _ _ hp'
                walk_at "rd"
                cases c5 : k.handlers.isEmpty with
                | false =>
                  refine ifT (by rw [List.isEmpty_map, eh, c5]; rfl) ?_
                  have c5' : k.handlers ≠ [] := fun q => by rw [q] at c5; cases c5
                  walk_at "rd"
                  exact kN (by rw [eD]; simp [c5']) _ (.same s4)
                | true =>
                  refine ifF (by rw [List.isEmpty_map, eh, c5]; rfl) ?_
                  have c5' : k.handlers = [] := by simpa using c5
                  rw [if_neg (by simp [c5'])] at eD
                  walk_at "rd"
                  intro u hu
                  refine s_inTS (l := ["kept", "each"]) upd_same ?_
                  have s5 := s4.trans (Same.new (o := .tup [.str "kept", .str "each"]) hu)
                  have hob5 := s5 _ _ hob
                  have hp5 := s5 _ _ hp'
                  walk_at "rd"
                  rw [contains2]
                  have last : ∀ H6, Same H H6 → declK k [w0, n] = (if w0 = "effect" then some { beginK k n "effect" [] with effects := k.effects ++ [n] } else none) →
                      tSeq (tIfS (tTest (tOp (rEqU K) (tVar 2) (tC (V.str "effect")))) (tSeq (tDrop (tMeth (a 19) "begin" (spBegin a) [] E0 (tVar 0) (tCons (tOp rIxU (tVar 1) (tC (V.int 1))) (tCons (tC (V.str "effect")) (tCons (tTup tNil) tNil))))) (tSeq (tDrop (tBM K "list" rAppU (tFldU K (tVar 0) "effects") (tCons (tOp rIxU (tVar 1) (tC (V.int 1))) tNil))) (tRet (tC (V.bl true))))) tNext) (tRet (tC (V.bl false))) ⟨fun _ H' => Q .non H', Q, fun _ _ => False, fun _ _ => False⟩ [some (.ref r), some (.ref p), some (.str w0)] H6 := by
                    intro H6 s6 eD6
                    have hp6 := s6 _ _ hp'
                    have hob6 := s6 _ _ hob
                    walk_at "rd"
                    rw [dec_str]
                    refine ifB (fun c7 => ?_) (fun c7 => ?_)
                    · have c7' : w0 = "effect" := by simpa using c7
                      rw [if_pos c7'] at eD6
                      walk_at "rd"
                      intro pt hpt
                      have s7 := s6.trans (Same.new (o := .tup []) hpt)
                      have hp7 := s7 _ _ hp'
                      have hob7 := s7 _ _ hob
                      walk_at "rd"
                      refine ⟨r, pt, n, "effect", [], k, R, rfl, B.same s7, upd_same, by simp, z, fun R' H8 B8 f8 o8 => ?_⟩
                      have hp8 := f8 _ _ hp7 hpo
                      have hob8 := B8.ob
                      have hef8 := B8.ef
                      walk_at "rd"
                      refine s_app hef8 (sz_lt (by rw [List.length_map]; have := z.2.2.1; show k.effects.length < _; omega)) ?_
                      walk_at "rd"
                      refine kS _ eD6 R' _ B8.addEff ?_ ?_
                      · intro y o hy hn
                        have : y ∉ R'.own r := fun hm => by
                          rcases o8 y hm with q | q
                          · exact hn q
                          · rw [s7 _ _ hy] at q; cases q
                        rw [upd_ne (by rintro rfl; exact this (ad_own (by simp [RF.ad])))]
                        exact f8 _ _ (s7 _ _ hy) hn
                      · intro y hy
                        rcases o8 y hy with q | q
                        · exact .inl q
                        · exact .inr (s7.free q)
                    · have c7' : w0 ≠ "effect" := by simpa using c7
                      rw [if_neg c7'] at eD6
                      walk_at "rd"
                      exact kN eD6 _ (.same s6)
                  refine ifB (fun c6 => ?_) (fun c6 => ?_)
                  · have c6' : w0 = "kept" ∨ w0 = "each" := of_decide_eq_true c6
                    walk_at "rd"
                    intro z6 hz6
                    have s6 := s5.trans (Same.new (o := .lst []) hz6)
                    have B6 := B.same s6
                    have hef6 := B6.ef
                    have hob6 := B6.ob
                    have hp6 := s6 _ _ hp'
                    walk_at "rd"
                    cases c7 : k.effects.isEmpty with
                    | false =>
                      refine ifF (by rw [List.isEmpty_map, c7]) ?_
                      have c7' : k.effects ≠ [] := fun q => by rw [q] at c7; cases c7
                      rw [if_neg (by simp [c7'])] at eD
                      walk_at "rd1"
                      exact last _ s6 eD
                    | true =>
                      refine ifT (by rw [List.isEmpty_map, c7]) ?_
                      have c7' : k.effects = [] := by simpa using c7
                      rw [if_pos ⟨c6', c7'⟩] at eD
                      walk_at "rd"
                      intro pt hpt
                      have s7 := s6.trans (Same.new (o := .tup []) hpt)
                      have hp7 := s7 _ _ hp'
                      have hob7 := s7 _ _ hob
                      walk_at "rd"
                      refine ⟨r, pt, n, "answer", [], k, R, rfl, B.same s7, upd_same, by simp, z, fun R' H8 B8 f8 o8 => ?_⟩
                      have hp8 := f8 _ _ hp7 hpo
                      have hob8 := B8.ob
                      have haw8 := B8.aw
                      walk_at "rd"
                      intro t ht
                      have s9 := Same.new (o := .tup [.str n, .str w0]) ht
                      have B9 := B8.same s9
                      have haw9 := B9.aw
                      walk_at "rd"
                      have hl : R'.as.length = k.answers.length := by
                        have := B8.at_.1
                        rw [List.length_map] at this
                        exact this
                      refine s_app haw9 (sz_lt (by rw [List.length_map, hl]; have := z.2.1; omega)) ?_
                      walk_at "rd"
                      refine kS _ eD { R' with as := R'.as ++ [t] } _ (B9.addAns upd_same) ?_ ?_
                      · intro y o hy hn
                        have : y ∉ R'.own r := fun hm => by
                          rcases o8 y hm with q | q
                          · exact hn q
                          · rw [s7 _ _ hy] at q; cases q
                        rw [upd_ne (by rintro rfl; exact this (ad_own (by simp [RF.ad])))]
                        exact s9 _ _ (f8 _ _ (s7 _ _ hy) hn)
                      · intro y hy
                        rcases o8 y hy with q | q
                        · exact .inl q
                        · exact .inr (s7.free q)
                  · have c6' : ¬ (w0 = "kept" ∨ w0 = "each") := of_decide_eq_false c6
                    rw [if_neg (by simp [c6'])] at eD
                    refine ifF rfl ?_
                    walk_at "rd1"
                    exact last _ s5 eD
theorem b_BookReader_declaration (T : Tb K mg a fd tk) : Binds K (fd 26) ["self", "words"] [] := T.F_BookReader_declaration.binds fun _ _ _ _ _ _ us hl => match us, hl with | [_, _], _ => rfl
end
end Tr
set_option maxHeartbeats 1000000

namespace Tr
open PySem L2
section
variable {P : Program} {w : World} {K : PySem.W.Frag} {mg : Str → Option Value} {base : Heap} {a : Nat → Addr} {fd : Nat → FuncData} {tk : Nat → Tok}
local macro_rules | `(tactic| walk_at "ne") => `(tactic| first | assumption | (exact Ne.symm (by assumption)) | (refine ne_of_none (by assumption) (by assumption)) | (refine Ne.symm (ne_of_none (by assumption) (by assumption))))
local macro_rules | `(tactic| walk_at "hl") => `(tactic| first | assumption | with_reducible exact upd_same | ((with_reducible refine' Eq.trans (upd_ne ?hne) ?hrest); (case hne => walk_at "ne"); (case hrest => walk_at "hl")) | (refine' get_same ?hs ?hg; (case hs => assumption); (case hg => assumption)))
local macro_rules | `(tactic| walk_at "at") => `(tactic| first | with_reducible exact atI_0 _ _ | with_reducible exact atI_1 _ _ _ | with_reducible exact atI_2 _ _ _ _ | with_reducible exact atI_3 _ _ _ _ _ | assumption)
local macro_rules | `(tactic| walk_at "rd1") => `(tactic| first
  | with_reducible refine s_seq ?_ | with_reducible refine s_next ?_ | with_reducible refine s_if ?_ | with_reducible refine s_ret ?_ | with_reducible refine s_retN ?_ | with_reducible refine s_drop ?_ | with_reducible refine s_asg ?_ | with_reducible refine s_brk ?_ | with_reducible refine s_cont ?_
  | with_reducible refine s_gname ?_ | with_reducible refine s_c ?_ | with_reducible refine s_op ?_ | with_reducible refine s_un ?_ | with_reducible refine s_neg ?_ | with_reducible refine s_test ?_ | with_reducible refine s_tb ?_ | with_reducible refine s_not ?_ | with_reducible refine s_and ?_ | with_reducible refine s_or ?_ | with_reducible refine s_yes ?_
  | ((with_reducible refine' s_var ?hv ?_); (case hv => exact rfl))
  | with_reducible refine s_ifx ?_ | with_reducible refine s_andV ?_ | with_reducible refine s_orV ?_ | with_reducible refine s_notV ?_ | with_reducible refine s_chain ?_ | with_reducible refine s_nil ?_ | with_reducible refine s_cons ?_ | with_reducible refine s_lst ?_ | with_reducible refine s_tup ?_ | with_reducible refine s_cb ?_ | with_reducible refine s_call ?_ | with_reducible refine s_meth ?_ | with_reducible refine s_make ?_
  | with_reducible refine s_dnewK ?_ | with_reducible refine s_sl ?_ | with_reducible refine s_po0 ?_ | with_reducible refine s_po1 ?_ | with_reducible refine s_bm ?_ | with_reducible refine s_bm0 ?_
  | with_reducible refine s_bl ?_ | with_reducible refine s_int ?_ | with_reducible refine s_I0 ?_ | with_reducible refine s_addI ?_ | with_reducible refine s_intI ?_ | with_reducible refine s_intB ?_
  | with_reducible refine s_m1 ?_ | with_reducible refine s_lc ?_ | with_reducible refine s_ilist ?_ | with_reducible refine s_for ?_ | with_reducible refine s_irng ?_ | with_reducible refine s_match ?_ | with_reducible refine s_starT ?_ | with_reducible refine s_isS ?_ | with_reducible refine s_isiSS ?_ | with_reducible refine s_fldU ?_ | with_reducible refine s_sfldU ?_
  | ((with_reducible refine' s_eqS ?hq ?_); (case hq => exact rfl)) | ((with_reducible refine' s_neS ?hq ?_); (case hq => exact rfl))
  | ((with_reducible refine' s_isN ?hq ?_); (case hq => exact rfl)) | ((with_reducible refine' s_notN ?hq ?_); (case hq => exact rfl))
  | ((with_reducible refine' s_eqNil ?h1 ?h2 ?_); (case h1 => walk_at "hl"); (case h2 => walk_at "hl")) | ((with_reducible refine' s_neNil ?h1 ?h2 ?_); (case h1 => walk_at "hl"); (case h2 => walk_at "hl"))
  | ((with_reducible refine' s_ixL ?h1 ?h2 ?_); (case h1 => walk_at "hl"); (case h2 => walk_at "at")) | ((with_reducible refine' s_ixT ?h1 ?h2 ?_); (case h1 => walk_at "hl"); (case h2 => walk_at "at"))
  | ((with_reducible refine' s_inS ?h1 ?_); (case h1 => walk_at "hl")) | ((with_reducible refine' s_ninS ?h1 ?_); (case h1 => walk_at "hl")) | with_reducible refine s_inW ?_
  | ((with_reducible refine' s_lenL ?h1 ?_); (case h1 => walk_at "hl")) | ((with_reducible refine' s_lenT ?h1 ?_); (case h1 => walk_at "hl"))
  | ((with_reducible refine' s_tyL ?h1 ?_); (case h1 => walk_at "hl"))
  | ((with_reducible refine' s_fldM ?h1 ?h2 ?h3 ?_); (case h1 => walk_at "hl"); (case h2 => walk_at "fok"); (case h3 => walk_at "flk"))
  | ((with_reducible refine' s_starM ?h1 ?_); (case h1 => walk_at "hl"))
  | ((with_reducible refine' s_recv ?h1 ?h2 ?_); (case h1 => walk_at "hl"); (case h2 => exact rfl))
  | ((with_reducible refine' s_sz ?h1 ?_); (case h1 => (simp; done))))
local macro_rules | `(tactic| walk_at "rd") => `(tactic| repeat (walk_at "rd1"))
local macro_rules | `(tactic| walk_at "fok") => `(tactic| assumption)
local macro_rules | `(tactic| walk_at "flk") => `(tactic| rfl)
local macro_rules | `(tactic| walk_at "put") => `(tactic| exact rfl)

local macro_rules | `(tactic| walk_at "fok") => `(tactic| first | exact Ty.bdy (by assumption) (by decide) | exact Tb.bkr (by assumption) (by decide) | exact Ty.bdy (Tb.y (by assumption)) (by decide))
/-- places[n] = v -/
def putA (ps : List (Str × Nat × Nat)) (n : Str) (v : Nat × Nat) : List (Str × Nat × Nat) := if (ps.any fun p => decide (p.1 = n)) = true then ps.map (fun p => if p.1 = n then (p.1, v) else p) else ps ++ [(n, v)]
def putN (ns : List Str) (n : Str) : List Str := if ns.contains n = true then ns else ns ++ [n]
theorem any_key {kvs : List (Key × V)} {n : Str} {ns : List Str} (h : kvs.map (·.1) = ns.map Sum.inr) : (kvs.any fun kv => decide (kv.1 = (Sum.inr n : Key))) = ns.contains n := by
  have e : (kvs.any fun kv => decide (kv.1 = (Sum.inr n : Key))) = (kvs.map (·.1)).any fun x => decide (x = (Sum.inr n : Key)) := by rw [List.any_map]; rfl
  rw [e, h, List.any_map, List.contains_eq_any_beq]
  congr 1
  funext x
  simp only [Function.comp]
  by_cases q : x = n
  · subst q; simp
  · have : ¬ (n = x) := fun z => q z.symm
    simp [q, this]
theorem keys_put {kvs : List (Key × V)} {n : Str} {v : V} {ns : List Str} (h : kvs.map (·.1) = ns.map Sum.inr) : (putK kvs (Sum.inr n : Key) v).map (·.1) = (putN ns n).map Sum.inr := by
  unfold putK putN
  rw [any_key h]
  split
  · rw [List.map_map, ← h]
    congr 1
    funext kv
    simp only [Function.comp]
    split <;> rfl
  · rw [List.map_append, List.map_append, h]
    rfl
theorem PlAt.any {H : Hp} {kvs : List (Key × V)} {ps : List (Str × Nat × Nat)} (h : PlAt H kvs ps) (n : Str) : (kvs.any fun kv => decide (kv.1 = (Sum.inr n : Key))) = ps.any fun p => decide (p.1 = n) := by
  have hk : kvs.map (·.1) = (ps.map (·.1)).map Sum.inr := by
    refine List.ext_getElem? fun i => ?_
    by_cases hi : i < kvs.length
    · have hi2 : i < ps.length := by rw [← h.1]; exact hi
      have := (h.2 i kvs[i] ps[i] (List.getElem?_eq_getElem hi) (List.getElem?_eq_getElem hi2)).1
      simp [hi, hi2, this]
    · have hi2 : ¬ i < ps.length := by rw [← h.1]; exact hi
      simp [hi, hi2]
  rw [any_key hk, List.contains_eq_any_beq, List.any_map]
  congr 1
  funext p
  simp only [Function.comp]
  by_cases q : p.1 = n
  · simp [q]
  · have : ¬ (n = p.1) := fun z => q z.symm
    simp [q, this]
theorem PlAt.put {H : Hp} {kvs : List (Key × V)} {ps : List (Str × Nat × Nat)} (h : PlAt H kvs ps) {n : Str} {t : Addr} {f l : Nat} (ht : H t = some (.tup [.int f, .int l])) : PlAt H (putK kvs (Sum.inr n : Key) (.ref t)) (putA ps n (f, l)) := by
  unfold putK putA
  rw [h.any n]
  split
  · refine ⟨by simp [h.1], fun i kv p h1 h2 => ?_⟩
    rw [List.getElem?_map] at h1 h2
    cases e1 : kvs[i]? with
    | none => rw [e1] at h1; cases h1
    | some kv' =>
      cases e2 : ps[i]? with
      | none => rw [e2] at h2; cases h2
      | some p' =>
        rw [e1] at h1
        rw [e2] at h2
        obtain ⟨g0, t', g1, g2⟩ := h.2 i kv' p' e1 e2
        simp only [Option.map_some, Option.some.injEq] at h1 h2
        by_cases q : p'.1 = n
        · rw [if_pos (by rw [g0, q])] at h1
          rw [if_pos q] at h2
          subst h1 h2
          exact ⟨g0, t, rfl, ht⟩
        · rw [if_neg (by rw [g0]; intro z; exact q (Sum.inr.inj z))] at h1
          rw [if_neg q] at h2
          subst h1 h2
          exact ⟨g0, t', g1, g2⟩
  · refine ⟨by simp [h.1], fun i kv p h1 h2 => ?_⟩
    by_cases hi : i < kvs.length
    · rw [List.getElem?_append_left hi] at h1
      rw [List.getElem?_append_left (by rw [← h.1]; exact hi)] at h2
      exact h.2 i kv p h1 h2
    · have e : i = kvs.length := by
        have := (List.getElem?_eq_some_iff.mp h1).1
        simp at this
        omega
      subst e
      rw [h.1] at h2
      simp at h1 h2
      subst h1 h2
      exact ⟨rfl, t, rfl, ht⟩
section
variable {H : Hp} {r t : Addr} {k : Bk} {R : RF}
theorem BkAt.putCo (B : BkAt a H r k R) {n : Str} {v : V} : BkAt a (upd H R.co (.dK (putK R.ck (Sum.inr n : Key) v))) r { k with coded := putN k.coded n } { R with ck := putK R.ck (Sum.inr n : Key) v } := by
  have kt : KeepT H (upd H R.co (.dK (putK R.ck (Sum.inr n : Key) v))) := B.kt (j := 6) rfl
  exact B.put (j := 6) rfl _ _ rfl rfl (B.ct.keep kt) (B.at_.keep kt) (B.ht.keep kt) (keys_put B.ckl) (B.plk.keep kt) ⟨rfl, rfl⟩
theorem BkAt.putPl (B : BkAt a H r k R) {n : Str} {f l : Nat} (ht : H t = some (.tup [.int f, .int l])) : BkAt a (upd H R.pl (.dK (putK R.pk (Sum.inr n : Key) (.ref t)))) r { k with places := putA k.places n (f, l) } { R with pk := putK R.pk (Sum.inr n : Key) (.ref t) } := by
  have kt : KeepT H (upd H R.pl (.dK (putK R.pk (Sum.inr n : Key) (.ref t)))) := B.kt (j := 7) rfl
  exact B.put (j := 7) rfl _ _ rfl rfl (B.ct.keep kt) (B.at_.keep kt) (B.ht.keep kt) B.ckl ((B.plk.keep kt).put (kt _ _ ht)) ⟨rfl, rfl⟩
end
theorem s_dput {σ : L2.St} {H : Hp} {td ty tv : TE} {na : L2.St → Hp → Prop} {rt : VK} {bk ct : L2.St → Hp → Prop} (h : tv σ H fun v H1 => td σ H1 fun x H2 => ty σ H2 fun y H3 => ∃ a H4, x = .ref a ∧ DPut H3 a y v H4 ∧ na σ H4) : sDPut td ty tv ⟨na, rt, bk, ct⟩ σ H := h
def shutK (k : Bk) (b : Bd) : Bk := { k with places := putA k.places k.name (k.count - b.code.length, k.count - 1), coded := putN k.coded k.name, deepest := max k.deepest b.deepest, body := none }
def spShut (a : Nat → Addr) : Sp := fun vs H Q _ => ∃ (r : Addr) (k : Bk) (R : RF) (b : Bd), vs = [.ref r] ∧ BkAt a H r k R ∧ k.body = some b ∧ b.code.length ≤ k.count ∧ 1 ≤ k.count ∧ b.code.length ≤ 5000 ∧ k.places.length ≤ 5000 ∧ k.coded.length ≤ 5000 ∧
  ∀ (R' : RF) (H' : Hp), BkAt a H' r (shutK k b) R' → Fr H H' (R.own r) → (∀ x ∈ R'.own r, x ∈ R.own r ∨ H x = none) → Q .non H'
theorem ok_BookReader_shut (T : Tb K mg a fd tk) : FnOk P w K mg base CX0 2 (a 25) (fd 25) ["self"] (spShut a) := by
  refine T.F_BookReader_shut.ok sc_BookReader_shut (fun vs H Q E h => ?_) (fun cdv A outer s H vs Q E hr h => ?_)
  · obtain ⟨r, k, R, b, rfl, _⟩ := h
    rfl
  · obtain ⟨r, k, R, b, rfl, B, hb, c1, c2, c3, c4, c5, kk⟩ := h
    refine ⟨_, (pss_cons (ps_dput (hu_of hr) (pe_fldU K (pv 0)) (pe_fldU K (pv 0)) (pe_meth0 (pe_fldU K (pv 0)) T.y.cl_BodyReader T.y.m_BodyReader_finished (ok_BodyReader_finished T) (hr.mono (by decide)) (b_BodyReader_finished T) .nil pass0) rfl)
  (pss_cons (ps_fldU K (pv 0) (pe_callB (call_max2 rfl) (by rfl) T.y.b_max bt_max (pa_cons (pe_fldU K (pv 0)) (pa_cons (pe_fldU K (pe_fldU K (pv 0))) pa_nil))))
  (pss_cons (ps_asg (pe_op op_sub (pe_fldU K (pv 0)) (pe_callB uLen (by rfl) T.x.b_len bt_len (pa_cons (pe_fldU K (pe_fldU K (pv 0))) pa_nil))) (pg_name (i := 1) sc_BookReader_shut.nd rfl (by first | exact Or.inl rfl | exact Or.inr rfl)))
  (pss_cons (ps_dput (hu_of hr) (pe_fldU K (pv 0)) (pe_fldU K (pv 0)) (pe_tup (pa_cons (pv 1) (pa_cons (pe_op op_sub (pe_fldU K (pv 0)) pe_int) pa_nil))) rfl)
  (pss_one (ps_fldU K (pv 0) pe_non)))))), ?_⟩
    have hbd := B.bd
    match hR : R.bd with
    | none => rw [hR, hb] at hbd; exact hbd.elim
    | some (x, F) =>
    rw [hR, hb] at hbd
    obtain ⟨Bb, hdis⟩ := hbd
    have hob : H r = some (.ins (a 19) R.dx (bkF R k.count k.deepest k.name)) := B.ob
    have hov : obV R.bd = .ref x := by rw [hR]; rfl
    walk_at "rd"
    refine s_dput ?_
    walk_at "rd"
    rw [hov]
    have hbo := Bb.ob
    walk_at "rd"
    refine ⟨x, b, F, rfl, Bb, c3, fun t xs H1 s1 ht ht1 => ?_⟩
    have B1 := B.same s1
    have hob1 := B1.ob
    have hck : R.ck.length ≤ 5000 := by
      have := congrArg List.length B.ckl
      rw [List.length_map, List.length_map] at this
      omega
    walk_at "rd"
    refine ⟨R.co, _, rfl, DPut.k (k := (Sum.inr k.name : Key)) B1.co (sz_lt (by omega)), ?_⟩
    have B2 := B1.putCo (n := k.name) (v := .ref t)
    have f2 : ∀ y, y ≠ R.co → upd H1 R.co (.dK (putK R.ck (Sum.inr k.name : Key) (.ref t))) y = H1 y := fun y hy => upd_ne hy
    generalize upd H1 R.co (.dK (putK R.ck (Sum.inr k.name : Key) (.ref t))) = H2 at B2 f2 ⊢
    have hob2 : H2 r = some (.ins (a 19) R.dx (bkF R k.count k.deepest k.name)) := B2.ob
    have hbo2 : H2 x = some (.ins (a 8) F.dx (bdF b.kind F.s F.c F.d F.k F.l b.deepest b.closed)) := by
      rw [f2 _ (fun q => hdis x own_r (by rw [q]; simp [RF.ad]))]
      exact s1 _ _ hbo
    have hbc2 : H2 F.k = some (.lst (F.es.map V.ref)) := by
      rw [f2 _ (fun q => hdis F.k own_k (by rw [q]; simp [RF.ad]))]
      exact s1 _ _ Bb.co
    walk_at "rd"
    rw [hov]
    walk_at "rd"
    refine ⟨_, _, rfl, ?_⟩
    walk_at "rd"
    refine s_rDeep T B2 (n := max k.deepest b.deepest) ?_ fun H3 B3 f3 => ?_
    · congr 1
      split <;> omega
    have hob3 : H3 r = some (.ins (a 19) R.dx (bkF R k.count (max k.deepest b.deepest) k.name)) := B3.ob
    have hxr : x ≠ r := fun q => hdis x own_r (by rw [q]; simp [RF.ad])
    have hkr : F.k ≠ r := fun q => hdis F.k own_k (by rw [q]; simp [RF.ad])
    have hbo3 : H3 x = some (.ins (a 8) F.dx (bdF b.kind F.s F.c F.d F.k F.l b.deepest b.closed)) := by rw [f3 _ hxr]; exact hbo2
    have hbc3 : H3 F.k = some (.lst (F.es.map V.ref)) := by rw [f3 _ hkr]; exact hbc2
    walk_at "rd"
    rw [hov]
    walk_at "rd"
    refine s_dput ?_
    walk_at "rd"
    intro t2 ht2
    have e1 : ((k.count : Int) - ((F.es.map V.ref).length : Int)) = ((k.count - b.code.length : Nat) : Int) := by
      rw [List.length_map, Bb.el]
      omega
    have e2 : ((k.count : Int) - 1) = ((k.count - 1 : Nat) : Int) := by omega
    rw [e1, e2]
    have s4 := Same.new (o := .tup [.int ((k.count - b.code.length : Nat) : Int), .int ((k.count - 1 : Nat) : Int)]) ht2
    have B4 := B3.same s4
    have hob4 : upd H3 t2 (.tup [.int ((k.count - b.code.length : Nat) : Int), .int ((k.count - 1 : Nat) : Int)]) r = some (.ins (a 19) R.dx (bkF R k.count (max k.deepest b.deepest) k.name)) := B4.ob
    have hpk : R.pk.length ≤ 5000 := by
      have := B.plk.1
      omega
    walk_at "rd"
    refine ⟨R.pl, _, rfl, DPut.k (k := (Sum.inr k.name : Key)) B4.pl (sz_lt (by show R.pk.length < _; omega)), ?_⟩
    have B5 := B4.putPl (n := k.name) (t := t2) (f := k.count - b.code.length) (l := k.count - 1) upd_same
    have hob5 := B5.ob
    walk_at "rd"
    refine s_rBody T B5 (o := none) (b := none) trivial rfl fun H6 B6 f6 => ?_
    have fr : ∀ y, y ∉ R.ad r → ∀ o, H y = some o → H6 y = some o := fun y hn o hy => by
      have m1 : y ≠ r := fun q => hn (by rw [q]; simp [RF.ad])
      have m2 : y ≠ R.co := fun q => hn (by rw [q]; simp [RF.ad])
      have m3 : y ≠ R.pl := fun q => hn (by rw [q]; simp [RF.ad])
      rw [f6 _ m1]
      show upd _ R.pl _ y = some o
      rw [upd_ne m3]
      refine s4 _ _ ?_
      rw [f3 _ m1, f2 _ m2]
      exact s1 _ _ hy
    refine kk _ H6 B6 (fun y o hy hn => fr y (fun q => hn (ad_own q)) o hy) fun y hy => ?_
    rcases List.mem_append.mp hy with h | h
    · exact .inl (ad_own h)
    · cases h
theorem b_BookReader_shut (T : Tb K mg a fd tk) : Binds K (fd 25) ["self"] [] := T.F_BookReader_shut.binds fun _ _ _ _ _ _ us hl => match us, hl with | [_], _ => rfl
end
end Tr
set_option maxHeartbeats 1000000

namespace Tr
open PySem L2
section
variable {P : Program} {w : World} {K : PySem.W.Frag} {mg : Str → Option Value} {base : Heap} {a : Nat → Addr} {fd : Nat → FuncData} {tk : Nat → Tok}
local macro_rules | `(tactic| walk_at "ne") => `(tactic| first | assumption | (exact Ne.symm (by assumption)) | (refine ne_of_none (by assumption) (by assumption)) | (refine Ne.symm (ne_of_none (by assumption) (by assumption))))
local macro_rules | `(tactic| walk_at "hl") => `(tactic| first | assumption | with_reducible exact upd_same | ((with_reducible refine' Eq.trans (upd_ne ?hne) ?hrest); (case hne => walk_at "ne"); (case hrest => walk_at "hl")) | (refine' get_same ?hs ?hg; (case hs => assumption); (case hg => assumption)))
local macro_rules | `(tactic| walk_at "at") => `(tactic| first | with_reducible exact atI_0 _ _ | with_reducible exact atI_1 _ _ _ | with_reducible exact atI_2 _ _ _ _ | with_reducible exact atI_3 _ _ _ _ _ | assumption)
local macro_rules | `(tactic| walk_at "rd1") => `(tactic| first
  | with_reducible refine s_seq ?_ | with_reducible refine s_next ?_ | with_reducible refine s_if ?_ | with_reducible refine s_ret ?_ | with_reducible refine s_retN ?_ | with_reducible refine s_drop ?_ | with_reducible refine s_asg ?_ | with_reducible refine s_brk ?_ | with_reducible refine s_cont ?_
  | with_reducible refine s_gname ?_ | with_reducible refine s_c ?_ | with_reducible refine s_op ?_ | with_reducible refine s_un ?_ | with_reducible refine s_neg ?_ | with_reducible refine s_test ?_ | with_reducible refine s_tb ?_ | with_reducible refine s_not ?_ | with_reducible refine s_and ?_ | with_reducible refine s_or ?_ | with_reducible refine s_yes ?_
  | ((with_reducible refine' s_var ?hv ?_); (case hv => exact rfl))
  | with_reducible refine s_ifx ?_ | with_reducible refine s_andV ?_ | with_reducible refine s_orV ?_ | with_reducible refine s_notV ?_ | with_reducible refine s_chain ?_ | with_reducible refine s_nil ?_ | with_reducible refine s_cons ?_ | with_reducible refine s_lst ?_ | with_reducible refine s_tup ?_ | with_reducible refine s_cb ?_ | with_reducible refine s_call ?_ | with_reducible refine s_meth ?_ | with_reducible refine s_make ?_
  | with_reducible refine s_dnewK ?_ | with_reducible refine s_sl ?_ | with_reducible refine s_po0 ?_ | with_reducible refine s_po1 ?_ | with_reducible refine s_bm ?_ | with_reducible refine s_bm0 ?_
  | with_reducible refine s_bl ?_ | with_reducible refine s_int ?_ | with_reducible refine s_I0 ?_ | with_reducible refine s_addI ?_ | with_reducible refine s_intI ?_ | with_reducible refine s_intB ?_
  | with_reducible refine s_m1 ?_ | with_reducible refine s_lc ?_ | with_reducible refine s_ilist ?_ | with_reducible refine s_for ?_ | with_reducible refine s_irng ?_ | with_reducible refine s_match ?_ | with_reducible refine s_starT ?_ | with_reducible refine s_isS ?_ | with_reducible refine s_isiSS ?_ | with_reducible refine s_fldU ?_ | with_reducible refine s_sfldU ?_
  | ((with_reducible refine' s_eqS ?hq ?_); (case hq => exact rfl)) | ((with_reducible refine' s_neS ?hq ?_); (case hq => exact rfl))
  | ((with_reducible refine' s_isN ?hq ?_); (case hq => exact rfl)) | ((with_reducible refine' s_notN ?hq ?_); (case hq => exact rfl))
  | ((with_reducible refine' s_eqNil ?h1 ?h2 ?_); (case h1 => walk_at "hl"); (case h2 => walk_at "hl")) | ((with_reducible refine' s_neNil ?h1 ?h2 ?_); (case h1 => walk_at "hl"); (case h2 => walk_at "hl"))
  | ((with_reducible refine' s_ixL ?h1 ?h2 ?_); (case h1 => walk_at "hl"); (case h2 => walk_at "at")) | ((with_reducible refine' s_ixT ?h1 ?h2 ?_); (case h1 => walk_at "hl"); (case h2 => walk_at "at"))
  | ((with_reducible refine' s_inS ?h1 ?_); (case h1 => walk_at "hl")) | ((with_reducible refine' s_ninS ?h1 ?_); (case h1 => walk_at "hl")) | with_reducible refine s_inW ?_
  | ((with_reducible refine' s_lenL ?h1 ?_); (case h1 => walk_at "hl")) | ((with_reducible refine' s_lenT ?h1 ?_); (case h1 => walk_at "hl"))
  | ((with_reducible refine' s_tyL ?h1 ?_); (case h1 => walk_at "hl"))
  | ((with_reducible refine' s_fldM ?h1 ?h2 ?h3 ?_); (case h1 => walk_at "hl"); (case h2 => walk_at "fok"); (case h3 => walk_at "flk"))
  | ((with_reducible refine' s_starM ?h1 ?_); (case h1 => walk_at "hl"))
  | ((with_reducible refine' s_recv ?h1 ?h2 ?_); (case h1 => walk_at "hl"); (case h2 => exact rfl))
  | ((with_reducible refine' s_sz ?h1 ?_); (case h1 => (simp; done))))
local macro_rules | `(tactic| walk_at "rd") => `(tactic| repeat (walk_at "rd1"))
local macro_rules | `(tactic| walk_at "fok") => `(tactic| assumption)
local macro_rules | `(tactic| walk_at "flk") => `(tactic| rfl)
local macro_rules | `(tactic| walk_at "put") => `(tactic| exact rfl)

local macro_rules | `(tactic| walk_at "fok") => `(tactic| first | exact Ty.bdy (by assumption) (by decide) | exact Tb.bkr (by assumption) (by decide) | exact Ty.bdy (Tb.y (by assumption)) (by decide))
def numsOf (ws : List Str) : List Int := (ws.filter isNumber).map intOf
def midK (k : Bk) (ws : List Str) : Option Bk := match k.body with
  | none => declK k ws
  | some b => (takeB b ws).map fun b' => { k with body := some b' }
def endK (k : Bk) : Bk := match k.body with
  | none => k
  | some b => if b.closed = true then shutK k b else k
def takeK (k : Bk) (line : Str) : Option Bk :=
  if wordsOf line = [] then none else (midK k (wordsOf line)).map fun k1 => endK { k1 with written := k1.written ++ numsOf (wordsOf line), count := k1.count + 1 }
theorem s_fldAug {σ : L2.St} {H : Hp} {ta tv : TE} {rd : V → V → Hp → VK → Prop} {f : Str} {na : L2.St → Hp → Prop} {rt : VK} {bk ct : L2.St → Hp → Prop} (h : ta σ H fun x H1 => ∃ a C dx fs v, x = .ref a ∧ H1 a = some (.ins C dx fs) ∧ Cls K C ∧ NoAttr K C f ∧ fs.lookup f = some v ∧
  tv σ H1 fun y H2 => rd v y H2 fun z H3 => ∃ dx' fs', H3 a = some (.ins C dx' fs') ∧ fs'.length < 1000 ∧ na σ (upd H3 a (.ins C dx' (putF f z fs')))) : sFldAug K ta tv rd f ⟨na, rt, bk, ct⟩ σ H := h
def BdOk (k : Bk) (b : Bd) : Prop := b.Ok ∧ b.code.length < 4000 ∧ b.scope.length ≤ 5000 ∧ b.blocks.length ≤ 4000 ∧ b.code.length ≤ k.count
def spTakeR0 (a : Nat → Addr) : Sp := fun vs H Q _ => ∃ (r : Addr) (line : Str) (k : Bk) (R : RF), vs = [.ref r, .str line] ∧ BkAt a H r k R ∧ line.length ≤ 100000 ∧ (wordsOf line ≠ [] → WsOk (wordsOf line)) ∧ BkSz k ∧ k.written.length + (wordsOf line).length ≤ 100000 ∧ k.places.length ≤ 4000 ∧ k.coded.length ≤ 4000 ∧ (∀ b, k.body = some b → BdOk k b) ∧
  (takeK k line = none → ∀ H', Fr H H' (R.own r) → Q (.bl false) H') ∧
  (∀ k', takeK k line = some k' → ∀ (R' : RF) (H' : Hp), BkAt a H' r k' R' → Fr H H' (R.own r) → (∀ x ∈ R'.own r, x ∈ R.own r ∨ H x = none) → Q (.bl true) H')
def spTakeR (a : Nat → Addr) : Sp := fun vs H Q E => spTakeR0 a vs H Q E ∨ ∃ (r : Addr) (v : V), vs = [.ref r, v] ∧ NonStr H v ∧ ∀ H', Same H H' → Q (.bl false) H'
theorem fr_free {H H' : Hp} {S : List Addr} (f : Fr H H' S) {y : Addr} (hy : H' y = none) : y ∈ S ∨ H y = none := by
  by_cases hm : y ∈ S
  · exact .inl hm
  · cases h : H y with
    | none => exact .inr rfl
    | some o =>
      have := f _ _ h hm
      rw [hy] at this
      cases this
theorem own_notTup {F : BF} {H : Hp} {r : Addr} {b : Bd} (B : BodyAt a H r b F) : ∀ x ∈ F.own r, ∀ vs, H x ≠ some (.tup vs) := by
  refine own_all ?_ ?_ ?_ ?_ ?_ ?_ (fun x hx => ?_) (fun x hx => ?_)
  · intro vs q; rw [B.ob] at q; cases q
  · intro vs q; rw [B.sc] at q; cases q
  · intro vs q; rw [B.ce] at q; cases q
  · intro vs q; rw [B.re] at q; cases q
  · intro vs q; rw [B.co] at q; cases q
  · intro vs q; rw [B.bl] at q; cases q
  · intro vs q
    obtain ⟨i, hi, hi2⟩ := List.mem_iff_getElem.mp hx
    obtain ⟨w, us, _, h2, _⟩ := B.en i x (by rw [List.getElem?_eq_getElem hi, hi2])
    rw [h2] at q
    cases q
  · intro vs q
    obtain ⟨i, hi, hi2⟩ := List.mem_iff_getElem.mp hx
    obtain ⟨w, st, ou, dx, _, h2⟩ := B.bk i x (by rw [List.getElem?_eq_getElem hi, hi2])
    rw [h2] at q
    cases q
theorem BkAt.newBody {H H' : Hp} {r x : Addr} {k : Bk} {R : RF} {F F' : BF} {b b' : Bd} (B : BkAt a H r k R) (hR : R.bd = some (x, F)) (hk : k.body = some b) (B' : BodyAt a H' x b' F') (f : ∀ y o, H y = some o → y ∉ F.own x → H' y = some o) (o : ∀ y ∈ F'.own x, y ∈ F.own x ∨ H y = none) :
    BkAt a H' r { k with body := some b' } { R with bd := some (x, F') } := by
  have hbd := B.bd
  rw [hR, hk] at hbd
  obtain ⟨Bb, hdis⟩ := hbd
  have kt : KeepT H H' := fun y vs hy => f y _ hy fun q => own_notTup Bb y q vs hy
  refine ⟨?_, B.nd, B.ct.keep kt, B.at_.keep kt, B.ht.keep kt, B.ckl, B.plk.keep kt, B', fun y hy hm => ?_⟩
  · have e : cont a { k with body := some b' } { R with bd := some (x, F') } = cont a k R := by
      simp only [cont, bkF, hR]
      rfl
    rw [e]
    exact HasAll.keep B.all fun y u hy hm => f _ _ hy fun q => hdis y q hm
  · rcases o y hy with q | q
    · exact hdis y q hm
    · obtain ⟨u, hu⟩ := B.all.bound hm
      rw [q] at hu
      cases hu
theorem declK_keeps {k k' : Bk} {ws : List Str} (h : declK k ws = some k') : k'.written = k.written ∧ k'.places = k.places ∧ k'.coded = k.coded ∧ k'.count = k.count ∧ ∀ b, k.body = none → k'.body = some b → b.code = [] := by
  match ws with
  | [] => cases h
  | [_] => cases h
  | w0 :: n :: l =>
    simp only [declK] at h
    split at h
    · cases h
    split at h
    · unfold cellK at h
      repeat' split at h
      all_goals first | (cases h; refine ⟨rfl, rfl, rfl, rfl, fun b h1 h2 => ?_⟩; rw [h1] at h2; cases h2) | cases h
    split at h
    · cases h
    split at h
    · unfold handlerK at h
      repeat' split at h
      all_goals first | (cases h; refine ⟨rfl, rfl, rfl, rfl, fun b h1 h2 => ?_⟩; cases h2; rfl) | cases h
    split at h
    · cases h
    split at h
    · cases h; refine ⟨rfl, rfl, rfl, rfl, fun b h1 h2 => ?_⟩; cases h2; rfl
    split at h
    · cases h; refine ⟨rfl, rfl, rfl, rfl, fun b h1 h2 => ?_⟩; cases h2; rfl
    · cases h
theorem takeB_code {b b' : Bd} {ws : List Str} (h : takeB b ws = some b') : b'.code.length = b.code.length + 1 := by
  unfold takeB at h
  cases e : entryB b ws with
  | none => rw [e] at h; cases h
  | some x =>
    obtain ⟨w0, b1⟩ := x
    rw [e] at h
    cases h
    show (b1.code ++ [w0]).length = _
    rw [List.length_append, entryB_code e]
    rfl
theorem ok_BookReader_take (T : Tb K mg a fd tk) : FnOk P w K mg base CX0 7 (a 24) (fd 24) ["self", "line"] (spTakeR a) := by
  refine T.F_BookReader_take.ok sc_BookReader_take (fun vs H Q E h => ?_) (fun cdv A outer s H vs Q E hr h => ?_)
  · rcases h with ⟨r, line, k, R, rfl, _⟩ | ⟨r, v, rfl, _⟩ <;> rfl
  · rcases h with ⟨r, line, k, R, rfl, B, zl, hW, z, zw, zp, zc, hbk, kN, kS⟩ | ⟨r, v, rfl, hv, k⟩
    rotate_left
    · refine ⟨_, (pss_cons (ps_asg (pe_call (ok_words_of T.x) (hr.mono (by decide)) (by rfl) T.x.g_words_of T.x.F_words_of.kp (b_words_of T.x) .nil pass0 (pa_cons (pv 1) pa_nil)) (pg_name (i := 2) sc_BookReader_take.nd rfl (by first | exact Or.inl rfl | exact Or.inr rfl)))
  (pss_cons (ps_if (pt_cmpR (uEq K hr.units) (pv 2) (pe_lst pa_nil) (nomark _)) (pss_one (ps_ret pe_bl)) pss_nil)
  (pss_cons (ps_if (pt_cmpR op_isN1 (pe_fldU K (pv 0)) pe_non (nomark _)) (pss_one (ps_asg (pe_meth (pv 0) T.cl_BookReader T.m_BookReader_declaration (ok_BookReader_declaration T) (hr.mono (by decide)) (b_BookReader_declaration T) .nil pass0 (pa_cons (pv 2) pa_nil)) (pg_name (i := 3) sc_BookReader_take.nd rfl (by first | exact Or.inl rfl | exact Or.inr rfl)))) (pss_one (ps_asg (pe_meth (pe_fldU K (pv 0)) T.y.cl_BodyReader T.y.m_BodyReader_take (ok_BodyReader_take T.y T.x) (hr.mono (by decide)) (b_BodyReader_take T.y) .nil pass0 (pa_cons (pv 2) pa_nil)) (pg_name (i := 3) sc_BookReader_take.nd rfl (by first | exact Or.inl rfl | exact Or.inr rfl)))))
  (pss_cons (ps_if (pt_not (pt_val (pv 3))) (pss_one (ps_ret pe_bl)) pss_nil)
  (pss_cons (ps_expr (pe_bm PySem.F.plainAttrs_list PySem.F.slot_list_extend PySem.F.type_list_extend uExtend (pe_fldU K (pv 0)) (pa_cons (pe_lc (own := [("word", 4)]) rfl sc_BookReader_take.nd (pi_list (pv 2)) (blkOk_by (N := N_BookReader_take) (sc := defScope s_BookReader_take) (by decide +kernel)) (fun _ _ _ _ _ => (pg_name (i := 4) sc_BookReader_take.nd rfl (by first | exact Or.inl rfl | exact Or.inr rfl))) (fun _ _ _ _ _ => (pts_one (pt_val (pe_call (ok_is_number T.x) (hr.mono (by decide)) (by rfl) T.x.g_is_number T.x.F_is_number.kp (b_is_number T.x) .nil pass0 (pa_cons (pv 4) pa_nil))))) (fun _ _ _ _ _ => (pe_callTy uInt (by rfl) T.x.b_int bt_int (pa_cons (pv 4) pa_nil)))) pa_nil)))
  (pss_cons (ps_fldaug (pv 0) pe_int in_add)
  (pss_cons (ps_if (PW.pt (pw_and (pt_cmpR op_notN1 (pe_fldU K (pv 0)) pe_non (nomark _)) (pw_and1 (pt_val (pe_fldU K (pe_fldU K (pv 0))))))) (pss_one (ps_expr (pe_meth0 (pv 0) T.cl_BookReader T.m_BookReader_shut (ok_BookReader_shut T) (hr.mono (by decide)) (b_BookReader_shut T) .nil pass0))) pss_nil)
  (pss_one (ps_ret pe_bl))))))))), ?_⟩
      walk_at "rd"
      refine .inr ⟨v, rfl, hv, fun p H1 s1 hp0 hp1 => ?_⟩
      walk_at "rd"
      intro z1 hz1
      have s2 := s1.trans (Same.new (o := .lst []) hz1)
      have hp2 : upd H1 z1 (.lst []) p = some (.lst []) := (Same.new hz1) _ _ hp1
      walk_at "rd"
      refine ifT rfl ?_
      walk_at "rd"
      exact k _ s2
    refine ⟨_, (pss_cons (ps_asg (pe_call (ok_words_of T.x) (hr.mono (by decide)) (by rfl) T.x.g_words_of T.x.F_words_of.kp (b_words_of T.x) .nil pass0 (pa_cons (pv 1) pa_nil)) (pg_name (i := 2) sc_BookReader_take.nd rfl (by first | exact Or.inl rfl | exact Or.inr rfl)))
  (pss_cons (ps_if (pt_cmpR (uEq K hr.units) (pv 2) (pe_lst pa_nil) (nomark _)) (pss_one (ps_ret pe_bl)) pss_nil)
  (pss_cons (ps_if (pt_cmpR op_isN1 (pe_fldU K (pv 0)) pe_non (nomark _)) (pss_one (ps_asg (pe_meth (pv 0) T.cl_BookReader T.m_BookReader_declaration (ok_BookReader_declaration T) (hr.mono (by decide)) (b_BookReader_declaration T) .nil pass0 (pa_cons (pv 2) pa_nil)) (pg_name (i := 3) sc_BookReader_take.nd rfl (by first | exact Or.inl rfl | exact Or.inr rfl)))) (pss_one (ps_asg (pe_meth (pe_fldU K (pv 0)) T.y.cl_BodyReader T.y.m_BodyReader_take (ok_BodyReader_take T.y T.x) (hr.mono (by decide)) (b_BodyReader_take T.y) .nil pass0 (pa_cons (pv 2) pa_nil)) (pg_name (i := 3) sc_BookReader_take.nd rfl (by first | exact Or.inl rfl | exact Or.inr rfl)))))
  (pss_cons (ps_if (pt_not (pt_val (pv 3))) (pss_one (ps_ret pe_bl)) pss_nil)
  (pss_cons (ps_expr (pe_bm PySem.F.plainAttrs_list PySem.F.slot_list_extend PySem.F.type_list_extend uExtend (pe_fldU K (pv 0)) (pa_cons (pe_lc (own := [("word", 4)]) rfl sc_BookReader_take.nd (pi_list (pv 2)) (blkOk_by (N := N_BookReader_take) (sc := defScope s_BookReader_take) (by decide +kernel)) (fun _ _ _ _ _ => (pg_name (i := 4) sc_BookReader_take.nd rfl (by first | exact Or.inl rfl | exact Or.inr rfl))) (fun _ _ _ _ _ => (pts_one (pt_val (pe_call (ok_is_number T.x) (hr.mono (by decide)) (by rfl) T.x.g_is_number T.x.F_is_number.kp (b_is_number T.x) .nil pass0 (pa_cons (pv 4) pa_nil))))) (fun _ _ _ _ _ => (pe_callTy uInt (by rfl) T.x.b_int bt_int (pa_cons (pv 4) pa_nil)))) pa_nil)))
  (pss_cons (ps_fldaug (pv 0) pe_int in_add)
  (pss_cons (ps_if (PW.pt (pw_and (pt_cmpR op_notN1 (pe_fldU K (pv 0)) pe_non (nomark _)) (pw_and1 (pt_val (pe_fldU K (pe_fldU K (pv 0))))))) (pss_one (ps_expr (pe_meth0 (pv 0) T.cl_BookReader T.m_BookReader_shut (ok_BookReader_shut T) (hr.mono (by decide)) (b_BookReader_shut T) .nil pass0))) pss_nil)
  (pss_one (ps_ret pe_bl))))))))), ?_⟩
    have hob := B.ob
    walk_at "rd"
    refine .inl ⟨line, rfl, zl, fun p H1 s1 hp0 hp1 => ?_⟩
    have hpo : p ∉ R.own r := B.fresh hp0
    have B1 := B.same s1
    have hob1 := B1.ob
    walk_at "rd"
    intro z1 hz1
    have s2 := s1.trans (Same.new (o := .lst []) hz1)
    have B2 := B.same s2
    have hob2 := B2.ob
    have hp2 : upd H1 z1 (.lst []) p = some (.lst ((wordsOf line).map V.str)) := (Same.new hz1) _ _ hp1
    walk_at "rd"
    by_cases c1 : wordsOf line = []
    · refine ifT (by rw [c1]; rfl) ?_
      walk_at "rd"
      exact kN (by simp [takeK, c1]) _ (.same s2)
    have W := hW c1
    refine ifF (by rw [List.isEmpty_map]; simpa using c1) ?_
    have rest : ∀ (Hc : Hp) (k1 : Bk) (R1 : RF), BkAt a Hc r k1 R1 → Fr (upd H1 z1 (.lst [])) Hc (R.own r) → (∀ x ∈ R1.own r, x ∈ R.own r ∨ upd H1 z1 (.lst []) x = none) → midK k (wordsOf line) = some k1 →
        k1.written = k.written → k1.places = k.places → k1.coded = k.coded → k1.count = k.count → (∀ b, k1.body = some b → b.code.length ≤ k.count + 1 ∧ b.code.length ≤ 5000) →
        tSeq (tIfS (tNot (tB (tVar 3))) (tRet (tC (V.bl false))) tNext)
          (tSeq (tDrop (tBM K "list" rExtU (tFldU K (tVar 0) "written") (tCons (tLc (iList K (tVar 2)) (gName 4) (tB (tCall spIsNumber [] E0 (tCons (tVar 4) tNil))) (tCB rIntU (tCons (tVar 4) tNil)) [4]) tNil)))
            (tSeq (sFldAug K (tVar 0) (tC (V.int 1)) rAdd "count")
              (tSeq (tIfS (tAnd (tTest (tOp rNotN (tFldU K (tVar 0) "open_body") (tC V.non))) (tB (tFldU K (tFldU K (tVar 0) "open_body") "is_closed"))) (tDrop (tMeth (a 19) "shut" (spShut a) [] E0 (tVar 0) tNil)) tNext)
                (tRet (tC (V.bl true))))))
          ⟨fun _ H' => Q .non H', Q, fun _ _ => False, fun _ _ => False⟩ [some (.ref r), some (.str line), some (.ref p), some (.bl true), none] Hc := by
      intro Hc k1 R1 Bc fc oc hm ew ep ecd ecnt hb1
      have hpc : Hc p = some (.lst ((wordsOf line).map V.str)) := fc _ _ hp2 hpo
      have hobc := Bc.ob
      have hwrc := Bc.wr
      have hpn : p ∉ R1.own r := fun q => by
        rcases oc p q with h | h
        · exact hpo h
        · rw [hp2] at h; cases h
      walk_at "rd"
      refine ifF rfl ?_
      walk_at "rd"
      refine s_lcM (wordsOf line) (fun x => if isNumber x = true then some (.int (intOf x)) else none) hpc (by simp) W.few ?_ ?_
      · intro i x v H2 Rk R0 hx hv s2 k1' k2'
        rw [List.getElem?_map, hx] at hv
        cases hv
        have hxm : x ∈ wordsOf line := List.mem_of_getElem? hx
        refine ⟨by rfl, ?_⟩
        walk_at "rd"
        refine ⟨x, rfl, sz_le (W.len x hxm), fun H3 s3 => ?_⟩
        walk_at "rd"
        cases c2 : isNumber x with
        | true =>
          obtain ⟨nn, hnn⟩ := W.num x hxm c2
          have hio : intOf x = nn := by simp [intOf, hnn]
          refine ifT rfl ?_
          walk_at "rd"
          refine s_intS hnn (by have := isNumber_len c2; omega) ?_
          exact k1' _ (by rw [if_pos c2, hio]) _ s3
        | false =>
          refine ifF rfl ?_
          exact k2' (by rw [c2]; rfl) _ s3
      intro D H4 s4 hD hD4
      have eN : (wordsOf line).filterMap (fun x => if isNumber x = true then some (V.int (intOf x)) else none) = (numsOf (wordsOf line)).map V.int := by
        unfold numsOf
        induction wordsOf line with
        | nil => rfl
        | cons x l ih =>
          cases c2 : isNumber x <;> simp [c2, ih]
      rw [eN] at hD4
      have B4 := Bc.same s4
      have hwr4 := B4.wr
      have hob4 := B4.ob
      have hnl : (numsOf (wordsOf line)).length ≤ (wordsOf line).length := by
        unfold numsOf
        rw [List.length_map]
        exact List.length_filter_le _ _
      walk_at "rd"
      refine s_ext hwr4 hD4 (sz_le (by rw [List.length_map, List.length_map, ew]; omega)) (fun q => by rw [← q, hwrc] at hD; cases hD) ?_
      have B5 := B4.addWr (ns := numsOf (wordsOf line))
      have f5 : ∀ y, y ≠ R1.wr → upd H4 R1.wr (.lst (k1.written.map V.int ++ (numsOf (wordsOf line)).map V.int)) y = H4 y := fun y hy => upd_ne hy
      generalize upd H4 R1.wr (.lst (k1.written.map V.int ++ (numsOf (wordsOf line)).map V.int)) = H5 at B5 f5 ⊢
      have hob5 := B5.ob
      walk_at "rd"
      refine s_fldAug ?_
      walk_at "rd"
      refine ⟨r, a 19, _, _, _, rfl, hob5, T.cl_BookReader, T.f_BookReader "count" (by decide), rfl, ?_⟩
      walk_at "rd"
      refine ⟨_, _, rfl, rfl, _, _, hob5, Nat.le_of_ble_eq_true rfl, ?_⟩
      have B6 := B5.setOb (k1.count + 1) k1.deepest k1.name
      have f6 : ∀ y, y ≠ r → upd H5 r (.ins (a 19) R1.dx (bkF R1 (k1.count + 1) k1.deepest k1.name)) y = H5 y := fun y hy => upd_ne hy
      show tSeq _ _ _ _ (upd H5 r (.ins (a 19) R1.dx (bkF R1 (k1.count + 1) k1.deepest k1.name)))
      generalize upd H5 r (.ins (a 19) R1.dx (bkF R1 (k1.count + 1) k1.deepest k1.name)) = H6 at B6 f6 ⊢
      have hob6 := B6.ob
      have hbd6 := B6.bd
      have f46 : ∀ y o, Hc y = some o → y ∉ R1.ad r → H6 y = some o := fun y o hy hn => by
        rw [f6 _ (fun q => hn (by rw [q]; simp [RF.ad])), f5 _ (fun q => hn (by rw [q]; simp [RF.ad]))]
        exact s4 _ _ hy
      have F6 : Fr H H6 (R.own r) := fun y o hy hn => f46 y o (fc _ _ (s2 _ _ hy) hn) fun q => by
        rcases oc y (ad_own q) with h | h
        · exact hn h
        · rw [s2 _ _ hy] at h; cases h
      have O6 : ∀ x ∈ R1.own r, x ∈ R.own r ∨ H x = none := fun x hx => by
        rcases oc x hx with h | h
        · exact .inl h
        · exact .inr (s2.free h)
      have htk : takeK k line = some (endK { k1 with written := k1.written ++ numsOf (wordsOf line), count := k1.count + 1 }) := by
        unfold takeK
        rw [if_neg c1, hm]
        rfl
      walk_at "rd"
      match hR : R1.bd, hk : k1.body with
      | some (x, F), none => have hbd6' : BdAt a H6 (R1.ad r) R1.bd k1.body := hbd6; rw [hR, hk] at hbd6'; exact hbd6'.elim
      | none, some b => have hbd6' : BdAt a H6 (R1.ad r) R1.bd k1.body := hbd6; rw [hR, hk] at hbd6'; exact hbd6'.elim
      | none, none =>
        refine ifF (by simp [obV]) (ifF rfl ?_)
        walk_at "rd"
        refine kS _ htk R1 H6 ?_ F6 O6
        have e : endK { k1 with written := k1.written ++ numsOf (wordsOf line), count := k1.count + 1 } = { k1 with written := k1.written ++ numsOf (wordsOf line), count := k1.count + 1 } := by simp [endK, hk]
        rw [e]
        exact B6
      | some (x, F), some b =>
        have hbd6' : BdAt a H6 (R1.ad r) R1.bd k1.body := hbd6
        rw [hR, hk] at hbd6'
        obtain ⟨Bb, hdis⟩ := hbd6'
        have hbo := Bb.ob
        refine ifT (by simp [obV]) ?_
        walk_at "rd"
        have hov : obV R1.bd = .ref x := by rw [hR]; rfl
        rw [hov]
        walk_at "rd"
        cases hcl : b.closed with
        | true =>
          refine ifT rfl ?_
          walk_at "rd"
          obtain ⟨q1, q2⟩ := hb1 b hk
          refine ⟨r, _, R1, b, rfl, B6, hk, by show _ ≤ k1.count + 1; omega, by show 1 ≤ k1.count + 1; omega, q2, by show k1.places.length ≤ _; rw [ep]; omega, by show k1.coded.length ≤ _; rw [ecd]; omega, fun R' H7 B7 f7 o7 => ?_⟩
          walk_at "rd"
          have e : endK { k1 with written := k1.written ++ numsOf (wordsOf line), count := k1.count + 1 } = shutK { k1 with written := k1.written ++ numsOf (wordsOf line), count := k1.count + 1 } b := by simp [endK, hk, hcl]
          refine kS _ htk R' H7 (by rw [e]; exact B7) (F6.trans f7 O6) fun y hy => ?_
          rcases o7 y hy with q | q
          · exact O6 y q
          · exact fr_free F6 q
        | false =>
          refine ifF rfl ?_
          walk_at "rd"
          refine kS _ htk R1 H6 ?_ F6 O6
          have e : endK { k1 with written := k1.written ++ numsOf (wordsOf line), count := k1.count + 1 } = { k1 with written := k1.written ++ numsOf (wordsOf line), count := k1.count + 1 } := by simp [endK, hk, hcl]
          rw [e]
          exact B6
    walk_at "rd"
    match hR : R.bd, hk : k.body with
    | some (x, F), none => have hbd := B.bd; rw [hR, hk] at hbd; exact hbd.elim
    | none, some b => have hbd := B.bd; rw [hR, hk] at hbd; exact hbd.elim
    | none, none =>
      refine ifT (by simp [obV]) ?_
      walk_at "rd"
      refine ⟨r, p, k, R, wordsOf line, rfl, B2, hp2, hpo, W, z, trivial, hk, fun h H3 f3 => ?_, fun k' h R' H3 B3 f3 o3 => ?_⟩
      · walk_at "rd"
        refine ifT rfl ?_
        walk_at "rd"
        exact kN (by simp [takeK, c1, midK, hk, h]) _ fun y o hy hn => f3 _ _ (s2 _ _ hy) hn
      · have hd := declK_keeps h
        refine rest H3 k' R' B3 f3 o3 (by simp [midK, hk, h]) hd.1 hd.2.1 hd.2.2.1 hd.2.2.2.1 fun b hb => ?_
        have := hd.2.2.2.2 b hk hb
        rw [this]
        exact ⟨by simp, by simp⟩
    | some (x, F), some b =>
      refine ifF (by simp [obV]) ?_
      have hbd := B2.bd
      rw [hR, hk] at hbd
      obtain ⟨Bb, hdis⟩ := hbd
      have hbo := Bb.ob
      obtain ⟨q1, q2, q3, q4, q5⟩ := hbk b hk
      walk_at "rd"
      have hov : obV R.bd = .ref x := by rw [hR]; rfl
      rw [hov]
      walk_at "rd"
      have hsub : ∀ y, y ∈ F.own x → y ∈ R.own r := fun y hy => List.mem_append.mpr (.inr (by rw [hR]; exact hy))
      refine ⟨x, p, b, F, wordsOf line, rfl, Bb, hp2, fun q => hpo (hsub _ q), W, q1, by omega, q3, by omega, fun h H3 f3 => ?_, fun b' h F' H3 B3 f3 o3 => ?_⟩
      · walk_at "rd"
        refine ifT rfl ?_
        walk_at "rd"
        exact kN (by simp [takeK, c1, midK, hk, h]) _ fun y o hy hn => f3 _ _ (s2 _ _ hy) fun q => hn (hsub _ q)
      · have B3' := B2.newBody hR hk B3 f3 o3
        refine rest H3 _ _ B3' (fun y o hy hn => f3 _ _ hy fun q => hn (hsub _ q)) (fun y hy => ?_) (by simp [midK, hk, h]) rfl rfl rfl rfl fun b'' hb => ?_
        · rcases List.mem_append.mp hy with g | g
          · exact .inl (ad_own g)
          · rcases o3 y g with q | q
            · exact .inl (hsub _ q)
            · exact .inr q
        · cases hb
          have := takeB_code h
          omega
theorem b_BookReader_take (T : Tb K mg a fd tk) : Binds K (fd 24) ["self", "line"] [] := T.F_BookReader_take.binds fun _ _ _ _ _ _ us hl => match us, hl with | [_, _], _ => rfl
end
end Tr
set_option maxHeartbeats 4000000
namespace L2
open PySem PySem.Spec PyProof.Rows
section
variable {P : Program} {w : World} {A : Around} {E : Value → Shared → Prop} {s : Shared}
/-- what set.__init__ leaves of the new set, filled from a list of ints -/
def Filled (w : World) (s : Shared) (ns : List Int) (r : Value) (s₂ : Shared) : Prop := r = .none ∧ ∃ h' tk c, s₂ = { s with heap := h', toks := tk } ∧ SetR w h' s.heap.objs.size (fun j => decide (j ∈ ns)) c ∧ c ≤ ns.length ∧ ∀ b o, s.heap.get? b = some o → h'.get? b = some o
theorem call_set_ints {l : Addr} {items : Array Value} (ns : List Int) {Q : Value → Shared → Prop} (hh : A.handled = none) (hl : s.heap.IsList l items) (hit : IntsAre items.toList ns) (hb : ns.length + 1 < scanBound)
    (h : ∀ (h' : Heap) (tk c : Nat), SetR w h' s.heap.objs.size (fun j => decide (j ∈ ns)) c → c ≤ ns.length → (∀ b o, s.heap.get? b = some o → h'.get? b = some o) → Q (.ref s.heap.objs.size) { s with heap := h', toks := tk }) :
    wpAny (model P w) A (call (.type "set") [.ref l]) Q E s := by
  have hisz : items.size = ns.length := by
    have q := IntsAre.length hit
    rwa [Array.length_toList] at q
  obtain ⟨c, tl, hmro⟩ := F.called_set.mro
  have hmade := F.called_set.made
  have hsub := F.called_set.sub
  have h1 := F.called_set.notType
  have h2 := F.called_set.canCreate
  have hct := F.typeCall_set_1 (.ref l)
  refine wpAny_call (codeAny_of_tree ?_)
  show wpAny _ _ (callAny (.type "set") _) _ _ _
  refine wpAny_pure ⟨Code.quiet_builtin _ (by decide +kernel), codeAny_builtin F.entry_type_call ?_⟩
  rw [Around.under_plain (weight_type_call_type "set" [.ref l] []) rfl]
  repeat (any_goals (first | assumption | wp_step))
  refine codeAny_mono (code_set_led1 (.ref l) (E := E) (Q₁ := fun obj s₁ => obj = .ref s.heap.objs.size ∧ s₁ = { s with heap := s.heap.push { cls := .type "set", dict := none, data := .set #[] 0 (.fresh 0 0 (!w.params.followText "set-order")) } }) ⟨rfl, rfl⟩) fun r s₁ hr => ?_
  rcases r with e | (_ | _ | _ | obj)
  · exact hr
  · exact hr.elim
  · exact hr.elim
  · exact hr.elim
  obtain ⟨rfl, rfl⟩ := hr
  generalize hobj : ({ cls := .type "set", dict := none, data := .set #[] 0 (.fresh 0 0 (!w.params.followText "set-order")) } : Obj) = O
  have hS : (s.heap.push O).get? s.heap.objs.size = some O := Heap.get?_push_size _ (by rw [← hobj]; rfl)
  have hT : Shared.TypeIs { s with heap := s.heap.push O } (.ref s.heap.objs.size) "set" := ⟨_, hS, by rw [← hobj]⟩
  have hli := F.called_set.init.lookup
  have hbi := F.called_set.init.bind (.ref s.heap.objs.size)
  repeat (any_goals (first | assumption | wp_step))
  refine codeAny_mono (codeAny_call_builtin (R := wants (Filled w s ns) E) F.called_set.init.plain F.entry_set_init (check_set_init_1 hT ?_)) fun r₂ s₂ hr₂ => ?_
  · obtain ⟨⟨ocls, odict, odata, oslots⟩, hol, hcl, nl, hdl⟩ := hl
    simp only at hcl hdl
    subst hcl hdl
    have hol' := Heap.get?_push_of_some O hol
    have hl1 : (s.heap.push O).IsList l items := ⟨_, hol', rfl, nl, rfl⟩
    have hsls := F.sub_list_set
    have hslf := F.sub_list_frozenset
    have hne : (Value.type "list" == Value.type "dict") = false := by decide
    subst hobj
    unfold Builtin.«set.__init__» noKeywords Builtin.Frozenset.updateFrom
    generalize hPI : pyIter = PI
    wp_walk
    subst hPI
    refine wpAny_pyIter_list hl1 (wpAny_bind (wpAny_runValue ?_))
    have hlS : l < s.heap.objs.size := Heap.lt_size hol
    have hsz : ∀ o : Obj, (s.heap.push o).objs.size = s.heap.objs.size + 1 := fun o => Heap.size_push ..
    have hval : ∀ (i : Nat) (v : Value), items[i]? = some v → ∃ k t, ns[i]? = some k ∧ v = .int k t := fun i v hv => by
      have hi : i < ns.length := hisz ▸ (Array.getElem?_eq_some_iff.mp hv).1
      obtain ⟨t, e⟩ := PyProof.Rows.IntsAre.int_at hit i v (by rw [Array.getElem?_toList]; exact hv)
      exact ⟨ns[i], t, List.getElem?_eq_getElem hi, by rw [e, List.getD_eq_getElem?_getD, List.getElem?_eq_getElem hi] <;> rfl⟩
    refine set_update_ints ((Walks.list (by simp [hh]) _ l (by rw [hsz]; exact Nat.ne_of_lt (Nat.lt_succ_of_lt hlS)) items).toS) s.heap.objs.size (by rw [hsz]; simp only [List.mem_cons, List.not_mem_nil, or_false, not_or]; exact ⟨Nat.ne_of_lt (Nat.lt_succ_self _), Nat.ne_of_gt hlS⟩) ns hisz hb hval (items.size - 0) 0 _ (by omega) (Nat.zero_le _)
      ⟨⟨_, Heap.get?_push_size _ rfl, rfl, rfl⟩, (hl1.push _)⟩ ⟨0, Nat.le_refl 0, setR_new_at (Heap.get?_push_of_some _ hS)⟩ ?_
    rintro ⟨h', g2, d', tk', os'⟩ c' hm hc' hS'
    obtain rfl : g2 = s.gens := hm.gens
    obtain rfl : d' = s.drawn := hm.drawn
    obtain rfl : os' = s.os := hm.os
    refine wpAny_pure ?_
    show wpAny _ _ (ret Value.none) _ _ _
    refine wpAny_pure ⟨rfl, h', tk', c', rfl, hS', hisz ▸ hc', fun b o e => hm.heap b o ?_ (Heap.get?_push_of_some _ (Heap.get?_push_of_some _ e))⟩
    have hb0 : b < s.heap.objs.size := Heap.lt_size e
    simp only [List.mem_cons, List.not_mem_nil, or_false, not_or, hsz]
    exact ⟨Nat.ne_of_lt hb0, Nat.ne_of_lt (Nat.lt_succ_of_lt hb0)⟩
  · rcases r₂ with e | (_ | _ | _ | r)
    · exact hr₂
    · exact hr₂.elim
    · exact hr₂.elim
    · exact hr₂.elim
    obtain ⟨rfl, h', tk, c', rfl, hS', hc', hk'⟩ := hr₂
    repeat (any_goals (first | assumption | wp_step))
    exact h _ _ _ hS' hc' hk'
end
section
variable {X : Cx}
/-- set(xs), xs a list of ints -/
def rSetI (w : World) : List V → Hp → VK → Prop := fun xs H Q => ∃ (l : Addr) (ns : List Int), xs = [.ref l] ∧ H l = some (.lst (ns.map V.int)) ∧ ns.length < 1000 ∧
  ∀ (p : Addr) (n : Nat), H p = none → n ≤ ns.length → (∀ L : List Int, (∀ j ∈ ns, j ∈ L) → n ≤ L.length) → Q (.ref p) (upd H p (SetO w p (fun j => decide (j ∈ ns)) n))
theorem nodup_le : ∀ {l L : List Int}, l.Nodup → (∀ j ∈ l, j ∈ L) → l.length ≤ L.length
  | [], _, _, _ => Nat.zero_le _
  | x :: l, L, hd, hs => by
    obtain ⟨h1, h2⟩ := List.nodup_cons.mp hd
    have hx := hs x (by simp)
    have h := nodup_le (l := l) (L := L.erase x) h2 fun j hj => by
      rw [List.mem_erase_of_ne (by rintro rfl; exact h1 hj)]
      exact hs j (by simp [hj])
    rw [List.length_erase_of_mem hx] at h
    have : 0 < L.length := List.length_pos_of_mem hx
    rw [List.length_cons]
    omega
theorem SetR.count {w : World} {h : Heap} {a : Addr} {ns : List Int} {n : Nat} (R : SetR w h a (fun j => decide (j ∈ ns)) n) {L : List Int} (hL : ∀ j ∈ ns, j ∈ L) : n ≤ L.length := by
  obtain ⟨o, es, ep, t, ho, hx, hd, g, nd, hm, hb, hf, hn, _⟩ := R
  have := nodup_le nd fun j hj => hL j (of_decide_eq_true ((hm j).mpr hj))
  rw [List.length_map, Array.length_toList, hn] at this
  exact this
theorem cr_setI (hc : X.calm = true) : CallR X (.type "set") (rSetI X.w) := by
  intro pins s σ H xs us Q I r h
  obtain ⟨l, ns, rfl, hl, hz, q⟩ := h
  rw [Vals.ref1 r]
  obtain ⟨its, rv, pl, _⟩ := I.list (SqL.of hl)
  refine call_set_ints ns (I.ok.hd hc) pl.isList (by simpa using ints_of_vals rv) (by unfold scanBound; omega) fun h' tk c R hcl k => ?_
  exact ⟨.ref s.heap.objs.size, _, I.laid (t' := tk) k (Nat.le_refl _) (setO_new R), rfl, q _ c (I.hok.fresh (Nat.le_refl _)) hcl (fun L hL => R.count hL)⟩
end
end L2
set_option maxHeartbeats 1000000
namespace L2
open PySem PySem.Spec PyProof.Rows
section
variable {X : Cx}
def rDUpd : V → List V → Hp → VK → Prop := fun x xs H Q => ∃ (d o : Addr) (kvs more : List (Key × V)), x = .ref d ∧ xs = [.ref o] ∧ d ≠ o ∧ H d = some (.dK kvs) ∧ H o = some (.dK more) ∧ kvs.length + more.length ≤ sizeLine ∧ Q .non (upd H d (.dK (mergeK kvs more)))
theorem mt_dupd : MtR X "dict.update" rDUpd := by
  intro pins s σ H x xs v us Q I rx rxs h
  obtain ⟨d, o, kvs, more, rfl, rfl, hdo, hd, ho, hz, q⟩ := h
  cases rx
  rw [Vals.ref1 rxs]
  obtain ⟨z, hs, vs, rel, dd⟩ := dk_of I.hok hd
  obtain ⟨z2, hs2, ms, rel2, dd2⟩ := dk_of I.hok ho
  refine call_meetsIn PySem.F.slot_dict_update dd.typeIs PySem.F.entry_dict_update (PySem.F.args_dict_update_2 _ _) (meets_dict_update (mixKind X.prog X.w) d o hdo hs2) ⟨vs, ms, dd, dd2, by rw [← rel.length, ← rel2.length]; exact hz, fun h' dd' _ sb => ?_⟩
  have he : ∃ q, h'.get? d = some q := let ⟨q, _, _, hq, _⟩ := dd'; ⟨q, hq⟩
  exact ⟨.non, _, d_write (t' := s.toks) I (by rw [hd]; exact True.intro) sb he (dk_new (Nat.le_trans (length_mergeK more kvs) hz) hs (KV.merge rel2 rel) dd'), rfl, q⟩
end
end L2
set_option maxHeartbeats 1000000

namespace Tr
open PySem L2
abbrev s_BadBook___init__ : Stmt := (inClass (top 3) 0)
abbrev N_BadBook___init__ : List Str := ["self", "at"]
theorem sc_BadBook___init__ : FnScope ["self", "at"] ["self", "at"] (defScope s_BadBook___init__) := ⟨rfl, rfl, rfl, by decide +kernel, rfl, by decide +kernel, by decide +kernel⟩
abbrev s_TooMany___init__ : Stmt := (inClass (top 4) 0)
abbrev N_TooMany___init__ : List Str := ["self", "what"]
theorem sc_TooMany___init__ : FnScope ["self", "what"] ["self", "what"] (defScope s_TooMany___init__) := ⟨rfl, rfl, rfl, by decide +kernel, rfl, by decide +kernel, by decide +kernel⟩
abbrev s_Book___init__ : Stmt := (inClass (top 23) 7)
abbrev N_Book___init__ : List Str := ["self", "lines", "reader", "at", "line", "name", "value", "kind", "parameters"]
theorem sc_Book___init__ : FnScope ["self", "lines", "reader", "at", "line", "name", "value", "kind", "parameters"] ["self", "lines"] (defScope s_Book___init__) := ⟨rfl, rfl, rfl, by decide +kernel, rfl, by decide +kernel, by decide +kernel⟩
abbrev s_Book_check_bounds : Stmt := (inClass (top 23) 9)
abbrev N_Book_check_bounds : List Str := ["self", "deepest", "bounds", "what", "count", "most"]
theorem sc_Book_check_bounds : FnScope ["self", "deepest", "bounds", "what", "count", "most"] ["self", "deepest"] (defScope s_Book_check_bounds) := ⟨rfl, rfl, rfl, by decide +kernel, rfl, by decide +kernel, by decide +kernel⟩

/-- what the top has made of Book and the errors -/
structure Tk (K : PySem.W.Frag) (mg : Str → Option Value) (a : Nat → Addr) (fd : Nat → FuncData) (tk : Nat → Tok) : Prop where
  b : Tb K mg a fd tk
  b_set : mg "set" = none
  b_dict : mg "dict" = none
  g_Book : mg "Book" = some (.ref (a 30))
  cl_Book : Cls K (a 30)
  f_Book : ∀ f, f ∈ (["lines", "cells", "answers", "effects", "handlers", "numbers", "code", "places", "kinds"] : List Str) → NoAttr K (a 30) f
  mk_Book : Mk K (a 30) (a 31)
  F_Book___init__ : Fun K "__init__" "Book.__init__" s_Book___init__ (a 31) (fd 31)
  m_Book_check_bounds : Meth K (a 30) "check_bounds" (a 32)
  F_Book_check_bounds : Fun K "check_bounds" "Book.check_bounds" s_Book_check_bounds (a 32) (fd 32)
  k_MOST_LINES : Con K (a 30) "MOST_LINES" (.int 80) (.int 80 (tk 4))
  k_MOST_CELLS : Con K (a 30) "MOST_CELLS" (.int 4) (.int 4 (tk 5))
  k_MOST_ANSWERS : Con K (a 30) "MOST_ANSWERS" (.int 3) (.int 3 (tk 6))
  k_MOST_EFFECTS : Con K (a 30) "MOST_EFFECTS" (.int 3) (.int 3 (tk 7))
  k_MOST_HANDLERS : Con K (a 30) "MOST_HANDLERS" (.int 3) (.int 3 (tk 8))
  k_MOST_DEEP : Con K (a 30) "MOST_DEEP" (.int 8) (.int 8 (tk 9))
  k_MOST_NUMBERS : Con K (a 30) "MOST_NUMBERS" (.int 4) (.int 4 (tk 10))
  g_TrackedError : mg "TrackedError" = some (.ref (a 33))
  cr_TrackedError : ClX.CRead K (a 33) (.type "type")
  vi_TrackedError : PySem.W.findCls K (.ref (a 33)) (.type "type") "__init__" = some (.val (.builtin "ValueError.__init__"))
  g_BadBook : mg "BadBook" = some (.ref (a 34))
  ox_BadBook : OexC K (a 34)
  xf_BadBook : XfC K (a 34)
  no_BadBook : PySem.W.findIn K (.ref (a 34)) "at" = some none
  ini_BadBook : PySem.W.findIn K (.ref (a 34)) "__init__" = some (some (.ref (a 35)))
  inf_BadBook : PySem.W.typeIn K (.ref (a 35)) = some (.type "function")
  F_BadBook___init__ : Fun K "__init__" "BadBook.__init__" s_BadBook___init__ (a 35) (fd 35)
  g_TooMany : mg "TooMany" = some (.ref (a 60))
  ox_TooMany : OexC K (a 60)
  xf_TooMany : XfC K (a 60)
  no_TooMany : PySem.W.findIn K (.ref (a 60)) "what" = some none
  ini_TooMany : PySem.W.findIn K (.ref (a 60)) "__init__" = some (some (.ref (a 61)))
  inf_TooMany : PySem.W.typeIn K (.ref (a 61)) = some (.type "function")
  F_TooMany___init__ : Fun K "__init__" "TooMany.__init__" s_TooMany___init__ (a 61) (fd 61)
section
variable {P : Program} {w : World} {K : PySem.W.Frag} {mg : Str → Option Value} {base : Heap} {a : Nat → Addr} {fd : Nat → FuncData} {tk : Nat → Tok}
local macro_rules | `(tactic| walk_at "ne") => `(tactic| first | assumption | (exact Ne.symm (by assumption)) | (refine ne_of_none (by assumption) (by assumption)) | (refine Ne.symm (ne_of_none (by assumption) (by assumption))))
local macro_rules | `(tactic| walk_at "hl") => `(tactic| first | assumption | with_reducible exact upd_same | ((with_reducible refine' Eq.trans (upd_ne ?hne) ?hrest); (case hne => walk_at "ne"); (case hrest => walk_at "hl")) | (refine' get_same ?hs ?hg; (case hs => assumption); (case hg => assumption)))
local macro_rules | `(tactic| walk_at "at") => `(tactic| first | with_reducible exact atI_0 _ _ | with_reducible exact atI_1 _ _ _ | with_reducible exact atI_2 _ _ _ _ | with_reducible exact atI_3 _ _ _ _ _ | assumption)
local macro_rules | `(tactic| walk_at "rd1") => `(tactic| first
  | with_reducible refine s_seq ?_ | with_reducible refine s_next ?_ | with_reducible refine s_if ?_ | with_reducible refine s_ret ?_ | with_reducible refine s_retN ?_ | with_reducible refine s_drop ?_ | with_reducible refine s_asg ?_ | with_reducible refine s_brk ?_ | with_reducible refine s_cont ?_
  | with_reducible refine s_gname ?_ | with_reducible refine s_c ?_ | with_reducible refine s_op ?_ | with_reducible refine s_un ?_ | with_reducible refine s_neg ?_ | with_reducible refine s_test ?_ | with_reducible refine s_tb ?_ | with_reducible refine s_not ?_ | with_reducible refine s_and ?_ | with_reducible refine s_or ?_ | with_reducible refine s_yes ?_
  | ((with_reducible refine' s_var ?hv ?_); (case hv => exact rfl))
  | with_reducible refine s_ifx ?_ | with_reducible refine s_andV ?_ | with_reducible refine s_orV ?_ | with_reducible refine s_notV ?_ | with_reducible refine s_chain ?_ | with_reducible refine s_nil ?_ | with_reducible refine s_cons ?_ | with_reducible refine s_lst ?_ | with_reducible refine s_tup ?_ | with_reducible refine s_cb ?_ | with_reducible refine s_call ?_ | with_reducible refine s_meth ?_ | with_reducible refine s_make ?_
  | with_reducible refine s_dnewK ?_ | with_reducible refine s_sl ?_ | with_reducible refine s_po0 ?_ | with_reducible refine s_po1 ?_ | with_reducible refine s_bm ?_ | with_reducible refine s_bm0 ?_
  | with_reducible refine s_bl ?_ | with_reducible refine s_int ?_ | with_reducible refine s_I0 ?_ | with_reducible refine s_addI ?_ | with_reducible refine s_intI ?_ | with_reducible refine s_intB ?_
  | with_reducible refine s_m1 ?_ | with_reducible refine s_lc ?_ | with_reducible refine s_ilist ?_ | with_reducible refine s_for ?_ | with_reducible refine s_irng ?_ | with_reducible refine s_match ?_ | with_reducible refine s_starT ?_ | with_reducible refine s_isS ?_ | with_reducible refine s_isiSS ?_ | with_reducible refine s_fldU ?_ | with_reducible refine s_sfldU ?_
  | ((with_reducible refine' s_eqS ?hq ?_); (case hq => exact rfl)) | ((with_reducible refine' s_neS ?hq ?_); (case hq => exact rfl))
  | ((with_reducible refine' s_isN ?hq ?_); (case hq => exact rfl)) | ((with_reducible refine' s_notN ?hq ?_); (case hq => exact rfl))
  | ((with_reducible refine' s_eqNil ?h1 ?h2 ?_); (case h1 => walk_at "hl"); (case h2 => walk_at "hl")) | ((with_reducible refine' s_neNil ?h1 ?h2 ?_); (case h1 => walk_at "hl"); (case h2 => walk_at "hl"))
  | ((with_reducible refine' s_ixL ?h1 ?h2 ?_); (case h1 => walk_at "hl"); (case h2 => walk_at "at")) | ((with_reducible refine' s_ixT ?h1 ?h2 ?_); (case h1 => walk_at "hl"); (case h2 => walk_at "at"))
  | ((with_reducible refine' s_inS ?h1 ?_); (case h1 => walk_at "hl")) | ((with_reducible refine' s_ninS ?h1 ?_); (case h1 => walk_at "hl")) | with_reducible refine s_inW ?_
  | ((with_reducible refine' s_lenL ?h1 ?_); (case h1 => walk_at "hl")) | ((with_reducible refine' s_lenT ?h1 ?_); (case h1 => walk_at "hl"))
  | ((with_reducible refine' s_tyL ?h1 ?_); (case h1 => walk_at "hl"))
  | ((with_reducible refine' s_fldM ?h1 ?h2 ?h3 ?_); (case h1 => walk_at "hl"); (case h2 => walk_at "fok"); (case h3 => walk_at "flk"))
  | ((with_reducible refine' s_setM ?h1 ?h2 ?h3 ?h4 ?_); (case h1 => walk_at "hl"); (case h2 => walk_at "fok"); (case h4 => walk_at "put"); (case h3 => exact Nat.le_of_ble_eq_true rfl))
  | ((with_reducible refine' s_starM ?h1 ?_); (case h1 => walk_at "hl"))
  | ((with_reducible refine' s_recv ?h1 ?h2 ?_); (case h1 => walk_at "hl"); (case h2 => exact rfl))
  | ((with_reducible refine' s_sz ?h1 ?_); (case h1 => (simp; done))))
local macro_rules | `(tactic| walk_at "rd") => `(tactic| repeat (walk_at "rd1"))
local macro_rules | `(tactic| walk_at "fok") => `(tactic| assumption)
local macro_rules | `(tactic| walk_at "flk") => `(tactic| rfl)
local macro_rules | `(tactic| walk_at "put") => `(tactic| exact rfl)

local macro_rules | `(tactic| walk_at "fok") => `(tactic| first | assumption)
theorem s_veI {σ : L2.St} {H : Hp} {Q : VK} {ta : TA} (h : ta σ H fun vs H1 => ∃ (a C : Addr) (ws : List V), vs = .ref a :: ws ∧ ws.length ≤ 1000 ∧ OexC K C ∧ H1 a = some (exo a C none) ∧ Q .non H1) : tVeI K ta σ H Q := h
theorem s_ost {σ : L2.St} {H : Hp} {f : Str} {to te : TE} {na : L2.St → Hp → Prop} {rt : VK} {bk ct : L2.St → Hp → Prop} (h : te σ H fun y H1 => to σ H1 fun x H2 => ∃ a C : Addr, x = .ref a ∧ OexC K C ∧ PySem.W.findIn K (.ref C) f = some none ∧
  ((H2 a = some (exo a C none) ∧ ∀ dx, H2 dx = none → dx ≠ a → na σ (upd (upd H2 dx (exd dx [(f, y)])) a (exo a C (some dx)))) ∨
    ∃ (dx : Addr) (fs : List (Str × V)), H2 a = some (exo a C (some dx)) ∧ H2 dx = some (exd dx fs) ∧ fs.length ≤ 900 ∧ na σ (upd H2 dx (exd dx ((f, y) :: fs))))) : tOst K f to te ⟨na, rt, bk, ct⟩ σ H := h
/-- BadBook's __init__ -/
def spBad (a : Nat → Addr) : Sp := fun vs H Q _ => ∃ (x : Addr) (i : Int), vs = [.ref x, .int i] ∧ H x = some (exo x (a 34) none) ∧ ∀ d, H d = none → d ≠ x → Q .non (upd (upd H d (exd d [("at", .int i)])) x (exo x (a 34) (some d)))
theorem ok_BadBook___init__ (T : Tk K mg a fd tk) : FnOk P w K mg base CX0 1 (a 35) (fd 35) ["self", "at"] (spBad a) := by
  refine T.F_BadBook___init__.ok sc_BadBook___init__ (fun vs H Q E h => ?_) (fun cdv A outer s H vs Q E hr h => ?_)
  · obtain ⟨x, i, rfl, _⟩ := h
    rfl
  · obtain ⟨x, i, rfl, hx, k⟩ := h
    refine ⟨_, (pss_cons (ps_expr (pe_ownInit (by rfl) T.g_TrackedError T.cr_TrackedError T.vi_TrackedError (pa_cons (pv 0) (pa_cons pe_str pa_nil))))
  (pss_one (ps_ost (pv 0) (pv 1)))), ?_⟩
    walk_at "rd"
    refine s_veI ?_
    walk_at "rd"
    refine ⟨x, a 34, [_], rfl, by simp, T.ox_BadBook, hx, ?_⟩
    refine s_ost ?_
    walk_at "rd"
    exact ⟨x, a 34, rfl, T.ox_BadBook, T.no_BadBook, .inl ⟨hx, fun d hd hn => k d hd hn⟩⟩
def spTooE (a : Nat → Addr) : Sp := fun vs H Q _ => ∃ (x : Addr) (v : V), vs = [.ref x, v] ∧ H x = some (exo x (a 60) none) ∧ ∀ d, H d = none → d ≠ x → Q .non (upd (upd H d (exd d [("what", v)])) x (exo x (a 60) (some d)))
theorem ok_TooMany___init__ (T : Tk K mg a fd tk) : FnOk P w K mg base CX0 1 (a 61) (fd 61) ["self", "what"] (spTooE a) := by
  refine T.F_TooMany___init__.ok sc_TooMany___init__ (fun vs H Q E h => ?_) (fun cdv A outer s H vs Q E hr h => ?_)
  · obtain ⟨x, i, rfl, _⟩ := h
    rfl
  · obtain ⟨x, i, rfl, hx, k⟩ := h
    refine ⟨_, (pss_cons (ps_expr (pe_ownInit (by rfl) T.g_TrackedError T.cr_TrackedError T.vi_TrackedError (pa_cons (pv 0) (pa_cons pe_str pa_nil))))
  (pss_one (ps_ost (pv 0) (pv 1)))), ?_⟩
    walk_at "rd"
    refine s_veI ?_
    walk_at "rd"
    refine ⟨x, a 60, [_], rfl, by simp, T.ox_TooMany, hx, ?_⟩
    refine s_ost ?_
    walk_at "rd"
    exact ⟨x, a 60, rfl, T.ox_TooMany, T.no_TooMany, .inl ⟨hx, fun d hd hn => k d hd hn⟩⟩
theorem b_TooMany___init__ (T : Tk K mg a fd tk) : Binds K (fd 61) ["self", "what"] [] := T.F_TooMany___init__.binds fun _ _ _ _ _ _ us hl => match us, hl with | [_, _], _ => rfl
theorem passF {X : Cx} : Passes CX0 X (fun _ _ _ => False) := fun _ _ _ _ _ _ _ h => h.elim
theorem s_mkO {σ : L2.St} {H : Hp} {C : Addr} {sp : Sp} {ta : TA} {Q : XK} (h : ta σ H fun vs H1 => vs.length ≤ 1000 ∧ ∀ a, H1 a = none → sp (.ref a :: (vs ++ [])) (upd H1 a (exo a C none))
  (fun v H2 => v = .non ∧ ∃ (d : Addr) (fs : List (Str × V)), H2 a = some (exo a C (some d)) ∧ H2 d = some (exd d fs) ∧ H1 d = none ∧ Q (.ref C) (some d) (upd (del H2 a) d (.xd fs))) (fun _ _ _ => False)) : tMkO C sp [] ta σ H Q := h
/-- raise TooMany(what) -/
theorem s_raiseToo {H : Hp} {W : XK} {z : V} (q : ∀ d H', H d = none → Same H H' → H' d = some (.xd [("what", z)]) → W (.ref (a 60)) (some d) H') :
    ([z]).length ≤ 1000 ∧ ∀ x, H x = none → spTooE a (.ref x :: ([z] ++ [])) (upd H x (exo x (a 60) none))
      (fun v H2 => v = .non ∧ ∃ (d : Addr) (fs : List (Str × V)), H2 x = some (exo x (a 60) (some d)) ∧ H2 d = some (exd d fs) ∧ H d = none ∧ W (.ref (a 60)) (some d) (upd (del H2 x) d (.xd fs))) (fun _ _ _ => False) := by
  refine ⟨by simp, fun x hx => ⟨x, z, rfl, upd_same, fun d hd hn => ⟨rfl, d, [("what", z)], upd_same, ?_, ?_, ?_⟩⟩⟩
  · rw [upd_ne hn]; exact upd_same
  · rw [upd_ne hn] at hd; exact hd
  · rw [upd_ne hn] at hd
    refine q d _ hd (fun b o hb => ?_) upd_same
    have b1 : b ≠ d := by rintro rfl; rw [hd] at hb; cases hb
    have b2 : b ≠ x := by rintro rfl; rw [hx] at hb; cases hb
    rw [upd_ne b1, del_ne b2, upd_ne b2, upd_ne b1, upd_ne b2]
    exact hb
theorem b_BadBook___init__ (T : Tk K mg a fd tk) : Binds K (fd 35) ["self", "at"] [] := T.F_BadBook___init__.binds fun _ _ _ _ _ _ us hl => match us, hl with | [_, _], _ => rfl
end
end Tr
set_option maxHeartbeats 1000000

namespace Tr
open PySem L2
section
variable {P : Program} {w : World} {K : PySem.W.Frag} {mg : Str → Option Value} {base : Heap} {a : Nat → Addr} {fd : Nat → FuncData} {tk : Nat → Tok}
local macro_rules | `(tactic| walk_at "ne") => `(tactic| first | assumption | (exact Ne.symm (by assumption)) | (refine ne_of_none (by assumption) (by assumption)) | (refine Ne.symm (ne_of_none (by assumption) (by assumption))))
local macro_rules | `(tactic| walk_at "hl") => `(tactic| first | assumption | with_reducible exact upd_same | ((with_reducible refine' Eq.trans (upd_ne ?hne) ?hrest); (case hne => walk_at "ne"); (case hrest => walk_at "hl")) | (refine' get_same ?hs ?hg; (case hs => assumption); (case hg => assumption)))
local macro_rules | `(tactic| walk_at "at") => `(tactic| first | with_reducible exact atI_0 _ _ | with_reducible exact atI_1 _ _ _ | with_reducible exact atI_2 _ _ _ _ | with_reducible exact atI_3 _ _ _ _ _ | assumption)
local macro_rules | `(tactic| walk_at "rd1") => `(tactic| first
  | with_reducible refine s_seq ?_ | with_reducible refine s_next ?_ | with_reducible refine s_if ?_ | with_reducible refine s_ret ?_ | with_reducible refine s_retN ?_ | with_reducible refine s_drop ?_ | with_reducible refine s_asg ?_ | with_reducible refine s_brk ?_ | with_reducible refine s_cont ?_
  | with_reducible refine s_gname ?_ | with_reducible refine s_c ?_ | with_reducible refine s_op ?_ | with_reducible refine s_un ?_ | with_reducible refine s_neg ?_ | with_reducible refine s_test ?_ | with_reducible refine s_tb ?_ | with_reducible refine s_not ?_ | with_reducible refine s_and ?_ | with_reducible refine s_or ?_ | with_reducible refine s_yes ?_
  | ((with_reducible refine' s_var ?hv ?_); (case hv => exact rfl))
  | with_reducible refine s_ifx ?_ | with_reducible refine s_andV ?_ | with_reducible refine s_orV ?_ | with_reducible refine s_notV ?_ | with_reducible refine s_chain ?_ | with_reducible refine s_nil ?_ | with_reducible refine s_cons ?_ | with_reducible refine s_lst ?_ | with_reducible refine s_tup ?_ | with_reducible refine s_cb ?_ | with_reducible refine s_call ?_ | with_reducible refine s_meth ?_ | with_reducible refine s_make ?_
  | with_reducible refine s_dnewK ?_ | with_reducible refine s_sl ?_ | with_reducible refine s_po0 ?_ | with_reducible refine s_po1 ?_ | with_reducible refine s_bm ?_ | with_reducible refine s_bm0 ?_
  | with_reducible refine s_bl ?_ | with_reducible refine s_int ?_ | with_reducible refine s_I0 ?_ | with_reducible refine s_addI ?_ | with_reducible refine s_intI ?_ | with_reducible refine s_intB ?_
  | with_reducible refine s_m1 ?_ | with_reducible refine s_lc ?_ | with_reducible refine s_ilist ?_ | with_reducible refine s_for ?_ | with_reducible refine s_irng ?_ | with_reducible refine s_match ?_ | with_reducible refine s_starT ?_ | with_reducible refine s_isS ?_ | with_reducible refine s_isiSS ?_ | with_reducible refine s_fldU ?_ | with_reducible refine s_sfldU ?_
  | ((with_reducible refine' s_eqS ?hq ?_); (case hq => exact rfl)) | ((with_reducible refine' s_neS ?hq ?_); (case hq => exact rfl))
  | ((with_reducible refine' s_isN ?hq ?_); (case hq => exact rfl)) | ((with_reducible refine' s_notN ?hq ?_); (case hq => exact rfl))
  | ((with_reducible refine' s_eqNil ?h1 ?h2 ?_); (case h1 => walk_at "hl"); (case h2 => walk_at "hl")) | ((with_reducible refine' s_neNil ?h1 ?h2 ?_); (case h1 => walk_at "hl"); (case h2 => walk_at "hl"))
  | ((with_reducible refine' s_ixL ?h1 ?h2 ?_); (case h1 => walk_at "hl"); (case h2 => walk_at "at")) | ((with_reducible refine' s_ixT ?h1 ?h2 ?_); (case h1 => walk_at "hl"); (case h2 => walk_at "at"))
  | ((with_reducible refine' s_inS ?h1 ?_); (case h1 => walk_at "hl")) | ((with_reducible refine' s_ninS ?h1 ?_); (case h1 => walk_at "hl")) | with_reducible refine s_inW ?_
  | ((with_reducible refine' s_lenL ?h1 ?_); (case h1 => walk_at "hl")) | ((with_reducible refine' s_lenT ?h1 ?_); (case h1 => walk_at "hl"))
  | ((with_reducible refine' s_tyL ?h1 ?_); (case h1 => walk_at "hl"))
  | ((with_reducible refine' s_fldM ?h1 ?h2 ?h3 ?_); (case h1 => walk_at "hl"); (case h2 => walk_at "fok"); (case h3 => walk_at "flk"))
  | ((with_reducible refine' s_setM ?h1 ?h2 ?h3 ?h4 ?_); (case h1 => walk_at "hl"); (case h2 => walk_at "fok"); (case h4 => walk_at "put"); (case h3 => exact Nat.le_of_ble_eq_true rfl))
  | ((with_reducible refine' s_starM ?h1 ?_); (case h1 => walk_at "hl"))
  | ((with_reducible refine' s_recv ?h1 ?h2 ?_); (case h1 => walk_at "hl"); (case h2 => exact rfl))
  | ((with_reducible refine' s_sz ?h1 ?_); (case h1 => (simp; done))))
local macro_rules | `(tactic| walk_at "rd") => `(tactic| repeat (walk_at "rd1"))
local macro_rules | `(tactic| walk_at "fok") => `(tactic| assumption)
local macro_rules | `(tactic| walk_at "flk") => `(tactic| rfl)
local macro_rules | `(tactic| walk_at "put") => `(tactic| exact rfl)

local macro_rules | `(tactic| walk_at "fok") => `(tactic| first | assumption)
theorem Tk.bk {K : PySem.W.Frag} {mg : Str → Option Value} {a : Nat → Addr} {fd : Nat → FuncData} {tk : Nat → Tok} (T : Tk K mg a fd tk) {f : Str} (h : f ∈ (["lines", "cells", "answers", "effects", "handlers", "numbers", "code", "places", "kinds"] : List Str)) : FldOk K (a 30) f := ⟨T.cl_Book, T.f_Book f h⟩
local macro_rules | `(tactic| walk_at "fok") => `(tactic| first | exact Tk.bk (by assumption) (by decide))
theorem s_con {σ : L2.St} {H : Hp} {Q : VK} {ta : TE} {f : Str} (h : ta σ H fun x H1 => ∃ a C dx fs v u, x = .ref a ∧ H1 a = some (.ins C dx fs) ∧ Cls K C ∧ Con K C f v u ∧ fs.lookup f = none ∧ Q v H1) : tCon K ta f σ H Q := h
def bokF (l1 l2 l3 l4 l5 l6 l7 l8 : Addr) : List (Str × V) := [("lines", .ref l1), ("cells", .ref l2), ("answers", .ref l3), ("effects", .ref l4), ("handlers", .ref l5), ("numbers", .ref l6), ("code", .ref l7), ("places", .ref l8)]
def boundsOf (n1 n2 n3 n4 n5 dp n6 : Nat) : List (Str × Nat × Nat) := [("lines", n1, 80), ("cells", n2, 4), ("answers", n3, 3), ("effects", n4, 3), ("handlers", n5, 3), ("deep", dp, 8), ("numbers", n6, 4)]
/-- the word of the first bound that is exceeded -/
def overOf : List (Str × Nat × Nat) → Option Str
  | [] => none
  | (z, c, m) :: l => if m < c then some z else overOf l
def spBounds (a : Nat → Addr) : Sp := fun vs H Q E => ∃ (r dx l1 l2 l3 l4 l5 l6 l7 l8 : Addr) (x1 x2 x3 x4 x5 x6 : List V) (dp : Nat), vs = [.ref r, .int dp] ∧ H r = some (.ins (a 30) dx (bokF l1 l2 l3 l4 l5 l6 l7 l8)) ∧
  H l1 = some (.tup x1) ∧ H l2 = some (.tup x2) ∧ H l3 = some (.tup x3) ∧ H l4 = some (.tup x4) ∧ H l5 = some (.tup x5) ∧ H l6 = some (.tup x6) ∧
  (overOf (boundsOf x1.length x2.length x3.length x4.length x5.length dp x6.length) = none → ∀ H', Same H H' → Q .non H') ∧
  (∀ z, overOf (boundsOf x1.length x2.length x3.length x4.length x5.length dp x6.length) = some z → ∀ d H', Same H H' → H d = none → H' d = some (.xd [("what", .str z)]) → E (.ref (a 60)) (some d) H')
theorem ok_Book_check_bounds (T : Tk K mg a fd tk) : FnOk P w K mg base (L2.CX P w) 3 (a 32) (fd 32) ["self", "deepest"] (spBounds a) := by
  refine T.F_Book_check_bounds.okX sc_Book_check_bounds (fun vs H Q E h => ?_) (fun cdv A outer s H vs Q E hr h => ?_)
  · obtain ⟨r, dx, l1, l2, l3, l4, l5, l6, l7, l8, x1, x2, x3, x4, x5, x6, dp, rfl, _⟩ := h
    rfl
  · obtain ⟨r, dx, l1, l2, l3, l4, l5, l6, l7, l8, x1, x2, x3, x4, x5, x6, dp, rfl, hob, h1, h2, h3, h4, h5, h6, k, kE⟩ := h
    refine ⟨_, (pss_cons (ps_asg (pe_lst (pa_cons (pe_tup (pa_cons pe_str (pa_cons (pe_callB uLen (by rfl) T.b.x.b_len bt_len (pa_cons (pe_fldU K (pv 0)) pa_nil)) (pa_cons (pe_con (pv 0) rfl) pa_nil)))) (pa_cons (pe_tup (pa_cons pe_str (pa_cons (pe_callB uLen (by rfl) T.b.x.b_len bt_len (pa_cons (pe_fldU K (pv 0)) pa_nil)) (pa_cons (pe_con (pv 0) rfl) pa_nil)))) (pa_cons (pe_tup (pa_cons pe_str (pa_cons (pe_callB uLen (by rfl) T.b.x.b_len bt_len (pa_cons (pe_fldU K (pv 0)) pa_nil)) (pa_cons (pe_con (pv 0) rfl) pa_nil)))) (pa_cons (pe_tup (pa_cons pe_str (pa_cons (pe_callB uLen (by rfl) T.b.x.b_len bt_len (pa_cons (pe_fldU K (pv 0)) pa_nil)) (pa_cons (pe_con (pv 0) rfl) pa_nil)))) (pa_cons (pe_tup (pa_cons pe_str (pa_cons (pe_callB uLen (by rfl) T.b.x.b_len bt_len (pa_cons (pe_fldU K (pv 0)) pa_nil)) (pa_cons (pe_con (pv 0) rfl) pa_nil)))) (pa_cons (pe_tup (pa_cons pe_str (pa_cons (pv 1) (pa_cons (pe_con (pv 0) rfl) pa_nil)))) (pa_cons (pe_tup (pa_cons pe_str (pa_cons (pe_callB uLen (by rfl) T.b.x.b_len bt_len (pa_cons (pe_fldU K (pv 0)) pa_nil)) (pa_cons (pe_con (pv 0) rfl) pa_nil)))) pa_nil)))))))) (pg_name (i := 2) sc_Book_check_bounds.nd rfl (by first | exact Or.inl rfl | exact Or.inr rfl)))
  (pss_one (ps_for (passes_of rfl) rfl (pi_list (pv 2)) (pg_tupU (n := 3) rfl (pgs_cons (pg_name (i := 3) sc_Book_check_bounds.nd rfl (by first | exact Or.inl rfl | exact Or.inr rfl)) (pgs_cons (pg_name (i := 4) sc_Book_check_bounds.nd rfl (by first | exact Or.inl rfl | exact Or.inr rfl)) (pgs_cons (pg_name (i := 5) sc_Book_check_bounds.nd rfl (by first | exact Or.inl rfl | exact Or.inr rfl)) pgs_nil))))
   (pss_one (ps_if (pt_cmpR op_gt (pv 4) (pv 5) (nomark _)) (pss_one (ps_raise rfl (takes_of rfl rfl rfl rfl) (pmk_oex T.ox_TooMany T.ini_TooMany T.inf_TooMany (ok_TooMany___init__ T) (hr.mono (by decide)) (b_TooMany___init__ T) .nil passF (by rfl) T.g_TooMany (pa_cons (pv 3) pa_nil)))) pss_nil))))), ?_⟩
    have s0 : Same H H := Same.refl _
    have hob0 := hob
    have g0 := s0 _ _ h1
    walk_at "rd"
    refine s_con ?_
    walk_at "rd"
    refine ⟨r, a 30, dx, _, _, _, rfl, hob0, T.cl_Book, T.k_MOST_LINES, rfl, ?_⟩
    walk_at "rd"
    intro t0 n0
    have d0 := Same.new (o := .tup [.str "lines", .int (x1.length : Int), .int 80]) n0
    have s1 := s0.trans d0
    have hob1 := s1 _ _ hob
    have g1 := s1 _ _ h2
    walk_at "rd"
    refine s_con ?_
    walk_at "rd"
    refine ⟨r, a 30, dx, _, _, _, rfl, hob1, T.cl_Book, T.k_MOST_CELLS, rfl, ?_⟩
    walk_at "rd"
    intro t1 n1
    have d1 := Same.new (o := .tup [.str "cells", .int (x2.length : Int), .int 4]) n1
    have s2 := s1.trans d1
    have hob2 := s2 _ _ hob
    have g2 := s2 _ _ h3
    walk_at "rd"
    refine s_con ?_
    walk_at "rd"
    refine ⟨r, a 30, dx, _, _, _, rfl, hob2, T.cl_Book, T.k_MOST_ANSWERS, rfl, ?_⟩
    walk_at "rd"
    intro t2 n2
    have d2 := Same.new (o := .tup [.str "answers", .int (x3.length : Int), .int 3]) n2
    have s3 := s2.trans d2
    have hob3 := s3 _ _ hob
    have g3 := s3 _ _ h4
    walk_at "rd"
    refine s_con ?_
    walk_at "rd"
    refine ⟨r, a 30, dx, _, _, _, rfl, hob3, T.cl_Book, T.k_MOST_EFFECTS, rfl, ?_⟩
    walk_at "rd"
    intro t3 n3
    have d3 := Same.new (o := .tup [.str "effects", .int (x4.length : Int), .int 3]) n3
    have s4 := s3.trans d3
    have hob4 := s4 _ _ hob
    have g4 := s4 _ _ h5
    walk_at "rd"
    refine s_con ?_
    walk_at "rd"
    refine ⟨r, a 30, dx, _, _, _, rfl, hob4, T.cl_Book, T.k_MOST_HANDLERS, rfl, ?_⟩
    walk_at "rd"
    intro t4 n4
    have d4 := Same.new (o := .tup [.str "handlers", .int (x5.length : Int), .int 3]) n4
    have s5 := s4.trans d4
    have hob5 := s5 _ _ hob
    walk_at "rd"
    refine s_con ?_
    walk_at "rd"
    refine ⟨r, a 30, dx, _, _, _, rfl, hob5, T.cl_Book, T.k_MOST_DEEP, rfl, ?_⟩
    walk_at "rd"
    intro t5 n5
    have d5 := Same.new (o := .tup [.str "deep", .int (dp : Int), .int 8]) n5
    have s6 := s5.trans d5
    have hob6 := s6 _ _ hob
    have g6 := s6 _ _ h6
    walk_at "rd"
    refine s_con ?_
    walk_at "rd"
    refine ⟨r, a 30, dx, _, _, _, rfl, hob6, T.cl_Book, T.k_MOST_NUMBERS, rfl, ?_⟩
    walk_at "rd"
    intro t6 n6
    have d6 := Same.new (o := .tup [.str "numbers", .int (x6.length : Int), .int 4]) n6
    have s7 := s6.trans d6
    have hob7 := s7 _ _ hob
    walk_at "rd"
    intro p hp
    have d7 := Same.new (o := .lst [.ref t0, .ref t1, .ref t2, .ref t3, .ref t4, .ref t5, .ref t6]) hp
    have s8 := s7.trans d7
    have e0 : ∀ H', Same _ H' → H' t0 = some (.tup [.str "lines", .int (x1.length : Int), .int 80]) := fun H' s' => s' _ _ (d7 _ _ (d6 _ _ (d5 _ _ (d4 _ _ (d3 _ _ (d2 _ _ (d1 _ _ upd_same)))))))
    have e1 : ∀ H', Same _ H' → H' t1 = some (.tup [.str "cells", .int (x2.length : Int), .int 4]) := fun H' s' => s' _ _ (d7 _ _ (d6 _ _ (d5 _ _ (d4 _ _ (d3 _ _ (d2 _ _ upd_same))))))
    have e2 : ∀ H', Same _ H' → H' t2 = some (.tup [.str "answers", .int (x3.length : Int), .int 3]) := fun H' s' => s' _ _ (d7 _ _ (d6 _ _ (d5 _ _ (d4 _ _ (d3 _ _ upd_same)))))
    have e3 : ∀ H', Same _ H' → H' t3 = some (.tup [.str "effects", .int (x4.length : Int), .int 3]) := fun H' s' => s' _ _ (d7 _ _ (d6 _ _ (d5 _ _ (d4 _ _ upd_same))))
    have e4 : ∀ H', Same _ H' → H' t4 = some (.tup [.str "handlers", .int (x5.length : Int), .int 3]) := fun H' s' => s' _ _ (d7 _ _ (d6 _ _ (d5 _ _ upd_same)))
    have e5 : ∀ H', Same _ H' → H' t5 = some (.tup [.str "deep", .int (dp : Int), .int 8]) := fun H' s' => s' _ _ (d7 _ _ (d6 _ _ upd_same))
    have e6 : ∀ H', Same _ H' → H' t6 = some (.tup [.str "numbers", .int (x6.length : Int), .int 4]) := fun H' s' => s' _ _ (d7 _ _ upd_same)
    walk_at "rd"
    refine s_forL (xs := [.ref t0, .ref t1, .ref t2, .ref t3, .ref t4, .ref t5, .ref t6]) upd_same (fun i σ H' => ∃ v3 v4 v5, σ = [some (.ref r), some (.int dp), some (.ref p), v3, v4, v5] ∧ Same _ H' ∧ overOf (boundsOf x1.length x2.length x3.length x4.length x5.length dp x6.length) = overOf ((boundsOf x1.length x2.length x3.length x4.length x5.length dp x6.length).drop i)) ⟨none, none, none, rfl, Same.refl _, rfl⟩ (fun i σ H' _ ⟨_, _, _, _, s', _⟩ => s' _ _ upd_same) ?_ ?_
    · rintro i x σ H' hx ⟨v3, v4, v5, rfl, s', ho⟩
      obtain ⟨t, n, c, m, rfl, ht, hd⟩ : ∃ (t : Addr) (n : Str) (c m : Nat), x = .ref t ∧ H' t = some (.tup [.str n, .int (c : Int), .int (m : Int)]) ∧ (boundsOf x1.length x2.length x3.length x4.length x5.length dp x6.length).drop i = (n, c, m) :: (boundsOf x1.length x2.length x3.length x4.length x5.length dp x6.length).drop (i + 1) := by
        match i, hx with
        | 0, hx => cases hx; exact ⟨_, _, _, _, rfl, e0 H' s', rfl⟩
        | 1, hx => cases hx; exact ⟨_, _, _, _, rfl, e1 H' s', rfl⟩
        | 2, hx => cases hx; exact ⟨_, _, _, _, rfl, e2 H' s', rfl⟩
        | 3, hx => cases hx; exact ⟨_, _, _, _, rfl, e3 H' s', rfl⟩
        | 4, hx => cases hx; exact ⟨_, _, _, _, rfl, e4 H' s', rfl⟩
        | 5, hx => cases hx; exact ⟨_, _, _, _, rfl, e5 H' s', rfl⟩
        | 6, hx => cases hx; exact ⟨_, _, _, _, rfl, e6 H' s', rfl⟩
        | i + 7, hx => simp at hx
      rw [hd] at ho
      simp only [overOf] at ho
      refine s_gtup3 ht rfl ?_
      walk_at "rd"
      by_cases hc : m < c
      · refine ifT (by simp; omega) ?_
        rw [if_pos hc] at ho
        refine s_mkO ?_
        walk_at "rd"
        refine s_raiseToo fun d H5 nd s5 hd' => ?_
        exact kE n ho d H5 ((s8.trans s').trans s5) ((s8.trans s').free nd) hd'
      · refine ifF (by simp; omega) ?_
        rw [if_neg hc] at ho
        walk_at "rd"
        exact ⟨_, _, _, rfl, s', ho⟩
    · rintro σ H' ⟨_, _, _, _, s', ho⟩
      exact k (by rw [ho]; rfl) H' (s8.trans s')
theorem b_Book_check_bounds (T : Tk K mg a fd tk) : Binds K (fd 32) ["self", "deepest"] [] := T.F_Book_check_bounds.binds fun _ _ _ _ _ _ us hl => match us, hl with | [_, _], _ => rfl
end
end Tr
set_option maxHeartbeats 1000000
namespace Tr
open PySem L2
structure BInv (b : Bd) : Prop where
  ok : b.Ok
  mono : b.blocks.Pairwise (fun x y => x.2.2 ≤ y.2.2)
  few : b.blocks.length ≤ b.code.length
  sc : b.scope.length ≤ b.code.length + 2
theorem binv_of {b b1 : Bd} {w : Str} (h : BInv b) (hc : b1.code = b.code)
    (hb : ∀ x ∈ b1.blocks, (x ∈ b.blocks ∧ x.2.2 ≤ b1.scope.length) ∨ (x.1 = w ∧ x.2.1 = b.code.length ∧ x.2.2 ≤ b1.scope.length))
    (hm : b1.blocks.Pairwise (fun x y => x.2.2 ≤ y.2.2)) (hl : b1.blocks.length ≤ b.code.length + 1) (hs : b1.scope.length ≤ b.code.length + 3) :
    BInv { b1 with code := b1.code ++ [w] } := by
  refine ⟨fun w' st ou hm' => ?_, hm, ?_, ?_⟩
  · rcases hb _ hm' with ⟨h1, h2⟩ | ⟨h1, h2, h3⟩
    · obtain ⟨g1, g2, g3, g4⟩ := h.ok w' st ou h1
      have e : (b1.code ++ [w])[st]? = b.code[st]? := by rw [hc, List.getElem?_append_left g3]
      refine ⟨fun q => ?_, fun q => ?_, ?_, h2⟩
      · show (b1.code ++ [w])[st]? = _; rw [e]; exact g1 q
      · show (b1.code ++ [w])[st]? = _; rw [e]; exact g2 q
      · show st < (b1.code ++ [w]).length; rw [hc, List.length_append]; omega
    · have h1' : w' = w := h1
      have h2' : st = b.code.length := h2
      subst h1' h2'
      have e : (b1.code ++ [w'])[b.code.length]? = some w' := by rw [hc]; simp
      refine ⟨fun q => ?_, fun q => ?_, ?_, h3⟩
      · show (b1.code ++ [w'])[_]? = _; rw [e, q]
      · show (b1.code ++ [w'])[_]? = _; rw [e, q]
      · show _ < (b1.code ++ [w']).length; rw [hc, List.length_append]; simp
  · show b1.blocks.length ≤ (b1.code ++ [w]).length
    rw [List.length_append, hc]; simpa using hl
  · show b1.scope.length ≤ (b1.code ++ [w]).length + 2
    rw [List.length_append, hc]; simp; omega
/-- nothing but the scope is changed, which does not shrink -/
theorem binv_sc {b b1 : Bd} {w : Str} (h : BInv b) (hc : b1.code = b.code) (hb : b1.blocks = b.blocks) (h1 : b.scope.length ≤ b1.scope.length) (h2 : b1.scope.length ≤ b.scope.length + 1) : BInv { b1 with code := b1.code ++ [w] } := by
  have := h.sc
  have hf := h.few
  refine binv_of h hc (fun x hx => .inl ⟨hb ▸ hx, ?_⟩) (hb ▸ h.mono) (by rw [hb]; omega) (by omega)
  rw [hb] at hx
  obtain ⟨_, _, _, g⟩ := h.ok x.1 x.2.1 x.2.2 hx
  omega
theorem pw_last {l : List (Str × Nat × Nat)} {x : Str × Nat × Nat} (hm : l.Pairwise (fun x y => x.2.2 ≤ y.2.2)) (hl : l.getLast? = some x) : l = l.dropLast ++ [x] ∧ ∀ y ∈ l.dropLast, y.2.2 ≤ x.2.2 := by
  have e : l = l.dropLast ++ [x] := by
    obtain ⟨ys, rfl⟩ := List.getLast?_eq_some_iff.mp hl
    simp
  refine ⟨e, fun y hy => ?_⟩
  rw [e, List.pairwise_append] at hm
  exact hm.2.2 y hy x (by simp)
theorem takeB_inv {b b' : Bd} {ws : List Str} (h : BInv b) (e : takeB b ws = some b') : BInv b' := by
  unfold takeB at e
  cases e1 : entryB b ws with
  | none => rw [e1] at e; cases e
  | some x =>
    obtain ⟨w, b1⟩ := x
    rw [e1] at e
    cases e
    show BInv { b1 with code := b1.code ++ [w] }
    have hf := h.few
    have hs := h.sc
    match ws with
    | [] => cases e1
    | w0 :: l =>
      simp only [entryB] at e1
      split at e1
      · unfold assignB at e1
        repeat' split at e1
        all_goals first | cases e1 | skip
        all_goals refine binv_sc h rfl rfl ?_ ?_
        all_goals first | (simp; done) | (split <;> simp)
      split at e1
      · unfold singleB at e1
        repeat' split at e1
        all_goals first | cases e1 | skip
        all_goals refine binv_sc h rfl rfl ?_ ?_
        all_goals simp
      split at e1
      · unfold openB at e1
        repeat' split at e1
        all_goals first | (cases e1; done) | skip
        all_goals cases e1
        all_goals refine binv_of h rfl (fun x hx => ?_) ?_ (by simp; omega) (by show b.scope.length ≤ _; omega)
        all_goals first
          | (rcases List.mem_append.mp hx with q | q
             · obtain ⟨_, _, _, g⟩ := h.ok x.1 x.2.1 x.2.2 q
               exact .inl ⟨q, g⟩
             · rw [List.mem_singleton] at q
               subst q
               exact .inr ⟨rfl, rfl, Nat.le_refl _⟩)
          | (refine List.pairwise_append.mpr ⟨h.mono, List.pairwise_singleton _ _, fun x hx y hy => ?_⟩
             rw [List.mem_singleton] at hy
             subst hy
             exact (h.ok x.1 x.2.1 x.2.2 hx).2.2.2)
      split at e1
      · split at e1
        · cases e1
          exact binv_sc h rfl rfl (Nat.le_refl _) (Nat.le_succ _)
        · cases e1
      split at e1
      · unfold turnB at e1
        split at e1
        · split at e1
          · split at e1
            · unfold closeB at e1
              split at e1
              · cases e1
              · cases e1
                exact binv_sc h rfl rfl (Nat.le_refl _) (Nat.le_succ _)
            · cases e1
          · rename_i bw st ou hl
            obtain ⟨ed, hle⟩ := pw_last h.mono hl
            have hin : (bw, st, ou) ∈ b.blocks := by rw [ed]; simp
            have ho := (h.ok bw st ou hin).2.2.2
            have ht : (b.scope.take ou).length = ou := by rw [List.length_take]; omega
            have hmd : b.blocks.dropLast.Pairwise (fun x y => x.2.2 ≤ y.2.2) := h.mono.sublist (List.dropLast_sublist _)
            have hll : b.blocks.dropLast.length + 1 = b.blocks.length := by
              have : b.blocks.length = (b.blocks.dropLast ++ [(bw, st, ou)]).length := congrArg List.length ed
              rw [List.length_append] at this
              simpa using this.symm
            split at e1
            · split at e1
              · cases e1
                refine binv_of h rfl (fun x hx => ?_) ?_ ?_ ?_
                · show (_ ∧ x.2.2 ≤ (b.scope.take ou).length) ∨ (_ ∧ _ ∧ x.2.2 ≤ (b.scope.take ou).length)
                  rw [ht]
                  rcases List.mem_append.mp hx with q | q
                  · exact .inl ⟨List.dropLast_subset _ q, hle x q⟩
                  · rw [List.mem_singleton] at q
                    subst q
                    exact .inr ⟨rfl, rfl, Nat.le_refl _⟩
                · refine List.pairwise_append.mpr ⟨hmd, List.pairwise_singleton _ _, fun x hx y hy => ?_⟩
                  rw [List.mem_singleton] at hy
                  subst hy
                  exact hle x hx
                · show (b.blocks.dropLast ++ [_]).length ≤ _
                  rw [List.length_append]
                  simp
                  omega
                · show (b.scope.take ou).length ≤ _
                  omega
              · cases e1
            · cases e1
              refine binv_of h rfl (fun x hx => .inl ⟨List.dropLast_subset _ hx, by show x.2.2 ≤ (b.scope.take ou).length; rw [ht]; exact hle x hx⟩) hmd ?_ ?_
              · show b.blocks.dropLast.length ≤ _
                omega
              · show (b.scope.take ou).length ≤ _
                omega
        · cases e1
      · cases e1
theorem binv_new {kind : Str} {ps c s : List Str} (h : ps.length ≤ 2) : BInv ⟨kind, ps, c, s, [], [], 0, false⟩ :=
  ⟨fun _ _ _ hm => by simp at hm, List.Pairwise.nil, Nat.le_refl _, h⟩
structure KInv (n m : Nat) (k : Bk) : Prop where
  c : k.cells.length ≤ n
  a : k.answers.length ≤ n
  e : k.effects.length ≤ n
  h : k.handlers.length ≤ n
  p : k.places.length ≤ n
  d : k.coded.length ≤ n
  t : k.count = n
  w : k.written.length ≤ m
  b : ∀ b, k.body = some b → BInv b ∧ b.code.length ≤ n
theorem kinv0 : KInv 0 0 bk0 := ⟨Nat.le_refl _, Nat.le_refl _, Nat.le_refl _, Nat.le_refl _, Nat.le_refl _, Nat.le_refl _, rfl, Nat.le_refl _, fun b h => by cases h⟩
theorem putA_len (ps : List (Str × Nat × Nat)) (n : Str) (v : Nat × Nat) : (putA ps n v).length ≤ ps.length + 1 := by
  unfold putA
  split <;> simp
theorem putN_len (ps : List Str) (n : Str) : (putN ps n).length ≤ ps.length + 1 := by
  unfold putN
  split <;> simp
/-- the parts of a book behind a declaration -/
theorem declK_inv {n m : Nat} {k k' : Bk} {ws : List Str} (h : KInv n m k) (hb : k.body = none) (e : declK k ws = some k') :
    k'.cells.length ≤ n + 1 ∧ k'.answers.length ≤ n + 1 ∧ k'.effects.length ≤ n + 1 ∧ k'.handlers.length ≤ n + 1 ∧ ∀ b, k'.body = some b → BInv b ∧ b.code.length ≤ n := by
  obtain ⟨h1, h2, h3, h4, _, _, _, _, _⟩ := h
  match ws with
  | [] => cases e
  | [_] => cases e
  | w0 :: n' :: l =>
    simp only [declK] at e
    split at e
    · cases e
    split at e
    · unfold cellK at e
      repeat' split at e
      all_goals first | cases e | skip
      all_goals refine ⟨by simp; omega, by show k.answers.length ≤ _; omega, by show k.effects.length ≤ _; omega, by show k.handlers.length ≤ _; omega, fun b q => ?_⟩
      all_goals (have q' : k.body = some b := q; rw [hb] at q'; cases q')
    split at e
    · cases e
    split at e
    · unfold handlerK at e
      repeat' split at e
      all_goals first | cases e | skip
      all_goals refine ⟨by show k.cells.length ≤ _; omega, by show k.answers.length ≤ _; omega, by show k.effects.length ≤ _; omega, by simp; omega, fun b q => ?_⟩
      all_goals cases q
      all_goals exact ⟨binv_new (by omega), Nat.zero_le _⟩
    split at e
    · cases e
    split at e
    · cases e
      refine ⟨by show k.cells.length ≤ _; omega, by simp; omega, by show k.effects.length ≤ _; omega, by show k.handlers.length ≤ _; omega, fun b q => ?_⟩
      cases q
      exact ⟨binv_new (by simp), Nat.zero_le _⟩
    split at e
    · cases e
      refine ⟨by show k.cells.length ≤ _; omega, by show k.answers.length ≤ _; omega, by simp; omega, by show k.handlers.length ≤ _; omega, fun b q => ?_⟩
      cases q
      exact ⟨binv_new (by simp), Nat.zero_le _⟩
    · cases e
theorem numsOf_len (ws : List Str) : (numsOf ws).length ≤ ws.length := by
  unfold numsOf
  rw [List.length_map]
  exact List.length_filter_le _ _
theorem takeK_inv {n m : Nat} {k k' : Bk} {line : Str} (h : KInv n m k) (e : takeK k line = some k') : KInv (n + 1) (m + (wordsOf line).length) k' := by
  unfold takeK at e
  split at e
  · cases e
  cases em : midK k (wordsOf line) with
  | none => rw [em] at e; cases e
  | some k1 =>
    rw [em] at e
    have e' : endK { k1 with written := k1.written ++ numsOf (wordsOf line), count := k1.count + 1 } = k' := Option.some.inj e
    obtain ⟨g1, g2, g3, g4, g5, gw, gp, gd, gt⟩ : k1.cells.length ≤ n + 1 ∧ k1.answers.length ≤ n + 1 ∧ k1.effects.length ≤ n + 1 ∧ k1.handlers.length ≤ n + 1 ∧ (∀ b, k1.body = some b → BInv b ∧ b.code.length ≤ n + 1) ∧ k1.written = k.written ∧ k1.places = k.places ∧ k1.coded = k.coded ∧ k1.count = k.count := by
      unfold midK at em
      split at em
      · rename_i hb
        obtain ⟨q1, q2, q3, q4, q5⟩ := declK_inv h hb em
        obtain ⟨r1, r2, r3, r4, _⟩ := declK_keeps em
        exact ⟨q1, q2, q3, q4, fun b hq => ⟨(q5 b hq).1, by have := (q5 b hq).2; omega⟩, r1, r2, r3, r4⟩
      · rename_i b hb
        cases eb : takeB b (wordsOf line) with
        | none => rw [eb] at em; cases em
        | some b' =>
          rw [eb] at em
          cases em
          obtain ⟨hB, hc⟩ := h.b b hb
          have hl := takeB_code eb
          refine ⟨by have := h.c; show k.cells.length ≤ _; omega, by have := h.a; show k.answers.length ≤ _; omega, by have := h.e; show k.effects.length ≤ _; omega, by have := h.h; show k.handlers.length ≤ _; omega, fun b2 hq => ?_, rfl, rfl, rfl, rfl⟩
          cases hq
          exact ⟨takeB_inv hB eb, by omega⟩
    have hn := numsOf_len (wordsOf line)
    have hw := h.w
    have hp := h.p
    have hd := h.d
    have ht := h.t
    have base : KInv (n + 1) (m + (wordsOf line).length) { k1 with written := k1.written ++ numsOf (wordsOf line), count := k1.count + 1 } :=
      ⟨g1, g2, g3, g4, by show k1.places.length ≤ _; rw [gp]; omega, by show k1.coded.length ≤ _; rw [gd]; omega, by show k1.count + 1 = _; rw [gt, ht], by show (k1.written ++ numsOf (wordsOf line)).length ≤ _; rw [List.length_append, gw]; omega, g5⟩
    rw [← e']
    unfold endK
    split
    · exact base
    · rename_i b hb
      split
      · have a1 := putA_len k1.places k1.name (k1.count + 1 - b.code.length, k1.count + 1 - 1)
        have a2 := putN_len k1.coded k1.name
        rw [gp] at a1
        rw [gd] at a2
        refine ⟨g1, g2, g3, g4, ?_, ?_, base.t, base.w, fun b hq => by cases hq⟩
        · show (putA k1.places k1.name (k1.count + 1 - b.code.length, k1.count + 1 - 1)).length ≤ _
          rw [gp]; omega
        · show (putN k1.coded k1.name).length ≤ _
          rw [gd]; omega
      · exact base
/-- the lines of a book, one by one: where it stops, or the book -/
def readK (k : Bk) : List Str → Nat → Nat ⊕ Bk
  | [], _ => .inr k
  | l :: ls, i => match takeK k l with
    | none => .inl i
    | some k' => readK k' ls (i + 1)
def bookAt (ls : List Str) : Option Nat := match readK bk0 ls 0 with
  | .inl i => some i
  | .inr k => if isComplete k = true then none else some ls.length
end Tr
set_option maxHeartbeats 1000000
namespace Tr
open PySem PySem.Spec PyProof.Rows L2
theorem putK_len (kvs : List (Key × V)) (k : Key) (v : V) : (putK kvs k v).length ≤ kvs.length + 1 := by
  unfold putK
  split <;> simp
theorem mergeK_len (more : List (Key × V)) : ∀ kvs : List (Key × V), (mergeK kvs more).length ≤ kvs.length + more.length := by
  induction more with
  | nil => intro kvs; simp [mergeK]
  | cons x l ih =>
    intro kvs
    have h := ih (putK kvs x.1 x.2)
    have h2 := putK_len kvs x.1 x.2
    have e : mergeK kvs (x :: l) = mergeK (putK kvs x.1 x.2) l := rfl
    rw [e, List.length_cons]
    omega
theorem mergeK_snoc (kvs more : List (Key × V)) (x : Key × V) : mergeK kvs (more ++ [x]) = putK (mergeK kvs more) x.1 x.2 := by
  unfold mergeK
  rw [List.foldl_append]
  rfl
section
variable {σ : L2.St} {H : Hp} {Q : VK} {K : PySem.W.Frag}
def DcGo (g : TG) (tt : TT) (tk tv : TE) (vs : List Nat) (σ : L2.St) (Q : VK) (J : It) (H1 : Hp) : Prop := ∀ D, H1 D = none → ∃ W : Nat → Nat → Hp → Prop, (∃ m, W 0 m (upd H1 D (.dK []))) ∧ ∀ i m H, W i m H →
  (J.stop i H ∧ Q (.ref D) H) ∨ (J.go i H ∧ ∃ Nx : Hp → Prop, (∀ H', Nx H' → ∃ m', m' < m ∧ W (i + 1) m' H') ∧ ∀ x H', J.yld i H x H' → g x (wipe σ vs) H' fun σ2 H2 => wipe σ2 vs = wipe σ vs ∧ tt σ2 H2 fun b H3 =>
    if b = true then tk σ2 H3 fun y H4 => tv σ2 H4 fun z H5 => ∃ kvs k, y = kV k ∧ H5 D = some (.dK kvs) ∧ kvs.length < sizeLine ∧ Nx (upd H5 D (.dK (putK kvs k z))) else Nx H3)
theorem s_dc {wi : TI} {g : TG} {tt : TT} {tk tv : TE} {vs : List Nat} (h : wi σ H (DcGo g tt tk tv vs σ Q)) : tDc wi g tt tk tv vs σ H Q := h
def mTup (K : PySem.W.Frag) (R : It → Hp → Prop) (x : V) (H1 : Hp) : Prop := ∃ a, x = .ref a ∧ (∃ xs, SqT K H1 a xs) ∧ R (Itt K a) H1
theorem s_itup {tl : TE} {R : It → Hp → Prop} (h : tl σ H fun x H1 => mTup K R x H1) : iTup K tl σ H R := h
def mKeys (R : It → Hp → Prop) (x : V) (H1 : Hp) : Prop := ∃ d o, x = .ref d ∧ ((∃ kvs, H1 d = some (.frz o (.dK kvs)) ∧ R (Itk d o kvs) H1) ∨ ∃ kvs, H1 d = some (.frz o (.dT kvs)) ∧ R (Itkt d o kvs) H1)
theorem s_ikeys {td : TE} {R : It → Hp → Prop} (h : td σ H fun x H1 => mKeys R x H1) : iKeys td σ H R := h
theorem s_lockE {t : TE} {d : Addr} {u : HO} (hd : H d = some u) (mu : Mut (some u)) (h : ∀ od, t σ (upd H d (.frz od u)) fun v H' => H' d = some (.frz od u) ∧ Q v (upd H' d u)) : tLockE t σ H Q := ⟨d, u, hd, mu, h⟩
theorem dc_it {J : It} {n : Nat} {G : Hp → Prop} {Y : Nat → Hp → V → Hp → Prop} (w : Walk J n G Y) {g : TG} {tt : TT} {tk tv : TE} {vs : List Nat} {H1 : Hp} {D : Addr} {Qd : Hp → Prop} (Pv : Nat → Hp → Prop) (h0 : Pv 0 (upd H1 D (.dK []))) (hG : ∀ i H, i ≤ n → Pv i H → G H)
    (hs : ∀ i x H H', i < n → Pv i H → Y i H x H' → g x (wipe σ vs) H' fun σ2 H2 => wipe σ2 vs = wipe σ vs ∧ tt σ2 H2 fun b H3 =>
      if b = true then tk σ2 H3 fun y H4 => tv σ2 H4 fun z H5 => ∃ kvs k, y = kV k ∧ H5 D = some (.dK kvs) ∧ kvs.length < sizeLine ∧ Pv (i + 1) (upd H5 D (.dK (putK kvs k z))) else Pv (i + 1) H3) (hd : ∀ H, Pv n H → Qd H) :
    ∃ W : Nat → Nat → Hp → Prop, (∃ m, W 0 m (upd H1 D (.dK []))) ∧ ∀ i m H, W i m H →
      (J.stop i H ∧ Qd H) ∨ (J.go i H ∧ ∃ Nx : Hp → Prop, (∀ H', Nx H' → ∃ m', m' < m ∧ W (i + 1) m' H') ∧ ∀ x H', J.yld i H x H' → g x (wipe σ vs) H' fun σ2 H2 => wipe σ2 vs = wipe σ vs ∧ tt σ2 H2 fun b H3 =>
        if b = true then tk σ2 H3 fun y H4 => tv σ2 H4 fun z H5 => ∃ kvs k, y = kV k ∧ H5 D = some (.dK kvs) ∧ kvs.length < sizeLine ∧ Nx (upd H5 D (.dK (putK kvs k z))) else Nx H3) := by
  refine ⟨fun i m H => m = n - i ∧ i ≤ n ∧ Pv i H, ⟨n, by simp, Nat.zero_le _, h0⟩, ?_⟩
  rintro i m H ⟨rfl, hi, p⟩
  have q := hG i H hi p
  by_cases hlt : i < n
  · refine .inr ⟨w.goes i H hlt q, Pv (i + 1), fun H' p' => ⟨n - (i + 1), by omega, rfl, hlt, p'⟩, fun x H' y => hs i x H H' hlt p (w.yields i H x H' hlt q y)⟩
  · have e : i = n := by omega
    subst e
    exact .inl ⟨w.stops H q, hd H p⟩
theorem dc_fm {α : Type} (ys : List α) (f : α → Key × V) {J : It} {n : Nat} {G : Hp → Prop} {Y : Nat → Hp → V → Hp → Prop} (w : Walk J n G Y) (hn : n = ys.length) (hz : ys.length ≤ 100000) {g : TG} {tk tv : TE} {vs : List Nat} {H1 : Hp} {D : Addr} {Qd : Hp → Prop} (hD : H1 D = none)
    (hG : ∀ H', Same H1 H' → G H')
    (hs : ∀ (i : Nat) (a : α) (x : V) (H2 H' : Hp) (R : V → VK), ys[i]? = some a → Same H1 H2 → Y i H2 x H' → (∀ H5, Same H2 H5 → R (kV (f a).1) (f a).2 H5) → g x (wipe σ vs) H' fun σ2 H3 => wipe σ2 vs = wipe σ vs ∧ tk σ2 H3 fun y H4 => tv σ2 H4 fun z H5 => R y z H5)
    (hd : ∀ H', Same H1 H' → H' D = some (.dK (mergeK [] (ys.map f))) → Qd H') :
    ∃ W : Nat → Nat → Hp → Prop, (∃ m, W 0 m (upd H1 D (.dK []))) ∧ ∀ i m H, W i m H →
      (J.stop i H ∧ Qd H) ∨ (J.go i H ∧ ∃ Nx : Hp → Prop, (∀ H', Nx H' → ∃ m', m' < m ∧ W (i + 1) m' H') ∧ ∀ x H', J.yld i H x H' → g x (wipe σ vs) H' fun σ2 H2 => wipe σ2 vs = wipe σ vs ∧ tYes σ2 H2 fun b H3 =>
        if b = true then tk σ2 H3 fun y H4 => tv σ2 H4 fun z H5 => ∃ kvs k, y = kV k ∧ H5 D = some (.dK kvs) ∧ kvs.length < sizeLine ∧ Nx (upd H5 D (.dK (putK kvs k z))) else Nx H3) := by
  subst hn
  refine dc_it w (fun i H' => Same H1 H' ∧ H' D = some (.dK (mergeK [] ((ys.take i).map f)))) ⟨Same.new hD, upd_same⟩ (fun i H' _ pv => hG H' pv.1) ?_ ?_
  · rintro i x H2 H' hi ⟨s2, hD2⟩ hY
    obtain ⟨a, ha⟩ : ∃ a, ys[i]? = some a := ⟨_, List.getElem?_eq_getElem hi⟩
    have h := hs i a x H2 H' (fun y z H5 => ∃ kvs k, y = kV k ∧ H5 D = some (.dK kvs) ∧ kvs.length < sizeLine ∧ (Same H1 (upd H5 D (.dK (putK kvs k z))) ∧ upd H5 D (.dK (putK kvs k z)) D = some (.dK (mergeK [] ((ys.take (i + 1)).map f))))) ha s2 hY ?_
    · exact h
    · intro H5 s5
      have hl := mergeK_len ((ys.take i).map f) []
      rw [List.length_map, List.length_take] at hl
      refine ⟨_, _, rfl, s5 _ _ hD2, sz_lt (by have : ([] : List (Key × V)).length = 0 := rfl; omega), Same.mut (s2.trans s5) hD, ?_⟩
      rw [upd_same]
      have e : ys.take (i + 1) = ys.take i ++ [a] := by
        rw [List.take_succ, ha]
        rfl
      rw [e, List.map_append]
      show _ = some (HO.dK (mergeK [] ((ys.take i).map f ++ [f a])))
      rw [mergeK_snoc]
  · rintro H' ⟨s', hD'⟩
    rw [List.take_length] at hD'
    exact hd H' s' hD'
theorem s_dcT {α : Type} (ys : List α) (f : α → Key × V) {p : Addr} {xs : List V} {g : TG} {tk tv : TE} {vs : List Nat} (hp : H p = some (.tup xs)) (hx : xs.length = ys.length) (hz : ys.length ≤ 100000)
    (hs : ∀ (i : Nat) (a : α) (x : V) (H2 : Hp) (R : V → VK), ys[i]? = some a → xs[i]? = some x → Same H H2 → (∀ H5, Same H2 H5 → R (kV (f a).1) (f a).2 H5) → g x (wipe σ vs) H2 fun σ2 H3 => wipe σ2 vs = wipe σ vs ∧ tk σ2 H3 fun y H4 => tv σ2 H4 fun z H5 => R y z H5)
    (hd : ∀ D H', Same H H' → H D = none → H' D = some (.dK (mergeK [] (ys.map f))) → Q (.ref D) H') : mTup K (DcGo g tYes tk tv vs σ Q) (.ref p) H := by
  refine ⟨p, rfl, ⟨xs, SqT.of hp⟩, fun D hD => ?_⟩
  refine dc_fm ys f (walk_tup (xs := xs)) hx hz hD (fun H' s' => SqT.of (s' _ _ hp)) ?_ (fun H' s' hD' => hd D H' s' hD hD')
  rintro i b x H2 H' R hb s2 ⟨rfl, hxx⟩ k1
  exact hs i b x H' R hb hxx s2 k1
theorem s_dcK (f : Key × V → Key × V) {d : Addr} {o : Obj} {kvs : List (Key × V)} {g : TG} {tk tv : TE} {vs : List Nat} (hp : H d = some (.frz o (.dK kvs))) (hz : kvs.length ≤ 100000)
    (hs : ∀ (i : Nat) (a : Key × V) (H2 : Hp) (R : V → VK), kvs[i]? = some a → Same H H2 → (∀ H5, Same H2 H5 → R (kV (f a).1) (f a).2 H5) → g (kV a.1) (wipe σ vs) H2 fun σ2 H3 => wipe σ2 vs = wipe σ vs ∧ tk σ2 H3 fun y H4 => tv σ2 H4 fun z H5 => R y z H5)
    (hd : ∀ D H', Same H H' → H D = none → H' D = some (.dK (mergeK [] (kvs.map f))) → Q (.ref D) H') : mKeys (DcGo g tYes tk tv vs σ Q) (.ref d) H := by
  refine ⟨d, o, rfl, .inl ⟨kvs, hp, fun D hD => ?_⟩⟩
  refine dc_fm kvs f (walk_keys (kvs := kvs)) rfl hz hD (fun H' s' => s' _ _ hp) ?_ (fun H' s' hD' => hd D H' s' hD hD')
  rintro i b x H2 H' R hb s2 ⟨rfl, k, v, hk, rfl⟩ k1
  rw [hb] at hk
  cases hk
  exact hs i _ H' R hb s2 k1
theorem s_upd {d o : Addr} {kvs more : List (Key × V)} (hne : d ≠ o) (h1 : H d = some (.dK kvs)) (h2 : H o = some (.dK more)) (hl : kvs.length + more.length ≤ 100000) (q : Q .non (upd H d (.dK (mergeK kvs more)))) : rDUpd (.ref d) [.ref o] H Q :=
  ⟨d, o, kvs, more, rfl, rfl, hne, h1, h2, sz_le hl, q⟩
end
end Tr
set_option maxHeartbeats 2000000
namespace Tr
open PySem PySem.Spec PyProof.Rows L2
/-- a list or a tuple -/
def SeqLT (H : Hp) (l : Addr) (ls : List V) : Prop := H l = some (.lst ls) ∨ H l = some (.tup ls)
theorem SeqLT.same {H H' : Hp} {l : Addr} {ls : List V} (h : SeqLT H l ls) (s : Same H H') : SeqLT H' l ls := h.imp (s _ _) (s _ _)
def iEnumU (K : PySem.W.Frag) (ta : TA) : TI := fun σ H R => ta σ H fun vs H1 => ∃ a, vs = [.ref a] ∧ ((∃ xs, SqL K H1 a xs ∧ R (Ite K a) H1) ∨ ∃ xs, SqT K H1 a xs ∧ R (IteT K a) H1)
theorem pi_enumU {X : Cx} {e : Expr} {ta : TA} {p pos tpos : Pos} {elts : List Expr} {kk : Nat} (hg : Gl X "enumerate") (hm : X.mg "enumerate" = none)
    (ha : PA X [e] ta) (hs : starEach [e] X.env = [(false, eval e X.env)] := by rfl) :
    PI X (.Tuple elts kk tpos) (.Call (.Name "enumerate" p) [e] [] pos) (iEnumU X.K ta) := by
  constructor
  intro pins s σ H R I h
  refine Call_ (ld_blt I hg hm boot_enumerate (PyProof.Rows.callWith_type1 (thn (ha.run pos pins s σ H _ I h) fun us s1 hh => ?_) hs rfl))
  obtain ⟨vs, H1, I1, r1, a, ex, hq⟩ := hh
  subst ex
  cases r1 with
  | cons r rr =>
    cases rr
    cases r
    rcases hq with ⟨xs, hq, q⟩ | ⟨xs, hq, q⟩
    · obtain ⟨its, rv, p', hz⟩ := I1.list hq
      refine call_enumerate_list p'.isList fun h' he hit hsz hk => wpAny_pyIter_enum he ?_
      have I2 : Inv X pins σ H1 { s1 with heap := h' } := I1.kept (t' := s1.toks) hk
      refine ⟨s1.heap.objs.size + 1, [s1.heap.objs.size + 1, s1.heap.objs.size], _, _, H1, rfl, I2, turn_enum a (s1.heap.objs.size + 1) s1.heap.objs.size, ⟨⟨.none, he⟩, hit, Nat.succ_ne_self _⟩, fun b hb => ?_, q⟩
      have e' : b = s1.heap.objs.size + 1 ∨ b = s1.heap.objs.size := by simpa using hb
      have hle : s1.heap.objs.size ≤ b := by
        rcases e' with z | z
        · rw [z]; exact Nat.le_add_right _ _
        · rw [z]; exact Nat.le_refl _
      exact I1.fpOk hle (I1.hok.fresh hle)
    · obtain ⟨its, rv, p', hz⟩ := I1.tuple hq
      have pt : s1.heap.IsTuple a its.toArray := p'
      have hal : a < s1.heap.objs.size := by obtain ⟨_, z, _⟩ := pt; exact Heap.lt_size z
      refine call_enumT pt fun h' he hit hk => wpAny_pyIter_enum he ?_
      have I2 : Inv X pins σ H1 { s1 with heap := h' } := I1.kept (t' := s1.toks) hk
      refine ⟨s1.heap.objs.size + 1, [s1.heap.objs.size + 1, s1.heap.objs.size], _, _, H1, rfl, I2,
        turn_enumT a (s1.heap.objs.size + 1) s1.heap.objs.size (Nat.ne_of_lt hal) (Nat.ne_of_lt (Nat.lt_succ_of_lt hal)), ⟨⟨.none, he⟩, hit, Nat.succ_ne_self _⟩, fun b hb => ?_, q⟩
      have z : b = s1.heap.objs.size + 1 ∨ b = s1.heap.objs.size := by simpa using hb
      have hle : s1.heap.objs.size ≤ b := by
        rcases z with rfl | rfl
        · exact Nat.le_succ _
        · exact Nat.le_refl _
      exact I1.fpOk hle (I1.hok.fresh hle)
theorem s_forEnumU {σ : L2.St} {H : Hp} {K : PySem.W.Frag} {p : Addr} {xs : List V} {g : TG} {tb : TS} {j : Nat} {na : L2.St → Hp → Prop} {rt : VK} {bk ct : L2.St → Hp → Prop} (hv : σ[j]? = some (some (.ref p))) (hp : SeqLT H p xs) (Pv : Nat → L2.St → Hp → Prop) (h0 : Pv 0 σ H)
    (hG : ∀ i σ H', i ≤ xs.length → Pv i σ H' → (H p = some (.lst xs) → H' p = some (.lst xs)) ∧ (H p = some (.tup xs) → H' p = some (.tup xs)))
    (hs : ∀ i x T σ H, xs[i]? = some x → Pv i σ H → H T = none → g (.ref T) σ (upd H T (.tup [.int (i : Nat), x])) fun σ2 H2 => tb ⟨Pv (i + 1), rt, na, Pv (i + 1)⟩ σ2 H2)
    (hd : ∀ σ H, Pv xs.length σ H → na σ H) : tFor (iEnumU K (tCons (tVar j) tNil)) g tb ⟨na, rt, bk, ct⟩ σ H := by
  rcases hp with hp | hp
  · refine ⟨_, hv, p, rfl, .inl ⟨xs, SqL.of hp, ?_⟩⟩
    refine for_it (D := ⟨na, rt, bk, ct⟩) (walk_enum (xs := xs)) Pv h0 (fun i σ H' hi pv => SqL.of ((hG i σ H' hi pv).1 hp)) ?_ hd
    rintro i x σ H H' hi pv ⟨T, x1, y1, rfl, hT, rfl, e1, e2⟩
    cases e1
    exact hs i y1 T σ H e2 pv hT
  · refine ⟨_, hv, p, rfl, .inr ⟨xs, SqT.of hp, ?_⟩⟩
    refine for_it (D := ⟨na, rt, bk, ct⟩) (walk_enumT (xs := xs)) Pv h0 (fun i σ H' hi pv => SqT.of ((hG i σ H' hi pv).2 hp)) ?_ hd
    rintro i x σ H H' hi pv ⟨T, x1, y1, rfl, hT, rfl, e1, e2⟩
    cases e1
    exact hs i y1 T σ H e2 pv hT
theorem s_tupleU {H : Hp} {Q : VK} {l : Addr} {ls : List V} (h : SeqLT H l ls) (q : ∀ l1 H', Same H H' → H' l1 = some (.tup ls) → Q (.ref l1) H') : rTupleU [.ref l] H Q := by
  rcases h with h | h
  · exact s_tupleL h fun z hz => q z _ (Same.new hz) upd_same
  · exact s_tupleT h (q l H (Same.refl _) h)
theorem s_lenU {H : Hp} {Q : VK} {l : Addr} {ls : List V} (h : SeqLT H l ls) (q : Q (.int ls.length) H) : rLenU [.ref l] H Q := by
  rcases h with h | h
  · exact s_lenL h q
  · exact s_lenT h q
theorem s_isiLTU {H : Hp} {Q : VK} {K : PySem.W.Frag} {p tp : Addr} {xs : List V} (hp : SeqLT H p xs) (ht : H tp = some (.tup [.ty "list", .ty "tuple"])) (q : Q (.bl true) H) : rIsiT K [.ref p, .ref tp] H Q := by
  rcases hp with hp | hp
  · exact s_isiLT hp ht q
  · exact ⟨_, tp, _, .type "tuple", [.type "list", .type "tuple"], true, rfl, ht, .cons (.ty _) (.cons (.ty _) .nil), .base (.tup hp), by rfl, q⟩
/-- no list, no tuple -/
def NoSeq (v : V) : Prop := v = .non ∨ (∃ b, v = .bl b) ∨ (∃ i, v = .int i) ∨ ∃ z, v = .str z
theorem s_isiNo {H : Hp} {Q : VK} {K : PySem.W.Frag} {v : V} {tp : Addr} (hv : NoSeq v) (ht : H tp = some (.tup [.ty "list", .ty "tuple"])) (q : Q (.bl false) H) : rIsiT K [v, .ref tp] H Q := by
  rcases hv with rfl | ⟨b, rfl⟩ | ⟨i, rfl⟩ | ⟨z, rfl⟩
  · exact ⟨_, tp, _, .type "NoneType", [.type "list", .type "tuple"], false, rfl, ht, .cons (.ty _) (.cons (.ty _) .nil), .base .non, by rfl, q⟩
  · exact ⟨_, tp, _, .type "bool", [.type "list", .type "tuple"], false, rfl, ht, .cons (.ty _) (.cons (.ty _) .nil), .base (.bl b), by rfl, q⟩
  · exact ⟨_, tp, _, .type "int", [.type "list", .type "tuple"], false, rfl, ht, .cons (.ty _) (.cons (.ty _) .nil), .base (.int i), by rfl, q⟩
  · exact ⟨_, tp, _, .type "str", [.type "list", .type "tuple"], false, rfl, ht, .cons (.ty _) (.cons (.ty _) .nil), .base (.str z), by rfl, q⟩
end Tr
set_option maxHeartbeats 1000000

namespace Tr
open PySem L2
section
variable {P : Program} {w : World} {K : PySem.W.Frag} {mg : Str → Option Value} {base : Heap} {a : Nat → Addr} {fd : Nat → FuncData} {tk : Nat → Tok}
local macro_rules | `(tactic| walk_at "ne") => `(tactic| first | assumption | (exact Ne.symm (by assumption)) | (refine ne_of_none (by assumption) (by assumption)) | (refine Ne.symm (ne_of_none (by assumption) (by assumption))))
local macro_rules | `(tactic| walk_at "hl") => `(tactic| first | assumption | with_reducible exact upd_same | ((with_reducible refine' Eq.trans (upd_ne ?hne) ?hrest); (case hne => walk_at "ne"); (case hrest => walk_at "hl")) | (refine' get_same ?hs ?hg; (case hs => assumption); (case hg => assumption)))
local macro_rules | `(tactic| walk_at "at") => `(tactic| first | with_reducible exact atI_0 _ _ | with_reducible exact atI_1 _ _ _ | with_reducible exact atI_2 _ _ _ _ | with_reducible exact atI_3 _ _ _ _ _ | assumption)
local macro_rules | `(tactic| walk_at "rd1") => `(tactic| first
  | with_reducible refine s_seq ?_ | with_reducible refine s_next ?_ | with_reducible refine s_if ?_ | with_reducible refine s_ret ?_ | with_reducible refine s_retN ?_ | with_reducible refine s_drop ?_ | with_reducible refine s_asg ?_ | with_reducible refine s_brk ?_ | with_reducible refine s_cont ?_
  | with_reducible refine s_gname ?_ | with_reducible refine s_c ?_ | with_reducible refine s_op ?_ | with_reducible refine s_un ?_ | with_reducible refine s_neg ?_ | with_reducible refine s_test ?_ | with_reducible refine s_tb ?_ | with_reducible refine s_not ?_ | with_reducible refine s_and ?_ | with_reducible refine s_or ?_ | with_reducible refine s_yes ?_
  | ((with_reducible refine' s_var ?hv ?_); (case hv => exact rfl))
  | with_reducible refine s_ifx ?_ | with_reducible refine s_andV ?_ | with_reducible refine s_orV ?_ | with_reducible refine s_notV ?_ | with_reducible refine s_chain ?_ | with_reducible refine s_nil ?_ | with_reducible refine s_cons ?_ | with_reducible refine s_lst ?_ | with_reducible refine s_tup ?_ | with_reducible refine s_cb ?_ | with_reducible refine s_call ?_ | with_reducible refine s_meth ?_ | with_reducible refine s_make ?_
  | with_reducible refine s_dnewK ?_ | with_reducible refine s_sl ?_ | with_reducible refine s_po0 ?_ | with_reducible refine s_po1 ?_ | with_reducible refine s_bm ?_ | with_reducible refine s_bm0 ?_
  | with_reducible refine s_bl ?_ | with_reducible refine s_int ?_ | with_reducible refine s_I0 ?_ | with_reducible refine s_addI ?_ | with_reducible refine s_intI ?_ | with_reducible refine s_intB ?_
  | with_reducible refine s_m1 ?_ | with_reducible refine s_lc ?_ | with_reducible refine s_ilist ?_ | with_reducible refine s_for ?_ | with_reducible refine s_irng ?_ | with_reducible refine s_match ?_ | with_reducible refine s_starT ?_ | with_reducible refine s_isS ?_ | with_reducible refine s_isiSS ?_ | with_reducible refine s_fldU ?_ | with_reducible refine s_sfldU ?_
  | ((with_reducible refine' s_eqS ?hq ?_); (case hq => exact rfl)) | ((with_reducible refine' s_neS ?hq ?_); (case hq => exact rfl))
  | ((with_reducible refine' s_isN ?hq ?_); (case hq => exact rfl)) | ((with_reducible refine' s_notN ?hq ?_); (case hq => exact rfl))
  | ((with_reducible refine' s_eqNil ?h1 ?h2 ?_); (case h1 => walk_at "hl"); (case h2 => walk_at "hl")) | ((with_reducible refine' s_neNil ?h1 ?h2 ?_); (case h1 => walk_at "hl"); (case h2 => walk_at "hl"))
  | ((with_reducible refine' s_ixL ?h1 ?h2 ?_); (case h1 => walk_at "hl"); (case h2 => walk_at "at")) | ((with_reducible refine' s_ixT ?h1 ?h2 ?_); (case h1 => walk_at "hl"); (case h2 => walk_at "at"))
  | ((with_reducible refine' s_inS ?h1 ?_); (case h1 => walk_at "hl")) | ((with_reducible refine' s_ninS ?h1 ?_); (case h1 => walk_at "hl")) | with_reducible refine s_inW ?_
  | ((with_reducible refine' s_lenL ?h1 ?_); (case h1 => walk_at "hl")) | ((with_reducible refine' s_lenT ?h1 ?_); (case h1 => walk_at "hl"))
  | ((with_reducible refine' s_tyL ?h1 ?_); (case h1 => walk_at "hl"))
  | ((with_reducible refine' s_fldM ?h1 ?h2 ?h3 ?_); (case h1 => walk_at "hl"); (case h2 => walk_at "fok"); (case h3 => walk_at "flk"))
  | ((with_reducible refine' s_starM ?h1 ?_); (case h1 => walk_at "hl"))
  | ((with_reducible refine' s_recv ?h1 ?h2 ?_); (case h1 => walk_at "hl"); (case h2 => exact rfl))
  | ((with_reducible refine' s_sz ?h1 ?_); (case h1 => (simp; done))))
local macro_rules | `(tactic| walk_at "rd") => `(tactic| repeat (walk_at "rd1"))
local macro_rules | `(tactic| walk_at "fok") => `(tactic| assumption)
local macro_rules | `(tactic| walk_at "flk") => `(tactic| rfl)
local macro_rules | `(tactic| walk_at "put") => `(tactic| exact rfl)

local macro_rules | `(tactic| walk_at "fok") => `(tactic| first | exact Tk.bk (by assumption) (by decide) | exact Tb.bkr (Tk.b (by assumption)) (by decide))
/-- raise BadBook(i) -/
theorem s_raiseBad {H : Hp} {W : XK} {i : Int} (q : ∀ d H', H d = none → Same H H' → H' d = some (.xd [("at", .int i)]) → W (.ref (a 34)) (some d) H') :
    ([V.int i]).length ≤ 1000 ∧ ∀ x, H x = none → spBad a (.ref x :: ([V.int i] ++ [])) (upd H x (exo x (a 34) none))
      (fun v H2 => v = .non ∧ ∃ (d : Addr) (fs : List (Str × V)), H2 x = some (exo x (a 34) (some d)) ∧ H2 d = some (exd d fs) ∧ H d = none ∧ W (.ref (a 34)) (some d) (upd (del H2 x) d (.xd fs))) (fun _ _ _ => False) := by
  refine ⟨by simp, fun x hx => ⟨x, i, rfl, upd_same, fun d hd hn => ⟨rfl, d, [("at", .int i)], upd_same, ?_, ?_, ?_⟩⟩⟩
  · rw [upd_ne hn]; exact upd_same
  · rw [upd_ne hn] at hd; exact hd
  · rw [upd_ne hn] at hd
    refine q d _ hd (fun b o hb => ?_) upd_same
    have b1 : b ≠ d := by rintro rfl; rw [hd] at hb; cases hb
    have b2 : b ≠ x := by rintro rfl; rw [hx] at hb; cases hb
    rw [upd_ne b1, del_ne b2, upd_ne b2, upd_ne b1, upd_ne b2]
    exact hb
/-- a line that can be read: a text of bounded size, or no text -/
def LineV (H : Hp) (v : V) : Prop := (∃ z, v = .str z ∧ z.length ≤ 1000 ∧ (wordsOf z ≠ [] → WsOk (wordsOf z)) ∧ (wordsOf z).length ≤ 10) ∨ NonStr H v
def takeV (k : Bk) : V → Option Bk
  | .str z => takeK k z
  | _ => none
theorem takeV_no {H : Hp} {k : Bk} {v : V} (h : NonStr H v) : takeV k v = none := by
  rcases h with rfl | ⟨b, rfl⟩ | ⟨i, rfl⟩ | ⟨p, xs, rfl, _⟩ <;> rfl
def readV (k : Bk) : List V → Nat → Nat ⊕ Bk
  | [], _ => .inr k
  | l :: ls, i => match takeV k l with
    | none => .inl i
    | some k' => readV k' ls (i + 1)
def bookV (ls : List V) : Option Nat := match readV bk0 ls 0 with
  | .inl i => some i
  | .inr k => if isComplete k = true then none else some ls.length
def kindsK (k : Bk) : List (Key × V) := mergeK (mergeK (mergeK (mergeK [] (k.cells.map fun c => (.inr c.1, .str "cell"))) (mergeK [] (k.answers.map fun c => (.inr c.1, .str c.2)))) (mergeK [] (k.effects.map fun c => (.inr c, .str "effect")))) (mergeK [] (k.handlers.map fun c => (.inr c.1, .str "handler")))
/-- where the parts of a book stand -/
structure KF where
  dx : Addr
  l1 : Addr
  l2 : Addr
  l3 : Addr
  l4 : Addr
  l5 : Addr
  l6 : Addr
  l7 : Addr
  l8 : Addr
  kd : Addr
  cs : List Addr
  as : List Addr
  hs : List Addr
  pk : List (Key × V)
def KF.fs (F : KF) : List (Str × V) := [("lines", .ref F.l1), ("cells", .ref F.l2), ("answers", .ref F.l3), ("effects", .ref F.l4), ("handlers", .ref F.l5), ("numbers", .ref F.l6), ("code", .ref F.l7), ("places", .ref F.l8), ("kinds", .ref F.kd)]
/-- a book that was made -/
structure BookAt (a : Nat → Addr) (H : Hp) (r : Addr) (F : KF) (ls : List V) (k : Bk) (ns : List Int) : Prop where
  ob : H r = some (.ins (a 30) F.dx F.fs)
  t1 : H F.l1 = some (.tup ls)
  t2 : H F.l2 = some (.tup (F.cs.map V.ref))
  t3 : H F.l3 = some (.tup (F.as.map V.ref))
  t4 : H F.l4 = some (.tup (k.effects.map V.str))
  t5 : H F.l5 = some (.tup (F.hs.map V.ref))
  t6 : H F.l6 = some (.tup (ns.map V.int))
  d8 : H F.l8 = some (.dK (mergeK [] (F.pk.map fun kv => (kv.1, (valV F.pk kv.1).getD .non))))
  dk : H F.kd = some (.dK (kindsK k))
  ct : TupsAt H F.cs (k.cells.map fun x => [.str x.1, .int x.2])
  at_ : TupsAt H F.as (k.answers.map fun x => [.str x.1, .str x.2])
  ht : HandAt H F.hs k.handlers
  plk : PlAt H F.pk k.places
theorem BookAt.same {H H' : Hp} {r : Addr} {F : KF} {ls : List V} {k : Bk} {ns : List Int} (B : BookAt a H r F ls k ns) (s : Same H H') : BookAt a H' r F ls k ns :=
  ⟨s _ _ B.ob, s _ _ B.t1, s _ _ B.t2, s _ _ B.t3, s _ _ B.t4, s _ _ B.t5, s _ _ B.t6, s _ _ B.d8, s _ _ B.dk, B.ct.keep (.same s), B.at_.keep (.same s), B.ht.keep (.same s), B.plk.keep (.same s)⟩
def overK (ls : List V) (k : Bk) (ns : List Int) : Option Str := overOf (boundsOf ls.length k.cells.length k.answers.length k.effects.length k.handlers.length k.deepest ns.length)
def spBook (a : Nat → Addr) : Sp := fun vs H Q E => ∃ (r dx : Addr) (lv : V), vs = [.ref r, lv] ∧ H r = some (.ins (a 30) dx []) ∧
  ((∃ (l : Addr) (ls : List V), lv = .ref l ∧ SeqLT H l ls ∧ ls.length ≤ 95 ∧ (∀ v ∈ ls, LineV H v) ∧ (∀ k, readV bk0 ls 0 = .inr k → isComplete k = true → ∃ L : List Int, L.length ≤ 60 ∧ ∀ j ∈ k.written, j ∈ L) ∧
    (∀ i, bookV ls = some i → ∀ d H', Fr H H' [r] → H d = none → H' d = some (.xd [("at", .int (i : Nat))]) → E (.ref (a 34)) (some d) H') ∧
    (∀ k ns, bookV ls = none → readV bk0 ls 0 = .inr k → ns.Pairwise (· < ·) → (∀ j, j ∈ ns ↔ j ∈ k.written) →
      (∀ z, overK ls k ns = some z → ∀ d H', Fr H H' [r] → H d = none → H' d = some (.xd [("what", .str z)]) → E (.ref (a 60)) (some d) H') ∧
      (overK ls k ns = none → ∀ F H', F.dx = dx → Fr H H' [r] → BookAt a H' r F ls k ns → Q .non H'))) ∨
  (NoSeq lv ∧ ∀ d H', Fr H H' [r] → H d = none → H' d = some (.xd [("at", .int (-1))]) → E (.ref (a 34)) (some d) H'))
/-- the book under way -/
structure Mid (a : Nat → Addr) (H0 H : Hp) (r dx l rr : Addr) (ls : List V) (k : Bk) (R : RF) (fs : List (Str × V)) (ts : List (Addr × HO)) : Prop where
  ob : H r = some (.ins (a 30) dx fs)
  fr : Fr H0 H [r]
  li : SeqLT H l ls
  B : BkAt a H rr k R
  nr : r ∉ R.own rr
  ts : ∀ q ∈ ts, H q.1 = some q.2 ∧ ∀ C d f, q.2 ≠ .ins C d f
section
variable {H0 H : Hp} {r dx l rr : Addr} {ls : List V} {k : Bk} {R : RF} {fs : List (Str × V)} {ts : List (Addr × HO)}
theorem Mid.same (M : Mid a H0 H r dx l rr ls k R fs ts) {H' : Hp} (s : Same H H') : Mid a H0 H' r dx l rr ls k R fs ts :=
  ⟨s _ _ M.ob, fun x o h hn => s _ _ (M.fr x o h hn), M.li.same s, M.B.same s, M.nr, fun q hq => ⟨s _ _ (M.ts q hq).1, (M.ts q hq).2⟩⟩
/-- a new thing is made, and laid into a field -/
theorem Mid.set (M : Mid a H0 H r dx l rr ls k R fs ts) (fs' : List (Str × V)) {t : Addr} {o : HO} (ht : H t = some o) (ho : ∀ C d f, o ≠ .ins C d f) : Mid a H0 (upd H r (.ins (a 30) dx fs')) r dx l rr ls k R fs' (ts ++ [(t, o)]) := by
  have keep : ∀ x u, H x = some u → x ∈ R.own rr → upd H r (.ins (a 30) dx fs') x = some u := fun x u hx hm => by
    rw [upd_ne (by rintro rfl; exact M.nr hm)]
    exact hx
  have kt : KeepT H (upd H r (.ins (a 30) dx fs')) := KeepT.upd M.ob (by intro vs e; cases e)
  refine ⟨upd_same, fun x o h hn => ?_, ?_, ?_, M.nr, fun q hq => ?_⟩
  · rw [upd_ne (by rintro rfl; exact hn (by simp))]
    exact M.fr x o h hn
  · rcases M.li with q | q
    · exact .inl (by rw [upd_ne (ne_of q M.ob (by intro e; cases e))]; exact q)
    · exact .inr (by rw [upd_ne (ne_of q M.ob (by intro e; cases e))]; exact q)
  · have B := M.B
    refine ⟨B.all.keep fun x u hx hm => keep x u hx (ad_own hm), B.nd, B.ct.keep kt, B.at_.keep kt, B.ht.keep kt, B.ckl, B.plk.keep kt, ?_⟩
    have hb := B.bd
    match hR : R.bd, hk : k.body with
    | none, none => exact trivial
    | some (x, F), some b =>
      rw [hR, hk] at hb
      refine ⟨hb.1.keep fun y u hy hm => keep y u hy (List.mem_append.mpr (.inr (by rw [hR]; exact hm))), hb.2⟩
    | none, some b => rw [hR, hk] at hb; exact hb.elim
    | some (x, F), none => rw [hR, hk] at hb; exact hb.elim
  · rcases List.mem_append.mp hq with h | h
    · obtain ⟨h1, h2⟩ := M.ts q h
      refine ⟨?_, h2⟩
      rw [upd_ne (ne_of h1 M.ob (h2 _ _ _))]
      exact h1
    · rw [List.mem_singleton] at h
      subst h
      refine ⟨?_, ho⟩
      rw [upd_ne (ne_of ht M.ob (ho _ _ _))]
      exact ht
theorem Mid.make (M : Mid a H0 H r dx l rr ls k R fs ts) (fs' : List (Str × V)) {t : Addr} {o : HO} (ht : H t = none) (ho : ∀ C d f, o ≠ .ins C d f) : Mid a H0 (upd (upd H t o) r (.ins (a 30) dx fs')) r dx l rr ls k R fs' (ts ++ [(t, o)]) :=
  (M.same (Same.new ht)).set fs' upd_same ho
end
section
variable {H0 H : Hp} {r dx l rr : Addr} {ls : List V} {k : Bk} {R : RF} {fs : List (Str × V)} {ts : List (Addr × HO)}
theorem s_midSet (M : Mid a H0 H r dx l rr ls k R fs ts) {f : Str} {fs' : List (Str × V)} {t : Addr} {o : HO} {C : Hp → Prop} (hf : FldOk K (a 30) f) (hl : fs.length < 1000) (he : putF f (.ref t) fs = fs') (ht : H t = some o) (ho : ∀ C d f, o ≠ .ins C d f)
    (q : ∀ H', Mid a H0 H' r dx l rr ls k R fs' (ts ++ [(t, o)]) → C H') : mSet K f (.ref r) (.ref t) H C :=
  s_setM M.ob hf hl he (q _ (M.set fs' ht ho))
theorem Mid.free (M : Mid a H0 H r dx l rr ls k R fs ts) {t : Addr} (h : H t = none) : H0 t = none := by
  cases e : H0 t with
  | none => rfl
  | some o =>
    have := M.fr t o e (by
      intro q
      rw [List.mem_singleton] at q
      subst q
      rw [M.ob] at h
      cases h)
    rw [h] at this
    cases this
theorem Mid.rr_pl (M : Mid a H0 H r dx l rr ls k R fs ts) : rr ≠ R.pl := by
  have h := M.B.nd
  intro e
  rw [RF.ad, List.nodup_cons] at h
  exact h.1 (by rw [e]; simp)
end
/-- the book's names, its kinds under way -/
structure Mid2 (a : Nat → Addr) (H0 H : Hp) (r : Addr) (F : KF) (ls : List V) (k : Bk) (ns : List Int) : Prop where
  ob : H r = some (.ins (a 30) F.dx F.fs)
  fr : Fr H0 H [r]
  t1 : H F.l1 = some (.tup ls)
  t2 : H F.l2 = some (.tup (F.cs.map V.ref))
  t3 : H F.l3 = some (.tup (F.as.map V.ref))
  t4 : H F.l4 = some (.tup (k.effects.map V.str))
  t5 : H F.l5 = some (.tup (F.hs.map V.ref))
  t6 : H F.l6 = some (.tup (ns.map V.int))
  d8 : H F.l8 = some (.dK (mergeK [] (F.pk.map fun kv => (kv.1, (valV F.pk kv.1).getD .non))))
  ne : F.l8 ≠ F.kd
  ct : TupsAt H F.cs (k.cells.map fun x => [.str x.1, .int x.2])
  at_ : TupsAt H F.as (k.answers.map fun x => [.str x.1, .str x.2])
  ht : HandAt H F.hs k.handlers
  plk : PlAt H F.pk k.places
theorem Mid2.same {H0 H H' : Hp} {r : Addr} {F : KF} {ls : List V} {k : Bk} {ns : List Int} (M : Mid2 a H0 H r F ls k ns) (s : Same H H') : Mid2 a H0 H' r F ls k ns :=
  ⟨s _ _ M.ob, fun x o h hn => s _ _ (M.fr x o h hn), s _ _ M.t1, s _ _ M.t2, s _ _ M.t3, s _ _ M.t4, s _ _ M.t5, s _ _ M.t6, s _ _ M.d8, M.ne, M.ct.keep (.same s), M.at_.keep (.same s), M.ht.keep (.same s), M.plk.keep (.same s)⟩
theorem Mid2.mut {H0 H : Hp} {r : Addr} {F : KF} {ls : List V} {k : Bk} {ns : List Int} {m m' : List (Key × V)} (M : Mid2 a H0 H r F ls k ns) (hk : H F.kd = some (.dK m)) (h0 : H0 F.kd = none) : Mid2 a H0 (upd H F.kd (.dK m')) r F ls k ns := by
  have kt : KeepT H (upd H F.kd (.dK m')) := KeepT.upd hk (by intro vs e; cases e)
  refine ⟨?_, fun x o h hn => ?_, kt _ _ M.t1, kt _ _ M.t2, kt _ _ M.t3, kt _ _ M.t4, kt _ _ M.t5, kt _ _ M.t6, ?_, M.ne, M.ct.keep kt, M.at_.keep kt, M.ht.keep kt, M.plk.keep kt⟩
  · rw [upd_ne (ne_of M.ob hk (by intro e; cases e))]
    exact M.ob
  · rw [upd_ne (by rintro rfl; rw [h0] at h; cases h)]
    exact M.fr x o h hn
  · rw [upd_ne M.ne]
    exact M.d8
theorem s_dget {σ : L2.St} {H : Hp} {Q : VK} {td ty : TE} (h : td σ H fun x H1 => ty σ H1 fun y H2 => ∃ a v, x = .ref a ∧ DGet H2 a y (some v) ∧ Q v H2) : tDGet td ty σ H Q := h
theorem valV_mem {kvs : List (Key × V)} {kv : Key × V} (h : kv ∈ kvs) : ∃ u, valV kvs kv.1 = some u := by
  unfold valV
  cases e : kvs.find? (fun x => decide (x.1 = kv.1)) with
  | some y => exact ⟨_, rfl⟩
  | none =>
    have := List.find?_eq_none.mp e kv h
    simp at this
theorem ref_at {l : List Addr} {i : Nat} {x : V} (hx : (l.map V.ref)[i]? = some x) : ∃ z, l[i]? = some z ∧ x = .ref z := by
  rw [List.getElem?_map] at hx
  cases e : l[i]? with
  | none => rw [e] at hx; cases hx
  | some z => rw [e] at hx; exact ⟨z, rfl, (Option.some.inj hx).symm⟩
theorem nodup_sub : ∀ {ns L : List Int}, ns.Pairwise (· < ·) → (∀ j ∈ ns, j ∈ L) → ns.length ≤ L.length
  | [], L, _, _ => Nat.zero_le _
  | x :: l, L, hp, hs => by
    rw [List.pairwise_cons] at hp
    have hx := hs x (by simp)
    have h := nodup_sub (ns := l) (L := L.erase x) hp.2 fun j hj => by
      have h1 := hp.1 j hj
      rw [List.mem_erase_of_ne (by omega)]
      exact hs j (by simp [hj])
    rw [List.length_erase_of_mem hx] at h
    have : 0 < L.length := List.length_pos_of_mem hx
    rw [List.length_cons]
    omega
theorem ok_Book___init__ (T : Tk K mg a fd tk) : FnOk P w K mg base (L2.CX P w) 9 (a 31) (fd 31) ["self", "lines"] (spBook a) := by
  refine T.F_Book___init__.okX sc_Book___init__ (fun vs H Q E h => ?_) (fun cdv A outer s H vs Q E hr h => ?_)
  · obtain ⟨r, dx, l, rfl, _⟩ := h
    rfl
  · obtain ⟨r, dx, lv, rfl, hob, h⟩ := h
    refine ⟨_, (pss_cons (ps_if (pt_not (pt_val (pe_callB call_isiT (by rfl) T.b.x.b_isinstance bt_isinstance (pa_cons (pv 1) (pa_cons (pe_tup (pa_cons (pe_bltn (v := .ty "list") (by rfl) T.b.y.b_list bt_list rfl) (pa_cons (pe_bltn (v := .ty "tuple") (by rfl) T.b.y.b_tuple bt_tuple rfl) pa_nil))) pa_nil))))) (pss_one (ps_raise rfl (takes_of rfl rfl rfl rfl) (pmk_oex T.ox_BadBook T.ini_BadBook T.inf_BadBook (ok_BadBook___init__ T) (hr.mono (by decide)) (b_BadBook___init__ T) .nil passF (by rfl) T.g_BadBook (pa_cons (pe_un un_neg pe_int) pa_nil)))) pss_nil)
  (pss_cons (ps_asg (pe_make0 T.b.mk_BookReader (ok_BookReader___init__ T.b) (hr.mono (by decide)) (by rfl) T.b.g_BookReader (b_BookReader___init__ T.b) .nil pass0) (pg_name (i := 2) sc_Book___init__.nd rfl (by first | exact Or.inl rfl | exact Or.inr rfl)))
  (pss_cons (ps_for (passes_of rfl) rfl (pi_enumU (by rfl) T.b.x.b_enumerate (pa_cons (pv 1) pa_nil)) (pg_tupU (n := 2) rfl (pgs_cons (pg_name (i := 3) sc_Book___init__.nd rfl (by first | exact Or.inl rfl | exact Or.inr rfl)) (pgs_cons (pg_name (i := 4) sc_Book___init__.nd rfl (by first | exact Or.inl rfl | exact Or.inr rfl)) pgs_nil)))
   (pss_one (ps_if (pt_not (pt_val (pe_meth (pv 2) T.b.cl_BookReader T.b.m_BookReader_take (ok_BookReader_take T.b) (hr.mono (by decide)) (b_BookReader_take T.b) .nil pass0 (pa_cons (pv 4) pa_nil)))) (pss_one (ps_raise rfl (takes_of rfl rfl rfl rfl) (pmk_oex T.ox_BadBook T.ini_BadBook T.inf_BadBook (ok_BadBook___init__ T) (hr.mono (by decide)) (b_BadBook___init__ T) .nil passF (by rfl) T.g_BadBook (pa_cons (pv 3) pa_nil)))) pss_nil)))
  (pss_cons (ps_if (pt_not (pt_val (pe_meth0 (pv 2) T.b.cl_BookReader T.b.m_BookReader_is_complete (ok_BookReader_is_complete T.b) (hr.mono (by decide)) (b_BookReader_is_complete T.b) .nil pass0))) (pss_one (ps_raise rfl (takes_of rfl rfl rfl rfl) (pmk_oex T.ox_BadBook T.ini_BadBook T.inf_BadBook (ok_BadBook___init__ T) (hr.mono (by decide)) (b_BadBook___init__ T) .nil passF (by rfl) T.g_BadBook (pa_cons (pe_callB uLen (by rfl) T.b.x.b_len bt_len (pa_cons (pv 1) pa_nil)) pa_nil)))) pss_nil)
  (pss_cons (ps_fldU K (pv 0) (pe_callTy uTuple (by rfl) T.b.y.b_tuple bt_tuple (pa_cons (pv 1) pa_nil)))
  (pss_cons (ps_fldU K (pv 0) (pe_callTy uTuple (by rfl) T.b.y.b_tuple bt_tuple (pa_cons (pe_fldU K (pv 2)) pa_nil)))
  (pss_cons (ps_fldU K (pv 0) (pe_callTy uTuple (by rfl) T.b.y.b_tuple bt_tuple (pa_cons (pe_fldU K (pv 2)) pa_nil)))
  (pss_cons (ps_fldU K (pv 0) (pe_callTy uTuple (by rfl) T.b.y.b_tuple bt_tuple (pa_cons (pe_fldU K (pv 2)) pa_nil)))
  (pss_cons (ps_fldU K (pv 0) (pe_callTy uTuple (by rfl) T.b.y.b_tuple bt_tuple (pa_cons (pe_fldU K (pv 2)) pa_nil)))
  (pss_cons (ps_fldU K (pv 0) (pe_callTy uTuple (by rfl) T.b.y.b_tuple bt_tuple (pa_cons (pe_callB (cr_sortedSet rfl) (by rfl) T.b.y.b_sorted bt_sorted (pa_cons (pe_callTy (cr_setI rfl) (by rfl) T.b_set bt_set (pa_cons (pe_fldU K (pv 2)) pa_nil)) pa_nil)) pa_nil)))
  (pss_cons (ps_fldU K (pv 0) (pe_callTy call_dictD (by rfl) T.b_dict bt_dict (pa_cons (pe_fldU K (pv 2)) pa_nil)))
  (pss_cons (ps_fldU K (pv 0) (pe_lock (pe_dc (own := [("name", 5)]) rfl sc_Book___init__.nd (pi_keys (pe_fldU K (pv 2))) (blkOk_by (N := N_Book___init__) (sc := defScope s_Book___init__) (by decide +kernel)) (fun _ _ _ _ _ => (pg_name (i := 5) sc_Book___init__.nd rfl (by first | exact Or.inl rfl | exact Or.inr rfl))) (fun _ _ _ _ _ => pts_nil) (fun _ _ _ _ _ => (pv 5)) (fun _ _ _ _ _ => (pe_dget (hu_of hr) (pe_fldU K (pv 2)) (pv 5) (fun _ _ => rfl))))))
  (pss_cons (ps_expr (pe_meth (pv 0) T.cl_Book T.m_Book_check_bounds (ok_Book_check_bounds T) (hr.mono (by decide)) (b_Book_check_bounds T) .nil (passes_call (takes_of rfl rfl rfl rfl) (fun _ _ _ _ h => h)) (pa_cons (pe_fldU K (pv 2)) pa_nil)))
  (pss_cons (ps_fldU K (pv 0) (pe_dc (own := [("name", 5), ("value", 6)]) rfl sc_Book___init__.nd (pi_tup (pe_fldU K (pv 0))) (blkOk_by (N := N_Book___init__) (sc := defScope s_Book___init__) (by decide +kernel)) (fun _ _ _ _ _ => (pg_tupU (n := 2) rfl (pgs_cons (pg_name (i := 5) sc_Book___init__.nd rfl (by first | exact Or.inl rfl | exact Or.inr rfl)) (pgs_cons (pg_name (i := 6) sc_Book___init__.nd rfl (by first | exact Or.inl rfl | exact Or.inr rfl)) pgs_nil)))) (fun _ _ _ _ _ => pts_nil) (fun _ _ _ _ _ => (pv 5)) (fun _ _ _ _ _ => pe_str)))
  (pss_cons (ps_expr (pe_bm PySem.F.plainAttrs_dict PySem.F.slot_dict_update PySem.F.type_dict_update mt_dupd (pe_fldU K (pv 0)) (pa_cons (pe_dc (own := [("name", 5), ("kind", 7)]) rfl sc_Book___init__.nd (pi_tup (pe_fldU K (pv 0))) (blkOk_by (N := N_Book___init__) (sc := defScope s_Book___init__) (by decide +kernel)) (fun _ _ _ _ _ => (pg_tupU (n := 2) rfl (pgs_cons (pg_name (i := 5) sc_Book___init__.nd rfl (by first | exact Or.inl rfl | exact Or.inr rfl)) (pgs_cons (pg_name (i := 7) sc_Book___init__.nd rfl (by first | exact Or.inl rfl | exact Or.inr rfl)) pgs_nil)))) (fun _ _ _ _ _ => pts_nil) (fun _ _ _ _ _ => (pv 5)) (fun _ _ _ _ _ => (pv 7))) pa_nil)))
  (pss_cons (ps_expr (pe_bm PySem.F.plainAttrs_dict PySem.F.slot_dict_update PySem.F.type_dict_update mt_dupd (pe_fldU K (pv 0)) (pa_cons (pe_dc (own := [("name", 5)]) rfl sc_Book___init__.nd (pi_tup (pe_fldU K (pv 0))) (blkOk_by (N := N_Book___init__) (sc := defScope s_Book___init__) (by decide +kernel)) (fun _ _ _ _ _ => (pg_name (i := 5) sc_Book___init__.nd rfl (by first | exact Or.inl rfl | exact Or.inr rfl))) (fun _ _ _ _ _ => pts_nil) (fun _ _ _ _ _ => (pv 5)) (fun _ _ _ _ _ => pe_str)) pa_nil)))
  (pss_one (ps_expr (pe_bm PySem.F.plainAttrs_dict PySem.F.slot_dict_update PySem.F.type_dict_update mt_dupd (pe_fldU K (pv 0)) (pa_cons (pe_dc (own := [("name", 5), ("parameters", 8)]) rfl sc_Book___init__.nd (pi_tup (pe_fldU K (pv 0))) (blkOk_by (N := N_Book___init__) (sc := defScope s_Book___init__) (by decide +kernel)) (fun _ _ _ _ _ => (pg_tupU (n := 2) rfl (pgs_cons (pg_name (i := 5) sc_Book___init__.nd rfl (by first | exact Or.inl rfl | exact Or.inr rfl)) (pgs_cons (pg_name (i := 8) sc_Book___init__.nd rfl (by first | exact Or.inl rfl | exact Or.inr rfl)) pgs_nil)))) (fun _ _ _ _ _ => pts_nil) (fun _ _ _ _ _ => (pv 5)) (fun _ _ _ _ _ => pe_str)) pa_nil)))))))))))))))))))), ?_⟩
    walk_at "rd"
    intro t1 n1
    have s1 : Same H (upd H t1 (.tup [.ty "list", .ty "tuple"])) := Same.new n1
    have hob1 := s1 _ _ hob
    walk_at "rd"
    rcases h with ⟨l, ls, rfl, hl, hlen, hL, hB, kE, kQ⟩ | ⟨hno, kE⟩
    rotate_left
    · refine s_isiNo hno upd_same ?_
      walk_at "rd"
      refine ifT rfl ?_
      refine s_mkO ?_
      walk_at "rd"
      refine s_raiseBad fun d H5 nd s5 hd => ?_
      exact kE d H5 (.same (s1.trans s5)) (s1.free nd) hd
    have hl1 := hl.same s1
    refine s_isiLTU hl1 upd_same ?_
    walk_at "rd"
    refine ifF rfl ?_
    generalize upd H t1 (.tup [.ty "list", .ty "tuple"]) = H1 at s1 hl1 hob1 ⊢
    walk_at "rd"
    intro rr dr nrr ndr hne
    have hrr : r ≠ rr := by rintro rfl; rw [nrr] at hob1; cases hob1
    have s2 : Same H1 (upd (upd H1 dr (.own rr)) rr (.ins (a 19) dr [])) := fun b o hb => by
      rw [upd_ne (by rintro rfl; rw [nrr] at hb; cases hb), upd_ne (by rintro rfl; rw [ndr] at hb; cases hb)]
      exact hb
    refine ⟨rr, dr, rfl, upd_same, fun R0 H2 B0 k0 o0 => ⟨rfl, ?_⟩⟩
    have s02 : Same H H2 := fun b o hb => k0 _ _ (s2 _ _ (s1 _ _ hb)) (by rintro rfl; rw [s1 _ _ hb] at nrr; cases nrr)
    have own0 : ∀ x ∈ R0.own rr, H x = none := fun x hx => by
      rcases o0 x hx with q | q
      · subst q; exact s1.free nrr
      · exact s1.free (s2.free q)
    clear s2 k0 o0 hne
    walk_at "rd"
    refine s_forEnumU (p := l) (xs := ls) rfl (hl.same s02) (fun i σ H' => ∃ v3 v4 k R m, σ = [some (.ref r), some (.ref l), some (.ref rr), v3, v4, none, none, none, none] ∧ readV bk0 ls 0 = readV k (ls.drop i) i ∧ BkAt a H' rr k R ∧ (∀ x ∈ R.own rr, H x = none) ∧ Same H H' ∧ KInv i m k ∧ m ≤ i * 10 ∧ (SeqLT H' l ls))
      ⟨none, none, bk0, R0, 0, rfl, rfl, B0, own0, s02, kinv0, Nat.le_refl _, hl.same s02⟩ ?_ ?_ ?_
    · rintro i σ H' hi ⟨v3, v4, k, R, m, rfl, hk, B, ho, s', I, hm, hl'⟩
      refine ⟨fun q => ?_, fun q => ?_⟩
      · rcases hl with z | z
        · exact s' _ _ z
        · rw [s02 _ _ z] at q; cases q
      · rcases hl with z | z
        · rw [s02 _ _ z] at q; cases q
        · exact s' _ _ z
    · rintro i x t σ H' hx ⟨v3, v4, k, R, m, rfl, hk, B, ho, s', I, hm, hl'⟩ nt
      have hi : i < ls.length := (List.getElem?_eq_some_iff.mp hx).1
      have hzm : x ∈ ls := List.mem_of_getElem? hx
      have ed : ls.drop i = x :: ls.drop (i + 1) := by
        rw [List.drop_eq_getElem_cons hi]
        rw [(List.getElem?_eq_some_iff.mp hx).2]
      have s3 : Same H (upd H' t (.tup [.int (i : Nat), x])) := s'.trans (Same.new nt)
      have B3 := B.same (Same.new (o := .tup [.int (i : Nat), x]) nt)
      refine s_gtup2 upd_same rfl ?_
      generalize upd H' t (.tup [.int (i : Nat), x]) = H3 at s3 B3 ⊢
      have hob3 := B3.ob
      walk_at "rd"
      rcases hL x hzm with ⟨z, rfl, z1, z2, z3⟩ | hns
      rotate_left
      · refine .inr ⟨rr, x, rfl, hns.same s3, fun H4 s4' => ?_⟩
        have s4 : Same H H4 := s3.trans s4'
        walk_at "rd"
        refine ifT rfl ?_
        refine s_mkO ?_
        walk_at "rd"
        refine s_raiseBad fun d H5 nd s5 hd => ?_
        refine kE i ?_ d H5 (.same (s4.trans s5)) (s4.free nd) hd
        unfold bookV
        rw [hk, ed]
        simp only [readV, takeV_no hns]
      obtain ⟨i1, i2, i3, i4, i5, i6, i7, i8, i9⟩ := I
      refine .inl ⟨rr, z, k, R, rfl, B3, by omega, z2, ⟨by omega, by omega, by omega, by omega⟩, by omega, by omega, by omega, fun b hb => ?_, fun hn H4 f4 => ?_, fun k' hs R' H4 B4 f4 o4 => ?_⟩
      · obtain ⟨q1, q2⟩ := i9 b hb
        have q3 := q1.few
        have q4 := q1.sc
        exact ⟨q1.ok, by omega, by omega, by omega, by omega⟩
      · have s4 : Same H H4 := fun b o hb => f4 _ _ (s3 _ _ hb) fun q => by rw [ho b q] at hb; cases hb
        walk_at "rd"
        refine ifT rfl ?_
        refine s_mkO ?_
        walk_at "rd"
        refine s_raiseBad fun d H5 nd s5 hd => ?_
        refine kE i ?_ d H5 (.same (s4.trans s5)) (s4.free nd) hd
        unfold bookV
        rw [hk, ed]
        simp only [readV, takeV, hn]
      · have s4 : Same H H4 := fun b o hb => f4 _ _ (s3 _ _ hb) fun q => by rw [ho b q] at hb; cases hb
        walk_at "rd"
        refine ifF rfl ?_
        walk_at "rd"
        refine ⟨_, _, k', R', m + (wordsOf z).length, rfl, ?_, B4, fun x hx => ?_, s4, takeK_inv ⟨i1, i2, i3, i4, i5, i6, i7, i8, i9⟩ hs, by rw [Nat.add_mul]; omega, hl.same s4⟩
        · rw [hk, ed]
          simp only [readV, takeV, hs]
        · rcases o4 x hx with q | q
          · exact ho x q
          · exact s3.free q
    · rintro σ H3 ⟨v3, v4, k, R, m, rfl, hk, B, ho, s3, I, hm, _⟩
      rw [List.drop_length] at hk
      have hrd : readV bk0 ls 0 = .inr k := hk
      clear hk
      have hob3 := B.ob
      walk_at "rd"
      refine ⟨rr, k, R, rfl, B, fun H4 s4 => ?_⟩
      walk_at "rd"
      cases hc : isComplete k with
      | false =>
        refine ifT rfl ?_
        refine s_mkO ?_
        have hl4 := (hl.same s3).same s4
        walk_at "rd"
        refine s_lenU hl4 ?_
        walk_at "rd"
        refine s_raiseBad fun d H5 nd s5 hd => ?_
        have e : bookV ls = some ls.length := by unfold bookV; rw [hrd]; simp [hc]
        exact kE _ e d H5 (.same ((s3.trans s4).trans s5)) ((s3.trans s4).free nd) hd
      | true =>
        refine ifF rfl ?_
        have hnone : bookV ls = none := by unfold bookV; rw [hrd]; simp [hc]
        obtain ⟨Ln, hLn1, hLn2⟩ := hB k hrd hc
        have M : Mid a H H4 r dx l rr ls k R [] [] := ⟨s4 _ _ (s3 _ _ hob), .same (s3.trans s4), (hl.same s3).same s4, B.same s4, fun q => (by rw [ho r q] at hob; cases hob), fun q hq => (by cases hq)⟩
        clear s4 B hob3 s3
        have M0 := M
        have hob4 := M.B.ob
        have hr4 := M.ob
        walk_at "rd"
        refine s_tupleU M0.li fun l1 H10 s10 h10 => ?_
        walk_at "rd"
        refine s_midSet (M0.same s10) (fs' := [("lines", .ref l1)]) (Tk.bk T (by decide)) (Nat.le_of_ble_eq_true rfl) rfl h10 (by intro _ _ _ e; cases e) fun H11 M1 => ?_
        have hob11 := M1.B.ob
        have hr11 := M1.ob
        walk_at "rd"
        refine s_tupleL M1.B.ce fun l2 n2 => ?_
        walk_at "rd"
        refine s_midSet (M1.same (Same.new n2)) (fs' := [("lines", .ref l1), ("cells", .ref l2)]) (Tk.bk T (by decide)) (Nat.le_of_ble_eq_true rfl) rfl upd_same (by intro _ _ _ e; cases e) fun H12 M2 => ?_
        have hob12 := M2.B.ob
        have hr12 := M2.ob
        walk_at "rd"
        refine s_tupleL M2.B.aw fun l3 n3 => ?_
        walk_at "rd"
        refine s_midSet (M2.same (Same.new n3)) (fs' := [("lines", .ref l1), ("cells", .ref l2), ("answers", .ref l3)]) (Tk.bk T (by decide)) (Nat.le_of_ble_eq_true rfl) rfl upd_same (by intro _ _ _ e; cases e) fun H13 M3 => ?_
        have hob13 := M3.B.ob
        have hr13 := M3.ob
        walk_at "rd"
        refine s_tupleL M3.B.ef fun l4 n4 => ?_
        walk_at "rd"
        refine s_midSet (M3.same (Same.new n4)) (fs' := [("lines", .ref l1), ("cells", .ref l2), ("answers", .ref l3), ("effects", .ref l4)]) (Tk.bk T (by decide)) (Nat.le_of_ble_eq_true rfl) rfl upd_same (by intro _ _ _ e; cases e) fun H14 M4 => ?_
        have hob14 := M4.B.ob
        have hr14 := M4.ob
        walk_at "rd"
        refine s_tupleL M4.B.ha fun l5 n5 => ?_
        walk_at "rd"
        refine s_midSet (M4.same (Same.new n5)) (fs' := [("lines", .ref l1), ("cells", .ref l2), ("answers", .ref l3), ("effects", .ref l4), ("handlers", .ref l5)]) (Tk.bk T (by decide)) (Nat.le_of_ble_eq_true rfl) rfl upd_same (by intro _ _ _ e; cases e) fun H15 M5 => ?_
        have hob15 := M5.B.ob
        have hr15 := M5.ob
        walk_at "rd"
        refine ⟨R.wr, k.written, rfl, M5.B.wr, by have := I.w; omega, fun ps cnt nps hcnt hcnt2 => ?_⟩
        walk_at "rd"
        refine ⟨ps, _, cnt, rfl, upd_same, by have := hcnt2 Ln hLn2; omega, fun ns pn hpw hmem hnl npn => ?_⟩
        obtain ⟨kE2, kQ2⟩ := kQ k ns hnone hrd hpw (fun j => by rw [hmem j]; simp)
        have M5' := (M5.same (Same.new nps)).same (Same.new (o := .lst (ns.map V.int)) npn)
        walk_at "rd"
        refine s_tupleL upd_same fun l6 n6 => ?_
        walk_at "rd"
        refine s_midSet (M5'.same (Same.new n6)) (fs' := [("lines", .ref l1), ("cells", .ref l2), ("answers", .ref l3), ("effects", .ref l4), ("handlers", .ref l5), ("numbers", .ref l6)]) (Tk.bk T (by decide)) (Nat.le_of_ble_eq_true rfl) rfl upd_same (by intro _ _ _ e; cases e) fun H16 M6 => ?_
        clear M5' n6 npn nps
        have hob16 := M6.B.ob
        walk_at "rd"
        refine ⟨R.co, R.ck, rfl, .inl M6.B.co, fun l7 n7 => ?_⟩
        walk_at "rd"
        refine s_midSet (M6.same (Same.new n7)) (fs' := [("lines", .ref l1), ("cells", .ref l2), ("answers", .ref l3), ("effects", .ref l4), ("handlers", .ref l5), ("numbers", .ref l6), ("code", .ref l7)]) (Tk.bk T (by decide)) (Nat.le_of_ble_eq_true rfl) rfl upd_same (by intro _ _ _ e; cases e) fun H17 M7 => ?_
        have hob17 := M7.B.ob
        have hpl17 := M7.B.pl
        walk_at "rd"
        refine s_lockE hpl17 trivial fun od => ?_
        have hobl : upd H17 R.pl (.frz od (.dK R.pk)) rr = some (.ins (a 19) R.dx (bkF R k.count k.deepest k.name)) := by rw [upd_ne M7.rr_pl]; exact hob17
        have hpll : upd H17 R.pl (.frz od (.dK R.pk)) R.pl = some (.frz od (.dK R.pk)) := upd_same
        have keepl : ∀ x o, H17 x = some o → x ≠ R.pl → upd H17 R.pl (.frz od (.dK R.pk)) x = some o := fun x o hx hn => by rw [upd_ne hn]; exact hx
        generalize upd H17 R.pl (.frz od (.dK R.pk)) = Hl at hobl hpll keepl ⊢
        refine s_dc (s_ikeys ?_)
        walk_at "rd"
        refine s_dcK (fun kv => (kv.1, (valV R.pk kv.1).getD .non)) hpll (by have := M7.B.plk.1; have := I.p; omega) (fun i kv H2 Rr hi s2 kk => ?_) (fun l8 H18 s18 n8 h8 => ?_)
        · have hob2 := s2 _ _ hobl
          have hpl2 := s2 _ _ hpll
          refine ⟨by rfl, ?_⟩
          walk_at "rd"
          show tDGet _ _ _ _ _
          refine s_dget ?_
          walk_at "rd"
          obtain ⟨u, hu⟩ : ∃ u, valV R.pk kv.1 = some u := valV_mem (List.mem_of_getElem? hi)
          refine ⟨R.pl, u, rfl, .inl ⟨R.pk, kv.1, .inr ⟨od, hpl2⟩, rfl, hu.symm⟩, ?_⟩
          have := kk H2 (Same.refl _)
          rw [hu] at this
          exact this
        refine ⟨s18 _ _ hpll, ?_⟩
        have hn8 : l8 ≠ R.pl := by rintro rfl; rw [hpll] at n8; cases n8
        have ss : Same H17 (upd H18 R.pl (.dK R.pk)) := fun x o hx => by
          by_cases e : x = R.pl
          · subst e; rw [hpl17] at hx; cases hx; exact upd_same
          · rw [upd_ne e]; exact s18 _ _ (keepl x o hx e)
        have h8' : upd H18 R.pl (.dK R.pk) l8 = some (.dK (mergeK [] (R.pk.map fun kv => (kv.1, (valV R.pk kv.1).getD .non)))) := by rw [upd_ne hn8]; exact h8
        walk_at "rd"
        refine s_midSet (M7.same ss) (fs' := [("lines", .ref l1), ("cells", .ref l2), ("answers", .ref l3), ("effects", .ref l4), ("handlers", .ref l5), ("numbers", .ref l6), ("code", .ref l7), ("places", .ref l8)]) (Tk.bk T (by decide)) (Nat.le_of_ble_eq_true rfl) rfl h8' (by intro _ _ _ e; cases e) fun H19 M8 => ?_
        clear ss h8' s18 keepl hpll hobl
        have hob19 := M8.B.ob
        have hr19 := M8.ob
        walk_at "rd"
        have g := fun q hq => (M8.ts q hq).1
        have eov : overOf (boundsOf ls.length (R.cs.map V.ref).length (R.as.map V.ref).length (k.effects.map V.str).length (R.hs.map V.ref).length k.deepest (ns.map V.int).length) = overK ls k ns := by
          unfold overK
          rw [List.length_map, List.length_map, List.length_map, List.length_map, List.length_map, M8.B.ct.1, M8.B.at_.1, M8.B.ht.1, List.length_map, List.length_map]
        refine ⟨r, dx, l1, l2, l3, l4, l5, l6, l7, l8, ls, R.cs.map V.ref, R.as.map V.ref, k.effects.map V.str, R.hs.map V.ref, ns.map V.int, k.deepest, rfl, M8.ob, g (l1, _) (by simp), g (l2, _) (by simp), g (l3, _) (by simp), g (l4, _) (by simp), g (l5, _) (by simp), g (l6, _) (by simp),
          fun hov H20 s20 => ?_, fun z hov d H20 s20 nd hd => ?_⟩
        rotate_left
        · rw [eov] at hov
          exact kE2 z hov d H20 (fun x o h hn => s20 _ _ (M8.fr x o h hn)) (M8.free nd) hd
        rw [eov] at hov
        have Bo : k.cells.length ≤ 4 ∧ k.answers.length ≤ 3 ∧ k.effects.length ≤ 3 ∧ k.handlers.length ≤ 3 := by
          have hov' := hov
          unfold overK boundsOf at hov'
          simp only [overOf] at hov'
          repeat' split at hov'
          all_goals first | (refine ⟨?_, ?_, ?_, ?_⟩ <;> omega) | (cases hov'; done)
        have M9 := M8.same s20
        have hr20 := M9.ob
        have g9 := fun q hq => (M9.ts q hq).1
        have hc20 : H20 l2 = some (.tup (R.cs.map V.ref)) := g9 (l2, _) (by simp)
        walk_at "rd"
        refine s_dc (s_itup ?_)
        walk_at "rd"
        refine s_dcT k.cells (fun c => (.inr c.1, .str "cell")) hc20 (by rw [List.length_map, M9.B.ct.1, List.length_map]) (by have := Bo.1; omega) (fun i c x H2 Rr hc hx s2 kk => ?_) (fun kd H21 s21 nkd hkd => ?_)
        · obtain ⟨ca, hca, rfl⟩ := ref_at hx
          have h2 := (M9.B.ct.keep (.same s2)).2 i ca _ hca (by rw [List.getElem?_map, hc]; rfl)
          refine s_gtup2 h2 rfl ?_
          refine ⟨by rfl, ?_⟩
          walk_at "rd"
          exact kk H2 (Same.refl _)
        have kd0 := M9.free nkd
        walk_at "rd"
        refine s_midSet (M9.same s21) (fs' := [("lines", .ref l1), ("cells", .ref l2), ("answers", .ref l3), ("effects", .ref l4), ("handlers", .ref l5), ("numbers", .ref l6), ("code", .ref l7), ("places", .ref l8), ("kinds", .ref kd)]) (Tk.bk T (by decide)) (Nat.le_of_ble_eq_true rfl) rfl hkd (by intro _ _ _ e; cases e) fun H22 M10 => ?_
        have g10 := fun q hq => (M10.ts q hq).1
        have hk1 : H22 kd = some (.dK (mergeK [] (k.cells.map fun c => (.inr c.1, .str "cell")))) := g10 (kd, _) (by simp)
        have h22 : H22 l8 = some (.dK (mergeK [] (R.pk.map fun kv => (kv.1, (valV R.pk kv.1).getD .non)))) := g10 (l8, _) (by simp)
        have ne8 : l8 ≠ kd := by
          rintro rfl
          have h9 : H20 l8 = some (.dK (mergeK [] (R.pk.map fun kv => (kv.1, (valV R.pk kv.1).getD .non)))) := g9 (l8, _) (by simp)
          rw [nkd] at h9
          cases h9
        have N1 : Mid2 a H H22 r ⟨dx, l1, l2, l3, l4, l5, l6, l7, l8, kd, R.cs, R.as, R.hs, R.pk⟩ ls k ns := ⟨M10.ob, M10.fr, g10 (l1, _) (by simp), g10 (l2, _) (by simp), g10 (l3, _) (by simp), g10 (l4, _) (by simp), g10 (l5, _) (by simp), g10 (l6, _) (by simp), h22, ne8, M10.B.ct, M10.B.at_, M10.B.ht, M10.B.plk⟩
        have kz1 := mergeK_len (k.cells.map fun c => ((.inr c.1 : Key), (V.str "cell"))) []
        rw [List.length_map, List.length_nil] at kz1
        have kz2 : (mergeK (mergeK [] (k.cells.map fun c => (.inr c.1, .str "cell"))) (mergeK [] (k.answers.map fun c => (.inr c.1, .str c.2)))).length ≤ 0 + k.cells.length + k.answers.length := by
          refine Nat.le_trans (mergeK_len _ _) ?_
          refine Nat.add_le_add kz1 ?_
          refine Nat.le_trans (mergeK_len _ _) ?_
          simp
        have kz3 : (mergeK (mergeK (mergeK [] (k.cells.map fun c => (.inr c.1, .str "cell"))) (mergeK [] (k.answers.map fun c => (.inr c.1, .str c.2)))) (mergeK [] (k.effects.map fun c => (.inr c, .str "effect")))).length ≤ 0 + k.cells.length + k.answers.length + k.effects.length := by
          refine Nat.le_trans (mergeK_len _ _) ?_
          refine Nat.add_le_add kz2 ?_
          refine Nat.le_trans (mergeK_len _ _) ?_
          simp
        have hr1 := N1.ob
        have ht1 := N1.t3
        walk_at "rd"
        refine ⟨.inr (.inr (.inl ⟨rfl, .inl ⟨_, hk1⟩⟩)), ?_⟩
        walk_at "rd"
        refine s_dc (s_itup ?_)
        walk_at "rd"
        refine s_dcT k.answers (fun c => (.inr c.1, .str c.2)) ht1 (by rw [List.length_map, N1.at_.1, List.length_map]) (by have := Bo.2.1; omega) (fun i c x H2 Rr hc hx s2 kk => ?_) (fun d1 G1 sg1 nd1 hd1 => ?_)
        · obtain ⟨ca, hca, rfl⟩ := ref_at hx
          have h2 := (N1.at_.keep (.same s2)).2 i ca _ hca (by rw [List.getElem?_map, hc]; rfl)
          refine s_gtup2 h2 rfl ?_
          refine ⟨by rfl, ?_⟩
          walk_at "rd"
          exact kk H2 (Same.refl _)
        have hkg1 := sg1 _ _ hk1
        walk_at "rd"
        have ne1 : kd ≠ d1 := by rintro rfl; rw [hk1] at nd1; cases nd1
        refine s_upd ne1 hkg1 hd1 (by have := mergeK_len (k.answers.map fun c => (.inr c.1, .str c.2)) []; simp at this ⊢; have q1 := kz1; have q2 := Bo.1; have q3 := Bo.2.1; omega) ?_
        have N2 := (N1.same sg1).mut (m' := mergeK (mergeK [] (k.cells.map fun c => (.inr c.1, .str "cell"))) (mergeK [] (k.answers.map fun c => (.inr c.1, .str c.2)))) hkg1 kd0
        have hk2 : upd G1 kd (.dK (mergeK (mergeK [] (k.cells.map fun c => (.inr c.1, .str "cell"))) (mergeK [] (k.answers.map fun c => (.inr c.1, .str c.2))))) kd = some (.dK (mergeK (mergeK [] (k.cells.map fun c => (.inr c.1, .str "cell"))) (mergeK [] (k.answers.map fun c => (.inr c.1, .str c.2))))) := upd_same
        generalize upd G1 kd (.dK (mergeK (mergeK [] (k.cells.map fun c => (.inr c.1, .str "cell"))) (mergeK [] (k.answers.map fun c => (.inr c.1, .str c.2))))) = H31 at N2 hk2 ⊢
        have hr2 := N2.ob
        have ht2 := N2.t4
        walk_at "rd"
        refine ⟨.inr (.inr (.inl ⟨rfl, .inl ⟨_, hk2⟩⟩)), ?_⟩
        walk_at "rd"
        refine s_dc (s_itup ?_)
        walk_at "rd"
        refine s_dcT k.effects (fun c => (.inr c, .str "effect")) ht2 (by rw [List.length_map]) (by have := Bo.2.2.1; omega) (fun i c x H2 Rr hc hx s2 kk => ?_) (fun d2 G2 sg2 nd2 hd2 => ?_)
        · obtain ⟨z, hz, rfl⟩ := str_at hx
          rw [hc] at hz
          cases hz
          refine ⟨by rfl, ?_⟩
          walk_at "rd"
          exact kk H2 (Same.refl _)
        have hkg2 := sg2 _ _ hk2
        walk_at "rd"
        have ne2 : kd ≠ d2 := by rintro rfl; rw [hk2] at nd2; cases nd2
        refine s_upd ne2 hkg2 hd2 (by have := mergeK_len (k.effects.map fun c => (.inr c, .str "effect")) []; simp at this ⊢; have q1 := kz2; have q2 := Bo.1; have q3 := Bo.2.1; have q4 := Bo.2.2.1; omega) ?_
        have N3 := (N2.same sg2).mut (m' := mergeK (mergeK (mergeK [] (k.cells.map fun c => (.inr c.1, .str "cell"))) (mergeK [] (k.answers.map fun c => (.inr c.1, .str c.2)))) (mergeK [] (k.effects.map fun c => (.inr c, .str "effect")))) hkg2 kd0
        have hk3 : upd G2 kd (.dK (mergeK (mergeK (mergeK [] (k.cells.map fun c => (.inr c.1, .str "cell"))) (mergeK [] (k.answers.map fun c => (.inr c.1, .str c.2)))) (mergeK [] (k.effects.map fun c => (.inr c, .str "effect"))))) kd = some (.dK (mergeK (mergeK (mergeK [] (k.cells.map fun c => (.inr c.1, .str "cell"))) (mergeK [] (k.answers.map fun c => (.inr c.1, .str c.2)))) (mergeK [] (k.effects.map fun c => (.inr c, .str "effect"))))) := upd_same
        generalize upd G2 kd (.dK (mergeK (mergeK (mergeK [] (k.cells.map fun c => (.inr c.1, .str "cell"))) (mergeK [] (k.answers.map fun c => (.inr c.1, .str c.2)))) (mergeK [] (k.effects.map fun c => (.inr c, .str "effect"))))) = H32 at N3 hk3 ⊢
        have hr3 := N3.ob
        have ht3 := N3.t5
        walk_at "rd"
        refine ⟨.inr (.inr (.inl ⟨rfl, .inl ⟨_, hk3⟩⟩)), ?_⟩
        walk_at "rd"
        refine s_dc (s_itup ?_)
        walk_at "rd"
        refine s_dcT k.handlers (fun c => (.inr c.1, .str "handler")) ht3 (by rw [List.length_map, N3.ht.1]) (by have := Bo.2.2.2; omega) (fun i c x H2 Rr hc hx s2 kk => ?_) (fun d3 G3 sg3 nd3 hd3 => ?_)
        · obtain ⟨ca, hca, rfl⟩ := ref_at hx
          obtain ⟨pt, h2, _⟩ := (N3.ht.keep (.same s2)).2 i ca c.1 c.2 hca hc
          refine s_gtup2 h2 rfl ?_
          refine ⟨by rfl, ?_⟩
          walk_at "rd"
          exact kk H2 (Same.refl _)
        have hkg3 := sg3 _ _ hk3
        walk_at "rd"
        have ne3 : kd ≠ d3 := by rintro rfl; rw [hk3] at nd3; cases nd3
        refine s_upd ne3 hkg3 hd3 (by have := mergeK_len (k.handlers.map fun c => (.inr c.1, .str "handler")) []; simp at this ⊢; have q1 := kz3; have q2 := Bo.1; have q3 := Bo.2.1; have q4 := Bo.2.2.1; have q5 := Bo.2.2.2; omega) ?_
        have N4 := (N3.same sg3).mut (m' := mergeK (mergeK (mergeK (mergeK [] (k.cells.map fun c => (.inr c.1, .str "cell"))) (mergeK [] (k.answers.map fun c => (.inr c.1, .str c.2)))) (mergeK [] (k.effects.map fun c => (.inr c, .str "effect")))) (mergeK [] (k.handlers.map fun c => (.inr c.1, .str "handler")))) hkg3 kd0
        have hk4 : upd G3 kd (.dK (mergeK (mergeK (mergeK (mergeK [] (k.cells.map fun c => (.inr c.1, .str "cell"))) (mergeK [] (k.answers.map fun c => (.inr c.1, .str c.2)))) (mergeK [] (k.effects.map fun c => (.inr c, .str "effect")))) (mergeK [] (k.handlers.map fun c => (.inr c.1, .str "handler"))))) kd = some (.dK (mergeK (mergeK (mergeK (mergeK [] (k.cells.map fun c => (.inr c.1, .str "cell"))) (mergeK [] (k.answers.map fun c => (.inr c.1, .str c.2)))) (mergeK [] (k.effects.map fun c => (.inr c, .str "effect")))) (mergeK [] (k.handlers.map fun c => (.inr c.1, .str "handler"))))) := upd_same
        generalize upd G3 kd (.dK (mergeK (mergeK (mergeK (mergeK [] (k.cells.map fun c => (.inr c.1, .str "cell"))) (mergeK [] (k.answers.map fun c => (.inr c.1, .str c.2)))) (mergeK [] (k.effects.map fun c => (.inr c, .str "effect")))) (mergeK [] (k.handlers.map fun c => (.inr c.1, .str "handler"))))) = H33 at N4 hk4 ⊢
        exact kQ2 hov _ _ rfl N4.fr ⟨N4.ob, N4.t1, N4.t2, N4.t3, N4.t4, N4.t5, N4.t6, N4.d8, hk4, N4.ct, N4.at_, N4.ht, N4.plk⟩
theorem b_Book___init__ (T : Tk K mg a fd tk) : Binds K (fd 31) ["self", "lines"] [] := T.F_Book___init__.binds fun _ _ _ _ _ _ us hl => match us, hl with | [_, _], _ => rfl
end
end Tr
set_option maxHeartbeats 1000000

namespace Tr
open PySem L2
abbrev s__law_bag : Stmt := (top 25)
abbrev N__law_bag : List Str := ["_law_script"]
theorem sc__law_bag : FnScope ["_law_script"] ["_law_script"] (defScope s__law_bag) := ⟨rfl, rfl, rfl, by decide +kernel, rfl, by decide +kernel, by decide +kernel⟩
abbrev s__law_draw : Stmt := (top 26)
abbrev N__law_draw : List Str := ["_law_bag_here", "_law_many", "_law_part", "_law_cell"]
theorem sc__law_draw : FnScope ["_law_bag_here", "_law_many", "_law_part", "_law_cell"] ["_law_bag_here", "_law_many"] (defScope s__law_draw) := ⟨rfl, rfl, rfl, by decide +kernel, rfl, by decide +kernel, by decide +kernel⟩
abbrev s__law_name : Stmt := (top 27)
abbrev N__law_name : List Str := ["_law_bag_here", "_law_taken", "_law_letters", "_law_kept_words", "_law_start", "_law_k", "_law_first", "_law_name_here"]
theorem sc__law_name : FnScope ["_law_bag_here", "_law_taken", "_law_letters", "_law_kept_words", "_law_start", "_law_k", "_law_first", "_law_name_here"] ["_law_bag_here", "_law_taken"] (defScope s__law_name) := ⟨rfl, rfl, rfl, by decide +kernel, rfl, by decide +kernel, by decide +kernel⟩
abbrev s__law_number : Stmt := (top 28)
abbrev N__law_number : List Str := ["_law_bag_here", "_law_size"]
theorem sc__law_number : FnScope ["_law_bag_here", "_law_size"] ["_law_bag_here"] (defScope s__law_number) := ⟨rfl, rfl, rfl, by decide +kernel, rfl, by decide +kernel, by decide +kernel⟩
abbrev s_law : Stmt := (top 33)
abbrev N_law : List Str := ["_law_script", "_law_bag_here", "_law_words", "_law_most", "_law_first", "_law_second", "_law_beyond", "_law_values", "_law_sizes", "_law_k", "_law_lines", "_law_due"]
theorem sc_law : FnScope ["_law_script", "_law_bag_here", "_law_words", "_law_most", "_law_first", "_law_second", "_law_beyond", "_law_values", "_law_sizes", "_law_k", "_law_lines", "_law_due"] ["_law_script"] (defScope s_law) := ⟨rfl, rfl, rfl, by decide +kernel, rfl, by decide +kernel, by decide +kernel⟩

/-- what the top has made of the law's own defs -/
structure Tl (K : PySem.W.Frag) (mg : Str → Option Value) (a : Nat → Addr) (fd : Nat → FuncData) (tk : Nat → Tok) : Prop where
  k : Tk K mg a fd tk
  b_abs : mg "abs" = none
  b_range : mg "range" = none
  g__law_bag : mg "_law_bag" = some (.ref (a 36))
  F__law_bag : Fun K "_law_bag" "_law_bag" s__law_bag (a 36) (fd 36)
  g__law_draw : mg "_law_draw" = some (.ref (a 37))
  F__law_draw : Fun K "_law_draw" "_law_draw" s__law_draw (a 37) (fd 37)
  g__law_name : mg "_law_name" = some (.ref (a 38))
  F__law_name : Fun K "_law_name" "_law_name" s__law_name (a 38) (fd 38)
  g__law_number : mg "_law_number" = some (.ref (a 39))
  F__law_number : Fun K "_law_number" "_law_number" s__law_number (a 39) (fd 39)
  F_law : Fun K "law" "law" s_law (a 41) (fd 41)
section
variable {P : Program} {w : World} {K : PySem.W.Frag} {mg : Str → Option Value} {base : Heap} {a : Nat → Addr} {fd : Nat → FuncData} {tk : Nat → Tok}
local macro_rules | `(tactic| walk_at "ne") => `(tactic| first | assumption | (exact Ne.symm (by assumption)) | (refine ne_of_none (by assumption) (by assumption)) | (refine Ne.symm (ne_of_none (by assumption) (by assumption))))
local macro_rules | `(tactic| walk_at "hl") => `(tactic| first | assumption | with_reducible exact upd_same | ((with_reducible refine' Eq.trans (upd_ne ?hne) ?hrest); (case hne => walk_at "ne"); (case hrest => walk_at "hl")) | (refine' get_same ?hs ?hg; (case hs => assumption); (case hg => assumption)))
local macro_rules | `(tactic| walk_at "at") => `(tactic| first | with_reducible exact atI_0 _ _ | with_reducible exact atI_1 _ _ _ | with_reducible exact atI_2 _ _ _ _ | with_reducible exact atI_3 _ _ _ _ _ | assumption)
local macro_rules | `(tactic| walk_at "rd1") => `(tactic| first
  | with_reducible refine s_seq ?_ | with_reducible refine s_next ?_ | with_reducible refine s_if ?_ | with_reducible refine s_ret ?_ | with_reducible refine s_retN ?_ | with_reducible refine s_drop ?_ | with_reducible refine s_asg ?_ | with_reducible refine s_brk ?_ | with_reducible refine s_cont ?_
  | with_reducible refine s_gname ?_ | with_reducible refine s_c ?_ | with_reducible refine s_op ?_ | with_reducible refine s_un ?_ | with_reducible refine s_neg ?_ | with_reducible refine s_test ?_ | with_reducible refine s_tb ?_ | with_reducible refine s_not ?_ | with_reducible refine s_and ?_ | with_reducible refine s_or ?_ | with_reducible refine s_yes ?_
  | ((with_reducible refine' s_var ?hv ?_); (case hv => exact rfl))
  | with_reducible refine s_ifx ?_ | with_reducible refine s_andV ?_ | with_reducible refine s_orV ?_ | with_reducible refine s_notV ?_ | with_reducible refine s_chain ?_ | with_reducible refine s_nil ?_ | with_reducible refine s_cons ?_ | with_reducible refine s_lst ?_ | with_reducible refine s_tup ?_ | with_reducible refine s_cb ?_ | with_reducible refine s_call ?_ | with_reducible refine s_meth ?_ | with_reducible refine s_make ?_
  | with_reducible refine s_dnewK ?_ | with_reducible refine s_sl ?_ | with_reducible refine s_po0 ?_ | with_reducible refine s_po1 ?_ | with_reducible refine s_bm ?_ | with_reducible refine s_bm0 ?_
  | with_reducible refine s_bl ?_ | with_reducible refine s_int ?_ | with_reducible refine s_I0 ?_ | with_reducible refine s_addI ?_ | with_reducible refine s_intI ?_ | with_reducible refine s_intB ?_
  | with_reducible refine s_m1 ?_ | with_reducible refine s_lc ?_ | with_reducible refine s_ilist ?_ | with_reducible refine s_for ?_ | with_reducible refine s_irng ?_ | with_reducible refine s_match ?_ | with_reducible refine s_starT ?_ | with_reducible refine s_isS ?_ | with_reducible refine s_isiSS ?_ | with_reducible refine s_fldU ?_ | with_reducible refine s_sfldU ?_
  | ((with_reducible refine' s_eqS ?hq ?_); (case hq => exact rfl)) | ((with_reducible refine' s_neS ?hq ?_); (case hq => exact rfl))
  | ((with_reducible refine' s_isN ?hq ?_); (case hq => exact rfl)) | ((with_reducible refine' s_notN ?hq ?_); (case hq => exact rfl))
  | ((with_reducible refine' s_eqNil ?h1 ?h2 ?_); (case h1 => walk_at "hl"); (case h2 => walk_at "hl")) | ((with_reducible refine' s_neNil ?h1 ?h2 ?_); (case h1 => walk_at "hl"); (case h2 => walk_at "hl"))
  | ((with_reducible refine' s_ixL ?h1 ?h2 ?_); (case h1 => walk_at "hl"); (case h2 => walk_at "at")) | ((with_reducible refine' s_ixT ?h1 ?h2 ?_); (case h1 => walk_at "hl"); (case h2 => walk_at "at"))
  | ((with_reducible refine' s_inS ?h1 ?_); (case h1 => walk_at "hl")) | ((with_reducible refine' s_ninS ?h1 ?_); (case h1 => walk_at "hl")) | with_reducible refine s_inW ?_
  | ((with_reducible refine' s_lenL ?h1 ?_); (case h1 => walk_at "hl")) | ((with_reducible refine' s_lenT ?h1 ?_); (case h1 => walk_at "hl"))
  | ((with_reducible refine' s_tyL ?h1 ?_); (case h1 => walk_at "hl"))
  | ((with_reducible refine' s_fldM ?h1 ?h2 ?h3 ?_); (case h1 => walk_at "hl"); (case h2 => walk_at "fok"); (case h3 => walk_at "flk"))
  | ((with_reducible refine' s_setM ?h1 ?h2 ?h3 ?h4 ?_); (case h1 => walk_at "hl"); (case h2 => walk_at "fok"); (case h4 => walk_at "put"); (case h3 => exact Nat.le_of_ble_eq_true rfl))
  | ((with_reducible refine' s_starM ?h1 ?_); (case h1 => walk_at "hl"))
  | ((with_reducible refine' s_recv ?h1 ?h2 ?_); (case h1 => walk_at "hl"); (case h2 => exact rfl))
  | ((with_reducible refine' s_sz ?h1 ?_); (case h1 => (simp; done))))
local macro_rules | `(tactic| walk_at "rd") => `(tactic| repeat (walk_at "rd1"))
local macro_rules | `(tactic| walk_at "fok") => `(tactic| assumption)
local macro_rules | `(tactic| walk_at "flk") => `(tactic| rfl)
local macro_rules | `(tactic| walk_at "put") => `(tactic| exact rfl)

local macro_rules | `(tactic| walk_at "fok") => `(tactic| first | assumption)
def atV : Option Nat → V
  | none => .non
  | some i => .int (i : Nat)
end
end Tr
set_option maxHeartbeats 1000000

namespace Tr
open PySem L2
section
variable {P : Program} {w : World} {K : PySem.W.Frag} {mg : Str → Option Value} {base : Heap} {a : Nat → Addr} {fd : Nat → FuncData} {tk : Nat → Tok}
local macro_rules | `(tactic| walk_at "ne") => `(tactic| first | assumption | (exact Ne.symm (by assumption)) | (refine ne_of_none (by assumption) (by assumption)) | (refine Ne.symm (ne_of_none (by assumption) (by assumption))))
local macro_rules | `(tactic| walk_at "hl") => `(tactic| first | assumption | with_reducible exact upd_same | ((with_reducible refine' Eq.trans (upd_ne ?hne) ?hrest); (case hne => walk_at "ne"); (case hrest => walk_at "hl")) | (refine' get_same ?hs ?hg; (case hs => assumption); (case hg => assumption)))
local macro_rules | `(tactic| walk_at "at") => `(tactic| first | with_reducible exact atI_0 _ _ | with_reducible exact atI_1 _ _ _ | with_reducible exact atI_2 _ _ _ _ | with_reducible exact atI_3 _ _ _ _ _ | assumption)
local macro_rules | `(tactic| walk_at "rd1") => `(tactic| first
  | with_reducible refine s_seq ?_ | with_reducible refine s_next ?_ | with_reducible refine s_if ?_ | with_reducible refine s_ret ?_ | with_reducible refine s_retN ?_ | with_reducible refine s_drop ?_ | with_reducible refine s_asg ?_ | with_reducible refine s_brk ?_ | with_reducible refine s_cont ?_
  | with_reducible refine s_gname ?_ | with_reducible refine s_c ?_ | with_reducible refine s_op ?_ | with_reducible refine s_un ?_ | with_reducible refine s_neg ?_ | with_reducible refine s_test ?_ | with_reducible refine s_tb ?_ | with_reducible refine s_not ?_ | with_reducible refine s_and ?_ | with_reducible refine s_or ?_ | with_reducible refine s_yes ?_
  | ((with_reducible refine' s_var ?hv ?_); (case hv => exact rfl))
  | with_reducible refine s_ifx ?_ | with_reducible refine s_andV ?_ | with_reducible refine s_orV ?_ | with_reducible refine s_notV ?_ | with_reducible refine s_chain ?_ | with_reducible refine s_nil ?_ | with_reducible refine s_cons ?_ | with_reducible refine s_lst ?_ | with_reducible refine s_tup ?_ | with_reducible refine s_cb ?_ | with_reducible refine s_call ?_ | with_reducible refine s_meth ?_ | with_reducible refine s_make ?_
  | with_reducible refine s_dnewK ?_ | with_reducible refine s_sl ?_ | with_reducible refine s_po0 ?_ | with_reducible refine s_po1 ?_ | with_reducible refine s_bm ?_ | with_reducible refine s_bm0 ?_
  | with_reducible refine s_bl ?_ | with_reducible refine s_int ?_ | with_reducible refine s_I0 ?_ | with_reducible refine s_addI ?_ | with_reducible refine s_intI ?_ | with_reducible refine s_intB ?_
  | with_reducible refine s_m1 ?_ | with_reducible refine s_lc ?_ | with_reducible refine s_ilist ?_ | with_reducible refine s_for ?_ | with_reducible refine s_irng ?_ | with_reducible refine s_match ?_ | with_reducible refine s_starT ?_ | with_reducible refine s_isS ?_ | with_reducible refine s_isiSS ?_ | with_reducible refine s_fldU ?_ | with_reducible refine s_sfldU ?_
  | ((with_reducible refine' s_eqS ?hq ?_); (case hq => exact rfl)) | ((with_reducible refine' s_neS ?hq ?_); (case hq => exact rfl))
  | ((with_reducible refine' s_isN ?hq ?_); (case hq => exact rfl)) | ((with_reducible refine' s_notN ?hq ?_); (case hq => exact rfl))
  | ((with_reducible refine' s_eqNil ?h1 ?h2 ?_); (case h1 => walk_at "hl"); (case h2 => walk_at "hl")) | ((with_reducible refine' s_neNil ?h1 ?h2 ?_); (case h1 => walk_at "hl"); (case h2 => walk_at "hl"))
  | ((with_reducible refine' s_ixL ?h1 ?h2 ?_); (case h1 => walk_at "hl"); (case h2 => walk_at "at")) | ((with_reducible refine' s_ixT ?h1 ?h2 ?_); (case h1 => walk_at "hl"); (case h2 => walk_at "at"))
  | ((with_reducible refine' s_inS ?h1 ?_); (case h1 => walk_at "hl")) | ((with_reducible refine' s_ninS ?h1 ?_); (case h1 => walk_at "hl")) | with_reducible refine s_inW ?_
  | ((with_reducible refine' s_lenL ?h1 ?_); (case h1 => walk_at "hl")) | ((with_reducible refine' s_lenT ?h1 ?_); (case h1 => walk_at "hl"))
  | ((with_reducible refine' s_tyL ?h1 ?_); (case h1 => walk_at "hl"))
  | ((with_reducible refine' s_fldM ?h1 ?h2 ?h3 ?_); (case h1 => walk_at "hl"); (case h2 => walk_at "fok"); (case h3 => walk_at "flk"))
  | ((with_reducible refine' s_setM ?h1 ?h2 ?h3 ?h4 ?_); (case h1 => walk_at "hl"); (case h2 => walk_at "fok"); (case h4 => walk_at "put"); (case h3 => exact Nat.le_of_ble_eq_true rfl))
  | ((with_reducible refine' s_starM ?h1 ?_); (case h1 => walk_at "hl"))
  | ((with_reducible refine' s_recv ?h1 ?h2 ?_); (case h1 => walk_at "hl"); (case h2 => exact rfl))
  | ((with_reducible refine' s_sz ?h1 ?_); (case h1 => (simp; done))))
local macro_rules | `(tactic| walk_at "rd") => `(tactic| repeat (walk_at "rd1"))
local macro_rules | `(tactic| walk_at "fok") => `(tactic| assumption)
local macro_rules | `(tactic| walk_at "flk") => `(tactic| rfl)
local macro_rules | `(tactic| walk_at "put") => `(tactic| exact rfl)

local macro_rules | `(tactic| walk_at "fok") => `(tactic| first | assumption)
/-- the law's bag of draws -/
def BagAt (H : Hp) (bl sl : Addr) : Prop := sl ≠ bl ∧ ∃ (xs : List Int) (i : Nat) (c r : Int), H bl = some (.lst [.ref sl, .int (i : Int), .int c, .int r]) ∧ H sl = some (.lst (xs.map V.int)) ∧ 0 ≤ c ∧ 0 ≤ r ∧ r < 2147483648 ∧ (i ≤ xs.length ∧ xs.length ≤ 100)
theorem BagAt.fr {H H' : Hp} {bl sl : Addr} {S : List Addr} (B : BagAt H bl sl) (f : Fr H H' S) (h1 : bl ∉ S) (h2 : sl ∉ S) : BagAt H' bl sl := by
  obtain ⟨n, xs, i, c, r, g1, g2, g3⟩ := B
  exact ⟨n, xs, i, c, r, f _ _ g1 h1, f _ _ g2 h2, g3⟩
theorem BagAt.same {H H' : Hp} {bl sl : Addr} (B : BagAt H bl sl) (s : Same H H') : BagAt H' bl sl := B.fr (S := []) (.same s) (List.not_mem_nil) (List.not_mem_nil)
def spBag (K : PySem.W.Frag) : Sp := fun vs H Q _ => ∃ (p : Addr) (xs : List Int), vs = [.ref p] ∧ SqL K H p (xs.map V.int) ∧ xs.length ≤ 63 ∧ ∀ bl sl H', Same H H' → H bl = none → H sl = none → BagAt H' bl sl → Q (.ref bl) H'
theorem ok__law_bag (T : Tl K mg a fd tk) : FnOk P w K mg base CX0 1 (a 36) (fd 36) ["_law_script"] (spBag K) := by
  refine T.F__law_bag.ok sc__law_bag (fun vs H Q E h => ?_) (fun cdv A outer s H vs Q E hr h => ?_)
  · obtain ⟨p, xs, rfl, _⟩ := h
    rfl
  · obtain ⟨p, xs, rfl, hp, hn, k⟩ := h
    refine ⟨_, (pss_one (ps_ret (pe_lst (pa_cons (pe_callTy call_list_of (by rfl) T.k.b.y.b_list bt_list (pa_cons (pv 0) pa_nil)) (pa_cons pe_int (pa_cons pe_int (pa_cons pe_int pa_nil))))))), ?_⟩
    walk_at "rd"
    refine ⟨p, _, rfl, .inl hp, fun sl nsl => ?_⟩
    walk_at "rd"
    intro bl nbl
    have hne : sl ≠ bl := by rintro rfl; rw [upd_same] at nbl; cases nbl
    refine k bl sl _ ((Same.new nsl).trans (Same.new nbl)) ((Same.new nsl).free nbl) nsl ⟨hne, xs, 0, 0, 1, upd_same, ?_, by decide, by decide, by decide, Nat.zero_le _, by omega⟩
    rw [upd_ne hne]
    exact upd_same
theorem b__law_bag (T : Tl K mg a fd tk) : Binds K (fd 36) ["_law_script"] [] := T.F__law_bag.binds fun _ _ _ _ _ _ us hl => match us, hl with | [_], _ => rfl
theorem s_augS {σ : L2.St} {H : Hp} {to ti te : TE} {tget : V → V → Hp → VK → Prop} {tip : TIp} {tset : TSet} {na : L2.St → Hp → Prop} {rt : VK} {bk ct : L2.St → Hp → Prop}
    (h : to σ H fun o H1 => ti σ H1 fun i H2 => tget o i H2 fun x H3 => te σ H3 fun y H4 => tip x y H4 fun z H5 => tset o i z H5 fun H6 => na σ H6) : tAugS to ti te tget tip tset ⟨na, rt, bk, ct⟩ σ H := h
theorem s_get {H : Hp} {Q : VK} {p : Addr} {xs : List V} {n : Int} {v : V} (hp : H p = some (.lst xs)) (ha : atI xs n = some v) (q : Q v H) : rGetU (.ref p) (.int n) H Q := by
  simp only [rGetU, hp]
  exact ⟨v, ha, q⟩
def spDraw : Sp := fun vs H Q _ => ∃ (bl sl : Addr) (n : Int), vs = [.ref bl, .int n] ∧ BagAt H bl sl ∧ 0 < n ∧ n < 2 ^ 200 ∧ ∀ (d : Int) H', 0 ≤ d → d < n → BagAt H' bl sl → Fr H H' [bl] → Q (.int d) H'
theorem ok__law_draw (T : Tl K mg a fd tk) : FnOk P w K mg base CX0 1 (a 37) (fd 37) ["_law_bag_here", "_law_many"] spDraw := by
  refine T.F__law_draw.ok sc__law_draw (fun vs H Q E h => ?_) (fun cdv A outer s H vs Q E hr h => ?_)
  · obtain ⟨bl, sl, n, rfl, _⟩ := h
    rfl
  · obtain ⟨bl, sl, n, rfl, ⟨hne, xs, i, c, r, hb, hs, c0, r0, r1, hi, hx⟩, n0, n1, k⟩ := h
    refine ⟨_, (pss_cons (ps_if (pt_cmpR (uEq K hr.units) (pe_ix uIx (pv 0) pe_int (fun _ _ => rfl)) (pe_lst pa_nil) (nomark _)) (pss_one (ps_ret pe_int)) pss_nil)
  (pss_cons (ps_if (pt_cmpR (uEq K hr.units) (pe_ix uIx (pv 0) pe_int (fun _ _ => rfl)) pe_int (nomark _)) (pss_cons (ps_asg pe_int (pg_name (i := 3) sc__law_draw.nd rfl (by first | exact Or.inl rfl | exact Or.inr rfl)))
  (pss_cons (ps_if (pt_cmpR op_lt (pe_ix uIx (pv 0) pe_int (fun _ _ => rfl)) (pe_callB uLen (by rfl) T.k.b.x.b_len bt_len (pa_cons (pe_ix uIx (pv 0) pe_int (fun _ _ => rfl)) pa_nil)) (nomark _)) (pss_cons (ps_asg (pe_callB call_abs (by rfl) T.b_abs bt_abs (pa_cons (pe_ix uIx (pe_ix uIx (pv 0) pe_int (fun _ _ => rfl)) (pe_ix uIx (pv 0) pe_int (fun _ _ => rfl)) (fun _ _ => rfl)) pa_nil)) (pg_name (i := 3) sc__law_draw.nd rfl (by first | exact Or.inl rfl | exact Or.inr rfl)))
  (pss_one (ps_augS (pv 0) pe_int get_listU pe_int ip_add set_listU))) pss_nil)
  (pss_cons (ps_if (pt_cmpR op_lt (pv 3) (pe_op op_pow pe_int pe_int) (nomark _)) (pss_cons (ps_asg (pe_op op_mod (pe_callTy uInt (by rfl) T.k.b.x.b_int bt_int (pa_cons (pe_op uAdd (pe_op uAdd (pe_op uAdd (pe_op uMul (pe_ix uIx (pv 0) pe_int (fun _ _ => rfl)) pe_int) (pe_op uMul (pv 3) pe_int)) (pe_ix uIx (pv 0) pe_int (fun _ _ => rfl))) pe_int) pa_nil)) pe_int) (pg_sub (pv 0) pe_int set_listU))
  (pss_one (ps_ret (pe_op op_mod (pe_callTy uInt (by rfl) T.k.b.x.b_int bt_int (pa_cons (pe_op op_fdivW (pe_op op_mod (pe_callTy uInt (by rfl) T.k.b.x.b_int bt_int (pa_cons (pe_op uAdd (pe_op uMul (pe_ix uIx (pv 0) pe_int (fun _ _ => rfl)) pe_int) (pe_op op_fdivW (pe_ix uIx (pv 0) pe_int (fun _ _ => rfl)) pe_int)) pa_nil)) pe_int) pe_int) pa_nil)) (pv 1))))) pss_nil)
  (pss_one (ps_asg (pv 3) (pg_sub (pv 0) pe_int set_listU)))))) pss_nil)
  (pss_cons (ps_asg (pe_op op_mod (pe_callTy uInt (by rfl) T.k.b.x.b_int bt_int (pa_cons (pe_ix uIx (pv 0) pe_int (fun _ _ => rfl)) pa_nil)) (pv 1)) (pg_name (i := 2) sc__law_draw.nd rfl (by first | exact Or.inl rfl | exact Or.inr rfl)))
  (pss_cons (ps_asg (pe_op op_fdivW (pe_ix uIx (pv 0) pe_int (fun _ _ => rfl)) (pv 1)) (pg_sub (pv 0) pe_int set_listU))
  (pss_one (ps_ret (pv 2))))))), ?_⟩
    have hlog : n.natAbs.log2 < 9000 := by
      have : n.natAbs < 2 ^ 200 := by omega
      exact Nat.lt_of_lt_of_le (PySem.Flt.log2_lt_of (by decide) this) (by decide)
    have tail : ∀ (H1 : Hp) (i' : Nat) (c' : Int) (v2 v3 : Option V), H1 bl = some (.lst [.ref sl, .int (i' : Int), .int c', .int r]) → H1 sl = some (.lst (xs.map V.int)) → Fr H H1 [bl] → 0 ≤ c' → i' ≤ xs.length →
        tSeq (tAsg (tOp (rI (fun x j => 0 < j) fun i j => V.int (i % j)) (tCB rIntU (tCons (tOp rIxU (tVar 0) (tC (V.int 2))) tNil)) (tVar 1)) (gName 2))
          (tSeq (tAsg (tOp (rI CDivW fun i j => V.int (i / j)) (tOp rIxU (tVar 0) (tC (V.int 2))) (tVar 1)) (gSub (tVar 0) (tC (V.int 2)) rSetU)) (tRet (tVar 2)))
          ⟨fun _ H' => Q .non H', Q, fun _ _ => False, fun _ _ => False⟩ [some (.ref bl), some (.int n), v2, v3] H1 := by
      intro H1 i' c' v2 v3 hb1 hs1 f1 c1 hi1
      walk_at "rd"
      refine s_I n0 ?_
      walk_at "rd"
      refine s_I ⟨n0, hlog⟩ ?_
      refine s_gsub ?_
      walk_at "rd"
      refine s_setU hb1 (j := 2) rfl ?_
      walk_at "rd"
      refine k _ _ (Int.emod_nonneg _ (by omega)) (Int.emod_lt_of_pos _ n0) ⟨hne, xs, i', c' / n, r, upd_same, ?_, Int.ediv_nonneg c1 (by omega), r0, r1, hi1, hx⟩ (fun x o h hn => ?_)
      · rw [upd_ne hne]; exact hs1
      · rw [upd_ne (by rintro rfl; exact hn (by simp))]; exact f1 x o h hn
    walk_at "rd"
    intro p np
    have s1 : Same H (upd H p (.lst [])) := Same.new np
    refine s_eqNil (s1 _ _ hs) upd_same ?_
    have hb1 := s1 _ _ hb
    have hs1 := s1 _ _ hs
    have f1 : Fr H (upd H p (.lst [])) [bl] := .same s1
    generalize upd H p (.lst []) = H1 at hb1 hs1 f1 s1 ⊢
    walk_at "rd"
    by_cases cx : xs = []
    · refine ifT (by rw [cx]; rfl) ?_
      walk_at "rd"
      exact k 0 H1 (Int.le_refl _) n0 ⟨hne, xs, i, c, r, hb1, hs1, c0, r0, r1, hi, hx⟩ f1
    refine ifF (by rw [List.isEmpty_map]; simpa using cx) ?_
    walk_at "rd"
    by_cases cc : c = 0
    · refine ifT (by simp [cc]) ?_
      walk_at "rd"
      have two : ∀ (H2 : Hp) (i' : Nat) (cell : Int), H2 bl = some (.lst [.ref sl, .int (i' : Int), .int c, .int r]) → H2 sl = some (.lst (xs.map V.int)) → Fr H H2 [bl] → 0 ≤ cell → i' ≤ xs.length → tSeq (tIfS (tTest (tOp (rI0 fun i j => V.bl (decide (i < j))) (tVar 3) (tOp (rI CPow fun i j => V.int (i ^ j.toNat)) (tC (V.int 10)) (tC (V.int 18))))) (tSeq (tAsg (tOp (rI (fun x j => 0 < j) fun i j => V.int (i % j)) (tCB rIntU (tCons (tOp rAddU (tOp rAddU (tOp rAddU (tOp rMulU (tOp rIxU (tVar 0) (tC (V.int 3))) (tC (V.int 48271))) (tOp rMulU (tVar 3) (tC (V.int 69621)))) (tOp rIxU (tVar 0) (tC (V.int 1)))) (tC (V.int 7))) tNil)) (tC (V.int 2147483647))) (gSub (tVar 0) (tC (V.int 3)) rSetU)) (tRet (tOp (rI (fun x j => 0 < j) fun i j => V.int (i % j)) (tCB rIntU (tCons (tOp (rI CDivW fun i j => V.int (i / j)) (tOp (rI (fun x j => 0 < j) fun i j => V.int (i % j)) (tCB rIntU (tCons (tOp rAddU (tOp rMulU (tOp rIxU (tVar 0) (tC (V.int 3))) (tC (V.int 40692))) (tOp (rI CDivW fun i j => V.int (i / j)) (tOp rIxU (tVar 0) (tC (V.int 3))) (tC (V.int 9)))) tNil)) (tC (V.int 2147483399))) (tC (V.int 8))) tNil)) (tVar 1)))) tNext) (tAsg (tVar 3) (gSub (tVar 0) (tC (V.int 2)) rSetU)) ⟨tSeq (tAsg (tOp (rI (fun x j => 0 < j) fun i j => V.int (i % j)) (tCB rIntU (tCons (tOp rIxU (tVar 0) (tC (V.int 2))) tNil)) (tVar 1)) (gName 2)) (tSeq (tAsg (tOp (rI CDivW fun i j => V.int (i / j)) (tOp rIxU (tVar 0) (tC (V.int 2))) (tVar 1)) (gSub (tVar 0) (tC (V.int 2)) rSetU)) (tRet (tVar 2))) ⟨fun _ H' => Q .non H', Q, fun _ _ => False, fun _ _ => False⟩, Q, fun _ _ => False, fun _ _ => False⟩ [some (.ref bl), some (.int n), none, some (.int cell)] H2 := by
        intro H2 i' cell hb2 hs2 f2 cl0 hi2
        walk_at "rd"
        refine s_I (n := 10) (m := 18) ⟨by decide, by decide, by decide⟩ ?_
        walk_at "rd"
        by_cases ch : cell < 10 ^ 18
        · refine ifT (by simp; exact ch) ?_
          have w1 : CMulW r 48271 := wide_mul (a := 31) (b := 16) (by omega) (by decide) (by decide) (by decide) (by decide)
          have w2 : CMulW cell 69621 := wide_mul (a := 60) (b := 17) (by omega) (by decide) (by decide) (by decide) (by decide)
          walk_at "rd"
          refine s_mulI w1 ?_
          walk_at "rd"
          refine s_mulI w2 ?_
          walk_at "rd"
          refine s_I (by decide) ?_
          refine s_gsub ?_
          walk_at "rd"
          refine s_setU hb2 (j := 3) rfl ?_
          have e0 := Int.emod_nonneg (r * 48271 + cell * 69621 + (i' : Int) + 7) (b := 2147483647) (by decide)
          have e1 := Int.emod_lt_of_pos (r * 48271 + cell * 69621 + (i' : Int) + 7) (b := 2147483647) (by decide)
          generalize (r * 48271 + cell * 69621 + (i' : Int) + 7) % 2147483647 = r' at e0 e1 ⊢
          have hb3 : upd H2 bl (.lst [.ref sl, .int (i' : Int), .int c, .int r']) bl = some (.lst [.ref sl, .int (i' : Int), .int c, .int r']) := upd_same
          have w3 : CMulW r' 40692 := wide_mul (a := 31) (b := 16) (by omega) (by decide) (by decide) (by decide) (by decide)
          have f3 : Fr H (upd H2 bl (.lst [.ref sl, .int (i' : Int), .int c, .int r'])) [bl] := fun x o h hn => by
            rw [upd_ne (by rintro rfl; exact hn (by simp))]; exact f2 x o h hn
          have hs3 : upd H2 bl (.lst [.ref sl, .int (i' : Int), .int c, .int r']) sl = some (.lst (xs.map V.int)) := by rw [upd_ne hne]; exact hs2
          show tRet _ _ _ (upd H2 bl (.lst [.ref sl, .int (i' : Int), .int c, .int r']))
          generalize upd H2 bl (.lst [.ref sl, .int (i' : Int), .int c, .int r']) = H3 at hb3 f3 hs3 ⊢
          walk_at "rd"
          refine s_mulI w3 ?_
          walk_at "rd"
          refine s_I ⟨by decide, by decide⟩ ?_
          walk_at "rd"
          refine s_I (by decide) ?_
          walk_at "rd"
          refine s_I ⟨by decide, by decide⟩ ?_
          walk_at "rd"
          refine s_I n0 ?_
          exact k _ H3 (Int.emod_nonneg _ (by omega)) (Int.emod_lt_of_pos _ n0) ⟨hne, xs, i', c, r', hb3, hs3, c0, e0, by omega, hi2, hx⟩ f3
        · refine ifF (by simp; omega) ?_
          walk_at "rd"
          refine s_gsub ?_
          walk_at "rd"
          refine s_setU hb2 (j := 2) rfl ?_
          refine tail _ i' cell _ _ upd_same (by rw [upd_ne hne]; exact hs2) (fun x o h hn => ?_) cl0 hi2
          rw [upd_ne (by rintro rfl; exact hn (by simp))]; exact f2 x o h hn
      by_cases ci : i < xs.length
      · refine ifT (by simp; omega) ?_
        walk_at "rd"
        have hxi : (xs.map V.int)[i]? = some (.int xs[i]) := by simp [ci]
        refine s_ixL hs1 (atI_nat hxi) ?_
        walk_at "rd"
        refine ⟨_, rfl, ?_⟩
        walk_at "rd"
        refine s_augS ?_
        walk_at "rd"
        refine s_get hb1 (atI_1 _ _ _) ?_
        walk_at "rd"
        refine ⟨_, _, rfl, rfl, ?_⟩
        refine s_setU hb1 (j := 1) rfl ?_
        refine two _ (i + 1) _ upd_same (by rw [upd_ne hne]; exact hs1) (fun x o h hn => ?_) (by split <;> omega) (by omega)
        rw [upd_ne (by rintro rfl; exact hn (by simp))]; exact f1 x o h hn
      · refine ifF (by simp; omega) ?_
        refine s_next ?_
        exact two H1 i 0 hb1 hs1 f1 (Int.le_refl _) hi
    · refine ifF (by simp [cc]) ?_
      refine s_next ?_
      exact tail H1 i c _ _ hb1 hs1 f1 c0 hi
theorem b__law_draw (T : Tl K mg a fd tk) : Binds K (fd 37) ["_law_bag_here", "_law_many"] [] := T.F__law_draw.binds fun _ _ _ _ _ _ us hl => match us, hl with | [_, _], _ => rfl
end
end Tr
set_option maxHeartbeats 1000000
namespace Tr
open PySem L2
theorem cps_app (a b : Str) : (a ++ b).cps.toList = a.cps.toList ++ b.cps.toList := by
  show (a.cps ++ b.cps).toList = _
  simp
theorem len_app (a b : Str) : (a ++ b).length = a.length + b.length := by
  show (a.cps ++ b.cps).size = _
  simp [Str.length]
theorem len_list (a : Str) : a.length = a.cps.toList.length := by simp [Str.length]
theorem letters_eq : letters.cps.toList = (List.range 26).map (97 + ·) := by decide +kernel
theorem letters_at {d : Int} (h0 : 0 ≤ d) (h1 : d < 26) : atI letters.cps.toList d = some (97 + d.toNat) := by
  obtain ⟨n, rfl⟩ : ∃ n : Nat, d = (n : Int) := ⟨d.toNat, by omega⟩
  have h2 : n < 26 := by omega
  have h3 : letters.cps.toList[n]? = some (97 + n) := by
    rw [letters_eq, List.getElem?_map, List.getElem?_range h2]
    rfl
  exact L2.atI_nat h3
theorem mem_letters (c : Nat) : c ∈ letters.cps.toList ↔ 97 ≤ c ∧ c < 123 := by
  rw [letters_eq]
  simp only [List.mem_map, List.mem_range]
  constructor
  · rintro ⟨x, h, rfl⟩; omega
  · intro h; exact ⟨c - 97, by omega, by omega⟩
def low (z : Str) : Prop := ∀ c ∈ z.cps.toList, 97 ≤ c ∧ c < 123
def letterAt (i : Nat) : Str := ⟨#[97 + i]⟩
theorem low_app {a b : Str} (h1 : low a) (h2 : low b) : low (a ++ b) := fun c hc => by
  rw [cps_app, List.mem_append] at hc
  rcases hc with h | h
  · exact h1 c h
  · exact h2 c h
theorem low_letter {i : Nat} (h : i < 26) : low (letterAt i) := fun c hc => by
  have : c = 97 + i := by simpa [letterAt] using hc
  omega
theorem low_empty : low "" := fun c hc => by
  have : (Str.ofString "").cps.toList = [] := by decide +kernel
  rw [this] at hc
  cases hc
theorem isWord_of {z : Str} (h : low z) (h1 : 1 ≤ z.length) (h2 : z.length ≤ 8) (h3 : keptWords.contains z = false) : isWord z = true := by
  unfold isWord
  rw [h3]
  simp only [decide_eq_true h1, decide_eq_true h2, Bool.not_false, Bool.and_true, Bool.true_and]
  rw [List.all_eq_true]
  intro c hc
  exact decide_eq_true ((mem_letters c).mpr (h c hc))
theorem sub_len {α : Type} [DecidableEq α] : ∀ {l L : List α}, l.Nodup → (∀ x ∈ l, x ∈ L) → l.length ≤ L.length
  | [], L, _, _ => Nat.zero_le _
  | x :: l, L, hn, hs => by
    rw [List.nodup_cons] at hn
    have hx := hs x (by simp)
    have h := sub_len (l := l) (L := L.erase x) hn.2 fun y hy => by
      rw [List.mem_erase_of_ne (by rintro rfl; exact hn.1 hy)]
      exact hs y (by simp [hy])
    rw [List.length_erase_of_mem hx] at h
    have : 0 < L.length := List.length_pos_of_mem hx
    rw [List.length_cons]
    omega
/-- the k-th try for a name -/
def candN (st : Str) (f k : Nat) : Str := st ++ letterAt ((f + k) % 26)
theorem cand_inj {st : Str} {f i j : Nat} (hi : i < 26) (hj : j < 26) (h : candN st f i = candN st f j) : i = j := by
  have e : (candN st f i).cps.toList = (candN st f j).cps.toList := by rw [h]
  unfold candN at e
  rw [cps_app, cps_app] at e
  have e2 := List.append_cancel_left e
  have e3 : 97 + (f + i) % 26 = 97 + (f + j) % 26 := by simpa [letterAt] using e2
  omega
theorem cand_some (st : Str) (f : Nat) (bad : List Str) (h : bad.length < 26) : ¬ ∀ j, j < 26 → candN st f j ∈ bad := by
  intro hall
  have hn : ((List.range 26).map (candN st f)).Nodup := by
    rw [List.nodup_iff_pairwise_ne, List.pairwise_map]
    refine List.Pairwise.imp_of_mem ?_ (List.nodup_iff_pairwise_ne.mp List.nodup_range)
    intro i j hi hj hne e
    exact hne (cand_inj (List.mem_range.mp hi) (List.mem_range.mp hj) e)
  have := sub_len hn fun x hx => by
    obtain ⟨j, hj, rfl⟩ := List.mem_map.mp hx
    exact hall j (List.mem_range.mp hj)
  rw [List.length_map, List.length_range] at this
  omega
theorem cut0 (z : Str) : cutS z (some 0) none = z := by
  unfold cutS
  simp only [HT.sIx]
  have e : min (0 : Int).toNat z.length = 0 := by simp
  have e2 : (if (0 : Int) < 0 then ((0 : Int) + (z.length : Int)).toNat else min (0 : Int).toNat z.length) = 0 := by simp
  rw [e2, List.drop_zero, Nat.sub_zero, len_list, List.take_length]
theorem kept_split : Txt.split "cell kept each effect handler let set tell note give if else end quiet batch wait peek" " " = keptWords := by decide +kernel
/-- the k-th try of the 52 -/
def stem (st : Str) (k : Nat) : Str := if k < 26 then st else ⟨(st.cps.toList.drop 1).toArray⟩
def candM (st : Str) (f k : Nat) : Str := stem st k ++ letterAt ((f + k) % 26)
theorem cut_stem (st : Str) {k : Nat} (h : k < 52) : cutS st (some ((k : Int) / 26)) none = stem st k := by
  unfold stem
  by_cases hk : k < 26
  · rw [if_pos hk]
    have e : (k : Int) / 26 = 0 := by omega
    rw [e, cut0]
  · rw [if_neg hk]
    have e : (k : Int) / 26 = 1 := by omega
    rw [e]
    unfold cutS
    have e1 : HT.sIx st.length 0 (some 1) = min 1 st.length := by simp [HT.sIx]
    have e2 : HT.sIx st.length st.length none = st.length := rfl
    rw [e1, e2, len_list]
    cases hl : st.cps.toList with
    | nil => simp
    | cons x l => simp
theorem stem_len (st : Str) (k : Nat) : (stem st k).length ≤ st.length ∧ (26 ≤ k → 1 ≤ st.length → (stem st k).length + 1 = st.length) := by
  unfold stem
  split
  · exact ⟨Nat.le_refl _, fun h => by omega⟩
  · rw [len_list st, len_list]
    simp
    omega
theorem stem_low {st : Str} (h : low st) (k : Nat) : low (stem st k) := by
  unfold stem
  split
  · exact h
  · intro c hc
    exact h c (List.mem_of_mem_tail (by simpa using hc))
theorem candM_len (st : Str) (f k : Nat) : (candM st f k).length = (stem st k).length + 1 := by
  unfold candM
  rw [len_app]
  rfl
theorem candM_lt {st : Str} {f i : Nat} (h : i < 26) : candM st f i = candN st f i := by
  unfold candM stem candN
  rw [if_pos h]
theorem candM_inj {st : Str} (hs : 1 ≤ st.length) {f i j : Nat} (hi : i < 52) (hj : j < 52) (h : candM st f i = candM st f j) : i = j := by
  have hl : (candM st f i).length = (candM st f j).length := by rw [h]
  rw [candM_len, candM_len] at hl
  have e : (candM st f i).cps.toList = (candM st f j).cps.toList := by rw [h]
  have hst : stem st i = stem st j := by
    by_cases a : i < 26 <;> by_cases b : j < 26
    · simp [stem, a, b]
    · have h1 := (stem_len st j).2 (by omega) hs
      have h2 : stem st i = st := by simp [stem, a]
      rw [h2] at hl
      omega
    · have h1 := (stem_len st i).2 (by omega) hs
      have h2 : stem st j = st := by simp [stem, b]
      rw [h2] at hl
      omega
    · simp [stem, a, b]
  have hab : (i < 26 ↔ j < 26) := by
    by_cases a : i < 26 <;> by_cases b : j < 26
    · simp [a, b]
    · have h1 := (stem_len st j).2 (by omega) hs
      have h2 : stem st i = st := by simp [stem, a]
      rw [h2] at hl
      omega
    · have h1 := (stem_len st i).2 (by omega) hs
      have h2 : stem st j = st := by simp [stem, b]
      rw [h2] at hl
      omega
    · simp [a, b]
  unfold candM at e
  rw [cps_app, cps_app, hst] at e
  have e2 := List.append_cancel_left e
  have e3 : 97 + (f + i) % 26 = 97 + (f + j) % 26 := by simpa [letterAt] using e2
  omega
theorem kept_long : ∀ z ∈ keptWords, 2 ≤ z.length := by decide +kernel
theorem candM_some (st : Str) (f : Nat) (taken : List Str) (h : taken.length ≤ 25) : ¬ ∀ j, j < 52 → candM st f j ∈ taken ++ keptWords := by
  intro hall
  by_cases hs : 1 ≤ st.length
  · have hn : ((List.range 52).map (candM st f)).Nodup := by
      rw [List.nodup_iff_pairwise_ne, List.pairwise_map]
      refine List.Pairwise.imp_of_mem ?_ (List.nodup_iff_pairwise_ne.mp List.nodup_range)
      intro i j hi hj hne e
      exact hne (candM_inj hs (List.mem_range.mp hi) (List.mem_range.mp hj) e)
    have := sub_len hn fun x hx => by
      obtain ⟨j, hj, rfl⟩ := List.mem_map.mp hx
      exact hall j (List.mem_range.mp hj)
    rw [List.length_map, List.length_range, List.length_append] at this
    have e : keptWords.length = 17 := rfl
    omega
  · refine cand_some st f taken (by omega) fun j hj => ?_
    have h1 := hall j (by omega)
    rw [candM_lt hj] at h1
    rcases List.mem_append.mp h1 with q | q
    · exact q
    · have := kept_long _ q
      unfold candN at this
      rw [len_app] at this
      have e : (letterAt ((f + j) % 26)).length = 1 := rfl
      omega
end Tr
set_option maxHeartbeats 1000000

namespace Tr
open PySem L2
section
variable {P : Program} {w : World} {K : PySem.W.Frag} {mg : Str → Option Value} {base : Heap} {a : Nat → Addr} {fd : Nat → FuncData} {tk : Nat → Tok}
local macro_rules | `(tactic| walk_at "ne") => `(tactic| first | assumption | (exact Ne.symm (by assumption)) | (refine ne_of_none (by assumption) (by assumption)) | (refine Ne.symm (ne_of_none (by assumption) (by assumption))))
local macro_rules | `(tactic| walk_at "hl") => `(tactic| first | assumption | with_reducible exact upd_same | ((with_reducible refine' Eq.trans (upd_ne ?hne) ?hrest); (case hne => walk_at "ne"); (case hrest => walk_at "hl")) | (refine' get_same ?hs ?hg; (case hs => assumption); (case hg => assumption)))
local macro_rules | `(tactic| walk_at "at") => `(tactic| first | with_reducible exact atI_0 _ _ | with_reducible exact atI_1 _ _ _ | with_reducible exact atI_2 _ _ _ _ | with_reducible exact atI_3 _ _ _ _ _ | assumption)
local macro_rules | `(tactic| walk_at "rd1") => `(tactic| first
  | with_reducible refine s_seq ?_ | with_reducible refine s_next ?_ | with_reducible refine s_if ?_ | with_reducible refine s_ret ?_ | with_reducible refine s_retN ?_ | with_reducible refine s_drop ?_ | with_reducible refine s_asg ?_ | with_reducible refine s_brk ?_ | with_reducible refine s_cont ?_
  | with_reducible refine s_gname ?_ | with_reducible refine s_c ?_ | with_reducible refine s_op ?_ | with_reducible refine s_un ?_ | with_reducible refine s_neg ?_ | with_reducible refine s_test ?_ | with_reducible refine s_tb ?_ | with_reducible refine s_not ?_ | with_reducible refine s_and ?_ | with_reducible refine s_or ?_ | with_reducible refine s_yes ?_
  | ((with_reducible refine' s_var ?hv ?_); (case hv => exact rfl))
  | with_reducible refine s_ifx ?_ | with_reducible refine s_andV ?_ | with_reducible refine s_orV ?_ | with_reducible refine s_notV ?_ | with_reducible refine s_chain ?_ | with_reducible refine s_nil ?_ | with_reducible refine s_cons ?_ | with_reducible refine s_lst ?_ | with_reducible refine s_tup ?_ | with_reducible refine s_cb ?_ | with_reducible refine s_call ?_ | with_reducible refine s_meth ?_ | with_reducible refine s_make ?_
  | with_reducible refine s_dnewK ?_ | with_reducible refine s_sl ?_ | with_reducible refine s_po0 ?_ | with_reducible refine s_po1 ?_ | with_reducible refine s_bm ?_ | with_reducible refine s_bm0 ?_
  | with_reducible refine s_bl ?_ | with_reducible refine s_int ?_ | with_reducible refine s_I0 ?_ | with_reducible refine s_addI ?_ | with_reducible refine s_intI ?_ | with_reducible refine s_intB ?_
  | with_reducible refine s_m1 ?_ | with_reducible refine s_lc ?_ | with_reducible refine s_ilist ?_ | with_reducible refine s_for ?_ | with_reducible refine s_irng ?_ | with_reducible refine s_match ?_ | with_reducible refine s_starT ?_ | with_reducible refine s_isS ?_ | with_reducible refine s_isiSS ?_ | with_reducible refine s_fldU ?_ | with_reducible refine s_sfldU ?_
  | ((with_reducible refine' s_eqS ?hq ?_); (case hq => exact rfl)) | ((with_reducible refine' s_neS ?hq ?_); (case hq => exact rfl))
  | ((with_reducible refine' s_isN ?hq ?_); (case hq => exact rfl)) | ((with_reducible refine' s_notN ?hq ?_); (case hq => exact rfl))
  | ((with_reducible refine' s_eqNil ?h1 ?h2 ?_); (case h1 => walk_at "hl"); (case h2 => walk_at "hl")) | ((with_reducible refine' s_neNil ?h1 ?h2 ?_); (case h1 => walk_at "hl"); (case h2 => walk_at "hl"))
  | ((with_reducible refine' s_ixL ?h1 ?h2 ?_); (case h1 => walk_at "hl"); (case h2 => walk_at "at")) | ((with_reducible refine' s_ixT ?h1 ?h2 ?_); (case h1 => walk_at "hl"); (case h2 => walk_at "at"))
  | ((with_reducible refine' s_inS ?h1 ?_); (case h1 => walk_at "hl")) | ((with_reducible refine' s_ninS ?h1 ?_); (case h1 => walk_at "hl")) | with_reducible refine s_inW ?_
  | ((with_reducible refine' s_lenL ?h1 ?_); (case h1 => walk_at "hl")) | ((with_reducible refine' s_lenT ?h1 ?_); (case h1 => walk_at "hl"))
  | ((with_reducible refine' s_tyL ?h1 ?_); (case h1 => walk_at "hl"))
  | ((with_reducible refine' s_fldM ?h1 ?h2 ?h3 ?_); (case h1 => walk_at "hl"); (case h2 => walk_at "fok"); (case h3 => walk_at "flk"))
  | ((with_reducible refine' s_setM ?h1 ?h2 ?h3 ?h4 ?_); (case h1 => walk_at "hl"); (case h2 => walk_at "fok"); (case h4 => walk_at "put"); (case h3 => exact Nat.le_of_ble_eq_true rfl))
  | ((with_reducible refine' s_starM ?h1 ?_); (case h1 => walk_at "hl"))
  | ((with_reducible refine' s_recv ?h1 ?h2 ?_); (case h1 => walk_at "hl"); (case h2 => exact rfl))
  | ((with_reducible refine' s_sz ?h1 ?_); (case h1 => (simp; done))))
local macro_rules | `(tactic| walk_at "rd") => `(tactic| repeat (walk_at "rd1"))
local macro_rules | `(tactic| walk_at "fok") => `(tactic| assumption)
local macro_rules | `(tactic| walk_at "flk") => `(tactic| rfl)
local macro_rules | `(tactic| walk_at "put") => `(tactic| exact rfl)

local macro_rules | `(tactic| walk_at "fok") => `(tactic| first | assumption)
theorem Fr.tr {H H' H'' : Hp} {S : List Addr} (f : Fr H H' S) (g : Fr H' H'' S) : Fr H H'' S := fun x o h hn => g _ _ (f _ _ h hn) hn
def spNumber : Sp := fun vs H Q _ => ∃ (bl sl : Addr), vs = [.ref bl] ∧ BagAt H bl sl ∧ ∀ (d : Int) H', 0 ≤ d → d < 10 ^ 30 → BagAt H' bl sl → Fr H H' [bl] → Q (.int d) H'
theorem ok__law_number (T : Tl K mg a fd tk) : FnOk P w K mg base CX0 2 (a 39) (fd 39) ["_law_bag_here"] spNumber := by
  refine T.F__law_number.ok sc__law_number (fun vs H Q E h => ?_) (fun cdv A outer s H vs Q E hr h => ?_)
  · obtain ⟨bl, sl, rfl, _⟩ := h
    rfl
  · obtain ⟨bl, sl, rfl, B, k⟩ := h
    refine ⟨_, (pss_cons (ps_asg (pe_call (ok__law_draw T) (hr.mono (by decide)) (by rfl) T.g__law_draw T.F__law_draw.kp (b__law_draw T) .nil pass0 (pa_cons (pv 0) (pa_cons pe_int pa_nil))) (pg_name (i := 1) sc__law_number.nd rfl (by first | exact Or.inl rfl | exact Or.inr rfl)))
  (pss_cons (ps_if (pt_cmpR op_lt (pv 1) pe_int (nomark _)) (pss_one (ps_ret (pe_call (ok__law_draw T) (hr.mono (by decide)) (by rfl) T.g__law_draw T.F__law_draw.kp (b__law_draw T) .nil pass0 (pa_cons (pv 0) (pa_cons pe_int pa_nil))))) pss_nil)
  (pss_cons (ps_if (pt_cmpR (uEq K hr.units) (pv 1) pe_int (nomark _)) (pss_one (ps_ret (pe_call (ok__law_draw T) (hr.mono (by decide)) (by rfl) T.g__law_draw T.F__law_draw.kp (b__law_draw T) .nil pass0 (pa_cons (pv 0) (pa_cons (pe_op op_pow pe_int pe_int) pa_nil))))) pss_nil)
  (pss_one (ps_ret (pe_call (ok__law_draw T) (hr.mono (by decide)) (by rfl) T.g__law_draw T.F__law_draw.kp (b__law_draw T) .nil pass0 (pa_cons (pv 0) (pa_cons (pe_op op_pow pe_int pe_int) pa_nil)))))))), ?_⟩
    walk_at "rd"
    refine ⟨bl, sl, 4, rfl, B, by decide, by decide, fun d H1 d0 d1 B1 f1 => ?_⟩
    walk_at "rd"
    by_cases c1 : d < 2
    · refine ifT (by simp; exact c1) ?_
      walk_at "rd"
      refine ⟨bl, sl, 3, rfl, B1, by decide, by decide, fun e H2 e0 e1 B2 f2 => ?_⟩
      exact k e H2 e0 (by omega) B2 (f1.tr f2)
    refine ifF (by simp; omega) ?_
    walk_at "rd"
    by_cases c2 : d = 2
    · refine ifT (by simp [c2]) ?_
      walk_at "rd"
      refine s_I (n := 10) (m := 6) ⟨by decide, by decide, by decide⟩ ?_
      walk_at "rd"
      refine ⟨bl, sl, _, rfl, B1, by decide, by decide, fun e H2 e0 e1 B2 f2 => ?_⟩
      exact k e H2 e0 (Int.lt_trans e1 (by decide)) B2 (f1.tr f2)
    refine ifF (by simp [c2]) ?_
    walk_at "rd"
    refine s_I (n := 10) (m := 30) ⟨by decide, by decide, by decide⟩ ?_
    walk_at "rd"
    refine ⟨bl, sl, _, rfl, B1, by decide, by decide, fun e H2 e0 e1 B2 f2 => ?_⟩
    exact k e H2 e0 e1 B2 (f1.tr f2)
theorem b__law_number (T : Tl K mg a fd tk) : Binds K (fd 39) ["_law_bag_here"] [] := T.F__law_number.binds fun _ _ _ _ _ _ us hl => match us, hl with | [_], _ => rfl
def spName : Sp := fun vs H Q _ => ∃ (bl sl tl : Addr) (taken : List Str), vs = [.ref bl, .ref tl] ∧ BagAt H bl sl ∧ H tl = some (.lst (taken.map V.str)) ∧ tl ≠ bl ∧ tl ≠ sl ∧ taken.length ≤ 25 ∧
  ∀ (nm : Str) H', isWord nm = true → nm ∉ taken → BagAt H' bl sl → H' tl = some (.lst ((taken ++ [nm]).map V.str)) → Fr H H' [bl, tl] → Q (.str nm) H'
theorem ok__law_name (T : Tl K mg a fd tk) : FnOk P w K mg base CX0 2 (a 38) (fd 38) ["_law_bag_here", "_law_taken"] spName := by
  refine T.F__law_name.ok sc__law_name (fun vs H Q E h => ?_) (fun cdv A outer s H vs Q E hr h => ?_)
  · obtain ⟨bl, sl, tl, taken, rfl, _⟩ := h
    rfl
  · obtain ⟨bl, sl, tl, taken, rfl, B, ht, n1, n2, hz, k⟩ := h
    refine ⟨_, (pss_cons (ps_asg pe_str (pg_name (i := 2) sc__law_name.nd rfl (by first | exact Or.inl rfl | exact Or.inr rfl)))
  (pss_cons (ps_asg (pe_split pe_str pe_str) (pg_name (i := 3) sc__law_name.nd rfl (by first | exact Or.inl rfl | exact Or.inr rfl)))
  (pss_cons (ps_asg pe_str (pg_name (i := 4) sc__law_name.nd rfl (by first | exact Or.inl rfl | exact Or.inr rfl)))
  (pss_cons (ps_for PassesOwn.never rfl (pi_range1 (by rfl) T.b_range (pa_cons (pe_call (ok__law_draw T) (hr.mono (by decide)) (by rfl) T.g__law_draw T.F__law_draw.kp (b__law_draw T) .nil pass0 (pa_cons (pv 0) (pa_cons pe_int pa_nil))) pa_nil)) (pg_name (i := 5) sc__law_name.nd rfl (by first | exact Or.inl rfl | exact Or.inr rfl))
   (pss_one (ps_asg (pe_op uAdd (pv 4) (pe_ix uIx (pv 2) (pe_call (ok__law_draw T) (hr.mono (by decide)) (by rfl) T.g__law_draw T.F__law_draw.kp (b__law_draw T) .nil pass0 (pa_cons (pv 0) (pa_cons pe_int pa_nil))) (fun _ _ => rfl))) (pg_name (i := 4) sc__law_name.nd rfl (by first | exact Or.inl rfl | exact Or.inr rfl)))))
  (pss_cons (ps_asg (pe_call (ok__law_draw T) (hr.mono (by decide)) (by rfl) T.g__law_draw T.F__law_draw.kp (b__law_draw T) .nil pass0 (pa_cons (pv 0) (pa_cons pe_int pa_nil))) (pg_name (i := 6) sc__law_name.nd rfl (by first | exact Or.inl rfl | exact Or.inr rfl)))
  (pss_cons (ps_asg (pv 4) (pg_name (i := 7) sc__law_name.nd rfl (by first | exact Or.inl rfl | exact Or.inr rfl)))
  (pss_cons (ps_for PassesOwn.never rfl (pi_range1 (by rfl) T.b_range (pa_cons pe_int pa_nil)) (pg_name (i := 5) sc__law_name.nd rfl (by first | exact Or.inl rfl | exact Or.inr rfl))
   (pss_cons (ps_asg (pe_op uAdd (pe_slice uSl (pv 4) (po_some (pe_op op_fdivW (pv 5) pe_int)) po_none) (pe_ix uIx (pv 2) (pe_op op_mod (pe_op uAdd (pv 6) (pv 5)) pe_int) (fun _ _ => rfl))) (pg_name (i := 7) sc__law_name.nd rfl (by first | exact Or.inl rfl | exact Or.inr rfl)))
  (pss_one (ps_if (PW.pt (pw_and (pt_cmpR (uNotIn K) (pv 7) (pv 1) (by rfl)) (pw_and1 (pt_cmpR (uNotIn K) (pv 7) (pv 3) (by rfl))))) (pss_one ps_break) pss_nil))))
  (pss_cons (ps_expr (pe_bm PySem.F.plainAttrs_list PySem.F.slot_list_append PySem.F.type_list_append uAppend (pv 1) (pa_cons (pv 7) pa_nil)))
  (pss_one (ps_ret (pv 7))))))))))), ?_⟩
    walk_at "rd"
    refine s_split (by decide +kernel) (by decide +kernel) fun kl nkl => ?_
    rw [kept_split]
    have s1 : Same H (upd H kl (.lst (keptWords.map V.str))) := Same.new nkl
    have hk1 : upd H kl (.lst (keptWords.map V.str)) kl = some (.lst (keptWords.map V.str)) := upd_same
    have B1 := B.same s1
    have ht1 := s1 _ _ ht
    have nkb : kl ≠ bl := by
      obtain ⟨_, _, _, _, _, g1, _⟩ := B
      rintro rfl
      rw [nkl] at g1
      cases g1
    have nkt : tl ≠ kl := by rintro rfl; rw [nkl] at ht; cases ht
    generalize upd H kl (.lst (keptWords.map V.str)) = H1 at s1 hk1 B1 ht1 ⊢
    walk_at "rd"
    refine ⟨bl, sl, 8, rfl, B1, by decide, by decide, fun d H2 d0 d1 B2 f2 => ?_⟩
    walk_at "rd"
    refine s_forR d0 (by omega) (fun i σ H' => ∃ v5 st, σ = [some (.ref bl), some (.ref tl), some (.str letters), some (.ref kl), some (.str st), v5, none, none] ∧ low st ∧ st.length = i ∧ BagAt H' bl sl ∧ Fr H1 H' [bl])
      ⟨none, "", rfl, low_empty, rfl, B2, f2⟩ ?_ ?_
    · rintro i σ H' hi ⟨v5, st, rfl, hlo, hlen, B', f'⟩
      walk_at "rd"
      refine ⟨bl, sl, 26, rfl, B', by decide, by decide, fun e H3 e0 e1 B3 f3 => ?_⟩
      walk_at "rd"
      refine s_ixS (by decide +kernel) (letters_at e0 e1) ?_
      walk_at "rd"
      refine s_addS (sz_le (by rw [hlen]; show i + 1 ≤ _; omega)) ?_
      walk_at "rd"
      exact ⟨_, st ++ letterAt e.toNat, rfl, low_app hlo (low_letter (by omega)), by rw [len_app, hlen]; rfl, B3, f'.tr f3⟩
    · rintro σ H3 ⟨v5, st, rfl, hlo, hlen, B3, f3⟩
      walk_at "rd"
      refine ⟨bl, sl, 26, rfl, B3, by decide, by decide, fun f H4 g0 g1 B4 f4 => ?_⟩
      have f14 := f3.tr f4
      have ht4 := f14 _ _ ht1 (by simpa using n1)
      have hk4 := f14 _ _ hk1 (by simpa using nkb)
      walk_at "rd"
      refine s_forR (by decide) (by decide) (fun i σ H' => ∃ v5 v7, σ = [some (.ref bl), some (.ref tl), some (.str letters), some (.ref kl), some (.str st), v5, some (.int f), v7] ∧ H' = H4 ∧ ∀ j, j < i → candM st f.toNat j ∈ taken ++ keptWords)
        ⟨_, _, rfl, rfl, fun j hj => by omega⟩ ?_ ?_
      · rintro i σ H' hi ⟨v5, v7, rfl, rfl, hbad⟩
        have hi52 : i < 52 := by omega
        walk_at "rd"
        refine s_I ⟨by decide, by decide⟩ ?_
        walk_at "rd"
        have hstl : st.length ≤ 7 := by omega
        refine s_slS (sz_le (by omega)) ?_
        rw [cut_stem st hi52]
        have hsl := (stem_len st i).1
        walk_at "rd"
        refine s_I (by decide) ?_
        refine s_ixS (by decide +kernel) (letters_at (Int.emod_nonneg _ (by decide)) (Int.emod_lt_of_pos _ (by decide))) ?_
        refine s_addS (sz_le (by show (stem st i).length + 1 ≤ _; omega)) ?_
        have ec : stem st i ++ (⟨#[97 + ((f + (i : Int)) % 26).toNat]⟩ : Str) = candM st f.toNat i := by
          have : ((f + (i : Int)) % 26).toNat = (f.toNat + i) % 26 := by omega
          rw [this]
          rfl
        rw [ec]
        walk_at "rd"
        cases c1 : taken.contains (candM st f.toNat i) with
        | true =>
          refine ifF rfl (ifF rfl ?_)
          walk_at "rd"
          refine ⟨_, _, rfl, rfl, fun j hj => ?_⟩
          by_cases e : j = i
          · subst e
            exact List.mem_append.mpr (.inl (by simpa using c1))
          · exact hbad j (by omega)
        | false =>
          refine ifT rfl ?_
          walk_at "rd"
          cases c2 : keptWords.contains (candM st f.toNat i) with
          | true =>
            refine ifF rfl ?_
            walk_at "rd"
            refine ⟨_, _, rfl, rfl, fun j hj => ?_⟩
            by_cases e : j = i
            · subst e
              exact List.mem_append.mpr (.inr (by simpa using c2))
            · exact hbad j (by omega)
          | false =>
            refine ifT rfl ?_
            walk_at "rd"
            refine s_app ht4 (sz_lt (by rw [List.length_map]; omega)) ?_
            walk_at "rd"
            have hw : isWord (candM st f.toNat i) = true := by
              refine isWord_of (low_app (stem_low hlo i) (low_letter (Nat.mod_lt _ (by decide)))) ?_ ?_ c2
              · rw [candM_len]; omega
              · rw [candM_len]; omega
            obtain ⟨q1, xs, ii, cc, rr, q2, q3, q4⟩ := B4
            refine k _ _ hw (by simpa using c1) ⟨q1, xs, ii, cc, rr, by rw [upd_ne (Ne.symm n1)]; exact q2, by rw [upd_ne (Ne.symm n2)]; exact q3, q4⟩ (by rw [upd_same, List.map_append]; rfl) (fun x o h hn => ?_)
            simp at hn
            rw [upd_ne hn.2]
            exact f14 _ _ (s1 _ _ h) (by simpa using hn.1)
      · rintro σ H' ⟨v5, v7, rfl, rfl, hbad⟩
        exact absurd (fun j hj => hbad j hj) (candM_some st f.toNat taken hz)
theorem b__law_name (T : Tl K mg a fd tk) : Binds K (fd 38) ["_law_bag_here", "_law_taken"] [] := T.F__law_name.binds fun _ _ _ _ _ _ us hl => match us, hl with | [_, _], _ => rfl
end
end Tr
set_option maxHeartbeats 1000000
namespace Tr
open PySem L2
/-- what decides whether a line can stand -/
structure Co where
  cells : List Str
  answers : List Str
  effects : List Str
  handlers : List Str
  body : Option Bd
  deepest : Nat
def coOf (k : Bk) : Co := ⟨k.cells.map (·.1), k.answers.map (·.1), k.effects, k.handlers.map (·.1), k.body, k.deepest⟩
def Co.sources (c : Co) : List Str := c.cells ++ c.answers
def Co.names (c : Co) : List Str := c.sources ++ c.effects ++ c.handlers
def Co.begin (c : Co) (kind : Str) (ps : List Str) : Co := { c with body := some ⟨kind, ps, c.cells, c.sources, [], [], 0, false⟩ }
def cellC (c : Co) (ws : List Str) : Option Co :=
  match ws with
  | [_, n, eq, x] => if c.answers ≠ [] ∨ c.effects ≠ [] ∨ eq ≠ "=" ∨ isNumber x = false then none else some { c with cells := c.cells ++ [n] }
  | _ => none
def handlerC (c : Co) (ws : List Str) : Option Co :=
  match ws with
  | _ :: n :: ps =>
    if c.effects = [] ∨ ps.length > 2 then none
    else if ((List.range ps.length).all fun i => isWord (ps.getD i "") && !(c.sources.contains (ps.getD i "")) && !((ps.take i).contains (ps.getD i ""))) = true then some { c.begin "handler" ps with handlers := c.handlers ++ [n] }
    else none
  | _ => none
def declC (c : Co) (ws : List Str) : Option Co :=
  match ws with
  | w0 :: n :: l =>
    if isWord n = false ∨ c.names.contains n = true then none
    else if w0 = "cell" then cellC c (w0 :: n :: l)
    else if c.cells = [] then none
    else if w0 = "handler" then handlerC c (w0 :: n :: l)
    else if l ≠ [] ∨ c.handlers ≠ [] then none
    else if (w0 = "kept" ∨ w0 = "each") ∧ c.effects = [] then some { c.begin "answer" [] with answers := c.answers ++ [n] }
    else if w0 = "effect" then some { c.begin "effect" [] with effects := c.effects ++ [n] }
    else none
  | _ => none
def midC (c : Co) (ws : List Str) : Option Co := match c.body with
  | none => declC c ws
  | some b => (takeB b ws).map fun b' => { c with body := some b' }
def endC (c : Co) : Co := match c.body with
  | none => c
  | some b => if b.closed = true then { c with deepest := max c.deepest b.deepest, body := none } else c
def takeC (c : Co) (ws : List Str) : Option Co := if ws = [] then none else (midC c ws).map endC
theorem sources_co (k : Bk) : (coOf k).sources = sourcesOf k := rfl
theorem names_co (k : Bk) : (coOf k).names = namesOf k := by
  unfold Co.names namesOf
  rw [sources_co]
  rfl
theorem declK_co (k : Bk) (ws : List Str) : (declK k ws).map coOf = declC (coOf k) ws := by
  match ws with
  | [] => rfl
  | [_] => rfl
  | w0 :: n :: l =>
    simp only [declK, declC, names_co]
    split
    · rfl
    split
    · have e1 : (coOf k).answers = [] ↔ k.answers = [] := by simp [coOf]
      have e2 : (coOf k).effects = [] ↔ k.effects = [] := by simp [coOf]
      match l with
      | [] => rfl
      | [_] => rfl
      | [eq, x] =>
        simp only [cellK, cellC, ne_eq, e1, e2]
        split
        · rfl
        · simp [coOf]
      | _ :: _ :: _ :: _ => rfl
    have e3 : (coOf k).cells = [] ↔ k.cells = [] := by simp [coOf]
    by_cases h3 : k.cells = []
    · rw [if_pos h3, if_pos (e3.mpr h3)]; rfl
    rw [if_neg h3, if_neg (fun h => h3 (e3.mp h))]
    split
    · simp only [handlerK, handlerC, sources_co]
      have e2 : (coOf k).effects = k.effects := rfl
      rw [e2]
      by_cases c1 : k.effects = [] ∨ l.length > 2
      · rw [if_pos c1, if_pos c1]; rfl
      rw [if_neg c1, if_neg c1]
      by_cases c2 : ((List.range l.length).all fun i => isWord (l.getD i "") && !((sourcesOf k).contains (l.getD i "")) && !((l.take i).contains (l.getD i ""))) = true
      · simp only [c2, if_true]
        simp [coOf, beginK, Co.begin, Co.sources, sourcesOf]
      · simp only [c2]; rfl
    have e4 : (coOf k).handlers = [] ↔ k.handlers = [] := by simp [coOf]
    have e2 : (coOf k).effects = k.effects := rfl
    simp only [ne_eq, e2, e4]
    by_cases h4 : ¬ l = [] ∨ ¬ k.handlers = []
    · simp only [h4, if_true]; rfl
    simp only [h4, if_false]
    by_cases h5 : (w0 = Str.ofString "kept" ∨ w0 = Str.ofString "each") ∧ k.effects = []
    · simp only [h5, and_self, if_true]
      simp [coOf, beginK, Co.begin, Co.sources, sourcesOf]
    simp only [h5, if_false]
    by_cases h6 : w0 = Str.ofString "effect"
    · simp only [h6, if_true]
      simp [coOf, beginK, Co.begin, Co.sources, sourcesOf]
    · simp only [h6, if_false]; rfl
theorem midK_co (k : Bk) (ws : List Str) : (midK k ws).map coOf = midC (coOf k) ws := by
  unfold midK midC
  have e : (coOf k).body = k.body := rfl
  rw [e]
  cases k.body with
  | none => exact declK_co k ws
  | some b =>
    show (Option.map _ (takeB b ws)).map coOf = _
    rw [Option.map_map]
    rfl
theorem endK_co (k : Bk) : coOf (endK k) = endC (coOf k) := by
  unfold endK endC
  have e : (coOf k).body = k.body := rfl
  rw [e]
  cases k.body with
  | none => rfl
  | some b =>
    show coOf (if b.closed = true then shutK k b else k) = if b.closed = true then _ else _
    split <;> rfl
theorem takeK_co (k : Bk) (l : Str) : (takeK k l).map coOf = takeC (coOf k) (wordsOf l) := by
  unfold takeK takeC
  split
  · rfl
  · rw [← midK_co, Option.map_map, Option.map_map]
    congr 1
    funext k1
    show coOf (endK _) = endC (coOf k1)
    rw [endK_co]
    rfl
theorem takeK_wr {k k' : Bk} {l : Str} (h : takeK k l = some k') : k'.written = k.written ++ numsOf (wordsOf l) := by
  unfold takeK at h
  split at h
  · cases h
  cases em : midK k (wordsOf l) with
  | none => rw [em] at h; cases h
  | some k1 =>
    rw [em] at h
    have e' : endK { k1 with written := k1.written ++ numsOf (wordsOf l), count := k1.count + 1 } = k' := Option.some.inj h
    have ew : k1.written = k.written := by
      unfold midK at em
      split at em
      · exact (declK_keeps em).1
      · cases eb : takeB _ (wordsOf l) with
        | none => rw [eb] at em; cases em
        | some b' => rw [eb] at em; cases em; rfl
    rw [← e', ← ew]
    unfold endK
    split
    · rfl
    · split <;> rfl
def readC (c : Co) : List (List Str) → Nat → Nat ⊕ Co
  | [], _ => .inr c
  | w :: ws, i => match takeC c w with
    | none => .inl i
    | some c' => readC c' ws (i + 1)
def co0 : Co := ⟨[], [], [], [], none, 0⟩
def Co.complete (c : Co) : Bool := c.body.isNone && !c.cells.isEmpty && !c.effects.isEmpty
def bookC (ws : List (List Str)) : Option Nat := match readC co0 ws 0 with
  | .inl i => some i
  | .inr c => if c.complete = true then none else some ws.length
theorem readK_co : ∀ (ls : List Str) (k : Bk) (i : Nat), (match readK k ls i with | .inl j => Sum.inl j | .inr k' => .inr (coOf k')) = readC (coOf k) (ls.map wordsOf) i
  | [], k, i => rfl
  | l :: ls, k, i => by
    have h := takeK_co k l
    show (match (match takeK k l with | none => Sum.inl i | some k' => readK k' ls (i + 1)) with | .inl j => Sum.inl j | .inr k' => .inr (coOf k')) = (match takeC (coOf k) (wordsOf l) with | none => Sum.inl i | some c' => readC c' (ls.map wordsOf) (i + 1))
    rw [← h]
    cases takeK k l with
    | none => rfl
    | some k' => exact readK_co ls k' (i + 1)
theorem complete_co (k : Bk) : isComplete k = (coOf k).complete := by
  unfold isComplete Co.complete
  simp [coOf]
theorem bookAt_co (ls : List Str) : bookAt ls = bookC (ls.map wordsOf) := by
  unfold bookAt bookC
  have h := readK_co ls bk0 0
  have e : coOf bk0 = co0 := rfl
  rw [e] at h
  rw [← h]
  cases readK bk0 ls 0 with
  | inl i => rfl
  | inr k =>
    show (if isComplete k = true then none else some ls.length) = if (coOf k).complete = true then none else some (ls.map wordsOf).length
    rw [complete_co, List.length_map]
theorem readK_wr : ∀ {ls : List Str} {k k' : Bk} {i : Nat}, readK k ls i = .inr k' → k'.written = k.written ++ ls.flatMap fun l => numsOf (wordsOf l)
  | [], k, k', i, h => by
    cases h
    simp
  | l :: ls, k, k', i, h => by
    have h' : (match takeK k l with | none => Sum.inl i | some k' => readK k' ls (i + 1)) = .inr k' := h
    cases e : takeK k l with
    | none => rw [e] at h'; cases h'
    | some k1 =>
      rw [e] at h'
      rw [readK_wr h', takeK_wr e, List.flatMap_cons, List.append_assoc]
theorem readK_inr {ls : List Str} {k : Bk} {i : Nat} {k0 : Bk} (h : readK k0 ls i = .inr k) : readC (coOf k0) (ls.map wordsOf) i = .inr (coOf k) := by
  rw [← readK_co, h]
def numT (n : Nat) : Str := Str.ofString (toString ((n : Nat) : Int))
theorem numT_cps (n : Nat) : (numT n).cps.toList = TL.numL n := TL.tl_num n
theorem numL_head {n : Nat} (h : 0 < n) : ∀ r, TL.numL n ≠ 48 :: r := by
  induction n using Nat.strongRecOn with
  | _ n ih =>
    intro r
    by_cases h10 : n < 10
    · rw [TL.numL_lt h10]
      intro e
      injection e with e1 _
      omega
    · rw [TL.numL_step (by omega)]
      intro e
      have hne := TL.numL_ne (n / 10)
      cases q : TL.numL (n / 10) with
      | nil => exact hne q
      | cons x l =>
        rw [q] at e
        injection e with e1 _
        exact ih (n / 10) (by omega) (by omega) l (by rw [q, e1])
theorem digits_eq : digits.cps.toList = (List.range 10).map (48 + ·) := by decide +kernel
theorem mem_digits (c : Nat) : c ∈ digits.cps.toList ↔ 48 ≤ c ∧ c ≤ 57 := by
  rw [digits_eq]
  simp only [List.mem_map, List.mem_range]
  constructor
  · rintro ⟨x, h, rfl⟩; omega
  · intro h; exact ⟨c - 48, by omega, by omega⟩
theorem isNumber_num {n : Nat} (h : n < 10 ^ 30) : isNumber (numT n) = true := by
  have hl : (numT n).length ≤ 30 := by rw [len_list, numT_cps]; exact TL.numL_len (by decide) h
  have h1 : 1 ≤ (numT n).length := by
    rw [len_list, numT_cps]
    have := TL.numL_ne n
    cases q : TL.numL n with
    | nil => exact absurd q this
    | cons _ _ => simp
  unfold isNumber
  simp only [decide_eq_true h1, decide_eq_true hl, Bool.and_true, Bool.true_and]
  by_cases h0 : n = 0
  · subst h0
    decide +kernel
  · rw [if_neg, List.all_eq_true]
    · intro c hc
      rw [numT_cps] at hc
      exact decide_eq_true ((mem_digits c).mpr (TL.numL_digits n c hc))
    · intro e
      have e' : (numT n).cps.toList[0]? = some 48 := by rw [← e]; simp
      rw [numT_cps] at e'
      cases q : TL.numL n with
      | nil => rw [q] at e'; cases e'
      | cons x l =>
        rw [q] at e'
        have : x = 48 := by simpa using e'
        subst this
        exact numL_head (by omega) l q
theorem number_int {z : Str} (h : isNumber z = true) : ∃ n, PySem.intText? z = some n := by
  unfold isNumber at h
  rw [Bool.and_eq_true, Bool.and_eq_true] at h
  obtain ⟨⟨h1, h2⟩, h3⟩ := h
  have h1 : 1 ≤ z.length := of_decide_eq_true h1
  have h2 : z.length ≤ 30 := of_decide_eq_true h2
  split at h3
  · have e : z = "0" := of_decide_eq_true h3
    subst e
    exact ⟨0, by decide +kernel⟩
  · rw [List.all_eq_true] at h3
    refine ⟨_, PySem.intText_digits (x := z) (fun c hc => (mem_digits c).mp (of_decide_eq_true (h3 c hc))) (fun e => ?_) (by omega)⟩
    rw [len_list, e] at h1
    simp at h1
/-- a word is no number -/
theorem low_num {z : Str} (h : low z) : isNumber z = false := by
  cases e : isNumber z with
  | false => rfl
  | true =>
    exfalso
    unfold isNumber at e
    rw [Bool.and_eq_true, Bool.and_eq_true] at e
    obtain ⟨⟨h1, h2⟩, h3⟩ := e
    have h1 : 1 ≤ z.length := of_decide_eq_true h1
    split at h3
    · have e : z = "0" := of_decide_eq_true h3
      subst e
      have := h 48 (by decide +kernel)
      omega
    · rw [List.all_eq_true] at h3
      cases q : z.cps.toList with
      | nil => rw [len_list, q] at h1; simp at h1
      | cons x l =>
        have g1 := h x (by rw [q]; simp)
        have g2 := (mem_digits x).mp (of_decide_eq_true (h3 x (by rw [q]; simp)))
        omega
theorem word_low {z : Str} (h : isWord z = true) : low z ∧ 1 ≤ z.length ∧ z.length ≤ 8 ∧ z ∉ keptWords := by
  unfold isWord at h
  rw [Bool.and_eq_true, Bool.and_eq_true, Bool.and_eq_true] at h
  obtain ⟨⟨⟨h1, h2⟩, h3⟩, h4⟩ := h
  refine ⟨fun c hc => ?_, of_decide_eq_true h1, of_decide_eq_true h2, by simpa using h3⟩
  rw [List.all_eq_true] at h4
  exact (mem_letters c).mp (of_decide_eq_true (h4 c hc))
theorem word_num {z : Str} (h : isWord z = true) : isNumber z = false := low_num (word_low h).1
def sp1 : Str := " "
/-- a text that can be a word of a line: not empty, no blank in it -/
def solid (z : Str) : Prop := z ≠ "" ∧ 32 ∉ z.cps.toList
theorem words_join {ws : List Str} (hn : ws ≠ []) (h : ∀ z ∈ ws, solid z) : wordsOf (Str.join sp1 ws) = ws := by
  have e : Txt.split (Str.join sp1 ws) sp1 = ws := by
    rw [← TL.join_eq]
    exact TL.split_join (s := 32) (S := []) (by decide +kernel) (by decide +kernel) hn fun z hz => (h z hz).2
  unfold wordsOf
  have e' : Txt.split (Str.join sp1 ws) " " = ws := e
  rw [e', if_neg]
  intro hc
  have : ("" : Str) ∈ ws := by simpa using hc
  exact (h _ this).1 rfl
theorem join_cons {a : Str} {ws : List Str} (hn : ws ≠ []) : Str.join sp1 (a :: ws) = a ++ sp1 ++ Str.join sp1 ws := by
  cases ws with
  | nil => exact absurd rfl hn
  | cons x l => rfl
theorem app_assoc (a b c : Str) : a ++ b ++ c = a ++ (b ++ c) := by
  show (⟨(a.cps ++ b.cps) ++ c.cps⟩ : Str) = ⟨a.cps ++ (b.cps ++ c.cps)⟩
  rw [Array.append_assoc]
theorem join_len : ∀ ws : List Str, (Str.join sp1 ws).length ≤ (ws.map (·.length)).sum + ws.length
  | [] => Nat.zero_le _
  | [x] => by show x.length ≤ _; simp
  | x :: y :: r => by
    have h := join_len (y :: r)
    rw [join_cons (by simp), len_app, len_app]
    have : sp1.length = 1 := by decide +kernel
    simp only [List.map_cons, List.sum_cons, List.length_cons] at h ⊢
    omega
theorem low_solid {z : Str} (h : low z) (h1 : 1 ≤ z.length) : solid z := by
  refine ⟨?_, fun hc => by have := h 32 hc; omega⟩
  rintro rfl
  exact absurd h1 (by decide +kernel)
theorem num_solid {n : Nat} : solid (numT n) := by
  refine ⟨fun e => ?_, ?_⟩
  · have : (numT n).cps.toList = [] := by rw [e]; decide +kernel
    rw [numT_cps] at this
    exact TL.numL_ne n this
  · rw [numT_cps]
    exact TL.numL_free (by omega)
theorem ofString_inj {a b : String} : (Str.ofString a = Str.ofString b) ↔ a = b := by
  constructor
  · intro h
    rw [Str.ofString_eq_toList, Str.ofString_eq_toList] at h
    injection h with h
    have h2 : a.toList.map Char.toNat = b.toList.map Char.toNat := by
      have := congrArg Array.toList h
      simpa using this
    have h3 : a.toList = b.toList := by
      refine List.map_inj_right (f := Char.toNat) ?_ |>.mp h2
      intro x y e
      exact Char.toNat_inj.mp e
    exact String.toList_inj.mp h3
  · rintro rfl; rfl
end Tr
set_option maxHeartbeats 2000000
namespace Tr
open PySem L2
/-- a line z with the words ws; its numbers are among L -/
structure Ln (L : List Int) (z : Str) (ws : List Str) : Prop where
  wd : wordsOf z = ws
  zl : z.length ≤ 1000
  ok : WsOk ws
  few : ws.length ≤ 9
  nn : (numsOf ws).length ≤ 2
  nm : ∀ j ∈ numsOf ws, j ∈ L
/-- a text that can be a word -/
def wd40 (x : Str) : Prop := solid x ∧ x.length ≤ 40
theorem word_40 {z : Str} (h : isWord z = true) : wd40 z := by
  obtain ⟨h1, h2, h3, _⟩ := word_low h
  exact ⟨low_solid h1 h2, by omega⟩
theorem numT_40 {n : Nat} (h : n < 10 ^ 30) : wd40 (numT n) := by
  refine ⟨num_solid, ?_⟩
  rw [len_list, numT_cps]
  have := TL.numL_len (n := n) (k := 30) (by decide) h
  omega
theorem lit_40 (s : String) (h : (decide (Str.ofString s ≠ Str.ofString "") && (!((Str.ofString s).cps.toList.contains 32) && decide ((Str.ofString s).length ≤ 40))) = true) : wd40 (Str.ofString s) := by
  rw [Bool.and_eq_true, Bool.and_eq_true] at h
  exact ⟨⟨of_decide_eq_true h.1, by simpa using h.2.1⟩, of_decide_eq_true h.2.2⟩
theorem ln_of {L : List Int} {z : Str} {ws : List Str} (e : z = Str.join sp1 ws) (hn : ws ≠ []) (hs : ∀ x ∈ ws, wd40 x) (few : ws.length ≤ 9) (nn : (numsOf ws).length ≤ 2) (nm : ∀ j ∈ numsOf ws, j ∈ L) : Ln L z ws := by
  have hsum : (ws.map (·.length)).sum ≤ 40 * ws.length := by
    clear e hn few nn nm
    induction ws with
    | nil => exact Nat.le_refl _
    | cons x l ih =>
      have h1 := (hs x (by simp)).2
      have h2 := ih fun y hy => hs y (by simp [hy])
      simp only [List.map_cons, List.sum_cons, List.length_cons]
      omega
  refine ⟨by rw [e]; exact words_join hn fun x hx => (hs x hx).1, ?_, ⟨fun x hx => by have := (hs x hx).2; omega, fun x hx h => number_int h, by omega, hn⟩, few, nn, nm⟩
  rw [e]
  have := join_len ws
  omega
/-- lines and their words -/
def Lns (L : List Int) (ls : List Str) (wss : List (List Str)) : Prop := ls.map wordsOf = wss ∧ ∀ l ∈ ls, ∃ ws, Ln L l ws
theorem Lns.nil {L : List Int} : Lns L [] [] := ⟨rfl, fun _ h => by cases h⟩
theorem Lns.cons {L : List Int} {l : Str} {ws : List Str} {ls : List Str} {wss : List (List Str)} (h : Ln L l ws) (hs : Lns L ls wss) : Lns L (l :: ls) (ws :: wss) :=
  ⟨by rw [List.map_cons, h.wd, hs.1], fun x hx => by
    rcases List.mem_cons.mp hx with e | hx
    · subst e; exact ⟨ws, h⟩
    · exact hs.2 x hx⟩
theorem Lns.app {L : List Int} {ls ls' : List Str} {wss wss' : List (List Str)} (h : Lns L ls wss) (hs : Lns L ls' wss') : Lns L (ls ++ ls') (wss ++ wss') :=
  ⟨by rw [List.map_append, h.1, hs.1], fun x hx => by
    rcases List.mem_append.mp hx with hx | hx
    · exact h.2 x hx
    · exact hs.2 x hx⟩
theorem Lns.take {L : List Int} {ls : List Str} {wss : List (List Str)} (h : Lns L ls wss) (n : Nat) : Lns L (ls.take n) (wss.take n) :=
  ⟨by rw [List.map_take, h.1], fun x hx => h.2 x (List.mem_of_mem_take hx)⟩
theorem Lns.drop {L : List Int} {ls : List Str} {wss : List (List Str)} (h : Lns L ls wss) (n : Nat) : Lns L (ls.drop n) (wss.drop n) :=
  ⟨by rw [List.map_drop, h.1], fun x hx => h.2 x (List.mem_of_mem_drop hx)⟩
theorem Lns.ok {L : List Int} {ls : List Str} {wss : List (List Str)} (h : Lns L ls wss) (H : Hp) : ∀ v ∈ ls.map V.str, LineV H v := fun v hv => by
  rw [List.mem_map] at hv
  obtain ⟨l, hm, rfl⟩ := hv
  obtain ⟨ws, k⟩ := h.2 l hm
  refine .inl ⟨l, rfl, k.zl, ?_, ?_⟩
  · rw [k.wd]; exact fun _ => k.ok
  · rw [k.wd]; have := k.few; omega
theorem readV_str : ∀ (ls : List Str) (k : Bk) (i : Nat), readV k (ls.map V.str) i = readK k ls i
  | [], _, _ => rfl
  | l :: ls, k, i => by
    show (match takeV k (.str l) with | none => Sum.inl i | some k' => readV k' (ls.map V.str) (i + 1)) = (match takeK k l with | none => Sum.inl i | some k' => readK k' ls (i + 1))
    rw [show takeV k (.str l) = takeK k l from rfl]
    cases takeK k l with
    | none => rfl
    | some k' => exact readV_str ls k' (i + 1)
theorem bookV_str (ls : List Str) : bookV (ls.map V.str) = bookAt ls := by
  unfold bookV bookAt
  rw [readV_str, List.length_map]
  all_goals (cases readK bk0 ls 0 <;> rfl)
theorem Lns.wr {L : List Int} {ls : List Str} {wss : List (List Str)} (h : Lns L ls wss) : (ls.flatMap fun l => numsOf (wordsOf l)).length ≤ 2 * ls.length ∧ ∀ j ∈ ls.flatMap fun l => numsOf (wordsOf l), j ∈ L := by
  have h2 := h.2
  clear h
  induction ls with
  | nil => exact ⟨Nat.le_refl _, fun j hj => by cases hj⟩
  | cons l r ih =>
    obtain ⟨i1, i2⟩ := ih fun x hx => h2 x (by simp [hx])
    obtain ⟨ws, k⟩ := h2 l (by simp)
    rw [List.flatMap_cons, k.wd]
    refine ⟨?_, fun j hj => ?_⟩
    · rw [List.length_append, List.length_cons]
      have q2 := k.nn
      omega
    · rcases List.mem_append.mp hj with hj | hj
      · exact k.nm j hj
      · exact i2 j hj
/-- what is told of a book by its words: where it stops, or what it has -/
def bookR (wss : List (List Str)) (r : Option Nat) : Prop := match r with
  | some i => readC co0 wss 0 = .inl i ∨ ∃ co, readC co0 wss 0 = .inr co ∧ co.complete = false ∧ i = wss.length
  | none => ∃ co, readC co0 wss 0 = .inr co ∧ co.complete = true ∧ co.cells.length ≤ 4 ∧ co.answers.length ≤ 3 ∧ co.effects.length ≤ 3 ∧ co.handlers.length ≤ 3 ∧ co.deepest ≤ 8
theorem Lns.book {L : List Int} {ls : List Str} {wss : List (List Str)} {r : Option Nat} (h : Lns L ls wss) (hl : ls.length ≤ 80) (hL : L.length ≤ 4) (hr : bookR wss r) :
    (∀ k, readV bk0 (ls.map V.str) 0 = .inr k → isComplete k = true → ∃ L : List Int, L.length ≤ 60 ∧ ∀ j ∈ k.written, j ∈ L) ∧ bookV (ls.map V.str) = r ∧
    (r = none → ∀ k ns, readV bk0 (ls.map V.str) 0 = .inr k → ns.Pairwise (· < ·) → (∀ j, j ∈ ns ↔ j ∈ k.written) → overK (ls.map V.str) k ns = none) := by
  have e0 : coOf bk0 = co0 := rfl
  rw [readV_str, bookV_str]
  have hwr : ∀ k, readK bk0 ls 0 = .inr k → ∀ j ∈ k.written, j ∈ L := fun k hk => by
    obtain ⟨w1, w2⟩ := h.wr
    have ew := readK_wr hk
    have ew : k.written = ls.flatMap fun l => numsOf (wordsOf l) := by rw [ew]; rfl
    rw [ew]
    exact w2
  refine ⟨fun k hk hc => ⟨L, by omega, hwr k hk⟩, ?_, fun hr0 k ns hk hp hm => ?_⟩
  · rw [bookAt_co, h.1]
    unfold bookC
    cases r with
    | some i =>
      rcases hr with q | ⟨co, q, qc, e⟩
      · rw [q]
      · rw [q]
        simp [qc, e]
    | none =>
      obtain ⟨co, q, qc, _⟩ := hr
      rw [q]
      simp [qc]
  · subst hr0
    have e := readK_inr hk
    rw [e0, h.1] at e
    obtain ⟨co, q, _, c1, c2, c3, c4, c5⟩ := hr
    rw [q] at e
    have e : co = coOf k := by injection e
    subst e
    have hn : ns.length ≤ 4 := Nat.le_trans (nodup_sub hp fun j hj => hwr k hk j ((hm j).mp hj)) hL
    have d1 : k.cells.length ≤ 4 := by simpa [coOf] using c1
    have d2 : k.answers.length ≤ 3 := by simpa [coOf] using c2
    have d3 : k.effects.length ≤ 3 := c3
    have d4 : k.handlers.length ≤ 3 := by simpa [coOf] using c4
    have d5 : k.deepest ≤ 8 := c5
    unfold overK boundsOf
    rw [List.length_map]
    simp only [overOf]
    rw [if_neg (by omega), if_neg (by omega), if_neg (by omega), if_neg (by omega), if_neg (by omega), if_neg (by omega), if_neg (by omega)]
theorem nums_nil : numsOf [] = [] := rfl
theorem nums_no {x : Str} {ws : List Str} (h : isNumber x = false) : numsOf (x :: ws) = numsOf ws := by
  unfold numsOf
  rw [List.filter_cons_of_neg (by simp [h])]
theorem nums_yes {x : Str} {ws : List Str} (h : isNumber x = true) : numsOf (x :: ws) = intOf x :: numsOf ws := by
  unfold numsOf
  rw [List.filter_cons_of_pos h]
  rfl
theorem ln_let : isNumber (Str.ofString "let") = false := by decide +kernel
theorem l4_let : wd40 (Str.ofString "let") := lit_40 "let" (by decide +kernel)
theorem ln_if : isNumber (Str.ofString "if") = false := by decide +kernel
theorem l4_if : wd40 (Str.ofString "if") := lit_40 "if" (by decide +kernel)
theorem ln_else : isNumber (Str.ofString "else") = false := by decide +kernel
theorem l4_else : wd40 (Str.ofString "else") := lit_40 "else" (by decide +kernel)
theorem ln_end : isNumber (Str.ofString "end") = false := by decide +kernel
theorem l4_end : wd40 (Str.ofString "end") := lit_40 "end" (by decide +kernel)
theorem ln_note : isNumber (Str.ofString "note") = false := by decide +kernel
theorem l4_note : wd40 (Str.ofString "note") := lit_40 "note" (by decide +kernel)
theorem ln_quiet : isNumber (Str.ofString "quiet") = false := by decide +kernel
theorem l4_quiet : wd40 (Str.ofString "quiet") := lit_40 "quiet" (by decide +kernel)
theorem ln_give : isNumber (Str.ofString "give") = false := by decide +kernel
theorem l4_give : wd40 (Str.ofString "give") := lit_40 "give" (by decide +kernel)
theorem ln_set : isNumber (Str.ofString "set") = false := by decide +kernel
theorem l4_set : wd40 (Str.ofString "set") := lit_40 "set" (by decide +kernel)
theorem ln_tell : isNumber (Str.ofString "tell") = false := by decide +kernel
theorem l4_tell : wd40 (Str.ofString "tell") := lit_40 "tell" (by decide +kernel)
theorem ln_wait : isNumber (Str.ofString "wait") = false := by decide +kernel
theorem l4_wait : wd40 (Str.ofString "wait") := lit_40 "wait" (by decide +kernel)
theorem ln_batch : isNumber (Str.ofString "batch") = false := by decide +kernel
theorem l4_batch : wd40 (Str.ofString "batch") := lit_40 "batch" (by decide +kernel)
theorem ln_cell : isNumber (Str.ofString "cell") = false := by decide +kernel
theorem l4_cell : wd40 (Str.ofString "cell") := lit_40 "cell" (by decide +kernel)
theorem ln_kept : isNumber (Str.ofString "kept") = false := by decide +kernel
theorem l4_kept : wd40 (Str.ofString "kept") := lit_40 "kept" (by decide +kernel)
theorem ln_each : isNumber (Str.ofString "each") = false := by decide +kernel
theorem l4_each : wd40 (Str.ofString "each") := lit_40 "each" (by decide +kernel)
theorem ln_effect : isNumber (Str.ofString "effect") = false := by decide +kernel
theorem l4_effect : wd40 (Str.ofString "effect") := lit_40 "effect" (by decide +kernel)
theorem ln_handler : isNumber (Str.ofString "handler") = false := by decide +kernel
theorem l4_handler : wd40 (Str.ofString "handler") := lit_40 "handler" (by decide +kernel)
theorem ln_peek : isNumber (Str.ofString "peek") = false := by decide +kernel
theorem l4_peek : wd40 (Str.ofString "peek") := lit_40 "peek" (by decide +kernel)
theorem ln_eq : isNumber (Str.ofString "=") = false := by decide +kernel
theorem l4_eq : wd40 (Str.ofString "=") := lit_40 "=" (by decide +kernel)
theorem ln_eqeq : isNumber (Str.ofString "==") = false := by decide +kernel
theorem l4_eqeq : wd40 (Str.ofString "==") := lit_40 "==" (by decide +kernel)
theorem ln_nee : isNumber (Str.ofString "!=") = false := by decide +kernel
theorem l4_nee : wd40 (Str.ofString "!=") := lit_40 "!=" (by decide +kernel)
theorem join_app {A B : List Str} (hA : A ≠ []) (hB : B ≠ []) : Str.join sp1 (A ++ B) = Str.join sp1 A ++ sp1 ++ Str.join sp1 B := by
  induction A with
  | nil => exact absurd rfl hA
  | cons x l ih =>
    by_cases hl : l = []
    · subst hl
      rw [List.cons_append, List.nil_append, join_cons hB]
      rfl
    · rw [List.cons_append, join_cons (by simp [hl]), ih hl, join_cons hl]
      simp only [app_assoc]
/-- a text that is these words with single blanks -/
def Jn (x : Str) (A : List Str) : Prop := x = Str.join sp1 A ∧ A ≠ []
theorem j1 (x : Str) : Jn x [x] := ⟨rfl, by simp⟩
theorem jA (s s' : String) {x : Str} {A : List Str} (h : Jn x A) (e : Str.ofString s = Str.ofString s' ++ sp1) : Jn (Str.ofString s ++ x) (Str.ofString s' :: A) :=
  ⟨by rw [join_cons h.2, e, h.1], by simp⟩
theorem jM (s s' : String) {x y : Str} {A B : List Str} (hx : Jn x A) (hy : Jn y B) (e : Str.ofString s = sp1 ++ Str.ofString s' ++ sp1) : Jn ((x ++ Str.ofString s) ++ y) (A ++ Str.ofString s' :: B) := by
  refine ⟨?_, by simp⟩
  rw [join_app hx.2 (by simp), join_cons hy.2, e, hx.1, hy.1]
  simp only [app_assoc]
theorem jS {x y : Str} {A B : List Str} (hx : Jn x A) (hy : Jn y B) : Jn ((x ++ Str.ofString " ") ++ y) (A ++ B) := by
  refine ⟨?_, by simp [hx.2]⟩
  rw [join_app hx.2 hy.2, hx.1, hy.1]
  rfl
theorem ln_jn {L : List Int} {z : Str} {ws : List Str} (h : Jn z ws) (hs : ∀ x ∈ ws, wd40 x) (few : ws.length ≤ 9) (nn : (numsOf ws).length ≤ 2) (nm : ∀ j ∈ numsOf ws, j ∈ L) : Ln L z ws := ln_of h.1 h.2 hs few nn nm
end Tr
set_option maxHeartbeats 1000000
namespace L2
open PySem PySem.Spec PyProof.Rows
/-- what the clauses wish of an exception of the body, one after the other -/
def wKeeps (K : PySem.W.Frag) (Wout : WX) (D : Ends) : List (Value × Nat × (Addr → Value → Option Addr → TS)) → WX
  | [] => Wout
  | (c, i, ts) :: r => fun cls d σ H => ∃ b, PySem.W.exmOne K cls c = some b ∧
    (b = true → ∀ a, H a = none → ts a cls d ⟨fun σ' H' => D.nx (σ'.set i none) (upd H' a (xo a cls d)), fun v H' => D.rt v H', fun _ _ => False, fun _ _ => False⟩ (σ.set i (some (.ref a))) H) ∧
    (b = false → wKeeps K Wout D r cls d σ H)
inductive HdsK (X : Cx) : List ExceptHandler → List (Value × Nat × (Addr → Value → Option Addr → TS)) → Prop
  | nil : HdsK X [] []
  | cons {x n : Str} {c : Value} {i : Nat} {ts : Addr → Value → Option Addr → TS} {b₀ : Stmt} {suite : List Stmt} {np pos' : Pos} {hds : List ExceptHandler} {l : List (Value × Nat × (Addr → Value → Option Addr → TS))} (hi : X.N[i]? = some n) (hln : X.env.kindOf n = some .local) (hc : Names X x c)
      (hsu : ∀ (a : Addr) (oe : Obj) (cls : Value) (d : Option Addr) (pn : List (Addr × Obj)), Zc cls d oe → (∃ vs, oe.data = .fields vs) → PSs (X.suite a ((a, oe) :: pn)) (b₀ :: suite) (ts a cls d)) (r : HdsK X hds l) :
      HdsK X (.ExceptHandler (some (.Name x np)) (some n) (b₀ :: suite) pos' :: hds) ((c, i, ts) :: l)
section
variable {X : Cx} {n : Str} {i : Nat} {body suite : List Stmt} {b₀ : Stmt} {h₀ : ExceptHandler} {hds : List ExceptHandler} {l : List (Value × Nat × (Addr → Value → Option Addr → TS))} {pos pos' : Pos} {tb : WX → TS} {Wout : WX} {ts : Addr → Value → Option Addr → TS}
theorem suite_keeps {pins : List (Addr × Obj)} {σ : St} {H : Hp} {s : Shared} {D : Ends} {a : Addr} {oe : Obj} {vs : Array Value} {cls : Value} {d : Option Addr} (ok : X.Ok) (hN : X.N.Nodup) (hi : X.N[i]? = some n) (hln : X.env.kindOf n = some .local)
    (hsu : PSs (X.suite a ((a, oe) :: (X.pn ++ pins))) (b₀ :: suite) (ts a cls d)) (S : Inv (X.suite a ((a, oe) :: (X.pn ++ pins))) [] (σ.set i (some (.ref a))) H s) (hz : Zc cls d oe) (hd : oe.data = .fields vs) (n0 : X.s_0.heap.get? a = none) (np' : ∀ p ∈ X.pn ++ pins, p.1 ≠ a)
    (h : ts a cls d ⟨fun σ' H' => D.nx (σ'.set i none) (upd H' a (xo a cls d)), fun v H' => D.rt v H', fun _ _ => False, fun _ _ => False⟩ (σ.set i (some (.ref a))) H) :
    wpAny (model X.prog X.w) (X.A.mark (some (.ref a))) (execs (b₀ :: suite) X.env) (fun f s6 => wpAny (model X.prog X.w) X.A (do bindName X.env n .none; unbindBehindTheSuite X.env n pos') (fun _ s7 => SP X pins D f s7) X.xe s6) (fun _ _ => False) s := by
  have pinsOf : ∀ {σ6 : St} {H6 : Hp} {s6 : Shared}, Inv (X.suite a ((a, oe) :: (X.pn ++ pins))) [] σ6 H6 s6 → Inv X ((a, oe) :: pins) σ6 H6 s6 := fun S6 => (S6.unsuite ok).pins_of fun p hp => S6.pin p (List.mem_append_left _ (by
      rcases List.mem_cons.mp hp with e | e
      · rw [e]; exact List.mem_cons_self
      · exact List.mem_cons_of_mem _ (List.mem_append_right _ e)))
  refine wpAny_mono (hsu.run [] s _ H _ S h) (fun f s6 hsp => ?_) (fun _ _ z => z)
  match f, hsp with
  | .next, ⟨σ6, H6, S6, q6⟩ => exact gone_ok (pinsOf S6) hN hi hln fun s7 I7 => ⟨_, _, I7.track hz hd n0 np', q6⟩
  | .brk, ⟨_, _, _, q6⟩ => exact q6.elim
  | .cont, ⟨_, _, _, q6⟩ => exact q6.elim
  | .ret _, ⟨v6, σ6, H6, S6, r6, q6⟩ => exact gone_ok (pinsOf S6) hN hi hln fun s7 I7 => ⟨_, _, _, I7.pins_of fun p hp => I7.pin p (List.mem_append_right _ (List.mem_cons_of_mem _ hp)), r6, q6⟩
theorem ps_try_keeps (hs : X.stack = X.env :: X.outer) (hf : X.env.frame = some X.env.locals) (hN : X.N.Nodup) (hex : X.ex = []) (tk : Takes X Wout)
    (hb : ∀ (W : WX) (pn : List (Addr × Obj)) (xe : Value → Shared → Prop), Takes (X.tr pn xe) W → PassesOwn (model X.prog X.w) X.A X.env xe → PSs (X.tr pn xe) body (tb W))
    (hh : HdsK X (h₀ :: hds) l) : PS X (.Try body (h₀ :: hds) [] [] pos) (fun D σ H => tb (wKeeps X.K Wout D l) D σ H) := by
  refine ⟨fun pins s σ H D I h => ?_⟩
  have ok := I.ok
  have hfr : X.A.frames = some (X.env :: X.outer) := by rw [ok.frames, hs]
  refine wpAny_Try_except ?_
  refine wpAny_mono ((hb (wKeeps X.K Wout D l) (X.pn ++ pins) (fun e s₁ => wpAny (model X.prog X.w) X.A (noteFrame e X.env) (fun _ s₂ => wpAny (model X.prog X.w) X.A (setFlight e none) (fun _ s₃ =>
    wpAny (model X.prog X.w) X.A (handleBy e X.env (h₀ :: hds)) (SP X pins D) X.xe s₃) X.xe s₂) X.xe s₁) (fun u s' xx => ?_) PassesOwn.looking).run [] s σ H D (I.toTry _) h) (fun f s1 hsp => ?_) (fun e s1 he => he)
  · obtain ⟨a, B, sI, pins', σ', H', cls, d, rfl, J', nb, up, sky, na, os, ag, w⟩ := xx
    have J : Inv X pins σ' H' sI := J'.ofTry ok
    have sky' : Sky B (X.env :: X.outer) a (Zc cls d) X.env.locals s'.heap := by rw [← hs]; exact sky
    show wpAny (model X.prog X.w) X.A (noteFrame (.ref a) X.env) _ _ _
    refine Sky.land Zc.steady hfr hf sky' fun h3 fl3 up3 => ?_
    have J3 : Inv X pins σ' H' { s' with heap := h3 } := J.landed nb fl3.1 (up.trans up3) os ag
    obtain ⟨oe3, vs3, he3, hz3, hd3⟩ := fl3.there
    have notFr : ∀ {h : Heap} {o : Obj} {vs : Array Value}, h.FunFrames B (X.env :: X.outer) → h.get? a = some o → o.data = .fields vs → a ∉ frs (X.env :: X.outer) := fun {h o vs} ff e dd hm => by
      obtain ⟨_, o', e', hnf⟩ := ff.mem hm
      rw [e] at e'; cases e'
      exact hnf _ dd
    have nfr := notFr fl3.2.2.1 he3 hd3
    have nL : a ≠ X.env.locals := fun z => nfr (List.mem_filterMap.mpr ⟨X.env, List.mem_cons_self, by rw [hf, z]⟩)
    have nF : a ∉ X.fs := fun hm => by
      obtain ⟨e, he, q⟩ := List.mem_filterMap.mp hm
      exact nfr (List.mem_filterMap.mpr ⟨e, List.mem_cons_of_mem _ he, q⟩)
    have noI : sI.heap.get? a = none := by
      cases q : sI.heap.get? a with
      | none => rfl
      | some o => exact absurd ((nb a o q (by rw [hs]; exact nfr)).symm.trans fl3.2.1) (by simp)
    have n0 : X.s_0.heap.get? a = none := by
      cases q : X.s_0.heap.get? a with
      | none => rfl
      | some o =>
        obtain ⟨o', e'⟩ := J.base.there a o q (by rw [hex]; simp)
        rw [noI] at e'
        cases e'
    have npn : ∀ p ∈ X.pn ++ pins, p.1 ≠ a := fun p hp z => by
      have := (J.pin p hp).1
      rw [z, noI] at this
      cases this
    have S3 := J3.suite he3 hd3 na nL nF
    have go : ∀ {hds' : List ExceptHandler} {l' : List (Value × Nat × (Addr → Value → Option Addr → TS))}, HdsK X hds' l' → wKeeps X.K Wout D l' cls d σ' H' →
        wpAny (model X.prog X.w) X.A (handleBy (.ref a) X.env hds') (SP X pins D) X.xe { s' with heap := h3 } := by
      intro hds' l' hk
      induction hk with
      | nil =>
        intro w
        refine wpAny_handleBy_nil ?_
        obtain ⟨k1, k2, k3, oe, vs, T, oT, ts', he, hz, hd, h1, hr⟩ := id fl3
        unfold PySem.passOn
        refine wpAny_bind (wpAny_field he hd h1 ?_)
        rw [if_neg (show ¬ ((Value.ref T == Value.none) = true) from by simp)]
        have fin : wpAny (model X.prog X.w) X.A (setFlight (.ref a) X.env.frame) (fun _ s4 => wpAny (model X.prog X.w) X.A (throw (.ref a) : Sem Flow) (SP X pins D) X.xe s4) X.xe { s' with heap := h3 } := by
          rw [hf]
          refine HandSPX.setFlight_upZ fl3 fun h4 hh4 up4 => wpAny_throw (tk _ _ ?_)
          exact ⟨a, B, sI, pins, σ', H', cls, d, rfl, J, nb, (up.trans up3).trans up4, .inr (.inr (by rw [hs]; exact hh4)), na, os, ag, w⟩
        first
          | exact wpAny_bind (wpAny_pure (wpAny_bind fin))
          | exact wpAny_bind fin
      | @cons x n c i ts b₀ suite np pos' hds2 l2 hi hln hc hsu r ih =>
        intro w
        obtain ⟨b, hb1, hyes, hno⟩ := w
        refine wpAny_handleBy_cons (codeAny_handlers_test ?_) (by intro q; cases q)
        have LT : PySem.W.Looks (model X.prog X.w) h3 (typeOf (.ref a)) cls := fun A Q E s k q => wpAny_typeOf_ref (k _ _ he3) (by rw [hz3.1]; exact q)
        have LM := PySem.W.exm_one (M := model X.prog X.w) (J3.kIn) LT hb1
        have test : ∀ {Q : Value → Shared → Prop} {E : Value → Shared → Prop}, Q c { s' with heap := h3 } → wpAny (model X.prog X.w) (X.A.mark (some (.ref a))) (eval (.Name x np) X.env) Q E { s' with heap := h3 } := fun {Q E} q => by
          obtain ⟨hg, hdbg, hm | ⟨hm, hv, hnn⟩⟩ := hc
          · exact ld_glob (X := X.suite a ((a, oe3) :: (X.pn ++ pins))) S3 hg hm q hdbg
          · exact ld_blt (X := X.suite a ((a, oe3) :: (X.pn ++ pins))) S3 hg hm hv q hnn hdbg
        refine test (LM.here ?_)
        cases b with
        | true =>
          refine codeAny_handlers_suite_as (HandSPX.lands_againZ fl3 fun h4 fl4 up4 => ?_)
          obtain ⟨oe4, vs4, he4, hz4, hd4⟩ := fl4.there
          have J4 : Inv X pins σ' H' { s' with heap := h4 } := J.landed nb fl4.1 ((up.trans up3).trans up4) os ag
          refine store_ok (X := X.suite a ((a, oe4) :: (X.pn ++ pins))) (v := .ref a) (J4.suite he4 hd4 na nL nF) hN hi (.inl hln) rfl (fun s5 S5 => ?_) (.inr hln)
          exact wpAny_mono (suite_keeps ok hN hi hln (hsu a oe4 cls d _ hz4 ⟨_, hd4⟩) S5 hz4 hd4 n0 npn (hyes rfl a na)) (fun _ _ z => z) fun _ _ z => z.elim
        | false =>
          show wpAny _ X.A (handleBy (.ref a) X.env hds2) _ _ _
          exact ih (hno rfl)
    exact go hh w
  · cases f with
    | next =>
      obtain ⟨σ', H', J', q⟩ := hsp
      exact wpAny_execs_nil ⟨σ', H', J'.ofTry ok, q⟩
    | brk =>
      obtain ⟨σ', H', J', q⟩ := hsp
      exact ⟨σ', H', J'.ofTry ok, q⟩
    | cont =>
      obtain ⟨σ', H', J', q⟩ := hsp
      exact ⟨σ', H', J'.ofTry ok, q⟩
    | ret u =>
      obtain ⟨v, σ', H', J', r, q⟩ := hsp
      exact ⟨v, σ', H', J'.ofTry ok, r, q⟩
end
end L2
set_option maxHeartbeats 4000000

namespace Tr
open PySem L2
abbrev s__law_what : Stmt := (top 30)
abbrev N__law_what : List Str := ["_law_lines", "_law_refused", "why"]
theorem sc__law_what : FnScope ["_law_lines", "_law_refused", "why"] ["_law_lines"] (defScope s__law_what) := ⟨rfl, rfl, rfl, by decide +kernel, rfl, by decide +kernel, by decide +kernel⟩
abbrev s__law_deep : Stmt := (top 31)
abbrev N__law_deep : List Str := ["_law_count", "_law_where", "_law_cell", "_law_word", "_law_opened", "_law_k"]
theorem sc__law_deep : FnScope ["_law_count", "_law_where", "_law_cell", "_law_word", "_law_opened", "_law_k"] ["_law_count", "_law_where", "_law_cell"] (defScope s__law_deep) := ⟨rfl, rfl, rfl, by decide +kernel, rfl, by decide +kernel, by decide +kernel⟩
abbrev s__law_built : Stmt := (top 32)
abbrev N__law_built : List Str := ["_law_bag_here", "_law_sizes", "_law_taken", "_law_lines", "_law_cells", "_law_k", "_law_at", "_law_where", "_law_inner", "_law_more", "_law_at_inner", "_law_name_here"]
theorem sc__law_built : FnScope ["_law_bag_here", "_law_sizes", "_law_taken", "_law_lines", "_law_cells", "_law_k", "_law_at", "_law_where", "_law_inner", "_law_more", "_law_at_inner", "_law_name_here"] ["_law_bag_here", "_law_sizes"] (defScope s__law_built) := ⟨rfl, rfl, rfl, by decide +kernel, rfl, by decide +kernel, by decide +kernel⟩

/-- what the top has made of this law's own defs -/
structure Tv (K : PySem.W.Frag) (mg : Str → Option Value) (a : Nat → Addr) (fd : Nat → FuncData) (tk : Nat → Tok) : Prop where
  l : Tl K mg a fd tk
  b_min : mg "min" = none
  crd_Book : ClX.CRead K (a 30) (.type "type")
  v_MOST_LINES : ClX.CVal K (a 30) (.type "type") "MOST_LINES" (.int 80) (.int 80 (tk 20))
  v_MOST_CELLS : ClX.CVal K (a 30) (.type "type") "MOST_CELLS" (.int 4) (.int 4 (tk 21))
  v_MOST_ANSWERS : ClX.CVal K (a 30) (.type "type") "MOST_ANSWERS" (.int 3) (.int 3 (tk 22))
  v_MOST_EFFECTS : ClX.CVal K (a 30) (.type "type") "MOST_EFFECTS" (.int 3) (.int 3 (tk 23))
  v_MOST_HANDLERS : ClX.CVal K (a 30) (.type "type") "MOST_HANDLERS" (.int 3) (.int 3 (tk 24))
  v_MOST_DEEP : ClX.CVal K (a 30) (.type "type") "MOST_DEEP" (.int 8) (.int 8 (tk 25))
  v_MOST_NUMBERS : ClX.CVal K (a 30) (.type "type") "MOST_NUMBERS" (.int 4) (.int 4 (tk 26))
  te_BadBook : PySem.W.exmOne K (.ref (a 34)) (.ref (a 34)) = some true
  te_TooMany : PySem.W.exmOne K (.ref (a 60)) (.ref (a 60)) = some true
  te_Bad_Too : PySem.W.exmOne K (.ref (a 34)) (.ref (a 60)) = some false
  xc_TooMany : ExcC K (a 60)
  ki_TooMany : PySem.W.kitOne K (.ref (a 60)) (.ref (a 33)) = some true
  g__law_what : mg "_law_what" = some (.ref (a 80))
  F__law_what : Fun K "_law_what" "_law_what" s__law_what (a 80) (fd 80)
  g__law_deep : mg "_law_deep" = some (.ref (a 81))
  F__law_deep : Fun K "_law_deep" "_law_deep" s__law_deep (a 81) (fd 81)
  g__law_built : mg "_law_built" = some (.ref (a 82))
  F__law_built : Fun K "_law_built" "_law_built" s__law_built (a 82) (fd 82)
section
variable {P : Program} {w : World} {K : PySem.W.Frag} {mg : Str → Option Value} {base : Heap} {a : Nat → Addr} {fd : Nat → FuncData} {tk : Nat → Tok}
local macro_rules | `(tactic| walk_at "ne") => `(tactic| first | assumption | (exact Ne.symm (by assumption)) | (refine ne_of_none (by assumption) (by assumption)) | (refine Ne.symm (ne_of_none (by assumption) (by assumption))))
local macro_rules | `(tactic| walk_at "hl") => `(tactic| first | assumption | with_reducible exact upd_same | ((with_reducible refine' Eq.trans (upd_ne ?hne) ?hrest); (case hne => walk_at "ne"); (case hrest => walk_at "hl")) | (refine' get_same ?hs ?hg; (case hs => assumption); (case hg => assumption)))
local macro_rules | `(tactic| walk_at "at") => `(tactic| first | with_reducible exact atI_0 _ _ | with_reducible exact atI_1 _ _ _ | with_reducible exact atI_2 _ _ _ _ | with_reducible exact atI_3 _ _ _ _ _ | assumption)
local macro_rules | `(tactic| walk_at "rd1") => `(tactic| first
  | with_reducible refine s_seq ?_ | with_reducible refine s_next ?_ | with_reducible refine s_if ?_ | with_reducible refine s_ret ?_ | with_reducible refine s_retN ?_ | with_reducible refine s_drop ?_ | with_reducible refine s_asg ?_ | with_reducible refine s_brk ?_ | with_reducible refine s_cont ?_
  | with_reducible refine s_gname ?_ | with_reducible refine s_c ?_ | with_reducible refine s_op ?_ | with_reducible refine s_un ?_ | with_reducible refine s_neg ?_ | with_reducible refine s_test ?_ | with_reducible refine s_tb ?_ | with_reducible refine s_not ?_ | with_reducible refine s_and ?_ | with_reducible refine s_or ?_ | with_reducible refine s_yes ?_
  | ((with_reducible refine' s_var ?hv ?_); (case hv => exact rfl))
  | with_reducible refine s_ifx ?_ | with_reducible refine s_andV ?_ | with_reducible refine s_orV ?_ | with_reducible refine s_notV ?_ | with_reducible refine s_chain ?_ | with_reducible refine s_nil ?_ | with_reducible refine s_cons ?_ | with_reducible refine s_lst ?_ | with_reducible refine s_tup ?_ | with_reducible refine s_cb ?_ | with_reducible refine s_call ?_ | with_reducible refine s_meth ?_ | with_reducible refine s_make ?_
  | with_reducible refine s_dnewK ?_ | with_reducible refine s_sl ?_ | with_reducible refine s_po0 ?_ | with_reducible refine s_po1 ?_ | with_reducible refine s_bm ?_ | with_reducible refine s_bm0 ?_
  | with_reducible refine s_bl ?_ | with_reducible refine s_int ?_ | with_reducible refine s_I0 ?_ | with_reducible refine s_addI ?_ | with_reducible refine s_intI ?_ | with_reducible refine s_intB ?_
  | with_reducible refine s_m1 ?_ | with_reducible refine s_lc ?_ | with_reducible refine s_ilist ?_ | with_reducible refine s_for ?_ | with_reducible refine s_irng ?_ | with_reducible refine s_match ?_ | with_reducible refine s_starT ?_ | with_reducible refine s_isS ?_ | with_reducible refine s_isiSS ?_ | with_reducible refine s_fldU ?_ | with_reducible refine s_sfldU ?_
  | ((with_reducible refine' s_eqS ?hq ?_); (case hq => exact rfl)) | ((with_reducible refine' s_neS ?hq ?_); (case hq => exact rfl))
  | ((with_reducible refine' s_isN ?hq ?_); (case hq => exact rfl)) | ((with_reducible refine' s_notN ?hq ?_); (case hq => exact rfl))
  | ((with_reducible refine' s_eqNil ?h1 ?h2 ?_); (case h1 => walk_at "hl"); (case h2 => walk_at "hl")) | ((with_reducible refine' s_neNil ?h1 ?h2 ?_); (case h1 => walk_at "hl"); (case h2 => walk_at "hl"))
  | ((with_reducible refine' s_ixL ?h1 ?h2 ?_); (case h1 => walk_at "hl"); (case h2 => walk_at "at")) | ((with_reducible refine' s_ixT ?h1 ?h2 ?_); (case h1 => walk_at "hl"); (case h2 => walk_at "at"))
  | ((with_reducible refine' s_inS ?h1 ?_); (case h1 => walk_at "hl")) | ((with_reducible refine' s_ninS ?h1 ?_); (case h1 => walk_at "hl")) | with_reducible refine s_inW ?_
  | ((with_reducible refine' s_lenL ?h1 ?_); (case h1 => walk_at "hl")) | ((with_reducible refine' s_lenT ?h1 ?_); (case h1 => walk_at "hl"))
  | ((with_reducible refine' s_tyL ?h1 ?_); (case h1 => walk_at "hl"))
  | ((with_reducible refine' s_fldM ?h1 ?h2 ?h3 ?_); (case h1 => walk_at "hl"); (case h2 => walk_at "fok"); (case h3 => walk_at "flk"))
  | ((with_reducible refine' s_setM ?h1 ?h2 ?h3 ?h4 ?_); (case h1 => walk_at "hl"); (case h2 => walk_at "fok"); (case h4 => walk_at "put"); (case h3 => exact Nat.le_of_ble_eq_true rfl))
  | ((with_reducible refine' s_starM ?h1 ?_); (case h1 => walk_at "hl"))
  | ((with_reducible refine' s_recv ?h1 ?h2 ?_); (case h1 => walk_at "hl"); (case h2 => exact rfl))
  | ((with_reducible refine' s_sz ?h1 ?_); (case h1 => (simp; done))))
local macro_rules | `(tactic| walk_at "rd") => `(tactic| repeat (walk_at "rd1"))
local macro_rules | `(tactic| walk_at "fok") => `(tactic| assumption)
local macro_rules | `(tactic| walk_at "flk") => `(tactic| rfl)
local macro_rules | `(tactic| walk_at "put") => `(tactic| exact rfl)

local macro_rules | `(tactic| walk_at "fok") => `(tactic| first | assumption | exact Tk.bk (by assumption) (by decide))
theorem s_xo {σ : L2.St} {H : Hp} {Q : VK} {f : Str} {te : TE} (h : te σ H fun x H1 => ∃ (a C dd : Addr) (fs : List (Str × V)) (v : V), x = .ref a ∧ H1 a = some (xo a (.ref C) (some dd)) ∧ XfC K C ∧ PySem.W.findIn K (.ref C) f = some none ∧ H1 dd = some (.xd fs) ∧ fs.lookup f = some v ∧ Q v H1) : tXo K f te σ H Q := h
theorem s_makeS {C : Addr} {sp : Sp} {E : L2.St → XK} {t : TA} {σ : L2.St} {H : Hp} {Q : VK} (h : t σ H fun vs H1 => ∀ x dx, H1 x = none → H1 dx = none → dx ≠ x → sp (.ref x :: vs) (upd (upd H1 dx (.own x)) x (.ins C dx [])) (fun v H2 => v = .non ∧ Q (.ref x) H2) (E σ)) : tMakeS C sp E t σ H Q := h
theorem s_xf {x C : Addr} {cls : Value} {d : Option Addr} {f : Str} {te : TE} {σ : L2.St} {H : Hp} {Q : VK} (h : te σ H fun y H1 => y = .ref x ∧ cls = .ref C ∧ ∃ (dd : Addr) (fs : List (Str × V)) (v : V), d = some dd ∧ H1 dd = some (.xd fs) ∧ fs.lookup f = some v ∧ Q v H1) : tXf x cls d C f te σ H Q := h
/-- what comes of lines -/
def WhatV (H : Hp) (v : V) : Nat ⊕ Option Str → Prop
  | .inl i => ∃ t, v = .ref t ∧ H t = some (.tup [.str "line", .int (i : Nat)])
  | .inr none => v = .non
  | .inr (some z) => v = .str z
structure WhatIs (ls : List Str) (r : Nat ⊕ Option Str) : Prop where
  len : ls.length ≤ 95
  ok : ∀ H, ∀ v ∈ ls.map V.str, LineV H v
  few : ∀ k, readV bk0 (ls.map V.str) 0 = .inr k → isComplete k = true → ∃ L : List Int, L.length ≤ 60 ∧ ∀ j ∈ k.written, j ∈ L
  at_ : ∀ i, bookV (ls.map V.str) = some i → r = .inl i
  over : ∀ k ns, bookV (ls.map V.str) = none → readV bk0 (ls.map V.str) 0 = .inr k → ns.Pairwise (· < ·) → (∀ j, j ∈ ns ↔ j ∈ k.written) → r = .inr (overK (ls.map V.str) k ns)
def spWhat : Sp := fun vs H Q _ => ∃ (l : Addr) (ls : List Str) (r : Nat ⊕ Option Str), vs = [.ref l] ∧ H l = some (.lst (ls.map V.str)) ∧ WhatIs ls r ∧ ∀ v H', Same H H' → WhatV H' v r → Q v H'
theorem ok__law_what (T : Tv K mg a fd tk) : FnOk P w K mg base CX0 13 (a 80) (fd 80) ["_law_lines"] spWhat := by
  refine T.F__law_what.ok sc__law_what (fun vs H Q E h => ?_) (fun cdv A outer s H vs Q E hr h => ?_)
  · obtain ⟨l, ls, r, rfl, _⟩ := h
    rfl
  · obtain ⟨l, ls, r, rfl, hl, W, k⟩ := h
    refine ⟨_, (pss_cons (ps_asg pe_non (pg_name (i := 1) sc__law_what.nd rfl (Or.inl rfl)))
      (pss_cons (ps_try_keeps rfl rfl sc__law_what.nd rfl takes_none5
          (fun W pn xe tk _ => pss_one (ps_expr (pe_makeS T.l.k.mk_Book (ok_Book___init__ T.l.k) (hr.mono (by decide)) (by rfl) T.l.k.g_Book (b_Book___init__ T.l.k) (fun σ => passAt tk σ) (pa_cons (pv 0) pa_nil))))
          (.cons (i := 2) rfl rfl ⟨rfl, by decide, .inl T.l.k.g_TooMany⟩ (fun a oe cls d pn hz hf => pss_one (ps_asg (pv 2) (pg_name (i := 1) sc__law_what.nd rfl (Or.inl rfl))))
            (.cons (i := 2) rfl rfl ⟨rfl, by decide, .inl T.l.k.g_BadBook⟩ (fun a oe cls d pn hz hf => pss_one (ps_ret (pe_tup (pa_cons pe_str (pa_cons (pe_xf T.l.k.xf_BadBook T.l.k.no_BadBook hz hf (pv 2)) pa_nil))))) .nil)))
        (pss_one (ps_ret (pe_ifExp (PW.pt (pw_or (pt_cmpR op_isN1 (pv 1) pe_non (nomark _)) (pw_or1 (pt_not (pt_val (pe_callB call_isX (by rfl) T.l.k.b.x.b_isinstance bt_isinstance (pa_cons (pv 1) (pa_cons (pe_gR (by rfl) T.l.k.g_TrackedError) pa_nil)))))))) pe_non (pe_xo (pv 1))))))), ?_⟩
    walk_at "rd"
    refine s_makeS ?_
    walk_at "rd"
    intro r1 dx nr ndx hne
    have s1 : Same H (upd (upd H dx (.own r1)) r1 (.ins (a 30) dx [])) := fun b o hb => by
      rw [upd_ne (by rintro rfl; rw [nr] at hb; cases hb), upd_ne (by rintro rfl; rw [ndx] at hb; cases hb)]
      exact hb
    have fs : ∀ {H' : Hp}, Fr (upd (upd H dx (.own r1)) r1 (.ins (a 30) dx [])) H' [r1] → Same H H' := fun f x o e => f x o (s1 _ _ e) (by rw [List.mem_singleton]; rintro rfl; rw [nr] at e; cases e)
    refine ⟨r1, dx, _, rfl, upd_same, .inl ⟨l, ls.map V.str, rfl, .inl (s1 _ _ hl), by rw [List.length_map]; exact W.len, fun v hv => W.ok _ v hv, W.few, fun i hi d H' f nd hd => ?_, fun ks ns hn hk hp hm => ⟨fun z hz d H' f nd hd => ?_, fun hz F H' _ f hB => ⟨rfl, ?_⟩⟩⟩⟩
    · have er := W.at_ i hi
      subst er
      refine ⟨false, T.te_Bad_Too, (fun h => by cases h), fun _ => ⟨true, T.te_BadBook, fun _ e ne => ?_, fun h => by cases h⟩⟩
      walk_at "rd"
      refine s_xf ?_
      walk_at "rd"
      refine ⟨rfl, rfl, d, _, _, rfl, hd, rfl, ?_⟩
      walk_at "rd"
      intro t nt
      exact k _ _ ((fs f).trans (Same.new nt)) ⟨t, rfl, upd_same⟩
    · have er := W.over ks ns hn hk hp hm
      rw [hz] at er
      subst er
      refine ⟨true, T.te_TooMany, fun _ e ne => ?_, fun h => by cases h⟩
      have s3 : Same H (upd H' e (xo e (.ref (a 60)) (some d))) := (fs f).trans (Same.new ne)
      have hde : d ≠ e := by rintro rfl; rw [ne] at hd; cases hd
      have hx3 : upd H' e (xo e (.ref (a 60)) (some d)) e = some (xo e (.ref (a 60)) (some d)) := upd_same
      have hd3 : upd H' e (xo e (.ref (a 60)) (some d)) d = some (.xd [("what", .str z)]) := by rw [upd_ne hde]; exact hd
      walk_at "rd"
      refine ifF rfl ?_
      walk_at "rd"
      refine ⟨e, a 60, some d, _, _, true, rfl, .inr hx3, (fun dd hdd => by cases hdd; exact ⟨_, .inl hd3⟩), T.xc_TooMany, fun u ru => ru, T.ki_TooMany, ?_⟩
      walk_at "rd"
      refine ifF rfl ?_
      refine s_xo ?_
      walk_at "rd"
      exact ⟨e, a 60, d, [("what", .str z)], _, rfl, hx3, T.l.k.xf_TooMany, T.l.k.no_TooMany, hd3, rfl, k _ _ s3 rfl⟩
    · have er := W.over ks ns hn hk hp hm
      rw [hz] at er
      subst er
      walk_at "rd"
      refine ifT rfl ?_
      refine ifT rfl ?_
      walk_at "rd"
      exact k _ _ (fs f) rfl
theorem b__law_what (T : Tv K mg a fd tk) : Binds K (fd 80) ["_law_lines"] [] := T.F__law_what.binds fun _ _ _ _ _ _ us hl => match us, hl with | [_], _ => rfl
end
end Tr
set_option maxHeartbeats 4000000

namespace Tr
open PySem L2
section
variable {P : Program} {w : World} {K : PySem.W.Frag} {mg : Str → Option Value} {base : Heap} {a : Nat → Addr} {fd : Nat → FuncData} {tk : Nat → Tok}
local macro_rules | `(tactic| walk_at "ne") => `(tactic| first | assumption | (exact Ne.symm (by assumption)) | (refine ne_of_none (by assumption) (by assumption)) | (refine Ne.symm (ne_of_none (by assumption) (by assumption))))
local macro_rules | `(tactic| walk_at "hl") => `(tactic| first | assumption | with_reducible exact upd_same | ((with_reducible refine' Eq.trans (upd_ne ?hne) ?hrest); (case hne => walk_at "ne"); (case hrest => walk_at "hl")) | (refine' get_same ?hs ?hg; (case hs => assumption); (case hg => assumption)))
local macro_rules | `(tactic| walk_at "at") => `(tactic| first | with_reducible exact atI_0 _ _ | with_reducible exact atI_1 _ _ _ | with_reducible exact atI_2 _ _ _ _ | with_reducible exact atI_3 _ _ _ _ _ | assumption)
local macro_rules | `(tactic| walk_at "rd1") => `(tactic| first
  | with_reducible refine s_seq ?_ | with_reducible refine s_next ?_ | with_reducible refine s_if ?_ | with_reducible refine s_ret ?_ | with_reducible refine s_retN ?_ | with_reducible refine s_drop ?_ | with_reducible refine s_asg ?_ | with_reducible refine s_brk ?_ | with_reducible refine s_cont ?_
  | with_reducible refine s_gname ?_ | with_reducible refine s_c ?_ | with_reducible refine s_op ?_ | with_reducible refine s_un ?_ | with_reducible refine s_neg ?_ | with_reducible refine s_test ?_ | with_reducible refine s_tb ?_ | with_reducible refine s_not ?_ | with_reducible refine s_and ?_ | with_reducible refine s_or ?_ | with_reducible refine s_yes ?_
  | ((with_reducible refine' s_var ?hv ?_); (case hv => exact rfl))
  | with_reducible refine s_ifx ?_ | with_reducible refine s_andV ?_ | with_reducible refine s_orV ?_ | with_reducible refine s_notV ?_ | with_reducible refine s_chain ?_ | with_reducible refine s_nil ?_ | with_reducible refine s_cons ?_ | with_reducible refine s_lst ?_ | with_reducible refine s_tup ?_ | with_reducible refine s_cb ?_ | with_reducible refine s_call ?_ | with_reducible refine s_meth ?_ | with_reducible refine s_make ?_
  | with_reducible refine s_dnewK ?_ | with_reducible refine s_sl ?_ | with_reducible refine s_po0 ?_ | with_reducible refine s_po1 ?_ | with_reducible refine s_bm ?_ | with_reducible refine s_bm0 ?_
  | with_reducible refine s_bl ?_ | with_reducible refine s_int ?_ | with_reducible refine s_I0 ?_ | with_reducible refine s_addI ?_ | with_reducible refine s_intI ?_ | with_reducible refine s_intB ?_
  | with_reducible refine s_m1 ?_ | with_reducible refine s_lc ?_ | with_reducible refine s_ilist ?_ | with_reducible refine s_for ?_ | with_reducible refine s_irng ?_ | with_reducible refine s_match ?_ | with_reducible refine s_starT ?_ | with_reducible refine s_isS ?_ | with_reducible refine s_isiSS ?_ | with_reducible refine s_fldU ?_ | with_reducible refine s_sfldU ?_
  | ((with_reducible refine' s_eqS ?hq ?_); (case hq => exact rfl)) | ((with_reducible refine' s_neS ?hq ?_); (case hq => exact rfl))
  | ((with_reducible refine' s_isN ?hq ?_); (case hq => exact rfl)) | ((with_reducible refine' s_notN ?hq ?_); (case hq => exact rfl))
  | ((with_reducible refine' s_eqNil ?h1 ?h2 ?_); (case h1 => walk_at "hl"); (case h2 => walk_at "hl")) | ((with_reducible refine' s_neNil ?h1 ?h2 ?_); (case h1 => walk_at "hl"); (case h2 => walk_at "hl"))
  | ((with_reducible refine' s_ixL ?h1 ?h2 ?_); (case h1 => walk_at "hl"); (case h2 => walk_at "at")) | ((with_reducible refine' s_ixT ?h1 ?h2 ?_); (case h1 => walk_at "hl"); (case h2 => walk_at "at"))
  | ((with_reducible refine' s_inS ?h1 ?_); (case h1 => walk_at "hl")) | ((with_reducible refine' s_ninS ?h1 ?_); (case h1 => walk_at "hl")) | with_reducible refine s_inW ?_
  | ((with_reducible refine' s_lenL ?h1 ?_); (case h1 => walk_at "hl")) | ((with_reducible refine' s_lenT ?h1 ?_); (case h1 => walk_at "hl"))
  | ((with_reducible refine' s_tyL ?h1 ?_); (case h1 => walk_at "hl"))
  | ((with_reducible refine' s_fldM ?h1 ?h2 ?h3 ?_); (case h1 => walk_at "hl"); (case h2 => walk_at "fok"); (case h3 => walk_at "flk"))
  | ((with_reducible refine' s_setM ?h1 ?h2 ?h3 ?h4 ?_); (case h1 => walk_at "hl"); (case h2 => walk_at "fok"); (case h4 => walk_at "put"); (case h3 => exact Nat.le_of_ble_eq_true rfl))
  | ((with_reducible refine' s_starM ?h1 ?_); (case h1 => walk_at "hl"))
  | ((with_reducible refine' s_recv ?h1 ?h2 ?_); (case h1 => walk_at "hl"); (case h2 => exact rfl))
  | ((with_reducible refine' s_sz ?h1 ?_); (case h1 => (simp; done))))
local macro_rules | `(tactic| walk_at "rd") => `(tactic| repeat (walk_at "rd1"))
local macro_rules | `(tactic| walk_at "fok") => `(tactic| assumption)
local macro_rules | `(tactic| walk_at "flk") => `(tactic| rfl)
local macro_rules | `(tactic| walk_at "put") => `(tactic| exact rfl)

local macro_rules | `(tactic| walk_at "fok") => `(tactic| first | assumption | exact Tk.bk (by assumption) (by decide))
def opT (wh : Nat) (c : Str) (k : Nat) : Str := if wh = 3 then (if k % 2 = 0 then Str.ofString "quiet" else Str.ofString "if " ++ c ++ Str.ofString " != 0") else if wh = 0 then Str.ofString "quiet" else if wh = 1 then Str.ofString "if " ++ c ++ Str.ofString " == 0" else Str.ofString "batch"
def deepL (n wh : Nat) (c : Str) : List Str := (List.range n).map (opT wh c) ++ List.replicate n (Str.ofString "end")
def spDeep : Sp := fun vs H Q _ => ∃ (n wh : Nat) (c : Str), vs = [.int (n : Nat), .int (wh : Nat), .str c] ∧ n ≤ 9 ∧ wh < 4 ∧ c.length ≤ 8 ∧ ∀ l H', Same H H' → H l = none → H' l = some (.lst ((deepL n wh c).map V.str)) → Q (.ref l) H'
theorem rep_flat (v : V) (n : Nat) : (List.replicate n [v]).flatten = List.replicate n v := by induction n with
  | zero => rfl
  | succ n ih => rw [List.replicate_succ, List.flatten_cons, ih]; rfl
theorem rep_map (z : Str) (n : Nat) : List.replicate n (V.str z) = (List.replicate n z).map V.str := by rw [List.map_replicate]
theorem range_const (z : Str) (n : Nat) : (List.range n).map (fun _ => z) = List.replicate n z := by rw [List.map_const', List.length_range]
theorem ok__law_deep (T : Tv K mg a fd tk) : FnOk P w K mg base CX0 1 (a 81) (fd 81) ["_law_count", "_law_where", "_law_cell"] spDeep := by
  refine T.F__law_deep.ok sc__law_deep (fun vs H Q E h => ?_) (fun cdv A outer s H vs Q E hr h => ?_)
  · obtain ⟨n, wh, c, rfl, _⟩ := h
    rfl
  · obtain ⟨n, wh, c, rfl, n9, w4, c8, k⟩ := h
    refine ⟨_, (pss_cons (ps_if (pt_cmpR (uEq K hr.units) (pv 1) pe_int (nomark _)) (pss_cons (ps_setLc (i := 4) (own := [("_law_k", 5)]) rfl sc__law_deep.nd rfl rfl (sw_true rfl rfl rfl (by decide +kernel)) (pi_range1 (by rfl) T.l.b_range (pa_cons (pv 0) pa_nil)) (blkOk_by (N := N__law_deep) (sc := defScope s__law_deep) (by decide +kernel)) (fun _ _ _ _ _ => (pg_name (i := 5) sc__law_deep.nd rfl (by first | exact Or.inl rfl | exact Or.inr rfl))) (fun _ _ _ _ _ => pts_nil) (fun _ _ _ _ _ => (pe_ix uIx (pe_lst (pa_cons pe_str (pa_cons (pe_op uAdd (pe_op uAdd pe_str (pv 2)) pe_str) pa_nil))) (pe_op op_mod (pv 5) pe_int) (fun _ _ => rfl))))
  (pss_one (ps_ret (pe_op uAdd (pv 4) (pe_op uMul (pe_lst (pa_cons pe_str pa_nil)) (pv 0)))))) pss_nil)
  (pss_cons (ps_asg (pe_ix uIx (pe_lst (pa_cons pe_str (pa_cons (pe_op uAdd (pe_op uAdd pe_str (pv 2)) pe_str) (pa_cons pe_str pa_nil)))) (pv 1) (fun _ _ => rfl)) (pg_name (i := 3) sc__law_deep.nd rfl (by first | exact Or.inl rfl | exact Or.inr rfl)))
  (pss_one (ps_ret (pe_op uAdd (pe_op uMul (pe_lst (pa_cons (pv 3) pa_nil)) (pv 0)) (pe_op uMul (pe_lst (pa_cons pe_str pa_nil)) (pv 0))))))), ?_⟩
    have e3 : (Str.ofString "if ").length = 3 := by decide +kernel
    have e5 : (Str.ofString " != 0").length = 5 := by decide +kernel
    have e5' : (Str.ofString " == 0").length = 5 := by decide +kernel
    -- what is left behind the opened lines
    have ends : ∀ (z : Addr) (H1 : Hp) (xs : List Str) (R : VK), H1 z = some (.lst (xs.map V.str)) → xs.length ≤ 9 → Same H H1 → H z = none → (∀ l H', Same H H' → H l = none → H' l = some (.lst ((xs ++ List.replicate n (Str.ofString "end")).map V.str)) → R (.ref l) H') →
        ∀ q, H1 q = none → rMulU (.ref q) (.int (n : Nat)) (upd H1 q (.lst [.str (Str.ofString "end")])) fun y H2 => rAddU (.ref z) y H2 R := by
      intro z H1 xs R hz l9 s1 nz kk q nq
      have hz2 : upd H1 q (.lst [.str (Str.ofString "end")]) z = some (.lst (xs.map V.str)) := Same.new nq _ _ hz
      have s2 : Same H (upd H1 q (.lst [.str (Str.ofString "end")])) := s1.trans (Same.new nq)
      refine s_mulL upd_same (by omega) (by omega) (sz_le (by simp; omega)) fun r nr => ?_
      have e1 : (List.replicate ((n : Nat) : Int).toNat [V.str (Str.ofString "end")]).flatten = (List.replicate n (Str.ofString "end")).map V.str := by rw [rep_flat, rep_map]; rfl
      rw [e1]
      refine s_addL (Same.new nr _ _ hz2) upd_same (sz_le (by simp; omega)) fun l nl => ?_
      rw [← List.map_append]
      exact kk l _ ((s2.trans (Same.new nr)).trans (Same.new nl)) ((s2.trans (Same.new nr)).free nl) upd_same
    walk_at "rd"
    by_cases h3 : wh = 3
    · subst h3
      refine ifT rfl ?_
      walk_at "rd"
      refine s_lcR (fun k => some (.str (opT 3 c k))) (by omega) (by omega) (fun i H2 R R0 hi s2 k1 _ => ?_) fun z H1 s1 nz hz => ?_
      · walk_at "rd"
        refine ⟨rfl, ?_⟩
        walk_at "rd"
        refine ifT rfl ?_
        walk_at "rd"
        refine s_addS (sz_le (by rw [e3]; omega)) ?_
        walk_at "rd"
        refine s_addS (sz_le (by rw [len_app, e3, e5]; omega)) ?_
        walk_at "rd"
        intro q nq
        walk_at "rd"
        refine s_I (by decide) ?_
        have hc : i % 2 = 0 ∨ i % 2 = 1 := by omega
        rcases hc with hc | hc
        · have e : ((i : Nat) : Int) % 2 = 0 := by omega
          rw [e]
          refine s_ixL upd_same (v := .str (opT 3 c i)) (by have e9 : opT 3 c i = Str.ofString "quiet" := (by simp [opT, hc]); rw [e9]; rfl) ?_
          exact k1 _ rfl _ (Same.new nq)
        · have e : ((i : Nat) : Int) % 2 = 1 := by omega
          rw [e]
          refine s_ixL upd_same (v := .str (opT 3 c i)) (by have e9 : opT 3 c i = Str.ofString "if " ++ c ++ Str.ofString " != 0" := (by simp [opT, hc]); rw [e9]; rfl) ?_
          exact k1 _ rfl _ (Same.new nq)
      · have ez : (List.range ((n : Nat) : Int).toNat).filterMap (fun k => some (V.str (opT 3 c k))) = ((List.range n).map (opT 3 c)).map V.str := by
          rw [fm_some, List.map_map]
          rfl
        rw [ez] at hz
        walk_at "rd"
        intro q nq
        walk_at "rd"
        exact ends z H1 _ _ hz (by simp; omega) s1 nz k q nq
    · refine ifF (by simp; omega) ?_
      walk_at "rd"
      refine s_addS (sz_le (by rw [e3]; omega)) ?_
      walk_at "rd"
      refine s_addS (sz_le (by rw [len_app, e3, e5']; omega)) ?_
      walk_at "rd"
      intro q nq
      have s1 : Same H (upd H q (.lst [.str (Str.ofString "quiet"), .str (Str.ofString "if " ++ c ++ Str.ofString " == 0"), .str (Str.ofString "batch")])) := Same.new nq
      have hq : upd H q (.lst [.str (Str.ofString "quiet"), .str (Str.ofString "if " ++ c ++ Str.ofString " == 0"), .str (Str.ofString "batch")]) q = some (.lst [.str (Str.ofString "quiet"), .str (Str.ofString "if " ++ c ++ Str.ofString " == 0"), .str (Str.ofString "batch")]) := upd_same
      generalize upd H q (.lst [.str (Str.ofString "quiet"), .str (Str.ofString "if " ++ c ++ Str.ofString " == 0"), .str (Str.ofString "batch")]) = H1 at s1 hq ⊢
      walk_at "rd"
      have ew : ∀ k, opT wh c k = opT wh c 0 := fun k => by simp [opT, h3]
      refine s_ixL hq (v := .str (opT wh c 0)) (by
        have hc : wh = 0 ∨ wh = 1 ∨ wh = 2 := by omega
        rcases hc with rfl | rfl | rfl <;> rfl) ?_
      walk_at "rd"
      intro p np
      have s2 := s1.trans (Same.new (o := .lst [.str (opT wh c 0)]) np)
      walk_at "rd"
      refine s_mulL upd_same (by omega) (by omega) (sz_le (by simp; omega)) fun z nz => ?_
      have e1 : (List.replicate ((n : Nat) : Int).toNat [V.str (opT wh c 0)]).flatten = ((List.range n).map (opT wh c)).map V.str := by
        rw [rep_flat, rep_map]
        congr 1
        rw [← range_const]
        exact List.map_congr_left fun k _ => (ew k).symm
      rw [e1]
      walk_at "rd"
      intro q2 nq2
      walk_at "rd"
      exact ends z _ _ _ upd_same (by simp; omega) (s2.trans (Same.new nz)) (s2.free nz) k q2 nq2
theorem b__law_deep (T : Tv K mg a fd tk) : Binds K (fd 81) ["_law_count", "_law_where", "_law_cell"] [] := T.F__law_deep.binds fun _ _ _ _ _ _ us hl => match us, hl with | [_, _, _], _ => rfl
end
end Tr
set_option maxHeartbeats 4000000

namespace Tr
open PySem L2
section
variable {P : Program} {w : World} {K : PySem.W.Frag} {mg : Str → Option Value} {base : Heap} {a : Nat → Addr} {fd : Nat → FuncData} {tk : Nat → Tok}
local macro_rules | `(tactic| walk_at "ne") => `(tactic| first | assumption | (exact Ne.symm (by assumption)) | (refine ne_of_none (by assumption) (by assumption)) | (refine Ne.symm (ne_of_none (by assumption) (by assumption))))
local macro_rules | `(tactic| walk_at "hl") => `(tactic| first | assumption | with_reducible exact upd_same | ((with_reducible refine' Eq.trans (upd_ne ?hne) ?hrest); (case hne => walk_at "ne"); (case hrest => walk_at "hl")) | (refine' get_same ?hs ?hg; (case hs => assumption); (case hg => assumption)))
local macro_rules | `(tactic| walk_at "at") => `(tactic| first | with_reducible exact atI_0 _ _ | with_reducible exact atI_1 _ _ _ | with_reducible exact atI_2 _ _ _ _ | with_reducible exact atI_3 _ _ _ _ _ | assumption)
local macro_rules | `(tactic| walk_at "rd1") => `(tactic| first
  | with_reducible refine s_seq ?_ | with_reducible refine s_next ?_ | with_reducible refine s_if ?_ | with_reducible refine s_ret ?_ | with_reducible refine s_retN ?_ | with_reducible refine s_drop ?_ | with_reducible refine s_asg ?_ | with_reducible refine s_brk ?_ | with_reducible refine s_cont ?_
  | with_reducible refine s_gname ?_ | with_reducible refine s_c ?_ | with_reducible refine s_op ?_ | with_reducible refine s_un ?_ | with_reducible refine s_neg ?_ | with_reducible refine s_test ?_ | with_reducible refine s_tb ?_ | with_reducible refine s_not ?_ | with_reducible refine s_and ?_ | with_reducible refine s_or ?_ | with_reducible refine s_yes ?_
  | ((with_reducible refine' s_var ?hv ?_); (case hv => exact rfl))
  | with_reducible refine s_ifx ?_ | with_reducible refine s_andV ?_ | with_reducible refine s_orV ?_ | with_reducible refine s_notV ?_ | with_reducible refine s_chain ?_ | with_reducible refine s_nil ?_ | with_reducible refine s_cons ?_ | with_reducible refine s_lst ?_ | with_reducible refine s_tup ?_ | with_reducible refine s_cb ?_ | with_reducible refine s_call ?_ | with_reducible refine s_meth ?_ | with_reducible refine s_make ?_
  | with_reducible refine s_dnewK ?_ | with_reducible refine s_sl ?_ | with_reducible refine s_po0 ?_ | with_reducible refine s_po1 ?_ | with_reducible refine s_bm ?_ | with_reducible refine s_bm0 ?_
  | with_reducible refine s_bl ?_ | with_reducible refine s_int ?_ | with_reducible refine s_I0 ?_ | with_reducible refine s_addI ?_ | with_reducible refine s_intI ?_ | with_reducible refine s_intB ?_
  | with_reducible refine s_m1 ?_ | with_reducible refine s_lc ?_ | with_reducible refine s_ilist ?_ | with_reducible refine s_for ?_ | with_reducible refine s_irng ?_ | with_reducible refine s_match ?_ | with_reducible refine s_starT ?_ | with_reducible refine s_isS ?_ | with_reducible refine s_isiSS ?_ | with_reducible refine s_fldU ?_ | with_reducible refine s_sfldU ?_
  | ((with_reducible refine' s_eqS ?hq ?_); (case hq => exact rfl)) | ((with_reducible refine' s_neS ?hq ?_); (case hq => exact rfl))
  | ((with_reducible refine' s_isN ?hq ?_); (case hq => exact rfl)) | ((with_reducible refine' s_notN ?hq ?_); (case hq => exact rfl))
  | ((with_reducible refine' s_eqNil ?h1 ?h2 ?_); (case h1 => walk_at "hl"); (case h2 => walk_at "hl")) | ((with_reducible refine' s_neNil ?h1 ?h2 ?_); (case h1 => walk_at "hl"); (case h2 => walk_at "hl"))
  | ((with_reducible refine' s_ixL ?h1 ?h2 ?_); (case h1 => walk_at "hl"); (case h2 => walk_at "at")) | ((with_reducible refine' s_ixT ?h1 ?h2 ?_); (case h1 => walk_at "hl"); (case h2 => walk_at "at"))
  | ((with_reducible refine' s_inS ?h1 ?_); (case h1 => walk_at "hl")) | ((with_reducible refine' s_ninS ?h1 ?_); (case h1 => walk_at "hl")) | with_reducible refine s_inW ?_
  | ((with_reducible refine' s_lenL ?h1 ?_); (case h1 => walk_at "hl")) | ((with_reducible refine' s_lenT ?h1 ?_); (case h1 => walk_at "hl"))
  | ((with_reducible refine' s_tyL ?h1 ?_); (case h1 => walk_at "hl"))
  | ((with_reducible refine' s_fldM ?h1 ?h2 ?h3 ?_); (case h1 => walk_at "hl"); (case h2 => walk_at "fok"); (case h3 => walk_at "flk"))
  | ((with_reducible refine' s_setM ?h1 ?h2 ?h3 ?h4 ?_); (case h1 => walk_at "hl"); (case h2 => walk_at "fok"); (case h4 => walk_at "put"); (case h3 => exact Nat.le_of_ble_eq_true rfl))
  | ((with_reducible refine' s_starM ?h1 ?_); (case h1 => walk_at "hl"))
  | ((with_reducible refine' s_recv ?h1 ?h2 ?_); (case h1 => walk_at "hl"); (case h2 => exact rfl))
  | ((with_reducible refine' s_sz ?h1 ?_); (case h1 => (simp; done))))
local macro_rules | `(tactic| walk_at "rd") => `(tactic| repeat (walk_at "rd1"))
local macro_rules | `(tactic| walk_at "fok") => `(tactic| assumption)
local macro_rules | `(tactic| walk_at "flk") => `(tactic| rfl)
local macro_rules | `(tactic| walk_at "put") => `(tactic| exact rfl)

local macro_rules | `(tactic| walk_at "fok") => `(tactic| first | assumption | exact Tk.bk (by assumption) (by decide))
structure Sz where
  l : Nat
  c : Nat
  a : Nat
  e : Nat
  g : Nat
  d : Nat
  n : Nat
def szK (s : Sz) : List (Key × V) := [(.inr (Str.ofString "lines"), .int (s.l : Nat)), (.inr (Str.ofString "cells"), .int (s.c : Nat)), (.inr (Str.ofString "answers"), .int (s.a : Nat)), (.inr (Str.ofString "effects"), .int (s.e : Nat)), (.inr (Str.ofString "handlers"), .int (s.g : Nat)), (.inr (Str.ofString "deep"), .int (s.d : Nat)), (.inr (Str.ofString "numbers"), .int (s.n : Nat))]
theorem sz_l {s : Sz} : valV (szK s) (.inr (Str.ofString "lines")) = some (.int (s.l : Nat)) := by simp [szK, valV, List.find?, ofString_inj]
theorem sz_c {s : Sz} : valV (szK s) (.inr (Str.ofString "cells")) = some (.int (s.c : Nat)) := by simp [szK, valV, List.find?, ofString_inj]
theorem sz_a {s : Sz} : valV (szK s) (.inr (Str.ofString "answers")) = some (.int (s.a : Nat)) := by simp [szK, valV, List.find?, ofString_inj]
theorem sz_e {s : Sz} : valV (szK s) (.inr (Str.ofString "effects")) = some (.int (s.e : Nat)) := by simp [szK, valV, List.find?, ofString_inj]
theorem sz_g {s : Sz} : valV (szK s) (.inr (Str.ofString "handlers")) = some (.int (s.g : Nat)) := by simp [szK, valV, List.find?, ofString_inj]
theorem sz_d {s : Sz} : valV (szK s) (.inr (Str.ofString "deep")) = some (.int (s.d : Nat)) := by simp [szK, valV, List.find?, ofString_inj]
theorem sz_n {s : Sz} : valV (szK s) (.inr (Str.ofString "numbers")) = some (.int (s.n : Nat)) := by simp [szK, valV, List.find?, ofString_inj]
def kTx (b : Bool) : Str := if b then Str.ofString "kept " else Str.ofString "each "
def cellT (m i : Nat) (x : Str) : Str := Str.ofString "cell " ++ x ++ Str.ofString " = " ++ numT (i % m)
def cellsT (m : Nat) (C : List Str) : List Str := C.mapIdx fun i x => cellT m i x
def ansT (A : List (Bool × Str)) : List Str := A.flatMap fun x => [kTx x.1 ++ x.2, Str.ofString "give 0", Str.ofString "end"]
def effT (E : List Str) : List Str := E.flatMap fun x => [Str.ofString "effect " ++ x, Str.ofString "end"]
def hanT (G : List Str) : List Str := G.flatMap fun x => [Str.ofString "handler " ++ x, Str.ofString "end"]
theorem ansT_len : ∀ A : List (Bool × Str), (ansT A).length = 3 * A.length
  | [] => rfl
  | x :: A => by rw [ansT, List.flatMap_cons, List.length_append, List.length_cons]; have := ansT_len A; unfold ansT at this; rw [this]; simp; omega
theorem effT_len : ∀ A : List Str, (effT A).length = 2 * A.length
  | [] => rfl
  | x :: A => by rw [effT, List.flatMap_cons, List.length_append, List.length_cons]; have := effT_len A; unfold effT at this; rw [this]; simp; omega
theorem hanT_len : ∀ A : List Str, (hanT A).length = 2 * A.length
  | [] => rfl
  | x :: A => by rw [hanT, List.flatMap_cons, List.length_append, List.length_cons]; have := hanT_len A; unfold hanT at this; rw [this]; simp; omega
def base10 (m : Nat) (C : List Str) (A : List (Bool × Str)) (E G : List Str) : List Str := cellsT m C ++ ansT A ++ effT E ++ hanT G
def aiOf (wh at_ n c : Nat) : Nat := if wh < 2 then at_ else if wh = 2 then n - 1 else c + 1
def built2 (s : Sz) (wh at_ : Nat) (L1 inner : List Str) : List Str :=
  let L2 := L1.take (aiOf wh at_ L1.length s.c) ++ inner ++ L1.drop (aiOf wh at_ L1.length s.c)
  let at2 := at_ + inner.length * (if wh = 3 then 1 else 0)
  L2.take at2 ++ List.replicate (s.l - L2.length) (Str.ofString "tell 0") ++ L2.drop at2
def moreT (n : Nat) : List Str := (List.range n).map fun k => Str.ofString "tell " ++ numT k
def built (s : Sz) (L0 : List Str) (wh : Nat) (c0 : Str) : List Str :=
  let at_ := s.c + 3 * s.a + 1
  built2 s wh at_ (L0.take at_ ++ moreT s.n ++ L0.drop at_) (deepL s.d wh c0)
structure SzOk (s : Sz) : Prop where
  c : s.c = 4 ∨ s.c = 5
  a : s.a = 3 ∨ s.a = 4
  e : s.e = 3 ∨ s.e = 4
  g : s.g = 3 ∨ s.g = 4
  d : s.d = 8 ∨ s.d = 9
  n : s.n = 4 ∨ s.n = 5
  l : s.l = 80 ∨ s.l = 81
/-- what is drawn -/
structure Dr (s : Sz) (C : List Str) (A : List (Bool × Str)) (E G : List Str) : Prop where
  c : C.length = s.c
  a : A.length = s.a
  e : E.length = s.e
  g : G.length = s.g
  nd : (C ++ A.map (·.2) ++ E ++ G).Nodup
  w : ∀ x ∈ C ++ A.map (·.2) ++ E ++ G, isWord x = true
/-- the machine's state while the lines are made -/
structure BI (H H' : Hp) (bl sl sz tl ln ce : Addr) (s : Sz) (C L T : List Str) : Prop where
  B : BagAt H' bl sl
  S : H' sz = some (.dK (szK s))
  t : H' tl = some (.lst (T.map V.str))
  l : H' ln = some (.lst (L.map V.str))
  c : H' ce = some (.lst (C.map V.str))
  f : Fr H H' [bl]
  nt : H tl = none
  nl : H ln = none
  nc : H ce = none
  ne1 : tl ≠ bl ∧ tl ≠ sl ∧ ln ≠ bl ∧ ln ≠ sl ∧ ce ≠ bl ∧ ce ≠ sl
  ne2 : tl ≠ ln ∧ tl ≠ ce ∧ ln ≠ ce
section
variable {H H' H'' : Hp} {bl sl sz tl ln ce : Addr} {s : Sz} {C L T : List Str}
theorem BI.same (b : BI H H' bl sl sz tl ln ce s C L T) (q : Same H' H'') : BI H H'' bl sl sz tl ln ce s C L T :=
  ⟨b.B.same q, q _ _ b.S, q _ _ b.t, q _ _ b.l, q _ _ b.c, fun x o h hn => q _ _ (b.f x o h hn), b.nt, b.nl, b.nc, b.ne1, b.ne2⟩
theorem BI.nsz (b : BI H H' bl sl sz tl ln ce s C L T) : sz ≠ bl ∧ sz ≠ tl ∧ sz ≠ ln ∧ sz ≠ ce := by
  obtain ⟨_, _, _, _, _, g1, _⟩ := b.B
  refine ⟨?_, ?_, ?_, ?_⟩ <;> rintro rfl
  · rw [b.S] at g1; cases g1
  · have := b.t; rw [b.S] at this; cases this
  · have := b.l; rw [b.S] at this; cases this
  · have := b.c; rw [b.S] at this; cases this
theorem BI.draw (b : BI H H' bl sl sz tl ln ce s C L T) (q : Fr H' H'' [bl]) (B : BagAt H'' bl sl) : BI H H'' bl sl sz tl ln ce s C L T := by
  obtain ⟨n1, n2, n3, n4, n5, n6⟩ := b.ne1
  obtain ⟨m1, m2, m3, m4⟩ := b.nsz
  exact ⟨B, q _ _ b.S (by simpa using m1), q _ _ b.t (by simpa using n1), q _ _ b.l (by simpa using n3), q _ _ b.c (by simpa using n5), b.f.tr q, b.nt, b.nl, b.nc, b.ne1, b.ne2⟩
theorem BI.name {T' : List Str} (b : BI H H' bl sl sz tl ln ce s C L T) (q : Fr H' H'' [bl, tl]) (B : BagAt H'' bl sl) (ht : H'' tl = some (.lst (T'.map V.str))) : BI H H'' bl sl sz tl ln ce s C L T' := by
  obtain ⟨n1, n2, n3, n4, n5, n6⟩ := b.ne1
  obtain ⟨m1, m2, m3, m4⟩ := b.nsz
  obtain ⟨p1, p2, p3⟩ := b.ne2
  refine ⟨B, q _ _ b.S (by simp [m1, m2]), ht, q _ _ b.l (by simp [n3, Ne.symm p1]), q _ _ b.c (by simp [n5, Ne.symm p2]), fun x o h hn => ?_, b.nt, b.nl, b.nc, b.ne1, b.ne2⟩
  have hb : x ≠ bl := by simpa using hn
  have hx : x ≠ tl := by rintro rfl; rw [b.nt] at h; cases h
  exact q _ _ (b.f x o h hn) (by simp [hb, hx])
theorem BI.setL {L' : List Str} (b : BI H H' bl sl sz tl ln ce s C L T) : BI H (upd H' ln (.lst (L'.map V.str))) bl sl sz tl ln ce s C L' T := by
  obtain ⟨n1, n2, n3, n4, n5, n6⟩ := b.ne1
  obtain ⟨m1, m2, m3, m4⟩ := b.nsz
  obtain ⟨p1, p2, p3⟩ := b.ne2
  refine ⟨?_, by rw [upd_ne m3]; exact b.S, by rw [upd_ne p1]; exact b.t, upd_same, by rw [upd_ne (Ne.symm p3)]; exact b.c, fun x o h hn => ?_, b.nt, b.nl, b.nc, b.ne1, b.ne2⟩
  · obtain ⟨n, xs, i, c, r, g1, g2, g3⟩ := b.B
    exact ⟨n, xs, i, c, r, by rw [upd_ne (Ne.symm n3)]; exact g1, by rw [upd_ne (Ne.symm n4)]; exact g2, g3⟩
  · rw [upd_ne (by rintro rfl; rw [b.nl] at h; cases h)]; exact b.f x o h hn
theorem BI.setC {C' : List Str} (b : BI H H' bl sl sz tl ln ce s C L T) : BI H (upd H' ce (.lst (C'.map V.str))) bl sl sz tl ln ce s C' L T := by
  obtain ⟨n1, n2, n3, n4, n5, n6⟩ := b.ne1
  obtain ⟨m1, m2, m3, m4⟩ := b.nsz
  obtain ⟨p1, p2, p3⟩ := b.ne2
  refine ⟨?_, by rw [upd_ne m4]; exact b.S, by rw [upd_ne p2]; exact b.t, by rw [upd_ne p3]; exact b.l, upd_same, fun x o h hn => ?_, b.nt, b.nl, b.nc, b.ne1, b.ne2⟩
  · obtain ⟨n, xs, i, c, r, g1, g2, g3⟩ := b.B
    exact ⟨n, xs, i, c, r, by rw [upd_ne (Ne.symm n5)]; exact g1, by rw [upd_ne (Ne.symm n6)]; exact g2, g3⟩
  · rw [upd_ne (by rintro rfl; rw [b.nc] at h; cases h)]; exact b.f x o h hn
/-- the lines stand at a new place -/
theorem BI.newL {L' : List Str} {l' : Addr} (b : BI H H' bl sl sz tl ln ce s C L T) (n : H' l' = none) : BI H (upd H' l' (.lst (L'.map V.str))) bl sl sz tl l' ce s C L' T := by
  have b2 := b.same (Same.new (o := .lst (L'.map V.str)) n)
  have free : H l' = none := by
    cases e : H l' with
    | none => rfl
    | some o =>
      by_cases h : l' = bl
      · obtain ⟨_, _, _, _, _, g1, _⟩ := b.B
        rw [← h, n] at g1; cases g1
      · have := b.f _ _ e (by simpa using h)
        rw [n] at this; cases this
  refine ⟨b2.B, b2.S, b2.t, upd_same, b2.c, b2.f, b.nt, free, b.nc, ⟨b.ne1.1, b.ne1.2.1, ?_, ?_, b.ne1.2.2.2.2⟩, ⟨?_, b.ne2.2.1, ?_⟩⟩
  · rintro rfl; obtain ⟨_, _, _, _, _, g1, _⟩ := b.B; rw [n] at g1; cases g1
  · rintro rfl; obtain ⟨_, _, _, _, _, _, g2, _⟩ := b.B; rw [n] at g2; cases g2
  · rintro rfl; have := b.t; rw [n] at this; cases this
  · rintro rfl; have := b.c; rw [n] at this; cases this
end
theorem s_wd {σ : L2.St} {H : Hp} {Q : VK} {i : Nat} {wd : Addr} {kvs : List (Key × V)} {key : Str} {v : V} (hi : σ[i]? = some (some (.ref wd))) (hd : H wd = some (.dK kvs)) (hv : valV kvs (.inr key) = some v) (q : Q v H) : tDGet (tVar i) (tC (.str key)) σ H Q :=
  ⟨_, hi, wd, v, rfl, by have := DGet.k (k := .inr key) hd; rw [hv] at this; exact this, q⟩
theorem s_appS {H : Hp} {Q : VK} {p : Addr} {l : List Str} {z : Str} (hp : H p = some (.lst (l.map V.str))) (hl : l.length < 1000) (q : Q .non (upd H p (.lst ((l ++ [z]).map V.str)))) : rAppU (.ref p) [.str z] H Q := by
  refine s_app hp (sz_lt (by simp; omega)) ?_
  rw [List.map_append] at q
  exact q
theorem log_num {n : Nat} (h : n < 10 ^ 30) : ((n : Nat) : Int).natAbs.log2 < 1920 := by
  have e : ((n : Nat) : Int).natAbs = n := rfl
  rw [e]
  rcases Nat.eq_zero_or_pos n with rfl | hp
  · decide
  · rw [Nat.log2_lt (by omega)]
    exact Nat.lt_trans h (by decide)
theorem szB {A B : List V} (a b : Nat) (ha : A.length ≤ a) (hb : B.length ≤ b) (h : a + b ≤ 100000) : A.length + B.length ≤ sizeLine := sz_le (by omega)
theorem tk_b {l : List Str} {n b : Nat} (h : l.length ≤ b) : ((l.take n).map V.str).length ≤ b := by rw [List.length_map, List.length_take]; omega
theorem dr_b {l : List Str} {n b : Nat} (h : l.length ≤ b) : ((l.drop n).map V.str).length ≤ b := by rw [List.length_map, List.length_drop]; omega
theorem mp_b {l : List Str} {b : Nat} (h : l.length ≤ b) : (l.map V.str).length ≤ b := by rw [List.length_map]; exact h
theorem ap_b {l m : List Str} {n a b : Nat} (h : l.length ≤ a) (h2 : m.length ≤ b) : ((l.take n ++ m).map V.str).length ≤ a + b := by rw [List.length_map, List.length_append, List.length_take]; omega
theorem l_tda (L M : List Str) (n : Nat) : (L.take n ++ M ++ L.drop n).length = L.length + M.length := by simp; omega
theorem ai_le {wh at_ n c : Nat} (h1 : at_ ≤ n) (h2 : c + 1 ≤ n) : aiOf wh at_ n c ≤ n := by
  unfold aiOf
  split
  · exact h1
  split
  · omega
  · exact h2
theorem at3_le {at_ il n wh : Nat} (h1 : at_ + il ≤ n) : at_ + il * (if wh = 3 then 1 else 0) ≤ n := by split <;> omega
theorem pad_eq {l n : Nat} (h : n ≤ l) : ((l : Nat) : Int) - ((n : Nat) : Int) = ((l - n : Nat) : Int) := by omega
theorem sub1 {n : Nat} (h : 1 ≤ n) : ((n : Nat) : Int) - 1 = ((n - 1 : Nat) : Int) := by omega
theorem sub_b {l n b : Nat} (h : l ≤ b) : l - n ≤ b := by omega
def spBuilt : Sp := fun vs H Q _ => ∃ (bl sl sz : Addr) (s : Sz), vs = [.ref bl, .ref sz] ∧ BagAt H bl sl ∧ H sz = some (.dK (szK s)) ∧ SzOk s ∧
  ∀ l (C : List Str) (A : List (Bool × Str)) (E G : List Str) (wh : Nat) H', Dr s C A E G → wh < 4 → H l = none → H' l = some (.lst ((built s (base10 (s.n - 1) C A E G) wh (C.headD (Str.ofString ""))).map V.str)) → BagAt H' bl sl → Fr H H' [bl] → Q (.ref l) H'
theorem ok__law_built (T : Tv K mg a fd tk) : FnOk P w K mg base CX0 4 (a 82) (fd 82) ["_law_bag_here", "_law_sizes"] spBuilt := by
  refine T.F__law_built.ok sc__law_built (fun vs H Q E h => ?_) (fun cdv A outer s H vs Q E hr h => ?_)
  · obtain ⟨bl, sl, sz, s, rfl, _⟩ := h
    rfl
  · obtain ⟨bl, sl, sz, s, rfl, B, hsz, ok, k⟩ := h
    refine ⟨_, (pss_cons (ps_asg (pe_lst pa_nil) (pg_name (i := 2) sc__law_built.nd rfl (by first | exact Or.inl rfl | exact Or.inr rfl)))
  (pss_cons (ps_asg (pe_lst pa_nil) (pg_name (i := 3) sc__law_built.nd rfl (by first | exact Or.inl rfl | exact Or.inr rfl)))
  (pss_cons (ps_asg (pe_lst pa_nil) (pg_name (i := 4) sc__law_built.nd rfl (by first | exact Or.inl rfl | exact Or.inr rfl)))
  (pss_cons (ps_for PassesOwn.never rfl (pi_range1 (by rfl) T.l.b_range (pa_cons (pe_dget (hu_of hr) (pv 1) pe_str (fun _ _ => rfl)) pa_nil)) (pg_name (i := 5) sc__law_built.nd rfl (by first | exact Or.inl rfl | exact Or.inr rfl))
   (pss_cons (ps_asg (pe_call (ok__law_name T.l) (hr.mono (by decide)) (by rfl) T.l.g__law_name T.l.F__law_name.kp (b__law_name T.l) .nil pass0 (pa_cons (pv 0) (pa_cons (pv 2) pa_nil))) (pg_name (i := 11) sc__law_built.nd rfl (by first | exact Or.inl rfl | exact Or.inr rfl)))
  (pss_cons (ps_expr (pe_bm PySem.F.plainAttrs_list PySem.F.slot_list_append PySem.F.type_list_append uAppend (pv 4) (pa_cons (pv 11) pa_nil)))
  (pss_one (ps_expr (pe_bm PySem.F.plainAttrs_list PySem.F.slot_list_append PySem.F.type_list_append uAppend (pv 3) (pa_cons (pe_op uAdd (pe_op uAdd (pe_op uAdd pe_str (pv 11)) pe_str) (pe_callTy call_str_int (by rfl) T.l.k.b.x.b_str bt_str (pa_cons (pe_op op_mod (pv 5) (pe_callB (call_max2 rfl) (by rfl) T.l.k.b.y.b_max bt_max (pa_cons pe_int (pa_cons (pe_op op_sub (pe_dget (hu_of hr) (pv 1) pe_str (fun _ _ => rfl)) pe_int) pa_nil)))) pa_nil))) pa_nil)))))))
  (pss_cons (ps_for PassesOwn.never rfl (pi_range1 (by rfl) T.l.b_range (pa_cons (pe_dget (hu_of hr) (pv 1) pe_str (fun _ _ => rfl)) pa_nil)) (pg_name (i := 5) sc__law_built.nd rfl (by first | exact Or.inl rfl | exact Or.inr rfl))
   (pss_one (ps_asg (pe_op uAdd (pv 3) (pe_lst (pa_cons (pe_op uAdd (pe_ix uIx (pe_lst (pa_cons pe_str (pa_cons pe_str pa_nil))) (pe_call (ok__law_draw T.l) (hr.mono (by decide)) (by rfl) T.l.g__law_draw T.l.F__law_draw.kp (b__law_draw T.l) .nil pass0 (pa_cons (pv 0) (pa_cons pe_int pa_nil))) (fun _ _ => rfl)) (pe_call (ok__law_name T.l) (hr.mono (by decide)) (by rfl) T.l.g__law_name T.l.F__law_name.kp (b__law_name T.l) .nil pass0 (pa_cons (pv 0) (pa_cons (pv 2) pa_nil)))) (pa_cons pe_str (pa_cons pe_str pa_nil))))) (pg_name (i := 3) sc__law_built.nd rfl (by first | exact Or.inl rfl | exact Or.inr rfl)))))
  (pss_cons (ps_for PassesOwn.never rfl (pi_range1 (by rfl) T.l.b_range (pa_cons (pe_dget (hu_of hr) (pv 1) pe_str (fun _ _ => rfl)) pa_nil)) (pg_name (i := 5) sc__law_built.nd rfl (by first | exact Or.inl rfl | exact Or.inr rfl))
   (pss_one (ps_asg (pe_op uAdd (pv 3) (pe_lst (pa_cons (pe_op uAdd pe_str (pe_call (ok__law_name T.l) (hr.mono (by decide)) (by rfl) T.l.g__law_name T.l.F__law_name.kp (b__law_name T.l) .nil pass0 (pa_cons (pv 0) (pa_cons (pv 2) pa_nil)))) (pa_cons pe_str pa_nil)))) (pg_name (i := 3) sc__law_built.nd rfl (by first | exact Or.inl rfl | exact Or.inr rfl)))))
  (pss_cons (ps_for PassesOwn.never rfl (pi_range1 (by rfl) T.l.b_range (pa_cons (pe_dget (hu_of hr) (pv 1) pe_str (fun _ _ => rfl)) pa_nil)) (pg_name (i := 5) sc__law_built.nd rfl (by first | exact Or.inl rfl | exact Or.inr rfl))
   (pss_one (ps_asg (pe_op uAdd (pv 3) (pe_lst (pa_cons (pe_op uAdd pe_str (pe_call (ok__law_name T.l) (hr.mono (by decide)) (by rfl) T.l.g__law_name T.l.F__law_name.kp (b__law_name T.l) .nil pass0 (pa_cons (pv 0) (pa_cons (pv 2) pa_nil)))) (pa_cons pe_str pa_nil)))) (pg_name (i := 3) sc__law_built.nd rfl (by first | exact Or.inl rfl | exact Or.inr rfl)))))
  (pss_cons (ps_asg (pe_op uAdd (pe_op uAdd (pe_dget (hu_of hr) (pv 1) pe_str (fun _ _ => rfl)) (pe_op uMul pe_int (pe_dget (hu_of hr) (pv 1) pe_str (fun _ _ => rfl)))) pe_int) (pg_name (i := 6) sc__law_built.nd rfl (by first | exact Or.inl rfl | exact Or.inr rfl)))
  (pss_cons (ps_asg (pe_call (ok__law_draw T.l) (hr.mono (by decide)) (by rfl) T.l.g__law_draw T.l.F__law_draw.kp (b__law_draw T.l) .nil pass0 (pa_cons (pv 0) (pa_cons pe_int pa_nil))) (pg_name (i := 7) sc__law_built.nd rfl (by first | exact Or.inl rfl | exact Or.inr rfl)))
  (pss_cons (ps_asg (pe_call (ok__law_deep T) (hr.mono (by decide)) (by rfl) T.g__law_deep T.F__law_deep.kp (b__law_deep T) .nil pass0 (pa_cons (pe_dget (hu_of hr) (pv 1) pe_str (fun _ _ => rfl)) (pa_cons (pv 7) (pa_cons (pe_ix uIx (pv 4) pe_int (fun _ _ => rfl)) pa_nil)))) (pg_name (i := 8) sc__law_built.nd rfl (by first | exact Or.inl rfl | exact Or.inr rfl)))
  (pss_cons (ps_asg (pe_lst pa_nil) (pg_name (i := 9) sc__law_built.nd rfl (by first | exact Or.inl rfl | exact Or.inr rfl)))
  (pss_cons (ps_for PassesOwn.never rfl (pi_range1 (by rfl) T.l.b_range (pa_cons (pe_dget (hu_of hr) (pv 1) pe_str (fun _ _ => rfl)) pa_nil)) (pg_name (i := 5) sc__law_built.nd rfl (by first | exact Or.inl rfl | exact Or.inr rfl))
   (pss_one (ps_expr (pe_bm PySem.F.plainAttrs_list PySem.F.slot_list_append PySem.F.type_list_append uAppend (pv 9) (pa_cons (pe_op uAdd pe_str (pe_callTy call_str_int (by rfl) T.l.k.b.x.b_str bt_str (pa_cons (pv 5) pa_nil))) pa_nil)))))
  (pss_cons (ps_asg (pe_op uAdd (pe_op uAdd (pe_slice uSl (pv 3) po_none (po_some (pv 6))) (pv 9)) (pe_slice uSl (pv 3) (po_some (pv 6)) po_none)) (pg_name (i := 3) sc__law_built.nd rfl (by first | exact Or.inl rfl | exact Or.inr rfl)))
  (pss_cons (ps_asg (pe_ix uIx (pe_lst (pa_cons (pv 6) (pa_cons (pv 6) (pa_cons (pe_op op_sub (pe_callB uLen (by rfl) T.l.k.b.x.b_len bt_len (pa_cons (pv 3) pa_nil)) pe_int) (pa_cons (pe_op uAdd (pe_dget (hu_of hr) (pv 1) pe_str (fun _ _ => rfl)) pe_int) pa_nil))))) (pv 7) (fun _ _ => rfl)) (pg_name (i := 10) sc__law_built.nd rfl (by first | exact Or.inl rfl | exact Or.inr rfl)))
  (pss_cons (ps_asg (pe_op uAdd (pe_op uAdd (pe_slice uSl (pv 3) po_none (po_some (pv 10))) (pv 8)) (pe_slice uSl (pv 3) (po_some (pv 10)) po_none)) (pg_name (i := 3) sc__law_built.nd rfl (by first | exact Or.inl rfl | exact Or.inr rfl)))
  (pss_cons (ps_asg (pe_op uAdd (pv 6) (pe_op uMul (pe_callB uLen (by rfl) T.l.k.b.x.b_len bt_len (pa_cons (pv 8) pa_nil)) (pe_callTy uInt (by rfl) T.l.k.b.x.b_int bt_int (pa_cons (pe_cmpR (uEq K hr.units) (pv 7) pe_int (nomark _)) pa_nil)))) (pg_name (i := 6) sc__law_built.nd rfl (by first | exact Or.inl rfl | exact Or.inr rfl)))
  (pss_one (ps_ret (pe_op uAdd (pe_op uAdd (pe_slice uSl (pv 3) po_none (po_some (pv 6))) (pe_op uMul (pe_lst (pa_cons pe_str pa_nil)) (pe_op op_sub (pe_dget (hu_of hr) (pv 1) pe_str (fun _ _ => rfl)) (pe_callB uLen (by rfl) T.l.k.b.x.b_len bt_len (pa_cons (pv 3) pa_nil))))) (pe_slice uSl (pv 3) (po_some (pv 6)) po_none)))))))))))))))))))), ?_⟩
    walk_at "rd"
    intro tl ntl
    walk_at "rd"
    intro ln nln
    walk_at "rd"
    intro ce nce
    have b0 : BI H (upd (upd (upd H tl (.lst [])) ln (.lst [])) ce (.lst [])) bl sl sz tl ln ce s [] [] [] := by
      have n1 : ln ≠ tl := by rintro rfl; rw [upd_same] at nln; cases nln
      have n2 : ce ≠ ln := by rintro rfl; rw [upd_same] at nce; cases nce
      have n3 : ce ≠ tl := by rintro rfl; rw [upd_ne (Ne.symm n1), upd_same] at nce; cases nce
      have f1 : H ln = none := by rw [upd_ne n1] at nln; exact nln
      have f2 : H ce = none := by rw [upd_ne n2, upd_ne n3] at nce; exact nce
      have sm : Same H (upd (upd (upd H tl (.lst [])) ln (.lst [])) ce (.lst [])) := ((Same.new ntl).trans (Same.new nln)).trans (Same.new nce)
      refine ⟨B.same sm, sm _ _ hsz, ?_, ?_, upd_same, .same sm, ntl, f1, f2, ?_, ⟨Ne.symm n1, Ne.symm n3, Ne.symm n2⟩⟩
      · rw [upd_ne (Ne.symm n3), upd_ne (Ne.symm n1)]; exact upd_same
      · rw [upd_ne (Ne.symm n2)]; exact upd_same
      · obtain ⟨_, _, _, _, _, g1, g2, _⟩ := B
        refine ⟨?_, ?_, ?_, ?_, ?_, ?_⟩ <;> rintro rfl
        · rw [ntl] at g1; cases g1
        · rw [ntl] at g2; cases g2
        · rw [f1] at g1; cases g1
        · rw [f1] at g2; cases g2
        · rw [f2] at g1; cases g1
        · rw [f2] at g2; cases g2
    generalize upd (upd (upd H tl (.lst [])) ln (.lst [])) ce (.lst []) = H3 at b0 ⊢
    have okc : 4 ≤ s.c ∧ s.c ≤ 5 := by have := ok.c; omega
    have oka : 3 ≤ s.a ∧ s.a ≤ 4 := by have := ok.a; omega
    have oke : 3 ≤ s.e ∧ s.e ≤ 4 := by have := ok.e; omega
    have okg : 3 ≤ s.g ∧ s.g ≤ 4 := by have := ok.g; omega
    have okd : 8 ≤ s.d ∧ s.d ≤ 9 := by have := ok.d; omega
    have okn : 4 ≤ s.n ∧ s.n ≤ 5 := by have := ok.n; omega
    have okl : 80 ≤ s.l ∧ s.l ≤ 81 := by have := ok.l; omega
    have e5 : (Str.ofString "cell ").length = 5 := by decide +kernel
    have e3 : (Str.ofString " = ").length = 3 := by decide +kernel
    have e5' : (Str.ofString "tell ").length = 5 := by decide +kernel
    have e7 : (Str.ofString "effect ").length = 7 := by decide +kernel
    have e8 : (Str.ofString "handler ").length = 8 := by decide +kernel
    walk_at "rd"
    refine s_wd rfl b0.S sz_c ?_
    walk_at "rd"
    refine s_forR (by omega) (by omega) (fun i σ H' => ∃ v5 v11 C, σ = [some (.ref bl), some (.ref sz), some (.ref tl), some (.ref ln), some (.ref ce), v5, none, none, none, none, none, v11] ∧ BI H H' bl sl sz tl ln ce s C (cellsT (s.n - 1) C) C ∧ C.length = i ∧ C.Nodup ∧ ∀ x ∈ C, isWord x = true)
      ⟨none, none, [], rfl, b0, rfl, .nil, fun x h => by cases h⟩ ?_ ?_
    · rintro i σ H' hi ⟨v5, v11, C, rfl, b, lc, nd, wc⟩
      walk_at "rd"
      refine ⟨bl, sl, tl, C, rfl, b.B, b.t, b.ne1.1, b.ne1.2.1, by omega, fun nm H2 wn nn B2 t2 f2 => ?_⟩
      have b2 := b.name f2 B2 t2
      have lnm := (word_low wn).2
      have hc2 := b2.c
      walk_at "rd"
      refine s_appS hc2 (by omega) ?_
      have b3 := b2.setC (C' := C ++ [nm])
      generalize upd H2 ce (.lst ((C ++ [nm]).map V.str)) = H4 at b3 ⊢
      have hl4 := b3.l
      walk_at "rd"
      refine s_addS (sz_le (by rw [e5]; omega)) ?_
      walk_at "rd"
      refine s_addS (sz_le (by rw [len_app, e5, e3]; omega)) ?_
      walk_at "rd"
      refine s_wd rfl b3.S sz_n ?_
      walk_at "rd"
      refine ⟨_, _, rfl, ?_⟩
      have em : (if ((s.n : Nat) : Int) - 1 > 1 then ((s.n : Nat) : Int) - 1 else 1) = ((s.n - 1 : Nat) : Int) := by rw [if_pos (by omega)]; omega
      rw [em]
      refine s_I (C := fun _ j => 0 < j) (by show (0 : Int) < ((s.n - 1 : Nat) : Int); omega) ?_
      have em2 : ((i : Nat) : Int) % ((s.n - 1 : Nat) : Int) = ((i % (s.n - 1) : Nat) : Int) := by omega
      rw [em2]
      have hlt : i % (s.n - 1) < 10 ^ 30 := Nat.lt_trans (Nat.mod_lt _ (by omega)) (by omega)
      refine ⟨_, rfl, log_num hlt, ?_⟩
      have eT : Str.ofString (toString ((i % (s.n - 1) : Nat) : Int)) = numT (i % (s.n - 1)) := rfl
      rw [eT]
      have ln40 := (numT_40 hlt).2
      refine s_addS (sz_le (by rw [len_app, len_app, e5, e3]; omega)) ?_
      walk_at "rd"
      refine s_appS hl4 (by rw [cellsT, List.length_mapIdx]; omega) ?_
      have ec : cellsT (s.n - 1) C ++ [Str.ofString "cell " ++ nm ++ Str.ofString " = " ++ numT (i % (s.n - 1))] = cellsT (s.n - 1) (C ++ [nm]) := by
        unfold cellsT
        rw [List.mapIdx_concat, lc]
        rfl
      rw [ec]
      refine ⟨_, _, C ++ [nm], rfl, b3.setL, by simp [lc], ?_, ?_⟩
      · rw [List.nodup_append]
        exact ⟨nd, by simp, fun a ha b hb => by rw [List.mem_singleton] at hb; subst hb; rintro rfl; exact nn ha⟩
      · intro x hx
        rcases List.mem_append.mp hx with h | h
        · exact wc x h
        · rw [List.mem_singleton.mp h]; exact wn
    rintro σ H1 ⟨v5, v11, C, rfl, b1, lc, nd1, wc⟩
    have ic : ((s.c : Nat) : Int).toNat = s.c := by omega
    rw [ic] at lc
    have hmem : ∀ {T : List Str} {x : Str}, T.Nodup → x ∉ T → (T ++ [x]).Nodup := fun {T x} nd hx => by
      rw [List.nodup_append]
      exact ⟨nd, by simp, fun a ha b hb => by rw [List.mem_singleton] at hb; subst hb; rintro rfl; exact hx ha⟩
    have hall : ∀ {T : List Str} {x : Str}, (∀ y ∈ T, isWord y = true) → isWord x = true → ∀ y ∈ T ++ [x], isWord y = true := fun h hx y hy => by
      rcases List.mem_append.mp hy with q | q
      · exact h y q
      · rw [List.mem_singleton.mp q]; exact hx
    have lcel : (cellsT (s.n - 1) C).length = s.c := by rw [cellsT, List.length_mapIdx, lc]
    walk_at "rd"
    refine s_wd rfl b1.S sz_a ?_
    walk_at "rd"
    refine s_forR (by omega) (by omega) (fun i σ H' => ∃ ln v5 v11 A, σ = [some (.ref bl), some (.ref sz), some (.ref tl), some (.ref ln), some (.ref ce), v5, none, none, none, none, none, v11] ∧ BI H H' bl sl sz tl ln ce s C (cellsT (s.n - 1) C ++ ansT A) (C ++ A.map (·.2)) ∧ A.length = i ∧ (C ++ A.map (·.2)).Nodup ∧ ∀ x ∈ C ++ A.map (·.2), isWord x = true)
      ⟨ln, v5, v11, [], rfl, by simpa [ansT] using b1, rfl, by simpa using nd1, by simpa using wc⟩ ?_ ?_
    · rintro i σ H' hi ⟨ln, v5, v11, A, rfl, b, la, nd, wa⟩
      have llen := ansT_len A
      walk_at "rd"
      intro q nq
      have b2 := b.same (Same.new (o := .lst [.str (Str.ofString "kept "), .str (Str.ofString "each ")]) nq)
      have hq2 : upd H' q (.lst [.str (Str.ofString "kept "), .str (Str.ofString "each ")]) q = some (.lst [.str (Str.ofString "kept "), .str (Str.ofString "each ")]) := upd_same
      generalize upd H' q (.lst [.str (Str.ofString "kept "), .str (Str.ofString "each ")]) = H2 at b2 hq2 ⊢
      have nqb : q ≠ bl := by rintro rfl; obtain ⟨_, _, _, _, _, g1, _⟩ := b.B; rw [nq] at g1; cases g1
      walk_at "rd"
      refine ⟨bl, sl, _, rfl, b2.B, by decide, by decide, fun d H4 d0 d1 B4 f4 => ?_⟩
      have b4 := b2.draw f4 B4
      have hq4 := f4 _ _ hq2 (by simpa using nqb)
      have hd : d = 0 ∨ d = 1 := by omega
      obtain ⟨kb, hkb⟩ : ∃ kb : Bool, atI [V.str (Str.ofString "kept "), .str (Str.ofString "each ")] d = some (.str (kTx kb)) := by
        rcases hd with rfl | rfl
        · exact ⟨true, rfl⟩
        · exact ⟨false, rfl⟩
      have lkb : (kTx kb).length = 5 := by cases kb <;> decide +kernel
      refine s_ixL hq4 hkb ?_
      walk_at "rd"
      refine ⟨bl, sl, tl, C ++ A.map (·.2), rfl, b4.B, b4.t, b4.ne1.1, b4.ne1.2.1, by simp; omega, fun nm H5 wn nn B5 t5 f5 => ?_⟩
      have b5 := b4.name f5 B5 t5
      have lnm := (word_low wn).2
      refine s_addS (sz_le (by rw [lkb]; omega)) ?_
      walk_at "rd"
      intro r nr
      have b6 := b5.same (Same.new (o := .lst [.str (kTx kb ++ nm), .str (Str.ofString "give 0"), .str (Str.ofString "end")]) nr)
      refine s_addL b6.l upd_same (sz_le (by simp; omega)) fun ln' nln' => ?_
      have b7 := b6.newL (L' := cellsT (s.n - 1) C ++ ansT (A ++ [(kb, nm)])) nln'
      have eL : (cellsT (s.n - 1) C ++ ansT A).map V.str ++ [.str (kTx kb ++ nm), .str (Str.ofString "give 0"), .str (Str.ofString "end")] = (cellsT (s.n - 1) C ++ ansT (A ++ [(kb, nm)])).map V.str := by simp [ansT]
      rw [eL]
      have eA : C ++ List.map (·.2) A ++ [nm] = C ++ (A ++ [(kb, nm)]).map (·.2) := by simp
      walk_at "rd"
      refine ⟨ln', _, _, A ++ [(kb, nm)], rfl, by rw [← eA]; exact b7, by simp [la], by rw [← eA]; exact hmem nd nn, by rw [← eA]; exact hall wa wn⟩
    rintro σ H1 ⟨ln, v5, v11, A, rfl, b1, la, nd1, wa⟩
    have ia : ((s.a : Nat) : Int).toNat = s.a := by omega
    rw [ia] at la
    have lans : (ansT A).length = 3 * s.a := by rw [ansT_len, la]
    walk_at "rd"
    refine s_wd rfl b1.S sz_e ?_
    walk_at "rd"
    refine s_forR (by omega) (by omega) (fun i σ H' => ∃ ln v5 v11 E, σ = [some (.ref bl), some (.ref sz), some (.ref tl), some (.ref ln), some (.ref ce), v5, none, none, none, none, none, v11] ∧ BI H H' bl sl sz tl ln ce s C (cellsT (s.n - 1) C ++ ansT A ++ effT E) (C ++ A.map (·.2) ++ E) ∧ E.length = i ∧ (C ++ A.map (·.2) ++ E).Nodup ∧ ∀ x ∈ C ++ A.map (·.2) ++ E, isWord x = true)
      ⟨ln, v5, v11, [], rfl, by simpa [effT] using b1, rfl, by simpa using nd1, by simpa using wa⟩ ?_ ?_
    · rintro i σ H' hi ⟨ln, v5, v11, E, rfl, b, le, nd, we⟩
      have llen := effT_len E
      walk_at "rd"
      refine ⟨bl, sl, tl, C ++ A.map (·.2) ++ E, rfl, b.B, b.t, b.ne1.1, b.ne1.2.1, by simp; omega, fun nm H5 wn nn B5 t5 f5 => ?_⟩
      have b5 := b.name f5 B5 t5
      have lnm := (word_low wn).2
      refine s_addS (sz_le (by rw [e7]; omega)) ?_
      walk_at "rd"
      intro r nr
      have b6 := b5.same (Same.new (o := .lst [.str (Str.ofString "effect " ++ nm), .str (Str.ofString "end")]) nr)
      refine s_addL b6.l upd_same (sz_le (by simp; omega)) fun ln' nln' => ?_
      have b7 := b6.newL (L' := cellsT (s.n - 1) C ++ ansT A ++ effT (E ++ [nm])) nln'
      have eL : (cellsT (s.n - 1) C ++ ansT A ++ effT E).map V.str ++ [.str (Str.ofString "effect " ++ nm), .str (Str.ofString "end")] = (cellsT (s.n - 1) C ++ ansT A ++ effT (E ++ [nm])).map V.str := by simp [effT]
      rw [eL]
      have eA : C ++ List.map (·.2) A ++ E ++ [nm] = C ++ A.map (·.2) ++ (E ++ [nm]) := by simp
      walk_at "rd"
      refine ⟨ln', _, _, E ++ [nm], rfl, by rw [← eA]; exact b7, by simp [le], by rw [← eA]; exact hmem nd nn, by rw [← eA]; exact hall we wn⟩
    rintro σ H1 ⟨ln, v5, v11, E, rfl, b1, le, nd1, we⟩
    have ie : ((s.e : Nat) : Int).toNat = s.e := by omega
    rw [ie] at le
    have leff : (effT E).length = 2 * s.e := by rw [effT_len, le]
    walk_at "rd"
    refine s_wd rfl b1.S sz_g ?_
    walk_at "rd"
    refine s_forR (by omega) (by omega) (fun i σ H' => ∃ ln v5 v11 G, σ = [some (.ref bl), some (.ref sz), some (.ref tl), some (.ref ln), some (.ref ce), v5, none, none, none, none, none, v11] ∧ BI H H' bl sl sz tl ln ce s C (base10 (s.n - 1) C A E G) (C ++ A.map (·.2) ++ E ++ G) ∧ G.length = i ∧ (C ++ A.map (·.2) ++ E ++ G).Nodup ∧ ∀ x ∈ C ++ A.map (·.2) ++ E ++ G, isWord x = true)
      ⟨ln, v5, v11, [], rfl, by simpa [base10, hanT] using b1, rfl, by simpa using nd1, by simpa using we⟩ ?_ ?_
    · rintro i σ H' hi ⟨ln, v5, v11, G, rfl, b, lg, nd, wg⟩
      have llen := hanT_len G
      walk_at "rd"
      refine ⟨bl, sl, tl, C ++ A.map (·.2) ++ E ++ G, rfl, b.B, b.t, b.ne1.1, b.ne1.2.1, by simp; omega, fun nm H5 wn nn B5 t5 f5 => ?_⟩
      have b5 := b.name f5 B5 t5
      have lnm := (word_low wn).2
      refine s_addS (sz_le (by rw [e8]; omega)) ?_
      walk_at "rd"
      intro r nr
      have b6 := b5.same (Same.new (o := .lst [.str (Str.ofString "handler " ++ nm), .str (Str.ofString "end")]) nr)
      refine s_addL b6.l upd_same (sz_le (by simp [base10]; omega)) fun ln' nln' => ?_
      have b7 := b6.newL (L' := base10 (s.n - 1) C A E (G ++ [nm])) nln'
      have eL : (base10 (s.n - 1) C A E G).map V.str ++ [.str (Str.ofString "handler " ++ nm), .str (Str.ofString "end")] = (base10 (s.n - 1) C A E (G ++ [nm])).map V.str := by simp [hanT, base10]
      rw [eL]
      have eA : C ++ List.map (·.2) A ++ E ++ G ++ [nm] = C ++ A.map (·.2) ++ E ++ (G ++ [nm]) := by simp
      walk_at "rd"
      refine ⟨ln', _, _, G ++ [nm], rfl, by rw [← eA]; exact b7, by simp [lg], by rw [← eA]; exact hmem nd nn, by rw [← eA]; exact hall wg wn⟩
    rintro σ H1 ⟨ln, v5, v11, G, rfl, b1, lg, nd1, wg⟩
    have ig : ((s.g : Nat) : Int).toNat = s.g := by omega
    rw [ig] at lg
    have lhan : (hanT G).length = 2 * s.g := by rw [hanT_len, lg]
    have DR : Dr s C A E G := ⟨lc, la, le, lg, nd1, wg⟩
    generalize hL0 : base10 (s.n - 1) C A E G = L0 at b1 k
    have k := k
    have l0 : L0.length = s.c + 3 * s.a + 2 * s.e + 2 * s.g := by
      rw [← hL0, base10, List.length_append, List.length_append, List.length_append, lcel, lans, leff, lhan]
    walk_at "rd"
    refine s_wd rfl b1.S sz_c ?_
    walk_at "rd"
    refine s_wd rfl b1.S sz_a ?_
    refine s_mulI (wide_mul (a := 2) (b := 3) (by omega) (by omega) (by decide) (by decide) (by decide)) ?_
    walk_at "rd"
    have eat : ((s.c : Nat) : Int) + 3 * ((s.a : Nat) : Int) + 1 = ((s.c + 3 * s.a + 1 : Nat) : Int) := by omega
    rw [eat]
    generalize hat : s.c + 3 * s.a + 1 = at_
    have hat2 : at_ ≤ L0.length := by omega
    have hc1 : s.c + 1 ≤ L0.length := by omega
    have bL0 : L0.length ≤ 400 := by omega
    have bn : s.n ≤ 10 := by omega
    have bd : 2 * s.d ≤ 30 := by omega
    have bl2 : L0.length + s.n + 2 * s.d ≤ s.l := by omega
    have bl3 : s.l ≤ 1000 := by omega
    walk_at "rd"
    refine ⟨bl, sl, _, rfl, b1.B, by decide, by decide, fun d H4 d0 d1 B4 f4 => ?_⟩
    have b4 := b1.draw f4 B4
    obtain ⟨wh, rfl⟩ : ∃ n : Nat, d = (n : Int) := ⟨d.toNat, by omega⟩
    have wh4 : wh < 4 := by omega
    walk_at "rd"
    refine s_wd rfl b4.S sz_d ?_
    walk_at "rd"
    obtain ⟨c0, C', hC⟩ : ∃ c C', C = c :: C' := by
      cases h : C with
      | nil => rw [h] at lc; simp at lc; omega
      | cons c C' => exact ⟨c, C', rfl⟩
    have wc0 : isWord c0 = true := wc c0 (by rw [hC]; simp)
    have hce := b4.c
    refine s_ixL hce (v := .str c0) (by rw [hC]; exact atI_0 _ _) ?_
    walk_at "rd"
    refine ⟨s.d, wh, c0, rfl, by omega, wh4, (word_low wc0).2.2.1, fun iv H5 s5 niv hiv => ?_⟩
    have b5 := b4.same s5
    walk_at "rd"
    intro mr nmr
    have b6 := b5.same (Same.new (o := .lst []) nmr)
    have hiv6 := Same.new (o := .lst []) nmr _ _ hiv
    have hmr6 : upd H5 mr (.lst []) mr = some (.lst (([] : List Str).map V.str)) := upd_same
    have nmriv : iv ≠ mr := by rintro rfl; rw [nmr] at hiv; cases hiv
    have nmrln : ln ≠ mr := by rintro rfl; have := b5.l; rw [nmr] at this; cases this
    have nmrbl : mr ≠ bl ∧ mr ≠ sl ∧ mr ≠ sz := by
      obtain ⟨_, _, _, _, _, g1, g2, _⟩ := b5.B
      refine ⟨?_, ?_, ?_⟩ <;> rintro rfl
      · rw [nmr] at g1; cases g1
      · rw [nmr] at g2; cases g2
      · have := b5.S; rw [nmr] at this; cases this
    have fmr : H mr = none := by
      cases e : H mr with
      | none => rfl
      | some o => have := b5.f _ _ e (by simpa using nmrbl.1); rw [nmr] at this; cases this
    generalize upd H5 mr (.lst []) = H6 at b6 hiv6 hmr6 ⊢
    walk_at "rd"
    refine s_wd rfl b6.S sz_n ?_
    walk_at "rd"
    refine s_forR (by omega) (by omega) (fun i σ H' => ∃ v5, σ = [some (.ref bl), some (.ref sz), some (.ref tl), some (.ref ln), some (.ref ce), v5, some (.int (at_ : Nat)), some (.int (wh : Nat)), some (.ref iv), some (.ref mr), none, v11] ∧ H' mr = some (.lst ((moreT i).map V.str)) ∧ H' ln = some (.lst (L0.map V.str)) ∧ H' iv = some (.lst ((deepL s.d wh c0).map V.str)) ∧ H' sz = some (.dK (szK s)) ∧ BagAt H' bl sl ∧ Fr H H' [bl])
      ⟨v5, rfl, hmr6, b6.l, hiv6, b6.S, b6.B, b6.f⟩ ?_ ?_
    · rintro i σ H' hi ⟨v5, rfl, hmr, hln, hiv, hsz', B', f'⟩
      walk_at "rd"
      have hi5 : i < 10 ^ 30 := Nat.lt_trans (show i < 6 by omega) (by decide)
      refine ⟨_, rfl, log_num hi5, ?_⟩
      have eT : Str.ofString (toString ((i : Nat) : Int)) = numT i := rfl
      rw [eT]
      have ln40 := (numT_40 hi5).2
      refine s_addS (sz_le (by rw [e5']; omega)) ?_
      walk_at "rd"
      have lm : (moreT i).length = i := by simp [moreT]
      refine s_appS hmr (by omega) ?_
      have em : moreT i ++ [Str.ofString "tell " ++ numT i] = moreT (i + 1) := by simp [moreT, List.range_succ]
      rw [em]
      refine ⟨_, rfl, upd_same, by rw [upd_ne nmrln]; exact hln, by rw [upd_ne nmriv]; exact hiv, by rw [upd_ne (Ne.symm nmrbl.2.2)]; exact hsz', ?_, fun x o h hn => ?_⟩
      · obtain ⟨n, xs, i, c, r, g1, g2, g3⟩ := B'
        exact ⟨n, xs, i, c, r, by rw [upd_ne (Ne.symm nmrbl.1)]; exact g1, by rw [upd_ne (Ne.symm nmrbl.2.1)]; exact g2, g3⟩
      · rw [upd_ne (by rintro rfl; rw [fmr] at h; cases h)]; exact f' x o h hn
    rintro σ H7 ⟨v5, rfl, hmr, hln, hiv, hsz7, B7, f7⟩
    have inn : ((s.n : Nat) : Int).toNat = s.n := by omega
    rw [inn] at hmr
    clear b6 b5 b4 b1 hiv6 hmr6 hce b0
    have lmore : (moreT s.n).length = s.n := by simp [moreT]
    have linn : (deepL s.d wh c0).length = 2 * s.d := by simp [deepL]; omega
    have hk : ∀ l H', H l = none → H' l = some (.lst ((built2 s wh at_ (L0.take at_ ++ moreT s.n ++ L0.drop at_) (deepL s.d wh c0)).map V.str)) → BagAt H' bl sl → Fr H H' [bl] → Q (.ref l) H' := fun l H' nl hl B' f' => by
      refine k l C A E G wh H' DR wh4 nl ?_ B' f'
      rw [hL0, hC]
      unfold built
      rw [hat]
      exact hl
    clear k
    generalize hLm : moreT s.n = M at hmr lmore hk
    generalize deepL s.d wh c0 = I at hiv linn hk
    have free7 : ∀ {x : Addr}, H7 x = none → H x = none := fun {x} n => by
      cases e : H x with
      | none => rfl
      | some o =>
        by_cases h : x = bl
        · obtain ⟨_, _, _, _, _, g1, _⟩ := B7
          rw [← h, n] at g1; cases g1
        · have := f7 _ _ e (by simpa using h)
          rw [n] at this; cases this
    walk_at "rd"
    refine s_slL hln fun p1 np1 => ?_
    rw [cutV_take L0 at_ hat2]
    have s8 : Same H7 (upd H7 p1 (.lst ((L0.take at_).map V.str))) := Same.new np1
    walk_at "rd"
    refine s_addL upd_same (s8 _ _ hmr) (szB 400 10 (tk_b bL0) (mp_b (by rw [lmore]; exact bn)) (by decide)) fun p2 np2 => ?_
    rw [← List.map_append]
    have s9 := s8.trans (Same.new (o := .lst ((L0.take at_ ++ M).map V.str)) np2)
    have hp2 : upd (upd H7 p1 (.lst ((L0.take at_).map V.str))) p2 (.lst ((L0.take at_ ++ M).map V.str)) p2 = some (.lst ((L0.take at_ ++ M).map V.str)) := upd_same
    generalize upd (upd H7 p1 (.lst ((L0.take at_).map V.str))) p2 (.lst ((L0.take at_ ++ M).map V.str)) = H9 at s9 hp2 ⊢
    clear s8
    walk_at "rd"
    refine s_slL (s9 _ _ hln) fun p3 np3 => ?_
    rw [cutV_drop L0 at_ hat2]
    have s10 := s9.trans (Same.new (o := .lst ((L0.drop at_).map V.str)) np3)
    refine s_addL (Same.new np3 _ _ hp2) upd_same (szB 410 400 (ap_b bL0 (by rw [lmore]; exact bn)) (dr_b bL0) (by decide)) fun p4 np4 => ?_
    rw [← List.map_append]
    have s11 := s10.trans (Same.new (o := .lst ((L0.take at_ ++ M ++ L0.drop at_).map V.str)) np4)
    have hp4 : upd (upd H9 p3 (.lst ((L0.drop at_).map V.str))) p4 (.lst ((L0.take at_ ++ M ++ L0.drop at_).map V.str)) p4 = some (.lst ((L0.take at_ ++ M ++ L0.drop at_).map V.str)) := upd_same
    generalize upd (upd H9 p3 (.lst ((L0.drop at_).map V.str))) p4 (.lst ((L0.take at_ ++ M ++ L0.drop at_).map V.str)) = H11 at s11 hp4 ⊢
    clear s10 s9 hp2
    have l1 : (L0.take at_ ++ M ++ L0.drop at_).length = L0.length + s.n := by rw [l_tda, lmore]
    generalize L0.take at_ ++ M ++ L0.drop at_ = L1 at hp4 hk l1 ⊢
    have hiv11 := s11 _ _ hiv
    have B11 := B7.same s11
    have hsz11 := s11 _ _ hsz7
    have f11 : Fr H H11 [bl] := fun x o h hn => s11 _ _ (f7 x o h hn)
    walk_at "rd"
    refine s_wd rfl hsz11 sz_c ?_
    walk_at "rd"
    intro p5 np5
    have s12 : Same H11 (upd H11 p5 (.lst [.int (at_ : Nat), .int (at_ : Nat), .int ((L1.map V.str).length - 1), .int ((s.c : Nat) + 1)])) := Same.new np5
    walk_at "rd"
    refine s_ixL upd_same (v := .int ((aiOf wh at_ L1.length s.c : Nat) : Int)) (by
      have e1 : (((L1.map V.str).length : Nat) : Int) - 1 = ((L1.length - 1 : Nat) : Int) := by rw [List.length_map]; exact sub1 (Nat.le_trans (Nat.le_trans (Nat.le_add_left 1 s.c) hc1) (by rw [l1]; exact Nat.le_add_right _ _))
      rw [e1]
      have hc : wh = 0 ∨ wh = 1 ∨ wh = 2 ∨ wh = 3 := by omega
      rcases hc with rfl | rfl | rfl | rfl <;> rfl) ?_
    have hai : aiOf wh at_ L1.length s.c ≤ L1.length := ai_le (Nat.le_trans hat2 (by rw [l1]; exact Nat.le_add_right _ _)) (Nat.le_trans hc1 (by rw [l1]; exact Nat.le_add_right _ _))
    unfold built2 at hk
    generalize aiOf wh at_ L1.length s.c = ai at hai hk ⊢
    walk_at "rd"
    refine s_slL (s12 _ _ hp4) fun p6 np6 => ?_
    rw [cutV_take L1 ai hai]
    have s13 := s12.trans (Same.new (o := .lst ((L1.take ai).map V.str)) np6)
    walk_at "rd"
    have bL1 : L1.length ≤ 410 := by rw [l1]; exact Nat.add_le_add bL0 bn
    have bI : I.length ≤ 30 := by rw [linn]; exact bd
    refine s_addL upd_same (s13 _ _ hiv11) (szB 410 30 (tk_b bL1) (mp_b bI) (by decide)) fun p7 np7 => ?_
    rw [← List.map_append]
    have s14 := s13.trans (Same.new (o := .lst ((L1.take ai ++ I).map V.str)) np7)
    have hp7 := (upd_same (H := upd (upd H11 p5 (.lst [.int (at_ : Nat), .int (at_ : Nat), .int ((L1.map V.str).length - 1), .int ((s.c : Nat) + 1)])) p6 (.lst ((L1.take ai).map V.str))) (a := p7) (o := .lst ((L1.take ai ++ I).map V.str)))
    walk_at "rd"
    refine s_slL (s14 _ _ hp4) fun p8 np8 => ?_
    rw [cutV_drop L1 ai hai]
    have s15 := s14.trans (Same.new (o := .lst ((L1.drop ai).map V.str)) np8)
    refine s_addL (Same.new np8 _ _ hp7) upd_same (szB 440 410 (ap_b bL1 bI) (dr_b bL1) (by decide)) fun p9 np9 => ?_
    rw [← List.map_append]
    have s16 := s15.trans (Same.new (o := .lst ((L1.take ai ++ I ++ L1.drop ai).map V.str)) np9)
    have l2 : (L1.take ai ++ I ++ L1.drop ai).length = L1.length + 2 * s.d := by rw [l_tda, linn]
    generalize L1.take ai ++ I ++ L1.drop ai = L2 at hk l2 s16 ⊢
    have hp9 : upd (upd (upd (upd (upd H11 p5 (.lst [.int (at_ : Nat), .int (at_ : Nat), .int ((L1.map V.str).length - 1), .int ((s.c : Nat) + 1)])) p6 (.lst ((L1.take ai).map V.str))) p7 (.lst ((L1.take ai ++ I).map V.str))) p8 (.lst ((L1.drop ai).map V.str))) p9 (.lst (L2.map V.str)) p9 = some (.lst (L2.map V.str)) := upd_same
    generalize upd (upd (upd (upd (upd H11 p5 (.lst [.int (at_ : Nat), .int (at_ : Nat), .int ((L1.map V.str).length - 1), .int ((s.c : Nat) + 1)])) p6 (.lst ((L1.take ai).map V.str))) p7 (.lst ((L1.take ai ++ I).map V.str))) p8 (.lst ((L1.drop ai).map V.str))) p9 (.lst (L2.map V.str)) = H16 at s16 hp9 ⊢
    clear s12 s13 s14 s15 hp7
    have hiv16 := s16 _ _ hiv11
    have B16 := B11.same s16
    have hsz16 := s16 _ _ hsz11
    have f16 : Fr H H16 [bl] := fun x o h hn => s16 _ _ (f11 x o h hn)
    walk_at "rd"
    refine s_mulI (wide_mul (a := 5) (b := 1) (by simp; omega) (by split <;> decide) (by decide) (by decide) (by decide)) ?_
    have eat2 : ((at_ : Nat) : Int) + (((I.map V.str).length : Nat) : Int) * (if decide (V.int ((wh : Nat) : Int) = V.int 3) = true then (1 : Int) else 0) = ((at_ + I.length * (if wh = 3 then 1 else 0) : Nat) : Int) := by
      rw [List.length_map]
      by_cases h3 : wh = 3
      · subst h3; simp
      · have : ¬ V.int ((wh : Nat) : Int) = V.int 3 := by intro q; injection q with q; omega
        simp [h3, this]
    walk_at "rd"
    rw [eat2]
    have hat3 : at_ + I.length * (if wh = 3 then 1 else 0) ≤ L2.length := at3_le (by rw [l2, l1, linn]; exact Nat.add_le_add (Nat.le_trans hat2 (Nat.le_add_right _ _)) (Nat.le_refl _))
    generalize at_ + I.length * (if wh = 3 then 1 else 0) = at2 at hk hat3 ⊢
    refine s_slL hp9 fun q1 nq1 => ?_
    rw [cutV_take L2 at2 hat3]
    have s17 : Same H16 (upd H16 q1 (.lst ((L2.take at2).map V.str))) := Same.new nq1
    have hq1 : upd H16 q1 (.lst ((L2.take at2).map V.str)) q1 = some (.lst ((L2.take at2).map V.str)) := upd_same
    generalize upd H16 q1 (.lst ((L2.take at2).map V.str)) = H17 at s17 hq1 ⊢
    walk_at "rd"
    intro q2 nq2
    have s18 := s17.trans (Same.new (o := .lst [.str (Str.ofString "tell 0")]) nq2)
    have hq12 := Same.new (o := .lst [.str (Str.ofString "tell 0")]) nq2 _ _ hq1
    have hq2 : upd H17 q2 (.lst [.str (Str.ofString "tell 0")]) q2 = some (.lst [.str (Str.ofString "tell 0")]) := upd_same
    generalize upd H17 q2 (.lst [.str (Str.ofString "tell 0")]) = H18 at s18 hq12 hq2 ⊢
    have hp918 := s18 _ _ hp9
    walk_at "rd"
    refine s_wd rfl (s18 _ _ hsz16) sz_l ?_
    walk_at "rd"
    have epad : ((s.l : Nat) : Int) - (((L2.map V.str).length : Nat) : Int) = ((s.l - L2.length : Nat) : Int) := by rw [List.length_map]; exact pad_eq (by rw [l2, l1]; exact bl2)
    rw [epad]
    have bL2 : L2.length ≤ 440 := by rw [l2]; exact Nat.add_le_add bL1 bd
    have bR : (List.replicate (s.l - L2.length) (Str.ofString "tell 0")).length ≤ 1000 := by rw [List.length_replicate]; exact sub_b bl3
    refine s_mulL hq2 (by omega) (by omega) (sz_le (by simp; omega)) fun q3 nq3 => ?_
    have e1 : (List.replicate ((s.l - L2.length : Nat) : Int).toNat [V.str (Str.ofString "tell 0")]).flatten = (List.replicate (s.l - L2.length) (Str.ofString "tell 0")).map V.str := by rw [rep_flat, rep_map]; rfl
    rw [e1]
    have s19 := s18.trans (Same.new (o := .lst ((List.replicate (s.l - L2.length) (Str.ofString "tell 0")).map V.str)) nq3)
    refine s_addL (Same.new nq3 _ _ hq12) upd_same (szB 440 1000 (tk_b bL2) (mp_b bR) (by decide)) fun q4 nq4 => ?_
    rw [← List.map_append]
    have s20 := s19.trans (Same.new (o := .lst ((L2.take at2 ++ List.replicate (s.l - L2.length) (Str.ofString "tell 0")).map V.str)) nq4)
    have hq4 : upd (upd H18 q3 (.lst ((List.replicate (s.l - L2.length) (Str.ofString "tell 0")).map V.str))) q4 (.lst ((L2.take at2 ++ List.replicate (s.l - L2.length) (Str.ofString "tell 0")).map V.str)) q4 = some (.lst ((L2.take at2 ++ List.replicate (s.l - L2.length) (Str.ofString "tell 0")).map V.str)) := upd_same
    generalize upd (upd H18 q3 (.lst ((List.replicate (s.l - L2.length) (Str.ofString "tell 0")).map V.str))) q4 (.lst ((L2.take at2 ++ List.replicate (s.l - L2.length) (Str.ofString "tell 0")).map V.str)) = H20 at s20 hq4 ⊢
    walk_at "rd"
    refine s_slL (s20 _ _ hp9) fun q5 nq5 => ?_
    rw [cutV_drop L2 at2 hat3]
    have s21 := s20.trans (Same.new (o := .lst ((L2.drop at2).map V.str)) nq5)
    refine s_addL (Same.new nq5 _ _ hq4) upd_same (szB 1440 440 (ap_b bL2 bR) (dr_b bL2) (by decide)) fun q6 nq6 => ?_
    rw [← List.map_append]
    have s22 := s21.trans (Same.new (o := .lst ((L2.take at2 ++ List.replicate (s.l - L2.length) (Str.ofString "tell 0") ++ L2.drop at2).map V.str)) nq6)
    exact hk q6 _ (free7 (s11.free (s16.free (s21.free nq6)))) upd_same (B16.same s22) (fun x o h hn => s22 _ _ (f16 x o h hn))
theorem b__law_built (T : Tv K mg a fd tk) : Binds K (fd 82) ["_law_bag_here", "_law_sizes"] [] := T.F__law_built.binds fun _ _ _ _ _ _ us hl => match us, hl with | [_, _], _ => rfl
end
end Tr
set_option maxHeartbeats 2000000
namespace Tr
open PySem L2
def takesB (b : Bd) : List (List Str) → Option Bd
  | [] => some b
  | w :: ws => (takeB b w).bind fun b' => takesB b' ws
theorem takesB_app (ws ws' : List (List Str)) : ∀ b : Bd, takesB b (ws ++ ws') = (takesB b ws).bind fun b' => takesB b' ws' := by
  induction ws with
  | nil => intro b; rfl
  | cons w ws ih =>
    intro b
    show (takeB b w).bind (fun b' => takesB b' (ws ++ ws')) = ((takeB b w).bind fun b' => takesB b' ws).bind fun b' => takesB b' ws'
    cases takeB b w with
    | none => rfl
    | some b' => exact ih b'
/-- what a body is about -/
structure Env0 where
  kind : Str
  cells : List Str
  readable : List Str
/-- a body of this kind, not closed, with this scope, d blocks open -/
structure In0 (E : Env0) (sc : List Str) (d : Nat) (b : Bd) : Prop where
  k : b.kind = E.kind
  c : b.cells = E.cells
  r : b.readable = E.readable
  s : b.scope = sc
  n : b.blocks.length = d
  o : b.closed = false
  p : b.deepest ≤ 8
/-- the lines ws can stand in such a body; behind them the scope is sc' -/
def Acc (E : Env0) (sc : List Str) (d : Nat) (ws : List (List Str)) (sc' : List Str) : Prop :=
  (∃ more, sc' = sc ++ more) ∧ ∀ b, In0 E sc d b → ∃ b', takesB b ws = some b' ∧ In0 E sc' d b' ∧ b'.blocks = b.blocks ∧ b'.code.length = b.code.length + ws.length
theorem Acc.nil {E : Env0} {sc : List Str} {d : Nat} : Acc E sc d [] sc := ⟨⟨[], by simp⟩, fun b h => ⟨b, rfl, h, rfl, rfl⟩⟩
theorem Acc.app {E : Env0} {sc sc' sc'' : List Str} {d : Nat} {ws ws' : List (List Str)} (h : Acc E sc d ws sc') (h' : Acc E sc' d ws' sc'') : Acc E sc d (ws ++ ws') sc'' := by
  obtain ⟨⟨m, e⟩, h⟩ := h
  obtain ⟨⟨m', e'⟩, h'⟩ := h'
  refine ⟨⟨m ++ m', by rw [e', e, List.append_assoc]⟩, fun b hb => ?_⟩
  obtain ⟨b1, t1, i1, k1, c1⟩ := h b hb
  obtain ⟨b2, t2, i2, k2, c2⟩ := h' b1 i1
  exact ⟨b2, by rw [takesB_app, t1]; exact t2, i2, by rw [k2, k1], by rw [c2, c1, List.length_append]; omega⟩
/-- one line that opens nothing -/
theorem Acc.one {E : Env0} {sc sc' : List Str} {d : Nat} {w : List Str} {h0 : Str} (hs : ∃ more, sc' = sc ++ more) (h : ∀ b, In0 E sc d b → takeB b w = some { b with scope := sc', code := b.code ++ [h0] }) : Acc E sc d [w] sc' :=
  ⟨hs, fun b hb => ⟨{ b with scope := sc', code := b.code ++ [h0] }, by show (takeB b w).bind _ = _; rw [h b hb]; rfl, ⟨hb.k, hb.c, hb.r, rfl, hb.n, hb.o, hb.p⟩, rfl, by simp⟩⟩
/-- an expression that can stand -/
def ExOk (E : Env0) (sc : List Str) (we : List Str) : Prop := ∃ e, exprOf we sc E.readable = some e
section
variable {E : Env0} {sc : List Str} {d : Nat} {we we' : List Str} {x : Str}
theorem acc_let (hx : isWord x = true) (hr : x ∉ E.readable) (he : ExOk E sc we) (hn : we ≠ []) : Acc E sc d [Str.ofString "let" :: x :: Str.ofString "=" :: we] (if sc.contains x then sc else sc ++ [x]) := by
  refine Acc.one (h0 := Str.ofString "let") (by split; exact ⟨[], by simp⟩; exact ⟨[x], rfl⟩) fun b hb => ?_
  obtain ⟨e, he⟩ := he
  obtain ⟨y, l, rfl⟩ : ∃ y l, we = y :: l := by
    cases we with
    | nil => exact absurd rfl hn
    | cons y l => exact ⟨y, l, rfl⟩
  have h1 : exprOf (y :: l) b.scope b.readable = some e := by rw [hb.s, hb.r]; exact he
  have h2 : ¬ (isWord x = false ∨ b.readable.contains x = true) := by rw [hb.r]; simp [hx, hr]
  have ha : assignB b (Str.ofString "let" :: x :: Str.ofString "=" :: y :: l) = some (Str.ofString "let", { b with scope := if b.scope.contains x then b.scope else b.scope ++ [x] }) := by
    simp only [assignB]
    rw [if_neg (by simp), h1]
    simp only [ofString_inj]
    rw [if_neg (by decide), if_neg h2]
  have hen : entryB b (Str.ofString "let" :: x :: Str.ofString "=" :: y :: l) = assignB b (Str.ofString "let" :: x :: Str.ofString "=" :: y :: l) := by simp [entryB]
  unfold takeB
  rw [hen, ha, ← hb.s]
  rfl
theorem acc_set (hx : x ∈ E.cells) (hk : E.kind ≠ Str.ofString "answer") (he : ExOk E sc we) (hn : we ≠ []) : Acc E sc d [Str.ofString "set" :: x :: Str.ofString "=" :: we] sc := by
  refine Acc.one (h0 := Str.ofString "set") ⟨[], by simp⟩ fun b hb => ?_
  obtain ⟨e, he⟩ := he
  obtain ⟨y, l, rfl⟩ : ∃ y l, we = y :: l := by
    cases we with
    | nil => exact absurd rfl hn
    | cons y l => exact ⟨y, l, rfl⟩
  have h1 : exprOf (y :: l) b.scope b.readable = some e := by rw [hb.s, hb.r]; exact he
  have h2 : b.kind ≠ Str.ofString "answer" := by rw [hb.k]; exact hk
  have h3 : x ∈ b.cells := by rw [hb.c]; exact hx
  have ha : assignB b (Str.ofString "set" :: x :: Str.ofString "=" :: y :: l) = some (Str.ofString "set", b) := by
    simp only [assignB]
    rw [if_neg (by simp), h1]
    simp only [ofString_inj]
    rw [if_pos trivial, if_neg (by simp [h2, h3])]
  have hen : entryB b (Str.ofString "set" :: x :: Str.ofString "=" :: y :: l) = assignB b (Str.ofString "set" :: x :: Str.ofString "=" :: y :: l) := by simp [entryB]
  unfold takeB
  rw [hen, ha, ← hb.s]
  rfl
theorem acc_note (hx : x ∈ E.readable) (hk : E.kind ≠ Str.ofString "handler") : Acc E sc d [[Str.ofString "note", x]] sc := by
  refine Acc.one (h0 := Str.ofString "note") ⟨[], by simp⟩ fun b hb => ?_
  have h2 : b.kind ≠ Str.ofString "handler" := by rw [hb.k]; exact hk
  have h3 : x ∈ b.readable := by rw [hb.r]; exact hx
  simp [takeB, entryB, singleB, h2, h3, ofString_inj]
  rw [← hb.s]
theorem acc_tell (hk : E.kind = Str.ofString "effect") (he : ExOk E sc we) : Acc E sc d [Str.ofString "tell" :: we] sc := by
  refine Acc.one (h0 := Str.ofString "tell") ⟨[], by simp⟩ fun b hb => ?_
  obtain ⟨e, he⟩ := he
  have h1 : exprOf we b.scope b.readable = some e := by rw [hb.s, hb.r]; exact he
  have h2 : b.kind = Str.ofString "effect" := by rw [hb.k]; exact hk
  simp [takeB, entryB, singleB, h1, h2, ofString_inj]
  rw [← hb.s]
theorem acc_give (hk : E.kind = Str.ofString "answer") (he : ExOk E sc we) : Acc E sc d [Str.ofString "give" :: we] sc := by
  refine Acc.one (h0 := Str.ofString "give") ⟨[], by simp⟩ fun b hb => ?_
  obtain ⟨e, he⟩ := he
  have h1 : exprOf we b.scope b.readable = some e := by rw [hb.s, hb.r]; exact he
  have h2 : b.kind = Str.ofString "answer" := by rw [hb.k]; exact hk
  simp [takeB, entryB, singleB, h1, h2, ofString_inj]
  rw [← hb.s]
theorem acc_wait (hk : E.kind = Str.ofString "effect") : Acc E sc d [[Str.ofString "wait"]] sc := by
  refine Acc.one (h0 := Str.ofString "wait") ⟨[], by simp⟩ fun b hb => ?_
  have h2 : b.kind = Str.ofString "effect" := by rw [hb.k]; exact hk
  simp [takeB, entryB, h2, ofString_inj]
  rw [← hb.s]
/-- what stands in a block -/
theorem open_in {b : Bd} {w0 : Str} (hb : In0 E sc d b) (hd : d < 8) : In0 E sc (d + 1) { b with blocks := b.blocks ++ [(w0, b.code.length, b.scope.length)], deepest := max b.deepest (b.blocks.length + 1), code := b.code ++ [w0] } :=
  ⟨hb.k, hb.c, hb.r, hb.s, by simp [hb.n], hb.o, by have := hb.p; have := hb.n; show max b.deepest (b.blocks.length + 1) ≤ 8; omega⟩
/-- the end of a block of another kind than if .. else -/
theorem end_in {b : Bd} {bl : List (Str × Nat × Nat)} {w0 : Str} {st : Nat} {more : List Str} (hb : In0 E (sc ++ more) (d + 1) b) (hl : b.blocks = bl ++ [(w0, st, sc.length)]) :
    ∃ b', takeB b [Str.ofString "end"] = some b' ∧ In0 E sc d b' ∧ b'.blocks = bl ∧ b'.code.length = b.code.length + 1 := by
  have hn := hb.n
  rw [hl, List.length_append] at hn
  refine ⟨{ b with scope := sc, blocks := bl, code := b.code ++ [if w0 = Str.ofString "batch" then Str.ofString "close" else Str.ofString "end"] }, ?_, ⟨hb.k, hb.c, hb.r, rfl, by simpa using hn, hb.o, hb.p⟩, rfl, by simp⟩
  have hs : b.scope.take sc.length = sc := by rw [hb.s]; simp
  simp [takeB, entryB, turnB, hl, hs, ofString_inj]
theorem acc_blk {w0 : String} {ws : List (List Str)} {sc' : List Str} (h0 : (w0 = "quiet" ∧ E.kind ≠ Str.ofString "handler") ∨ (w0 = "batch" ∧ E.kind = Str.ofString "handler")) (hd : d < 8) (h : Acc E sc (d + 1) ws sc') : Acc E sc d ([Str.ofString w0] :: (ws ++ [[Str.ofString "end"]])) sc := by
  refine ⟨⟨[], by simp⟩, fun b hb => ?_⟩
  have ho : takeB b [Str.ofString w0] = some { b with blocks := b.blocks ++ [(Str.ofString w0, b.code.length, b.scope.length)], deepest := max b.deepest (b.blocks.length + 1), code := b.code ++ [Str.ofString w0] } := by
    rcases h0 with ⟨rfl, hk⟩ | ⟨rfl, hk⟩
    · have hk' : b.kind ≠ Str.ofString "handler" := by rw [hb.k]; exact hk
      simp [takeB, entryB, openB, ofString_inj, hk']
    · have hk' : b.kind = Str.ofString "handler" := by rw [hb.k]; exact hk
      simp [takeB, entryB, openB, ofString_inj, hk']
  obtain ⟨⟨more, e⟩, h⟩ := h
  subst e
  obtain ⟨b2, t2, i2, k2, c2⟩ := h _ (open_in (w0 := Str.ofString w0) hb hd)
  obtain ⟨b3, t3, i3, k3, c3⟩ := end_in (bl := b.blocks) i2 (by rw [k2, hb.s])
  refine ⟨b3, ?_, i3, k3, ?_⟩
  · show (takeB b [Str.ofString w0]).bind _ = _
    rw [ho]
    show takesB _ (ws ++ [[Str.ofString "end"]]) = _
    rw [takesB_app, t2]
    show (takeB b2 [Str.ofString "end"]).bind _ = _
    rw [t3]
    rfl
  · rw [c3, c2]; simp; omega
/-- words without a sign -/
def NoSign (we : List Str) : Prop := ∀ x ∈ we, x ≠ Str.ofString "==" ∧ x ≠ Str.ofString "!="
theorem signAt_ns {A B : List Str} {s : Str} (hA : NoSign A) (hs : s = Str.ofString "==" ∨ s = Str.ofString "!=") : signAt (A ++ s :: B) = some A.length := by
  induction A with
  | nil => simp [signAt, hs]
  | cons x l ih =>
    have hx := hA x (by simp)
    rw [List.cons_append]
    simp only [signAt, hx.1, hx.2, or_self, if_false]
    rw [ih fun y hy => hA y (by simp [hy])]
    rfl
theorem if_open {b : Bd} {s : Str} (hb : In0 E sc d b) (he : ExOk E sc we) (he' : ExOk E sc we') (hA : NoSign we) (hs : s = Str.ofString "==" ∨ s = Str.ofString "!=") :
    takeB b (Str.ofString "if" :: (we ++ s :: we')) = some { b with blocks := b.blocks ++ [(Str.ofString "if", b.code.length, b.scope.length)], deepest := max b.deepest (b.blocks.length + 1), code := b.code ++ [Str.ofString "if"] } := by
  obtain ⟨e, he⟩ := he
  obtain ⟨e', he'⟩ := he'
  have hc : ∃ x, compOf (we ++ s :: we') b.scope b.readable = some x := by
    unfold compOf
    rw [signAt_ns hA hs]
    have e1 : (we ++ s :: we').take we.length = we := by simp
    have e2 : (we ++ s :: we').drop (we.length + 1) = we' := by simp [List.drop_append]
    simp only [e1, e2, hb.s, hb.r, he, he']
    exact ⟨_, rfl⟩
  obtain ⟨x, hx⟩ := hc
  simp [takeB, entryB, openB, ofString_inj, hx]
theorem acc_if {s : Str} {ws : List (List Str)} {sc' : List Str} (he : ExOk E sc we) (he' : ExOk E sc we') (hA : NoSign we) (hs : s = Str.ofString "==" ∨ s = Str.ofString "!=") (hd : d < 8) (h : Acc E sc (d + 1) ws sc') :
    Acc E sc d ((Str.ofString "if" :: (we ++ s :: we')) :: (ws ++ [[Str.ofString "end"]])) sc := by
  refine ⟨⟨[], by simp⟩, fun b hb => ?_⟩
  obtain ⟨⟨more, e⟩, h⟩ := h
  subst e
  obtain ⟨b2, t2, i2, k2, c2⟩ := h _ (open_in (w0 := Str.ofString "if") hb hd)
  obtain ⟨b3, t3, i3, k3, c3⟩ := end_in (bl := b.blocks) i2 (by rw [k2, hb.s])
  refine ⟨b3, ?_, i3, k3, ?_⟩
  · show (takeB b _).bind _ = _
    rw [if_open hb he he' hA hs]
    show takesB _ (ws ++ [[Str.ofString "end"]]) = _
    rw [takesB_app, t2]
    show (takeB b2 [Str.ofString "end"]).bind _ = _
    rw [t3]
    rfl
  · rw [c3, c2]; simp; omega
theorem acc_ifelse {s : Str} {ws ws2 : List (List Str)} {sc' sc2 : List Str} (he : ExOk E sc we) (he' : ExOk E sc we') (hA : NoSign we) (hs : s = Str.ofString "==" ∨ s = Str.ofString "!=") (hd : d < 8) (h : Acc E sc (d + 1) ws sc') (h2 : Acc E sc (d + 1) ws2 sc2) :
    Acc E sc d ((Str.ofString "if" :: (we ++ s :: we')) :: (ws ++ [Str.ofString "else"] :: (ws2 ++ [[Str.ofString "end"]]))) sc := by
  refine ⟨⟨[], by simp⟩, fun b hb => ?_⟩
  obtain ⟨⟨more, e⟩, h⟩ := h
  obtain ⟨⟨more2, e2⟩, h2⟩ := h2
  subst e e2
  obtain ⟨b2, t2, i2, k2, c2⟩ := h _ (open_in (w0 := Str.ofString "if") hb hd)
  have k2' : b2.blocks = b.blocks ++ [(Str.ofString "if", b.code.length, sc.length)] := by rw [k2, hb.s]
  have hse : b2.scope.take sc.length = sc := by rw [i2.s]; simp
  have hel : takeB b2 [Str.ofString "else"] = some { b2 with scope := sc, blocks := b.blocks ++ [(Str.ofString "else", b2.code.length, sc.length)], code := b2.code ++ [Str.ofString "else"] } := by
    simp [takeB, entryB, turnB, k2', hse, ofString_inj]
  have i3 : In0 E sc (d + 1) { b2 with scope := sc, blocks := b.blocks ++ [(Str.ofString "else", b2.code.length, sc.length)], code := b2.code ++ [Str.ofString "else"] } := ⟨i2.k, i2.c, i2.r, rfl, by simp [hb.n], i2.o, i2.p⟩
  obtain ⟨b4, t4, i4, k4, c4⟩ := h2 _ i3
  obtain ⟨b5, t5, i5, k5, c5⟩ := end_in (bl := b.blocks) i4 k4
  refine ⟨b5, ?_, i5, k5, ?_⟩
  · show (takeB b _).bind _ = _
    rw [if_open hb he he' hA hs]
    show takesB _ (ws ++ [Str.ofString "else"] :: (ws2 ++ [[Str.ofString "end"]])) = _
    rw [takesB_app, t2]
    show (takeB b2 [Str.ofString "else"]).bind _ = _
    rw [hel]
    show takesB _ (ws2 ++ [[Str.ofString "end"]]) = _
    rw [takesB_app, t4]
    show (takeB b4 [Str.ofString "end"]).bind _ = _
    rw [t5]
    rfl
  · rw [c5, c4]
    have c2' : b2.code.length = b.code.length + 1 + ws.length := by rw [c2]; simp
    simp
    omega
end
end Tr
set_option maxHeartbeats 2000000
namespace Tr
open PySem L2
def cellWs (x : Str × Nat) : List Str := [Str.ofString "cell", x.1, Str.ofString "=", numT x.2]
def reach (c : Co) (A : List (List Str)) (c' : Co) : Prop := ∀ i, readC c A i = .inr c'
theorem reach_nil (c : Co) : reach c [] c := fun _ => rfl
theorem reach_cons {c c1 c' : Co} {w : List Str} {ws : List (List Str)} (h : takeC c w = some c1) (r : reach c1 ws c') : reach c (w :: ws) c' := fun i => by
  show (match takeC c w with | none => Sum.inl i | some c' => readC c' ws (i + 1)) = _
  rw [h]
  exact r (i + 1)
theorem readC_app (B : List (List Str)) : ∀ (A : List (List Str)) (c c' : Co) (i : Nat), readC c A i = .inr c' → readC c (A ++ B) i = readC c' B (i + A.length)
  | [], c, c', i, h => by
    have : c = c' := by simpa [readC] using h
    subst this
    rfl
  | w :: A, c, c', i, h => by
    have h : (match takeC c w with | none => Sum.inl i | some c' => readC c' A (i + 1)) = .inr c' := h
    show (match takeC c w with | none => Sum.inl i | some c' => readC c' (A ++ B) (i + 1)) = _
    cases e : takeC c w with
    | none => rw [e] at h; cases h
    | some c1 =>
      rw [e] at h
      have h : readC c1 A (i + 1) = .inr c' := h
      show readC c1 (A ++ B) (i + 1) = _
      rw [readC_app B A c1 c' (i + 1) h, List.length_cons]
      congr 1
      omega
theorem reach_app {c c1 c' : Co} {A B : List (List Str)} (h : reach c A c1) (r : reach c1 B c') : reach c (A ++ B) c' := fun i => by
  rw [readC_app B A c c1 i (h i)]
  exact r _
theorem reach_one {c c1 : Co} {w : List Str} (h : takeC c w = some c1) : reach c [w] c1 := reach_cons h (reach_nil _)
/-- a closed body stays closed -/
theorem closeB_closed {b b' : Bd} {w : Str} (h : closeB b = some (w, b')) : b'.closed = true := by
  unfold closeB at h
  split at h
  · cases h
  · cases h; rfl
theorem entryB_closed {b b' : Bd} {ws : List Str} {w : Str} (hc : b.closed = true) (h : entryB b ws = some (w, b')) : b'.closed = true := by
  match ws, h with
  | w0 :: l, h =>
    simp only [entryB] at h
    split at h
    · unfold assignB at h
      split at h
      · split at h
        · cases h
        split at h
        · cases h
        split at h
        · split at h
          · cases h
          · cases h; exact hc
        split at h
        · cases h
        · cases h; exact hc
      · cases h
    split at h
    · unfold singleB at h
      repeat' (split at h)
      all_goals first | (cases h; done) | (cases h; exact hc)
    split at h
    · unfold openB at h
      repeat' (split at h)
      all_goals first | (cases h; done) | (cases h; exact hc)
    split at h
    · split at h
      · cases h; exact hc
      · cases h
    split at h
    · unfold turnB at h
      split at h
      · split at h
        · split at h
          · exact closeB_closed h
          · cases h
        split at h
        · split at h
          · cases h; exact hc
          · cases h
        · cases h; exact hc
      · cases h
    · cases h
theorem takeB_closed {b b' : Bd} {ws : List Str} (hc : b.closed = true) (h : takeB b ws = some b') : b'.closed = true := by
  unfold takeB at h
  cases e : entryB b ws with
  | none => rw [e] at h; cases h
  | some x =>
    rw [e] at h
    have h : { x.2 with code := x.2.code ++ [x.1] } = b' := Option.some.inj h
    rw [← h]
    show x.2.closed = true
    exact entryB_closed (w := x.1) (b' := x.2) hc e
theorem takesB_closed : ∀ {ws : List (List Str)} {b b' : Bd}, b.closed = true → takesB b ws = some b' → b'.closed = true
  | [], b, b', hc, h => by
    have h : b = b' := Option.some.inj h
    rw [← h]; exact hc
  | w :: ws, b, b', hc, h => by
    have h : (takeB b w).bind (fun b' => takesB b' ws) = some b' := h
    cases e : takeB b w with
    | none => rw [e] at h; cases h
    | some b1 => rw [e] at h; exact takesB_closed (takeB_closed hc e) h
theorem takeB_nil (b : Bd) : takeB b [] = none := rfl
theorem takeC_body {C A E G : List Str} {b b1 : Bd} {d : Nat} {w : List Str} (h : takeB b w = some b1) (hc : b1.closed = false) : takeC ⟨C, A, E, G, some b, d⟩ w = some ⟨C, A, E, G, some b1, d⟩ := by
  have hw : w ≠ [] := by rintro rfl; rw [takeB_nil] at h; cases h
  unfold takeC midC
  rw [if_neg hw]
  simp only [h, Option.map_some]
  simp [endC, hc]
theorem body_reach : ∀ {ws : List (List Str)} {C A E G : List Str} {b b' : Bd} {d : Nat}, takesB b ws = some b' → b'.closed = false → reach ⟨C, A, E, G, some b, d⟩ ws ⟨C, A, E, G, some b', d⟩
  | [], C, A, E, G, b, b', d, h, hc => by
    have h : b = b' := Option.some.inj h
    rw [h]; exact reach_nil _
  | w :: ws, C, A, E, G, b, b', d, h, hc => by
    have h : (takeB b w).bind (fun b' => takesB b' ws) = some b' := h
    cases e : takeB b w with
    | none => rw [e] at h; cases h
    | some b1 =>
      rw [e] at h
      have h : takesB b1 ws = some b' := h
      have hb1 : b1.closed = false := by
        cases q : b1.closed with
        | false => rfl
        | true => rw [takesB_closed q h] at hc; cases hc
      exact reach_cons (takeC_body e hb1) (body_reach h hc)
/-- the end of a body -/
theorem takeC_end {C A E G : List Str} {b : Bd} {d : Nat} (hb : b.blocks = []) (hk : b.kind = Str.ofString "answer" → b.code.getLast? = some (Str.ofString "give")) : takeC ⟨C, A, E, G, some b, d⟩ [Str.ofString "end"] = some ⟨C, A, E, G, none, max d b.deepest⟩ := by
  have hcl : closeB b = some (Str.ofString "end", { b with closed := true }) := by
    unfold closeB
    rw [if_neg]
    rintro ⟨h1, h2⟩
    exact h2 (hk h1)
  have ht : takeB b [Str.ofString "end"] = some { b with closed := true, code := b.code ++ [Str.ofString "end"] } := by
    have hen : entryB b [Str.ofString "end"] = closeB b := by
      simp [entryB, turnB, hb, ofString_inj]
    unfold takeB
    rw [hen, hcl]
    rfl
  unfold takeC midC
  rw [if_neg (by simp)]
  simp only [ht, Option.map_some]
  simp [endC]
theorem blk0 {E : Env0} {sc : List Str} {b : Bd} (h : In0 E sc 0 b) : b.blocks = [] := List.eq_nil_of_length_eq_zero h.n
section
variable {C A E G : List Str} {d : Nat}
theorem take_cell {x : Str} {n : Nat} (hx : isWord x = true) (hn : x ∉ C) (h30 : n < 10 ^ 30) : takeC ⟨C, [], [], [], none, d⟩ (cellWs (x, n)) = some ⟨C ++ [x], [], [], [], none, d⟩ := by
  have e : declC ⟨C, [], [], [], none, d⟩ (cellWs (x, n)) = some ⟨C ++ [x], [], [], [], none, d⟩ := by
    have h1 : ¬ (isWord x = false ∨ (Co.names ⟨C, [], [], [], none, d⟩).contains x = true) := by
      simp [hx, Co.names, Co.sources, hn]
    show (if isWord x = false ∨ (Co.names ⟨C, [], [], [], none, d⟩).contains x = true then none else _) = _
    rw [if_neg h1, if_pos rfl]
    show (if _ then none else _) = _
    rw [if_neg (by simp [isNumber_num h30])]
  unfold takeC midC
  rw [if_neg (by simp [cellWs])]
  simp only [e, Option.map_some]
  rfl
theorem cells_reach : ∀ {xs : List (Str × Nat)} {C : List Str}, (∀ x ∈ xs, isWord x.1 = true ∧ x.2 < 10 ^ 30) → (C ++ xs.map (·.1)).Nodup → reach ⟨C, [], [], [], none, d⟩ (xs.map cellWs) ⟨C ++ xs.map (·.1), [], [], [], none, d⟩
  | [], C, _, _ => by simpa using reach_nil _
  | x :: xs, C, h, nd => by
    have hx := h x (by simp)
    have hn : x.1 ∉ C := by
      intro q
      rw [List.nodup_append] at nd
      exact nd.2.2 _ q _ (by simp) rfl
    have nd' : ((C ++ [x.1]) ++ xs.map (·.1)).Nodup := by simpa using nd
    refine reach_cons (take_cell hx.1 hn hx.2) ?_
    have r := cells_reach (xs := xs) (C := C ++ [x.1]) (fun y hy => h y (by simp [hy])) nd'
    simpa using r
theorem take_decl {w0 x : Str} {ps : List Str} {c' : Co} (hw : declC ⟨C, A, E, G, none, d⟩ (w0 :: x :: ps) = some c') (hc : ∀ b, c'.body = some b → b.closed = false) : takeC ⟨C, A, E, G, none, d⟩ (w0 :: x :: ps) = some c' := by
  unfold takeC midC
  rw [if_neg (by simp)]
  simp only [hw, Option.map_some]
  unfold endC
  cases e : c'.body with
  | none => rfl
  | some b => simp [hc b e]
def bd0 (kind : Str) (ps C S : List Str) : Bd := ⟨kind, ps, C, S, [], [], 0, false⟩
theorem in0_bd0 {kind : Str} {ps C S : List Str} : In0 ⟨kind, C, S⟩ ps 0 (bd0 kind ps C S) := ⟨rfl, rfl, rfl, rfl, rfl, rfl, by show (0 : Nat) ≤ 8; omega⟩
theorem names_no {x : Str} (h : x ∉ C ++ A ++ E ++ G) (b : Option Bd) : (Co.names ⟨C, A, E, G, b, d⟩).contains x = false := by
  show (C ++ A ++ E ++ G).contains x = false
  simpa using h
theorem take_ans {k x : Str} (hk : k = Str.ofString "kept" ∨ k = Str.ofString "each") (hx : isWord x = true) (hC : C ≠ []) (hn : x ∉ C ++ A) : takeC ⟨C, A, [], [], none, d⟩ [k, x] = some ⟨C, A ++ [x], [], [], some (bd0 (Str.ofString "answer") [] C (C ++ A)), d⟩ := by
  refine take_decl ?_ (by intro b hb; cases hb; rfl)
  have h1 : ¬ (isWord x = false ∨ (Co.names ⟨C, A, [], [], none, d⟩).contains x = true) := by
    rw [names_no (by simpa using hn)]; simp [hx]
  have kc : k ≠ Str.ofString "cell" ∧ k ≠ Str.ofString "handler" := by rcases hk with rfl | rfl <;> simp [ofString_inj]
  show (if isWord x = false ∨ (Co.names ⟨C, A, [], [], none, d⟩).contains x = true then none else _) = _
  rw [if_neg h1, if_neg kc.1, if_neg hC, if_neg kc.2, if_neg (by simp), if_pos ⟨hk, rfl⟩]
  rfl
theorem take_eff {x : Str} (hx : isWord x = true) (hC : C ≠ []) (hn : x ∉ C ++ A ++ E) : takeC ⟨C, A, E, [], none, d⟩ [Str.ofString "effect", x] = some ⟨C, A, E ++ [x], [], some (bd0 (Str.ofString "effect") [] C (C ++ A)), d⟩ := by
  refine take_decl ?_ (by intro b hb; cases hb; rfl)
  have h1 : ¬ (isWord x = false ∨ (Co.names ⟨C, A, E, [], none, d⟩).contains x = true) := by
    rw [names_no (by simpa using hn)]; simp [hx]
  show (if isWord x = false ∨ (Co.names ⟨C, A, E, [], none, d⟩).contains x = true then none else _) = _
  rw [if_neg h1, if_neg (by simp [ofString_inj]), if_neg hC, if_neg (by simp [ofString_inj]), if_neg (by simp), if_neg (by simp [ofString_inj]), if_pos rfl]
  rfl
theorem take_han {x : Str} {ps : List Str} (hx : isWord x = true) (hC : C ≠ []) (hE : E ≠ []) (hn : x ∉ C ++ A ++ E ++ G) (hp : ∀ y ∈ ps, isWord y = true ∧ y ∉ C ++ A) (hl : ps.length ≤ 2) (nd : ps.Nodup) :
    takeC ⟨C, A, E, G, none, d⟩ (Str.ofString "handler" :: x :: ps) = some ⟨C, A, E, G ++ [x], some (bd0 (Str.ofString "handler") ps C (C ++ A)), d⟩ := by
  refine take_decl ?_ (by intro b hb; cases hb; rfl)
  have h1 : ¬ (isWord x = false ∨ (Co.names ⟨C, A, E, G, none, d⟩).contains x = true) := by
    rw [names_no hn]; simp [hx]
  have hall : ((List.range ps.length).all fun i => isWord (ps.getD i "") && !((Co.sources ⟨C, A, E, G, none, d⟩).contains (ps.getD i "")) && !((ps.take i).contains (ps.getD i ""))) = true := by
    rw [List.all_eq_true]
    intro i hi
    have hi : i < ps.length := by simpa using hi
    have ed : ps.getD i "" = ps[i] := by simp [List.getD, hi]
    rw [ed]
    obtain ⟨q1, q2⟩ := hp ps[i] (List.getElem_mem hi)
    have q3 : ps[i] ∉ ps.take i := by
      intro q
      obtain ⟨j, hj, e⟩ := List.mem_iff_getElem.mp q
      rw [List.length_take] at hj
      rw [List.getElem_take] at e
      have := List.pairwise_iff_getElem.mp nd j i (by omega) hi (by omega)
      exact this e
    have q2 : (Co.sources ⟨C, A, E, G, none, d⟩).contains ps[i] = false := by show (C ++ A).contains ps[i] = false; simpa using q2
    rw [q1, q2]
    simpa using q3
  show (if isWord x = false ∨ (Co.names ⟨C, A, E, G, none, d⟩).contains x = true then none else _) = _
  rw [if_neg h1, if_neg (by simp [ofString_inj]), if_neg hC, if_pos rfl]
  show (if E = [] ∨ ps.length > 2 then none else _) = _
  rw [if_neg (by rintro (q | q); exact hE q; omega), if_pos hall]
  rfl
end
end Tr
set_option maxHeartbeats 2000000
namespace Tr
open PySem L2
def endW : List Str := [Str.ofString "end"]
/-- a line that opens a block -/
def OpW (kind : Str) (S : List Str) (w : List Str) : Prop := ∃ w0, ∀ b : Bd, b.kind = kind → b.readable = S → takeB b w = some { b with blocks := b.blocks ++ [(w0, b.code.length, b.scope.length)], deepest := max b.deepest (b.blocks.length + 1), code := b.code ++ [w0] }
theorem op_quiet {kind : Str} {S : List Str} (h : kind ≠ Str.ofString "handler") : OpW kind S [Str.ofString "quiet"] := ⟨Str.ofString "quiet", fun b hk _ => by
  have h' : b.kind ≠ Str.ofString "handler" := by rw [hk]; exact h
  simp [takeB, entryB, openB, ofString_inj, h']⟩
theorem op_batch {S : List Str} : OpW (Str.ofString "handler") S [Str.ofString "batch"] := ⟨Str.ofString "batch", fun b hk _ => by simp [takeB, entryB, openB, ofString_inj, hk]⟩
theorem op_if {kind : Str} {S : List Str} {c s : Str} (hs : s = Str.ofString "==" ∨ s = Str.ofString "!=") (hc : c ∈ S) (wc : isWord c = true) : OpW kind S [Str.ofString "if", c, s, numT 0] := ⟨Str.ofString "if", fun b hk hr => by
  have n0 : isNumber (numT 0) = true := isNumber_num (by decide)
  have nc := word_num wc
  have c1 : c ≠ Str.ofString "==" := by rintro rfl; exact absurd wc (by decide +kernel)
  have c2 : c ≠ Str.ofString "!=" := by rintro rfl; exact absurd wc (by decide +kernel)
  have hc' : b.readable.contains c = true := by rw [hr]; exact List.contains_iff_mem.mpr hc
  have e1 : ∃ e, exprOf [c] b.scope b.readable = some e := by
    simp only [exprOf, nc, hc']
    by_cases q : b.scope.contains c = true
    · exact ⟨.loc c, by simp [List.contains_iff_mem.mp q]⟩
    · have q' : c ∉ b.scope := fun h => q (List.contains_iff_mem.mpr h)
      exact ⟨.read c, by simp [q']⟩
  obtain ⟨e, he⟩ := e1
  have hco : ∃ x, compOf [c, s, numT 0] b.scope b.readable = some x := by
    have sg : signAt [c, s, numT 0] = some 1 := by simp [signAt, c1, c2, hs]
    have e0 : exprOf [numT 0] b.scope b.readable = some (.num (intOf (numT 0))) := by simp [exprOf, n0]
    unfold compOf
    rw [sg]
    simp only [List.take, List.drop, he, e0]
    exact ⟨_, rfl⟩
  obtain ⟨x, hx⟩ := hco
  simp [takeB, entryB, openB, ofString_inj, hx]⟩
theorem nest {kind : Str} {S : List Str} : ∀ (ws : List (List Str)), (∀ w ∈ ws, OpW kind S w) → ∀ b : Bd, b.kind = kind → b.readable = S → b.blocks.length ≤ b.deepest →
    ∃ code, takesB b (ws ++ List.replicate ws.length endW) = some { b with code := code, deepest := max b.deepest (b.blocks.length + ws.length) }
  | [], _, b, _, _, h => ⟨b.code, by simp [takesB, Nat.max_eq_left h]⟩
  | w :: ws, hw, b, hk, hr, h => by
    obtain ⟨w0, hw0⟩ := hw w (by simp)
    obtain ⟨code, ih⟩ := nest ws (fun x hx => hw x (by simp [hx])) { b with blocks := b.blocks ++ [(w0, b.code.length, b.scope.length)], deepest := max b.deepest (b.blocks.length + 1), code := b.code ++ [w0] } hk hr (by show (b.blocks ++ _).length ≤ max b.deepest (b.blocks.length + 1); simp; omega)
    refine ⟨code ++ [if w0 = Str.ofString "batch" then Str.ofString "close" else Str.ofString "end"], ?_⟩
    have e : w :: ws ++ List.replicate (ws.length + 1) endW = w :: ((ws ++ List.replicate ws.length endW) ++ [endW]) := by rw [List.replicate_succ']; simp
    rw [List.length_cons, e]
    show (takeB b w).bind _ = _
    rw [hw0 b hk hr]
    show takesB _ ((ws ++ List.replicate ws.length endW) ++ [endW]) = _
    rw [takesB_app, ih]
    have em : max (max b.deepest (b.blocks.length + 1)) (b.blocks.length + 1 + ws.length) = max b.deepest (b.blocks.length + (ws.length + 1)) := by omega
    simp [takesB, takeB, entryB, turnB, endW, ofString_inj, em]
def tellW (n : Nat) : List Str := [Str.ofString "tell", numT n]
theorem tells : ∀ (ns : List Nat), (∀ n ∈ ns, n < 10 ^ 30) → ∀ b : Bd, b.kind = Str.ofString "effect" → ∃ code, takesB b (ns.map tellW) = some { b with code := code }
  | [], _, b, _ => ⟨b.code, rfl⟩
  | n :: ns, h, b, hk => by
    have hn := isNumber_num (h n (by simp))
    obtain ⟨code, ih⟩ := tells ns (fun m hm => h m (by simp [hm])) { b with code := b.code ++ [Str.ofString "tell"] } hk
    refine ⟨code, ?_⟩
    have e : takeB b (tellW n) = some { b with code := b.code ++ [Str.ofString "tell"] } := by simp [takeB, entryB, singleB, tellW, exprOf, hn, hk, ofString_inj]
    show (takeB b (tellW n)).bind _ = _
    rw [e]
    exact ih
def nestW (ws : List (List Str)) : List (List Str) := ws ++ List.replicate ws.length endW
def giveW : List Str := [Str.ofString "give", numT 0]
def ansB (k x : Str) (ws : List (List Str)) : List (List Str) := [k, x] :: (nestW ws ++ [giveW, endW])
def effB (x : Str) (p : List Nat) (ws : List (List Str)) (q : List Nat) : List (List Str) := [Str.ofString "effect", x] :: (p.map tellW ++ nestW ws ++ q.map tellW ++ [endW])
def hanB (x : Str) (ws : List (List Str)) : List (List Str) := [Str.ofString "handler", x] :: (nestW ws ++ [endW])
section
variable {C A E G : List Str} {d : Nat}
theorem ans_step {k x : Str} {ws : List (List Str)} (hk : k = Str.ofString "kept" ∨ k = Str.ofString "each") (hx : isWord x = true) (hC : C ≠ []) (hn : x ∉ C ++ A) (hw : ∀ w ∈ ws, OpW (Str.ofString "answer") (C ++ A) w) :
    reach ⟨C, A, [], [], none, d⟩ (ansB k x ws) ⟨C, A ++ [x], [], [], none, max d ws.length⟩ := by
  obtain ⟨code, h⟩ := nest ws hw (bd0 (Str.ofString "answer") [] C (C ++ A)) rfl rfl (Nat.le_refl _)
  have n0 : isNumber (numT 0) = true := isNumber_num (by decide)
  have e : max (bd0 (Str.ofString "answer") [] C (C ++ A)).deepest ((bd0 (Str.ofString "answer") [] C (C ++ A)).blocks.length + ws.length) = ws.length := by show max 0 (0 + ws.length) = _; omega
  rw [e] at h
  refine reach_cons (take_ans hk hx hC hn) ?_
  have e2 : nestW ws ++ [giveW, endW] = (nestW ws ++ [giveW]) ++ [endW] := by simp
  rw [e2]
  refine reach_app (body_reach (b' := { bd0 (Str.ofString "answer") [] C (C ++ A) with code := code ++ [Str.ofString "give"], deepest := ws.length }) ?_ rfl) (reach_one (takeC_end rfl fun _ => by simp))
  unfold nestW
  rw [takesB_app, h]
  simp [takeB, entryB, singleB, giveW, bd0, exprOf, n0, ofString_inj, takesB]
theorem eff_step {x : Str} {p q : List Nat} {ws : List (List Str)} (hx : isWord x = true) (hC : C ≠ []) (hn : x ∉ C ++ A ++ E) (hp : ∀ n ∈ p, n < 10 ^ 30) (hq : ∀ n ∈ q, n < 10 ^ 30) (hw : ∀ w ∈ ws, OpW (Str.ofString "effect") (C ++ A) w) :
    reach ⟨C, A, E, [], none, d⟩ (effB x p ws q) ⟨C, A, E ++ [x], [], none, max d ws.length⟩ := by
  obtain ⟨c1, h1⟩ := tells p hp (bd0 (Str.ofString "effect") [] C (C ++ A)) rfl
  obtain ⟨c2, h2⟩ := nest ws hw { bd0 (Str.ofString "effect") [] C (C ++ A) with code := c1 } rfl rfl (Nat.le_refl _)
  have e : max (bd0 (Str.ofString "effect") [] C (C ++ A)).deepest ((bd0 (Str.ofString "effect") [] C (C ++ A)).blocks.length + ws.length) = ws.length := by show max 0 (0 + ws.length) = _; omega
  have h2 : takesB { bd0 (Str.ofString "effect") [] C (C ++ A) with code := c1 } (ws ++ List.replicate ws.length endW) = some { bd0 (Str.ofString "effect") [] C (C ++ A) with code := c2, deepest := ws.length } := by
    rw [h2]
    simp [bd0]
  obtain ⟨c3, h3⟩ := tells q hq { bd0 (Str.ofString "effect") [] C (C ++ A) with code := c2, deepest := ws.length } rfl
  refine reach_cons (take_eff hx hC hn) (reach_app (body_reach (b' := { bd0 (Str.ofString "effect") [] C (C ++ A) with code := c3, deepest := ws.length }) ?_ rfl) (reach_one (takeC_end rfl fun z => ?_)))
  · rw [takesB_app, takesB_app, h1]
    show (takesB _ (nestW ws)).bind _ = _
    unfold nestW
    rw [h2]
    exact h3
  · have z : Str.ofString "effect" = Str.ofString "answer" := z
    simp [ofString_inj] at z
theorem han_open {x : Str} {ws : List (List Str)} (hx : isWord x = true) (hC : C ≠ []) (hE : E ≠ []) (hn : x ∉ C ++ A ++ E ++ G) (hw : ∀ w ∈ ws, OpW (Str.ofString "handler") (C ++ A) w) :
    ∃ b, reach ⟨C, A, E, G, none, d⟩ ([Str.ofString "handler", x] :: nestW ws) ⟨C, A, E, G ++ [x], some b, d⟩ ∧ takeC ⟨C, A, E, G ++ [x], some b, d⟩ endW = some ⟨C, A, E, G ++ [x], none, max d ws.length⟩ := by
  obtain ⟨code, h⟩ := nest ws hw (bd0 (Str.ofString "handler") [] C (C ++ A)) rfl rfl (Nat.le_refl _)
  have e : max (bd0 (Str.ofString "handler") [] C (C ++ A)).deepest ((bd0 (Str.ofString "handler") [] C (C ++ A)).blocks.length + ws.length) = ws.length := by show max 0 (0 + ws.length) = _; omega
  rw [e] at h
  refine ⟨_, reach_cons (take_han hx hC hE hn (fun y hy => by cases hy) (by simp) List.nodup_nil) (body_reach h rfl), takeC_end rfl fun z => ?_⟩
  have z : Str.ofString "handler" = Str.ofString "answer" := z
  simp [ofString_inj] at z
theorem han_step {x : Str} {ws : List (List Str)} (hx : isWord x = true) (hC : C ≠ []) (hE : E ≠ []) (hn : x ∉ C ++ A ++ E ++ G) (hw : ∀ w ∈ ws, OpW (Str.ofString "handler") (C ++ A) w) :
    reach ⟨C, A, E, G, none, d⟩ (hanB x ws) ⟨C, A, E, G ++ [x], none, max d ws.length⟩ := by
  obtain ⟨b, h1, h2⟩ := han_open (d := d) hx hC hE hn hw
  exact reach_app (A := [Str.ofString "handler", x] :: nestW ws) (B := [endW]) h1 (reach_one h2)
end
theorem anss_reach {C : List Str} {d : Nat} (hC : C ≠ []) : ∀ {xs : List (Str × Str)} {A : List Str}, (∀ x ∈ xs, isWord x.2 = true ∧ (x.1 = Str.ofString "kept" ∨ x.1 = Str.ofString "each")) → (C ++ A ++ xs.map (·.2)).Nodup →
    reach ⟨C, A, [], [], none, d⟩ (xs.flatMap fun x => ansB x.1 x.2 []) ⟨C, A ++ xs.map (·.2), [], [], none, d⟩
  | [], A, _, _ => by simpa using reach_nil _
  | x :: xs, A, h, nd => by
    have hx := h x (by simp)
    have hn : x.2 ∉ C ++ A := by
      intro q
      rw [List.nodup_append] at nd
      exact nd.2.2 _ q _ (by simp) rfl
    have r1 := ans_step (d := d) (ws := []) hx.2 hx.1 hC hn (fun w hw => by cases hw)
    have e : max d ([] : List (List Str)).length = d := by simp
    rw [e] at r1
    have r2 := anss_reach (d := d) hC (xs := xs) (A := A ++ [x.2]) (fun y hy => h y (by simp [hy])) (by simpa using nd)
    rw [List.flatMap_cons]
    refine reach_app r1 ?_
    simpa using r2
theorem effs_reach {C A : List Str} {d : Nat} (hC : C ≠ []) : ∀ {xs : List Str} {E : List Str}, (∀ x ∈ xs, isWord x = true) → (C ++ A ++ E ++ xs).Nodup →
    reach ⟨C, A, E, [], none, d⟩ (xs.flatMap fun x => effB x [] [] []) ⟨C, A, E ++ xs, [], none, d⟩
  | [], E, _, _ => by simpa using reach_nil _
  | x :: xs, E, h, nd => by
    have hn : x ∉ C ++ A ++ E := by
      intro q
      rw [List.nodup_append] at nd
      exact nd.2.2 _ q _ (by simp) rfl
    have r1 := eff_step (d := d) (p := []) (q := []) (ws := []) (h x (by simp)) hC hn (fun _ h => by cases h) (fun _ h => by cases h) (fun w hw => by cases hw)
    have e : max d ([] : List (List Str)).length = d := by simp
    rw [e] at r1
    have r2 := effs_reach (d := d) hC (xs := xs) (E := E ++ [x]) (fun y hy => h y (by simp [hy])) (by simpa using nd)
    rw [List.flatMap_cons]
    refine reach_app r1 ?_
    simpa using r2
theorem hans_reach {C A E : List Str} {d : Nat} (hC : C ≠ []) (hE : E ≠ []) : ∀ {xs : List Str} {G : List Str}, (∀ x ∈ xs, isWord x = true) → (C ++ A ++ E ++ G ++ xs).Nodup →
    reach ⟨C, A, E, G, none, d⟩ (xs.flatMap fun x => hanB x []) ⟨C, A, E, G ++ xs, none, d⟩
  | [], G, _, _ => by simpa using reach_nil _
  | x :: xs, G, h, nd => by
    have hn : x ∉ C ++ A ++ E ++ G := by
      intro q
      rw [List.nodup_append] at nd
      exact nd.2.2 _ q _ (by simp) rfl
    have r1 := han_step (d := d) (ws := []) (h x (by simp)) hC hE hn (fun w hw => by cases hw)
    have e : max d ([] : List (List Str)).length = d := by simp
    rw [e] at r1
    have r2 := hans_reach (d := d) hC hE (xs := xs) (G := G ++ [x]) (fun y hy => h y (by simp [hy])) (by simpa using nd)
    rw [List.flatMap_cons]
    refine reach_app r1 ?_
    simpa using r2
/-- the names of such a book -/
structure N10 (C : List Str) (A : List (Str × Str)) (E G : List Str) : Prop where
  c : ∀ x ∈ C, isWord x = true
  a : ∀ x ∈ A, isWord x.2 = true ∧ (x.1 = Str.ofString "kept" ∨ x.1 = Str.ofString "each")
  e : ∀ x ∈ E, isWord x = true
  g : ∀ x ∈ G, isWord x = true
  nd : (C ++ A.map (·.2) ++ E ++ G).Nodup
  nc : C ≠ []
/-- the words, without the last end -/
def open10 (m : Nat) (C : List Str) (a : Str × Str) (A : List (Str × Str)) (e : Str) (E G : List Str) (g : Str) (p : List Nat) (q : List Nat) (w1 w2 w3 : List (List Str)) : List (List Str) :=
  (C.mapIdx fun i x => cellWs (x, i % m)) ++ ansB a.1 a.2 w1 ++ (A.flatMap fun x => ansB x.1 x.2 []) ++ effB e p w2 q ++ (E.flatMap fun x => effB x [] [] []) ++ (G.flatMap fun x => hanB x []) ++ ([Str.ofString "handler", g] :: nestW w3)
theorem read10 {m : Nat} {C : List Str} {a : Str × Str} {A : List (Str × Str)} {e : Str} {E G : List Str} {g : Str} {p q : List Nat} {w1 w2 w3 : List (List Str)} (N : N10 C (a :: A) (e :: E) (G ++ [g])) (hm : 0 < m ∧ m < 10 ^ 30) (hp : ∀ n ∈ p, n < 10 ^ 30) (hq : ∀ n ∈ q, n < 10 ^ 30)
    (h1 : ∀ w ∈ w1, OpW (Str.ofString "answer") C w) (h2 : ∀ w ∈ w2, OpW (Str.ofString "effect") (C ++ (a :: A).map (·.2)) w) (h3 : ∀ w ∈ w3, OpW (Str.ofString "handler") (C ++ (a :: A).map (·.2)) w) :
    ∃ b d, reach co0 (open10 m C a A e E G g p q w1 w2 w3) ⟨C, (a :: A).map (·.2), e :: E, G ++ [g], some b, d⟩ ∧ takeC ⟨C, (a :: A).map (·.2), e :: E, G ++ [g], some b, d⟩ endW = some ⟨C, (a :: A).map (·.2), e :: E, G ++ [g], none, max (max w1.length w2.length) w3.length⟩ := by
  have nd := N.nd
  have nd1 : (C ++ (a :: A).map (·.2) ++ (e :: E)).Nodup := (List.nodup_append.mp nd).1
  have nd2 : (C ++ (a :: A).map (·.2)).Nodup := (List.nodup_append.mp nd1).1
  have nd3 : C.Nodup := (List.nodup_append.mp nd2).1
  have r1 : reach co0 (C.mapIdx fun i x => cellWs (x, i % m)) ⟨C, [], [], [], none, 0⟩ := by
    have e1 : (C.mapIdx fun i x => cellWs (x, i % m)) = (C.mapIdx fun i x => (x, i % m)).map cellWs := List.ext_getElem? fun i => by simp; cases C[i]? <;> rfl
    have e2 : (C.mapIdx fun i x => (x, i % m)).map (·.1) = C := by
      exact List.ext_getElem? fun i => by simp; cases C[i]? <;> rfl
    have r := cells_reach (d := 0) (xs := C.mapIdx fun i x => (x, i % m)) (C := []) (fun x hx => by
      obtain ⟨i, hi, e⟩ := List.mem_mapIdx.mp hx
      subst e
      exact ⟨N.c _ (List.getElem_mem hi), Nat.lt_trans (Nat.mod_lt _ hm.1) hm.2⟩) (by rw [e2]; simpa using nd3)
    rw [e2, List.nil_append] at r
    rw [e1]
    exact r
  have na := N.a a (by simp)
  have r2 := ans_step (A := []) (d := 0) na.2 na.1 N.nc (by
    intro z
    have := (List.nodup_append.mp nd2).2.2 a.2 (by simpa using z) a.2 (by simp)
    exact this rfl) (by simpa using h1)
  have r3 := anss_reach (d := max 0 w1.length) N.nc (xs := A) (A := [] ++ [a.2]) (fun x hx => N.a x (by simp [hx])) (by simpa using nd2)
  have r4 := eff_step (C := C) (A := (a :: A).map (·.2)) (E := []) (d := max 0 w1.length) (p := p) (q := q) (N.e e (by simp)) N.nc (by
    intro z
    have := (List.nodup_append.mp nd1).2.2 e (by simpa using z) e (by simp)
    exact this rfl) hp hq h2
  have r5 := effs_reach (C := C) (A := (a :: A).map (·.2)) (d := max (max 0 w1.length) w2.length) N.nc (xs := E) (E := [] ++ [e]) (fun x hx => N.e x (by simp [hx])) (by simpa using nd1)
  have ndg : (C ++ (a :: A).map (fun x : Str × Str => x.2) ++ (e :: E) ++ ([] : List Str) ++ G).Nodup := by
    have : (C ++ (a :: A).map (fun x : Str × Str => x.2) ++ (e :: E) ++ G ++ [g]).Nodup := by simpa using nd
    have := (List.nodup_append.mp this).1
    simpa using this
  have r6 := hans_reach (C := C) (A := (a :: A).map (·.2)) (E := e :: E) (d := max (max 0 w1.length) w2.length) N.nc (by simp) (xs := G) (G := []) (fun x hx => N.g x (by simp [hx])) ndg
  obtain ⟨b, r7, r8⟩ := han_open (C := C) (A := (a :: A).map (·.2)) (E := e :: E) (G := [] ++ G) (d := max (max 0 w1.length) w2.length) (x := g) (ws := w3) (N.g g (by simp)) N.nc (by simp) (by
    intro z
    have h : (C ++ (a :: A).map (fun x : Str × Str => x.2) ++ (e :: E) ++ G ++ [g]).Nodup := by simpa using nd
    exact (List.nodup_append.mp h).2.2 g (by simpa using z) g (by simp) rfl) h3
  refine ⟨b, max (max 0 w1.length) w2.length, ?_, ?_⟩
  rotate_left
  · have e1 : max (max (max 0 w1.length) w2.length) w3.length = max (max w1.length w2.length) w3.length := by omega
    rw [← e1]
    simpa using r8
  · unfold open10
    have r34 := reach_app r2 (by simpa using r3)
    refine reach_app (reach_app (reach_app (reach_app (reach_app (reach_app r1 r2) (by simpa using r3)) (by simpa using r4)) (by simpa using r5)) (by simpa using r6)) (by simpa using r7)
end Tr
set_option maxHeartbeats 2000000
namespace Tr
open PySem L2
theorem intOf_numT {n : Nat} (h : n < 10 ^ 30) : intOf (numT n) = (n : Int) := by
  have := TL.numL_len (n := n) (k := 30) (by decide) h
  unfold intOf numT
  rw [TL.int_num (by omega)]
  rfl
def canon (m : Nat) (C : List Str) (ka : Str) (A : List (Bool × Str)) (e : Str) (E G : List Str) (g : Str) (pads more I1 I2 I3 : List Str) : List Str :=
  cellsT m C ++ ((ka :: I1) ++ [Str.ofString "give 0", Str.ofString "end"]) ++ ansT A ++ ((Str.ofString "effect " ++ e) :: (pads ++ I2 ++ more ++ [Str.ofString "end"])) ++ effT E ++ hanT G ++ ((Str.ofString "handler " ++ g) :: I3) ++ [Str.ofString "end"]
def inn (wh k : Nat) (I : List Str) : List Str := if k = wh then I else []
theorem aux2 {α : Type} (X Y : List α) (n : Nat) (h : X.length = n) : (X ++ Y).take n = X ∧ (X ++ Y).drop n = Y := ⟨List.take_left' h, List.drop_left' h⟩
theorem built_canon {s : Sz} {C : List Str} {b : Bool} {x : Str} {A : List (Bool × Str)} {e : Str} {E G : List Str} {g : Str} {wh : Nat} {c0 : Str} (hc : C.length = s.c) (ha : (A.length + 1) = s.a) (hw : wh < 4) :
    ∃ pads, built s (base10 (s.n - 1) C ((b, x) :: A) (e :: E) (G ++ [g])) wh c0 = canon (s.n - 1) C (kTx b ++ x) A e E G g (List.replicate pads (Str.ofString "tell 0")) (moreT s.n) (inn wh 3 (deepL s.d wh c0)) (if wh < 2 then deepL s.d wh c0 else []) (inn wh 2 (deepL s.d wh c0)) ∧
      (s.c + 3 * s.a + 2 * (E.length + 1) + 2 * (G.length + 1) + s.n + 2 * s.d ≤ s.l → (built s (base10 (s.n - 1) C ((b, x) :: A) (e :: E) (G ++ [g])) wh c0).length = s.l) := by
  have lcel : (cellsT (s.n - 1) C).length = s.c := by rw [cellsT, List.length_mapIdx, hc]
  have lans := ansT_len A
  have lmore : (moreT s.n).length = s.n := by simp [moreT]
  have linn : (deepL s.d wh c0).length = 2 * s.d := by simp [deepL]; omega
  unfold built
  simp only
  generalize deepL s.d wh c0 = I at linn ⊢
  -- the parts
  have eans : ansT ((b, x) :: A) = [kTx b ++ x, Str.ofString "give 0", Str.ofString "end"] ++ ansT A := rfl
  have eeff : effT (e :: E) = [Str.ofString "effect " ++ e, Str.ofString "end"] ++ effT E := rfl
  have ehan : hanT (G ++ [g]) = hanT G ++ [Str.ofString "handler " ++ g, Str.ofString "end"] := by simp [hanT]
  have leff := effT_len E
  have lhan := hanT_len G
  generalize hP : cellsT (s.n - 1) C ++ ([kTx b ++ x, Str.ofString "give 0", Str.ofString "end"] ++ ansT A) ++ [Str.ofString "effect " ++ e] = P
  have lP : P.length = s.c + 3 * s.a + 1 := by rw [← hP]; simp [lcel, lans]; omega
  have e0 : base10 (s.n - 1) C ((b, x) :: A) (e :: E) (G ++ [g]) = P ++ ([Str.ofString "end"] ++ effT E ++ hanT G ++ [Str.ofString "handler " ++ g, Str.ofString "end"]) := by
    rw [← hP, base10, eans, eeff, ehan]
    simp only [List.append_assoc, List.cons_append, List.nil_append]
  generalize hR : [Str.ofString "end"] ++ effT E ++ hanT G ++ [Str.ofString "handler " ++ g] = R
  have lR : R.length = 2 * E.length + 2 * G.length + 2 := by rw [← hR]; simp [leff, lhan]; omega
  have e1 : base10 (s.n - 1) C ((b, x) :: A) (e :: E) (G ++ [g]) = P ++ (R ++ [Str.ofString "end"]) := by
    rw [e0, ← hR]
    simp only [List.append_assoc, List.cons_append, List.nil_append]
  obtain ⟨t1, t2⟩ := aux2 P (R ++ [Str.ofString "end"]) _ lP
  rw [e1, t1, t2]
  generalize hM : moreT s.n = M at lmore
  have lL1 : (P ++ M ++ (R ++ [Str.ofString "end"])).length = P.length + s.n + R.length + 1 := by simp; omega
  have hcs : wh < 2 ∨ wh = 2 ∨ wh = 3 := by omega
  rcases hcs with h | h | h
  · have ai : aiOf wh (s.c + 3 * s.a + 1) (P ++ M ++ (R ++ [Str.ofString "end"])).length s.c = P.length := by unfold aiOf; rw [if_pos h, lP]
    obtain ⟨u1, u2⟩ := aux2 P (M ++ (R ++ [Str.ofString "end"])) _ rfl
    have e3 : P ++ M ++ (R ++ [Str.ofString "end"]) = P ++ (M ++ (R ++ [Str.ofString "end"])) := by simp
    unfold built2
    simp only
    rw [ai, e3, u1, u2, if_neg (show ¬ wh = 3 by omega), Nat.mul_zero, Nat.add_zero, ← lP]
    have e4 : P ++ I ++ (M ++ (R ++ [Str.ofString "end"])) = P ++ (I ++ (M ++ (R ++ [Str.ofString "end"]))) := by simp
    rw [e4]
    obtain ⟨w1, w2⟩ := aux2 P (I ++ (M ++ (R ++ [Str.ofString "end"]))) _ rfl
    rw [w1, w2]
    refine ⟨s.l - (P ++ (I ++ (M ++ (R ++ [Str.ofString "end"])))).length, ?_, fun hl => by simp; omega⟩
    generalize List.replicate (s.l - (P ++ (I ++ (M ++ (R ++ [Str.ofString "end"])))).length) (Str.ofString "tell 0") = pads
    unfold canon inn
    rw [if_neg (show ¬ 3 = wh by omega), if_neg (show ¬ 2 = wh by omega), if_pos h, ← hP, ← hR]
    simp only [List.append_assoc, List.cons_append, List.nil_append, List.append_nil]
  · have ai : aiOf wh (s.c + 3 * s.a + 1) (P ++ M ++ (R ++ [Str.ofString "end"])).length s.c = (P ++ M ++ R).length := by unfold aiOf; rw [if_neg (by omega), if_pos h, lL1]; simp; omega
    obtain ⟨u1, u2⟩ := aux2 (P ++ M ++ R) [Str.ofString "end"] _ rfl
    have e3 : P ++ M ++ (R ++ [Str.ofString "end"]) = (P ++ M ++ R) ++ [Str.ofString "end"] := by simp
    unfold built2
    simp only
    rw [ai, e3, u1, u2, if_neg (show ¬ wh = 3 by omega), Nat.mul_zero, Nat.add_zero, ← lP]
    have e4 : P ++ M ++ R ++ I ++ [Str.ofString "end"] = P ++ (M ++ R ++ I ++ [Str.ofString "end"]) := by simp
    rw [e4]
    obtain ⟨w1, w2⟩ := aux2 P (M ++ R ++ I ++ [Str.ofString "end"]) _ rfl
    rw [w1, w2]
    refine ⟨s.l - (P ++ (M ++ R ++ I ++ [Str.ofString "end"])).length, ?_, fun hl => by simp; omega⟩
    generalize List.replicate (s.l - (P ++ (M ++ R ++ I ++ [Str.ofString "end"])).length) (Str.ofString "tell 0") = pads
    unfold canon inn
    rw [if_neg (show ¬ 3 = wh by omega), if_pos (show 2 = wh by omega), if_neg (show ¬ wh < 2 by omega), ← hP, ← hR]
    simp only [List.append_assoc, List.cons_append, List.nil_append, List.append_nil]
  · subst h
    have ai : aiOf 3 (s.c + 3 * s.a + 1) (P ++ M ++ (R ++ [Str.ofString "end"])).length s.c = (cellsT (s.n - 1) C ++ [kTx b ++ x]).length := by unfold aiOf; rw [if_neg (by omega), if_neg (by omega)]; simp [lcel]
    generalize hY : [Str.ofString "give 0", Str.ofString "end"] ++ ansT A ++ [Str.ofString "effect " ++ e] = Y
    have lY : Y.length = 3 * A.length + 3 := by rw [← hY]; simp [lans]
    have eP : P = (cellsT (s.n - 1) C ++ [kTx b ++ x]) ++ Y := by rw [← hP, ← hY]; simp only [List.append_assoc, List.cons_append, List.nil_append]
    generalize hZ : cellsT (s.n - 1) C ++ [kTx b ++ x] = Z at ai eP
    have lZ : Z.length = s.c + 1 := by rw [← hZ]; simp [lcel]
    obtain ⟨u1, u2⟩ := aux2 Z (Y ++ M ++ (R ++ [Str.ofString "end"])) _ rfl
    have e3 : P ++ M ++ (R ++ [Str.ofString "end"]) = Z ++ (Y ++ M ++ (R ++ [Str.ofString "end"])) := by rw [eP]; simp
    unfold built2
    simp only
    rw [ai, e3, u1, u2, if_pos trivial, Nat.mul_one]
    have e4 : Z ++ I ++ (Y ++ M ++ (R ++ [Str.ofString "end"])) = (Z ++ I ++ Y) ++ (M ++ (R ++ [Str.ofString "end"])) := by simp
    rw [e4]
    obtain ⟨w1, w2⟩ := aux2 (Z ++ I ++ Y) (M ++ (R ++ [Str.ofString "end"])) (s.c + 3 * s.a + 1 + I.length) (by simp; omega)
    rw [w1, w2]
    refine ⟨s.l - ((Z ++ I ++ Y) ++ (M ++ (R ++ [Str.ofString "end"]))).length, ?_, fun hl => by simp; omega⟩
    generalize List.replicate (s.l - ((Z ++ I ++ Y) ++ (M ++ (R ++ [Str.ofString "end"]))).length) (Str.ofString "tell 0") = pads
    unfold canon inn
    rw [if_pos rfl, if_neg (show ¬ 2 = 3 by omega), if_neg (show ¬ 3 < 2 by omega), ← hZ, ← hR, ← hY]
    simp only [List.append_assoc, List.cons_append, List.nil_append, List.append_nil]
def kWd (b : Bool) : Str := if b then Str.ofString "kept" else Str.ofString "each"
def Wd (L : List Int) (x : Str) : Prop := wd40 x ∧ (isNumber x = true → intOf x ∈ L)
theorem wd_lit {L : List Int} (s : String) (h : (decide (Str.ofString s ≠ Str.ofString "") && (!((Str.ofString s).cps.toList.contains 32) && decide ((Str.ofString s).length ≤ 40))) = true) (hn : isNumber (Str.ofString s) = false) : Wd L (Str.ofString s) := ⟨lit_40 s h, fun q => by rw [hn] at q; cases q⟩
theorem wd_word {L : List Int} {x : Str} (h : isWord x = true) : Wd L x := ⟨word_40 h, fun q => by rw [word_num h] at q; cases q⟩
theorem wd_num {L : List Int} {n : Nat} (h : n < 10 ^ 30) (hL : (n : Int) ∈ L) : Wd L (numT n) := ⟨numT_40 h, fun _ => by rw [intOf_numT h]; exact hL⟩
theorem ln_wd {L : List Int} {z : Str} {ws : List Str} (h : Jn z ws) (hw : ∀ x ∈ ws, Wd L x) (few : ws.length ≤ 9) (nn : (numsOf ws).length ≤ 2) : Ln L z ws :=
  ln_jn h (fun x hx => (hw x hx).1) few nn fun j hj => by
    obtain ⟨x, hx, rfl⟩ := List.mem_map.mp hj
    obtain ⟨h1, h2⟩ := List.mem_filter.mp hx
    exact (hw x h1).2 h2
section
variable {L : List Int}
theorem lw2 {z a b : Str} (h : Jn z [a, b]) (ha : Wd L a) (hb : Wd L b) : Ln L z [a, b] := by
  refine ln_wd h (fun x hx => ?_) (by simp) ?_
  · simp only [List.mem_cons, List.not_mem_nil, or_false] at hx
    rcases hx with rfl | rfl <;> assumption
  · unfold numsOf; rw [List.length_map]; exact Nat.le_trans (List.length_filter_le _ _) (by simp)
theorem lw1 {z a : Str} (h : Jn z [a]) (ha : Wd L a) : Ln L z [a] := by
  refine ln_wd h (fun x hx => ?_) (by simp) ?_
  · rw [List.mem_singleton.mp hx]; exact ha
  · unfold numsOf; rw [List.length_map]; exact Nat.le_trans (List.length_filter_le _ _) (by simp)
theorem lw4 {z a b c d : Str} (h : Jn z [a, b, c, d]) (ha : Wd L a) (hb : Wd L b) (hc : Wd L c) (hd : Wd L d) (na : isNumber a = false) (nc : isNumber c = false) : Ln L z [a, b, c, d] := by
  refine ln_wd h (fun x hx => ?_) (by simp) ?_
  · simp only [List.mem_cons, List.not_mem_nil, or_false] at hx
    rcases hx with rfl | rfl | rfl | rfl <;> assumption
  · rw [nums_no na]
    unfold numsOf
    rw [List.length_map, List.filter_cons]
    split
    · rw [List.filter_cons_of_neg (by simp [nc])]
      have := List.length_filter_le isNumber [d]
      simp at this ⊢; omega
    · rw [List.filter_cons_of_neg (by simp [nc])]
      have := List.length_filter_le isNumber [d]
      simp at this ⊢; omega
theorem w_end : Wd L (Str.ofString "end") := wd_lit "end" (by decide +kernel) (by decide +kernel)
theorem l_end : Ln L (Str.ofString "end") endW := lw1 (j1 _) w_end
theorem l_cell {m i : Nat} {x : Str} (hx : isWord x = true) (h30 : i % m < 10 ^ 30) (hL : ((i % m : Nat) : Int) ∈ L) : Ln L (cellT m i x) (cellWs (x, i % m)) :=
  lw4 (jM " = " "=" (jA "cell " "cell" (j1 x) (by decide +kernel)) (j1 _) (by decide +kernel)) (wd_lit "cell" (by decide +kernel) (by decide +kernel)) (wd_word hx) (wd_lit "=" (by decide +kernel) (by decide +kernel)) (wd_num h30 hL) (by decide +kernel) (by decide +kernel)
theorem l_ans {b : Bool} {x : Str} (hx : isWord x = true) : Ln L (kTx b ++ x) [kWd b, x] := by
  cases b
  · exact lw2 (jA "each " "each" (j1 x) (by decide +kernel)) (wd_lit "each" (by decide +kernel) (by decide +kernel)) (wd_word hx)
  · exact lw2 (jA "kept " "kept" (j1 x) (by decide +kernel)) (wd_lit "kept" (by decide +kernel) (by decide +kernel)) (wd_word hx)
theorem l_give (hL : (0 : Int) ∈ L) : Ln L (Str.ofString "give 0") giveW := lw2 ⟨by decide +kernel, by simp⟩ (wd_lit "give" (by decide +kernel) (by decide +kernel)) (wd_num (by decide) hL)
theorem l_eff {x : Str} (hx : isWord x = true) : Ln L (Str.ofString "effect " ++ x) [Str.ofString "effect", x] := lw2 (jA "effect " "effect" (j1 x) (by decide +kernel)) (wd_lit "effect" (by decide +kernel) (by decide +kernel)) (wd_word hx)
theorem l_han {x : Str} (hx : isWord x = true) : Ln L (Str.ofString "handler " ++ x) [Str.ofString "handler", x] := lw2 (jA "handler " "handler" (j1 x) (by decide +kernel)) (wd_lit "handler" (by decide +kernel) (by decide +kernel)) (wd_word hx)
theorem l_tell {n : Nat} (h : n < 10 ^ 30) (hL : (n : Int) ∈ L) : Ln L (Str.ofString "tell " ++ numT n) (tellW n) := lw2 (jA "tell " "tell" (j1 _) (by decide +kernel)) (wd_lit "tell" (by decide +kernel) (by decide +kernel)) (wd_num h hL)
def opW (wh : Nat) (c : Str) (k : Nat) : List Str := if wh = 3 then (if k % 2 = 0 then [Str.ofString "quiet"] else [Str.ofString "if", c, Str.ofString "!=", numT 0]) else if wh = 0 then [Str.ofString "quiet"] else if wh = 1 then [Str.ofString "if", c, Str.ofString "==", numT 0] else [Str.ofString "batch"]
theorem l_if (s s' : String) (e : Str.ofString s = Str.ofString (" " ++ s' ++ " 0")) {c : Str} (hc : isWord c = true) (hL : (0 : Int) ∈ L) (e2 : Str.ofString s = (sp1 ++ Str.ofString s' ++ sp1) ++ numT 0) (h1 : Wd L (Str.ofString s')) (h2 : isNumber (Str.ofString s') = false) : Ln L (Str.ofString "if " ++ c ++ Str.ofString s) [Str.ofString "if", c, Str.ofString s', numT 0] := by
  refine lw4 ?_ (wd_lit "if" (by decide +kernel) (by decide +kernel)) (wd_word hc) h1 (wd_num (by decide) hL) (by decide +kernel) h2
  have j := jA "if " "if" (j1 c) (by decide +kernel)
  refine ⟨?_, by simp⟩
  rw [e2, j.1]
  have a1 : Str.join sp1 ([Str.ofString "if", c] ++ [Str.ofString s', numT 0]) = Str.join sp1 [Str.ofString "if", c] ++ sp1 ++ Str.join sp1 [Str.ofString s', numT 0] := join_app (by simp) (by simp)
  show _ = Str.join sp1 ([Str.ofString "if", c] ++ [Str.ofString s', numT 0])
  rw [a1, join_cons (a := Str.ofString s') (ws := [numT 0]) (by simp)]
  show _ = _ ++ sp1 ++ (Str.ofString s' ++ sp1 ++ numT 0)
  simp only [app_assoc]
theorem l_op {wh k : Nat} {c : Str} (hc : isWord c = true) (hL : (0 : Int) ∈ L) : Ln L (opT wh c k) (opW wh c k) := by
  have q : Ln L (Str.ofString "quiet") [Str.ofString "quiet"] := lw1 (j1 _) (wd_lit "quiet" (by decide +kernel) (by decide +kernel))
  have b : Ln L (Str.ofString "batch") [Str.ofString "batch"] := lw1 (j1 _) (wd_lit "batch" (by decide +kernel) (by decide +kernel))
  have i1 : Ln L (Str.ofString "if " ++ c ++ Str.ofString " != 0") [Str.ofString "if", c, Str.ofString "!=", numT 0] := l_if " != 0" "!=" (by decide +kernel) hc hL (by decide +kernel) (wd_lit "!=" (by decide +kernel) (by decide +kernel)) (by decide +kernel)
  have i2 : Ln L (Str.ofString "if " ++ c ++ Str.ofString " == 0") [Str.ofString "if", c, Str.ofString "==", numT 0] := l_if " == 0" "==" (by decide +kernel) hc hL (by decide +kernel) (wd_lit "==" (by decide +kernel) (by decide +kernel)) (by decide +kernel)
  unfold opT opW
  split
  · split <;> assumption
  split
  · assumption
  split <;> assumption
theorem lns_map {α : Type} {f : α → Str} {g : α → List Str} : ∀ {xs : List α}, (∀ x ∈ xs, Ln L (f x) (g x)) → Lns L (xs.map f) (xs.map g)
  | [], _ => .nil
  | x :: xs, h => .cons (h x (by simp)) (lns_map fun y hy => h y (by simp [hy]))
theorem lns_flat {α : Type} {f : α → List Str} {g : α → List (List Str)} : ∀ {xs : List α}, (∀ x ∈ xs, Lns L (f x) (g x)) → Lns L (xs.flatMap f) (xs.flatMap g)
  | [], _ => .nil
  | x :: xs, h => by
    rw [List.flatMap_cons, List.flatMap_cons]
    exact .app (h x (by simp)) (lns_flat fun y hy => h y (by simp [hy]))
theorem lns_cells {m : Nat} (hm : 0 < m) (h30 : m < 10 ^ 30) (hL : ∀ n, n < m → (n : Int) ∈ L) : ∀ (xs : List Str) (k : Nat), (∀ x ∈ xs, isWord x = true) → Lns L (xs.mapIdx fun i x => cellT m (i + k) x) (xs.mapIdx fun i x => cellWs (x, (i + k) % m))
  | [], _, _ => .nil
  | x :: xs, k, h => by
    rw [List.mapIdx_cons, List.mapIdx_cons]
    have hlt := Nat.mod_lt (0 + k) hm
    refine .cons (l_cell (h x (by simp)) (Nat.lt_trans hlt h30) (hL _ hlt)) ?_
    have r := lns_cells hm h30 hL xs (k + 1) fun y hy => h y (by simp [hy])
    have e1 : (fun i x => cellT m (i + 1 + k) x) = fun i x => cellT m (i + (k + 1)) x := by funext i x; rw [show i + 1 + k = i + (k + 1) by omega]
    have e2 : (fun i (x : Str) => cellWs (x, (i + 1 + k) % m)) = fun i x => cellWs (x, (i + (k + 1)) % m) := by funext i x; rw [show i + 1 + k = i + (k + 1) by omega]
    rw [e1, e2]
    exact r
/-- the blocks and their words -/
theorem lns_nest {n wh : Nat} {c : Str} (hc : isWord c = true) (hL : (0 : Int) ∈ L) : Lns L (deepL n wh c) (nestW ((List.range n).map (opW wh c))) := by
  unfold deepL nestW
  refine .app (lns_map fun k _ => l_op hc hL) ?_
  rw [List.length_map, List.length_range]
  have e1 : List.replicate n (Str.ofString "end") = (List.range n).map fun _ => Str.ofString "end" := (range_const _ _).symm
  have e2 : List.replicate n endW = (List.range n).map fun _ => endW := by rw [List.map_const', List.length_range]
  rw [e1, e2]
  exact lns_map fun _ _ => l_end
end
end Tr
set_option maxHeartbeats 2000000
namespace Tr
open PySem L2
theorem what_of {ls : List Str} {wss : List (List Str)} {L : List Int} (h : Lns L ls wss) (l95 : ls.length ≤ 95) (hL : L.length ≤ 60) {r : Nat ⊕ Option Str}
    (hb : (∃ i, r = .inl i ∧ bookC wss = some i) ∨ (bookC wss = none ∧ ∃ co, readC co0 wss 0 = .inr co ∧ (∀ j ∈ L, j ∈ wss.flatMap numsOf) ∧ L.Pairwise (· < ·) ∧ r = .inr (overOf (boundsOf ls.length co.cells.length co.answers.length co.effects.length co.handlers.length co.deepest L.length)))) : WhatIs ls r := by
  have hbk : bookV (ls.map V.str) = bookC wss := by rw [bookV_str, bookAt_co, h.1]
  have hwr : ∀ k, readK bk0 ls 0 = .inr k → k.written = wss.flatMap numsOf := fun k hk => by
    have ew := readK_wr hk
    rw [ew, ← h.1, List.flatMap_map]
    rfl
  have hsub : ∀ k, readK bk0 ls 0 = .inr k → ∀ j ∈ k.written, j ∈ L := fun k hk => by
    obtain ⟨w1, w2⟩ := h.wr
    have ew : k.written = ls.flatMap fun l => numsOf (wordsOf l) := by rw [readK_wr hk]; rfl
    rw [ew]
    exact w2
  refine ⟨l95, fun H => h.ok H, fun k hk hc => ⟨L, hL, hsub k (by rw [readV_str] at hk; exact hk)⟩, fun i hi => ?_, fun k ns hn hk hp hm => ?_⟩
  · rw [hbk] at hi
    rcases hb with ⟨j, rfl, e⟩ | ⟨e, _⟩
    · rw [e] at hi; cases hi; rfl
    · rw [e] at hi; cases hi
  · rw [hbk] at hn
    rw [readV_str] at hk
    rcases hb with ⟨j, rfl, e⟩ | ⟨_, co, q, hj, lp, rfl⟩
    · rw [e] at hn; cases hn
    · have e := readK_inr hk
      have e0 : coOf bk0 = co0 := rfl
      rw [e0, h.1, q] at e
      have e : co = coOf k := by injection e
      subst e
      have l1 : ns.length ≤ L.length := nodup_sub hp fun j hjn => hsub k hk j ((hm j).mp hjn)
      have l2 : L.length ≤ ns.length := nodup_sub lp fun j hjL => (hm j).mpr (by rw [hwr k hk]; exact hj j hjL)
      have l3 : L.length = ns.length := by omega
      unfold overK
      rw [List.length_map, l3]
      simp [coOf]
theorem lp_range (n : Nat) : ((List.range n).map fun (k : Nat) => (k : Int)).Pairwise (· < ·) := by
  rw [List.pairwise_map]
  exact List.pairwise_lt_range.imp fun h => by omega
theorem readC_snoc {W : List (List Str)} {c c' : Co} {w : List Str} (h : reach co0 W c) (e : takeC c w = some c') : readC co0 (W ++ [w]) 0 = .inr c' := reach_app h (reach_one e) 0
theorem what10 {s : Sz} {C : List Str} {A : List (Bool × Str)} {E G : List Str} {wh : Nat} (ok : SzOk s) (D : Dr s C A E G) (hw : wh < 4) : ∀ B, B = built s (base10 (s.n - 1) C A E G) wh (C.headD (Str.ofString "")) →
    B.length = s.l ∧ WhatIs B (.inr (overOf (boundsOf s.l s.c s.a s.e s.g s.d s.n))) ∧ WhatIs (B ++ [Str.ofString "end"]) (.inl s.l) ∧ WhatIs B.dropLast (.inl (s.l - 1)) := by
  intro B hB
  have okc := ok.c
  have oka := ok.a
  have oke := ok.e
  have okg := ok.g
  have okd := ok.d
  have okn := ok.n
  have okl := ok.l
  have dc := D.c
  have da := D.a
  have de := D.e
  have dg := D.g
  obtain ⟨c0, C', hC⟩ : ∃ c C', C = c :: C' := by
    cases h : C with
    | nil => rw [h] at dc; simp at dc; omega
    | cons c C' => exact ⟨c, C', rfl⟩
  obtain ⟨⟨b, x⟩, A', rfl⟩ : ∃ c A', A = c :: A' := by
    cases h : A with
    | nil => rw [h] at da; simp at da; omega
    | cons c C' => exact ⟨c, C', rfl⟩
  obtain ⟨e, E', rfl⟩ : ∃ c A', E = c :: A' := by
    cases h : E with
    | nil => rw [h] at de; simp at de; omega
    | cons c C' => exact ⟨c, C', rfl⟩
  obtain ⟨G', g, rfl⟩ : ∃ A' c, G = A' ++ [c] := by
    rcases List.eq_nil_or_concat G with h | ⟨G', g, h⟩
    · rw [h] at dg; simp at dg; omega
    · exact ⟨G', g, by rw [h]; simp⟩
  have hd0 : C.headD (Str.ofString "") = c0 := by rw [hC]; rfl
  rw [hd0] at hB
  simp only [List.length_cons, List.length_append, List.length_nil] at da de dg
  obtain ⟨pads, hcan, hlen⟩ := built_canon (s := s) (b := b) (x := x) (A := A') (e := e) (E := E') (G := G') (g := g) (wh := wh) (c0 := c0) dc da hw
  have hlen := hlen (by omega)
  rw [← hB] at hcan hlen
  have hwall := D.w
  have wC : ∀ y ∈ C, isWord y = true := fun y hy => hwall y (by simp [hy])
  have wx : isWord x = true := hwall x (by simp)
  have wA : ∀ y ∈ A', isWord y.2 = true := fun y hy => hwall y.2 (by
    simp only [List.mem_append, List.map_cons, List.mem_cons, List.mem_map]
    exact .inl (.inl (.inr (.inr ⟨y, hy, rfl⟩))))
  have we : isWord e = true := hwall e (by simp)
  have wE : ∀ y ∈ E', isWord y = true := fun y hy => hwall y (by simp [hy])
  have wG : ∀ y ∈ G', isWord y = true := fun y hy => hwall y (by simp [hy])
  have wg : isWord g = true := hwall g (by simp)
  have wc0 : isWord c0 = true := wC c0 (by rw [hC]; simp)
  have c0C : c0 ∈ C := by rw [hC]; simp
  generalize hL : ((List.range s.n).map fun (k : Nat) => (k : Int)) = L
  have lL : L.length = s.n := by rw [← hL]; simp
  have mL : ∀ n, n < s.n → (n : Int) ∈ L := fun n hn => by rw [← hL]; exact List.mem_map.mpr ⟨n, List.mem_range.mpr hn, rfl⟩
  have zL : (0 : Int) ∈ L := mL 0 (by omega)
  have big : s.n < 10 ^ 30 := Nat.lt_trans (show s.n < 6 by omega) (by decide)
  let ops := (List.range s.d).map (opW wh c0)
  let w1 := if 3 = wh then ops else []
  let w2 := if wh < 2 then ops else []
  let w3 := if 2 = wh then ops else []
  have nestL : Lns L (deepL s.d wh c0) (nestW ops) := lns_nest wc0 zL
  have ln1 : Lns L (inn wh 3 (deepL s.d wh c0)) (nestW w1) := by
    show Lns L (if 3 = wh then deepL s.d wh c0 else []) (nestW (if 3 = wh then ops else []))
    by_cases h : 3 = wh
    · rw [if_pos h, if_pos h]; exact nestL
    · rw [if_neg h, if_neg h]; exact .nil
  have ln2 : Lns L (if wh < 2 then deepL s.d wh c0 else []) (nestW w2) := by
    show Lns L (if wh < 2 then deepL s.d wh c0 else []) (nestW (if wh < 2 then ops else []))
    by_cases h : wh < 2
    · rw [if_pos h, if_pos h]; exact nestL
    · rw [if_neg h, if_neg h]; exact .nil
  have ln3 : Lns L (inn wh 2 (deepL s.d wh c0)) (nestW w3) := by
    show Lns L (if 2 = wh then deepL s.d wh c0 else []) (nestW (if 2 = wh then ops else []))
    by_cases h : 2 = wh
    · rw [if_pos h, if_pos h]; exact nestL
    · rw [if_neg h, if_neg h]; exact .nil
  have lw : max (max w1.length w2.length) w3.length = s.d := by
    have lo : ops.length = s.d := by simp [ops]
    have hcs : wh = 0 ∨ wh = 1 ∨ wh = 2 ∨ wh = 3 := by omega
    rcases hcs with h | h | h | h <;> (simp only [w1, w2, w3, h]; simp [lo])
  have ansW : Lns L (ansT A') ((A'.map fun y => (kWd y.1, y.2)).flatMap fun y => ansB y.1 y.2 []) := by
    rw [List.flatMap_map]
    exact lns_flat fun y hy => .cons (l_ans (wA y hy)) (.cons (l_give zL) (.cons l_end .nil))
  let W := open10 (s.n - 1) C (kWd b, x) (A'.map fun y => (kWd y.1, y.2)) e E' G' g (List.replicate pads 0) (List.range s.n) w1 w2 w3
  have LN : Lns L B (W ++ [endW]) := by
    rw [hcan]
    have cc := lns_cells (L := L) (m := s.n - 1) (by omega) (by omega) (fun n hn => mL n (by omega)) C 0 wC
    have padL : Lns L (List.replicate pads (Str.ofString "tell 0")) ((List.replicate pads 0).map tellW) := by
      have e1 : List.replicate pads (Str.ofString "tell 0") = (List.replicate pads 0).map fun n => Str.ofString "tell " ++ numT n := by
        rw [List.map_replicate]
        congr 1
      rw [e1]
      refine lns_map fun n hn => ?_
      rw [(List.mem_replicate.mp hn).2]
      exact l_tell (by decide) zL
    have moreL : Lns L (moreT s.n) ((List.range s.n).map tellW) := lns_map fun n hn => l_tell (Nat.lt_trans (List.mem_range.mp hn) big) (mL n (List.mem_range.mp hn))
    exact .app (.app (.app (.app (.app (.app (.app cc (.cons (l_ans wx) (.app ln1 (.cons (l_give zL) (.cons l_end .nil))))) ansW)
      (.cons (l_eff we) (.app (.app (.app padL ln2) moreL) (.cons l_end .nil)))) (lns_flat fun y hy => .cons (l_eff (wE y hy)) (.cons l_end .nil))) (lns_flat fun y hy => .cons (l_han (wG y hy)) (.cons l_end .nil)))
      (.cons (l_han wg) ln3)) (.cons l_end .nil)
  have N : N10 C ((kWd b, x) :: A'.map fun y => (kWd y.1, y.2)) (e :: E') (G' ++ [g]) := by
    refine ⟨wC, fun y hy => ?_, fun y hy => ?_, fun y hy => ?_, ?_, by rw [hC]; simp⟩
    · have kk : ∀ b, kWd b = Str.ofString "kept" ∨ kWd b = Str.ofString "each" := fun b => by cases b <;> simp [kWd]
      rcases List.mem_cons.mp hy with rfl | q
      · exact ⟨wx, kk _⟩
      · obtain ⟨z, hz, rfl⟩ := List.mem_map.mp q
        exact ⟨wA z hz, kk _⟩
    · rcases List.mem_cons.mp hy with rfl | q
      · exact we
      · exact wE y q
    · rcases List.mem_append.mp hy with q | q
      · exact wG y q
      · rw [List.mem_singleton.mp q]; exact wg
    · have nd := D.nd
      have em : (A'.map fun y => (kWd y.1, y.2)).map (fun x : Str × Str => x.2) = A'.map (fun x : Bool × Str => x.2) := by rw [List.map_map]; rfl
      rw [List.map_cons, em]
      exact nd
  have cz : ∀ c, c = c0 → c ∈ C := fun c h => by rw [h]; exact c0C
  obtain ⟨bd, dd, r1, r2⟩ := read10 (m := s.n - 1) (p := List.replicate pads 0) (q := List.range s.n) (w1 := w1) (w2 := w2) (w3 := w3) N ⟨by omega, by omega⟩ (fun n hn => by rw [(List.mem_replicate.mp hn).2]; decide) (fun n hn => Nat.lt_trans (List.mem_range.mp hn) big)
    (fun w hw1 => by
      by_cases h : 3 = wh
      · have hw1 : w ∈ ops := by simpa only [w1, if_pos h] using hw1
        obtain ⟨k, _, rfl⟩ := List.mem_map.mp hw1
        unfold opW
        rw [if_pos h.symm]
        split
        · exact op_quiet (by simp [ofString_inj])
        · exact op_if (.inr rfl) c0C wc0
      · simp only [w1, if_neg h] at hw1; cases hw1)
    (fun w hw1 => by
      by_cases h : wh < 2
      · have hw1 : w ∈ ops := by simpa only [w2, if_pos h] using hw1
        obtain ⟨k, _, rfl⟩ := List.mem_map.mp hw1
        unfold opW
        rw [if_neg (by omega)]
        split
        · exact op_quiet (by simp [ofString_inj])
        · rw [if_pos (by omega)]
          exact op_if (.inl rfl) (List.mem_append.mpr (.inl c0C)) wc0
      · simp only [w2, if_neg h] at hw1; cases hw1)
    (fun w hw1 => by
      by_cases h : 2 = wh
      · have hw1 : w ∈ ops := by simpa only [w3, if_pos h] using hw1
        obtain ⟨k, _, rfl⟩ := List.mem_map.mp hw1
        unfold opW
        rw [if_neg (by omega), if_neg (by omega), if_neg (by omega)]
        exact op_batch
      · simp only [w3, if_neg h] at hw1; cases hw1)
  rw [lw] at r2
  have lB : (W ++ [endW]).length = s.l := by
    have := LN.1
    rw [← this, List.length_map, hlen]
  have lW : W.length = s.l - 1 := by simp at lB; omega
  have rB := readC_snoc r1 r2
  have e10 : ∀ j ∈ L, j ∈ (W ++ [endW]).flatMap numsOf := fun j hj => by
    rw [← hL] at hj
    obtain ⟨n, hn, rfl⟩ := List.mem_map.mp hj
    have hn' := List.mem_range.mp hn
    have n30 : n < 10 ^ 30 := Nat.lt_trans hn' big
    refine List.mem_flatMap.mpr ⟨tellW n, ?_, ?_⟩
    · refine List.mem_append.mpr (.inl ?_)
      show tellW n ∈ open10 _ _ _ _ _ _ _ _ _ _ _ _ _
      unfold open10 effB
      simp only [List.mem_append, List.mem_cons, List.mem_map]
      exact .inl (.inl (.inl (.inr (.inr (.inl (.inr ⟨n, hn, rfl⟩))))))
    · unfold tellW
      rw [nums_no ln_tell, nums_yes (isNumber_num n30), nums_nil, intOf_numT n30]
      simp
  have hcomp : (Co.mk C (((kWd b, x) :: A'.map fun y => (kWd y.1, y.2)).map (·.2)) (e :: E') (G' ++ [g]) none s.d).complete = true := by
    simp [Co.complete, hC]
  refine ⟨hlen, ?_, ?_, ?_⟩
  · refine what_of LN (by omega) (by omega) (.inr ⟨?_, _, rB, e10, by rw [← hL]; exact lp_range _, ?_⟩)
    · unfold bookC
      rw [rB]
      simp only [hcomp, if_true]
    · rw [hlen, lL]
      simp only [List.length_map, List.length_cons, List.length_append, List.length_nil]
      rw [dc, da, de, dg]
  · have LN2 : Lns L (B ++ [Str.ofString "end"]) ((W ++ [endW]) ++ [endW]) := .app LN (.cons l_end .nil)
    refine what_of LN2 (by simp; omega) (by omega) (.inl ⟨_, rfl, ?_⟩)
    have en : takeC ⟨C, ((kWd b, x) :: A'.map fun y => (kWd y.1, y.2)).map (·.2), e :: E', G' ++ [g], none, s.d⟩ endW = none := rfl
    have r3 : readC co0 ((W ++ [endW]) ++ [endW]) 0 = .inl s.l := by
      rw [readC_app [endW] (W ++ [endW]) co0 _ 0 rB, Nat.zero_add, lB]
      unfold readC
      rw [en]
    unfold bookC
    rw [r3]
  · have LN3 : Lns L B.dropLast W := by
      have := LN.take (s.l - 1)
      rw [List.take_left' lW] at this
      rw [List.dropLast_eq_take, hlen]
      exact this
    refine what_of LN3 (by simp; omega) (by omega) (.inl ⟨_, rfl, ?_⟩)
    unfold bookC
    rw [r1 0]
    simp [Co.complete, lW]
end Tr
set_option maxHeartbeats 4000000

namespace Tr
open PySem L2
section
variable {P : Program} {w : World} {K : PySem.W.Frag} {mg : Str → Option Value} {base : Heap} {a : Nat → Addr} {fd : Nat → FuncData} {tk : Nat → Tok}
local macro_rules | `(tactic| walk_at "ne") => `(tactic| first | assumption | (exact Ne.symm (by assumption)) | (refine ne_of_none (by assumption) (by assumption)) | (refine Ne.symm (ne_of_none (by assumption) (by assumption))))
local macro_rules | `(tactic| walk_at "hl") => `(tactic| first | assumption | with_reducible exact upd_same | ((with_reducible refine' Eq.trans (upd_ne ?hne) ?hrest); (case hne => walk_at "ne"); (case hrest => walk_at "hl")) | (refine' get_same ?hs ?hg; (case hs => assumption); (case hg => assumption)))
local macro_rules | `(tactic| walk_at "at") => `(tactic| first | with_reducible exact atI_0 _ _ | with_reducible exact atI_1 _ _ _ | with_reducible exact atI_2 _ _ _ _ | with_reducible exact atI_3 _ _ _ _ _ | assumption)
local macro_rules | `(tactic| walk_at "rd1") => `(tactic| first
  | with_reducible refine s_seq ?_ | with_reducible refine s_next ?_ | with_reducible refine s_if ?_ | with_reducible refine s_ret ?_ | with_reducible refine s_retN ?_ | with_reducible refine s_drop ?_ | with_reducible refine s_asg ?_ | with_reducible refine s_brk ?_ | with_reducible refine s_cont ?_
  | with_reducible refine s_gname ?_ | with_reducible refine s_c ?_ | with_reducible refine s_op ?_ | with_reducible refine s_un ?_ | with_reducible refine s_neg ?_ | with_reducible refine s_test ?_ | with_reducible refine s_tb ?_ | with_reducible refine s_not ?_ | with_reducible refine s_and ?_ | with_reducible refine s_or ?_ | with_reducible refine s_yes ?_
  | ((with_reducible refine' s_var ?hv ?_); (case hv => exact rfl))
  | with_reducible refine s_ifx ?_ | with_reducible refine s_andV ?_ | with_reducible refine s_orV ?_ | with_reducible refine s_notV ?_ | with_reducible refine s_chain ?_ | with_reducible refine s_nil ?_ | with_reducible refine s_cons ?_ | with_reducible refine s_lst ?_ | with_reducible refine s_tup ?_ | with_reducible refine s_cb ?_ | with_reducible refine s_call ?_ | with_reducible refine s_meth ?_ | with_reducible refine s_make ?_
  | with_reducible refine s_dnewK ?_ | with_reducible refine s_sl ?_ | with_reducible refine s_po0 ?_ | with_reducible refine s_po1 ?_ | with_reducible refine s_bm ?_ | with_reducible refine s_bm0 ?_
  | with_reducible refine s_bl ?_ | with_reducible refine s_int ?_ | with_reducible refine s_I0 ?_ | with_reducible refine s_addI ?_ | with_reducible refine s_intI ?_ | with_reducible refine s_intB ?_
  | with_reducible refine s_m1 ?_ | with_reducible refine s_lc ?_ | with_reducible refine s_ilist ?_ | with_reducible refine s_for ?_ | with_reducible refine s_irng ?_ | with_reducible refine s_match ?_ | with_reducible refine s_starT ?_ | with_reducible refine s_isS ?_ | with_reducible refine s_isiSS ?_ | with_reducible refine s_fldU ?_ | with_reducible refine s_sfldU ?_
  | ((with_reducible refine' s_eqS ?hq ?_); (case hq => exact rfl)) | ((with_reducible refine' s_neS ?hq ?_); (case hq => exact rfl))
  | ((with_reducible refine' s_isN ?hq ?_); (case hq => exact rfl)) | ((with_reducible refine' s_notN ?hq ?_); (case hq => exact rfl))
  | ((with_reducible refine' s_eqNil ?h1 ?h2 ?_); (case h1 => walk_at "hl"); (case h2 => walk_at "hl")) | ((with_reducible refine' s_neNil ?h1 ?h2 ?_); (case h1 => walk_at "hl"); (case h2 => walk_at "hl"))
  | ((with_reducible refine' s_ixL ?h1 ?h2 ?_); (case h1 => walk_at "hl"); (case h2 => walk_at "at")) | ((with_reducible refine' s_ixT ?h1 ?h2 ?_); (case h1 => walk_at "hl"); (case h2 => walk_at "at"))
  | ((with_reducible refine' s_inS ?h1 ?_); (case h1 => walk_at "hl")) | ((with_reducible refine' s_ninS ?h1 ?_); (case h1 => walk_at "hl")) | with_reducible refine s_inW ?_
  | ((with_reducible refine' s_lenL ?h1 ?_); (case h1 => walk_at "hl")) | ((with_reducible refine' s_lenT ?h1 ?_); (case h1 => walk_at "hl"))
  | ((with_reducible refine' s_tyL ?h1 ?_); (case h1 => walk_at "hl"))
  | ((with_reducible refine' s_fldM ?h1 ?h2 ?h3 ?_); (case h1 => walk_at "hl"); (case h2 => walk_at "fok"); (case h3 => walk_at "flk"))
  | ((with_reducible refine' s_setM ?h1 ?h2 ?h3 ?h4 ?_); (case h1 => walk_at "hl"); (case h2 => walk_at "fok"); (case h4 => walk_at "put"); (case h3 => exact Nat.le_of_ble_eq_true rfl))
  | ((with_reducible refine' s_starM ?h1 ?_); (case h1 => walk_at "hl"))
  | ((with_reducible refine' s_recv ?h1 ?h2 ?_); (case h1 => walk_at "hl"); (case h2 => exact rfl))
  | ((with_reducible refine' s_sz ?h1 ?_); (case h1 => (simp; done))))
local macro_rules | `(tactic| walk_at "rd") => `(tactic| repeat (walk_at "rd1"))
local macro_rules | `(tactic| walk_at "fok") => `(tactic| assumption)
local macro_rules | `(tactic| walk_at "flk") => `(tactic| rfl)
local macro_rules | `(tactic| walk_at "put") => `(tactic| exact rfl)

local macro_rules | `(tactic| walk_at "fok") => `(tactic| first | assumption | exact Tk.bk (by assumption) (by decide))
def wordsS : List Str := [Str.ofString "lines", Str.ofString "cells", Str.ofString "answers", Str.ofString "effects", Str.ofString "handlers", Str.ofString "deep", Str.ofString "numbers"]
def mostS : List Int := [80, 4, 3, 3, 3, 8, 4]
def bit (bs : List Int) (k : Nat) : Nat := if bs.contains (k : Int) then 1 else 0
def szOf (bs : List Int) : Sz := ⟨80 + bit bs 0, 4 + bit bs 1, 3 + bit bs 2, 3 + bit bs 3, 3 + bit bs 4, 8 + bit bs 5, 4 + bit bs 6⟩
def dueO : List Int → Option Str
  | [] => none
  | [x] => some (wordsS.getD x.toNat "")
  | x :: y :: _ => some (wordsS.getD (min x.toNat y.toNat) "")
def overB (bs : List Int) : Option Str := overOf (boundsOf (szOf bs).l (szOf bs).c (szOf bs).a (szOf bs).e (szOf bs).g (szOf bs).d (szOf bs).n)
def Bs (f g : Int) (bs : List Int) : Prop := bs = [] ∨ bs = [f] ∨ bs = [g] ∨ bs = [f, g]
theorem over_all : ((List.range 7).all fun f => (List.range 7).all fun g => [[], [(f : Int)], [(g : Int)], [(f : Int), (g : Int)]].all fun bs => decide (overB bs = dueO bs)) = true := by decide +kernel
theorem over_due {f g : Int} (f0 : 0 ≤ f) (f7 : f < 7) (g0 : 0 ≤ g) (g7 : g < 7) {bs : List Int} (h : Bs f g bs) : overB bs = dueO bs := by
  obtain ⟨n, rfl⟩ : ∃ n : Nat, f = (n : Int) := ⟨f.toNat, by omega⟩
  obtain ⟨m, rfl⟩ : ∃ n : Nat, g = (n : Int) := ⟨g.toNat, by omega⟩
  have a := over_all
  rw [List.all_eq_true] at a
  have a := a n (List.mem_range.mpr (by omega))
  rw [List.all_eq_true] at a
  have a := a m (List.mem_range.mpr (by omega))
  rw [List.all_eq_true] at a
  refine of_decide_eq_true (a bs ?_)
  rcases h with rfl | rfl | rfl | rfl <;> simp
theorem szOk_of (bs : List Int) : SzOk (szOf bs) := by
  have hb : ∀ k, bit bs k = 0 ∨ bit bs k = 1 := fun k => by unfold bit; split <;> simp
  constructor <;> (simp only [szOf]; first
    | (rcases hb 0 with h | h <;> omega) | (rcases hb 1 with h | h <;> omega) | (rcases hb 2 with h | h <;> omega) | (rcases hb 3 with h | h <;> omega) | (rcases hb 4 with h | h <;> omega) | (rcases hb 5 with h | h <;> omega) | (rcases hb 6 with h | h <;> omega))
theorem inV_int (k : Int) : ∀ bs : List Int, inV (.int k) (bs.map V.int) = bs.contains k
  | [] => rfl
  | b :: l => by
    have ih := inV_int k l
    unfold inV at ih ⊢
    rw [List.map_cons, List.any_cons, ih, List.contains_cons]
    congr 1
    show (b == k) = (k == b)
    rw [Bool.eq_iff_iff, beq_iff_eq, beq_iff_eq]
    exact eq_comm
theorem sz_step (bs : List Int) (i : Nat) (hi : i < 7) : atI (mostS.map V.int) (i : Int) = some (.int (mostS.getD i 0)) ∧ atI (wordsS.map V.str) (i : Int) = some (.str (wordsS.getD i "")) ∧
    putK ((szK (szOf bs)).take i) (.inr (wordsS.getD i "")) (.int (mostS.getD i 0 + (if bs.contains (i : Int) = true then 1 else 0))) = (szK (szOf bs)).take (i + 1) := by
  have hc : i = 0 ∨ i = 1 ∨ i = 2 ∨ i = 3 ∨ i = 4 ∨ i = 5 ∨ i = 6 := by omega
  have hb : ∀ k : Nat, ((bit bs k : Nat) : Int) = if bs.contains (k : Int) = true then 1 else 0 := fun k => by unfold bit; split <;> rfl
  rcases hc with rfl | rfl | rfl | rfl | rfl | rfl | rfl <;> refine ⟨rfl, rfl, ?_⟩ <;> (rw [← hb]; simp [szK, szOf, putK, wordsS, mostS, ofString_inj])
theorem flat_ints (bs : List Int) : (bs.map V.int).all flatV = true := by
  rw [List.all_eq_true]
  intro v hv
  obtain ⟨x, _, rfl⟩ := List.mem_map.mp hv
  rfl
theorem shape_line (n : Nat) : SeqAt.shaped (.tuple [.str (Str.ofString "line"), .int (n : Int)]) = true := by
  have h : PyData.strOk (Str.ofString "line") = true := by decide +kernel
  simp [SeqAt.shaped, PyData.canLay0, PyData.canLayAll0, PyData.depth, PyData.depthAll, h]
theorem due_at {f g m : Int} (f0 : 0 ≤ f) (f7 : f < 7) (g0 : 0 ≤ g) (g7 : g < 7) {bs : List Int} (h : Bs f g bs) (hm : m ∈ bs) (hle : ∀ y, y ∈ bs → m ≤ y) : ∃ z, dueO bs = some z ∧ atI (wordsS.map V.str) m = some (.str z) := by
  have at_ : ∀ x : Int, 0 ≤ x → x < 7 → atI (wordsS.map V.str) x = some (.str (wordsS.getD x.toNat "")) := fun x h0 h7 => by
    obtain ⟨n, rfl⟩ : ∃ n : Nat, x = (n : Int) := ⟨x.toNat, by omega⟩
    exact (sz_step [] n (by omega)).2.1
  rcases h with rfl | rfl | rfl | rfl
  · cases hm
  · rw [List.mem_singleton.mp hm]; exact ⟨_, rfl, at_ f f0 f7⟩
  · rw [List.mem_singleton.mp hm]; exact ⟨_, rfl, at_ g g0 g7⟩
  · have h1 := hle f (by simp)
    have h2 := hle g (by simp)
    have h3 : m = f ∨ m = g := by simpa using hm
    have e : m.toNat = min f.toNat g.toNat := by omega
    refine ⟨_, rfl, ?_⟩
    rw [← e]
    exact at_ m (by omega) (by omega)
theorem shape_most : SeqAt.shaped (.list (mostS.map PyData.int)) = true := by
  simp [SeqAt.shaped, mostS, PyData.canLay0, PyData.canLayAll0, PyData.depth, PyData.depthAll]
theorem s_eqMost {H : Hp} {Q : VK} {p q : Addr} (hp : H p = some (.lst (mostS.map V.int))) (hq : H q = some (.lst (mostS.map V.int))) (k : Q (.bl true) H) : rEqU K (.ref p) (.ref q) H Q := by
  unfold rEqU
  rw [if_neg (by simp [scal])]
  have hq' : H q = some (.lst [.int 80, .int 4, .int 3, .int 3, .int 3, .int 8, .int 4]) := hq
  simp only [hq']
  have dpI : ∀ ns : List Int, DpAll K H (ns.map V.int) (ns.map PyData.int) := fun ns => by
    induction ns with
    | nil => exact .nil
    | cons x l ih => exact .cons (.int x) ih
  refine ⟨.list (mostS.map PyData.int), .list (mostS.map PyData.int), .lst (SqL.of hp) (dpI _), .lst (SqL.of hq) (dpI _), shape_most, shape_most, ?_⟩
  have e : PyData.eqv (.list (mostS.map PyData.int)) (.list (mostS.map PyData.int)) = true := by simp [mostS, PyData.eqv, PyData.eqvAll]
  rw [e]
  exact k
theorem s_neLine {H : Hp} {Q : VK} {p q : Addr} {n : Nat} (hp : H p = some (.tup [.str (Str.ofString "line"), .int (n : Nat)])) (hq : H q = some (.tup [.str (Str.ofString "line"), .int (n : Nat)])) (k : Q (.bl false) H) : rNeU K (.ref p) (.ref q) H Q := by
  unfold rNeU
  rw [if_neg (by simp [scal])]
  simp only [hq]
  refine ⟨.tuple [.str (Str.ofString "line"), .int (n : Int)], .tuple [.str (Str.ofString "line"), .int (n : Int)], .tup (SqT.of hp) (.cons (.str _) (.cons (.int _) .nil)), .tup (SqT.of hq) (.cons (.str _) (.cons (.int _) .nil)), shape_line n, shape_line n, ?_⟩
  have e : PyData.eqv (.tuple [.str (Str.ofString "line"), .int (n : Int)]) (.tuple [.str (Str.ofString "line"), .int (n : Int)]) = true := by simp [PyData.eqv, PyData.eqvAll]
  rw [e]
  exact k
theorem cutV_last (xs : List V) : cutV xs none (some (-1)) = xs.dropLast := by
  have e : HT.sIx xs.length xs.length (some (-1)) = xs.length - 1 := by
    show (if (-1 : Int) < 0 then ((-1 : Int) + (xs.length : Int)).toNat else min (-1 : Int).toNat xs.length) = _
    rw [if_pos (by decide)]
    omega
  unfold cutV
  rw [HT.sIx_none, List.drop_zero, Nat.sub_zero, List.dropLast_eq_take, e]
theorem s_cval {σ : L2.St} {H : Hp} {Q : VK} {ta : TE} {f : Str} (h : ta σ H fun x H1 => ∃ C mc v u, x = .ref C ∧ ClX.CRead K C mc ∧ ClX.CVal K C mc f v u ∧ Q v H1) : ClX.tCVal K ta f σ H Q := h
theorem s_seqS {t1 t2 : TS} {na : L2.St → Hp → Prop} {rt : VK} {bk ct : L2.St → Hp → Prop} {σ : L2.St} {H : Hp} (S : L2.St → Hp → Prop) (h2 : ∀ σ' H', S σ' H' → t2 ⟨na, rt, bk, ct⟩ σ' H') (h1 : ∀ R : L2.St → Hp → Prop, (∀ σ' H', S σ' H' → R σ' H') → t1 ⟨R, rt, bk, ct⟩ σ H) : tSeq t1 t2 ⟨na, rt, bk, ct⟩ σ H := h1 _ h2
theorem s_forT {σ : L2.St} {H : Hp} {p : Addr} {xs : List V} {g : TG} {tb : TS} {na : L2.St → Hp → Prop} {rt : VK} {bk ct : L2.St → Hp → Prop} (hp : H p = some (.tup xs)) (Pv : Nat → L2.St → Hp → Prop) (h0 : Pv 0 σ H)
    (hG : ∀ i σ H, i ≤ xs.length → Pv i σ H → H p = some (.tup xs))
    (hs : ∀ i x σ H, xs[i]? = some x → Pv i σ H → g x σ H fun σ2 H2 => tb ⟨Pv (i + 1), rt, na, Pv (i + 1)⟩ σ2 H2)
    (hd : ∀ σ H, Pv xs.length σ H → na σ H) : mTup K (ForGo g tb ⟨na, rt, bk, ct⟩ σ) (.ref p) H :=
  ⟨p, rfl, ⟨xs, SqT.of hp⟩, for_tup (K := K) (D := ⟨na, rt, bk, ct⟩) Pv h0 (fun i σ H hi pv => SqT.of (hG i σ H hi pv)) hs hd⟩
def spLaw (K : PySem.W.Frag) : Sp := fun vs H Q _ => ∃ (p : Addr) (xs : List Int), vs = [.ref p] ∧ SqL K H p (xs.map V.int) ∧ xs.length ≤ 63 ∧ ∀ H', Q (.bl true) H'
theorem ok_law (T : Tv K mg a fd tk) : FnOk P w K mg base CX0 67 (a 41) (fd 41) ["_law_script"] (spLaw K) := by
  refine T.l.F_law.ok sc_law (fun vs H Q E h => ?_) (fun cdv A outer s H vs Q E hr h => ?_)
  · obtain ⟨p, xs, rfl, _⟩ := h
    rfl
  · obtain ⟨p, xs, rfl, hp, hn, k⟩ := h
    refine ⟨_, (pss_cons (ps_asg (pe_call (ok__law_bag T.l) (hr.mono (by decide)) (by rfl) T.l.g__law_bag T.l.F__law_bag.kp (b__law_bag T.l) .nil pass0 (pa_cons (pv 0) pa_nil)) (pg_name (i := 1) sc_law.nd rfl (by first | exact Or.inl rfl | exact Or.inr rfl)))
  (pss_cons (ps_asg (pe_lst (pa_cons pe_str (pa_cons pe_str (pa_cons pe_str (pa_cons pe_str (pa_cons pe_str (pa_cons pe_str (pa_cons pe_str pa_nil)))))))) (pg_name (i := 2) sc_law.nd rfl (by first | exact Or.inl rfl | exact Or.inr rfl)))
  (pss_cons (ps_asg (pe_lst (pa_cons pe_int (pa_cons pe_int (pa_cons pe_int (pa_cons pe_int (pa_cons pe_int (pa_cons pe_int (pa_cons pe_int pa_nil)))))))) (pg_name (i := 3) sc_law.nd rfl (by first | exact Or.inl rfl | exact Or.inr rfl)))
  (pss_cons (ps_asg (pe_call (ok__law_draw T.l) (hr.mono (by decide)) (by rfl) T.l.g__law_draw T.l.F__law_draw.kp (b__law_draw T.l) .nil pass0 (pa_cons (pv 1) (pa_cons pe_int pa_nil))) (pg_name (i := 4) sc_law.nd rfl (by first | exact Or.inl rfl | exact Or.inr rfl)))
  (pss_cons (ps_asg (pe_call (ok__law_draw T.l) (hr.mono (by decide)) (by rfl) T.l.g__law_draw T.l.F__law_draw.kp (b__law_draw T.l) .nil pass0 (pa_cons (pv 1) (pa_cons pe_int pa_nil))) (pg_name (i := 5) sc_law.nd rfl (by first | exact Or.inl rfl | exact Or.inr rfl)))
  (pss_cons (ps_for PassesOwn.never rfl (pi_tup (pe_tup (pa_cons (pe_lst pa_nil) (pa_cons (pe_lst (pa_cons (pv 4) pa_nil)) (pa_cons (pe_lst (pa_cons (pv 5) pa_nil)) (pa_cons (pe_lst (pa_cons (pv 4) (pa_cons (pv 5) pa_nil))) pa_nil)))))) (pg_name (i := 6) sc_law.nd rfl (by first | exact Or.inl rfl | exact Or.inr rfl))
   (pss_cons (ps_asg pe_dnewK (pg_name (i := 8) sc_law.nd rfl (by first | exact Or.inl rfl | exact Or.inr rfl)))
  (pss_cons (ps_for PassesOwn.never rfl (pi_range1 (by rfl) T.l.b_range (pa_cons pe_int pa_nil)) (pg_name (i := 9) sc_law.nd rfl (by first | exact Or.inl rfl | exact Or.inr rfl))
   (pss_one (ps_dput (hu_of hr) (pv 8) (pe_ix uIx (pv 2) (pv 9) (fun _ _ => rfl)) (pe_op uAdd (pe_ix uIx (pv 3) (pv 9) (fun _ _ => rfl)) (pe_callTy uInt (by rfl) T.l.k.b.x.b_int bt_int (pa_cons (pe_cmpR (uIn K) (pv 9) (pv 6) (by rfl)) pa_nil))) rfl)))
  (pss_cons (ps_asg (pe_call (ok__law_built T) (hr.mono (by decide)) (by rfl) T.g__law_built T.F__law_built.kp (b__law_built T) .nil pass0 (pa_cons (pv 1) (pa_cons (pv 8) pa_nil))) (pg_name (i := 10) sc_law.nd rfl (by first | exact Or.inl rfl | exact Or.inr rfl)))
  (pss_cons (ps_asg (pe_ifExp (pt_cmpR (uEq K hr.units) (pv 6) (pe_lst pa_nil) (nomark _)) pe_non (pe_ix uIx (pv 2) (pe_callB (cr_min rfl) (by rfl) T.b_min bt_min (pa_cons (pv 6) pa_nil)) (fun _ _ => rfl))) (pg_name (i := 11) sc_law.nd rfl (by first | exact Or.inl rfl | exact Or.inr rfl)))
  (pss_cons (ps_if (PW.pt (pw_or (pt_cmpR (uNe K hr.units) (pe_call (ok__law_what T) (hr.mono (by decide)) (by rfl) T.g__law_what T.F__law_what.kp (b__law_what T) .nil pass0 (pa_cons (pv 10) pa_nil)) (pv 11) (nomark _)) (pw_or1 (pt_cmpR (uNe K hr.units) (pe_callB uLen (by rfl) T.l.k.b.x.b_len bt_len (pa_cons (pv 10) pa_nil)) (pe_dget (hu_of hr) (pv 8) pe_str (fun _ _ => rfl)) (nomark _))))) (pss_one (ps_ret pe_bl)) pss_nil)
  (pss_one (ps_if (PW.pt (pw_or (pt_cmpR (uNe K hr.units) (pe_call (ok__law_what T) (hr.mono (by decide)) (by rfl) T.g__law_what T.F__law_what.kp (b__law_what T) .nil pass0 (pa_cons (pe_op uAdd (pv 10) (pe_lst (pa_cons pe_str pa_nil))) pa_nil)) (pe_tup (pa_cons pe_str (pa_cons (pe_callB uLen (by rfl) T.l.k.b.x.b_len bt_len (pa_cons (pv 10) pa_nil)) pa_nil))) (nomark _)) (pw_or1 (pt_cmpR (uNe K hr.units) (pe_call (ok__law_what T) (hr.mono (by decide)) (by rfl) T.g__law_what T.F__law_what.kp (b__law_what T) .nil pass0 (pa_cons (pe_slice uSl (pv 10) po_none (po_some (pe_un un_neg pe_int))) pa_nil)) (pe_tup (pa_cons pe_str (pa_cons (pe_op op_sub (pe_callB uLen (by rfl) T.l.k.b.x.b_len bt_len (pa_cons (pv 10) pa_nil)) pe_int) pa_nil))) (nomark _))))) (pss_one (ps_ret pe_bl)) pss_nil))))))))
  (pss_cons (ps_asg (pe_lst (pa_cons (ClX.pe_cval (pe_gR (by rfl) T.l.k.g_Book)) (pa_cons (ClX.pe_cval (pe_gR (by rfl) T.l.k.g_Book)) (pa_cons (ClX.pe_cval (pe_gR (by rfl) T.l.k.g_Book)) (pa_cons (ClX.pe_cval (pe_gR (by rfl) T.l.k.g_Book)) (pa_cons (ClX.pe_cval (pe_gR (by rfl) T.l.k.g_Book)) (pa_cons (ClX.pe_cval (pe_gR (by rfl) T.l.k.g_Book)) (pa_cons (ClX.pe_cval (pe_gR (by rfl) T.l.k.g_Book)) pa_nil)))))))) (pg_name (i := 7) sc_law.nd rfl (by first | exact Or.inl rfl | exact Or.inr rfl)))
  (pss_one (ps_ret (pe_cmpR (uEq K hr.units) (pv 7) (pv 3) (nomark _))))))))))), ?_⟩
    have Tk1 := T.l.k
    walk_at "rd"
    refine ⟨p, xs, rfl, hp, hn, fun bl sl H1 s1 nbl nsl B1 => ?_⟩
    walk_at "rd"
    intro wl nwl
    have B2 := B1.same (Same.new (o := .lst (wordsS.map V.str)) nwl)
    have hw2 : upd H1 wl (.lst (wordsS.map V.str)) wl = some (.lst (wordsS.map V.str)) := upd_same
    have ewl : (HO.lst [.str (Str.ofString "lines"), .str (Str.ofString "cells"), .str (Str.ofString "answers"), .str (Str.ofString "effects"), .str (Str.ofString "handlers"), .str (Str.ofString "deep"), .str (Str.ofString "numbers")]) = .lst (wordsS.map V.str) := rfl
    rw [ewl]
    have nwb : wl ≠ bl := by rintro rfl; obtain ⟨_, _, _, _, _, g1, _⟩ := B1; rw [nwl] at g1; cases g1
    generalize upd H1 wl (.lst (wordsS.map V.str)) = H2 at B2 hw2 ⊢
    walk_at "rd"
    intro ml nml
    have B3 := B2.same (Same.new (o := .lst (mostS.map V.int)) nml)
    have hw3 := Same.new (o := .lst (mostS.map V.int)) nml _ _ hw2
    have hm3 : upd H2 ml (.lst (mostS.map V.int)) ml = some (.lst (mostS.map V.int)) := upd_same
    have eml : (HO.lst [.int 80, .int 4, .int 3, .int 3, .int 3, .int 8, .int 4]) = .lst (mostS.map V.int) := rfl
    rw [eml]
    have nmb : ml ≠ bl := by rintro rfl; obtain ⟨_, _, _, _, _, g1, _⟩ := B2; rw [nml] at g1; cases g1
    generalize upd H2 ml (.lst (mostS.map V.int)) = H3 at B3 hw3 hm3 ⊢
    walk_at "rd"
    refine ⟨bl, sl, 7, rfl, B3, by decide, by decide, fun f H4 f0 f7 B4 q4 => ?_⟩
    have hw4 := q4 _ _ hw3 (by simpa using nwb)
    have hm4 := q4 _ _ hm3 (by simpa using nmb)
    walk_at "rd"
    refine ⟨bl, sl, 7, rfl, B4, by decide, by decide, fun g H5 g0 g7 B5 q5 => ?_⟩
    have hw5 := q5 _ _ hw4 (by simpa using nwb)
    have hm5 := q5 _ _ hm4 (by simpa using nmb)
    clear hw4 hm4 hw3 hm3 hw2 B4 B3 B2 B1 q4 q5
    walk_at "rd"
    refine s_itup ?_
    walk_at "rd"
    intro r0 n0
    have s6 := Same.new (o := .lst []) n0
    have h0 : upd H5 r0 (.lst []) r0 = some (.lst (([] : List Int).map V.int)) := upd_same
    walk_at "rd"
    intro r1 n1
    have s7 := s6.trans (Same.new (o := .lst [.int f]) n1)
    have h0 := Same.new (o := .lst [.int f]) n1 _ _ h0
    have h1 : upd (upd H5 r0 (.lst [])) r1 (.lst [.int f]) r1 = some (.lst ([f].map V.int)) := upd_same
    walk_at "rd"
    intro r2 n2
    have s8 := s7.trans (Same.new (o := .lst [.int g]) n2)
    have h0 := Same.new (o := .lst [.int g]) n2 _ _ h0
    have h1 := Same.new (o := .lst [.int g]) n2 _ _ h1
    have h2 : upd (upd (upd H5 r0 (.lst [])) r1 (.lst [.int f])) r2 (.lst [.int g]) r2 = some (.lst ([g].map V.int)) := upd_same
    walk_at "rd"
    intro r3 n3
    have s9 := s8.trans (Same.new (o := .lst [.int f, .int g]) n3)
    have h0 := Same.new (o := .lst [.int f, .int g]) n3 _ _ h0
    have h1 := Same.new (o := .lst [.int f, .int g]) n3 _ _ h1
    have h2 := Same.new (o := .lst [.int f, .int g]) n3 _ _ h2
    have h3 : upd (upd (upd (upd H5 r0 (.lst [])) r1 (.lst [.int f])) r2 (.lst [.int g])) r3 (.lst [.int f, .int g]) r3 = some (.lst ([f, g].map V.int)) := upd_same
    generalize upd (upd (upd (upd H5 r0 (.lst [])) r1 (.lst [.int f])) r2 (.lst [.int g])) r3 (.lst [.int f, .int g]) = H6 at s9 h0 h1 h2 h3 ⊢
    clear s6 s7 s8 n0 n1 n2 n3
    walk_at "rd"
    intro tp ntp
    have s10 := s9.trans (Same.new (o := .tup [.ref r0, .ref r1, .ref r2, .ref r3]) ntp)
    have htp : upd H6 tp (.tup [.ref r0, .ref r1, .ref r2, .ref r3]) tp = some (.tup [.ref r0, .ref r1, .ref r2, .ref r3]) := upd_same
    have B7 := B5.same s10
    have fam : ∀ x ∈ [V.ref r0, .ref r1, .ref r2, .ref r3], ∃ r bs, x = .ref r ∧ upd H6 tp (.tup [.ref r0, .ref r1, .ref r2, .ref r3]) r = some (.lst (bs.map V.int)) ∧ Bs f g bs ∧ r ≠ bl := by
      have nb : ∀ {r : Addr} {bs : List Int}, H6 r = some (.lst (bs.map V.int)) → r ≠ bl := by
        rintro r bs h rfl
        obtain ⟨_, _, _, _, _, g1, _⟩ := B5.same s9
        rw [h] at g1
        have := congrArg (fun o => match o with | some (HO.lst (V.int _ :: _)) => true | some (HO.lst []) => true | _ => false) g1
        cases bs with
        | nil => simp at this
        | cons b l => simp at this
      have sn : ∀ {r : Addr} {o : HO}, H6 r = some o → upd H6 tp (.tup [.ref r0, .ref r1, .ref r2, .ref r3]) r = some o := fun h => Same.new ntp _ _ h
      intro x hx
      simp only [List.mem_cons, List.not_mem_nil, or_false] at hx
      rcases hx with rfl | rfl | rfl | rfl
      · exact ⟨_, _, rfl, sn h0, .inl rfl, nb h0⟩
      · exact ⟨_, _, rfl, sn h1, .inr (.inl rfl), nb h1⟩
      · exact ⟨_, _, rfl, sn h2, .inr (.inr (.inl rfl)), nb h2⟩
      · exact ⟨_, _, rfl, sn h3, .inr (.inr (.inr rfl)), nb h3⟩
    have hw7 := s10 _ _ hw5
    have hm7 := s10 _ _ hm5
    generalize upd H6 tp (.tup [.ref r0, .ref r1, .ref r2, .ref r3]) = H7 at s10 htp B7 fam hw7 hm7 ⊢
    clear h0 h1 h2 h3 s9 s10 hw5 hm5 B5 ntp
    have ntb : tp ≠ bl := by rintro rfl; obtain ⟨_, _, _, _, _, g1, _⟩ := B7; rw [htp] at g1; cases g1
    walk_at "rd"
    refine s_forT htp (fun i σ H' => ∃ v6 v7 v8 v9 v10 v11, σ = [some (.ref p), some (.ref bl), some (.ref wl), some (.ref ml), some (.int f), some (.int g), v6, v7, v8, v9, v10, v11] ∧ Fr H7 H' [bl] ∧ BagAt H' bl sl)
      ⟨none, none, none, none, none, none, rfl, .same (.refl _), B7⟩ ?_ ?_ ?_
    · rintro i σ H' hi ⟨_, _, _, _, _, _, _, f', _⟩
      exact f' _ _ htp (by simpa using ntb)
    · rintro i x σ H8 hx ⟨v6, v7, v8, v9, v10, v11, rfl, f8, B8⟩
      obtain ⟨r, bs, rfl, hr7, hbs, nrb⟩ := fam x (List.mem_of_getElem? hx)
      have hr8 := f8 _ _ hr7 (by simpa using nrb)
      have hw8 := f8 _ _ hw7 (by simpa using nwb)
      have hm8 := f8 _ _ hm7 (by simpa using nmb)
      walk_at "rd"
      intro sz nsz
      have nzb : sz ≠ bl := by rintro rfl; obtain ⟨_, _, _, _, _, g1, _⟩ := B8; rw [nsz] at g1; cases g1
      walk_at "rd"
      refine s_forR (by decide) (by decide) (fun i σ H' => ∃ v9, σ = [some (.ref p), some (.ref bl), some (.ref wl), some (.ref ml), some (.int f), some (.int g), some (.ref r), v7, some (.ref sz), v9, v10, v11] ∧ H' sz = some (.dK ((szK (szOf bs)).take i)) ∧ Same H8 H')
        ⟨_, rfl, upd_same, Same.new nsz⟩ ?_ ?_
      · rintro i σ H' hi ⟨v9, rfl, hs, sm⟩
        have hw := sm _ _ hw8
        have hm := sm _ _ hm8
        have hrr := sm _ _ hr8
        have hi7 : i < 7 := by omega
        obtain ⟨e1, e2, e3⟩ := sz_step bs i hi7
        walk_at "rd"
        refine s_dput ?_
        walk_at "rd"
        refine s_inL hrr rfl (flat_ints bs) ?_
        rw [inV_int]
        walk_at "rd"
        refine ⟨sz, _, rfl, DPut.k (k := .inr (wordsS.getD i "")) hs (sz_lt (by rw [List.length_take]; omega)), ?_⟩
        have e4 : putK ((szK (szOf bs)).take i) (.inr (wordsS.getD i "")) (.int (mostS.getD i 0 + (if (if false = true then !bs.contains (i : Int) else bs.contains (i : Int)) = true then 1 else 0))) = (szK (szOf bs)).take (i + 1) := e3
        rw [e4]
        exact ⟨_, rfl, upd_same, Same.mut sm nsz⟩
      rintro σ H9 ⟨v9, rfl, hs9, sm⟩
      have e7 : (szK (szOf bs)).take (7 : Int).toNat = szK (szOf bs) := rfl
      rw [e7] at hs9
      have hw9 := sm _ _ hw8
      have hm9 := sm _ _ hm8
      have hr9 := sm _ _ hr8
      have B9 := B8.same sm
      have f9 : Fr H7 H9 [bl] := fun x o h hn => sm _ _ (f8 x o h hn)
      clear sm nsz hw8 hm8 hr8 B8 f8
      walk_at "rd"
      refine ⟨bl, sl, sz, szOf bs, rfl, B9, hs9, szOk_of bs, fun l C A E G wh H10 D wh4 nl hl B10 q10 => ?_⟩
      obtain ⟨lB, W1, W2, W3⟩ := what10 (szOk_of bs) D wh4 _ rfl
      generalize built (szOf bs) (base10 ((szOf bs).n - 1) C A E G) wh (C.headD (Str.ofString "")) = L at hl lB W1 W2 W3
      have eo : overOf (boundsOf (szOf bs).l (szOf bs).c (szOf bs).a (szOf bs).e (szOf bs).g (szOf bs).d (szOf bs).n) = dueO bs := over_due f0 f7 g0 g7 hbs
      rw [eo] at W1
      have l81 : (szOf bs).l ≤ 81 := by rcases (szOk_of bs).l with h | h <;> omega
      have hw10 := q10 _ _ hw9 (by simpa using nwb)
      have hm10 := q10 _ _ hm9 (by simpa using nmb)
      have hr10 := q10 _ _ hr9 (by simpa using nrb)
      have hs10 := q10 _ _ hs9 (by simpa using nzb)
      have f10 : Fr H7 H10 [bl] := f9.tr q10
      clear hw9 hm9 hr9 hs9 f9 q10 D B9 hr7
      refine s_gname ?_
      refine s_seqS (fun σ' H' => ∃ dv, σ' = [some (.ref p), some (.ref bl), some (.ref wl), some (.ref ml), some (.int f), some (.int g), some (.ref r), v7, some (.ref sz), v9, some (.ref l), some dv] ∧ Same H10 H' ∧ (∀ H v, WhatV H v (.inr (dueO bs)) → v = dv) ∧ scal dv dv = true) ?_ fun R hR => ?_
      rotate_left
      · walk_at "rd"
        intro q nq
        have hr11 := Same.new (o := .lst []) nq _ _ hr10
        have hw11 := Same.new (o := .lst []) nq _ _ hw10
        have s11 : Same H10 (upd H10 q (.lst [])) := Same.new nq
        refine s_eqNil hr11 upd_same ?_
        by_cases hb0 : bs = []
        · subst hb0
          refine ⟨_, rfl, ?_⟩
          refine ifT rfl ?_
          walk_at "rd"
          exact hR _ _ ⟨.non, rfl, s11, fun H v hv => hv, rfl⟩
        · refine ⟨_, rfl, ?_⟩
          refine ifF (by cases bs with
            | nil => exact absurd rfl hb0
            | cons x l => rfl) ?_
          walk_at "rd"
          refine ⟨_, bs, rfl, SqL.of hr11, List.length_pos_iff.mpr hb0, fun m hm hle => ?_⟩
          obtain ⟨z, ez, az⟩ := due_at f0 f7 g0 g7 hbs hm hle
          refine s_ixL hw11 az ?_
          walk_at "rd"
          exact hR _ _ ⟨.str z, rfl, s11, fun H v hv => by rw [ez] at hv; exact hv, rfl⟩
      rintro σ' H11 ⟨dv, rfl, s11, hdv, sdv⟩
      have hl11 := s11 _ _ hl
      have hs11 := s11 _ _ hs10
      have f11 : Fr H7 H11 [bl] := fun x o h hn => s11 _ _ (f10 x o h hn)
      have B11 := B10.same s11
      clear s11 hl hs10 f10 B10
      walk_at "rd"
      refine ⟨l, L, _, rfl, hl11, W1, fun v H12 s12 hv => ?_⟩
      have ev := hdv _ _ hv
      subst ev
      have hl12 := s12 _ _ hl11
      have hs12 := s12 _ _ hs11
      walk_at "rd"
      refine s_neS sdv ?_
      refine ⟨_, rfl, ?_⟩
      refine ifF (by simp) ?_
      walk_at "rd"
      refine s_wd rfl hs12 sz_l ?_
      have elen : (((L.map V.str).length : Nat) : Int) = (((szOf bs).l : Nat) : Int) := by rw [List.length_map, lB]
      rw [elen]
      walk_at "rd"
      refine ifF (by simp) ?_
      walk_at "rd"
      intro q1 nq1
      have s13 := s12.trans (Same.new (o := .lst [.str (Str.ofString "end")]) nq1)
      refine s_addL (s13 _ _ hl11) upd_same (sz_le (by simp; omega)) fun q2 nq2 => ?_
      have eL : L.map V.str ++ [.str (Str.ofString "end")] = (L ++ [Str.ofString "end"]).map V.str := by simp
      rw [eL]
      have s14 := s13.trans (Same.new (o := .lst ((L ++ [Str.ofString "end"]).map V.str)) nq2)
      walk_at "rd"
      refine ⟨q2, L ++ [Str.ofString "end"], _, rfl, upd_same, W2, fun v H15 s15 hv => ?_⟩
      obtain ⟨t1, rfl, ht1⟩ := hv
      have s15 := s14.trans s15
      have hl15 := s15 _ _ hl11
      walk_at "rd"
      rw [elen]
      intro t2 nt2
      walk_at "rd"
      refine s_neLine (Same.new nt2 _ _ ht1) upd_same ?_
      have s16 := s15.trans (Same.new (o := .tup [.str (Str.ofString "line"), .int (((szOf bs).l : Nat) : Int)]) nt2)
      have hl16 := s16 _ _ hl11
      walk_at "rd"
      refine ifF rfl ?_
      walk_at "rd"
      refine s_slL hl16 fun q3 nq3 => ?_
      rw [cutV_last, ← List.map_dropLast]
      have s17 := s16.trans (Same.new (o := .lst (L.dropLast.map V.str)) nq3)
      walk_at "rd"
      refine ⟨q3, L.dropLast, _, rfl, upd_same, W3, fun v H18 s18 hv => ?_⟩
      obtain ⟨t3, rfl, ht3⟩ := hv
      have s18 := s17.trans s18
      have hl18 := s18 _ _ hl11
      walk_at "rd"
      rw [elen]
      have em : (((szOf bs).l : Nat) : Int) - 1 = (((szOf bs).l - 1 : Nat) : Int) := by rcases (szOk_of bs).l with h | h <;> omega
      rw [em]
      intro t4 nt4
      walk_at "rd"
      refine s_neLine (Same.new nt4 _ _ ht3) upd_same ?_
      have s19 := s18.trans (Same.new (o := .tup [.str (Str.ofString "line"), .int (((szOf bs).l - 1 : Nat) : Int)]) nt4)
      walk_at "rd"
      refine ifF rfl ?_
      walk_at "rd"
      exact ⟨_, _, _, _, _, _, rfl, fun x o h hn => s19 _ _ (f11 x o h hn), B11.same s19⟩
    · rintro σ H8 ⟨v6, v7, v8, v9, v10, v11, rfl, f8, B8⟩
      have hm8 := f8 _ _ hm7 (by simpa using nmb)
      walk_at "rd"
      refine s_cval ?_
      walk_at "rd"
      refine ⟨_, _, _, _, rfl, T.crd_Book, T.v_MOST_LINES, ?_⟩
      walk_at "rd"
      refine s_cval ?_
      walk_at "rd"
      refine ⟨_, _, _, _, rfl, T.crd_Book, T.v_MOST_CELLS, ?_⟩
      walk_at "rd"
      refine s_cval ?_
      walk_at "rd"
      refine ⟨_, _, _, _, rfl, T.crd_Book, T.v_MOST_ANSWERS, ?_⟩
      walk_at "rd"
      refine s_cval ?_
      walk_at "rd"
      refine ⟨_, _, _, _, rfl, T.crd_Book, T.v_MOST_EFFECTS, ?_⟩
      walk_at "rd"
      refine s_cval ?_
      walk_at "rd"
      refine ⟨_, _, _, _, rfl, T.crd_Book, T.v_MOST_HANDLERS, ?_⟩
      walk_at "rd"
      refine s_cval ?_
      walk_at "rd"
      refine ⟨_, _, _, _, rfl, T.crd_Book, T.v_MOST_DEEP, ?_⟩
      walk_at "rd"
      refine s_cval ?_
      walk_at "rd"
      refine ⟨_, _, _, _, rfl, T.crd_Book, T.v_MOST_NUMBERS, ?_⟩
      walk_at "rd"
      intro q nq
      walk_at "rd"
      refine s_eqMost upd_same (Same.new nq _ _ hm8) ?_
      exact k _
end
end Tr
set_option maxHeartbeats 0
namespace Tr
open PySem PySem.Spec PyProof.Rows L2
def adrP : Nat → PySem.W.Frag → Addr
  | 0 => (pl ("KEPT_WORDS", none))
  | 1 => (pl ("is_word", none))
  | 2 => (pl ("is_number", none))
  | 3 => (pl ("words_of", none))
  | 4 => (pl ("expression", none))
  | 5 => (pl ("comparison", none))
  | 6 => (pl ("Block", none))
  | 7 => (pl ("Block", some "__init__"))
  | 8 => (pl ("BodyReader", none))
  | 9 => (pl ("BodyReader", some "__init__"))
  | 10 => (pl ("BodyReader", some "take"))
  | 11 => (pl ("BodyReader", some "entry"))
  | 12 => (pl ("BodyReader", some "in_quiet"))
  | 13 => (pl ("BodyReader", some "assignment"))
  | 14 => (pl ("BodyReader", some "single"))
  | 15 => (pl ("BodyReader", some "opening"))
  | 16 => (pl ("BodyReader", some "turning"))
  | 17 => (pl ("BodyReader", some "closing"))
  | 18 => (pl ("BodyReader", some "finished"))
  | 19 => (pl ("BookReader", none))
  | 20 => (pl ("BookReader", some "__init__"))
  | 21 => (pl ("BookReader", some "is_complete"))
  | 22 => (pl ("BookReader", some "all_names"))
  | 23 => (pl ("BookReader", some "sources_above"))
  | 24 => (pl ("BookReader", some "take"))
  | 25 => (pl ("BookReader", some "shut"))
  | 26 => (pl ("BookReader", some "declaration"))
  | 27 => (pl ("BookReader", some "cell"))
  | 28 => (pl ("BookReader", some "handler"))
  | 29 => (pl ("BookReader", some "begin"))
  | 30 => (pl ("Book", none))
  | 31 => (pl ("Book", some "__init__"))
  | 32 => (pl ("Book", some "check_bounds"))
  | 33 => (pl ("TrackedError", none))
  | 34 => (pl ("BadBook", none))
  | 35 => (pl ("BadBook", some "__init__"))
  | 36 => (pl ("_law_bag", none))
  | 37 => (pl ("_law_draw", none))
  | 38 => (pl ("_law_name", none))
  | 39 => (pl ("_law_number", none))
  | 41 => (pl ("law", none))
  | 60 => (pl ("TooMany", none))
  | 61 => (pl ("TooMany", some "__init__"))
  | 80 => (pl ("_law_what", none))
  | 81 => (pl ("_law_deep", none))
  | 82 => (pl ("_law_built", none))
  | _ => pl ("law", none)
def adr (K : PySem.W.Frag) (n : Nat) : Addr := adrP n K
def fdn (K : PySem.W.Frag) (n : Nat) : FuncData := fdG K (adrP n K)
def tkn (K : PySem.W.Frag) : Nat → Tok
  | 0 => tkG K "LONGEST_WORD"
  | 1 => tkG K "LONGEST_NUMBER"
  | 2 => tkG K "LETTERS"
  | 3 => tkG K "DIGITS"
  | 4 => tkC K (He.ga K "Book") "MOST_LINES"
  | 5 => tkC K (He.ga K "Book") "MOST_CELLS"
  | 6 => tkC K (He.ga K "Book") "MOST_ANSWERS"
  | 7 => tkC K (He.ga K "Book") "MOST_EFFECTS"
  | 8 => tkC K (He.ga K "Book") "MOST_HANDLERS"
  | 9 => tkC K (He.ga K "Book") "MOST_DEEP"
  | 10 => tkC K (He.ga K "Book") "MOST_NUMBERS"
  | 20 => tkV K (He.ga K "Book") "MOST_LINES"
  | 21 => tkV K (He.ga K "Book") "MOST_CELLS"
  | 22 => tkV K (He.ga K "Book") "MOST_ANSWERS"
  | 23 => tkV K (He.ga K "Book") "MOST_EFFECTS"
  | 24 => tkV K (He.ga K "Book") "MOST_HANDLERS"
  | 25 => tkV K (He.ga K "Book") "MOST_DEEP"
  | 26 => tkV K (He.ga K "Book") "MOST_NUMBERS"
  | _ => 0
theorem mkT {K : PySem.W.Frag} {h : Heap} {mg : Str → Option Value} (X : K.In h) (G : h.Ns mainGlobals mg) (c : obsB fx9 fn9 K = valB fn9) : Tv K mg (adr K) (fdn K) (tkn K) :=
{ l := (
{ k := (
{ b := (
{ x := (
{ b_len := (fx_free X G (says_fx c 0 rfl)),
  b_all := (fx_free X G (says_fx c 1 rfl)),
  b_int := (fx_free X G (says_fx c 2 rfl)),
  b_str := (fx_free X G (says_fx c 3 rfl)),
  b_isinstance := (fx_free X G (says_fx c 4 rfl)),
  b_enumerate := (fx_free X G (says_fx c 5 rfl)),
  c_LONGEST_WORD := (fx_int X G (says_fx c 6 rfl)),
  c_LONGEST_NUMBER := (fx_int X G (says_fx c 7 rfl)),
  c_LETTERS := (fx_str X G (says_fx c 8 rfl)),
  c_DIGITS := (fx_str X G (says_fx c 9 rfl)),
  c_KEPT_WORDS := (fx_glo X G (says_fx c 10 rfl)),
  w_KEPT_WORDS := (fx_tup (says_fx c 11 rfl)),
  g_is_word := (fx_glo X G (says_fx c 12 rfl)),
  F_is_word := (says_fun (p := (pl ("is_word", none))) c 0 rfl),
  g_is_number := (fx_glo X G (says_fx c 13 rfl)),
  F_is_number := (says_fun (p := (pl ("is_number", none))) c 1 rfl),
  g_words_of := (fx_glo X G (says_fx c 14 rfl)),
  F_words_of := (says_fun (p := (pl ("words_of", none))) c 2 rfl),
  g_expression := (fx_glo X G (says_fx c 15 rfl)),
  F_expression := (says_fun (p := (pl ("expression", none))) c 3 rfl),
  g_comparison := (fx_glo X G (says_fx c 16 rfl)),
  F_comparison := (says_fun (p := (pl ("comparison", none))) c 4 rfl) }),
  y := (
{ b_any := (fx_free X G (says_fx c 17 rfl)),
  b_max := (fx_free X G (says_fx c 18 rfl)),
  b_list := (fx_free X G (says_fx c 19 rfl)),
  b_tuple := (fx_free X G (says_fx c 20 rfl)),
  b_sorted := (fx_free X G (says_fx c 21 rfl)),
  g_Block := (fx_glo X G (says_fx c 22 rfl)),
  cl_Block := (fx_cls (says_fx c 23 rfl)),
  f_Block := (fx_noats (says_fx c 24 rfl)),
  mk_Block := (fx_mkr (says_fx c 25 rfl)),
  F_Block___init__ := (says_fun (p := (pl ("Block", some "__init__"))) c 5 rfl),
  g_BodyReader := (fx_glo X G (says_fx c 26 rfl)),
  cl_BodyReader := (fx_cls (says_fx c 27 rfl)),
  f_BodyReader := (fx_noats (says_fx c 28 rfl)),
  mk_BodyReader := (fx_mkr (says_fx c 29 rfl)),
  F_BodyReader___init__ := (says_fun (p := (pl ("BodyReader", some "__init__"))) c 6 rfl),
  m_BodyReader_take := (fx_meth (says_fx c 30 rfl)),
  F_BodyReader_take := (says_fun (p := (pl ("BodyReader", some "take"))) c 7 rfl),
  m_BodyReader_entry := (fx_meth (says_fx c 31 rfl)),
  F_BodyReader_entry := (says_fun (p := (pl ("BodyReader", some "entry"))) c 8 rfl),
  m_BodyReader_in_quiet := (fx_meth (says_fx c 32 rfl)),
  F_BodyReader_in_quiet := (says_fun (p := (pl ("BodyReader", some "in_quiet"))) c 9 rfl),
  m_BodyReader_assignment := (fx_meth (says_fx c 33 rfl)),
  F_BodyReader_assignment := (says_fun (p := (pl ("BodyReader", some "assignment"))) c 10 rfl),
  m_BodyReader_single := (fx_meth (says_fx c 34 rfl)),
  F_BodyReader_single := (says_fun (p := (pl ("BodyReader", some "single"))) c 11 rfl),
  m_BodyReader_opening := (fx_meth (says_fx c 35 rfl)),
  F_BodyReader_opening := (says_fun (p := (pl ("BodyReader", some "opening"))) c 12 rfl),
  m_BodyReader_turning := (fx_meth (says_fx c 36 rfl)),
  F_BodyReader_turning := (says_fun (p := (pl ("BodyReader", some "turning"))) c 13 rfl),
  m_BodyReader_closing := (fx_meth (says_fx c 37 rfl)),
  F_BodyReader_closing := (says_fun (p := (pl ("BodyReader", some "closing"))) c 14 rfl),
  m_BodyReader_finished := (fx_meth (says_fx c 38 rfl)),
  F_BodyReader_finished := (says_fun (p := (pl ("BodyReader", some "finished"))) c 15 rfl) }),
  g_BookReader := (fx_glo X G (says_fx c 39 rfl)),
  cl_BookReader := (fx_cls (says_fx c 40 rfl)),
  f_BookReader := (fx_noats (says_fx c 41 rfl)),
  mk_BookReader := (fx_mkr (says_fx c 42 rfl)),
  F_BookReader___init__ := (says_fun (p := (pl ("BookReader", some "__init__"))) c 16 rfl),
  m_BookReader_is_complete := (fx_meth (says_fx c 43 rfl)),
  F_BookReader_is_complete := (says_fun (p := (pl ("BookReader", some "is_complete"))) c 17 rfl),
  m_BookReader_all_names := (fx_meth (says_fx c 44 rfl)),
  F_BookReader_all_names := (says_fun (p := (pl ("BookReader", some "all_names"))) c 18 rfl),
  m_BookReader_sources_above := (fx_meth (says_fx c 45 rfl)),
  F_BookReader_sources_above := (says_fun (p := (pl ("BookReader", some "sources_above"))) c 19 rfl),
  m_BookReader_take := (fx_meth (says_fx c 46 rfl)),
  F_BookReader_take := (says_fun (p := (pl ("BookReader", some "take"))) c 20 rfl),
  m_BookReader_shut := (fx_meth (says_fx c 47 rfl)),
  F_BookReader_shut := (says_fun (p := (pl ("BookReader", some "shut"))) c 21 rfl),
  m_BookReader_declaration := (fx_meth (says_fx c 48 rfl)),
  F_BookReader_declaration := (says_fun (p := (pl ("BookReader", some "declaration"))) c 22 rfl),
  m_BookReader_cell := (fx_meth (says_fx c 49 rfl)),
  F_BookReader_cell := (says_fun (p := (pl ("BookReader", some "cell"))) c 23 rfl),
  m_BookReader_handler := (fx_meth (says_fx c 50 rfl)),
  F_BookReader_handler := (says_fun (p := (pl ("BookReader", some "handler"))) c 24 rfl),
  m_BookReader_begin := (fx_meth (says_fx c 51 rfl)),
  F_BookReader_begin := (says_fun (p := (pl ("BookReader", some "begin"))) c 25 rfl) }),
  b_set := (fx_free X G (says_fx c 52 rfl)),
  b_dict := (fx_free X G (says_fx c 53 rfl)),
  g_Book := (fx_glo X G (says_fx c 54 rfl)),
  cl_Book := (fx_cls (says_fx c 55 rfl)),
  f_Book := (fx_noats (says_fx c 56 rfl)),
  mk_Book := (fx_mkr (says_fx c 57 rfl)),
  F_Book___init__ := (says_fun (p := (pl ("Book", some "__init__"))) c 26 rfl),
  m_Book_check_bounds := (fx_meth (says_fx c 58 rfl)),
  F_Book_check_bounds := (says_fun (p := (pl ("Book", some "check_bounds"))) c 27 rfl),
  k_MOST_LINES := (fx_con (says_fx c 59 rfl)),
  k_MOST_CELLS := (fx_con (says_fx c 60 rfl)),
  k_MOST_ANSWERS := (fx_con (says_fx c 61 rfl)),
  k_MOST_EFFECTS := (fx_con (says_fx c 62 rfl)),
  k_MOST_HANDLERS := (fx_con (says_fx c 63 rfl)),
  k_MOST_DEEP := (fx_con (says_fx c 64 rfl)),
  k_MOST_NUMBERS := (fx_con (says_fx c 65 rfl)),
  g_TrackedError := (fx_glo X G (says_fx c 66 rfl)),
  cr_TrackedError := (fx_cread (says_fx c 67 rfl)),
  vi_TrackedError := (fx_cinit (says_fx c 68 rfl)),
  g_BadBook := (fx_glo X G (says_fx c 69 rfl)),
  ox_BadBook := (fx_oex (says_fx c 70 rfl)),
  xf_BadBook := (fx_xf (says_fx c 71 rfl)),
  no_BadBook := (fx_noats (says_fx c 72 rfl) "at" (by decide +kernel)),
  ini_BadBook := (fx_init1 (says_fx c 73 rfl)),
  inf_BadBook := (fx_init2 (says_fx c 73 rfl)),
  F_BadBook___init__ := (says_fun (p := (pl ("BadBook", some "__init__"))) c 28 rfl),
  g_TooMany := (fx_glo X G (says_fx c 74 rfl)),
  ox_TooMany := (fx_oex (says_fx c 75 rfl)),
  xf_TooMany := (fx_xf (says_fx c 76 rfl)),
  no_TooMany := (fx_noats (says_fx c 77 rfl) "what" (by decide +kernel)),
  ini_TooMany := (fx_init1 (says_fx c 78 rfl)),
  inf_TooMany := (fx_init2 (says_fx c 78 rfl)),
  F_TooMany___init__ := (says_fun (p := (pl ("TooMany", some "__init__"))) c 29 rfl) }),
  b_abs := (fx_free X G (says_fx c 79 rfl)),
  b_range := (fx_free X G (says_fx c 80 rfl)),
  g__law_bag := (fx_glo X G (says_fx c 81 rfl)),
  F__law_bag := (says_fun (p := (pl ("_law_bag", none))) c 30 rfl),
  g__law_draw := (fx_glo X G (says_fx c 82 rfl)),
  F__law_draw := (says_fun (p := (pl ("_law_draw", none))) c 31 rfl),
  g__law_name := (fx_glo X G (says_fx c 83 rfl)),
  F__law_name := (says_fun (p := (pl ("_law_name", none))) c 32 rfl),
  g__law_number := (fx_glo X G (says_fx c 84 rfl)),
  F__law_number := (says_fun (p := (pl ("_law_number", none))) c 33 rfl),
  F_law := (says_fun (p := (pl ("law", none))) c 34 rfl) }),
  b_min := (fx_free X G (says_fx c 85 rfl)),
  crd_Book := (fx_cread (says_fx c 86 rfl)),
  v_MOST_LINES := (fx_cval (says_fx c 87 rfl)),
  v_MOST_CELLS := (fx_cval (says_fx c 88 rfl)),
  v_MOST_ANSWERS := (fx_cval (says_fx c 89 rfl)),
  v_MOST_EFFECTS := (fx_cval (says_fx c 90 rfl)),
  v_MOST_HANDLERS := (fx_cval (says_fx c 91 rfl)),
  v_MOST_DEEP := (fx_cval (says_fx c 92 rfl)),
  v_MOST_NUMBERS := (fx_cval (says_fx c 93 rfl)),
  te_BadBook := (fx_exm (says_fx c 94 rfl)),
  te_TooMany := (fx_exm (says_fx c 95 rfl)),
  te_Bad_Too := (fx_exm (says_fx c 96 rfl)),
  xc_TooMany := (fx_excc (says_fx c 97 rfl)),
  ki_TooMany := (fx_kit (says_fx c 98 rfl)),
  g__law_what := (fx_glo X G (says_fx c 99 rfl)),
  F__law_what := (says_fun (p := (pl ("_law_what", none))) c 35 rfl),
  g__law_deep := (fx_glo X G (says_fx c 100 rfl)),
  F__law_deep := (says_fun (p := (pl ("_law_deep", none))) c 36 rfl),
  g__law_built := (fx_glo X G (says_fx c 101 rfl)),
  F__law_built := (says_fun (p := (pl ("_law_built", none))) c 37 rfl) }
end Tr
set_option maxHeartbeats 0
namespace Tr
open PySem PySem.Spec PyProof.Rows L2
end Tr
set_option maxHeartbeats 0
namespace Tr
open PySem PySem.Spec PyProof.Rows L2
theorem walkF {P : Program} (w : World) (mg : Str → Option Value) (fa : Addr) (h : Heap) (Y : hk9.says w h) (G : h.Ns mainGlobals mg) (hmg : mg "law" = some (.ref fa)) :
    ∃ (K : PySem.W.Frag) (fd : FuncData) (sp : Sp), K.In h ∧ (∀ (s : Shared) (u : Value), BindsTo s fd ⟨[u], []⟩ [("_law_script", u)]) ∧
      (∀ (H : Hp) (a : Addr) (ns : List Int), ns.length ≤ 63 → Only H → SqL K H a (ns.map V.int) → sp [.ref a] H (fun v _ => v = .bl true) fun _ _ _ => False) ∧
      ∀ base : Heap, K.In base → base.Ns mainGlobals mg → FnOk P w K mg base CX0 67 fa fd ["_law_script"] sp := by
  obtain ⟨K, KX, c⟩ := Y
  have T := mkT KX G c
  have e0 : mg "law" = some (.ref (adr K 41)) := fx_glo KX G (x := "law") (says_fx c 102 rfl)
  rw [hmg] at e0
  have e' : fa = adr K 41 := by
    injection e0 with e1
    injection e1
  subst e'
  have hb : ∀ (s : Shared) (v : Value), BindsTo s (fdn K 41) ⟨[v], []⟩ [("_law_script", v)] := by
    obtain ⟨_, _, _, _, _, _, _, _, _, e1, _, _⟩ := T.l.F_law.ex
    intro s v
    rw [e1]
    exact .of_eq rfl
  exact ⟨K, fdn K 41, spLaw K, KX, hb, fun H a ns hl _ hS => ⟨a, ns, rfl, hS, hl, fun _ => rfl⟩, fun base _ _ => ok_law T⟩
end Tr
set_option maxHeartbeats 0
set_option maxHeartbeats 0
theorem PySem.Challenge.cw_trackedreads_k10_bounds_of_books_holds : PySem.Challenge.rw_trackedreads_k10_bounds_of_books.Holds := by
  refine Tr.headE ?hc
  case hc =>
    refine L2.walk_ofE (l := PySem.Challenge.rw_trackedreads_k10_bounds_of_books) (n := 63) (k := 67) (x := "_law_script") (CX := L2.CX0) rfl (by decide) (by kernel_rfl) ⟨rfl, by decide, by decide⟩ ?F (fun _ _ _ _ z => z)
    intro w mg fa h Y G hmg0
    exact Tr.walkF w mg fa h Y G ((congrArg mg Tr.nameEq).symm.trans hmg0)
