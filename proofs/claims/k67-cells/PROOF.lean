import PyProof.Rows.All
import Wide.All
import OpenK.AllK
import Wide.FinOn
import HandS.ForMost
import HandS.Wide
import HandS.Walk
import HandS.Deep
import HandS.IsInst
import HandS.Steps
import HandS.Star
import HandS.SortInts
import PyProof.Rows.SortKeyStr
import HandS.Exc
import HandS.ExcInit
import HandS.ExcField
import HandS.ClsMeth
import HandS.ExcOwn
import HandS.WordsExc
import KE.KExcInit
import HandS.ExcIs
import HandS.Defaults
import HandS.Nested
import KE.KSuper
import HandS.OwnEq
import KE.KOpsOwn
import KE.KCallOwn
import HandS.Base
import HandS.Call
import HandS.Ends
import HandS.More
import HandS.Words
import HandS.Head0
import HandS.Head1
import HandS.Head2
import HandS.HeadEnd
import HandS.HeadHook1
import HandS.HeadHook2
import HandS.HeadNt
import HandS.Property
import HandS.Zip0
import PyProof.Draws
import PyProof.EnumMake
import HandS.TryMany
import HandS.CallLocal
import HandS.OwnIter
import HandS.IterNext
import HandS.DictSub
import HandS.ListItems
import KE.KDictList
import PyProof.StrBlock2
import HandS.Zip
import HandS.Style
import KE.KStateDown
import PySem.Challenge.RW_trackedreads_k67_cells
set_option Elab.async false
set_option linter.all false
set_option maxRecDepth 100000
set_option maxHeartbeats 4000000
namespace Tr
open PySem PySem.Spec PyProof.Rows L2
section
variable {X : Cx}

theorem K_nox (X : Cx) : X.nox.K = X.K := rfl
theorem K_cxOf {P : Program} {w : World} {K : PySem.W.Frag} {mg : Str → Option Value} {base : Heap} {CX : CXT} {N : List Str} {qual : Str} {scope : Scope} {f : Addr} {cd : Value} {A : Around} {outer : List Env} {s : Shared} {H : Hp} {E : XK} :
    (cxOf CX P w K mg base N qual scope f cd A outer s H E).K = K := rfl

theorem opImp {f : Value → Value → Sem Value} {r r' : R2} (h : OpR X f r) (i : ∀ x y H Q, r' x y H Q → r x y H Q) : OpR X f r' :=
  fun pins s σ H x y v u Q I rx ry q => h pins s σ H x y v u Q I rx ry (i x y H Q q)
theorem callImp {f : Value} {r r' : List V → Hp → VK → Prop} (h : CallR X f r) (i : ∀ xs H Q, r' xs H Q → r xs H Q) : CallR X f r' :=
  fun pins s σ H xs us Q I rx q => h pins s σ H xs us Q I rx (i xs H Q q)
theorem ixImp {r r' : R2} (h : IxR X r) (i : ∀ x y H Q, r' x y H Q → r x y H Q) : IxR X r' :=
  fun value slice pins s σ H x y v u Q I rx ry q hs => h value slice pins s σ H x y v u Q I rx ry (i x y H Q q) hs
theorem slImp {r r' : V → Option Int → Option Int → Hp → VK → Prop} (h : SlR X r) (i : ∀ x lo hi H Q, r' x lo hi H Q → r x lo hi H Q) : SlR X r' :=
  fun pins s σ H x v vl vu lo hi sl Q I rx hs pl pu q => h pins s σ H x v vl vu lo hi sl Q I rx hs pl pu (i x lo hi H Q q)
theorem mtImp {id : String} {r r' : V → List V → Hp → VK → Prop} (h : MtR X id r) (i : ∀ x xs H Q, r' x xs H Q → r x xs H Q) : MtR X id r' :=
  fun pins s σ H x xs v us Q I rx rs q => h pins s σ H x xs v us Q I rx rs (i x xs H Q q)
/-- an expression that is never reached -/
def tFalse : TE := fun _ _ _ => False
theorem pe_never {e : Expr} : PE X e tFalse := ⟨fun _ _ _ _ _ _ h => h.elim⟩
def tFalseT : TT := fun _ _ _ => False
theorem pt_never {e : Expr} : PT X e tFalseT := ⟨fun _ _ _ _ _ _ h => h.elim⟩
def sFalse : TS := fun _ _ _ => False
theorem ps_nev {st : Stmt} : PS X st sFalse := ⟨fun _ _ _ _ _ _ h => h.elim⟩
theorem pss_nev {st : List Stmt} : PSs X st sFalse := ⟨fun _ _ _ _ _ _ h => h.elim⟩

def rEqU (K : PySem.W.Frag) : R2 := fun x y H Q => if scal x y = true then Q (.bl (decide (x = y))) H else
  match y with
  | .ref q => match H q with
    | some (.lst []) => (match x with
      | .ref p => (match H p with
        | some (.lst xs) => Q (.bl xs.isEmpty) H
        | _ => False)
      | _ => False)
    | _ => rEqD K x y H Q
  | _ => rEqD K x y H Q
def rNeU (K : PySem.W.Frag) : R2 := fun x y H Q => if scal x y = true then Q (.bl (!decide (x = y))) H else
  match y with
  | .ref q => match H q with
    | some (.lst []) => (match x with
      | .ref p => (match H p with
        | some (.lst xs) => Q (.bl (!xs.isEmpty)) H
        | _ => False)
      | _ => False)
    | _ => rNeD K x y H Q
  | _ => rNeD K x y H Q
theorem isE_of {xs : List V} {its : List Value} (r : Vals xs its) : xs.isEmpty = its.isEmpty := by cases r <;> rfl
theorem eq_nil {pins : List (Addr × Obj)} {σ : L2.St} {H : Hp} {s : Shared} {p q : Addr} {xs : List V} {Q : Value → Shared → Prop} (I : Inv X pins σ H s) (hp : H p = some (.lst xs)) (hq : H q = some (.lst [])) (hu : X.A.units + 64 < cLine)
    (h : Q (.bool xs.isEmpty) s) : wpAny (model X.prog X.w) X.A (compareOp .Eq (.ref p) (.ref q)) Q X.xe s := by
  obtain ⟨its, r, pl, hz⟩ := I.list (SqL.of hp)
  obtain ⟨it2, r2, pl2, hz2⟩ := I.list (SqL.of hq)
  cases r2
  cases its with
  | nil =>
    cases r
    exact SeqAt.eq_listAt (e := fun _ => true) pl.isList pl2.isList rfl (by omega) (fun j h1 _ => absurd h1 (by simp)) (by simpa using h)
  | cons a l =>
    cases r
    exact SeqAt.eq_list_lengthsAt pl.isList pl2.isList (by simp) (by omega) h
theorem uEq (K : PySem.W.Frag) (hu : X.A.units + 64 < cLine) (hK : X.K = K := by rfl) : OpR X (compareOp .Eq) (rEqU K) := by
  subst hK
  intro pins s σ H x y v u Q I rx ry h
  unfold rEqU at h
  by_cases c : scal x y = true
  · rw [if_pos c] at h
    exact op_eq pins s σ H x y v u Q I rx ry ⟨c, h⟩
  · rw [if_neg c] at h
    split at h
    · split at h
      · rename_i q hq
        split at h
        · split at h
          · rename_i p xs hp
            cases rx
            cases ry
            exact eq_nil I hp hq hu ⟨.bl _, H, I, rfl, h⟩
          · exact h.elim
        · exact h.elim
      · exact op_eqD hu pins s σ H x _ v u Q I rx ry h
    · exact op_eqD hu pins s σ H x y v u Q I rx ry h

theorem ne_nil {pins : List (Addr × Obj)} {σ : L2.St} {H : Hp} {s : Shared} {p q : Addr} {xs : List V} {Q : Value → Shared → Prop} (I : Inv X pins σ H s) (hp : H p = some (.lst xs)) (hq : H q = some (.lst [])) (hu : X.A.units + 64 < cLine)
    (h : Q (.bool (!xs.isEmpty)) s) : wpAny (model X.prog X.w) X.A (compareOp .NotEq (.ref p) (.ref q)) Q X.xe s := by
  obtain ⟨its, r, pl, hz⟩ := I.list (SqL.of hp)
  obtain ⟨it2, r2, pl2, hz2⟩ := I.list (SqL.of hq)
  cases r2
  cases its with
  | nil =>
    cases r
    exact SeqAt.RcNeAt.lists (e := fun _ => true) pl.isList pl2.isList rfl (by omega) (fun j h1 _ => absurd h1 (by simp)) _ _ _ _ (by simpa using h)
  | cons a l =>
    cases r
    exact SeqAt.RcNeAt.lists_lengths pl.isList pl2.isList (by simp) (by omega) _ _ _ _ h
theorem uNe (K : PySem.W.Frag) (hu : X.A.units + 64 < cLine) (hK : X.K = K := by rfl) : OpR X (compareOp .NotEq) (rNeU K) := by
  subst hK
  intro pins s σ H x y v u Q I rx ry h
  unfold rNeU at h
  by_cases c : scal x y = true
  · rw [if_pos c] at h
    exact op_ne pins s σ H x y v u Q I rx ry ⟨c, h⟩
  · rw [if_neg c] at h
    split at h
    · split at h
      · rename_i q hq
        split at h
        · split at h
          · rename_i p xs hp
            cases rx
            cases ry
            exact ne_nil I hp hq hu ⟨.bl _, H, I, rfl, h⟩
          · exact h.elim
        · exact h.elim
      · exact op_neD hu pins s σ H x _ v u Q I rx ry h
    · exact op_neD hu pins s σ H x y v u Q I rx ry h

def rAddU : R2 := fun x y H Q => match x with
  | .int i => (match y with | .int j => Q (.int (i + j)) H | _ => False)
  | .str a => (match y with | .str b => a.length + b.length ≤ sizeLine ∧ Q (.str (a ++ b)) H | _ => False)
  | .ref p => (match y with
    | .ref q => (match H p with
      | some (.lst xs) => (match H q with
        | some (.lst ys) => xs.length + ys.length ≤ sizeLine ∧ ∀ r, H r = none → Q (.ref r) (upd H r (.lst (xs ++ ys)))
        | _ => False)
      | _ => False)
    | _ => False)
  | _ => False
theorem uAdd : OpR X (binaryOp .Add) rAddU := by
  intro pins s σ H x y v u Q I rx ry h
  unfold rAddU at h
  split at h
  · split at h
    · exact op_add pins s σ H _ _ v u Q I rx ry ⟨_, _, rfl, rfl, h⟩
    · exact h.elim
  · split at h
    · exact op_add_str pins s σ H _ _ v u Q I rx ry ⟨_, _, rfl, rfl, h.1, h.2⟩
    · exact h.elim
  · split at h
    · split at h
      · rename_i hp
        split at h
        · rename_i hq
          exact op_cat pins s σ H _ _ v u Q I rx ry ⟨_, _, _, _, rfl, rfl, hp, hq, h.1, h.2⟩
        · exact h.elim
      · exact h.elim
    · exact h.elim
  · exact h.elim
def repS (a : Str) (k : Nat) : Str := ⟨(List.replicate k a.cps.toList).flatten.toArray⟩
def rMulU : R2 := fun x y H Q => match x with
  | .int i => (match y with | .int j => CMulW i j ∧ Q (.int (i * j)) H | _ => False)
  | .ref p => (match y with
    | .int k => (match H p with
      | some (.lst xs) => -(2 ^ 63) ≤ k ∧ k < 2 ^ 63 ∧ xs.length * k.toNat ≤ sizeLine ∧ ∀ r, H r = none → Q (.ref r) (upd H r (.lst (List.replicate k.toNat xs).flatten))
      | _ => False)
    | _ => False)
  | _ => False
theorem uMul : OpR X (binaryOp .Mult) rMulU := by
  intro pins s σ H x y v u Q I rx ry h
  unfold rMulU at h
  split at h
  · split at h
    · exact op_mulW pins s σ H _ _ v u Q I rx ry ⟨_, _, rfl, rfl, h.1, h.2⟩
    · exact h.elim
  · split at h
    · split at h
      · rename_i hp
        exact op_rep pins s σ H _ _ v u Q I rx ry ⟨_, _, _, rfl, rfl, hp, h.1, h.2.1, h.2.2.1, h.2.2.2⟩
      · exact h.elim
    · exact h.elim
  · exact h.elim

def rIxU : R2 := fun x y H Q => match x with
  | .ref p => (match y with
    | .int i => (match H p with
      | some (.lst xs) => ∃ v, atI xs i = some v ∧ Q v H
      | some (.tup xs) => ∃ v, atI xs i = some v ∧ Q v H
      | _ => False)
    | _ => False)
  | .str z => (match y with
    | .int i => z.length ≤ sizeLine ∧ ∃ c, atI z.cps.toList i = some c ∧ Q (.str ⟨#[c]⟩) H
    | _ => False)
  | _ => False
theorem uIx : IxR X rIxU := by
  intro value slice pins s σ H x y v u Q I rx ry h hs
  unfold rIxU at h
  split at h
  · split at h
    · split at h
      · rename_i hp
        obtain ⟨z, hz, q⟩ := h
        exact ix_list value slice pins s σ H _ _ v u Q I rx ry ⟨_, _, _, z, rfl, rfl, SqL.of hp, hz, q⟩ hs
      · rename_i hp
        obtain ⟨z, hz, q⟩ := h
        exact ix_tup value slice pins s σ H _ _ v u Q I rx ry ⟨_, _, _, z, rfl, rfl, SqT.of hp, hz, q⟩ hs
      · exact h.elim
    · exact h.elim
  · split at h
    · obtain ⟨hl, c, hc, q⟩ := h
      exact ix_str value slice pins s σ H _ _ v u Q I rx ry ⟨_, _, c, rfl, rfl, hl, hc, q⟩ hs
    · exact h.elim
  · exact h.elim
def rGetD : R2 := fun x y H Q => match x with
  | .ref a => (match H a with
    | some (.dK kvs) => (match y with
      | .int i => ∃ v, valV kvs (Sum.inl i) = some v ∧ Q v H
      | .str z => ∃ v, valV kvs (Sum.inr z) = some v ∧ Q v H
      | _ => False)
    | _ => False)
  | _ => False
theorem rGetD.to {x y : V} {H : Hp} {Q : VK} (h : rGetD x y H Q) : ∃ a v, x = .ref a ∧ DGet H a y (some v) ∧ Q v H := by
  unfold rGetD at h
  split at h
  · split at h
    · rename_i hp
      split at h
      · obtain ⟨v, e, q⟩ := h
        exact ⟨_, v, rfl, .inl ⟨_, Sum.inl _, .inl hp, rfl, e.symm⟩, q⟩
      · obtain ⟨v, e, q⟩ := h
        exact ⟨_, v, rfl, .inl ⟨_, Sum.inr _, .inl hp, rfl, e.symm⟩, q⟩
      · exact h.elim
    · exact h.elim
  · exact h.elim

def rSlU : V → Option Int → Option Int → Hp → VK → Prop := fun x lo hi H Q => match x with
  | .ref p => (match H p with
    | some (.lst xs) => ∀ r, H r = none → Q (.ref r) (upd H r (.lst (cutV xs lo hi)))
    | some (.tup xs) => ¬ (HT.sIx xs.length 0 lo = 0 ∧ HT.sIx xs.length xs.length hi = xs.length) ∧ ∀ r, H r = none → Q (.ref r) (upd H r (.tup (cutV xs lo hi)))
    | _ => False)
  | .str z => z.length ≤ sizeLine ∧ Q (.str (cutS z lo hi)) H
  | _ => False
theorem uSl : SlR X rSlU := by
  intro pins s σ H x v vl vu lo hi sl Q I rx hs pl pu h
  unfold rSlU at h
  split at h
  · split at h
    · rename_i hp
      exact sl_list pins s σ H _ v vl vu lo hi sl Q I rx hs pl pu ⟨_, _, rfl, SqL.of hp, h⟩
    · rename_i hp
      exact sl_tup pins s σ H _ v vl vu lo hi sl Q I rx hs pl pu ⟨_, _, rfl, SqT.of hp, h.1, h.2⟩
    · exact h.elim
  · exact sl_str pins s σ H _ v vl vu lo hi sl Q I rx hs pl pu ⟨_, rfl, h.1, h.2⟩
  · exact h.elim

def rInU (K : PySem.W.Frag) (neg : Bool) : R2 := fun x y H Q => match y with
  | .ref p => (match H p with
    | some (.lst xs) => flatV x = true ∧ xs.all flatV = true ∧ Q (.bl (if neg then !inV x xs else inV x xs)) H
    | some (.tup xs) => flatV x = true ∧ xs.all flatV = true ∧ Q (.bl (if neg then !inV x xs else inV x xs)) H
    | _ => rIn K neg x y H Q)
  | .str z => (match x with
    | .str w => ∃ c, w = ⟨#[c]⟩ ∧ Q (.bl (if neg then !decide (c ∈ z.cps.toList) else decide (c ∈ z.cps.toList))) H
    | _ => False)
  | _ => False
theorem uIn (K : PySem.W.Frag) (hK : X.K = K := by rfl) : OpR X (compareOp .In) (rInU K false) := by
  subst hK
  intro pins s σ H x y v u Q I rx ry h
  unfold rInU at h
  split at h
  · split at h
    · rename_i hp
      exact op_in_seq pins s σ H x _ v u Q I rx ry ⟨_, _, rfl, .inl (SqL.of hp), h.1, h.2.1, h.2.2⟩
    · rename_i hp
      exact op_in_seq pins s σ H x _ v u Q I rx ry ⟨_, _, rfl, .inr (SqT.of hp), h.1, h.2.1, h.2.2⟩
    · exact op_in_seq pins s σ H x _ v u Q I rx ry h
  · split at h
    · obtain ⟨c, rfl, h⟩ := h
      exact op_in_sign pins s σ H _ _ v u Q I rx ry ⟨c, _, rfl, rfl, h⟩
    · exact h.elim
  · exact h.elim
theorem uNotIn (K : PySem.W.Frag) (hK : X.K = K := by rfl) : OpR X (compareOp .NotIn) (rInU K true) := by
  subst hK
  intro pins s σ H x y v u Q I rx ry h
  unfold rInU at h
  split at h
  · split at h
    · rename_i hp
      exact op_notIn_seq pins s σ H x _ v u Q I rx ry ⟨_, _, rfl, .inl (SqL.of hp), h.1, h.2.1, h.2.2⟩
    · rename_i hp
      exact op_notIn_seq pins s σ H x _ v u Q I rx ry ⟨_, _, rfl, .inr (SqT.of hp), h.1, h.2.1, h.2.2⟩
    · exact op_notIn_seq pins s σ H x _ v u Q I rx ry h
  · split at h
    · obtain ⟨c, rfl, h⟩ := h
      exact op_notIn_sign pins s σ H _ _ v u Q I rx ry ⟨c, _, rfl, rfl, h⟩
    · exact h.elim
  · exact h.elim

def rLenU : List V → Hp → VK → Prop := fun xs H Q => match xs with
  | [.str z] => z.length ≤ sizeLine ∧ Q (.int z.length) H
  | [.ref p] => (match H p with
    | some (.lst ys) => Q (.int ys.length) H
    | some (.tup ys) => Q (.int ys.length) H
    | some (.dK kvs) => Q (.int kvs.length) H
    | _ => False)
  | _ => False
theorem uLen : CallR X (.builtin "len") rLenU := by
  intro pins s σ H xs us Q I r h
  unfold rLenU at h
  split at h
  · exact call_len_str pins s σ H _ us Q I r ⟨_, rfl, h.1, h.2⟩
  · split at h
    · rename_i hp
      exact call_len_seq pins s σ H _ us Q I r ⟨_, _, rfl, .inl (SqL.of hp), h⟩
    · rename_i hp
      exact call_len_seq pins s σ H _ us Q I r ⟨_, _, rfl, .inr (SqT.of hp), h⟩
    · rename_i hp
      exact call_lenD pins s σ H _ us Q I r ⟨_, _, rfl, hp, h⟩
    · exact h.elim
  · exact h.elim
def rListU : List V → Hp → VK → Prop := fun xs H Q => match xs with
  | [.ref p] => (match H p with
    | some (.lst ys) => ∀ l, H l = none → Q (.ref l) (upd H l (.lst ys))
    | some (.tup ys) => ∀ l, H l = none → Q (.ref l) (upd H l (.lst ys))
    | _ => False)
  | _ => False
theorem uList : CallR X (.type "list") rListU := by
  intro pins s σ H xs us Q I r h
  unfold rListU at h
  split at h
  · split at h
    · rename_i hp
      exact call_list_of pins s σ H _ us Q I r ⟨_, _, rfl, .inl (SqL.of hp), h⟩
    · rename_i hp
      exact call_list_of pins s σ H _ us Q I r ⟨_, _, rfl, .inr (SqT.of hp), h⟩
    · exact h.elim
  · exact h.elim
def rTupleU : List V → Hp → VK → Prop := fun xs H Q => match xs with
  | [.ref p] => (match H p with
    | some (.lst ys) => ∀ l, H l = none → Q (.ref l) (upd H l (.tup ys))
    | some (.tup ys) => Q (.ref p) H
    | _ => False)
  | _ => False
theorem uTuple : CallR X (.type "tuple") rTupleU := by
  intro pins s σ H xs us Q I r h
  unfold rTupleU at h
  split at h
  · split at h
    · rename_i hp
      exact call_tuple_of pins s σ H _ us Q I r ⟨_, _, rfl, .inl ⟨SqL.of hp, h⟩⟩
    · rename_i hp
      exact call_tuple_of pins s σ H _ us Q I r ⟨_, _, rfl, .inr ⟨SqT.of hp, h⟩⟩
    · exact h.elim
  · exact h.elim
/-- int(n), int(flag), int(text) -/
def rIntU : List V → Hp → VK → Prop := fun xs H Q => match xs with
  | [.int i] => Q (.int i) H
  | [.bl k] => Q (.int (if k then 1 else 0)) H
  | [.str a] => ∃ n, PySem.intText? a = some n ∧ a.length ≤ 640 ∧ Q (.int n) H
  | _ => False
theorem uInt : CallR X (.type "int") rIntU := by
  intro pins s σ H xs us Q I r h
  unfold rIntU at h
  split at h
  · exact call_int1 pins s σ H _ us Q I r (.inl ⟨_, rfl, h⟩)
  · exact call_int1 pins s σ H _ us Q I r (.inr ⟨_, rfl, h⟩)
  · obtain ⟨n, e, l, q⟩ := h
    exact call_int_str pins s σ H _ us Q I r ⟨_, n, rfl, e, l, q⟩
  · exact h.elim
def rAppU : V → List V → Hp → VK → Prop := fun x xs H Q => match x with
  | .ref l => (match H l with
    | some (.lst ys) => (match xs with | [v] => ys.length < sizeLine ∧ Q .non (upd H l (.lst (ys ++ [v]))) | _ => False)
    | _ => False)
  | _ => False
theorem uAppend : MtR X "list.append" rAppU := by
  intro pins s σ H x xs v us Q I rx rs h
  unfold rAppU at h
  split at h
  · split at h
    · rename_i hp
      split at h
      · exact mt_append pins s σ H _ _ v us Q I rx rs ⟨_, _, _, rfl, rfl, hp, h.1, h.2⟩
      · exact h.elim
    · exact h.elim
  · exact h.elim
end
end Tr
namespace Tr
open PySem PySem.Spec PyProof.Rows L2
theorem bt_len : bootBuiltins "len" = some (.builtin "len") := by decide +kernel
theorem bt_abs : bootBuiltins "abs" = some (.builtin "abs") := by decide +kernel
theorem bt_all : bootBuiltins "all" = some (.builtin "all") := by decide +kernel
theorem bt_any : bootBuiltins "any" = some (.builtin "any") := by decide +kernel
theorem bt_max : bootBuiltins "max" = some (.builtin "max") := by decide +kernel
theorem bt_min : bootBuiltins "min" = some (.builtin "min") := by decide +kernel
theorem bt_isinstance : bootBuiltins "isinstance" = some (.builtin "isinstance") := by decide +kernel
theorem bt_sorted : bootBuiltins "sorted" = some (.builtin "sorted") := by decide +kernel
theorem bt_int : bootBuiltins "int" = some (.type "int") := by decide +kernel
theorem bt_list : bootBuiltins "list" = some (.type "list") := by decide +kernel
theorem bt_tuple : bootBuiltins "tuple" = some (.type "tuple") := by decide +kernel
theorem bt_str : bootBuiltins "str" = some (.type "str") := by decide +kernel
theorem bt_bool : bootBuiltins "bool" = some (.type "bool") := by decide +kernel
theorem bt_dict : bootBuiltins "dict" = some (.type "dict") := by decide +kernel
theorem bt_set : bootBuiltins "set" = some (.type "set") := by decide +kernel
/-- Same, further -/
theorem Same.new {H : Hp} {p : Addr} {o : HO} (h : H p = none) : Same H (upd H p o) := fun b u e => by
  rw [upd_ne (ne_of_none e h)]
  exact e
theorem Same.mut {H H' : Hp} {p : Addr} {o : HO} (e : Same H H') (h : H p = none) : Same H (upd H' p o) := fun b u q => by
  rw [upd_ne (ne_of_none q h)]
  exact e b u q
/-- all but what H did not know is as it was; the converse of Same.free -/
theorem Same.none {H H' : Hp} (e : Same H H') {p : Addr} (h : H' p = none) : H p = none := e.free h
end Tr

namespace Tr
open PySem PySem.Spec PyProof.Rows L2
section
variable {X : Cx}
theorem pe_gI {x : Str} {n : Int} {t : Tok} {pos : Pos} (hg : Gl X x) (hm : X.mg x = some (.int n t)) (hd : (x == ("__debug__" : Str)) = false := by decide) : PE X (.Name x pos) (tC (.int n)) := pe_glob hg hm ⟨t, rfl⟩ hd
theorem pe_gS {x : Str} {n : Str} {t : Tok} {pos : Pos} (hg : Gl X x) (hm : X.mg x = some (.str n t)) (hd : (x == ("__debug__" : Str)) = false := by decide) : PE X (.Name x pos) (tC (.str n)) := pe_glob hg hm ⟨t, rfl⟩ hd
theorem pe_gR {x : Str} {n : Addr} {pos : Pos} (hg : Gl X x) (hm : X.mg x = some (.ref n)) (hd : (x == ("__debug__" : Str)) = false := by decide) : PE X (.Name x pos) (tC (.ref n)) := pe_glob (v := .ref n) hg hm rfl hd
structure FldOk (K : PySem.W.Frag) (C : Addr) (f : Str) : Prop where
  cl : Cls K C
  no : NoAttr K C f
def tFldU (K : PySem.W.Frag) (ta : TE) (f : Str) : TE := fun σ H Q => ta σ H fun x H1 => match x with
  | .ref a => (match H1 a with
    | some (.ins C dx fs) => FldOk K C f ∧ ∃ v, fs.lookup f = some v ∧ Q v H1
    | _ => False)
  | _ => False
theorem peImp {e : Expr} {t t' : TE} (h : PE X e t) (i : ∀ σ H Q, t' σ H Q → t σ H Q) : PE X e t' := ⟨fun pins s σ H Q I q => h.run pins s σ H Q I (i σ H Q q)⟩
theorem psImp {e : Stmt} {t t' : TS} (h : PS X e t) (i : ∀ D σ H, t' D σ H → t D σ H) : PS X e t' := ⟨fun pins s σ H D I q => h.run pins s σ H D I (i D σ H q)⟩
theorem pe_fldU {e : Expr} {f : Str} {pos : Pos} {ta : TE} (K : PySem.W.Frag) (ha : PE X e ta) (hb : attributeBase e f X.env (eval e X.env) = eval e X.env := by rfl) (hK : X.K = K := by rfl) : PE X (.Attribute e f pos) (tFldU K ta f) := by
  subst hK
  refine ⟨fun pins s σ H Q I h => ?_⟩
  refine attr_of hb (thn (ha.run pins s σ H _ I h) fun u s1 ⟨x, H1, I1, rx, q⟩ => ?_)
  dsimp only at q
  split at q
  · split at q
    · rename_i ea
      obtain ⟨c, v, l, q⟩ := q
      cases rx
      exact getattr_ok I1 ea c.cl c.no l fun u' s2 I2 ru => ⟨v, H1, I2, ru, q⟩
    · exact q.elim
  · exact q.elim
/-- o.f = e -/
def sFldU (K : PySem.W.Frag) (ta tv : TE) (f : Str) : TS := fun D σ H => tv σ H fun y H1 => ta σ H1 fun x H2 => match x with
  | .ref a => (match H2 a with
    | some (.ins C dx fs) => FldOk K C f ∧ fs.length < 1000 ∧ D.nx σ (upd H2 a (.ins C dx (putF f y fs)))
    | _ => False)
  | _ => False
theorem ps_fldU {o value : Expr} {f : Str} {pos pos' : Pos} {ta tv : TE} (K : PySem.W.Frag) (ha : PE X o ta) (hv : PE X value tv) (hs : swapsWith value (some (.Attribute o f pos')) pos.line X.env = pure false := by rfl) (hK : X.K = K := by rfl) :
    PS X (.Assign [.Attribute o f pos'] value pos) (sFldU K ta tv f) := by
  subst hK
  refine ⟨fun pins s σ H D I h => ?_⟩
  refine plainObj_wpAny_Assign_Attribute (thn (hv.run pins s σ H _ I h) fun u s1 ⟨y, H1, I1, ry, q⟩ => thn (ha.run pins s1 σ H1 _ I1 q) fun ov s2 ⟨x, H2, I2, rx, q2⟩ => ?_) hs
  dsimp only at q2
  split at q2
  · split at q2
    · rename_i ea
      obtain ⟨c, l, q2⟩ := q2
      cases rx
      exact setattr_ok I2 ea c.cl c.no l ry fun s3 I3 => ⟨σ, _, I3, q2⟩
    · exact q2.elim
  · exact q2.elim
/-- (a, b, ..) = e, a tuple that stands in H -/
def gTupU (n : Nat) (t : TGs) : TG := fun v σ H Q => match v with
  | .ref a => (match H a with
    | some (.tup xs) => xs.length = n ∧ t xs σ H Q
    | _ => False)
  | _ => False
theorem pg_tupU {es : List Expr} {k : Nat} {t : TGs} {n : Nat} {pos : Pos} (hc : X.calm = true) (h : PGs X es t)
    (hn : (assignEach es X.env).length = n := by rfl) (hst : (assignEach es X.env).findIdx? (·.1) = none := by rfl) : PG X (.Tuple es k pos) (gTupU n t) := by
  refine ⟨fun pins s σ H v u Q I r hw => ?_⟩
  unfold gTupU at hw
  split at hw
  · split at hw
    · rename_i ea
      exact (pg_tup hc h hn hst).run pins s σ H _ u Q I r ⟨_, _, rfl, SqT.of ea, hw.1, hw.2⟩
    · exact hw.elim
  · exact hw.elim
/-- xs[i] = v, xs[i] op= v -/
def rSetU : V → V → V → Hp → (Hp → Prop) → Prop := fun o i v H Q => match o with
  | .ref p => (match H p with
    | some (.lst xs) => (match i with
      | .int k => ∃ j, ixN xs.length k = some j ∧ Q (upd H p (.lst (xs.set j v)))
      | _ => False)
    | _ => False)
  | _ => False
theorem set_listU : PSet X rSetU := by
  intro pins s σ H o i v ov iv u Q I ro ri rv h
  unfold rSetU at h
  split at h
  · split at h
    · rename_i hp
      split at h
      · obtain ⟨j, hj, q⟩ := h
        exact set_list pins s σ H _ _ v ov iv u Q I ro ri rv ⟨_, _, _, j, rfl, rfl, hp, hj, q⟩
      · exact h.elim
    · exact h.elim
  · exact h.elim
def rGetU : V → V → Hp → VK → Prop := fun o i H Q => match o with
  | .ref p => (match H p with
    | some (.lst xs) => (match i with
      | .int k => ∃ v, atI xs k = some v ∧ Q v H
      | _ => False)
    | _ => False)
  | _ => False
theorem get_listU : PGet X rGetU := by
  intro pins s σ H x y v u Q I rx ry h
  unfold rGetU at h
  split at h
  · split at h
    · rename_i hp
      split at h
      · obtain ⟨z, he, q⟩ := h
        cases rx
        obtain ⟨t, rfl⟩ := ry
        obtain ⟨its, r, pl, hz⟩ := I.list (SqL.of hp)
        obtain ⟨j, h1, h2, h3, h4, h5⟩ := atI_get he
        obtain ⟨w, ew, rw'⟩ := r.get h2
        have hl := r.length
        have hn := line63
        have fin : EP X pins σ Q w s := ⟨z, H, I, rw', q⟩
        rename_i i
        by_cases h0 : 0 ≤ i
        · have hj : i.toNat = j := by
            rw [seqIndex_of h0 h5] at h1
            exact Option.some.inj h1
          exact wpAny_getItem_list pl.isList h0 (by omega) (by rw [hj]; simpa using ew) fin
        · have hj : (i + (its.toArray.size : Int)).toNat = j := by
            rw [seqIndex_neg (by omega) h4] at h1
            rw [List.size_toArray, ← hl]
            exact Option.some.inj h1
          exact wpAny_getItem_list_neg pl.isList (by omega) (by rw [List.size_toArray] <;> omega) (by omega) (by rw [hj]; simpa using ew) fin
      · exact h.elim
    · exact h.elim
  · exact h.elim
end
end Tr
namespace Tr
open PySem PySem.Spec PyProof.Rows L2
theorem lc_fm {α : Type} (xs : List α) (h : α → Option V) {J : It} {n : Nat} {G : Hp → Prop} {Y : Nat → Hp → V → Hp → Prop} (w : Walk J n G Y) (hn : n = xs.length) (hz : xs.length ≤ sizeLine) {g : TG} {tt : TT} {te : TE} {vs : List Nat} {σ : L2.St} {H1 : Hp} {D : Addr} {Qd : Hp → Prop} (hD : H1 D = none)
    (hG : ∀ H, Same H1 H → G H)
    (hs : ∀ (i : Nat) (a : α) (x : V) (H H' : Hp) (R : VK) (R0 : Hp → Prop), xs[i]? = some a → Same H1 H → Y i H x H' → (∀ v, h a = some v → ∀ H4, Same H H4 → R v H4) → (h a = none → ∀ H3, Same H H3 → R0 H3) →
      g x (wipe σ vs) H' fun σ2 H2 => wipe σ2 vs = wipe σ vs ∧ tt σ2 H2 fun b H3 => if b = true then te σ2 H3 R else R0 H3)
    (hd : ∀ H, Same H1 H → H D = some (.lst (xs.filterMap h)) → Qd H) :
    ∃ W : Nat → Nat → Hp → Prop, (∃ m, W 0 m (upd H1 D (.lst []))) ∧ ∀ i m H, W i m H →
      (J.stop i H ∧ Qd H) ∨ (J.go i H ∧ ∃ Nx : Hp → Prop, (∀ H', Nx H' → ∃ m', m' < m ∧ W (i + 1) m' H') ∧ ∀ x H', J.yld i H x H' → g x (wipe σ vs) H' fun σ2 H2 => wipe σ2 vs = wipe σ vs ∧ tt σ2 H2 fun b H3 =>
        if b = true then te σ2 H3 fun y H4 => ∃ acc, H4 D = some (.lst acc) ∧ acc.length < sizeLine ∧ Nx (upd H4 D (.lst (acc ++ [y]))) else Nx H3) := by
  subst hn
  refine lc_it w (fun i H => Same H1 H ∧ H D = some (.lst ((xs.take i).filterMap h))) ⟨Same.new hD, by rw [upd_same]; simp⟩ (fun i H _ p => hG H p.1) ?_ (fun H p => hd H p.1 (by rw [p.2, List.take_length]))
  intro i x H H' hi p y
  obtain ⟨a, ha⟩ : ∃ a, xs[i]? = some a := ⟨xs[i], List.getElem?_eq_getElem hi⟩
  have et : xs.take (i + 1) = xs.take i ++ [a] := by
    rw [List.take_succ, ha]
    rfl
  have hlen : ((xs.take i).filterMap h).length < sizeLine := by
    refine Nat.lt_of_le_of_lt (List.length_filterMap_le _ _) ?_
    rw [List.length_take]
    omega
  refine hs i a x H H' _ _ ha p.1 y (fun v hv H4 s4 => ?_) (fun hv H3 s3 => ?_)
  · refine ⟨_, s4 _ _ p.2, hlen, Same.mut (p.1.trans s4) hD, ?_⟩
    rw [upd_same, et, List.filterMap_append]
    simp [hv]
  · refine ⟨p.1.trans s3, ?_⟩
    rw [s3 _ _ p.2, et, List.filterMap_append]
    simp [hv]
/-- any, all of a list of truth values that stands in H -/
def rAllU : List V → Hp → VK → Prop := fun xs H Q => match xs with
  | [.ref p] => (match H p with
    | some (.lst ys) => ∃ bs : List Bool, ys = bs.map V.bl ∧ Q (.bl (bs.all id)) H
    | _ => False)
  | _ => False
def rAnyU : List V → Hp → VK → Prop := fun xs H Q => match xs with
  | [.ref p] => (match H p with
    | some (.lst ys) => ∃ bs : List Bool, ys = bs.map V.bl ∧ Q (.bl (bs.any id)) H
    | _ => False)
  | _ => False
section
variable {X : Cx}
theorem uAll (hc : X.calm = true) : CallR X (.builtin "all") rAllU := by
  intro pins s σ H xs us Q I r h
  unfold rAllU at h
  split at h
  · split at h
    · rename_i hp
      obtain ⟨bs, rfl, q⟩ := h
      exact cr_all hc pins s σ H _ us Q I r ⟨_, bs, rfl, SqL.of hp, q⟩
    · exact h.elim
  · exact h.elim
theorem uAny (hc : X.calm = true) : CallR X (.builtin "any") rAnyU := by
  intro pins s σ H xs us Q I r h
  unfold rAnyU at h
  split at h
  · split at h
    · rename_i hp
      obtain ⟨bs, rfl, q⟩ := h
      exact cr_any hc pins s σ H _ us Q I r ⟨_, bs, rfl, SqL.of hp, q⟩
    · exact h.elim
  · exact h.elim
/-- x in T, T a written tuple of the module -/
def rInW (p : Addr) (xs : List V) : R2 := fun x y H Q => y = .ref p ∧ flatV x = true ∧ Q (.bl (inV x xs)) H
theorem uInW {p : Addr} {xs : List V} (hw : ∀ H, SqT X.K H p xs) (hf : xs.all flatV = true) : OpR X (compareOp .In) (rInW p xs) := by
  intro pins s σ H x y v u Q I rx ry h
  obtain ⟨rfl, fx, q⟩ := h
  exact op_in_seq pins s σ H x _ v u Q I rx ry ⟨_, xs, rfl, .inr (hw H), fx, hf, q⟩
end
theorem inV_strs (t : Str) : ∀ l : List Str, inV (.str t) (l.map V.str) = l.contains t
  | [] => rfl
  | b :: l => by
    have ih := inV_strs t l
    unfold inV at ih ⊢
    rw [List.map_cons, List.any_cons, ih, List.contains_cons]
    congr 1
    show (b == t) = (t == b)
    exact Bool.eq_iff_iff.mpr ⟨fun h => by simpa using (by simpa using h : b = t).symm, fun h => by simpa using (by simpa using h : t = b).symm⟩
theorem flat_strs (l : List Str) : (l.map V.str).all flatV = true := by
  induction l with
  | nil => rfl
  | cons a l ih => exact ih
theorem atI_0 {α : Type} (x : α) (l : List α) : atI (x :: l) 0 = some x := atI_nat (j := 0) rfl
theorem atI_1 {α : Type} (x y : α) (l : List α) : atI (x :: y :: l) 1 = some y := atI_nat (j := 1) rfl
theorem atI_2 {α : Type} (x y z : α) (l : List α) : atI (x :: y :: z :: l) 2 = some z := atI_nat (j := 2) rfl
theorem atI_3 {α : Type} (x y z w : α) (l : List α) : atI (x :: y :: z :: w :: l) 3 = some w := atI_nat (j := 3) rfl
end Tr
set_option maxHeartbeats 4000000
namespace Tr
open PySem PySem.Spec PyProof.Rows L2
section
variable {σ : L2.St} {H : Hp} {Q : VK} {D : Ends} {t u : TS} {c d : TT} {ta tb te tv : TE} {tg : TG} {i j : Nat} {v x y : V} {K : PySem.W.Frag}
variable {na : L2.St → Hp → Prop} {rt : VK} {bk ct : L2.St → Hp → Prop}
theorem s_seq (h : t ⟨u ⟨na, rt, bk, ct⟩, rt, bk, ct⟩ σ H) : tSeq t u ⟨na, rt, bk, ct⟩ σ H := h
theorem s_next (h : na σ H) : tNext ⟨na, rt, bk, ct⟩ σ H := h
theorem s_if (h : c σ H fun b H1 => if b = true then t D σ H1 else u D σ H1) : tIfS c t u D σ H := h
theorem s_ret (h : te σ H rt) : tRet te ⟨na, rt, bk, ct⟩ σ H := h
theorem s_retN (h : rt .non H) : tRetN ⟨na, rt, bk, ct⟩ σ H := h
theorem s_drop (h : te σ H fun _ H1 => na σ H1) : tDrop te ⟨na, rt, bk, ct⟩ σ H := h
theorem s_asg (h : te σ H fun x H1 => tg x σ H1 na) : tAsg te tg ⟨na, rt, bk, ct⟩ σ H := h
theorem s_brk (h : bk σ H) : tBreak ⟨na, rt, bk, ct⟩ σ H := h
theorem s_cont (h : ct σ H) : tCont ⟨na, rt, bk, ct⟩ σ H := h
theorem s_gname {R : L2.St → Hp → Prop} (h : R (σ.set i (some v)) H) : gName i v σ H R := h
theorem s_var (h : σ[i]? = some (some v)) (q : Q v H) : tVar i σ H Q := ⟨v, h, q⟩
theorem s_c (q : Q v H) : tC v σ H Q := q
theorem s_op {r : R2} (h : ta σ H fun x H1 => tb σ H1 fun y H2 => r x y H2 Q) : tOp r ta tb σ H Q := h
theorem s_un {r : V → Hp → VK → Prop} (h : ta σ H fun x H1 => r x H1 Q) : tUn r ta σ H Q := h
theorem s_neg {n : Int} (q : Q (.int (-n)) H) : rU (fun i => .int (-i)) (.int n) H Q := ⟨n, rfl, q⟩
theorem s_test {R : Bool → Hp → Prop} (h : te σ H fun x H' => ∃ k, x = .bl k ∧ R k H') : tTest te σ H R := h
theorem s_tb {R : Bool → Hp → Prop} (h : te σ H fun x H' => ∃ k, x = .bl k ∧ R k H') : tB te σ H R := h
theorem s_bl {R : Bool → Prop} {b : Bool} (h : R b) : ∃ k, V.bl b = .bl k ∧ R k := ⟨b, rfl, h⟩
theorem s_not {R : Bool → Hp → Prop} (h : c σ H fun b H1 => R (!b) H1) : tNot c σ H R := h
theorem s_and {R : Bool → Hp → Prop} (h : c σ H fun b H1 => if b = true then d σ H1 R else R false H1) : tAnd c d σ H R := h
theorem s_or {R : Bool → Hp → Prop} (h : c σ H fun b H1 => if b = true then R true H1 else d σ H1 R) : tOr c d σ H R := h
theorem s_yes {R : Bool → Hp → Prop} (h : R true H) : tYes σ H R := h
theorem s_ifx (h : c σ H fun b H1 => if b = true then ta σ H1 Q else tb σ H1 Q) : tIf c ta tb σ H Q := h
theorem s_andV (h : ta σ H fun x H1 => ∃ c, x = .bl c ∧ if c = true then tb σ H1 Q else Q (.bl false) H1) : tAndV ta tb σ H Q := h
theorem s_orV (h : ta σ H fun x H1 => ∃ c, x = .bl c ∧ if c = true then Q (.bl true) H1 else tb σ H1 Q) : tOrV ta tb σ H Q := h
theorem s_notV (h : ta σ H fun x H1 => ∃ c, x = .bl c ∧ Q (.bl (!c)) H1) : tNotV ta σ H Q := h
theorem s_chain {r r' : R2} {tc : TE} (h : ta σ H fun x H1 => tb σ H1 fun y H2 => r x y H2 fun z H3 => ∃ k, z = .bl k ∧ (if k = true then tc σ H3 fun w' H4 => r' y w' H4 Q else Q (.bl false) H3)) : tChain r r' ta tb tc σ H Q := h
theorem s_nil {R : List V → Hp → Prop} (h : R [] H) : tNil σ H R := h
theorem s_cons {tr : TA} {R : List V → Hp → Prop} (h : te σ H fun x H1 => tr σ H1 fun xs H2 => R (x :: xs) H2) : tCons te tr σ H R := h
theorem s_lst {tr : TA} (h : tr σ H fun xs H1 => xs.length ≤ sizeLine ∧ ∀ p, H1 p = none → Q (.ref p) (upd H1 p (.lst xs))) : tLst tr σ H Q := h
theorem s_tup {tr : TA} (h : tr σ H fun xs H1 => xs.length ≤ sizeLine ∧ ∀ p, H1 p = none → Q (.ref p) (upd H1 p (.tup xs))) : tTup tr σ H Q := h
theorem s_cb {r : List V → Hp → VK → Prop} {tr : TA} (h : tr σ H fun vs H1 => r vs H1 Q) : tCB r tr σ H Q := h
theorem s_call {sp : Sp} {E : XK} {tr : TA} (h : tr σ H fun vs H1 => sp vs H1 Q E) : tCall sp [] E tr σ H Q := by
  show tr σ H fun vs H1 => sp (vs ++ []) H1 Q E
  have e : (fun vs H1 => sp (vs ++ []) H1 Q E) = fun vs H1 => sp vs H1 Q E := by funext vs H1; rw [List.append_nil]
  rw [e]
  exact h
def mRecv (C : Addr) (m : Str) (R : V → Hp → Prop) (x : V) (H1 : Hp) : Prop := ∃ a dx fs, x = .ref a ∧ H1 a = some (.ins C dx fs) ∧ fs.lookup m = none ∧ R x H1
theorem s_meth {C : Addr} {m : Str} {sp : Sp} {E : XK} {tr : TA} (h : ta σ H fun x H1 => mRecv C m (fun x H1 => tr σ H1 fun vs H2 => sp (x :: vs) H2 Q E) x H1) : tMeth C m sp [] E ta tr σ H Q := by
  have e : (fun x H1 => ∃ a dx fs, x = V.ref a ∧ H1 a = some (.ins C dx fs) ∧ fs.lookup m = none ∧ tr σ H1 fun vs H2 => sp (x :: (vs ++ [])) H2 Q E) = fun x H1 => mRecv C m (fun x H1 => tr σ H1 fun vs H2 => sp (x :: vs) H2 Q E) x H1 := by
    funext x H1
    simp only [List.append_nil, mRecv]
  show ta σ H fun x H1 => ∃ a dx fs, x = V.ref a ∧ H1 a = some (.ins C dx fs) ∧ fs.lookup m = none ∧ tr σ H1 fun vs H2 => sp (x :: (vs ++ [])) H2 Q E
  rw [e]
  exact h
/-- the receiver is known -/
theorem s_recv {C a dx : Addr} {m : Str} {fs : List (Str × V)} {R : V → Hp → Prop} (h1 : H a = some (.ins C dx fs)) (h2 : fs.lookup m = none) (q : R (.ref a) H) : mRecv C m R (.ref a) H := ⟨a, dx, fs, rfl, h1, h2, q⟩
theorem s_make {C : Addr} {sp : Sp} {E : XK} {tr : TA} (h : tr σ H fun vs H1 => ∀ x dx, H1 x = none → H1 dx = none → dx ≠ x → sp (.ref x :: vs) (upd (upd H1 dx (.own x)) x (.ins C dx [])) (fun v H2 => v = .non ∧ Q (.ref x) H2) E) : tMake C sp [] E tr σ H Q := by
  have e : (fun vs H1 => ∀ x dx, H1 x = none → H1 dx = none → dx ≠ x → sp (.ref x :: (vs ++ [])) (upd (upd H1 dx (.own x)) x (.ins C dx [])) (fun v H2 => v = .non ∧ Q (.ref x) H2) E) = fun vs H1 => ∀ x dx, H1 x = none → H1 dx = none → dx ≠ x → sp (.ref x :: vs) (upd (upd H1 dx (.own x)) x (.ins C dx [])) (fun v H2 => v = .non ∧ Q (.ref x) H2) E := by
    funext vs H1
    simp only [List.append_nil]
  show tr σ H fun vs H1 => ∀ x dx, H1 x = none → H1 dx = none → dx ≠ x → sp (.ref x :: (vs ++ [])) (upd (upd H1 dx (.own x)) x (.ins C dx [])) (fun v H2 => v = .non ∧ Q (.ref x) H2) E
  rw [e]
  exact h
theorem s_I0 {g : Int → Int → V} {n m : Int} (q : Q (g n m) H) : rI0 g (.int n) (.int m) H Q := ⟨n, m, rfl, rfl, q⟩
theorem s_I {C : Int → Int → Prop} {g : Int → Int → V} {n m : Int} (hc : C n m) (q : Q (g n m) H) : rI C g (.int n) (.int m) H Q := ⟨n, m, rfl, rfl, hc, q⟩
theorem s_eqS (hs : scal x y = true) (q : Q (.bl (decide (x = y))) H) : rEqU K x y H Q := by unfold rEqU; rw [if_pos hs]; exact q
theorem s_neS (hs : scal x y = true) (q : Q (.bl (!decide (x = y))) H) : rNeU K x y H Q := by unfold rNeU; rw [if_pos hs]; exact q
theorem s_eqNil {p q' : Addr} {xs : List V} (hp : H p = some (.lst xs)) (hq : H q' = some (.lst [])) (q : Q (.bl xs.isEmpty) H) : rEqU K (.ref p) (.ref q') H Q := by
  unfold rEqU; rw [if_neg (by simp [scal])]; simp only [hp, hq]; exact q
theorem s_neNil {p q' : Addr} {xs : List V} (hp : H p = some (.lst xs)) (hq : H q' = some (.lst [])) (q : Q (.bl (!xs.isEmpty)) H) : rNeU K (.ref p) (.ref q') H Q := by
  unfold rNeU; rw [if_neg (by simp [scal])]; simp only [hp, hq]; exact q
theorem s_isN {b : Bool} (hb : decide (x = .non) = b) (q : Q (.bl b) H) : rIsN x .non H Q := ⟨rfl, by rw [hb]; exact q⟩
theorem s_notN {b : Bool} (hb : decide (x = .non) = b) (q : Q (.bl (!b)) H) : rNotN x .non H Q := ⟨rfl, by rw [hb]; exact q⟩
theorem s_addI {n m : Int} (q : Q (.int (n + m)) H) : rAddU (.int n) (.int m) H Q := q
theorem s_addS {a b : Str} (hl : a.length + b.length ≤ sizeLine) (q : Q (.str (a ++ b)) H) : rAddU (.str a) (.str b) H Q := ⟨hl, q⟩
theorem s_addL {p r : Addr} {xs ys : List V} (hp : H p = some (.lst xs)) (hq : H r = some (.lst ys)) (hl : xs.length + ys.length ≤ sizeLine) (q : ∀ z, H z = none → Q (.ref z) (upd H z (.lst (xs ++ ys)))) : rAddU (.ref p) (.ref r) H Q := by
  simp only [rAddU, hp, hq]
  exact ⟨hl, q⟩
theorem s_mulI {n m : Int} (hc : CMulW n m) (q : Q (.int (n * m)) H) : rMulU (.int n) (.int m) H Q := ⟨hc, q⟩
theorem s_mulL {p : Addr} {xs : List V} {k : Int} (hp : H p = some (.lst xs)) (h1 : -(2 ^ 63) ≤ k) (h2 : k < 2 ^ 63) (h3 : xs.length * k.toNat ≤ sizeLine) (q : ∀ z, H z = none → Q (.ref z) (upd H z (.lst (List.replicate k.toNat xs).flatten))) : rMulU (.ref p) (.int k) H Q := by
  simp only [rMulU, hp]
  exact ⟨h1, h2, h3, q⟩
theorem s_ixL {p : Addr} {xs : List V} {n : Int} (hp : H p = some (.lst xs)) (ha : atI xs n = some v) (q : Q v H) : rIxU (.ref p) (.int n) H Q := by
  simp only [rIxU, hp]
  exact ⟨v, ha, q⟩
theorem s_ixT {p : Addr} {xs : List V} {n : Int} (hp : H p = some (.tup xs)) (ha : atI xs n = some v) (q : Q v H) : rIxU (.ref p) (.int n) H Q := by
  simp only [rIxU, hp]
  exact ⟨v, ha, q⟩
theorem s_ixS {z : Str} {n : Int} {k : Nat} (hz : z.length ≤ sizeLine) (ha : atI z.cps.toList n = some k) (q : Q (.str ⟨#[k]⟩) H) : rIxU (.str z) (.int n) H Q := ⟨hz, k, ha, q⟩
theorem s_sl {r : V → Option Int → Option Int → Hp → VK → Prop} {tl th : TO} (h : te σ H fun x H1 => tl σ H1 fun l H2 => th σ H2 fun u H3 => r x l u H3 Q) : tSl r te tl th σ H Q := h
theorem s_po0 {R : Option Int → Hp → Prop} (h : R none H) : tNoPart σ H R := h
theorem s_po1 {R : Option Int → Hp → Prop} (h : te σ H fun x H1 => ∃ i, x = .int i ∧ R (some i) H1) : tPart te σ H R := h
theorem s_int {R : Int → Prop} {n : Int} (h : R n) : ∃ i, V.int n = .int i ∧ R i := ⟨n, rfl, h⟩
theorem s_slL {p : Addr} {xs : List V} {lo hi : Option Int} (hp : H p = some (.lst xs)) (q : ∀ z, H z = none → Q (.ref z) (upd H z (.lst (cutV xs lo hi)))) : rSlU (.ref p) lo hi H Q := by
  simp only [rSlU, hp]
  exact q
theorem s_slS {z : Str} {lo hi : Option Int} (hz : z.length ≤ sizeLine) (q : Q (.str (cutS z lo hi)) H) : rSlU (.str z) lo hi H Q := ⟨hz, q⟩
theorem s_inL {p : Addr} {xs : List V} {neg : Bool} (hp : H p = some (.lst xs)) (h1 : flatV x = true) (h2 : xs.all flatV = true) (q : Q (.bl (if neg then !inV x xs else inV x xs)) H) : rInU K neg x (.ref p) H Q := by
  simp only [rInU, hp]
  exact ⟨h1, h2, q⟩
theorem s_inT {p : Addr} {xs : List V} {neg : Bool} (hp : H p = some (.tup xs)) (h1 : flatV x = true) (h2 : xs.all flatV = true) (q : Q (.bl (if neg then !inV x xs else inV x xs)) H) : rInU K neg x (.ref p) H Q := by
  simp only [rInU, hp]
  exact ⟨h1, h2, q⟩
/-- a text in a list of texts -/
theorem s_inS {p : Addr} {z : Str} {l : List Str} (hp : H p = some (.lst (l.map V.str))) (q : Q (.bl (l.contains z)) H) : rInU K false (.str z) (.ref p) H Q := s_inL hp rfl (flat_strs _) (by rw [inV_strs]; exact q)
theorem s_ninS {p : Addr} {z : Str} {l : List Str} (hp : H p = some (.lst (l.map V.str))) (q : Q (.bl (!l.contains z)) H) : rInU K true (.str z) (.ref p) H Q := s_inL hp rfl (flat_strs _) (by rw [inV_strs]; exact q)
theorem s_inW {p : Addr} {z : Str} {l : List Str} (q : Q (.bl (l.contains z)) H) : rInW p (l.map V.str) (.str z) (.ref p) H Q := ⟨rfl, rfl, by rw [inV_strs]; exact q⟩
theorem s_lenS {z : Str} (hz : z.length ≤ sizeLine) (q : Q (.int z.length) H) : rLenU [.str z] H Q := ⟨hz, q⟩
theorem s_lenL {p : Addr} {xs : List V} (hp : H p = some (.lst xs)) (q : Q (.int xs.length) H) : rLenU [.ref p] H Q := by
  simp only [rLenU, hp]
  exact q
theorem s_lenT {p : Addr} {xs : List V} (hp : H p = some (.tup xs)) (q : Q (.int xs.length) H) : rLenU [.ref p] H Q := by
  simp only [rLenU, hp]
  exact q
theorem s_intI {n : Int} (q : Q (.int n) H) : rIntU [.int n] H Q := q
theorem s_intB {b : Bool} (q : Q (.int (if b then 1 else 0)) H) : rIntU [.bl b] H Q := q
theorem s_intS {z : Str} {n : Int} (h1 : PySem.intText? z = some n) (h2 : z.length ≤ 640) (q : Q (.int n) H) : rIntU [.str z] H Q := ⟨n, h1, h2, q⟩
theorem s_listL {p : Addr} {xs : List V} (hp : H p = some (.lst xs)) (q : ∀ z, H z = none → Q (.ref z) (upd H z (.lst xs))) : rListU [.ref p] H Q := by
  simp only [rListU, hp]
  exact q
theorem s_listT {p : Addr} {xs : List V} (hp : H p = some (.tup xs)) (q : ∀ z, H z = none → Q (.ref z) (upd H z (.lst xs))) : rListU [.ref p] H Q := by
  simp only [rListU, hp]
  exact q
theorem s_tupleL {p : Addr} {xs : List V} (hp : H p = some (.lst xs)) (q : ∀ z, H z = none → Q (.ref z) (upd H z (.tup xs))) : rTupleU [.ref p] H Q := by
  simp only [rTupleU, hp]
  exact q
theorem s_tupleT {p : Addr} {xs : List V} (hp : H p = some (.tup xs)) (q : Q (.ref p) H) : rTupleU [.ref p] H Q := by
  simp only [rTupleU, hp]
  exact q
theorem s_bm {T : String} {r : V → List V → Hp → VK → Prop} {tr : TA} (h : ta σ H fun x H1 => tyV K T x H1 ∧ tr σ H1 fun xs H2 => r x xs H2 Q) : tBM K T r ta tr σ H Q := h
theorem s_bm0 {T : String} {r : V → List V → Hp → VK → Prop} (h : ta σ H fun x H1 => tyV K T x H1 ∧ r x [] H1 Q) : tBM0 K T r ta σ H Q := h
theorem s_tyL {p : Addr} {xs : List V} {R : Prop} (hp : H p = some (.lst xs)) (h : R) : tyV K "list" (.ref p) H ∧ R := ⟨.inl ⟨rfl, _, SqL.of hp⟩, h⟩
theorem s_app {p : Addr} {xs : List V} (hp : H p = some (.lst xs)) (hl : xs.length < sizeLine) (q : Q .non (upd H p (.lst (xs ++ [v])))) : rAppU (.ref p) [v] H Q := by
  simp only [rAppU, hp]
  exact ⟨hl, q⟩
theorem s_fld {a C dx : Addr} {fs : List (Str × V)} {f : Str} (hp : H a = some (.ins C dx fs)) (hc : FldOk K C f) (hl : fs.lookup f = some v) (q : Q v H) : (fun x H1 => (match x with
  | V.ref a => (match H1 a with
    | some (HO.ins C dx fs) => FldOk K C f ∧ ∃ v, fs.lookup f = some v ∧ Q v H1
    | _ => False)
  | _ => False)) (V.ref a) H := by
  simp only [hp]
  exact ⟨hc, v, hl, q⟩
end
end Tr
namespace Tr
open PySem PySem.Spec PyProof.Rows L2
theorem get_same {H H' : Hp} {a : Addr} {o : HO} (S : Same H H') (h : H a = some o) : H' a = some o := S a o h
theorem upd_none {H : Hp} {a z : Addr} {o : HO} (h : upd H a o z = none) : z ≠ a ∧ H z = none := by
  by_cases e : z = a
  · rw [e, upd_same] at h
    cases h
  · rw [upd_ne e] at h
    exact ⟨e, h⟩
theorem sz_le {n : Nat} (h : n ≤ 100000) : n ≤ sizeLine := Nat.le_trans h (by decide)
theorem sz_lt {n : Nat} (h : n < 100000) : n < sizeLine := Nat.lt_of_lt_of_le h (by decide)
theorem ifT {b : Bool} {A B : Prop} (e : b = true) (h : A) : if b = true then A else B := by rw [if_pos e]; exact h
theorem ifF {b : Bool} {A B : Prop} (e : b = false) (h : B) : if b = true then A else B := by rw [if_neg (by rw [e]; decide)]; exact h
theorem ifB {b : Bool} {A B : Prop} (h1 : b = true → A) (h2 : b = false → B) : if b = true then A else B := by
  cases b
  · exact ifF rfl (h2 rfl)
  · exact ifT rfl (h1 rfl)
end Tr
namespace Tr
open PySem PySem.Spec PyProof.Rows L2
section
variable {σ : L2.St} {H : Hp} {Q : VK} {D : Ends} {ta tb te tv : TE} {v x y : V} {K : PySem.W.Frag}
theorem s_m1 {r : V → List V → Hp → VK → Prop} (h : ta σ H fun x H1 => (∃ a, x = .str a) ∧ te σ H1 fun y H2 => r x [y] H2 Q) : tM1 r ta te σ H Q := h
theorem s_isS {z : Str} {R : Prop} (h : R) : (∃ a, V.str z = .str a) ∧ R := ⟨⟨z, rfl⟩, h⟩
theorem s_isiSS {z : Str} (q : Q (.bl true) H) : rIsi K [.str z, .ty "str"] H Q := ⟨_, _, _, _, true, rfl, .ty _, .base (.str z), kit_ty (by decide +kernel), q⟩
theorem s_isiLT {p tp : Addr} {xs : List V} (hp : H p = some (.lst xs)) (ht : H tp = some (.tup [.ty "list", .ty "tuple"])) (q : Q (.bl true) H) : rIsiT K [.ref p, .ref tp] H Q :=
  ⟨_, tp, _, .type "list", [.type "list", .type "tuple"], true, rfl, ht, .cons (.ty _) (.cons (.ty _) .nil), .base (.lst hp), by rfl, q⟩
theorem s_split {z b : Str} (h1 : (b.length == 0) = false) (h2 : z.length + 2 ≤ sizeLine) (q : ∀ p, H p = none → Q (.ref p) (upd H p (.lst ((Txt.split z b).map V.str)))) :
    ∃ a b', V.str z = V.str a ∧ [V.str b] = [V.str b'] ∧ (b'.length == 0) = false ∧ a.length + 2 ≤ sizeLine ∧ rNewStrs (Txt.split a b') H Q := ⟨z, b, rfl, rfl, h1, h2, q⟩
end
end Tr
namespace Tr
open PySem L2
theorem s_sz {n : Nat} {R : Prop} (h : n ≤ 1000) (q : R) : n ≤ sizeLine ∧ R := ⟨Nat.le_trans h (by decide), q⟩
end Tr
namespace Tr
open PySem PySem.Spec PyProof.Rows L2
section
variable {σ : L2.St} {H : Hp} {Q : VK} {D : Ends} {K : PySem.W.Frag}
/-- for i, x in enumerate(xs) -/
theorem s_forEnum {p : Addr} {xs : List V} {g : TG} {tb : TS} {te : TE} {na : L2.St → Hp → Prop} {rt : VK} {bk ct : L2.St → Hp → Prop} (h1 : te σ H fun v H1 => v = .ref p ∧ H1 = H) (hm : ∀ Q : VK, (te σ H fun v H1 => v = .ref p ∧ H1 = H) → Q (.ref p) H → te σ H Q) (hp : H p = some (.lst xs)) (Pv : Nat → L2.St → Hp → Prop) (h0 : Pv 0 σ H)
    (hG : ∀ i σ H, i ≤ xs.length → Pv i σ H → H p = some (.lst xs))
    (hs : ∀ i x T σ H, xs[i]? = some x → Pv i σ H → H T = none → g (.ref T) σ (upd H T (.tup [.int (i : Nat), x])) fun σ2 H2 => tb ⟨Pv (i + 1), rt, na, Pv (i + 1)⟩ σ2 H2)
    (hd : ∀ σ H, Pv xs.length σ H → na σ H) : tFor (iEnum K (tCons te tNil)) g tb ⟨na, rt, bk, ct⟩ σ H := by
  refine hm _ h1 ⟨p, xs, rfl, SqL.of hp, ?_⟩
  refine for_it (D := ⟨na, rt, bk, ct⟩) (walk_enum (xs := xs)) Pv h0 (fun i σ H hi pv => SqL.of (hG i σ H hi pv)) ?_ hd
  rintro i x σ H H' hi pv ⟨T, x1, y1, rfl, hT, rfl, e1, e2⟩
  cases e1
  exact hs i y1 T σ H e2 pv hT
theorem s_forEnumV {p : Addr} {xs : List V} {g : TG} {tb : TS} {j : Nat} {na : L2.St → Hp → Prop} {rt : VK} {bk ct : L2.St → Hp → Prop} (hv : σ[j]? = some (some (.ref p))) (hp : H p = some (.lst xs)) (Pv : Nat → L2.St → Hp → Prop) (h0 : Pv 0 σ H)
    (hG : ∀ i σ H, i ≤ xs.length → Pv i σ H → H p = some (.lst xs))
    (hs : ∀ i x T σ H, xs[i]? = some x → Pv i σ H → H T = none → g (.ref T) σ (upd H T (.tup [.int (i : Nat), x])) fun σ2 H2 => tb ⟨Pv (i + 1), rt, na, Pv (i + 1)⟩ σ2 H2)
    (hd : ∀ σ H, Pv xs.length σ H → na σ H) : tFor (iEnum K (tCons (tVar j) tNil)) g tb ⟨na, rt, bk, ct⟩ σ H :=
  s_forEnum ⟨_, hv, rfl, rfl⟩ (fun Q _ q => ⟨_, hv, q⟩) hp Pv h0 hG hs hd
/-- for x in xs, xs what te gives, a list that stands in H -/
theorem s_forList {p : Addr} {xs : List V} {g : TG} {tb : TS} {te : TE} {na : L2.St → Hp → Prop} {rt : VK} {bk ct : L2.St → Hp → Prop} (Pv : Nat → L2.St → Hp → Prop) (h0 : Pv 0 σ H) (hp : H p = some (.lst xs))
    (hG : ∀ i σ H, i ≤ xs.length → Pv i σ H → H p = some (.lst xs))
    (hs : ∀ i x σ H, xs[i]? = some x → Pv i σ H → g x σ H fun σ2 H2 => tb ⟨Pv (i + 1), rt, na, Pv (i + 1)⟩ σ2 H2)
    (hd : ∀ σ H, Pv xs.length σ H → na σ H) :
    ∃ W : Nat → Nat → L2.St → Hp → Prop, (∃ m, W 0 m σ H) ∧ ∀ i m σ H, W i m σ H →
      ((Itl K p).stop i H ∧ na σ H) ∨ ((Itl K p).go i H ∧ ∃ N : L2.St → Hp → Prop, (∀ σ' H', N σ' H' → ∃ m', m' < m ∧ W (i + 1) m' σ' H') ∧ ∀ x H', (Itl K p).yld i H x H' → g x σ H' fun σ2 H2 => tb ⟨N, rt, na, N⟩ σ2 H2) :=
  for_list (K := K) (D := ⟨na, rt, bk, ct⟩) Pv h0 (fun i σ H hi pv => SqL.of (hG i σ H hi pv)) hs hd
theorem s_gtup2 {T : Addr} {x y : V} {i j n : Nat} {R : L2.St → Hp → Prop} (hT : H T = some (.tup [x, y])) (hn : 2 = n) (q : R ((σ.set i (some x)).set j (some y)) H) : gTupU n (gCons (gName i) (gCons (gName j) gNil)) (.ref T) σ H R := by
  subst hn
  simp only [gTupU, hT]
  exact ⟨rfl, _, _, rfl, _, _, rfl, rfl, q⟩
theorem s_gtup3 {T : Addr} {x y z : V} {i j k n : Nat} {R : L2.St → Hp → Prop} (hT : H T = some (.tup [x, y, z])) (hn : 3 = n) (q : R (((σ.set i (some x)).set j (some y)).set k (some z)) H) : gTupU n (gCons (gName i) (gCons (gName j) (gCons (gName k) gNil))) (.ref T) σ H R := by
  subst hn
  simp only [gTupU, hT]
  exact ⟨rfl, _, _, rfl, _, _, rfl, _, _, rfl, rfl, q⟩
end
end Tr
namespace Tr
open PySem PySem.Spec PyProof.Rows L2
section
variable {H : Hp} {Q : VK} {K : PySem.W.Frag}
/-- a text in a written tuple of texts that was just laid -/
theorem s_inTS {p : Addr} {z : Str} {l : List Str} (hp : H p = some (.tup (l.map V.str))) (q : Q (.bl (l.contains z)) H) : rInU K false (.str z) (.ref p) H Q := s_inT hp rfl (flat_strs _) (by rw [inV_strs]; exact q)
theorem s_ninTS {p : Addr} {z : Str} {l : List Str} (hp : H p = some (.tup (l.map V.str))) (q : Q (.bl (!l.contains z)) H) : rInU K true (.str z) (.ref p) H Q := s_inT hp rfl (flat_strs _) (by rw [inV_strs]; exact q)
theorem contains2 (z a b : Str) : [a, b].contains z = decide (z = a ∨ z = b) := by simp [List.contains_cons, Bool.decide_or]
theorem dec_str (a b : Str) : decide (V.str a = V.str b) = decide (a = b) := decide_eq_decide.mpr ⟨fun e => by injection e, fun e => by rw [e]⟩
theorem dec_int (a b : Int) : decide (V.int a = V.int b) = decide (a = b) := decide_eq_decide.mpr ⟨fun e => by injection e, fun e => by rw [e]⟩
theorem split_at {α : Type} {l : List α} {i : Nat} {z : α} (h : l[i]? = some z) : l = l.take i ++ z :: l.drop (i + 1) := by
  obtain ⟨hi, e⟩ := List.getElem?_eq_some_iff.mp h
  have e2 := List.drop_eq_getElem_cons hi
  rw [e] at e2
  rw [← e2, List.take_append_drop]
theorem str_at {l : List Str} {i : Nat} {x : V} (hx : (l.map V.str)[i]? = some x) : ∃ z, l[i]? = some z ∧ x = .str z := by
  rw [List.getElem?_map] at hx
  cases e : l[i]? with
  | none => rw [e] at hx; cases hx
  | some z => rw [e] at hx; exact ⟨z, rfl, (Option.some.inj hx).symm⟩
end
end Tr
namespace Tr
open PySem PySem.Spec PyProof.Rows L2
section
variable {σ : L2.St} {H : Hp} {Q : VK} {K : PySem.W.Frag} {ta tv : TE} {f : Str} {v : V} {na : L2.St → Hp → Prop} {rt : VK} {bk ct : L2.St → Hp → Prop}
def mFld (K : PySem.W.Frag) (f : Str) (x : V) (H1 : Hp) (Q : VK) : Prop := match x with
  | .ref a => (match H1 a with
    | some (.ins C dx fs) => FldOk K C f ∧ ∃ v, fs.lookup f = some v ∧ Q v H1
    | _ => False)
  | _ => False
theorem s_fldU (h : ta σ H fun x H1 => mFld K f x H1 Q) : tFldU K ta f σ H Q := h
theorem s_fldM {a C dx : Addr} {fs : List (Str × V)} (hp : H a = some (.ins C dx fs)) (hc : FldOk K C f) (hl : fs.lookup f = some v) (q : Q v H) : mFld K f (.ref a) H Q := by
  simp only [mFld, hp]
  exact ⟨hc, v, hl, q⟩
def mSet (K : PySem.W.Frag) (f : Str) (x y : V) (H2 : Hp) (R : Hp → Prop) : Prop := match x with
  | .ref a => (match H2 a with
    | some (.ins C dx fs) => FldOk K C f ∧ fs.length < 1000 ∧ R (upd H2 a (.ins C dx (putF f y fs)))
    | _ => False)
  | _ => False
theorem s_sfldU (h : tv σ H fun y H1 => ta σ H1 fun x H2 => mSet K f x y H2 fun H3 => na σ H3) : sFldU K ta tv f ⟨na, rt, bk, ct⟩ σ H := h
theorem s_setM {a C dx : Addr} {fs fs' : List (Str × V)} {y : V} {R : Hp → Prop} (hp : H a = some (.ins C dx fs)) (hc : FldOk K C f) (hl : fs.length < 1000) (he : putF f y fs = fs') (q : R (upd H a (.ins C dx fs'))) : mSet K f (.ref a) y H R := by
  simp only [mSet, hp]
  exact ⟨hc, hl, by rw [he]; exact q⟩
end
end Tr
set_option maxHeartbeats 1000000
namespace Tr
open PySem PySem.Spec PyProof.Rows L2
section
variable {X : Cx}
def PPt (X : Cx) (p : Pattern) (r : Str → Bool) : Prop := ∀ (pins : List (Addr × Obj)) (s : Shared) (σ : L2.St) (H : Hp) (z : Str) (u : Value) (Q : Option (List (Str × Value)) → Shared → Prop), Inv X pins σ H s → RelV (.str z) u →
  (∀ s', Inv X pins σ H s' → Q (if r z = true then some [] else none) s') → wpAny (model X.prog X.w) X.A (matchPattern p X.env u) Q X.xe s
theorem ppt_val {w : Str} {k : Nat} {p1 p2 : Pos} : PPt X (.MatchValue (.Constant (.str w) k p1) p2) (fun z => decide (z = w)) := by
  intro pins s σ H z u Q I ru hq
  refine wpAny_matchPattern_Value ?_
  refine thn ((pe_str (X := X)).run pins s σ H (fun v H1 => v = .str w ∧ H1 = H) I ⟨rfl, rfl⟩) fun x s1 hx => ?_
  obtain ⟨v, H1, I1, rx, rfl, rfl⟩ := hx
  refine thn (op_eq pins s1 σ _ (.str z) (.str w) u x (fun v H1 => v = .bl (decide (V.str z = V.str w)) ∧ H1 = _) I1 ru rx ⟨rfl, rfl, rfl⟩) fun c s2 hc => ?_
  obtain ⟨v, H2, I2, rc, rfl, rfl⟩ := hc
  have ec : c = Value.bool (decide (V.str z = V.str w)) := rc
  subst ec
  refine wpAny_truthy_bool ?_
  have := hq s2 I2
  rw [dec_str]
  by_cases e : z = w
  · simpa [e] using this
  · simpa [e] using this
def PFs (X : Cx) (ps : List Pattern) (r : Str → Bool) : Prop := ∀ (pins : List (Addr × Obj)) (s : Shared) (σ : L2.St) (H : Hp) (z : Str) (u : Value) (Q : Option (List (Str × Value)) → Shared → Prop), Inv X pins σ H s → RelV (.str z) u →
  (∀ s', Inv X pins σ H s' → Q (if r z = true then some [] else none) s') → wpAny (model X.prog X.w) X.A (matchFirst ps X.env u) Q X.xe s
theorem pfs_nil : PFs X [] (fun _ => false) := by
  intro pins s σ H z u Q I ru hq
  exact wpAny_matchFirst_nil (hq s I)
theorem pfs_cons {p : Pattern} {ps : List Pattern} {r r' : Str → Bool} (h : PPt X p r) (h' : PFs X ps r') : PFs X (p :: ps) (fun z => r z || r' z) := by
  intro pins s σ H z u Q I ru hq
  refine wpAny_matchFirst_cons (h pins s σ H z u _ I ru fun s' I' => ?_)
  cases e : r z with
  | true =>
    rw [if_pos rfl]
    simpa [e] using hq s' I'
  | false =>
    rw [if_neg (by decide)]
    refine h' pins s' σ H z u Q I' ru fun s2 I2 => ?_
    simpa [e] using hq s2 I2
theorem ppt_or {ps : List Pattern} {r : Str → Bool} {pos : Pos} (h : PFs X ps r) (hn : (namesOfAll (ps.take 1)) = [] := by rfl) : PPt X (.MatchOr ps pos) r := by
  intro pins s σ H z u Q I ru hq
  refine wpAny_matchPattern_Or (h pins s σ H z u _ I ru fun s' I' => ?_)
  have := hq s' I'
  cases e : r z with
  | true =>
    rw [if_pos rfl]
    rw [e, if_pos rfl] at this
    simpa [hn] using this
  | false =>
    rw [if_neg (by decide)]
    rw [e, if_neg (by decide)] at this
    exact this
abbrev TM := Str → TS
structure PM (X : Cx) (cs : List MatchCase) (t : TM) : Prop where
  run : ∀ (first : Bool) (pins : List (Addr × Obj)) (s : Shared) (σ : L2.St) (H : Hp) (D : Ends) (z : Str) (u : Value), Inv X pins σ H s → RelV (.str z) u → t z D σ H → wpAny (model X.prog X.w) X.A (matchCases cs X.env u first) (SP X pins D) X.xe s
def mNil : TM := fun _ D σ H => D.nx σ H
theorem pm_nil : PM X [] mNil := ⟨fun _ _ s σ H D z u I _ h => wpAny_matchCases_nil ⟨σ, H, I, h⟩⟩
def mCons (r : Str → Bool) (t : TS) (m : TM) : TM := fun z D σ H => if r z = true then t D σ H else m z D σ H
theorem pm_cons {p : Pattern} {body : List Stmt} {rest : List MatchCase} {r : Str → Bool} {t : TS} {m : TM} (hp : PPt X p r) (hb : PSs X body t) (hr : PM X rest m) : PM X (⟨p, none, body⟩ :: rest) (mCons r t m) := by
  refine ⟨fun first pins s σ H D z u I ru h => ?_⟩
  refine wpAny_matchCases_cons (hp pins s σ H z u _ I ru fun s' I' => ?_)
  unfold mCons at h
  cases e : r z with
  | true =>
    rw [e, if_pos rfl] at h
    rw [if_pos rfl]
    exact wpAny_assignInOrder_none (hb.run pins s' σ H D I' h)
  | false =>
    rw [e, if_neg (by decide)] at h
    rw [if_neg (by decide)]
    exact hr.run false pins s' σ H D z u I' ru h
def mAny (t : TS) : TM := fun _ D σ H => t D σ H
theorem pm_any {body : List Stmt} {rest : List MatchCase} {t : TS} {pos : Pos} (hb : PSs X body t) : PM X (⟨.MatchAs none none pos, none, body⟩ :: rest) (mAny t) := by
  refine ⟨fun first pins s σ H D z u I ru h => ?_⟩
  refine wpAny_matchCases_cons (wpAny_matchPattern_Capture ?_)
  exact wpAny_assignInOrder_none (hb.run pins s σ H D I h)
theorem pm_one {body : List Stmt} {rest : List MatchCase} {w : Str} {k : Nat} {p1 p2 : Pos} {t : TS} {m : TM} (hb : PSs X body t) (hr : PM X rest m) : PM X (⟨.MatchValue (.Constant (.str w) k p1) p2, none, body⟩ :: rest) (mCons (fun z => decide (z = w)) t m) :=
  pm_cons ppt_val hb hr
theorem pm_or2 {body : List Stmt} {rest : List MatchCase} {w1 w2 : Str} {k1 k2 : Nat} {p1 p2 p3 p4 pos : Pos} {t : TS} {m : TM} (hb : PSs X body t) (hr : PM X rest m) :
    PM X (⟨.MatchOr [.MatchValue (.Constant (.str w1) k1 p1) p2, .MatchValue (.Constant (.str w2) k2 p3) p4] pos, none, body⟩ :: rest) (mCons (fun z => decide (z = w1) || (decide (z = w2) || false)) t m) :=
  pm_cons (ppt_or (pfs_cons ppt_val (pfs_cons ppt_val pfs_nil))) hb hr
theorem pm_or3 {body : List Stmt} {rest : List MatchCase} {w1 w2 w3 : Str} {k1 k2 k3 : Nat} {p1 p2 p3 p4 p5 p6 pos : Pos} {t : TS} {m : TM} (hb : PSs X body t) (hr : PM X rest m) :
    PM X (⟨.MatchOr [.MatchValue (.Constant (.str w1) k1 p1) p2, .MatchValue (.Constant (.str w2) k2 p3) p4, .MatchValue (.Constant (.str w3) k3 p5) p6] pos, none, body⟩ :: rest) (mCons (fun z => decide (z = w1) || (decide (z = w2) || (decide (z = w3) || false))) t m) :=
  pm_cons (ppt_or (pfs_cons ppt_val (pfs_cons ppt_val (pfs_cons ppt_val pfs_nil)))) hb hr
theorem pm_or4 {body : List Stmt} {rest : List MatchCase} {w1 w2 w3 w4 : Str} {k1 k2 k3 k4 : Nat} {p1 p2 p3 p4 p5 p6 p7 p8 pos : Pos} {t : TS} {m : TM} (hb : PSs X body t) (hr : PM X rest m) :
    PM X (⟨.MatchOr [.MatchValue (.Constant (.str w1) k1 p1) p2, .MatchValue (.Constant (.str w2) k2 p3) p4, .MatchValue (.Constant (.str w3) k3 p5) p6, .MatchValue (.Constant (.str w4) k4 p7) p8] pos, none, body⟩ :: rest) (mCons (fun z => decide (z = w1) || (decide (z = w2) || (decide (z = w3) || (decide (z = w4) || false)))) t m) :=
  pm_cons (ppt_or (pfs_cons ppt_val (pfs_cons ppt_val (pfs_cons ppt_val (pfs_cons ppt_val pfs_nil))))) hb hr
def sMatch (te : TE) (m : TM) : TS := fun D σ H => te σ H fun v H1 => match v with | .str z => m z D σ H1 | _ => False
theorem ps_match {e : Expr} {cs : List MatchCase} {te : TE} {m : TM} {pos : Pos} (he : PE X e te) (hm : PM X cs m) : PS X (.Match e cs pos) (sMatch te m) := by
  refine ⟨fun pins s σ H D I h => ?_⟩
  refine wpAny_Match (thn (he.run pins s σ H _ I h) fun u s1 hu => ?_)
  obtain ⟨v, H1, I1, rv, q⟩ := hu
  split at q
  · exact hm.run true pins s1 σ H1 D _ u I1 rv q
  · exact q.elim

theorem s_match {σ : L2.St} {H : Hp} {te : TE} {m : TM} {D : Ends} (h : te σ H fun v H1 => match v with | .str z => m z D σ H1 | _ => False) : sMatch te m D σ H := h
theorem s_mT {r : Str → Bool} {t : TS} {m : TM} {z : Str} {D : Ends} {σ : L2.St} {H : Hp} (e : r z = true) (h : t D σ H) : mCons r t m z D σ H := by unfold mCons; rw [if_pos e]; exact h
theorem s_mF {r : Str → Bool} {t : TS} {m : TM} {z : Str} {D : Ends} {σ : L2.St} {H : Hp} (e : r z = false) (h : m z D σ H) : mCons r t m z D σ H := by unfold mCons; rw [if_neg (by rw [e]; decide)]; exact h
def rPopU : V → List V → Hp → VK → Prop := fun x xs H Q => match x with
  | .ref l => (match H l with
    | some (.lst ys) => ∃ y, ys[ys.length - 1]? = some y ∧ xs = [] ∧ Q y (upd H l (.lst ys.dropLast))
    | _ => False)
  | _ => False
theorem uPop : MtR X "list.pop" rPopU := by
  intro pins s σ H x xs v us Q I rx rs h
  unfold rPopU at h
  split at h
  · split at h
    · rename_i hp
      obtain ⟨y, hy, rfl, q⟩ := h
      exact mt_pop pins s σ H _ _ v us Q I rx rs ⟨_, _, y, rfl, rfl, hp, hy, q⟩
    · exact h.elim
  · exact h.elim
theorem s_pop {H : Hp} {Q : VK} {l : Addr} {ys : List V} {y : V} (hp : H l = some (.lst ys)) (hy : ys[ys.length - 1]? = some y) (q : Q y (upd H l (.lst ys.dropLast))) : rPopU (.ref l) [] H Q := by
  simp only [rPopU, hp]
  exact ⟨y, hy, trivial, q⟩
def rExtU : V → List V → Hp → VK → Prop := fun x xs H Q => match x with
  | .ref l => (match xs with
    | [.ref b] => (match H l with
      | some (.lst ys) => (match H b with
        | some (.lst zs) => ys.length + zs.length ≤ sizeLine ∧ l ≠ b ∧ Q .non (upd H l (.lst (ys ++ zs)))
        | _ => False)
      | _ => False)
    | _ => False)
  | _ => False
theorem uExtend : MtR X "list.extend" rExtU := by
  intro pins s σ H x xs v us Q I rx rs h
  unfold rExtU at h
  split at h
  · split at h
    · split at h
      · rename_i hp
        split at h
        · rename_i hb
          exact mt_extend pins s σ H _ _ v us Q I rx rs ⟨_, _, _, _, rfl, rfl, hp, hb, h.1, h.2.2⟩
        · exact h.elim
      · exact h.elim
    · exact h.elim
  · exact h.elim
theorem s_ext {H : Hp} {Q : VK} {l b : Addr} {ys zs : List V} (hp : H l = some (.lst ys)) (hb : H b = some (.lst zs)) (hl : ys.length + zs.length ≤ sizeLine) (ne : l ≠ b) (q : Q .non (upd H l (.lst (ys ++ zs)))) : rExtU (.ref l) [.ref b] H Q := by
  simp only [rExtU, hp, hb]
  exact ⟨hl, ne, q⟩

theorem s_starT {σ : L2.St} {H : Hp} {K : PySem.W.Frag} {te : TE} {t : TA} {Q : List V → Hp → Prop} (h : te σ H fun y H1 => ∃ a xs, y = .ref a ∧ (SqT K H1 a xs ∨ SqL K H1 a xs) ∧ t σ H1 fun vs H2 => Q (xs ++ vs) H2) : StX.tStar K te t σ H Q := h
theorem s_starM {H : Hp} {K : PySem.W.Frag} {p : Addr} {xs : List V} {R : List V → Prop} (hp : H p = some (.tup xs)) (h : R xs) : ∃ a ys, V.ref p = .ref a ∧ (SqT K H a ys ∨ SqL K H a ys) ∧ R ys := ⟨p, xs, rfl, .inl (SqT.of hp), h⟩
end
end Tr
namespace Tr
open PySem PySem.Spec PyProof.Rows L2
section
variable {σ : L2.St} {H : Hp} {Q : VK} {K : PySem.W.Frag}
def LcGo (g : TG) (tt : TT) (te : TE) (vs : List Nat) (σ : L2.St) (Q : VK) (J : It) (H1 : Hp) : Prop := ∀ D, H1 D = none → ∃ W : Nat → Nat → Hp → Prop, (∃ m, W 0 m (upd H1 D (.lst []))) ∧ ∀ i m H, W i m H →
  (J.stop i H ∧ Q (.ref D) H) ∨ (J.go i H ∧ ∃ Nx : Hp → Prop, (∀ H', Nx H' → ∃ m', m' < m ∧ W (i + 1) m' H') ∧ ∀ x H', J.yld i H x H' → g x (wipe σ vs) H' fun σ2 H2 => wipe σ2 vs = wipe σ vs ∧ tt σ2 H2 fun b H3 =>
    if b = true then te σ2 H3 fun y H4 => ∃ acc, H4 D = some (.lst acc) ∧ acc.length < sizeLine ∧ Nx (upd H4 D (.lst (acc ++ [y]))) else Nx H3)
theorem s_lc {wi : TI} {g : TG} {tt : TT} {te : TE} {vs : List Nat} (h : wi σ H (LcGo g tt te vs σ Q)) : tLc wi g tt te vs σ H Q := h
def mList (K : PySem.W.Frag) (R : It → Hp → Prop) (x : V) (H1 : Hp) : Prop := ∃ a, x = .ref a ∧ (∃ xs, SqL K H1 a xs) ∧ R (Itl K a) H1
theorem s_ilist {tl : TE} {R : It → Hp → Prop} (h : tl σ H fun x H1 => mList K R x H1) : iList K tl σ H R := h
theorem s_lcM {α : Type} (ys : List α) (h : α → Option V) {p : Addr} {xs : List V} {g : TG} {tt : TT} {te : TE} {vs : List Nat} (hp : H p = some (.lst xs)) (hx : xs.length = ys.length) (hz : ys.length ≤ 100000)
    (hs : ∀ (i : Nat) (a : α) (x : V) (H2 : Hp) (R : VK) (R0 : Hp → Prop), ys[i]? = some a → xs[i]? = some x → Same H H2 → (∀ v, h a = some v → ∀ H4, Same H2 H4 → R v H4) → (h a = none → ∀ H3, Same H2 H3 → R0 H3) →
      g x (wipe σ vs) H2 fun σ2 H3 => wipe σ2 vs = wipe σ vs ∧ tt σ2 H3 fun b H4 => if b = true then te σ2 H4 R else R0 H4)
    (hd : ∀ D H', Same H H' → H D = none → H' D = some (.lst (ys.filterMap h)) → Q (.ref D) H') : mList K (LcGo g tt te vs σ Q) (.ref p) H := by
  refine ⟨p, rfl, ⟨xs, SqL.of hp⟩, fun D hD => ?_⟩
  refine lc_fm ys h (walk_list (xs := xs)) hx (sz_le hz) hD (fun H' s' => SqL.of (s' _ _ hp)) ?_ (fun H' s' hD' => hd D H' s' hD hD')
  rintro i b x H2 H' R R0 hb s2 ⟨rfl, hxx⟩ k1 k2
  exact hs i b x H' R R0 hb hxx s2 k1 k2
def ForGo (g : TG) (tb : TS) (D : Ends) (σ : L2.St) (J : It) (H1 : Hp) : Prop := ∃ W : Nat → Nat → L2.St → Hp → Prop, (∃ m, W 0 m σ H1) ∧ ∀ i m σ H, W i m σ H →
  (J.stop i H ∧ D.nx σ H) ∨ (J.go i H ∧ ∃ N : L2.St → Hp → Prop, (∀ σ' H', N σ' H' → ∃ m', m' < m ∧ W (i + 1) m' σ' H') ∧ ∀ x H', J.yld i H x H' → g x σ H' fun σ2 H2 => tb { D with nx := N, ct := N, bk := D.nx } σ2 H2)
theorem s_for {wi : TI} {g : TG} {tb : TS} {D : Ends} (h : wi σ H (ForGo g tb D σ)) : tFor wi g tb D σ H := h
theorem s_forL {p : Addr} {xs : List V} {g : TG} {tb : TS} {na : L2.St → Hp → Prop} {rt : VK} {bk ct : L2.St → Hp → Prop} (hp : H p = some (.lst xs)) (Pv : Nat → L2.St → Hp → Prop) (h0 : Pv 0 σ H)
    (hG : ∀ i σ H, i ≤ xs.length → Pv i σ H → H p = some (.lst xs))
    (hs : ∀ i x σ H, xs[i]? = some x → Pv i σ H → g x σ H fun σ2 H2 => tb ⟨Pv (i + 1), rt, na, Pv (i + 1)⟩ σ2 H2)
    (hd : ∀ σ H, Pv xs.length σ H → na σ H) : mList K (ForGo g tb ⟨na, rt, bk, ct⟩ σ) (.ref p) H :=
  ⟨p, rfl, ⟨xs, SqL.of hp⟩, for_list (K := K) (D := ⟨na, rt, bk, ct⟩) Pv h0 (fun i σ H hi pv => SqL.of (hG i σ H hi pv)) hs hd⟩
def mRng (R : It → Hp → Prop) (vs : List V) (H1 : Hp) : Prop := ∃ j : Int, vs = [.int j] ∧ -(2 ^ 62) ≤ j ∧ j < 2 ^ 62 ∧ R (Itr 0 j.toNat) H1
theorem s_irng {ta : TA} {R : It → Hp → Prop} (h : ta σ H fun vs H1 => mRng R vs H1) : iRng1 ta σ H R := h
theorem s_forR {n : Int} {g : TG} {tb : TS} {na : L2.St → Hp → Prop} {rt : VK} {bk ct : L2.St → Hp → Prop} (h0 : 0 ≤ n) (h1 : n ≤ 1000000) (Pv : Nat → L2.St → Hp → Prop) (p0 : Pv 0 σ H)
    (hs : ∀ (i : Nat) σ H, (i : Int) < n → Pv i σ H → g (.int (i : Int)) σ H fun σ2 H2 => tb ⟨Pv (i + 1), rt, na, Pv (i + 1)⟩ σ2 H2)
    (hd : ∀ σ H, Pv n.toNat σ H → na σ H) : mRng (ForGo g tb ⟨na, rt, bk, ct⟩ σ) [.int n] H := by
  refine ⟨n, rfl, by omega, by omega, for_range (lo := 0) (n := n.toNat) (D := ⟨na, rt, bk, ct⟩) Pv p0 (fun i σ H hi pv => ?_) hd⟩
  have e : (0 : Int) + (i : Int) = (i : Int) := Int.zero_add _
  rw [e]
  exact hs i σ H (by omega) pv
theorem s_lcR {n : Int} (h : Nat → Option V) {g : TG} {tt : TT} {te : TE} {vs : List Nat} (h0 : 0 ≤ n) (h1 : n ≤ 100000)
    (hs : ∀ (i : Nat) (H2 : Hp) (R : VK) (R0 : Hp → Prop), (i : Int) < n → Same H H2 → (∀ v, h i = some v → ∀ H4, Same H2 H4 → R v H4) → (h i = none → ∀ H3, Same H2 H3 → R0 H3) →
      g (.int (i : Int)) (wipe σ vs) H2 fun σ2 H3 => wipe σ2 vs = wipe σ vs ∧ tt σ2 H3 fun b H4 => if b = true then te σ2 H4 R else R0 H4)
    (hd : ∀ D H', Same H H' → H D = none → H' D = some (.lst ((List.range n.toNat).filterMap h)) → Q (.ref D) H') : mRng (LcGo g tt te vs σ Q) [.int n] H := by
  refine ⟨n, rfl, by omega, by omega, fun D hD => ?_⟩
  refine lc_fm (List.range n.toNat) h walk_range (by simp) (sz_le (by simp; omega)) hD (fun _ _ => trivial) ?_ (fun H' s' hD' => hd D H' s' hD hD')
  rintro i b x H2 H' R R0 hb s2 ⟨rfl, rfl⟩ k1 k2
  have hi : i < n.toNat := by
    have := (List.getElem?_eq_some_iff.mp hb).1
    simpa using this
  have eb : b = i := by
    have := (List.getElem?_eq_some_iff.mp hb).2
    simpa using this.symm
  subst eb
  have e : (0 : Int) + (b : Int) = (b : Int) := Int.zero_add _
  show g (V.int (0 + (b : Int))) (wipe σ vs) H' _
  rw [e]
  exact hs b H' R R0 (by omega) s2 k1 k2
end
theorem fm_some {α : Type} (f : α → V) : ∀ l : List α, l.filterMap (fun x => some (f x)) = l.map f
  | [] => rfl
  | x :: l => by simp [fm_some f l]
theorem s_any {H : Hp} {Q : VK} {p : Addr} {bs : List Bool} (hp : H p = some (.lst (bs.map V.bl))) (q : Q (.bl (bs.any id)) H) : rAnyU [.ref p] H Q := by
  simp only [rAnyU, hp]
  exact ⟨bs, rfl, q⟩
theorem s_all {H : Hp} {Q : VK} {p : Addr} {bs : List Bool} (hp : H p = some (.lst (bs.map V.bl))) (q : Q (.bl (bs.all id)) H) : rAllU [.ref p] H Q := by
  simp only [rAllU, hp]
  exact ⟨bs, rfl, q⟩
end Tr
set_option maxHeartbeats 1000000
namespace Tr
open PySem PySem.Spec PyProof.Rows L2
section
variable {σ : L2.St} {H : Hp} {Q : VK} {K : PySem.W.Frag}
/-- all that is no list stays -/
def KeepN (H H' : Hp) : Prop := ∀ x o, H x = some o → (∀ l, o ≠ .lst l) → H' x = some o
theorem KeepN.same {H H' : Hp} (s : Same H H') : KeepN H H' := fun x o h _ => s _ _ h
theorem KeepN.mut {H : Hp} {p : Addr} {l : List V} {o : HO} (hp : H p = some (.lst l)) : KeepN H (upd H p o) := fun x o' h hn => by
  rw [upd_ne (by rintro rfl; rw [hp] at h; exact hn l (Option.some.inj h).symm)]
  exact h
theorem KeepN.trans {H H' H'' : Hp} (a : KeepN H H') (b : KeepN H' H'') : KeepN H H'' := fun x o h hn => b _ _ (a _ _ h hn) hn
theorem s_lcE {α : Type} (ys : List α) (E : α → V → Hp → Prop) (hE : ∀ b v H H', E b v H → KeepN H H' → E b v H') {p : Addr} {xs : List V} {g : TG} {te : TE} {vs : List Nat} (hp : H p = some (.lst xs)) (hx : xs.length = ys.length) (hz : ys.length ≤ 100000)
    (hs : ∀ (i : Nat) (b : α) (x : V) (H2 : Hp) (R : VK), ys[i]? = some b → xs[i]? = some x → Same H H2 → (∀ v H4, Same H2 H4 → E b v H4 → R v H4) →
      g x (wipe σ vs) H2 fun σ2 H3 => wipe σ2 vs = wipe σ vs ∧ te σ2 H3 R)
    (hd : ∀ D us H', Same H H' → H D = none → H' D = some (.lst us) → us.length = ys.length → (∀ (i : Nat) (b : α) (v : V), ys[i]? = some b → us[i]? = some v → E b v H') → Q (.ref D) H') : mList K (LcGo g tYes te vs σ Q) (.ref p) H := by
  refine ⟨p, rfl, ⟨xs, SqL.of hp⟩, fun D hD => ?_⟩
  refine lc_it (walk_list (xs := xs)) (fun i H' => Same H H' ∧ ∃ us, H' D = some (.lst us) ∧ us.length = i ∧ ∀ (j : Nat) (b : α) (v : V), ys[j]? = some b → us[j]? = some v → E b v H') ⟨Same.new hD, [], upd_same, rfl, fun j b v _ h => by simp at h⟩ (fun i H' _ pv => SqL.of (pv.1 _ _ hp)) ?_ ?_
  · rintro i x H2 H' hi ⟨s2, us, hD2, hl, he⟩ ⟨rfl, hxx⟩
    obtain ⟨b, hb⟩ : ∃ b, ys[i]? = some b := ⟨_, List.getElem?_eq_getElem (by rw [← hx]; exact hi)⟩
    have := hs i b x H' (fun y H4 => ∃ acc, H4 D = some (.lst acc) ∧ acc.length < sizeLine ∧ (Same H (upd H4 D (.lst (acc ++ [y]))) ∧ ∃ us, upd H4 D (.lst (acc ++ [y])) D = some (.lst us) ∧ us.length = i + 1 ∧ ∀ (j : Nat) (b : α) (v : V), ys[j]? = some b → us[j]? = some v → E b v (upd H4 D (.lst (acc ++ [y]))))) hb hxx s2 ?_
    · have e : ∀ (a b : L2.St → Hp → Prop), (∀ σ H, a σ H = b σ H) → a = b := fun a b h => by funext σ H; exact h σ H
      have e2 : (fun σ2 H3 => wipe σ2 vs = wipe σ vs ∧ te σ2 H3 (fun y H4 => ∃ acc, H4 D = some (.lst acc) ∧ acc.length < sizeLine ∧ (Same H (upd H4 D (.lst (acc ++ [y]))) ∧ ∃ us, upd H4 D (.lst (acc ++ [y])) D = some (.lst us) ∧ us.length = i + 1 ∧ ∀ (j : Nat) (b : α) (v : V), ys[j]? = some b → us[j]? = some v → E b v (upd H4 D (.lst (acc ++ [y])))))) =
        (fun σ2 H3 => wipe σ2 vs = wipe σ vs ∧ tYes σ2 H3 fun b' H3 => if b' = true then te σ2 H3 (fun y H4 => ∃ acc, H4 D = some (.lst acc) ∧ acc.length < sizeLine ∧ (Same H (upd H4 D (.lst (acc ++ [y]))) ∧ ∃ us, upd H4 D (.lst (acc ++ [y])) D = some (.lst us) ∧ us.length = i + 1 ∧ ∀ (j : Nat) (b : α) (v : V), ys[j]? = some b → us[j]? = some v → E b v (upd H4 D (.lst (acc ++ [y]))))) else (Same H H3 ∧ ∃ us, H3 D = some (.lst us) ∧ us.length = i + 1 ∧ ∀ (j : Nat) (b : α) (v : V), ys[j]? = some b → us[j]? = some v → E b v H3)) := rfl
      rw [e2] at this
      exact this
    · intro v H4 s4 hv
      have hD4 := s4 _ _ hD2
      have k4 : KeepN H4 (upd H4 D (.lst (us ++ [v]))) := KeepN.mut hD4
      refine ⟨us, hD4, by rw [hl]; exact sz_lt (by omega), Same.mut (s2.trans s4) hD, us ++ [v], upd_same, by rw [List.length_append, hl]; rfl, fun j c u hc hu => ?_⟩
      by_cases hj : j < us.length
      · rw [List.getElem?_append_left hj] at hu
        exact hE _ _ _ _ (hE _ _ _ _ (he j c u hc hu) (KeepN.same s4)) k4
      · have hji : j = i := by
          have := (List.getElem?_eq_some_iff.mp hu).1
          simp at this
          omega
        subst hji
        rw [hb] at hc
        cases hc
        rw [← hl] at hu
        simp at hu
        subst hu
        exact hE _ _ _ _ hv k4
  · rintro H' ⟨s', us, h1, h2, h3⟩
    exact hd D us H' s' hD h1 (by rw [h2, hx]) h3
end
theorem s_dnewK {σ : L2.St} {H : Hp} {Q : VK} (h : ∀ p, H p = none → Q (.ref p) (upd H p (.dK []))) : tDNewK σ H Q := h
theorem nodup_ix {ad : List Addr} (nd : ad.Nodup) {i j : Nat} (hi : i < ad.length) (hj : j < ad.length) (e : ad[i] = ad[j]) : i = j := by
  rw [List.nodup_iff_pairwise_ne, List.pairwise_iff_getElem] at nd
  rcases Nat.lt_trichotomy i j with h | h | h
  · exact absurd e (nd i j hi hj h)
  · exact h
  · exact absurd e.symm (nd j i hj hi h)
def HasAll (H : Hp) (ad : List Addr) (os : List HO) : Prop := ad.length = os.length ∧ ∀ (i : Nat) (y : Addr) (o : HO), ad[i]? = some y → os[i]? = some o → H y = some o
theorem HasAll.at {H : Hp} {ad : List Addr} {os : List HO} (h : HasAll H ad os) (i : Nat) {y : Addr} {o : HO} (h1 : ad[i]? = some y) (h2 : os[i]? = some o) : H y = some o := h.2 i y o h1 h2
theorem HasAll.put {H : Hp} {ad : List Addr} {os : List HO} (h : HasAll H ad os) (nd : ad.Nodup) {j : Nat} {y : Addr} {o : HO} (hj : ad[j]? = some y) : HasAll (upd H y o) ad (os.set j o) := by
  refine ⟨by rw [List.length_set]; exact h.1, fun i z u h1 h2 => ?_⟩
  obtain ⟨hi, hi2⟩ := List.getElem?_eq_some_iff.mp h1
  obtain ⟨hj1, hj2⟩ := List.getElem?_eq_some_iff.mp hj
  by_cases e : i = j
  · subst e
    rw [hj] at h1
    cases h1
    rw [List.getElem?_set_self (by rw [← h.1]; exact hi)] at h2
    cases h2
    exact upd_same
  · rw [List.getElem?_set_ne (Ne.symm e)] at h2
    rw [upd_ne]
    · exact h.2 i z u h1 h2
    · rintro rfl
      exact e (nodup_ix nd hi hj1 (by rw [hi2, hj2]))
theorem HasAll.keep {H H' : Hp} {ad : List Addr} {os : List HO} (h : HasAll H ad os) (f : ∀ x o, H x = some o → x ∈ ad → H' x = some o) : HasAll H' ad os := ⟨h.1, fun i y o h1 h2 => f _ _ (h.2 i y o h1 h2) (List.mem_of_getElem? h1)⟩
/-- tuples stay -/
def KeepT (H H' : Hp) : Prop := ∀ x vs, H x = some (.tup vs) → H' x = some (.tup vs)
theorem KeepT.same {H H' : Hp} (s : Same H H') : KeepT H H' := fun x vs h => s _ _ h
theorem KeepT.trans {H H' H'' : Hp} (a : KeepT H H') (b : KeepT H' H'') : KeepT H H'' := fun x vs h => b _ _ (a _ _ h)
theorem KeepT.upd {H : Hp} {y : Addr} {o o' : HO} (h : H y = some o) (hn : ∀ vs, o ≠ .tup vs) : KeepT H (upd H y o') := fun x vs hx => by
  rw [upd_ne (by rintro rfl; rw [h] at hx; exact hn vs (Option.some.inj hx))]
  exact hx
/-- tuples with these items -/
def TupsAt (H : Hp) (xs : List Addr) (ys : List (List V)) : Prop := xs.length = ys.length ∧ ∀ (i : Nat) (x : Addr) (y : List V), xs[i]? = some x → ys[i]? = some y → H x = some (.tup y)
theorem TupsAt.keep {H H' : Hp} {xs : List Addr} {ys : List (List V)} (h : TupsAt H xs ys) (k : KeepT H H') : TupsAt H' xs ys := ⟨h.1, fun i x y h1 h2 => k _ _ (h.2 i x y h1 h2)⟩
theorem TupsAt.snoc {H : Hp} {xs : List Addr} {ys : List (List V)} (h : TupsAt H xs ys) {x : Addr} {y : List V} (hx : H x = some (.tup y)) : TupsAt H (xs ++ [x]) (ys ++ [y]) := by
  refine ⟨by rw [List.length_append, List.length_append, h.1]; rfl, fun i z u h1 h2 => ?_⟩
  by_cases hi : i < xs.length
  · rw [List.getElem?_append_left hi] at h1
    rw [List.getElem?_append_left (by rw [← h.1]; exact hi)] at h2
    exact h.2 i z u h1 h2
  · have e : i = xs.length := by
      have := (List.getElem?_eq_some_iff.mp h1).1
      simp at this
      omega
    subst e
    rw [h.1] at h2
    simp at h1 h2
    subst h1 h2
    exact hx
end Tr
set_option maxHeartbeats 1000000
namespace SrtO
open PySem PyProof.Rows Srt
section
variable {prog : Program} {w : World} {A : Around} {E : Value → Shared → Prop} {s : Shared}
def sv : Value → PySem.Str
  | .str i _ => i
  | _ => ⟨#[]⟩
def ltSv (v u : Value) : Bool := decide ((sv v).cps.toList < (sv u).cps.toList)
theorem swo_str : Swo ltSv := by
  refine ⟨fun x y h => ?_, fun x y z h1 h2 => ?_⟩
  · have a := of_decide_eq_true (p := (sv x).cps.toList < (sv y).cps.toList) h
    exact decide_eq_false (p := (sv y).cps.toList < (sv x).cps.toList) fun b => List.lt_irrefl _ (List.lt_trans a b)
  · have a := of_decide_eq_false (p := (sv y).cps.toList < (sv x).cps.toList) h1
    have b := of_decide_eq_false (p := (sv z).cps.toList < (sv y).cps.toList) h2
    refine decide_eq_false (p := (sv z).cps.toList < (sv x).cps.toList) fun c => ?_
    have a' : (sv x).cps.toList ≤ (sv y).cps.toList := List.not_lt.mp a
    have b' : (sv y).cps.toList ≤ (sv z).cps.toList := List.not_lt.mp b
    exact List.not_lt.mpr (List.le_trans a' b') c
theorem strs_mem : ∀ {vs : List Value} {ns : List PySem.Str}, StrsAre vs ns → ∀ v ∈ vs, ∃ i t, v = Value.str i t
  | _, _, .nil, v, h => absurd h (by simp)
  | _, _, .cons n t r, v, h => by
    rcases List.mem_cons.mp h with e | h
    · exact ⟨n, t, e⟩
    · exact strs_mem r v h
theorem strs_sv : ∀ {vs : List Value}, (∀ v ∈ vs, ∃ i t, v = Value.str i t) → StrsAre vs (vs.map sv)
  | [], _ => .nil
  | v :: vs, h => by
    obtain ⟨i, t, e⟩ := h v List.mem_cons_self
    subst e
    exact .cons i t (strs_sv fun u hu => h u (List.mem_cons_of_mem _ hu))
theorem sv_strs : ∀ {vs : List Value} {ns : List PySem.Str}, StrsAre vs ns → vs.map sv = ns
  | _, _, .nil => rfl
  | _, _, .cons n t r => congrArg (n :: ·) (sv_strs r)
theorem str_cmp {vs : List Value} {ns : List PySem.Str} (hI : StrsAre vs ns) : Cmp prog w A s oneType' (fun p => p.1 ∈ vs) (lt2 ltSv) := by
  intro p q hm hm'
  obtain ⟨a, t, e⟩ := strs_mem hI _ hm
  obtain ⟨b, u, e'⟩ := strs_mem hI _ hm'
  show wpAny (model prog w) A (keyLt' oneType' p.1 q.1) (fun r s' => s' = s ∧ r = ltSv p.1 q.1) (fun _ _ => False) s
  rw [e, e', keyLt'_oneType]
  exact oneLt_str ⟨rfl, rfl⟩
theorem strs_sortable {a : Addr} {vs : List Value} {ns : List PySem.Str} (hI : StrsAre vs ns) (h2 : 2 ≤ vs.length) : SortableO prog w A s a vs ltSv := by
  intro h' _
  refine ⟨oneType', fun Q E hq => ?_, str_cmp hI⟩
  match vs, hI, h2 with
  | v1 :: v2 :: rest, hI, _ =>
    rw [keyKind_strs hI]
    exact wpAny_pure hq
  | [], _, h => exact absurd h (by decide)
  | [v], _, h => exact absurd h (by simp)
theorem strs_out {vs out : List Value} {ns : List PySem.Str} (hI : StrsAre vs ns) (hs : Srtd ltSv out) (hb : Stb ltSv out vs) : StrsAre out (out.map sv) ∧ (out.map sv).Perm ns ∧ (out.map sv).Pairwise (fun x y => x.cps.toList ≤ y.cps.toList) := by
  refine ⟨strs_sv fun v hv => strs_mem hI v (hb.perm.mem_iff.mp hv), ?_, ?_⟩
  · have q := hb.perm.map sv
    rw [sv_strs hI] at q
    exact q
  · exact List.pairwise_map.mpr (hs.imp fun {x y} h => List.not_lt.mp (of_decide_eq_false (p := (sv y).cps.toList < (sv x).cps.toList) h))
end
end SrtO
namespace L2
open PySem PySem.Spec PyProof.Rows
/-- sorted(xs), texts, any number of them -/
def rSortedA (K : PySem.W.Frag) : List V → Hp → VK → Prop := fun vs H Q => ∃ (a : Addr) (ns : List Str), vs = [V.ref a] ∧ SqL K H a (ns.map V.str) ∧
  ∀ (ns' : List Str) (p : Addr), ns'.Perm ns → ns'.Pairwise (fun x y => x.cps.toList ≤ y.cps.toList) → H p = none → Q (.ref p) (upd H p (.lst (ns'.map V.str)))
section
variable {X : Cx}
theorem cr_sortedA : CallR X (.builtin "sorted") (rSortedA X.K) := by
  intro pins s σ H vs us Q I r h
  obtain ⟨a, ns, rfl, hs, q⟩ := h
  obtain ⟨its, rv, hl, hz⟩ := I.list hs
  rw [Vals.ref1 r]
  have hi := rv.strs
  refine SrtO.sorted_ord SrtO.swo_str hl.isList (by rw [← rv.length]; exact hz) (fun h2 h₁ a' _ _ => SrtO.strs_sortable hi h2) fun out h1 h2 => ?_
  obtain ⟨k1, k2, k3⟩ := SrtO.strs_out hi h1 h2
  obtain ⟨ep, he'⟩ := PyProof.Rows.sortedAll_at s.heap its out.toArray
  have hlen : ((out.map SrtO.sv).map V.str).length ≤ sizeLine := by
    rw [List.length_map, k2.length_eq]
    rw [List.length_map] at hz
    exact hz
  exact ⟨.ref _, upd H (s.heap.objs.size + 1) (.lst ((out.map SrtO.sv).map V.str)), I.laid (t' := s.toks) (fun _ _ => PyProof.Rows.sortedAll_old) (Nat.le_succ _) ⟨hlen, out, ep, vals_of_strs k1, he'⟩, rfl, q _ _ k2 k3 (I.hok.fresh (Nat.le_succ _))⟩
end
end L2
set_option maxHeartbeats 1000000
namespace L2
open PySem PySem.Spec PyProof.Rows
section
variable {X : Cx} {o e : Expr} {es : List Expr} {to te : TE} {ta : TA} {f : Str} {p p' p1 p2 pos : Pos}
/-- B.__init__(self, ..), B an own class over ValueError without own __init__ -/
theorem pe_ownInit {pl : Sem Bool} {x : Str} {B : Addr} (hg : Gl X x) (hm : X.mg x = some (.ref B)) (r : ClX.CRead X.K B (.type "type")) (vV : PySem.W.findCls X.K (.ref B) (.type "type") "__init__" = some (.val (.builtin "ValueError.__init__"))) (ha : PA X (e :: es) ta)
    (hdb : (x == ("__debug__" : Str)) = false := by decide)
    (hc : eval (.Call (.Attribute (.Name x p1) "__init__" p2) (e :: es) [] pos) X.env = (do
      let ov ← eval (.Name x p1) X.env
      standAt p2.atName
      let (f, first) ← holding [ov] (getMethod ov "__init__" pl)
      callWith pos f first (backTo pos (starEach (e :: es) X.env)) (backToKw pos (keywordEach [] X.env))) := by rfl)
    (he : starEach (e :: es) X.env = (false, eval e X.env) :: starEach es X.env := by rfl) (hpl : (backTo pos (starEach es X.env)).any (·.1) = false := by rfl) :
    PE X (.Call (.Attribute (.Name x p1) "__init__" p2) (e :: es) [] pos) (tVeI X.K ta) := by
  refine ⟨fun pins s σ H Q I h => ?_⟩
  refine PySem.W.methodCall_KW (ld_glob I hg hm ?_ hdb) hc
  refine PySem.W.method_cls I.kIn r.ga (PySem.W.cls_value I.kIn r.rd vV (by decide +kernel) ?_)
  show wpAny _ _ (callWith pos (Value.builtin "ValueError.__init__") [] (backTo pos (starEach (e :: es) X.env)) []) _ _ _
  refine PyProof.Rows.callWith_method1 (thn (ha.run pos pins _ σ H _ (I.tok _) h) fun us s1 ⟨vs, H1, I1, r1, a, C, ws, ev, hl, T, ea, q⟩ => ?_) he hpl
  subst ev
  cases r1 with
  | @cons _ u0 _ ur ra rw' =>
    obtain rfl : u0 = Value.ref a := ra
    have hlen : ur.length ≤ sizeLine := by
      rw [← Paired.length rw', sizeLine_eq]
      omega
    exact oinit_ok T I1 ea hlen fun s' J => ⟨.non, H1, J, rfl, q⟩
end
/-- at a: an exception of the class cls, its dict d -/
def xo (a : Addr) (cls : Value) (d : Option Addr) : HO := .ext fun h => ∃ oe vs, h.get? a = some oe ∧ Zc cls d oe ∧ oe.data = .fields vs
theorem xo_own {e x : Addr} {c : Value} {d : Option Addr} : xo e c d ≠ .own x := fun z => by
  have z' : HO.ext _ = HO.own x := z
  cases z'
theorem xo_lst {e : Addr} {c : Value} {d : Option Addr} {l : List V} : xo e c d ≠ .lst l := fun z => by
  have z' : HO.ext _ = HO.lst l := z
  cases z'
theorem xo_ok {P : Program} {w : World} {H : Hp} {h : Heap} {a : Addr} {cls : Value} {d : Option Addr} {oe : Obj} {vs : Array Value} (he : h.get? a = some oe) (hz : Zc cls d oe) (hd : oe.data = .fields vs) : ObjOk P w H h a (xo a cls d) :=
  ⟨⟨oe, vs, he, hz, hd⟩, ⟨_, he⟩, fun h1 h2 z k => by
    obtain ⟨o, u, q1, q2, q3⟩ := z
    exact ⟨o, u, k _ q1, q2, q3⟩⟩
theorem xo_at {P : Program} {w : World} {H : Hp} {h : Heap} {a : Addr} {cls : Value} {d : Option Addr} (hok : HOk P w H h) (he : H a = some (xo a cls d)) : ∃ oe vs, h.get? a = some oe ∧ Zc cls d oe ∧ oe.data = .fields vs := by
  have x : ObjOk P w H h a (.ext fun h => ∃ oe vs, h.get? a = some oe ∧ Zc cls d oe ∧ oe.data = .fields vs) := hok a _ he
  exact x.1
section
variable {X : Cx} {pins : List (Addr × Obj)} {σ : St} {H : Hp} {s : Shared}
theorem Inv.track {a : Addr} {oe : Obj} {cls : Value} {d : Option Addr} {vs : Array Value} (I : Inv X ((a, oe) :: pins) σ H s) (hz : Zc cls d oe) (hd : oe.data = .fields vs) (n0 : X.s_0.heap.get? a = none) (np : ∀ p ∈ X.pn ++ pins, p.1 ≠ a) :
    Inv X pins σ (upd H a (xo a cls d)) s := by
  obtain ⟨ha, hn, nL, nF, _⟩ := I.pin (a, oe) (List.mem_append_right _ List.mem_cons_self)
  have ha' : s.heap.get? a = some oe := ha
  have hn' : H a = none := hn
  have ne : ∀ {b : Addr} {u : HO}, H b = some u → b ≠ a := fun {b u} q z => by
    rw [z, hn'] at q
    cases q
  refine ⟨I.ok, I.os, I.bare, ⟨I.base.keep, I.base.slot, fun b o q n hx => ?_, I.base.there, fun b xs q => ?_, fun b o u q => ?_, fun b ps q => ?_⟩, I.loc, I.cell, ?_, fun x c e => ?_, fun p hp => ?_, fun b o q => ?_, I.len⟩
  · rw [upd_ne (by rintro rfl; rw [n0] at q; cases q)]
    exact I.base.free b o q n hx
  · have := I.base.tups b xs q
    rw [upd_ne (ne this)]
    exact this
  · have := I.base.frzs b o u q
    rw [upd_ne (ne this)]
    exact this
  · obtain ⟨more, this⟩ := I.base.tbls b ps q
    exact ⟨more, by rw [upd_ne (ne this)]; exact this⟩
  · rw [upd_ne (Ne.symm nL)]
    exact I.free
  · have hca : c ≠ a := by
      rintro rfl
      obtain ⟨v, oc, h1, h2⟩ := I.cell x c e
      rw [ha'] at h1
      cases h1
      rw [hd] at h2
      first | cases h2 | (cases h2.1) | (cases h2.2)
    rw [upd_ne hca]
    exact I.freeC x c e
  · have hp' : p ∈ X.pn ++ ((a, oe) :: pins) := by
      rcases List.mem_append.mp hp with h | h
      · exact List.mem_append_left _ h
      · exact List.mem_append_right _ (List.mem_cons_of_mem _ h)
    obtain ⟨q1, q2, q3⟩ := I.pin p hp'
    exact ⟨q1, by rw [upd_ne (np p hp)]; exact q2, q3⟩
  · by_cases hb : b = a
    · subst hb
      rw [upd_same] at q
      cases q
      exact xo_ok ha' hz hd
    · rw [upd_ne hb] at q
      exact (I.hok b o q).stay (fun c v hc z => z) (fun c hc => by rw [upd_ne (ne hc)]; exact hc) (fun c xs hc => by rw [upd_ne (ne hc)]; exact hc)
end
/-- what the clause 'except x as n' wishes of the one kind of exception that the body lets out: caught, bound to slot i, kept at its place -/
def wKeep (K : PySem.W.Frag) (c : Value) (i : Nat) (ts : Addr → Value → Option Addr → TS) (D : Ends) : WX := fun cls d σ H =>
  PySem.W.exmOne K cls c = some true ∧ ∀ a, H a = none → ts a cls d ⟨fun σ' H' => D.nx (σ'.set i none) (upd H' a (xo a cls d)), fun _ _ => False, fun _ _ => False, fun _ _ => False⟩ (σ.set i (some (.ref a))) H
section
variable {X : Cx} {x n : Str} {c : Value} {i : Nat} {body suite : List Stmt} {b₀ : Stmt} {np pos pos' : Pos} {tb : WX → TS} {ts : Addr → Value → Option Addr → TS}
/-- what the body of a try leaves is what the try leaves -/
theorem SP.ofTry {pins : List (Addr × Obj)} {xe : Value → Shared → Prop} {D : Ends} (ok : X.Ok) : ∀ {f : Flow} {s1 : Shared}, SP (X.tr (X.pn ++ pins) xe) [] D f s1 → SP X pins D f s1
  | .next, _, ⟨σ', H', J, q⟩ => ⟨σ', H', J.ofTry ok, q⟩
  | .brk, _, ⟨σ', H', J, q⟩ => ⟨σ', H', J.ofTry ok, q⟩
  | .cont, _, ⟨σ', H', J, q⟩ => ⟨σ', H', J.ofTry ok, q⟩
  | .ret _, _, ⟨v, σ', H', J, r, q⟩ => ⟨v, σ', H', J.ofTry ok, r, q⟩
/-- the suite of the clause, begun with the exception landed at a; behind it the exception is tracked -/
theorem suite_keep {pins : List (Addr × Obj)} {σ : St} {H : Hp} {s : Shared} {D : Ends} {a : Addr} {oe : Obj} {vs : Array Value} {cls : Value} {d : Option Addr} (ok : X.Ok) (hN : X.N.Nodup) (hi : X.N[i]? = some n) (hln : X.env.kindOf n = some .local)
    (hsu : PSs (X.suite a ((a, oe) :: (X.pn ++ pins))) (b₀ :: suite) (ts a cls d)) (S : Inv (X.suite a ((a, oe) :: (X.pn ++ pins))) [] (σ.set i (some (.ref a))) H s) (hz : Zc cls d oe) (hd : oe.data = .fields vs) (n0 : X.s_0.heap.get? a = none) (np' : ∀ p ∈ X.pn ++ pins, p.1 ≠ a)
    (h : ts a cls d ⟨fun σ' H' => D.nx (σ'.set i none) (upd H' a (xo a cls d)), fun _ _ => False, fun _ _ => False, fun _ _ => False⟩ (σ.set i (some (.ref a))) H) :
    wpAny (model X.prog X.w) (X.A.mark (some (.ref a))) (execs (b₀ :: suite) X.env) (fun f s6 => wpAny (model X.prog X.w) X.A (do bindName X.env n .none; unbindBehindTheSuite X.env n pos') (fun _ s7 => SP X pins D f s7) X.xe s6) (fun _ _ => False) s := by
  refine wpAny_mono (hsu.run [] s _ H _ S h) (fun f s6 hsp => ?_) (fun _ _ z => z)
  match f, hsp with
  | .next, ⟨σ6, H6, S6, q6⟩ =>
    have P6 : Inv X ((a, oe) :: pins) σ6 H6 s6 := (S6.unsuite ok).pins_of fun p hp => S6.pin p (List.mem_append_left _ (by
      rcases List.mem_cons.mp hp with e | e
      · rw [e]; exact List.mem_cons_self
      · exact List.mem_cons_of_mem _ (List.mem_append_right _ e)))
    exact gone_ok P6 hN hi hln fun s7 I7 => ⟨_, _, I7.track hz hd n0 np', q6⟩
  | .brk, ⟨_, _, _, q6⟩ => exact q6.elim
  | .cont, ⟨_, _, _, q6⟩ => exact q6.elim
  | .ret _, ⟨_, _, _, _, _, q6⟩ => exact q6.elim
/-- try: body, except x as n: suite, where every exception of the body is caught -/
theorem ps_try_keep (hs : X.stack = X.env :: X.outer) (hf : X.env.frame = some X.env.locals) (hN : X.N.Nodup) (hi : X.N[i]? = some n) (hln : X.env.kindOf n = some .local) (hc : Names X x c) (hex : X.ex = [])
    (hb : ∀ (W : WX) (pn : List (Addr × Obj)) (xe : Value → Shared → Prop), Takes (X.tr pn xe) W → PassesOwn (model X.prog X.w) X.A X.env xe → PSs (X.tr pn xe) body (tb W))
    (hsu : ∀ (a : Addr) (oe : Obj) (cls : Value) (d : Option Addr) (pn : List (Addr × Obj)), Zc cls d oe → (∃ vs, oe.data = .fields vs) → PSs (X.suite a ((a, oe) :: pn)) (b₀ :: suite) (ts a cls d)) :
    PS X (.Try body [.ExceptHandler (some (.Name x np)) (some n) (b₀ :: suite) pos'] [] [] pos) (fun D σ H => tb (wKeep X.K c i ts D) D σ H) := by
  refine ⟨fun pins s σ H D I h => wpAny_Try_except ?_⟩
  have ok := I.ok
  have body := hb (wKeep X.K c i ts D) (X.pn ++ pins) (fun e s₁ => wpAny (model X.prog X.w) X.A (noteFrame e X.env) (fun _ s₂ => wpAny (model X.prog X.w) X.A (setFlight e none) (fun _ s₃ =>
    wpAny (model X.prog X.w) X.A (handleBy e X.env [.ExceptHandler (some (.Name x np)) (some n) (b₀ :: suite) pos']) (SP X pins D) X.xe s₃) X.xe s₂) X.xe s₁)
  refine wpAny_mono ((body ?_ PassesOwn.looking).run [] s σ H D (I.toTry _) h) ?_ (fun e s1 he => he)
  · rintro u s' ⟨a, B, sI, pins', σ', H', cls, d, rfl, J', nb, up, sky, na, os, ag, hyes, hts⟩
    have J : Inv X pins σ' H' sI := J'.ofTry ok
    rw [hs] at sky
    refine Sky.land Zc.steady (by rw [ok.frames, hs]) hf sky fun h3 fl up3 => ?_
    obtain ⟨oe, vs, he, hz, hd⟩ := fl.there
    have nfr : a ∉ frs (X.env :: X.outer) := fun hm => by
      obtain ⟨_, o, e1, e2⟩ := fl.2.2.1.mem hm
      rw [he] at e1
      cases e1
      exact e2 _ hd
    have nL : a ≠ X.env.locals := fun z => nfr (List.mem_filterMap.mpr ⟨X.env, List.mem_cons_self, by rw [hf, z]⟩)
    have nF : a ∉ X.fs := fun hm => let ⟨e, g1, g2⟩ := List.mem_filterMap.mp hm; nfr (List.mem_filterMap.mpr ⟨e, List.mem_cons_of_mem _ g1, g2⟩)
    have noI : sI.heap.get? a = none := by
      cases q : sI.heap.get? a with
      | none => rfl
      | some o => exact absurd ((nb a o q (by rw [hs]; exact nfr)).symm.trans fl.2.1) (by simp)
    have n0 : X.s_0.heap.get? a = none := by
      cases q : X.s_0.heap.get? a with
      | none => rfl
      | some o =>
        obtain ⟨o', e'⟩ := J.base.there a o q (by rw [hex]; simp)
        rw [noI] at e'
        cases e'
    have npn : ∀ p ∈ X.pn ++ pins, p.1 ≠ a := fun p hp z => by
      have := (J.pin p hp).1
      rw [z, noI] at this
      cases this
    have J3 : Inv X pins σ' H' { s' with heap := h3 } := J.landed nb fl.1 (up.trans up3) os ag
    refine wpAny_handleBy_cons (codeAny_handlers_test ?_) (by intro q; cases q)
    have L := PySem.W.exm_one (M := model X.prog X.w) J3.kIn (fun A Q E s k q => wpAny_typeOf_ref (k _ _ he) (by rw [hz.1]; exact q)) hyes
    have named : ∀ {Q : Value → Shared → Prop} {E : Value → Shared → Prop}, Q c { s' with heap := h3 } → wpAny (model X.prog X.w) (X.A.mark (some (.ref a))) (eval (.Name x np) X.env) Q E { s' with heap := h3 } := fun q => by
      have S := J3.suite he hd na nL nF
      obtain ⟨hg, hdbg, hm | ⟨hm, hv, hnn⟩⟩ := hc
      · exact ld_glob (X := X.suite a ((a, oe) :: (X.pn ++ pins))) S hg hm q hdbg
      · exact ld_blt (X := X.suite a ((a, oe) :: (X.pn ++ pins))) S hg hm hv q hnn hdbg
    refine named (L.here (codeAny_handlers_suite_as (HandSPX.lands_againZ fl fun h4 fl4 up4 => ?_)))
    obtain ⟨oe4, vs4, he4, hz4, hd4⟩ := fl4.there
    have J4 : Inv X pins σ' H' { s' with heap := h4 } := J.landed nb fl4.1 ((up.trans up3).trans up4) os ag
    refine store_ok (X := X.suite a ((a, oe4) :: (X.pn ++ pins))) (v := .ref a) (J4.suite he4 hd4 na nL nF) hN hi (.inl hln) rfl (fun s5 S5 => ?_) (.inr hln)
    exact wpAny_mono (suite_keep ok hN hi hln (hsu a oe4 cls d _ hz4 ⟨_, hd4⟩) S5 hz4 hd4 n0 npn (hts a na)) (fun _ _ z => z) fun _ _ z => z.elim
  · intro f s1 hsp
    have q := SP.ofTry ok hsp
    cases f with
    | next => exact wpAny_execs_nil q
    | brk => exact q
    | cont => exact q
    | ret u => exact q
/-- err.f, err a caught exception that stays at its place -/
def tXo (K : PySem.W.Frag) (f : Str) (te : TE) : TE := fun σ H Q => te σ H fun x H1 => ∃ (a C dd : Addr) (fs : List (Str × V)) (v : V), x = .ref a ∧ H1 a = some (xo a (.ref C) (some dd)) ∧ XfC K C ∧ PySem.W.findIn K (.ref C) f = some none ∧ H1 dd = some (.xd fs) ∧ fs.lookup f = some v ∧ Q v H1
theorem pe_xo {e : Expr} {te : TE} {pos : Pos} {f : Str} (he : PE X e te) (hb : attributeBase e f X.env (eval e X.env) = eval e X.env := by rfl) : PE X (.Attribute e f pos) (tXo X.K f te) := by
  refine ⟨fun pins s σ H Q I h => ?_⟩
  refine attr_of hb (thn (he.run pins s σ H _ I h) fun u s1 hh => ?_)
  obtain ⟨x, H1, I1, rx, a, C, dd, fs, v, ex, ea, T, hno, ed, l, q⟩ := hh
  subst ex
  obtain rfl : u = Value.ref a := rx
  obtain ⟨oe, vs, ha, hz, hd⟩ := xo_at I1.hok ea
  have hx : ObjOk X.prog X.w H1 s1.heap dd (.xd fs) := I1.hok dd _ ed
  obtain ⟨mA, hns, hr⟩ := hx
  obtain ⟨od, ho, hl⟩ := lookIn_ns hns
  obtain ⟨u, hu, ru⟩ := RelO.some_of (v := v) (o := mA f) (by rw [← l]; exact hr f)
  have J : PySem.W.InstAt s1.heap a oe C (some od) := ⟨ha, hz.1, by unfold PySem.W.notCls; rw [hd] <;> rfl, by rw [hz.2]; exact ho⟩
  exact HandSPX.exc_get I1.kIn J T.ga T.gg T.exC (PySem.W.findObj_own T.hdC hno rfl (by rw [hl, hu])) (handed_of ru) ⟨v, H1, I1.tok _, ru, q⟩
end
end L2
set_option maxHeartbeats 1000000
namespace L2
open PySem PySem.Spec PyProof.Rows
section
variable {X : Cx} {CX : CXT} {k : Nat} {f C : Addr} {fd : FuncData} {ps : List Str} {sp : Sp} {E : St → XK} {x : Str} {p pos : Pos} {e : Expr} {es : List Expr} {t : TA} {ds : List Value} {dvs : List V}
def tMakeS (C : Addr) (sp : Sp) (E : St → XK) (t : TA) : TE := fun σ H Q => t σ H fun vs H1 =>
  ∀ x dx, H1 x = none → H1 dx = none → dx ≠ x →
    sp (.ref x :: vs) (upd (upd H1 dx (.own x)) x (.ins C dx [])) (fun v H2 => v = .non ∧ Q (.ref x) H2) (E σ)
theorem pe_makeS (M : Mk X.K C f)
    (F : FnOk X.prog X.w X.K X.mg X.base CX k f fd ps sp) (hr : Room (k + 1) X.A)
    (hg : Gl X x) (hm : X.mg x = some (.ref C)) (hb : Binds X.K fd ps []) (hx : ∀ σ, PassesAt CX X σ (E σ)) (ha : PA X (e :: es) t)
    (hdb : (x == ("__debug__" : Str)) = false := by decide)
    (he : starEach (e :: es) X.env = (false, eval e X.env) :: starEach es X.env := by rfl)
    (hpl : (backTo pos (starEach es X.env)).any (·.1) = false := by rfl) :
    PE X (.Call (.Name x p) (e :: es) [] pos) (tMakeS C sp E t) := by
  constructor
  intro pins s σ H Q I h
  refine wpAny_Call_Name_kw (ld_glob I hg hm ?_ hdb)
  refine PySem.W.callWith_K (h₀ := X.base) I.ok.mod.kin M.kp (thn (ha.run pos pins s σ H _ I h) fun us s1 hh => ?_) he hpl
  obtain ⟨vs, H1, I1, r, q⟩ := hh
  refine ⟨I1.kIn, ?_⟩
  show wpAny _ _ (call (.ref C) us) _ _ _
  generalize hn : s1.heap.objs.size = n
  have f0 : H1 n = none := by rw [← hn]; exact I1.hok.fresh (Nat.le_refl _)
  have f1 : H1 (n + 1) = none := by rw [← hn]; exact I1.hok.fresh (Nat.le_succ _)
  have hq := q (n + 1) n f1 f0 (Nat.ne_of_lt (Nat.lt_succ_self _))
  have I2 := Inv.made (C := C) I1
  rw [hn] at I2
  have r2 : Vals (V.ref (n + 1) :: vs) (Value.ref (n + 1) :: us) := .cons rfl r
  have hl : (Value.ref (n + 1) :: us ++ []).length = ps.length := by
    have z := r2.length
    rw [F.len _ _ _ _ hq] at z
    rw [List.append_nil]
    exact z.symm
  have b := hb _ (Value.ref (n + 1) :: us) I2.kIn hl
  rw [List.append_nil] at b
  have run := F.run _ X.stack _ _ ⟨Value.ref (n + 1) :: us, []⟩ (Value.ref (n + 1) :: us) _ _ (E σ) (hr.make C us []) (I2.env0.make C us []) b r2 hq
  refine wpAny_call (make_map (f := f) I1.kIn M.makes M.init (beq_iff_eq.mp M.fn) (codeAny_mono (by rw [hn]; exact run) fun r s' hq' => ?_))
  cases r with
  | error er => exact hx σ pins _ _ er s' I2 hq'
  | ok fl =>
    cases fl with
    | next => exact False.elim hq'
    | brk => exact False.elim hq'
    | cont => exact False.elim hq'
    | ret u =>
      obtain ⟨v, H', I3, rv, ev, q3⟩ := I2.after hq'
      cases ev
      rw [hn]
      exact ⟨rv, ⟨V.ref (n + 1), H', I3, rfl, q3⟩⟩
end
end L2
set_option maxHeartbeats 4000000
namespace PySem
namespace OXB
open Builtin Builtin.ObjectAttr PySem.W PySem.Calls PyProof.Rows PySem.HandSPX
/-- own classes, then the base's mro -/
def refsT (bm : List Value) : List Value → Bool
  | .ref _ :: r => refsT bm r
  | l => l == bm
theorem refsT_cases {bm : List Value} : ∀ l : List Value, refsT bm l = true → (∃ c r, l = .ref c :: r ∧ refsT bm r = true) ∨ l = bm
  | [], e => .inr (beq_iff_eq.mp e)
  | .ref c :: r, e => .inl ⟨c, r, rfl, e⟩
  | .none :: _, e => .inr (beq_iff_eq.mp e)
  | .ellipsis :: _, e => .inr (beq_iff_eq.mp e)
  | .notImplemented :: _, e => .inr (beq_iff_eq.mp e)
  | .bool _ :: _, e => .inr (beq_iff_eq.mp e)
  | .int _ _ :: _, e => .inr (beq_iff_eq.mp e)
  | .float _ _ :: _, e => .inr (beq_iff_eq.mp e)
  | .str _ _ :: _, e => .inr (beq_iff_eq.mp e)
  | .bytes _ _ :: _, e => .inr (beq_iff_eq.mp e)
  | .type _ :: _, e => .inr (beq_iff_eq.mp e)
  | .builtin _ :: _, e => .inr (beq_iff_eq.mp e)
structure XB where
  B : String
  newId : String
  initId : String
  bm : List Value
/-- what is so of the base -/
structure XB.Ok (b : XB) : Prop where
  F : ExcBaseFacts b.B b.newId b.initId b.bm
  pass : ∀ self, refuseLoop self "__setattr__" b.bm = pure ()
  obj : b.bm.contains (.type "object") = true
  ne : b.bm.isEmpty = false
def xbV : XB := ⟨"ValueError", "ValueError.__new__", "ValueError.__init__", [.type "ValueError", .type "Exception", .type "BaseException", .type "object"]⟩
def xbR : XB := ⟨"RuntimeError", "RuntimeError.__new__", "RuntimeError.__init__", [.type "RuntimeError", .type "Exception", .type "BaseException", .type "object"]⟩
theorem xbV_ok : xbV.Ok := ⟨F.excBase_ValueError, fun self => F.store_ValueError.passes self, by decide +kernel, rfl⟩
theorem xbR_ok : xbR.Ok := ⟨F.excBase_RuntimeError, fun self => F.store_RuntimeError.passes self, by decide +kernel, rfl⟩
theorem refsT_pass {b : XB} (O : b.Ok) (self : Value) : ∀ l : List Value, refsT b.bm l = true → refuseLoop self "__setattr__" l = pure () := by
  intro l
  induction l with
  | nil =>
    intro e
    have e' : ([] : List Value) = b.bm := beq_iff_eq.mp e
    rw [e']
    exact O.pass self
  | cons a r ih =>
    intro e
    rcases refsT_cases (a :: r) e with ⟨c, r', q, h⟩ | q
    · obtain ⟨rfl, rfl⟩ := List.cons.inj q
      rw [refuseLoop_ref]; exact ih h
    · rw [q]; exact O.pass self
theorem refsT_contains {bm : List Value} (X : String) : ∀ l : List Value, refsT bm l = true → l.contains (.type X) = bm.contains (.type X) := by
  intro l
  induction l with
  | nil =>
    intro e
    have e' : ([] : List Value) = bm := beq_iff_eq.mp e
    rw [e']
  | cons a r ih =>
    intro e
    rcases refsT_cases (a :: r) e with ⟨c, r', q, h⟩ | q
    · obtain ⟨rfl, rfl⟩ := List.cons.inj q
      rw [List.contains_cons, ih h]; rfl
    · rw [q]
theorem refsT_ne {b : XB} (O : b.Ok) {l : List Value} (e : refsT b.bm l = true) : l.isEmpty = false := by
  cases l with
  | nil =>
    have e' : ([] : List Value) = b.bm := beq_iff_eq.mp e
    have := O.ne
    rw [← e'] at this
    exact this
  | cons _ _ => rfl
section
variable {M : Model} {A : Around} {E : Value → Shared → Prop} {h : Heap} {g : Array GenState} {d : Drawn} {t : Nat} {os : OsState}
variable {nm q : Str} {C N : Addr} {bs bm bmB : List Value} {hdct : Bool} {sn : List Str} {sub : List Value} {ab : Bool} {col : Option Bool} {dd : Option Addr} {k0 k1 k2 k3 k5 : Option Value} {B newId initId : String}
theorem check_new_ownK (F : ExcBaseFacts B newId initId bmB) (hT : ∀ X : String, bm.contains (.type X) = bmB.contains (.type X)) {rest : List Value} {kw : List (Str × Value)} {Q : Unit → Shared → Prop}
    (hC : h.get? C = some (excClassObj nm q C N bs bm hdct sn sub ab col dd k0 k1 k2 k3 k5 newId)) (hq : Q () ⟨h, g, d, t, os⟩) : wpAny M A (checkBuiltinCall newId ⟨.ref C :: rest, kw⟩) Q E ⟨h, g, d, t, os⟩ := by
  have hcont : (Value.ref C :: bm).contains (.type B) = true := by rw [List.contains_cons, hT, F.hasB, Bool.or_true]
  have hstar := F.noStar
  simp only [checkBuiltinCall, F.newKind, F.newSplit, F.newRow]
  repeat (first | refine wpAny_loadPart_at hC ?_ | (refine wpAny_isSubtype_exc hC ?_; rw [hcont]) | refine wpAny_staticBase_exc hC ?_ | refine wpAny_madeBy_exc hC ?_ | simp only [bne_self_eq_false, Bool.false_eq_true, if_false] | wp_step)
  exact hq
end
section
variable {prog : Program} {w : World} {A : Around} {E : Value → Shared → Prop} {R : Result → Shared → Prop} {h : Heap} {g : Array GenState} {d : Drawn} {t : Nat} {os : OsState}
variable {nm q : Str} {C N : Addr} {bs bm bmB : List Value} {hdct : Bool} {sn : List Str} {sub : List Value} {ab : Bool} {col : Option Bool} {dd : Option Addr} {k0 k1 k2 k3 k5 : Option Value} {B newId initId : String}
theorem new_ownK (F : ExcBaseFacts B newId initId bmB) (hT : ∀ X : String, bm.contains (.type X) = bmB.contains (.type X)) {rest : List Value} {kw : List (Str × Value)}
    (hC : h.get? C = some (excClassObj nm q C N bs bm hdct sn sub ab col dd k0 k1 k2 k3 k5 newId))
    (hq : R (.ok (.ret (.ref (h.objs.size + 1)))) ⟨(h.push { cls := .type "tuple", data := .seq rest.toArray }).push
      { cls := .ref C, data := .fields #[.ref h.objs.size, .none, .none, .none, .bool false, .none] }, g, d, t, os⟩) (hrest : rest.length ≤ sizeLine) :
    codeAny (model prog w) A (.builtin newId ⟨.ref C :: rest, kw⟩) R ⟨h, g, d, t, os⟩ := by
  have hends := F.ends
  have hcB : (Value.ref C :: bm).contains (.type B) = true := by rw [List.contains_cons, hT, F.hasB, Bool.or_true]
  have hcA : (Value.ref C :: bm).contains (.type "AttributeError") = false := by rw [List.contains_cons, hT, F.noAttr]; rfl
  have hcN : (Value.ref C :: bm).contains (.type "NameError") = false := by rw [List.contains_cons, hT, F.noName]; rfl
  refine codeAny_builtinAt F.entry ?_
  unfold Builtin.«BaseException.__new__»
  refine wpAt_bind ?_
  show wpAt _ _ _ (stack >>= _) _ _ _
  refine wpAt_bind (wpAt_stack fun p below => wpAt_of_wpAny ?_)
  wp_walk
  refine wpAt_of_wpAny ?_
  rw [F.owner]
  repeat (first | with_reducible refine wpAny_madeHere_exc F.canon hC ?_ | with_reducible refine wpAny_loadPart_at hC ?_ | (with_reducible refine wpAny_isSubtype_exc hC ?_; first | rw [hcB] | rw [hcA] | rw [hcN]) | wp_step)
  show R _ _
  rw [Heap.size_push]
  exact hq
theorem type_call_ownK (F : ExcBaseFacts B newId initId bmB) (hT : ∀ X : String, bm.contains (.type X) = bmB.contains (.type X)) {rest : List Value} {kw : List (Str × Value)} {fI : Addr} {Q : Fin → Shared → Prop}
    (hC : h.get? C = some (excClassObj nm q C N bs bm hdct sn sub ab col dd k0 k1 k2 k3 k5 newId))
    (hi : W.Looks (model prog w) h (typeLookup (.ref C) "__init__") (some (.ref fI))) (hb : ∀ self, W.Looks (model prog w) h (bindSpecial (.ref fI) self) (.ref fI, [self])) (hrest : rest.length ≤ sizeLine)
    (hq : codeAny (model prog w) A (.call (.ref fI) ⟨.ref (h.objs.size + 1) :: rest, kw⟩)
      (fun r s' => match r with | .ok (.ret v) => v = .none ∧ Q (.done (.ret (.ref (h.objs.size + 1)))) s' | .ok _ => False | .error e => E e s')
      ⟨(h.push (W.kdv_tup rest)).push (excO C h.objs.size), g, d, t, os⟩) :
    wpAny (model prog w) A (Builtin.«type.__call__» ⟨.ref C :: rest, kw⟩) Q E ⟨h, g, d, t, os⟩ := by
  repeat (first | with_reducible refine wpAny_loadPart_at hC ?_ | with_reducible refine wpAny_madeBy_exc hC ?_ | wp_step)
  refine codeAny_call_builtin_code (Code.quiet_builtin _ F.quiet) (check_new_ownK F hT hC ?_)
  refine new_ownK F hT hC ?_ hrest
  show wpAny _ _ _ _ _ _
  have k : ∀ b o, h.get? b = some o → ((h.push (W.kdv_tup rest)).push (excO C h.objs.size)).get? b = some o := fun b o e => Heap.get?_push_of_some _ (Heap.get?_push_of_some _ e)
  have hC₁ := k _ _ hC
  have hget : ((h.push (W.kdv_tup rest)).push (excO C h.objs.size)).get? (h.objs.size + 1) = some (excO C h.objs.size) := by heap_get
  have hcC : (Value.ref C :: bm).contains (.ref C) = true := by simp
  have i1 := hi.keeps k
  have b1 := (hb (.ref (h.objs.size + 1))).keeps k
  unfold isInstance
  repeat (first | with_reducible refine wpAny_loadPart_at hget ?_ | (with_reducible refine wpAny_isSubtype_exc hC₁ ?_; rw [hcC]) | wp_step)
  show wpAny _ _ (typeLookup (.ref C) _) _ _ _
  refine i1.at ?_
  refine wpAny_holding (wpAny_bind (b1.at ?_))
  refine wpAny_bind (wpAny_call (codeAny_mono hq fun r s' z => ?_))
  rcases r with e | (v | _ | _ | _) <;> first | exact z | exact z.elim | skip
  obtain ⟨rfl, z⟩ := z
  first
    | exact wpAny_pure (wpAny_pure z)
    | (wp_walk; exact z)
theorem call_ownK (F : ExcBaseFacts B newId initId bmB) (hT : ∀ X : String, bm.contains (.type X) = bmB.contains (.type X)) {rest : List Value} {kw : List (Str × Value)} {fI : Addr}
    (hC : h.get? C = some (excClassObj nm q C N bs bm hdct sn sub ab col dd k0 k1 k2 k3 k5 newId))
    (hi : W.Looks (model prog w) h (typeLookup (.ref C) "__init__") (some (.ref fI))) (hb : ∀ self, W.Looks (model prog w) h (bindSpecial (.ref fI) self) (.ref fI, [self])) (hrest : rest.length ≤ sizeLine)
    (hq : codeAny (model prog w) (A.under (.builtin "type.__call__" ⟨.ref C :: rest, kw⟩)) (.call (.ref fI) ⟨.ref (h.objs.size + 1) :: rest, kw⟩) (W.InitBack (h.objs.size + 1) R)
      ⟨(h.push (W.kdv_tup rest)).push (excO C h.objs.size), g, d, t, os⟩) :
    codeAny (model prog w) A (.call (.ref C) ⟨rest, kw⟩) R ⟨h, g, d, t, os⟩ := by
  have f1 := tc_lookup
  have f2 := tc_bind (.ref C)
  have hTy : (⟨h, g, d, t, os⟩ : Shared).TypeIs (.ref C) "type" := ⟨_, hC, rfl⟩
  refine codeAny_of_tree ?_
  show wpAny _ _ (callAny (.ref C) _) _ _ _
  repeat (any_goals (first | assumption | with_reducible refine wpAny_loadPart_at hC ?_ | wp_step))
  refine ⟨rfl, ?_⟩
  refine codeAny_call_builtin_at (Code.quiet_builtin _ (by decide +kernel)) entry_typeCall (wpAny_check_type_call_sub hC (type_call_ownK F hT hC hi hb hrest ?_))
  refine codeAny_mono hq fun r s' z => ?_
  rcases r with e | (v | _ | _ | _) <;> exact z
end
section
variable {prog : Program} {w : World} {A : Around} {E : Value → Shared → Prop} {R : Result → Shared → Prop} {hp : Heap} {g : Array GenState} {d : Drawn} {t : Nat} {os : OsState}
theorem exc_osaB {b : XB} (O : b.Ok) {K : W.Frag} {name : Str} {tk : Tok} {v : Value} {x C : Addr} {fv : Array Value} {cd : ClassData}
    (X : K.In hp) (hx : hp.get? x = some { cls := .ref C, data := .fields fv }) (hcd : W.clsIn K C = some cd) (hm : refsT b.bm cd.mro = true) (hh : cd.hasDict = true) (ha : W.findIn K (.ref C) name = some none)
    (hq : ∀ h' tk' dx, (∀ b o, b ≠ x → hp.get? b = some o → h'.get? b = some o) → hp.objs.size ≤ dx → dx ≠ x → h'.get? x = some { cls := .ref C, dict := some dx, data := .fields fv } →
      h'.Ns1 dx (fun y => if y = name then some v else none) → R (.ok (.ret .none)) ⟨h', g, d, tk', os⟩) :
    codeAny (model prog w) A (.call (.builtin "object.__setattr__") ⟨[.ref x, .str name tk, v], []⟩) R ⟨hp, g, d, t, os⟩ := by
  have I : W.InstAt hp x { cls := .ref C, data := .fields fv } C none := ⟨hx, rfl, rfl, trivial⟩
  have SF := F.store_object
  have ne := refsT_ne O hm
  have hob : cd.mro.contains (.type "object") = true := (refsT_contains "object" _ hm).trans O.obj
  have hxs : x ≠ hp.objs.size := Nat.ne_of_lt (Heap.lt_size hx)
  have sub : W.Looks (model prog w) hp (isInstance (.ref x) (.type "object")) true := I.type.andThen (W.looks_mroIn X (by unfold W.mroIn; rw [hcd, Option.bind_some, if_neg (by rw [ne]; decide), hob]))
  refine codeAny_call_builtin SF.slot.plain SF.entry (@W.check_slot (model prog w) _ _ ⟨hp, g, d, t, os⟩ "object.__setattr__" "object" "__setattr__" (.ref x) [.str name tk, v] [] _ SF.kind SF.split sub (SF.args (.ref x) (.str name tk) v) ?_)
  have hmr : W.Looks (model prog w) hp (mroOf (.ref C)) cd.mro := (W.looks_clsIn X hcd).andThen .now
  have L3 : W.Looks (model prog w) hp (storeTaker? none) none := .now
  have hcls : W.Looks (model prog w) hp (classData C) cd := W.looks_clsIn X hcd
  rw [W.osa_eq, refuse_eq]
  refine wpAny_bind (wpAny_bind (I.type.at (wpAny_bind (hmr.at ?_))))
  rw [refsT_pass O _ _ hm]
  refine wpAny_pure (wpAny_bind (I.type.at (wpAny_bind ((W.looks_findIn X ha).at (wpAny_bind (L3.at ?_))))))
  show wpAny _ _ (storeInOwnDict (.ref x) (.ref C) (.str name tk) name v false) _ _ _
  obtain ⟨nm, bs, mro, ns, qn, hd, sn, sb, ab, col, del⟩ := cd
  dsimp only at hh
  subst hh
  unfold storeInOwnDict ownDictForStores
  repeat (first | with_reducible refine store_in_new ?_ ?_ | with_reducible refine wpAny_loadPart_at hx ?_ | with_reducible refine hcls.at ?_ | wp_step)
  · exact ⟨_, #[], _, (Heap.get?_update_ne _ _ _ _ hxs.symm).trans (Heap.get?_push_at rfl rfl), rfl, fun e he => absurd he (by simp), fun _ => rfl⟩
  · intro h' tk' hn' hs
    have hx₁ : (hp.push { cls := .type "dict", data := .dict #[] }).get? x = some { cls := .ref C, data := .fields fv } := Heap.get?_push_of_some _ hx
    refine hq h' tk' hp.objs.size (fun b o hb ho => ?_) (Nat.le_refl _) hxs.symm ?_ hn'
    · exact (hs.2 b (Nat.ne_of_lt (Heap.lt_size ho))).trans ((Heap.get?_update_ne _ _ _ _ hb).trans (Heap.get?_push_of_some _ ho))
    · exact (hs.2 x hxs).trans (Heap.get?_update_self _ hx₁ rfl)
theorem osa_oldB {b : XB} (O : b.Ok) {K : W.Frag} {name : Str} {tk : Tok} {v : Value} {x C dx : Addr} {fv : Array Value} {cd : ClassData} {m0 : Str → Option Value} {nl : List Str}
    (X : K.In hp) (hx : hp.get? x = some { cls := .ref C, dict := some dx, data := .fields fv }) (hns : hp.Ns1 dx m0) (hw : Within m0 nl) (hz : nl.length ≤ 1000) (hcd : W.clsIn K C = some cd) (hm : refsT b.bm cd.mro = true) (hh : cd.hasDict = true)
    (ha : W.findIn K (.ref C) name = some none)
    (hq : ∀ h' tk', (∀ b o, b ≠ dx → hp.get? b = some o → h'.get? b = some o) → h'.Ns1 dx (fun y => if y = name then some v else m0 y) → R (.ok (.ret .none)) ⟨h', g, d, tk', os⟩) :
    codeAny (model prog w) A (.call (.builtin "object.__setattr__") ⟨[.ref x, .str name tk, v], []⟩) R ⟨hp, g, d, t, os⟩ := by
  obtain ⟨oD, esD, epD, hoD, hdD, _⟩ := hns.count hw
  have I : W.InstAt hp x { cls := .ref C, dict := some dx, data := .fields fv } C (some oD) := ⟨hx, rfl, rfl, hoD⟩
  have SF := F.store_object
  have ne := refsT_ne O hm
  have hob : cd.mro.contains (.type "object") = true := (refsT_contains "object" _ hm).trans O.obj
  have sub : W.Looks (model prog w) hp (isInstance (.ref x) (.type "object")) true := I.type.andThen (W.looks_mroIn X (by unfold W.mroIn; rw [hcd, Option.bind_some, if_neg (by rw [ne]; decide), hob]))
  refine codeAny_call_builtin SF.slot.plain SF.entry (@W.check_slot (model prog w) _ _ ⟨hp, g, d, t, os⟩ "object.__setattr__" "object" "__setattr__" (.ref x) [.str name tk, v] [] _ SF.kind SF.split sub (SF.args (.ref x) (.str name tk) v) ?_)
  have hmr : W.Looks (model prog w) hp (mroOf (.ref C)) cd.mro := (W.looks_clsIn X hcd).andThen .now
  have L3 : W.Looks (model prog w) hp (storeTaker? none) none := .now
  have hcls : W.Looks (model prog w) hp (classData C) cd := W.looks_clsIn X hcd
  rw [W.osa_eq, refuse_eq]
  refine wpAny_bind (wpAny_bind (I.type.at (wpAny_bind (hmr.at ?_))))
  rw [refsT_pass O _ _ hm]
  refine wpAny_pure (wpAny_bind (I.type.at (wpAny_bind ((W.looks_findIn X ha).at (wpAny_bind (L3.at ?_))))))
  show wpAny _ _ (storeInOwnDict (.ref x) (.ref C) (.str name tk) name v false) _ _ _
  obtain ⟨nm, bs, mro, ns, qn, hd, sn, sb, ab, col, del⟩ := cd
  dsimp only at hh
  subst hh
  unfold storeInOwnDict ownDictForStores
  repeat (first | with_reducible refine PySem.OEX.store_in_old hns hw hz ?_ | with_reducible refine wpAny_loadPart_at hx ?_ | with_reducible refine hcls.at ?_ | wp_step)
  intro h' tk' hn' hs
  exact hq h' tk' (fun b o hb ho => (hs.2 b hb).trans ho) hn'
end
end OXB
end PySem
set_option maxHeartbeats 4000000
namespace L2
open PySem PySem.Spec PyProof.Rows PySem.OXB
/-- what the written part says of the class -/
structure OexB (K : PySem.W.Frag) (C : Addr) (b : XB) : Prop where
  cls : ∃ nm q N bs bm sn sub ab col dd k0 k1 k2 k3 k5, K.lookup C = some (excClassObj nm q C N bs bm true sn sub ab col dd k0 k1 k2 k3 k5 b.newId) ∧ refsT b.bm bm = true
  sa : PySem.W.findIn K (.ref C) "__setattr__" = some (some (.builtin "object.__setattr__"))
  exC : PySem.W.subIn K (.ref C) (.type "BaseException") = some true
  tyC : PySem.W.typeIn K (.ref C) = some (.type "type")
  kC : PySem.W.keepIn K (.ref C) = true
section
variable {X : Cx} {pins : List (Addr × Obj)} {σ : St} {H : Hp} {s : Shared} {a C dx : Addr} {f : Str} {y : V} {u : Value} {fs : List (Str × V)} {Q : Unit → Shared → Prop} {E : Value → Shared → Prop} {A : Around} {b : XB}
/-- self.f = y, the first one -/
theorem ostB_new (O : b.Ok) (T : OexB X.K C b) (I : Inv X pins σ H s) (e : H a = some (exo a C none)) (hno : PySem.W.findIn X.K (.ref C) f = some none) (ry : RelV y u)
    (h : ∀ dx s', H dx = none → dx ≠ a → Inv X pins σ (upd (upd H dx (exd dx [(f, y)])) a (exo a C (some dx))) s' → Q () s') : wpAny (model X.prog X.w) A (setAttr (.ref a) f u) Q E s := by
  obtain ⟨nm, q, N, bs, bm, sn, sub, ab, col, dd, k0, k1, k2, k3, k5, hC, hbm⟩ := T.cls
  have hcl : PySem.W.clsIn X.K C = some { name := nm, bases := bs, mro := .ref C :: bm, ns := N, qualname := q, hasDict := true, slotNames := sn, subclasses := sub, abstract := ab, collection := col, hasDel := false } := by unfold PySem.W.clsIn; rw [hC] <;> rfl
  obtain ⟨t1, ho⟩ := exo_at I.hok e
  obtain ⟨hp, g, d, t, os⟩ := s
  refine PySem.W.set_plain I.kIn (ox := { cls := .ref C, dict := none, data := .fields #[.ref t1, .none, .none, .none, .bool false, .none] }) (od := none) ⟨ho, rfl, rfl, trivial⟩ T.sa ?_
  refine exc_osaB O I.kIn ho hcl (show refsT b.bm (.ref C :: bm) = true from hbm) rfl hno (fun h' tk' dx k dn dne hx hn => ?_)
  have hnd : H dx = none := I.hok.fresh dn
  have nd : ∀ {b : Addr} {o : Obj}, hp.get? b = some o → b ≠ dx := fun {b o} q => Nat.ne_of_lt (Nat.lt_of_lt_of_le (Heap.lt_size q) dn)
  have na : ∀ {b : Addr}, H b = none → b ≠ a := fun {b} n z => by
    rw [z, e] at n
    cases n
  have Un1 : Un X.fs [] H (upd (upd H dx (exd dx [(f, y)])) a (exo a C (some dx))) hp h' := {
    keep := fun b o q n _ _ => k b o (na n) q
    slot := fun b o q n _ _ => ⟨o.slots, k b o (na n) q⟩
    free := fun b o q n _ => by rw [upd_ne (na n), upd_ne (nd q)]; exact n
    there := fun b o q _ => by
      by_cases hb : b = a
      · exact ⟨_, by rw [hb]; exact hx⟩
      · exact ⟨o, k b o hb q⟩
    tups := fun b xs q => by rw [upd_ne (at_ne e q exo_tup), upd_ne (ne_of_none q hnd)]; exact q
    frzs := fun b o v q => by rw [upd_ne (at_ne e q exo_frz), upd_ne (ne_of_none q hnd)]; exact q
    tbls := fun b ps q => ⟨#[], by rw [upd_ne (at_ne e q exo_tbl), upd_ne (ne_of_none q hnd), q]; simp⟩ }
  refine h dx _ hnd dne (I.un (t' := tk') Un1 fun b o q => ?_)
  by_cases hb : b = a
  · subst hb
    rw [upd_same] at q
    cases q
    exact exo_ok hx
  · rw [upd_ne hb] at q
    by_cases hd : b = dx
    · subst hd
      rw [upd_same] at q
      cases q
      exact exd_ok hn (relO_put (fs := []) ry fun g => True.intro)
    · rw [upd_ne hd] at q
      exact (I.hok b o q).stay (fun c v hc z => k c v (by
          rcases hc with hc | hc
          · rw [hc]
            exact hb
          · exact at_ne e hc exo_own) z)
        (fun c hc => by rw [upd_ne (at_ne e hc exo_own), upd_ne (ne_of_none hc hnd)]; exact hc) (fun c xs hc => by rw [upd_ne (at_ne e hc exo_tup), upd_ne (ne_of_none hc hnd)]; exact hc)
/-- self.f = y, a further one -/
theorem ostB_old (O : b.Ok) (T : OexB X.K C b) (I : Inv X pins σ H s) (e : H a = some (exo a C (some dx))) (ed : H dx = some (exd dx fs)) (hl : fs.length ≤ 900) (hno : PySem.W.findIn X.K (.ref C) f = some none) (ry : RelV y u)
    (h : ∀ s', Inv X pins σ (upd H dx (exd dx ((f, y) :: fs))) s' → Q () s') : wpAny (model X.prog X.w) A (setAttr (.ref a) f u) Q E s := by
  obtain ⟨nm, q, N, bs, bm, sn, sub, ab, col, dd, k0, k1, k2, k3, k5, hC, hbm⟩ := T.cls
  have hcl : PySem.W.clsIn X.K C = some { name := nm, bases := bs, mro := .ref C :: bm, ns := N, qualname := q, hasDict := true, slotNames := sn, subclasses := sub, abstract := ab, collection := col, hasDel := false } := by unfold PySem.W.clsIn; rw [hC] <;> rfl
  obtain ⟨t1, ho⟩ := exo_at I.hok e
  obtain ⟨mA, hns, rel⟩ := exd_at I.hok ed
  have hw := within_of rel
  obtain ⟨hp, g, d, t, os⟩ := s
  obtain ⟨oD, _, _, hoD, _, _⟩ := hns.count hw
  refine PySem.W.set_plain I.kIn (ox := { cls := .ref C, dict := some dx, data := .fields #[.ref t1, .none, .none, .none, .bool false, .none] }) (od := some oD) ⟨ho, rfl, rfl, hoD⟩ T.sa ?_
  refine osa_oldB O I.kIn ho hns hw (by rw [List.length_map]; omega) hcl (show refsT b.bm (.ref C :: bm) = true from hbm) rfl hno (fun h' tk' k hn => ?_)
  have hd : ∃ o, h'.get? dx = some o := by
    obtain ⟨o, _, _, e', _⟩ := hn
    exact ⟨o, e'⟩
  exact h _ (I.write (t' := tk') (x := dx) (e := dx) (o := exd dx ((f, y) :: fs)) (by rw [ed]; exact True.intro) (.inl rfl) k hd (exd_ok hn (relO_put ry rel)))
/-- B.__init__(self, ..): nothing of it is told -/
theorem oinitB_ok {us : List Value} {Q : Value → Shared → Prop} (O : b.Ok) (T : OexB X.K C b) (I : Inv X pins σ H s) (e : H a = some (exo a C none)) (hl : us.length ≤ sizeLine) (h : ∀ s', Inv X pins σ H s' → Q .none s') :
    wpAny (model X.prog X.w) A (call (.builtin b.initId) (.ref a :: us)) Q E s := by
  obtain ⟨nm, q, N, bs, bm, sn, sub, ab, col, dd, k0, k1, k2, k3, k5, hC, hbm⟩ := T.cls
  obtain ⟨t1, ho⟩ := exo_at I.hok e
  obtain ⟨hp, g, d, t, os⟩ := s
  refine wpAny_call (PySem.HandSPX.init_base O.F (fun Y => refsT_contains Y bm hbm) (I.kIn _ _ hC) ho hl fun h' t2 k hx => ?_)
  have J := I.write (t' := t) (x := a) (e := a) (o := exo a C none) (by rw [e]; exact True.intro) (.inl rfl) k ⟨_, hx⟩ (exo_ok hx)
  have eu : upd H a (exo a C none) = H := by
    funext b
    by_cases hb : b = a
    · rw [hb, upd_same, e]
    · rw [upd_ne hb]
  rw [eu] at J
  exact h _ J
end
/-- B.__init__(self, ..) -/
def tVeB (K : PySem.W.Frag) (b : XB) (ta : TA) : TE := fun σ H Q => ta σ H fun vs H1 => ∃ (a C : Addr) (ws : List V), vs = .ref a :: ws ∧ ws.length ≤ 1000 ∧ OexB K C b ∧ H1 a = some (exo a C none) ∧ Q .non H1
/-- self.f = e -/
def tOsB (K : PySem.W.Frag) (b : XB) (f : Str) (to te : TE) : TS := fun D σ H => te σ H fun y H1 => to σ H1 fun x H2 => ∃ a C : Addr, x = .ref a ∧ OexB K C b ∧ PySem.W.findIn K (.ref C) f = some none ∧
  ((H2 a = some (exo a C none) ∧ ∀ dx, H2 dx = none → dx ≠ a → D.nx σ (upd (upd H2 dx (exd dx [(f, y)])) a (exo a C (some dx)))) ∨
    ∃ (dx : Addr) (fs : List (Str × V)), H2 a = some (exo a C (some dx)) ∧ H2 dx = some (exd dx fs) ∧ fs.length ≤ 900 ∧ D.nx σ (upd H2 dx (exd dx ((f, y) :: fs))))
/-- C(e, ..) as a value, C's own __init__ keeping sp -/
def tExV (C : Addr) (sp : Sp) (ta : TA) : TE := fun σ H Q => ta σ H fun vs H1 => vs.length ≤ 1000 ∧ ∀ a, H1 a = none → sp (.ref a :: vs) (upd H1 a (exo a C none)) (fun v H2 => v = .non ∧ Q (.ref a) H2) (fun _ _ _ => False)
def tExK (C : Addr) (m : Nat) (sp : Sp) (gV : List V → List V → List V) (tk : TA) : TE := fun σ H Q => tk σ H fun zs H1 => zs.length = m ∧ ∀ a, H1 a = none → sp (gV [.ref a] zs) (upd H1 a (exo a C none)) (fun v H2 => v = .non ∧ Q (.ref a) H2) (fun _ _ _ => False)
section
variable {X : Cx} {o e : Expr} {es : List Expr} {to te : TE} {ta tk : TA} {f : Str} {p p' p1 p2 pos : Pos} {b : XB}
theorem pe_ownInitB {pl : Sem Bool} {x : Str} {B : Addr} (O : b.Ok) (hg : Gl X x) (hm : X.mg x = some (.ref B)) (r : ClX.CRead X.K B (.type "type")) (vV : PySem.W.findCls X.K (.ref B) (.type "type") "__init__" = some (.val (.builtin b.initId))) (ha : PA X (e :: es) ta)
    (hbi : PySem.W.handedIn (.builtin b.initId) = true := by decide +kernel)
    (hdb : (x == ("__debug__" : Str)) = false := by decide)
    (hc : eval (.Call (.Attribute (.Name x p1) "__init__" p2) (e :: es) [] pos) X.env = (do
      let ov ← eval (.Name x p1) X.env
      standAt p2.atName
      let (f, first) ← holding [ov] (getMethod ov "__init__" pl)
      callWith pos f first (backTo pos (starEach (e :: es) X.env)) (backToKw pos (keywordEach [] X.env))) := by rfl)
    (he : starEach (e :: es) X.env = (false, eval e X.env) :: starEach es X.env := by rfl) (hpl : (backTo pos (starEach es X.env)).any (·.1) = false := by rfl) :
    PE X (.Call (.Attribute (.Name x p1) "__init__" p2) (e :: es) [] pos) (tVeB X.K b ta) := by
  refine ⟨fun pins s σ H Q I h => ?_⟩
  refine PySem.W.methodCall_KW (ld_glob I hg hm ?_ hdb) hc
  refine PySem.W.method_cls I.kIn r.ga (PySem.W.cls_value I.kIn r.rd vV hbi ?_)
  show wpAny _ _ (callWith pos (Value.builtin b.initId) [] (backTo pos (starEach (e :: es) X.env)) []) _ _ _
  refine PyProof.Rows.callWith_method1 (thn (ha.run pos pins _ σ H _ (I.tok _) h) fun us s1 ⟨vs, H1, I1, r1, a, C, ws, ev, hl, T, ea, q⟩ => ?_) he hpl
  subst ev
  cases r1 with
  | @cons _ u0 _ ur ra rw' =>
    obtain rfl : u0 = Value.ref a := ra
    have hlen : ur.length ≤ sizeLine := by
      rw [← Paired.length rw', sizeLine_eq]
      omega
    exact oinitB_ok O T I1 ea hlen fun s' J => ⟨.non, H1, J, rfl, q⟩
theorem typ_RE : typeOf (.type "RuntimeError") = pure (.type "type") := by kernel_rfl
theorem pe_reinit {pl : Sem Bool} (hg : Gl X "RuntimeError") (hm : X.mg "RuntimeError" = none) (vV : PySem.W.findCls X.K (.type "RuntimeError") (.type "type") "__init__" = some (.val (.builtin "RuntimeError.__init__"))) (ha : PA X (e :: es) ta)
    (hc : eval (.Call (.Attribute (.Name "RuntimeError" p1) "__init__" p2) (e :: es) [] pos) X.env = (do
      let ov ← eval (.Name "RuntimeError" p1) X.env
      standAt p2.atName
      let (f, first) ← holding [ov] (getMethod ov "__init__" pl)
      callWith pos f first (backTo pos (starEach (e :: es) X.env)) (backToKw pos (keywordEach [] X.env))) := by rfl)
    (he : starEach (e :: es) X.env = (false, eval e X.env) :: starEach es X.env := by rfl) (hpl : (backTo pos (starEach es X.env)).any (·.1) = false := by rfl) :
    PE X (.Call (.Attribute (.Name "RuntimeError" p1) "__init__" p2) (e :: es) [] pos) (tVeB X.K xbR ta) := by
  refine ⟨fun pins s σ H Q I h => ?_⟩
  refine PySem.W.methodCall_KW (ld_blt I hg hm PyProof.Rows.Boot.«RuntimeError» ?_ (by decide) (by decide)) hc
  obtain ⟨m, fr⟩ := I.fr
  refine PySem.W.method_type fr I.ok.mod.kin typ_RE (by decide +kernel) vV (by decide +kernel) ?_
  show wpAny _ _ (callWith pos (Value.builtin "RuntimeError.__init__") [] (backTo pos (starEach (e :: es) X.env)) []) _ _ _
  refine PyProof.Rows.callWith_method1 (thn (ha.run pos pins _ σ H _ (I.tok _) h) fun us s1 ⟨vs, H1, I1, r1, a, C, ws, ev, hl, T, ea, q⟩ => ?_) he hpl
  subst ev
  cases r1 with
  | @cons _ u0 _ ur ra rw' =>
    obtain rfl : u0 = Value.ref a := ra
    have hlen : ur.length ≤ sizeLine := by
      rw [← Paired.length rw', sizeLine_eq]
      omega
    exact oinitB_ok (b := xbR) xbR_ok T I1 ea hlen fun s' J => ⟨.non, H1, J, rfl, q⟩
theorem ps_ostB (O : b.Ok) (ho : PE X o to) (he : PE X e te) (hs : swapsWith e (some (.Attribute o f p')) pos.line X.env = pure false := by rfl) : PS X (.Assign [.Attribute o f p'] e pos) (tOsB X.K b f to te) := by
  refine ⟨fun pins s σ H D I h => ?_⟩
  refine plainObj_wpAny_Assign_Attribute (thn (he.run pins s σ H _ I h) fun v s1 ⟨y, H1, I1, r1, q1⟩ => thn (ho.run pins s1 σ H1 _ I1 q1) fun u s2 ⟨x, H2, I2, r2, a, C, ex, T, hno, q⟩ => ?_) hs
  subst ex
  obtain rfl : u = Value.ref a := r2
  rcases q with ⟨ea, q⟩ | ⟨dx, fs, ea, ed, hl, q⟩
  · exact ostB_new O T I2 ea hno r1 fun dx s' n ne J => ⟨σ, _, J, q dx n ne⟩
  · exact ostB_old O T I2 ea ed hl hno r1 fun s' J => ⟨σ, _, J, q⟩
/-- the call of the class -/
theorem run_exV {CX : CXT} {C fI : Addr} {k : Nat} {fd : FuncData} {ps : List Str} {sp : Sp} {pins : List (Addr × Obj)} {σ : St} {H1 : Hp} {s1 : Shared} {Q : VK} {us : List Value} {kw : List (Str × Value)} {args : Addr → List Value} {vals : Addr → List V}
    (O : b.Ok) (T : OexB X.K C b) (iC : PySem.W.findIn X.K (.ref C) "__init__" = some (some (.ref fI))) (tI : PySem.W.typeIn X.K (.ref fI) = some (.type "function"))
    (F1 : FnOk X.prog X.w X.K X.mg X.base CX k fI fd ps sp) (hr : Room (k + 1) X.A) (hx : Passes CX X (fun _ _ _ => False)) (I1 : Inv X pins σ H1 s1) (hus : us.length ≤ sizeLine)
    (hb : ∀ a (s : Shared), X.K.In s.heap → BindsTo s fd ⟨.ref a :: us, kw⟩ (ps.zip (args a))) (r2 : ∀ a, Vals (vals a) (args a))
    (q1 : ∀ a, H1 a = none → sp (vals a) (upd H1 a (exo a C none)) (fun v H2 => v = .non ∧ Q (.ref a) H2) (fun _ _ _ => False)) :
    wpAny (model X.prog X.w) X.A (call (.ref C) us kw) (EP X pins σ Q) X.xe s1 := by
  obtain ⟨nm, q, N, bs, bm, sn, sub, ab, col, dd, k0, k1, k2, k3, k5, hC, hbm⟩ := T.cls
  obtain ⟨hp, g, dr, tk, os⟩ := s1
  have hsz : hp.objs.size ≤ hp.objs.size + 1 := Nat.le_succ _
  have hn : H1 (hp.objs.size + 1) = none := I1.hok.fresh hsz
  have hq := q1 (hp.objs.size + 1) hn
  have kk : ∀ b o, hp.get? b = some o → ((hp.push (PySem.W.kdv_tup us)).push (PySem.HandSPX.excO C hp.objs.size)).get? b = some o := fun b o e => Heap.get?_push_of_some _ (Heap.get?_push_of_some _ e)
  have hget : ((hp.push (PySem.W.kdv_tup us)).push (PySem.HandSPX.excO C hp.objs.size)).get? (hp.objs.size + 1) = some (PySem.HandSPX.excO C hp.objs.size) := by heap_get
  have I2 : Inv X pins σ (upd H1 (hp.objs.size + 1) (exo (hp.objs.size + 1) C none)) ⟨(hp.push (PySem.W.kdv_tup us)).push (PySem.HandSPX.excO C hp.objs.size), g, dr, tk, os⟩ :=
    I1.laid (t' := tk) (a := hp.objs.size + 1) (o := exo (hp.objs.size + 1) C none) (h' := (hp.push (PySem.W.kdv_tup us)).push (PySem.HandSPX.excO C hp.objs.size)) kk hsz (exo_ok hget)
  refine wpAny_call (call_ownK O.F (fun Y => refsT_contains Y bm hbm) (I1.kIn _ _ hC) (PySem.W.looks_findIn I1.kIn iC) (fun self => PySem.W.bind_fn I1.kIn self tI) hus
    (codeAny_mono (F1.run _ X.stack _ _ ⟨Value.ref (hp.objs.size + 1) :: us, kw⟩ (args (hp.objs.size + 1)) _ _ (fun _ _ _ => False) (hr.make C us kw) (I2.env0.make C us kw) (hb _ _ I2.kIn) (r2 _) hq) fun r s' hq' => ?_))
  cases r with
  | error er => exact hx pins σ _ _ er s' I2 hq'
  | ok fl =>
    cases fl with
    | ret u =>
      obtain ⟨v, H', I3, rv, ev, q3⟩ := I2.after hq'
      subst ev
      exact ⟨rv, ⟨V.ref (hp.objs.size + 1), H', I3, rfl, q3⟩⟩
    | next => exact False.elim hq'
    | brk => exact False.elim hq'
    | cont => exact False.elim hq'
theorem pe_exV {CX : CXT} {x : Str} {C fI : Addr} {k : Nat} {fd : FuncData} {ps : List Str} {sp : Sp} (O : b.Ok) (T : OexB X.K C b) (iC : PySem.W.findIn X.K (.ref C) "__init__" = some (some (.ref fI))) (tI : PySem.W.typeIn X.K (.ref fI) = some (.type "function"))
    (F1 : FnOk X.prog X.w X.K X.mg X.base CX k fI fd ps sp) (hr : Room (k + 1) X.A) (hb : Binds X.K fd ps []) (hx : Passes CX X (fun _ _ _ => False)) (hg : Gl X x) (hm : X.mg x = some (.ref C)) (ha : PA X (e :: es) ta)
    (hdb : (x == ("__debug__" : Str)) = false := by decide) (he : starEach (e :: es) X.env = (false, eval e X.env) :: starEach es X.env := by rfl) (hpl : (backTo pos (starEach es X.env)).any (·.1) = false := by rfl) :
    PE X (.Call (.Name x p) (e :: es) [] pos) (tExV C sp ta) := by
  refine ⟨fun pins s σ H Q I h => ?_⟩
  refine wpAny_Call_Name_kw (ld_glob I hg hm ?_ hdb)
  refine PySem.W.callWith_K (h₀ := X.base) I.ok.mod.kin T.kC (thn (ha.run pos pins s σ H _ I h) fun us s1 ⟨vs, H1, I1, r1, hz, q1⟩ => ⟨I1.kIn, ?_⟩) he hpl
  show wpAny _ _ (call (.ref C) us) _ _ _
  have hus : us.length ≤ sizeLine := by
    rw [← Paired.length r1, sizeLine_eq]
    omega
  have hl : ∀ a, (Value.ref a :: us).length = ps.length := fun a => by
    have q := q1 s1.heap.objs.size (I1.hok.fresh (Nat.le_refl _))
    have e1 := F1.len _ _ _ _ q
    have e2 := Paired.length r1
    rw [List.length_cons] at e1 ⊢
    rw [← e2]
    exact e1
  refine run_exV (args := fun a => .ref a :: us) (vals := fun a => .ref a :: vs) O T iC tI F1 hr hx I1 hus (fun a s hK => ?_) (fun a => .cons rfl r1) q1
  have z := hb s (.ref a :: us) hK (by rw [List.append_nil]; exact hl a)
  rw [List.append_nil] at z
  exact z
theorem pe_exV0 {CX : CXT} {x : Str} {C fI : Addr} {k : Nat} {fd : FuncData} {ps : List Str} {sp : Sp} (O : b.Ok) (T : OexB X.K C b) (iC : PySem.W.findIn X.K (.ref C) "__init__" = some (some (.ref fI))) (tI : PySem.W.typeIn X.K (.ref fI) = some (.type "function"))
    (F1 : FnOk X.prog X.w X.K X.mg X.base CX k fI fd ps sp) (hr : Room (k + 1) X.A) (hb : Binds X.K fd ps []) (hx : Passes CX X (fun _ _ _ => False)) (hg : Gl X x) (hm : X.mg x = some (.ref C))
    (hdb : (x == ("__debug__" : Str)) = false := by decide) : PE X (.Call (.Name x p) [] [] pos) (tExV C sp tNil) := by
  refine ⟨fun pins s σ H Q I h => ?_⟩
  refine wpAny_Call_Name_kw (ld_glob I hg hm ?_ hdb)
  refine PySem.W.callWith_K0 I.kIn T.kC ?_
  obtain ⟨_, q1⟩ := (show ([] : List V).length ≤ 1000 ∧ ∀ a, H a = none → sp (.ref a :: []) (upd H a (exo a C none)) (fun v H2 => v = .non ∧ Q (.ref a) H2) (fun _ _ _ => False) from h)
  have hl : ∀ a, [Value.ref a].length = ps.length := fun a => by
    have q := q1 s.heap.objs.size (I.hok.fresh (Nat.le_refl _))
    have e := F1.len _ _ _ _ q
    exact e
  refine run_exV (us := []) (kw := []) (args := fun a => [.ref a]) (vals := fun a => [.ref a]) O T iC tI F1 hr hx I (Nat.zero_le _) (fun a s hK => ?_) (fun a => .cons rfl .nil) q1
  have z := hb s [.ref a] hK (by rw [List.append_nil]; exact hl a)
  rw [List.append_nil] at z
  exact z
theorem pe_exK {CX : CXT} {x : Str} {C fI : Addr} {k : Nat} {fd : FuncData} {ps ks : List Str} {sp : Sp} {kws : List Keyword} {g : List Value → List Value → List Value} {gV : List V → List V → List V} (O : b.Ok) (T : OexB X.K C b) (iC : PySem.W.findIn X.K (.ref C) "__init__" = some (some (.ref fI))) (tI : PySem.W.typeIn X.K (.ref fI) = some (.type "function"))
    (F1 : FnOk X.prog X.w X.K X.mg X.base CX k fI fd ps sp) (hr : Room (k + 1) X.A) (hb : KBn X.K fd ps 1 ks g gV) (hx : Passes CX X (fun _ _ _ => False)) (hg : Gl X x) (hm : X.mg x = some (.ref C)) (hkw : PK X kws tk)
    (hall : (backToKw pos (keywordEach kws X.env)).all (·.1.isSome) = true := by rfl) (hks : (backToKw pos (keywordEach kws X.env)).filterMap (·.1) = ks := by rfl) (hdb : (x == ("__debug__" : Str)) = false := by decide)
    (hpl : ((backTo pos (starEach [] X.env)).any (·.1) || (backToKw pos (keywordEach kws X.env)).any (·.1.isNone)) = false := by rfl) :
    PE X (.Call (.Name x p) [] kws pos) (tExK C ks.length sp gV tk) := by
  refine ⟨fun pins s σ H Q I h => ?_⟩
  refine wpAny_Call_Name_kw (ld_glob I hg hm ?_ hdb)
  refine PySem.W.callWith_KW0 (h₀ := X.base) I.ok.mod.kin T.kC hall ?_ hpl
  refine thn (hkw.run pos pins s σ H _ I h) fun ws s2 ⟨zs, H2, I2, rz, l2, q2⟩ => ⟨I2.kIn, ?_⟩
  rw [hks]
  exact run_exV (us := []) (kw := ks.zip ws) (args := fun a => g [.ref a] ws) (vals := fun a => gV [.ref a] zs) O T iC tI F1 hr hx I2 (Nat.zero_le _)
    (fun a s hK => hb.to s [.ref a] ws hK rfl (rz.length.symm.trans l2)) (fun a => hb.rel (.cons rfl .nil) rz) q2

/-- raise C(e, ..) -/
theorem pmk_oexB {CX : CXT} {x : Str} {C fI : Addr} {k : Nat} {fd : FuncData} {ps : List Str} {sp : Sp} {ds : List Value} {dvs : List V} (O : b.Ok) (T : OexB X.K C b) (iC : PySem.W.findIn X.K (.ref C) "__init__" = some (some (.ref fI))) (tI : PySem.W.typeIn X.K (.ref fI) = some (.type "function"))
    (F1 : FnOk X.prog X.w X.K X.mg X.base CX k fI fd ps sp) (hr : Room (k + 1) X.A) (hb : Binds X.K fd ps ds) (hd : Vals dvs ds) (hx : Passes CX X (fun _ _ _ => False)) (hg : Gl X x) (hm : X.mg x = some (.ref C)) (ha : PA X (e :: es) ta)
    (hdb : (x == ("__debug__" : Str)) = false := by decide) (he : starEach (e :: es) X.env = (false, eval e X.env) :: starEach es X.env := by rfl) (hpl : (backTo pos (starEach es X.env)).any (·.1) = false := by rfl) :
    PMk X (.Call (.Name x p) (e :: es) [] pos) (tMkO C sp dvs ta) := by
  intro pins s σ H Q I h
  obtain ⟨nm, q, N, bs, bm, sn, sub, ab, col, dd, k0, k1, k2, k3, k5, hC, hbm⟩ := T.cls
  refine wpAny_Call_Name_kw (ld_glob I hg hm ?_ hdb)
  refine PySem.W.callWith_K (h₀ := X.base) I.ok.mod.kin T.kC (thn (ha.run pos pins s σ H _ I h) fun us s1 ⟨vs, H1, I1, r1, hz, q1⟩ => ⟨I1.kIn, ?_⟩) he hpl
  show wpAny _ _ (call (.ref C) us) _ _ _
  obtain ⟨hp, g, dr, tk, os⟩ := s1
  have hsz : hp.objs.size ≤ hp.objs.size + 1 := Nat.le_succ _
  have hn : H1 (hp.objs.size + 1) = none := I1.hok.fresh hsz
  have hq := q1 (hp.objs.size + 1) hn
  have kk : ∀ b o, hp.get? b = some o → ((hp.push (PySem.W.kdv_tup us)).push (PySem.HandSPX.excO C hp.objs.size)).get? b = some o := fun b o e => Heap.get?_push_of_some _ (Heap.get?_push_of_some _ e)
  have hget : ((hp.push (PySem.W.kdv_tup us)).push (PySem.HandSPX.excO C hp.objs.size)).get? (hp.objs.size + 1) = some (PySem.HandSPX.excO C hp.objs.size) := by heap_get
  have I2 : Inv X pins σ (upd H1 (hp.objs.size + 1) (exo (hp.objs.size + 1) C none)) ⟨(hp.push (PySem.W.kdv_tup us)).push (PySem.HandSPX.excO C hp.objs.size), g, dr, tk, os⟩ :=
    I1.laid (t' := tk) (a := hp.objs.size + 1) (o := exo (hp.objs.size + 1) C none) (h' := (hp.push (PySem.W.kdv_tup us)).push (PySem.HandSPX.excO C hp.objs.size)) kk hsz (exo_ok hget)
  have r2 : Vals (V.ref (hp.objs.size + 1) :: (vs ++ dvs)) (Value.ref (hp.objs.size + 1) :: (us ++ ds)) := .cons rfl (r1.append hd)
  have hl : (Value.ref (hp.objs.size + 1) :: us ++ ds).length = ps.length := by
    have e := r2.length
    rw [F1.len _ _ _ _ hq] at e
    exact e.symm
  have hus : us.length ≤ sizeLine := by
    rw [← Paired.length r1, sizeLine_eq]
    omega
  refine wpAny_call (call_ownK O.F (fun Y => refsT_contains Y bm hbm) (I1.kIn _ _ hC) (PySem.W.looks_findIn I1.kIn iC) (fun self => PySem.W.bind_fn I1.kIn self tI) hus
    (codeAny_mono (F1.run _ X.stack _ _ ⟨Value.ref (hp.objs.size + 1) :: us, []⟩ (Value.ref (hp.objs.size + 1) :: (us ++ ds)) _ _ (fun _ _ _ => False) (hr.make C us []) (I2.env0.make C us []) (hb _ (Value.ref (hp.objs.size + 1) :: us) I2.kIn hl) r2 hq) fun r s' hq' => ?_))
  cases r with
  | error er => exact hx pins σ _ _ er s' I2 hq'
  | ok fl =>
    cases fl with
    | ret u =>
      obtain ⟨v, H2, os2, bare2, un2, hok2, rv, ev, d, fs, ea, ed, hd1, q2⟩ := hq'
      subst ev
      obtain ⟨h2, g2, d2, t2, os'⟩ := s'
      exact ⟨rv, mk_end (raises_own T.exC T.tyC) I1 hsz kk un2 hok2 os2 bare2 ea ed hd1 q2⟩
    | next => exact False.elim hq'
    | brk => exact False.elim hq'
    | cont => exact False.elim hq'
end
/-- at a stands an exception of the class at C, its dict at d -/
def isX (H : Hp) (a C : Addr) (d : Option Addr) : Prop := H a = some (exo a C d) ∨ H a = some (xo a (.ref C) d)
theorem isX_at {P : Program} {w : World} {H : Hp} {h : Heap} {a C : Addr} {d : Option Addr} (hok : HOk P w H h) (he : isX H a C d) : ∃ oe vs, h.get? a = some oe ∧ Zc (.ref C) d oe ∧ oe.data = .fields vs := by
  rcases he with he | he
  · obtain ⟨t1, e⟩ := exo_at hok he
    exact ⟨_, _, e, ⟨rfl, rfl⟩, rfl⟩
  · exact xo_at hok he
/-- err.f -/
def tXoB (K : PySem.W.Frag) (f : Str) (te : TE) : TE := fun σ H Q => te σ H fun x H1 => ∃ (a C dd : Addr) (fs : List (Str × V)) (v : V), x = .ref a ∧ isX H1 a C (some dd) ∧ XfC K C ∧ PySem.W.findIn K (.ref C) f = some none ∧ (H1 dd = some (.xd fs) ∨ H1 dd = some (exd dd fs)) ∧ fs.lookup f = some v ∧ Q v H1
section
variable {X : Cx}
theorem pe_xoB {e : Expr} {te : TE} {pos : Pos} {f : Str} (he : PE X e te) (hb : attributeBase e f X.env (eval e X.env) = eval e X.env := by rfl) : PE X (.Attribute e f pos) (tXoB X.K f te) := by
  refine ⟨fun pins s σ H Q I h => ?_⟩
  refine attr_of hb (thn (he.run pins s σ H _ I h) fun u s1 hh => ?_)
  obtain ⟨x, H1, I1, rx, a, C, dd, fs, v, ex, ea, T, hno, ed, l, q⟩ := hh
  subst ex
  obtain rfl : u = Value.ref a := rx
  obtain ⟨oe, vs, ha, hz, hd⟩ := isX_at I1.hok ea
  have hx : ∃ mA, s1.heap.Ns1 dd mA ∧ ∀ f, RelO (fs.lookup f) (mA f) := by
    rcases ed with ed | ed
    · exact I1.hok dd _ ed
    · exact exd_at I1.hok ed
  obtain ⟨mA, hns, hr⟩ := hx
  obtain ⟨od, ho, hl⟩ := lookIn_ns hns
  obtain ⟨u, hu, ru⟩ := RelO.some_of (v := v) (o := mA f) (by rw [← l]; exact hr f)
  have J : PySem.W.InstAt s1.heap a oe C (some od) := ⟨ha, hz.1, by unfold PySem.W.notCls; rw [hd] <;> rfl, by rw [hz.2]; exact ho⟩
  exact HandSPX.exc_get I1.kIn J T.ga T.gg T.exC (PySem.W.findObj_own T.hdC hno rfl (by rw [hl, hu])) (handed_of ru) ⟨v, H1, I1.tok _, ru, q⟩
end
end L2
namespace PySem.W
open PySem PySem.Spec PySem.Calls PyProof.Rows
section
variable {prog : Program} {w : World} {A : Around} {E : Value → Shared → Prop} {s : Shared} {K : Frag} {x D : Addr} {ox : Obj} {od : Option Obj}
theorem findObj_dataO {C : Addr} {name : Str} {a g : Value} (hc : (clsIn K C).isSome = true) (ha : findIn K (.ref C) name = some (some a)) (hg : specialIn K a "__get__" = some (some g)) (ht : takesIn K a = some true) : findObj K C od name = some (.bind g a) := by
  obtain ⟨cd, hc⟩ := Option.isSome_iff_exists.mp hc
  unfold findObj
  rw [hc, Option.bind_some, ha, Option.bind_some]
  simp [hg, ht]
theorem kin_classO {Q : Option Value → Shared → Prop} (hga : findIn K (.ref D) "__getattribute__" = some (some (.builtin "BaseException.__getattribute__"))) (hgt : findIn K (.ref D) "__getattr__" = some none) (hsub : subIn K (.ref D) (.type "BaseException") = some true)
    (hdct : hasDictIn K D = true) (ha : findIn K (.ref D) "__class__" = some (some (.builtin "object.__class__")))
    (hn : specialIn K (.builtin "object.__class__") "__get__" = some (some (.builtin "getset_descriptor.__get__"))) (htk : takesIn K (.builtin "object.__class__") = some true) (hm : mroIn K D (.type "object") = some true)
    (X : K.In s.heap) (I : InstAt s.heap x ox D od) (h : Q (some (.ref D)) { s with toks := s.toks + 1 }) : wpAny (model prog w) A (getAttr? (.ref x) "__class__") Q E s := by
  have hf : findObj K D od "__class__" = some (.bind (.builtin "getset_descriptor.__get__") (.builtin "object.__class__")) := findObj_dataO (by obtain ⟨cd, hc, _⟩ := any_some hdct; rw [hc]; rfl) ha hn htk
  obtain ⟨hp, g, d, t, os⟩ := s
  have L0 := I.type (M := model prog w)
  have L1 := looks_findIn (M := model prog w) X hga
  have L2 := looks_findIn (M := model prog w) X hgt
  have L3 := looks_find (M := model prog w) X I hf
  have sub : Looks (model prog w) hp (isInstance (.ref x) (.type "BaseException")) true := L0.andThen (looks_subIn X hsub)
  have hx0 : (false && onTheHeap (Value.builtin "BaseException.__getattribute__")) = false := rfl
  have hx2 : (Value.builtin "BaseException.__getattribute__" == Value.builtin "object.__getattribute__") = false := by decide +kernel
  have hx1 : (onTheHeap (Value.ref D) && Value.builtin "BaseException.__getattribute__" == Value.builtin "object.__getattribute__") = false := by rw [hx2]; rfl
  unfold getAttr? getAttrBy? getAttrBy
  refine wpAny_bind (wpAny_mkText (wpAny_bind (wpAny_attempt (wpAny_holding (wpAny_bind (L0.at (wpAny_bind (L1.at ?_))))))))
  show wpAny _ _ (if (onTheHeap (Value.ref D) && Value.builtin "BaseException.__getattribute__" == Value.builtin "object.__getattribute__") = true then _ else _) _ _ _
  rw [hx1, if_neg Bool.false_ne_true]
  unfold getAttrByItsOwn hookBefore
  refine wpAny_bind ?_
  rw [if_pos (show onTheHeap (Value.ref D) = true from rfl)]
  refine L2.at ?_
  refine wpAny_bind (wpAny_attempt (wpAny_holding ?_))
  unfold callGetattribute
  rw [hx0, if_neg Bool.false_ne_true]
  unfold boundAndCalled
  rw [PySem.F.excAttr_ValueError.ga.bind (.ref x)]
  refine wpAny_bind (wpAny_pure ?_)
  show wpAny _ _ (call (.builtin "BaseException.__getattribute__") [.ref x, .str "__class__" t]) _ _ _
  refine wpAny_call (codeAny_call_builtin PySem.F.excAttr_ValueError.ga.plain PySem.F.entry_bexc_ga ?_)
  refine @check_slot (model prog w) _ _ ⟨hp, g, d, t + 1, os⟩ "BaseException.__getattribute__" "BaseException" "__getattribute__" (.ref x) [.str "__class__" t] [] _ (by decide +kernel) (by decide +kernel) sub (PySem.F.args_bexc_ga (.ref x) (.str "__class__" t)) ?_
  unfold Builtin.«object.__getattribute__»
  refine wpAny_bind (wpAny_of_eq (a := ((Value.ref x : Value), [Value.str "__class__" t])) (by first | rfl | (simp only [slotArgs]; rfl)) ?_)
  refine wpAny_bind (wpAny_pure (wpAny_bind (L0.at (wpAny_bind (L3.at ?_)))))
  show wpAny _ _ (holding [Value.builtin "object.__class__"] (call (.builtin "getset_descriptor.__get__") [.builtin "object.__class__", .ref x, .ref D]) >>= ret) _ _ _
  refine wpAny_bind (wpAny_holding (wpAny_call (class_get (s := ⟨hp, g, d, t + 1, os⟩) (ox := ox) (od := od) X I hm ?_)))
  refine wpAny_pure ?_
  show wpAny _ _ (handedOut (.ref D)) _ _ _
  rw [handedOut_of (v := .ref D) rfl]
  first
    | exact wpAny_pure (wpAny_pure h)
    | exact wpAny_pure h
    | exact wpAny_pure (wpAny_bind (wpAny_pure (wpAny_pure h)))
theorem kitx_excO (hga : findIn K (.ref D) "__getattribute__" = some (some (.builtin "BaseException.__getattribute__"))) (hgt : findIn K (.ref D) "__getattr__" = some none) (hsub : subIn K (.ref D) (.type "BaseException") = some true) (hdct : hasDictIn K D = true) (ha : findIn K (.ref D) "__class__" = some (some (.builtin "object.__class__")))
    (hn : specialIn K (.builtin "object.__class__") "__get__" = some (some (.builtin "getset_descriptor.__get__"))) (htk : takesIn K (.builtin "object.__class__") = some true) (hm : mroIn K D (.type "object") = some true) :
    KitX K (.ref x) (.ref D) (fun h => ∃ ox od, InstAt h x ox D od) where
  ty := fun _ _ _ ⟨_, _, I⟩ => I.type
  it := fun _ _ X _ => by
    obtain ⟨cdD, hcD, _⟩ := any_some hdct
    unfold clsIn at hcD
    split at hcD
    · rename_i c' d' cd' sl' ho
      intro A' Q' E' s' k q
      unfold isType loadHead
      exact wpAny_bind (wpAny_loadPart (k _ _ (X _ _ ho)) (wpAny_pure q))
    · cases hcD
  ne := fun h tp dd its n sl X htp => by
    obtain ⟨cdD, hcD, _⟩ := any_some hdct
    refine Bool.eq_false_iff.mpr fun q => ?_
    have e : D = tp := Value.ref.inj (beq_iff_eq.mp q)
    subst e
    unfold clsIn at hcD
    split at hcD
    · rename_i c' d' cd' sl' ho
      have z := (X _ _ ho).symm.trans htp
      cases z
    · cases hcD
  ca := fun X ⟨ox, od, I⟩ k => kin_classO hga hgt hsub hdct ha hn htk hm X I k
end
end PySem.W
namespace L2
open PySem PySem.Spec PyProof.Rows PySem.OXB
/-- isinstance(e, c), e an exception that stands -/
def rIsX (K : PySem.W.Frag) : List V → Hp → VK → Prop := fun xs H Q => ∃ (a D : Addr) (d : Option Addr) (c : V) (cv : Value) (b : Bool), xs = [.ref a, c] ∧ isX H a D d ∧ (∀ dd, d = some dd → ∃ fs, H dd = some (.xd fs) ∨ H dd = some (exd dd fs)) ∧ ExcC K D ∧ (∀ u, RelV c u → u = cv) ∧ PySem.W.kitOne K (.ref D) cv = some b ∧ Q (.bl b) H
theorem call_isX {X : Cx} : CallR X (.builtin "isinstance") (rIsX X.K) := by
  intro pins s σ H xs us Q I r h
  obtain ⟨a, D, d, c, cv, b, rfl, ha, hdd, C, hcv, e, q⟩ := h
  cases r with
  | cons rx rr =>
    cases rr with
    | cons rt rr =>
      cases rr
      cases rx
      have ec := hcv _ rt
      subst ec
      obtain ⟨oe, vs, hget, hz, hv⟩ := isX_at I.hok ha
      have J : ∃ ox od, PySem.W.InstAt s.heap a ox D od := by
        cases d with
        | none => exact ⟨oe, none, hget, hz.1, by unfold PySem.W.notCls; rw [hv] <;> rfl, by rw [hz.2]; trivial⟩
        | some dd =>
          obtain ⟨fs, ed⟩ := hdd dd rfl
          have hx : ∃ mA, s.heap.Ns1 dd mA ∧ ∀ f, RelO (fs.lookup f) (mA f) := by
            rcases ed with ed | ed
            · exact I.hok dd _ ed
            · exact exd_at I.hok ed
          obtain ⟨mA, hns, _⟩ := hx
          obtain ⟨od, ho, _⟩ := lookIn_ns hns
          exact ⟨oe, some od, hget, hz.1, by unfold PySem.W.notCls; rw [hv] <;> rfl, by rw [hz.2]; exact ho⟩
      exact PySem.W.kia_one (PySem.W.kitx_excO C.hg C.hk C.hs C.hd C.ha C.hn C.ht C.hm) I.kIn J e (fun z => nomatch z) fun tk => ⟨.bl b, H, I.kept (t' := tk) fun _ _ z => z, rfl, q⟩
end L2
namespace L2
open PySem PySem.Spec PyProof.Rows NdefX ClX
abbrev supStmt (p0 p1 ap p2 p3 : Pos) (args : List Expr) : Stmt := .Expr (.Call (.Attribute (.Call (.Name "super" p0) [] [] p1) "__init__" ap) args [] p2) p3
/-- what is written of super() in a def of the class at D, whose code stands at cda, its cell of the class at cc -/
structure SupF (P : Program) (K : PySem.W.Frag) (mg : Str → Option Value) (D cc cda : Addr) : Prop where
  cell : ∃ ocl ocd csl, K.lookup cc = some ⟨ocl, ocd, .cell (some (.ref D)), csl⟩
  cls : ∃ cd, PySem.W.clsIn K D = some cd
  any : PySem.W.nsIn K PySem.cStatics "thirdparty.any" = some none
  code : ∃ (ccl : Value) (cdd : Option Addr) (vs : Array Value) (ccs : Array (Option Value)) (file : Str) (tf : Tok), K.lookup cda = some ⟨ccl, cdd, .fields vs, ccs⟩ ∧ vs[2]? = some (.str file tf) ∧ ((P.main.file : Str) == file) = true
  top : (P.main.scope.names.lookup ("super" : Str)).isSome = false
  mg : mg "super" = none
/-- an instance's class C: behind D the method is the def at f2 -/
structure SupC (K : PySem.W.Frag) (D C f2 : Addr) : Prop where
  sub : PySem.W.mroIn K C (.ref D) = some true
  at_ : PySem.W.ks_superIn K C D "__init__" = some (some (.ref f2))
  fn : PySem.W.typeIn K (.ref f2) = some (.type "function")
  fi : PySem.W.fnIn K f2 = true
theorem fn_sup {P : Program} {w : World} {K : PySem.W.Frag} {mg : Str → Option Value} {base : Heap} {k j : Nat} {f f2 D cc cda : Addr} {name qual : Str} {params : Arguments} {body : List Stmt} {scope : Scope} {dV kV doc pm ct oc : Value} {an od : Option Addr}
    {osl : Array (Option Value)} {N ps ps2 : List Str} {sp sp2 : Sp} {fd2 : FuncData} {p0 p1 ap p2 p3 : Pos} {a0 : Expr} {args : List Expr} {ar : Arg}
    (lk : K.lookup f = some ⟨oc, od, .func (PySem.W.ksFn name qual params (supStmt p0 p1 ap p2 p3 (a0 :: args) :: body) scope dV kV doc pm an (.ref cda) ct cc), osl⟩) (hcd : PySem.W.codeIn K (.ref cda) qual = true) (S : NScope N ps ["__class__"] scope)
    (har : (params.posonlyargs ++ params.args).head? = some ar) (h0 : ps[0]? = some ar.arg) (hsu : scope.names.lookup ("super" : Str) = some .globalImplicit) (SF : SupF P K mg D cc cda)
    (F2 : FnOk P w K mg base CX0 j f2 fd2 ps2 sp2) (hj : j ≤ k) (b2 : Binds K fd2 ps2 [])
    (len : ∀ vs H Q E, sp vs H Q E → vs.length = ps.length)
    (hbody : ∀ (A : Around) (outer : List Env) (s : Shared) (H : Hp) (vs : List V) (Q : VK) (E : XK), Room k (A.deeper (envF ⟨name, qual, params, supStmt p0 p1 ap p2 p3 (a0 :: args) :: body, scope, [("__class__", cc)], cda⟩ f s.heap.objs.size)) → sp vs H Q E →
      ∃ (ta : TA) (t : TS) (C x dx : Addr) (fs : List (Str × V)), PA (ncx CX0 P w K mg base N ⟨name, qual, params, supStmt p0 p1 ap p2 p3 (a0 :: args) :: body, scope, [("__class__", cc)], cda⟩ f A outer s H E) (a0 :: args) ta ∧
        PSs (ncx CX0 P w K mg base N ⟨name, qual, params, supStmt p0 p1 ap p2 p3 (a0 :: args) :: body, scope, [("__class__", cc)], cda⟩ f A outer s H E) body t ∧ vs[0]? = some (.ref x) ∧ H x = some (.ins C dx fs) ∧ SupC K D C f2 ∧
        ta (startF N vs [some (.ref D)]) H fun zs H1 => sp2 (.ref x :: zs) H1 (fun _ H2 => t { nx := fun _ H' => Q .non H', rt := Q } (startF N vs [some (.ref D)]) H2) E0)
    (hst : ∀ env, starEach (a0 :: args) env = (false, eval a0 env) :: starEach args env := by intro env; rfl) (hpl : ∀ env, (backTo p2 (starEach args env)).any (·.1) = false := by intro env; rfl)
    (he : ∀ env, ∃ pl : Sem Bool, eval (.Call (.Attribute (.Call (.Name "super" p0) [] [] p1) "__init__" ap) (a0 :: args) [] p2) env = (do
      let ov ← attributeBase (.Call (.Name "super" p0) [] [] p1) "__init__" env (eval (.Call (.Name "super" p0) [] [] p1) env)
      standAt ap.atName
      let (f, first) ← holding [ov] (getMethod ov "__init__" pl)
      callWith p2 f first (backTo p2 (starEach (a0 :: args) env)) []) := by intro env; exact ⟨_, rfl⟩)
    (hsw : ∀ env, swapsWith (.Call (.Attribute (.Call (.Name "super" p0) [] [] p1) "__init__" ap) (a0 :: args) [] p2) none p3.line env = pure false := by intro env; rfl) :
    FnOk P w K mg base CX0 (k + 1) f (PySem.W.ksFn name qual params (supStmt p0 p1 ap p2 p3 (a0 :: args) :: body) scope dV kV doc pm an (.ref cda) ct cc) ps sp := by
  refine ⟨len, fun A outer s H args' us vs Q E hr e0 hb r hsp => ?_⟩
  have hl := len _ _ _ _ hsp
  have KX : K.In s.heap := e0.mod.kin.keeps fun b o e => (e0.bs b o e).1
  have lim : s.heap.NoLimit := e0.mod.nolimit.keeps fun b o e => (e0.bs b o e).1
  obtain ⟨ocl, ocd, csl, hcell⟩ := SF.cell
  obtain ⟨cdD, hD⟩ := SF.cls
  obtain ⟨ccl, cdd, vsC, ccs, file, tf, hcode, hvs, hfile⟩ := SF.code
  have hbase : K.In base := e0.mod.kin
  have CA : CellsAt [(("__class__" : Str), cc)] ["__class__"] [some (V.ref D)] s.heap H := by
    refine ⟨rfl, fun y c e => ?_, fun x y c e1 e2 => ?_, fun i y e => ?_⟩
    · simp only [List.lookup] at e
      split at e
      · cases e
        exact ⟨(e0.bs _ _ (hbase _ _ hcell)).2, _, _, KX _ _ hcell, rfl⟩
      · cases e
    · simp only [List.lookup] at e1 e2
      split at e1
      · rename_i q1
        split at e2
        · rename_i q2
          rw [eq_of_beq q1, eq_of_beq q2]
        · cases e2
      · cases e1
    · cases i with
      | zero =>
        cases e
        refine ⟨cc, rfl, fun v hv => ?_⟩
        cases hv
        exact ⟨.ref D, rfl, _, KX _ _ hcell, rfl⟩
      | succ i => simp at e
  refine PySem.ks_codeAny_call_defAt hr.depth (KX _ _ lk) rfl lim (PySem.W.codeRec_of KX hcd) rfl hb S.nocell (fun ⟨n, _⟩ hy => S.par n (List.of_mem_zip hy).1) (fun h₁ hns kp => ?_) S.co S.gen S.kind
  obtain ⟨ta, t, C, x, dx, fs, hta, ht, hx0, hxH, SC, hgo⟩ := hbody A outer s H vs Q E (hr.deeper _) hsp
  have I : Inv (ncx CX0 P w K mg base N ⟨name, qual, params, supStmt p0 p1 ap p2 p3 (a0 :: args) :: body, scope, [("__class__", cc)], cda⟩ f A outer s H E) [] (startF N vs [some (.ref D)]) H { s with heap := h₁, toks := s.toks + (ps.zip us).length } := inv_startN S hr.hd e0 hl r CA hns kp
  have J := ins_get I.hok hxH
  obtain ⟨mA, O, _⟩ := J
  obtain ⟨oX, J, _⟩ := O.look
  have hps : ps.Nodup := by
    have q := S.nd.sublist (List.take_sublist (ps.length + 1) N)
    rw [show ps.length + 1 = ps.length + (["__class__"] : List Str).length from rfl, S.pre] at q
    exact (List.nodup_append.mp q).1
  have hux : us[0]? = some (.ref x) := by
    obtain ⟨u, hu, rv⟩ := r.get hx0
    rw [hu, show u = Value.ref x from rv]
  have hself : (ps.zip us).reverse.lookup ar.arg = some (.ref x) := zip_look hps h0 hux
  have hkself : scope.names.lookup ar.arg = some .local := S.par _ (List.mem_of_getElem? h0)
  have hkcls : scope.names.lookup ("__class__" : Str) = some .free := S.frk _ (by simp)
  have KI : K.In h₁ := I.kIn
  obtain ⟨oD, hD1, hD2⟩ : ∃ oD, h₁.get? D = some oD ∧ oD.data = .cls cdD := by
    unfold PySem.W.clsIn at hD
    split at hD
    · rename_i c d cd' sl ho
      cases hD
      exact ⟨_, KI _ _ ho, rfl⟩
    · cases hD
  obtain ⟨pl, he⟩ := he (envF ⟨name, qual, params, supStmt p0 p1 ap p2 p3 (a0 :: args) :: body, scope, [("__class__", cc)], cda⟩ f s.heap.objs.size)
  refine PySem.ks_wpAt_execs_cons (PySem.ks_wpAt_Expr_any (PySem.ks_wpAt_MethodCall (pl := pl) ?_ he) I.quiet (hsw _))
  refine PySem.ks_wpAt_super_base (cc := cda) hsu hkcls (by decide) rfl (KI _ _ lk) rfl har rfl (KI _ _ hcode) rfl hvs hfile SF.top ?_
  obtain ⟨mb, m1, m2⟩ := I.mod.blt
  refine PySem.W.ks_loadName_global S.kind hsu (Calls.loadGlobal_builtin (by exact I.mod.glob.keeps I.bk) SF.mg (by exact m1.keeps I.bk) ((m2 "super" (by decide)).trans (by decide +kernel)) ⟨rfl, ?_⟩)
  refine wpAny_loadName_free S.kind hkcls rfl ⟨_, KI _ _ hcell, rfl⟩ ?_
  refine wpAny_loadName_local S.kind hkself hns hself ?_
  refine PySem.ks_wpAny_isType_cls hD1 hD2 ⟨rfl, ?_⟩
  refine PySem.ks_wpAny_call_super hD1 hD2 J.at_ J.cls (fun c e => ?_) (PySem.W.looks_mroIn KI SC.sub) (fun h' e1 k1 => ?_)
  · have := J.no
    unfold PySem.W.notCls at this
    rw [e] at this
    exact Bool.noConfusion this
  have I1 := I.kept (t' := s.toks + (ps.zip us).length) k1
  have KI1 : K.In h' := I1.kIn
  cases hc : PySem.W.clsIn K C with
  | none => have q := SC.at_; unfold PySem.W.ks_superIn at q; rw [hc] at q; cases q
  | some cd =>
  have hm := SC.at_
  unfold PySem.W.ks_superIn at hm
  rw [hc] at hm
  obtain ⟨of, hof, hofc⟩ : ∃ of, h'.get? f2 = some of ∧ of.cls = .type "function" := by
    have ht' : (K.lookup f2).map (·.cls) = some (.type "function") := SC.fn
    cases z : K.lookup f2 with
    | none => rw [z] at ht'; cases ht'
    | some of => rw [z] at ht'; exact ⟨of, KI1 _ _ z, Option.some.inj ht'⟩
  refine PySem.ks_wpAny_getMethod_super e1 (PySem.W.looks_opaque KI1 SF.any) (l₀ := cd.mro) ?_ rfl KI1 hm hof hofc (PySem.W.ks_ne KI J hc) (by decide) ?_
  · exact fun A Q E s k q => wpAny_bind ((PySem.W.looks_clsIn KI1 hc) A _ E s k (wpAny_pure q))
  have I2 := met_new (g := f2) (C := x) I1
  refine callwith_cm I2 (base_none I1 (Nat.le_refl _)) SC.fi (thn (hta.run p2 _ _ _ _ _ I2 hgo) fun us2 s2 hh => ?_) (hst _) (hpl _)
  obtain ⟨zs, H2, I3, r3, q3⟩ := hh
  refine ⟨⟨pin_at I3, I3.kIn⟩, ?_⟩
  have hl2 : ((Value.ref x :: us2) ++ []).length = ps2.length := by rw [List.append_nil, List.length_cons, ← r3.length]; exact F2.len _ _ _ _ q3
  have hb2 := b2 s2 (Value.ref x :: us2) I3.kIn hl2
  rw [List.append_nil] at hb2
  refine wpAny_call (PySem.W.method_call (pin_at I3) (codeAny_mono (F2.run _ _ s2 H2 ⟨.ref x :: us2, []⟩ (.ref x :: us2) (.ref x :: zs) _ E0 ((hr.deeper _).mono hj) I3.env0 hb2 (.cons rfl r3) q3) fun rr s' hq => ?_))
  cases rr with
  | error e => exact absurd hq (by intro z; exact z)
  | ok fl =>
    cases fl with
    | next => exact False.elim hq
    | brk => exact False.elim hq
    | cont => exact False.elim hq
    | ret u =>
      obtain ⟨v, H4, I4, rv, q4⟩ := I3.after hq
      have I5 : Inv (ncx CX0 P w K mg base N ⟨name, qual, params, supStmt p0 p1 ap p2 p3 (a0 :: args) :: body, scope, [("__class__", cc)], cda⟩ f A outer s H E) [] (startF N vs [some (.ref D)]) H4 s' := I4.pins_of fun p hp => absurd (show p ∈ ([] : List (Addr × Obj)) from hp) (by simp)
      refine wpAt_of_wpAny (wpAny_mono (ht.run [] s' (startF N vs [some (.ref D)]) H4 _ I5 q4) (fun fl s3 hs => ?_) fun e s3 hs => hs)
      have fin : ∀ {σ' : L2.St} {H' : Hp} {v : V} {u : Value}, Inv (ncx CX0 P w K mg base N ⟨name, qual, params, supStmt p0 p1 ap p2 p3 (a0 :: args) :: body, scope, [("__class__", cc)], cda⟩ f A outer s H E) [] σ' H' s3 → L2.RelV v u → Q v H' → CE outer P w H s Q u s3 :=
        fun {σ' H' v u} J rv q => ⟨v, H', J.os, J.bare, J.base, J.hok, rv, q⟩
      cases fl with
      | ret u =>
        obtain ⟨v, σ', H', J, rv, q⟩ := hs
        exact fin J rv q
      | next =>
        obtain ⟨σ', H', J, q⟩ := hs
        exact fin (v := V.non) (u := Value.none) J rfl q
      | brk =>
        obtain ⟨_, _, _, q⟩ := hs
        exact False.elim q
      | cont =>
        obtain ⟨_, _, _, q⟩ := hs
        exact False.elim q
/-- such a def, told by its text -/
structure FunS (P : Program) (K : PySem.W.Frag) (mg : Str → Option Value) (D : Addr) (x qual : Str) (st : Stmt) (f : Addr) (fd : FuncData) : Prop where
  ex : ∃ (oc : Value) (od : Option Addr) (kV doc pm : Value) (an : Option Addr) (cda cc : Addr) (ct : Value) (osl : Array (Option Value)),
    fd = PySem.W.ksFn x qual (defArgs st) (defBody st) (defScope st) .none kV doc pm an (.ref cda) ct cc ∧ K.lookup f = some ⟨oc, od, .func fd, osl⟩ ∧ PySem.W.codeIn K (.ref cda) qual = true ∧ SupF P K mg D cc cda
theorem FunS.ok {P : Program} {w : World} {K : PySem.W.Frag} {mg : Str → Option Value} {base : Heap} {k j : Nat} {f f2 D : Addr} {x qual : Str} {st : Stmt} {fd fd2 : FuncData} {N ps ps2 : List Str} {sp sp2 : Sp} {p0 p1 ap p2 p3 : Pos} {a0 : Expr} {args : List Expr} {ar : Arg} {body : List Stmt}
    (F : FunS P K mg D x qual st f fd) (hb : defBody st = supStmt p0 p1 ap p2 p3 (a0 :: args) :: body) (S : NScope N ps ["__class__"] (defScope st)) (har : ((defArgs st).posonlyargs ++ (defArgs st).args).head? = some ar) (h0 : ps[0]? = some ar.arg)
    (hsu : (defScope st).names.lookup ("super" : Str) = some .globalImplicit) (F2 : FnOk P w K mg base CX0 j f2 fd2 ps2 sp2) (hj : j ≤ k) (b2 : Binds K fd2 ps2 [])
    (len : ∀ vs H Q E, sp vs H Q E → vs.length = ps.length)
    (hbody : ∀ (FF : NF) (A : Around) (outer : List Env) (s : Shared) (H : Hp) (vs : List V) (Q : VK) (E : XK), FF.scope = defScope st → Room k (A.deeper (envF FF f s.heap.objs.size)) → sp vs H Q E →
      ∃ (ta : TA) (t : TS) (C x dx : Addr) (fs : List (Str × V)), PA (ncx CX0 P w K mg base N FF f A outer s H E) (a0 :: args) ta ∧
        PSs (ncx CX0 P w K mg base N FF f A outer s H E) body t ∧ vs[0]? = some (.ref x) ∧ H x = some (.ins C dx fs) ∧ SupC K D C f2 ∧
        ta (startF N vs [some (.ref D)]) H fun zs H1 => sp2 (.ref x :: zs) H1 (fun _ H2 => t { nx := fun _ H' => Q .non H', rt := Q } (startF N vs [some (.ref D)]) H2) E0)
    (hst : ∀ env, starEach (a0 :: args) env = (false, eval a0 env) :: starEach args env := by intro env; rfl) (hpl : ∀ env, (backTo p2 (starEach args env)).any (·.1) = false := by intro env; rfl)
    (he : ∀ env, ∃ pl : Sem Bool, eval (.Call (.Attribute (.Call (.Name "super" p0) [] [] p1) "__init__" ap) (a0 :: args) [] p2) env = (do
      let ov ← attributeBase (.Call (.Name "super" p0) [] [] p1) "__init__" env (eval (.Call (.Name "super" p0) [] [] p1) env)
      standAt ap.atName
      let (f, first) ← holding [ov] (getMethod ov "__init__" pl)
      callWith p2 f first (backTo p2 (starEach (a0 :: args) env)) []) := by intro env; exact ⟨_, rfl⟩)
    (hsw : ∀ env, swapsWith (.Call (.Attribute (.Call (.Name "super" p0) [] [] p1) "__init__" ap) (a0 :: args) [] p2) none p3.line env = pure false := by intro env; rfl) : FnOk P w K mg base CX0 (k + 1) f fd ps sp := by
  obtain ⟨oc, od, kV, doc, pm, an, cda, cc, ct, osl, rfl, lk, hcd, SF⟩ := F.ex
  rw [hb] at lk ⊢
  exact fn_sup lk hcd S har h0 hsu SF F2 hj b2 len (fun A outer s H vs Q E hr hsp => hbody _ A outer s H vs Q E rfl hr hsp) hst hpl he hsw
theorem FunS.binds {P : Program} {K : PySem.W.Frag} {mg : Str → Option Value} {f D : Addr} {x qual : Str} {st : Stmt} {fd : FuncData} {ps : List Str} (F : FunS P K mg D x qual st f fd)
    (h : ∀ (kV doc pm : Value) (an : Option Addr) (cdv ct : Value) (cc : Addr) (us : List Value), us.length = ps.length → bindArgs (PySem.W.ksFn x qual (defArgs st) (defBody st) (defScope st) .none kV doc pm an cdv ct cc) ⟨us, []⟩ = pure (ps.zip us)) : Binds K fd ps [] := by
  obtain ⟨oc, od, kV, doc, pm, an, cda, cc, ct, osl, rfl, lk, hcd, SF⟩ := F.ex
  exact .all (h kV doc pm an (.ref cda) ct cc)
end L2
namespace L2
open PySem PySem.Spec PyProof.Rows
/-- an own special method -/
structure OwnM (K : PySem.W.Frag) (C : Addr) (m : Str) (f : Addr) : Prop where
  at_ : PySem.W.findIn K (.ref C) m = some (some (.ref f))
  fn : PySem.W.isFn K (.ref f) = true
  fi : PySem.W.fnIn K f = true
section
variable {X : Cx} {CX : CXT} {k : Nat} {f C : Addr} {fd : FuncData} {ps : List Str} {sp : Sp} {E : St → XK} {Ec : XK}
/-- the callee runs, somewhere below the running body, with a wish at the slots -/
theorem run_fnAt {pins : List (Addr × Obj)} {σ : L2.St} {H : Hp} {s : Shared} {Q : VK} {us : List Value} {vs : List V} {A : Around} (F : FnOk X.prog X.w X.K X.mg X.base CX k f fd ps sp) (hr : Room k A) (hA : A.frames = X.A.frames) (hb : Binds X.K fd ps []) (hx : PassesAt CX X σ Ec)
    (I : Inv X pins σ H s) (r : Vals vs us) (h : sp vs H Q Ec) : codeAny (model X.prog X.w) A (.call (.ref f) ⟨us, []⟩) (fun r s' => match r with | .error e => X.xe e s' | .ok fl => match fl with | .ret u => EP X pins σ Q u s' | _ => False) s := by
  have e0 : L2.Env0 X.prog X.w X.K X.mg X.base A X.stack s H := by
    have e := I.env0
    exact ⟨by rw [hA]; exact e.frames, e.mod, e.bs, e.bsz, e.funs, e.frf, e.hok, e.bare⟩
  have hl : (us ++ []).length = ps.length := by rw [List.append_nil, ← r.length]; exact F.len _ _ _ _ h
  have hb' := hb s us I.kIn hl
  rw [List.append_nil] at hb'
  refine codeAny_mono (F.run A X.stack s H ⟨us, []⟩ us vs Q Ec hr e0 hb' r h) fun r s' hq => ?_
  cases r with
  | error e => exact hx pins H s e s' I hq
  | ok fl =>
    cases fl with
    | ret u => exact I.after hq
    | next => exact False.elim hq
    | brk => exact False.elim hq
    | cont => exact False.elim hq
theorem call_fnAt {pins : List (Addr × Obj)} {σ : L2.St} {H : Hp} {s : Shared} {Q : VK} {us : List Value} {vs : List V} {A : Around} (F : FnOk X.prog X.w X.K X.mg X.base CX k f fd ps sp) (hr : Room k A) (hA : A.frames = X.A.frames) (hb : Binds X.K fd ps []) (hx : PassesAt CX X σ Ec)
    (I : Inv X pins σ H s) (r : Vals vs us) (h : sp vs H Q Ec) : wpAny (model X.prog X.w) A (call (.ref f) us) (EP X pins σ Q) X.xe s :=
  wpAny_call (codeAny_mono (run_fnAt F hr hA hb hx I r h) fun r s' hq => by
    cases r with
    | error e => exact hq
    | ok fl => cases fl <;> first | exact hq | exact False.elim hq)
def tGetX (C : Addr) (sp : Sp) (E : St → XK) (ta tb : TE) : TE := fun σ H Q => ta σ H fun x H1 => tb σ H1 fun y H2 => ∃ (a dx : Addr) (fs : List (Str × V)), x = .ref a ∧ H2 a = some (.ins C dx fs) ∧ sp [.ref a, y] H2 Q (E σ)
theorem pe_getX {a b : Expr} {ta tb : TE} {pos : Pos} (ha : PE X a ta) (hb : PE X b tb) (hs : PySem.W.findIn X.K (.ref C) "__getitem__" = some (some (.ref f))) (hf : PySem.W.fnIn X.K f = true) (hfn : PySem.W.isFn X.K (.ref f) = true)
    (F : FnOk X.prog X.w X.K X.mg X.base CX k f fd ps sp) (hr : Room k X.A.in1) (hbd : Binds X.K fd ps []) (hx : ∀ σ, PassesAt CX X σ (E σ)) (hA : X.A.in1.frames = X.A.frames := by rfl)
    (hsl : ∀ (x : Addr) (i : Value), subscripted b true (.ref x) i = runValue (.builtin "lifetime.subscript" ⟨[.ref x, i], []⟩) := by intros; with_unfolding_all rfl) : PE X (.Subscript a b pos) (tGetX C sp E ta tb) := by
  refine ⟨fun pins s σ H Q I h => Subscript_ (binT ha hb I h fun v u s2 x y H2 I2 rx ry q => ?_)⟩
  obtain ⟨o, dx, fs, rfl, ho, q⟩ := q
  cases (show v = Value.ref o from rx)
  obtain ⟨mA, O, _⟩ := ins_get I2.hok ho
  obtain ⟨od, J, _⟩ := O.look
  obtain ⟨m, hF⟩ := I2.fr
  exact PySem.W.sub_K hF I2.ok.mod.kin J hs hf hfn (call_fnAt (vs := [.ref o, y]) F hr hA hbd (hx σ) I2 (.cons rfl (.cons ry .nil)) q) (hsl _ _)
/-- .. by values -/
def rGetO (C : Addr) (sp : Sp) (Ec : XK) : V → V → Hp → VK → Prop := fun x y H Q => ∃ (a dx : Addr) (fs : List (Str × V)), x = .ref a ∧ H a = some (.ins C dx fs) ∧ sp [.ref a, y] H Q Ec
theorem get_own (hq : PySem.W.noSeq X.K C = true) (hs : PySem.W.findIn X.K (.ref C) "__getitem__" = some (some (.ref f))) (hfn : PySem.W.isFn X.K (.ref f) = true)
    (F : FnOk X.prog X.w X.K X.mg X.base CX k f fd ps sp) (hr : Room k X.A) (hbd : Binds X.K fd ps []) (hx : ∀ σ, PassesAt CX X σ Ec) : PGet X (rGetO C sp Ec) := by
  intro pins s σ H x y v u Q I rx ry h
  obtain ⟨o, dx, fs, rfl, ho, q⟩ := h
  cases (show v = Value.ref o from rx)
  obtain ⟨mA, O, _⟩ := ins_get I.hok ho
  obtain ⟨od, J, _⟩ := O.look
  obtain ⟨m, hF⟩ := I.fr
  exact PySem.W.getItem_K hF I.ok.mod.kin J hq hs hfn (call_fnAt (vs := [.ref o, y]) F hr rfl hbd (hx σ) I (.cons rfl (.cons ry .nil)) q)
theorem set_run {pins : List (Addr × Obj)} {σ : L2.St} {H : Hp} {s : Shared} {Q : Hp → Prop} {o dx : Addr} {fs : List (Str × V)} {y z : V} {iv u : Value} (hq : PySem.W.noSeq X.K C = true) (hs : PySem.W.findIn X.K (.ref C) "__setitem__" = some (some (.ref f))) (hfn : PySem.W.isFn X.K (.ref f) = true)
    (F : FnOk X.prog X.w X.K X.mg X.base CX k f fd ps sp) (hr : Room k X.A) (hbd : Binds X.K fd ps []) (hx : PassesAt CX X σ Ec) (I : Inv X pins σ H s) (ho : H o = some (.ins C dx fs)) (ry : RelV y iv) (rz : RelV z u) (q : sp [.ref o, y, z] H (fun _ H' => Q H') Ec) :
    wpAny (model X.prog X.w) X.A (setItem (.ref o) iv u) (fun _ s' => ∃ H', Inv X pins σ H' s' ∧ Q H') X.xe s := by
  obtain ⟨mA, O, _⟩ := ins_get I.hok ho
  obtain ⟨od, J, _⟩ := O.look
  obtain ⟨m, hF⟩ := I.fr
  refine PySem.W.ksp_setItem hF I.ok.mod.kin J hq hs hfn (wpAny_mono (call_fnAt (vs := [.ref o, y, z]) F hr rfl hbd hx I (.cons rfl (.cons ry (.cons rz .nil))) q) (fun r s' hq => ?_) fun _ _ e => e)
  obtain ⟨v, H', I', rv, q⟩ := hq
  exact ⟨H', I', q⟩
def rSetO (C : Addr) (sp : Sp) (Ec : XK) : TSet := fun x y z H Q => ∃ (a dx : Addr) (fs : List (Str × V)), x = .ref a ∧ H a = some (.ins C dx fs) ∧ sp [.ref a, y, z] H (fun _ H' => Q H') Ec
theorem set_own (hq : PySem.W.noSeq X.K C = true) (hs : PySem.W.findIn X.K (.ref C) "__setitem__" = some (some (.ref f))) (hfn : PySem.W.isFn X.K (.ref f) = true)
    (F : FnOk X.prog X.w X.K X.mg X.base CX k f fd ps sp) (hr : Room k X.A) (hbd : Binds X.K fd ps []) (hx : ∀ σ, PassesAt CX X σ Ec) : PSet X (rSetO C sp Ec) := by
  intro pins s σ H x y z v iv u Q I rx ry rz h
  obtain ⟨o, dx, fs, rfl, ho, q⟩ := h
  cases (show v = Value.ref o from rx)
  exact set_run hq hs hfn F hr hbd (hx σ) I ho ry rz q
def gSetX (C : Addr) (sp : Sp) (E : St → XK) (to ti : TE) : TG := fun v σ H Q => to σ H fun o H1 => ti σ H1 fun i H2 => ∃ (a dx : Addr) (fs : List (Str × V)), o = .ref a ∧ H2 a = some (.ins C dx fs) ∧ sp [.ref a, i, v] H2 (fun _ H' => Q σ H') (E σ)
theorem pg_setX {o i : Expr} {to ti : TE} {pos : Pos} (ho : PE X o to) (hi : PE X i ti) (hq : PySem.W.noSeq X.K C = true) (hs : PySem.W.findIn X.K (.ref C) "__setitem__" = some (some (.ref f))) (hfn : PySem.W.isFn X.K (.ref f) = true)
    (F : FnOk X.prog X.w X.K X.mg X.base CX k f fd ps sp) (hr : Room k X.A) (hbd : Binds X.K fd ps []) (hx : ∀ σ, PassesAt CX X σ (E σ))
    (ha : ∀ v, assign (.Subscript o i pos) X.env v = (do
      let ov ← holding [v] (eval o X.env)
      let iv ← holding [v, ov] (eval i X.env)
      standAt pos
      holding [v, ov, iv] (setItem ov iv v)
      release [v, ov, iv] []) := by intro _; rfl) : PG X (.Subscript o i pos) (gSetX C sp E to ti) := by
  refine ⟨fun pins s σ H v u Q I r h => ?_⟩
  rw [ha]
  refine wpAny_bind (wpAny_holding (thn (ho.run pins s σ H _ I h) fun ov s1 ⟨x, H1, I1, r1, q1⟩ => ?_))
  refine wpAny_bind (wpAny_holding (thn (hi.run pins s1 σ H1 _ I1 q1) fun iv s2 ⟨y, H2, I2, r2, q2⟩ => ?_))
  obtain ⟨o', dx, fs, rfl, ho', q⟩ := q2
  cases (show ov = Value.ref o' from r1)
  refine wpAny_bind (wpAny_standAt (wpAny_bind (wpAny_holding (thn (set_run (Q := fun H' => Q σ H') hq hs hfn F hr hbd (hx σ) I2 ho' r2 r q) fun _ s3 ⟨H3, I3, q3⟩ => ?_))))
  exact wpAny_release ⟨σ, H3, I3, q3⟩
def rIpO (C : Addr) (sp : Sp) (Ec : XK) : TIp := fun x y H Q => ∃ (a dx : Addr) (fs : List (Str × V)), x = .ref a ∧ H a = some (.ins C dx fs) ∧ sp [.ref a, y] H Q Ec
theorem cmp_back {pins : List (Addr × Obj)} {σ : L2.St} {Q : VK} {u : Value} {s' : Shared} (h : EP X pins σ Q u s') : PySem.W.CmpBack (EP X pins σ Q) u s' := by
  have h2 := h
  obtain ⟨v, H', I, r, q⟩ := h2
  cases u with
  | notImplemented =>
    exfalso
    cases v with
    | int i => obtain ⟨_, z⟩ := (show ∃ t, Value.notImplemented = Value.int i t from r); cases z
    | str i => obtain ⟨_, z⟩ := (show ∃ t, Value.notImplemented = Value.str i t from r); cases z
    | byt i => obtain ⟨_, z⟩ := (show ∃ t, Value.notImplemented = Value.bytes i t from r); cases z
    | flt i => obtain ⟨_, z⟩ := (show ∃ t, Value.notImplemented = Value.float i t from r); cases z
    | _ => cases r
  | _ => exact h
theorem ip_own {op : Operator} (hc : PySem.W.selfFirst X.K C = true) (hs : PySem.W.findIn X.K (.ref C) (dunderI op.info.2) = some (some (.ref f))) (hfn : PySem.W.isFn X.K (.ref f) = true)
    (F : FnOk X.prog X.w X.K X.mg X.base CX k f fd ps sp) (hr : Room k X.A) (hbd : Binds X.K fd ps []) (hx : ∀ σ, PassesAt CX X σ Ec) : PIp X op (rIpO C sp Ec) := by
  intro pins s σ H x y v u Q I rx ry h
  obtain ⟨o, dx, fs, rfl, ho, q⟩ := h
  cases (show v = Value.ref o from rx)
  obtain ⟨mA, O, _⟩ := ins_get I.hok ho
  obtain ⟨od, J, _⟩ := O.look
  obtain ⟨m, hF⟩ := I.fr
  exact PySem.W.ksp_inplace hF I.ok.mod.kin J hc hs hfn (wpAny_mono (call_fnAt (vs := [.ref o, y]) F hr rfl hbd (hx σ) I (.cons rfl (.cons ry .nil)) q) (fun r s' hq => cmp_back hq) fun _ _ e => e)
theorem ins_plain {P : Program} {w : World} {H : Hp} {h : Heap} {a C dx : Addr} {fs : List (Str × V)} (hok : HOk P w H h) (e : H a = some (.ins C dx fs)) : ∃ ox od, PySem.W.InstAt h a ox C od ∧ ox.data = .plain := by
  obtain ⟨mA, O, _⟩ := ins_get hok e
  obtain ⟨od, J, _⟩ := O.look
  exact ⟨_, _, J, rfl⟩
def tCallO (C : Addr) (sp : Sp) (E : St → XK) (te : TE) (t : TA) : TE := fun σ H Q => te σ H fun x H1 => ∃ (a dx : Addr) (fs : List (Str × V)), x = .ref a ∧ H1 a = some (.ins C dx fs) ∧ t σ H1 fun vs H2 => H2 a = some (.ins C dx fs) ∧ sp (.ref a :: vs) H2 Q (E σ)
/-- the callee of a call that is no attribute -/
def Callee (X : Cx) (e : Expr) (args : List Expr) (pos : Pos) : Prop := ∀ {Q : Value → Shared → Prop} {E : Value → Shared → Prop} {s : Shared}, wpAny (model X.prog X.w) X.A (eval e X.env) (fun f s₁ => wpAny (model X.prog X.w) X.A (callWith pos f [] (backTo pos (starEach args X.env)) []) Q E s₁) E s →
  wpAny (model X.prog X.w) X.A (eval (.Call e args [] pos) X.env) Q E s
theorem callee_name {x : Str} {p pos : Pos} {args : List Expr} : Callee X (.Name x p) args pos := fun h => wpAny_Call_Name_kw h
theorem pe_callO0 {e : Expr} {pos : Pos} {te : TE} (hc : Callee X e [] pos) (he : PE X e te) (hs : PySem.W.findIn X.K (.ref C) "__call__" = some (some (.ref f))) (hfn : PySem.W.isFn X.K (.ref f) = true) (hf : PySem.W.fnIn X.K f = true)
    (F : FnOk X.prog X.w X.K X.mg X.base CX k f fd ps sp) (hr : Room k X.A) (hbd : Binds X.K fd ps []) (hx : ∀ σ, PassesAt CX X σ (E σ)) : PE X (.Call e [] [] pos) (tCallO C sp E te tNil) := by
  refine ⟨fun pins s σ H Q I h => hc (thn (he.run pins s σ H _ I h) fun u s1 ⟨x, H1, I1, rx, q⟩ => ?_)⟩
  obtain ⟨o, dx, fs, rfl, ho, _, q⟩ := q
  cases (show u = Value.ref o from rx)
  obtain ⟨ox, od, J, hp⟩ := ins_plain I1.hok ho
  refine PySem.W.kco_callWith0 I1.kIn J hp hs ?_
  exact wpAny_call (codeAny_mono (PySem.W.kco_code I1.kIn J hp hs hfn hf (run_fnAt (vs := [.ref o]) F hr rfl hbd (hx σ) I1 (.cons rfl .nil) q)) fun r s' hq => by
    cases r with
    | error e => exact hq
    | ok fl => cases fl <;> first | exact hq | exact False.elim hq)
end
end L2
set_option maxHeartbeats 1000000
namespace Tr
open PySem PySem.Spec PyProof.Rows L2
def tkG (K : PySem.W.Frag) (x : Str) : Tok := match PySem.W.nsIn K mainGlobals x with
  | some (some (.int _ t)) => t
  | some (some (.str _ t)) => t
  | _ => 0
def tkC (K : PySem.W.Frag) (C : Addr) (x : Str) : Tok := match PySem.W.findIn K (.ref C) x with
  | some (some (.int _ t)) => t
  | some (some (.str _ t)) => t
  | _ => 0
/-- where a thing stands: a global's name, a class and its method; the def of a classmethod -/
def pl (p : Str × Option Str) (K : PySem.W.Frag) : Addr := He.fAd K p
def plc (C m : Str) (K : PySem.W.Frag) : Addr := He5.wf K (He.ga K C) "classmethod" m
def fdG (K : PySem.W.Frag) (p : Addr) : FuncData := match K.lookup p with
  | some ⟨_, _, .func fd, _⟩ => fd
  | _ => default
inductive Fx where
  | fa (f : He.Fa)
  | tup (x : Str) (vs : List Str)
  | noats (C : Str) (fs : List Str)
  | con (C f : Str) (i : Int)
  | cread (C : Str)
  | cinit (C : Str) (id : String)
  | cval (C f : Str) (i : Int)
  | oex (C : Str)
  | xf (C : Str)
  | init (C : Str)
  | oexb (C : Str) (b : PySem.OXB.XB)
  | excc (C : Str)
  | cinitT (T id : String)
  | kits (ns : List Str)
  | kitc (ns : List Str) (C : Str) (n : Nat)
  | kitt (ns : List Str) (T : String) (n : Nat) (ge : Bool)
  | kit (C D : Str) (b : Bool)
  | cm (C m : Str)
  | ins (C : Str)
  | kitn (C : Str) (Ts : List String)
  | own (C m : Str)
  | sf (C : Str)
  | nsq (C : Str)
  | propof (C f : Str)
  | supc (D C B : Str)
  | kit1 (C : Str) (T : String) (b : Bool)
/-- a property's getter -/
def plp (C f : Str) (K : PySem.W.Frag) : Addr := match PySem.W.recIn K (He.ma K (He.ga K C) f) "property" with
  | some (.ref g :: _) => g
  | _ => 0
def propB (K : PySem.W.Frag) (C f : Str) : Bool := match PySem.W.recIn K (He.ma K (He.ga K C) f) "property" with
  | some (.ref _ :: _) => true
  | _ => false
def oexbB (K : PySem.W.Frag) (C : Addr) (b : PySem.OXB.XB) : Bool := (match K.lookup C with
  | some ⟨.type t, _, .cls cd, sl⟩ => (match cd.mro, sl.toList with
    | .ref C' :: bm, [_, _, _, _, some (.builtin n), _] => decide (t = "type") && (decide (C' = C) && (decide (n = b.newId) && (!cd.hasDel && (cd.hasDict && PySem.OXB.refsT b.bm bm))))
    | _, _ => false)
  | _ => false) && (He.eqO (PySem.W.findIn K (.ref C) "__setattr__") (some (some (.builtin "object.__setattr__"))) && (decide (PySem.W.subIn K (.ref C) (.type "BaseException") = some true) && (decide (PySem.W.typeIn K (.ref C) = some (.type "type")) && PySem.W.keepIn K (.ref C))))
def exccB (K : PySem.W.Frag) (C : Addr) : Bool := He.eqO (PySem.W.findIn K (.ref C) "__getattribute__") (some (some (.builtin "BaseException.__getattribute__"))) && (He.eqO (PySem.W.findIn K (.ref C) "__getattr__") (some none) && (decide (PySem.W.subIn K (.ref C) (.type "BaseException") = some true) && (PySem.W.hasDictIn K C &&
  (He.eqO (PySem.W.findIn K (.ref C) "__class__") (some (some (.builtin "object.__class__"))) && (He.eqO (PySem.W.specialIn K (.builtin "object.__class__") "__get__") (some (some (.builtin "getset_descriptor.__get__"))) && (decide (PySem.W.takesIn K (.builtin "object.__class__") = some true) && decide (PySem.W.mroIn K C (.type "object") = some true)))))))
def cinitTB (K : PySem.W.Frag) (T id : String) : Bool := match PySem.W.findCls K (.type T) (.type "type") "__init__" with
  | some (.val (.builtin s)) => decide (s = id)
  | _ => false
def oexB (K : PySem.W.Frag) (C : Addr) : Bool := (match K.lookup C with
  | some ⟨.type t, _, .cls cd, sl⟩ => (match cd.mro, sl.toList with
    | .ref C' :: bm, [_, _, _, _, some (.builtin n), _] => decide (t = "type") && (decide (C' = C) && (decide (n = "ValueError.__new__") && (!cd.hasDel && (cd.hasDict && PySem.HandSPX.refsVE bm))))
    | _, _ => false)
  | _ => false) && (He.eqO (PySem.W.findIn K (.ref C) "__setattr__") (some (some (.builtin "object.__setattr__"))) && (decide (PySem.W.subIn K (.ref C) (.type "BaseException") = some true) && (decide (PySem.W.typeIn K (.ref C) = some (.type "type")) && PySem.W.keepIn K (.ref C))))
def conB (K : PySem.W.Frag) (C : Addr) (f : Str) (i : Int) : Bool := match PySem.W.findIn K (.ref C) f with
  | some (some (.int j t)) => decide (j = i) && (He.eqO (PySem.W.specialIn K (.int j t) "__get__") (some none) && !(PySem.W.copiedNames.contains f))
  | _ => false
def tkV (K : PySem.W.Frag) (C : Addr) (x : Str) : Tok := match PySem.W.findCls K (.ref C) (.type "type") x with
  | some (.val (.int _ t)) => t
  | _ => 0
def cvalB (K : PySem.W.Frag) (C : Addr) (f : Str) (i : Int) : Bool := match PySem.W.findCls K (.ref C) (.type "type") f with
  | some (.val (.int j _)) => decide (j = i)
  | _ => false
def cinitB (K : PySem.W.Frag) (C : Addr) (id : String) : Bool := match PySem.W.findCls K (.ref C) (.type "type") "__init__" with
  | some (.val (.builtin s)) => decide (s = id)
  | _ => false
def Fx.ok (K : PySem.W.Frag) : Fx → Bool
  | .fa f => f.ok K
  | .tup x vs => He.tupB K x (vs.map He.Dv.str) && He.eqO (PySem.W.nsIn K mainGlobals x) (some (some (.ref (He.ga K x))))
  | .noats C fs => fs.all fun f => He.eqO (PySem.W.findIn K (.ref (He.ga K C)) f) (some none)
  | .con C f i => conB K (He.ga K C) f i
  | .cread C => PySem.W.readsIn K (He.ga K C) (.type "type") && He.eqO (PySem.W.specialIn K (.ref (He.ga K C)) "__getattribute__") (some (some (.builtin "type.__getattribute__")))
  | .cinit C id => cinitB K (He.ga K C) id
  | .cval C f i => cvalB K (He.ga K C) f i
  | .oex C => oexB K (He.ga K C)
  | .xf C => L2.xfB K (He.ga K C)
  | .init C => He.eqO (PySem.W.findIn K (.ref (He.ga K C)) "__init__") (some (some (.ref (He.ma K (He.ga K C) "__init__")))) && decide (PySem.W.typeIn K (.ref (He.ma K (He.ga K C) "__init__")) = some (.type "function"))
  | .oexb C b => oexbB K (He.ga K C) b
  | .excc C => exccB K (He.ga K C)
  | .cinitT T id => cinitTB K T id
  | .kits ns => (List.range ns.length).all fun i => (List.range ns.length).all fun j => decide (PySem.W.kitOne K (.ref (He.ga K (ns.getD i ""))) (.ref (He.ga K (ns.getD j ""))) = some (decide (i = j)))
  | .kitc ns C n => (List.range ns.length).all fun i => decide (PySem.W.kitOne K (.ref (He.ga K (ns.getD i ""))) (.ref (He.ga K C)) = some (decide (i < n)))
  | .kitt ns T n ge => (List.range ns.length).all fun i => decide (PySem.W.kitOne K (.ref (He.ga K (ns.getD i ""))) (.type T) = some (if ge then decide (n ≤ i) else decide (i < n)))
  | .kit C D b => decide (PySem.W.kitOne K (.ref (He.ga K C)) (.ref (He.ga K D)) = some b)
  | .ins C => He.eqO (PySem.W.findIn K (.ref (He.ga K C)) "__class__") (some (some (.builtin "object.__class__"))) && (He.eqO (PySem.W.specialIn K (.builtin "object.__class__") "__get__") (some (some (.builtin "getset_descriptor.__get__"))) && (decide (PySem.W.takesIn K (.builtin "object.__class__") = some true) && decide (PySem.W.mroIn K (He.ga K C) (.type "object") = some true)))
  | .own C m => He.eqO (PySem.W.findIn K (.ref (He.ga K C)) m) (some (some (.ref (He.ma K (He.ga K C) m)))) && (PySem.W.isFn K (.ref (He.ma K (He.ga K C) m)) && PySem.W.fnIn K (He.ma K (He.ga K C) m))
  | .sf C => PySem.W.selfFirst K (He.ga K C)
  | .nsq C => PySem.W.noSeq K (He.ga K C)
  | .propof C f => He.eqO (PySem.W.findIn K (.ref (He.ga K C)) f) (some (some (.ref (He.ma K (He.ga K C) f)))) && (He.eqO (PySem.W.specialIn K (.ref (He.ma K (He.ga K C) f)) "__get__") (some (some (.builtin "property.__get__"))) && (decide (PySem.W.takesIn K (.ref (He.ma K (He.ga K C) f)) = some true) && propB K C f))
  | .supc D C B => decide (PySem.W.mroIn K (He.ga K C) (.ref (He.ga K D)) = some true) && (He.eqO (PySem.W.ks_superIn K (He.ga K C) (He.ga K D) "__init__") (some (some (.ref (He.ma K (He.ga K B) "__init__")))) && (decide (PySem.W.typeIn K (.ref (He.ma K (He.ga K B) "__init__")) = some (.type "function")) && PySem.W.fnIn K (He.ma K (He.ga K B) "__init__")))
  | .kit1 C T b => decide (PySem.W.kitOne K (.ref (He.ga K C)) (.type T) = some b)
  | .kitn C Ts => Ts.all fun T => decide (PySem.W.kitOne K (.type T) (.ref (He.ga K C)) = some false) && PySem.W.notFirst K (He.ga K C) (.type T)
  | .cm C m => He5.wrapB K (He.ga K C) "classmethod" "classmethod.__get__" m && PySem.W.fnIn K (He5.wf K (He.ga K C) "classmethod" m)
section
variable {K : PySem.W.Frag} {h : Heap} {mg : Str → Option Value}
theorem fx_int (X : K.In h) (G : h.Ns mainGlobals mg) {x : Str} {i : Int} (c : (Fx.fa (.int x i)).ok K = true) : mg x = some (.int i (tkG K x)) := by
  have c2 : (match PySem.W.nsIn K mainGlobals x with
    | some (some (.int j _)) => decide (j = i)
    | _ => false) = true := c
  unfold tkG
  split at c2
  · rename_i j t e
    have ej : j = i := of_decide_eq_true c2
    subst ej
    rw [e]
    exact PySem.W.mg_of X G e
  · cases c2
theorem fx_str (X : K.In h) (G : h.Ns mainGlobals mg) {x z : Str} (c : (Fx.fa (.str x z)).ok K = true) : mg x = some (.str z (tkG K x)) := by
  have c2 : (match PySem.W.nsIn K mainGlobals x with
    | some (some (.str y _)) => decide (y = z)
    | _ => false) = true := c
  unfold tkG
  split at c2
  · rename_i j t e
    have ej : j = z := of_decide_eq_true c2
    subst ej
    rw [e]
    exact PySem.W.mg_of X G e
  · cases c2
theorem fx_glo (X : K.In h) (G : h.Ns mainGlobals mg) {x : Str} (c : (Fx.fa (.glo x)).ok K = true) : mg x = some (.ref (He.ga K x)) := He.glo_ok X G c
theorem fx_free (X : K.In h) (G : h.Ns mainGlobals mg) {x : Str} (c : (Fx.fa (.free x)).ok K = true) : mg x = none := He.free_ok X G c
theorem fx_cls {x : Str} (c : (Fx.fa (.cls x)).ok K = true) : Cls K (He.ga K x) := He.cls_ok c
theorem fx_meth {x m : Str} (c : (Fx.fa (.meth x m)).ok K = true) : Meth K (He.ga K x) m (He.ma K (He.ga K x) m) := He.meth_ok c
theorem fx_mkr {x : Str} (c : (Fx.fa (.mkr x)).ok K = true) : Mk K (He.ga K x) (He.ma K (He.ga K x) "__init__") := He.mkr_ok c
theorem fx_exm {x y : Str} {b : Bool} (c : (Fx.fa (.exm x y b)).ok K = true) : PySem.W.exmOne K (.ref (He.ga K x)) (.ref (He.ga K y)) = some b := He.exm_ok c
theorem fx_tup {x : Str} {vs : List Str} (c : (Fx.tup x vs).ok K = true) (H : Hp) : SqT K H (He.ga K x) (vs.map V.str) := by
  have c1 := (He.ba c).1
  have e := He.tupB_ok c1 H
  rw [List.map_map] at e
  exact e
theorem fx_tupG (X : K.In h) (G : h.Ns mainGlobals mg) {x : Str} {vs : List Str} (c : (Fx.tup x vs).ok K = true) : mg x = some (.ref (He.ga K x)) := PySem.W.mg_of X G (He.eqO_ok (He.ba c).2)
theorem fx_noats {C : Str} {fs : List Str} (c : (Fx.noats C fs).ok K = true) (f : Str) (hf : f ∈ fs) : PySem.W.findIn K (.ref (He.ga K C)) f = some none := He.eqO_ok (List.all_eq_true.mp c f hf)
theorem fx_cval {C f : Str} {i : Int} (c : (Fx.cval C f i).ok K = true) : ClX.CVal K (He.ga K C) (.type "type") f (.int i) (.int i (tkV K (He.ga K C) f)) := by
  have c2 : cvalB K (He.ga K C) f i = true := c
  unfold cvalB at c2
  unfold tkV
  split at c2
  · rename_i j t e
    have ej : j = i := of_decide_eq_true c2
    subst ej
    exact ⟨e, ⟨t, rfl⟩⟩
  · cases c2
theorem fx_con {C f : Str} {i : Int} (c : (Fx.con C f i).ok K = true) : Con K (He.ga K C) f (.int i) (.int i (tkC K (He.ga K C) f)) := by
  have c2 : conB K (He.ga K C) f i = true := c
  unfold conB at c2
  unfold tkC
  split at c2
  · rename_i j t e
    obtain ⟨h1, h2⟩ := He.ba c2
    obtain ⟨h3, h4⟩ := He.ba h2
    have ej : j = i := of_decide_eq_true h1
    subst ej
    rw [e]
    exact ⟨e, ⟨t, rfl⟩, He.eqO_ok h3, by simpa using h4⟩
  · cases c2
theorem fx_cread {C : Str} (c : (Fx.cread C).ok K = true) : ClX.CRead K (He.ga K C) (.type "type") := ⟨(He.ba c).1, He.eqO_ok (He.ba c).2⟩
theorem fx_cinit {C : Str} {id : String} (c : (Fx.cinit C id).ok K = true) : PySem.W.findCls K (.ref (He.ga K C)) (.type "type") "__init__" = some (.val (.builtin id)) := by
  have c2 : cinitB K (He.ga K C) id = true := c
  unfold cinitB at c2
  split at c2
  · rename_i s e
    have es : s = id := of_decide_eq_true c2
    subst es
    exact e
  · cases c2
theorem fx_oex {C : Str} (c : (Fx.oex C).ok K = true) : OexC K (He.ga K C) := by
  have c2 : oexB K (He.ga K C) = true := c
  unfold oexB at c2
  obtain ⟨h1, h2⟩ := He.ba c2
  obtain ⟨h3, h4⟩ := He.ba h2
  obtain ⟨h5, h6⟩ := He.ba h4
  obtain ⟨h7, h8⟩ := He.ba h6
  refine ⟨?_, He.eqO_ok h3, of_decide_eq_true h5, of_decide_eq_true h7, h8⟩
  split at h1
  · rename_i t dd cd sl ho
    split at h1
    · rename_i C' bm k0 k1 k2 k3 n k5 hm hs
      obtain ⟨g1, g⟩ := He.ba h1
      obtain ⟨g2, g⟩ := He.ba g
      obtain ⟨g3, g⟩ := He.ba g
      obtain ⟨g4, g⟩ := He.ba g
      obtain ⟨g5, g6⟩ := He.ba g
      have e1 : t = "type" := of_decide_eq_true g1
      have e2 : C' = He.ga K C := of_decide_eq_true g2
      have e3 : n = "ValueError.__new__" := of_decide_eq_true g3
      have e4 : cd.hasDel = false := by simpa using g4
      subst e1 e2 e3
      obtain ⟨nm, bs, mro, ns, qn, hd, sn, sub, ab, col, del⟩ := cd
      have hm' : mro = .ref (He.ga K C) :: bm := hm
      have e4' : del = false := e4
      have e5 : hd = true := g5
      subst hm' e4' e5
      have hsl : sl = #[k0, k1, k2, k3, some (.builtin "ValueError.__new__"), k5] := by
        cases sl with
        | mk l =>
          have hl : l = [k0, k1, k2, k3, some (.builtin "ValueError.__new__"), k5] := hs
          rw [hl]
      subst hsl
      exact ⟨nm, qn, ns, bs, bm, sn, sub, ab, col, dd, k0, k1, k2, k3, k5, ho, g6⟩
    · cases h1
  · cases h1
theorem fx_oexb {C : Str} {b : PySem.OXB.XB} (c : (Fx.oexb C b).ok K = true) : OexB K (He.ga K C) b := by
  have c2 : oexbB K (He.ga K C) b = true := c
  unfold oexbB at c2
  obtain ⟨h1, h2⟩ := He.ba c2
  obtain ⟨h3, h4⟩ := He.ba h2
  obtain ⟨h5, h6⟩ := He.ba h4
  obtain ⟨h7, h8⟩ := He.ba h6
  refine ⟨?_, He.eqO_ok h3, of_decide_eq_true h5, of_decide_eq_true h7, h8⟩
  split at h1
  · rename_i t dd cd sl ho
    split at h1
    · rename_i C' bm k0 k1 k2 k3 n k5 hm hs
      obtain ⟨g1, g⟩ := He.ba h1
      obtain ⟨g2, g⟩ := He.ba g
      obtain ⟨g3, g⟩ := He.ba g
      obtain ⟨g4, g⟩ := He.ba g
      obtain ⟨g5, g6⟩ := He.ba g
      have e1 : t = "type" := of_decide_eq_true g1
      have e2 : C' = He.ga K C := of_decide_eq_true g2
      have e3 : n = b.newId := of_decide_eq_true g3
      have e4 : cd.hasDel = false := by simpa using g4
      subst e1 e2 e3
      obtain ⟨nm, bs, mro, ns, qn, hd, sn, sub, ab, col, del⟩ := cd
      have hm' : mro = .ref (He.ga K C) :: bm := hm
      have e4' : del = false := e4
      have e5 : hd = true := g5
      subst hm' e4' e5
      have hsl : sl = #[k0, k1, k2, k3, some (.builtin b.newId), k5] := by
        cases sl with
        | mk l =>
          have hl : l = [k0, k1, k2, k3, some (.builtin b.newId), k5] := hs
          rw [hl]
      subst hsl
      exact ⟨nm, qn, ns, bs, bm, sn, sub, ab, col, dd, k0, k1, k2, k3, k5, ho, g6⟩
    · cases h1
  · cases h1
theorem fx_excc {C : Str} (c : (Fx.excc C).ok K = true) : ExcC K (He.ga K C) := by
  have c2 : exccB K (He.ga K C) = true := c
  unfold exccB at c2
  obtain ⟨h1, c2⟩ := He.ba c2
  obtain ⟨h2, c2⟩ := He.ba c2
  obtain ⟨h3, c2⟩ := He.ba c2
  obtain ⟨h4, c2⟩ := He.ba c2
  obtain ⟨h5, c2⟩ := He.ba c2
  obtain ⟨h6, c2⟩ := He.ba c2
  obtain ⟨h7, h8⟩ := He.ba c2
  exact ⟨He.eqO_ok h1, He.eqO_ok h2, of_decide_eq_true h3, h4, He.eqO_ok h5, He.eqO_ok h6, of_decide_eq_true h7, of_decide_eq_true h8⟩
theorem fx_cinitT {T id : String} (c : (Fx.cinitT T id).ok K = true) : PySem.W.findCls K (.type T) (.type "type") "__init__" = some (.val (.builtin id)) := by
  have c2 : cinitTB K T id = true := c
  unfold cinitTB at c2
  split at c2
  · rename_i s e
    have es : s = id := of_decide_eq_true c2
    subst es
    exact e
  · cases c2
theorem fx_kits {ns : List Str} (c : (Fx.kits ns).ok K = true) (i : Nat) (hi : i < ns.length) (j : Nat) (hj : j < ns.length) : PySem.W.kitOne K (.ref (He.ga K (ns.getD i ""))) (.ref (He.ga K (ns.getD j ""))) = some (decide (i = j)) :=
  of_decide_eq_true (List.all_eq_true.mp (List.all_eq_true.mp c i (List.mem_range.mpr hi)) j (List.mem_range.mpr hj))
theorem fx_kitc {ns : List Str} {C : Str} {n : Nat} (c : (Fx.kitc ns C n).ok K = true) (i : Nat) (hi : i < ns.length) : PySem.W.kitOne K (.ref (He.ga K (ns.getD i ""))) (.ref (He.ga K C)) = some (decide (i < n)) :=
  of_decide_eq_true (List.all_eq_true.mp c i (List.mem_range.mpr hi))
theorem fx_kitt {ns : List Str} {T : String} {n : Nat} {ge : Bool} (c : (Fx.kitt ns T n ge).ok K = true) (i : Nat) (hi : i < ns.length) : PySem.W.kitOne K (.ref (He.ga K (ns.getD i ""))) (.type T) = some (if ge then decide (n ≤ i) else decide (i < n)) :=
  of_decide_eq_true (List.all_eq_true.mp c i (List.mem_range.mpr hi))
theorem fx_kit {C D : Str} {b : Bool} (c : (Fx.kit C D b).ok K = true) : PySem.W.kitOne K (.ref (He.ga K C)) (.ref (He.ga K D)) = some b := of_decide_eq_true c
theorem fx_cm {C m : Str} (c : (Fx.cm C m).ok K = true) : ClX.CMet K (He.ga K C) (.type "type") m (He.ma K (He.ga K C) m) (He5.wf K (He.ga K C) "classmethod" m) := He5.cmet_of (He.ba c).1 (He.ba c).2
theorem fx_ins1 {C : Str} (c : (Fx.ins C).ok K = true) : PySem.W.findIn K (.ref (He.ga K C)) "__class__" = some (some (.builtin "object.__class__")) := He.eqO_ok (He.ba c).1
theorem fx_ins2 {C : Str} (c : (Fx.ins C).ok K = true) : PySem.W.specialIn K (.builtin "object.__class__") "__get__" = some (some (.builtin "getset_descriptor.__get__")) := He.eqO_ok (He.ba (He.ba c).2).1
theorem fx_ins3 {C : Str} (c : (Fx.ins C).ok K = true) : PySem.W.takesIn K (.builtin "object.__class__") = some true := of_decide_eq_true (He.ba (He.ba (He.ba c).2).2).1
theorem fx_ins4 {C : Str} (c : (Fx.ins C).ok K = true) : PySem.W.mroIn K (He.ga K C) (.type "object") = some true := of_decide_eq_true (He.ba (He.ba (He.ba c).2).2).2
theorem fx_kitn {C : Str} {Ts : List String} (c : (Fx.kitn C Ts).ok K = true) (T : String) (hT : T ∈ Ts) : PySem.W.kitOne K (.type T) (.ref (He.ga K C)) = some false := of_decide_eq_true (He.ba (List.all_eq_true.mp c T hT)).1
theorem fx_notf {C : Str} {Ts : List String} (c : (Fx.kitn C Ts).ok K = true) (T : String) (hT : T ∈ Ts) : PySem.W.notFirst K (He.ga K C) (.type T) = true := (He.ba (List.all_eq_true.mp c T hT)).2
theorem fx_own {C m : Str} (c : (Fx.own C m).ok K = true) : OwnM K (He.ga K C) m (He.ma K (He.ga K C) m) := ⟨He.eqO_ok (He.ba c).1, (He.ba (He.ba c).2).1, (He.ba (He.ba c).2).2⟩
theorem fx_sf {C : Str} (c : (Fx.sf C).ok K = true) : PySem.W.selfFirst K (He.ga K C) = true := c
theorem fx_nsq {C : Str} (c : (Fx.nsq C).ok K = true) : PySem.W.noSeq K (He.ga K C) = true := c
theorem fx_propof {C f : Str} (c : (Fx.propof C f).ok K = true) : PropOf K (He.ga K C) f (He.ma K (He.ga K C) f) (plp C f K) := by
  obtain ⟨h1, c⟩ := He.ba c
  obtain ⟨h2, c⟩ := He.ba c
  obtain ⟨h3, h4⟩ := He.ba c
  refine ⟨He.eqO_ok h1, He.eqO_ok h2, of_decide_eq_true h3, ?_⟩
  unfold propB at h4
  unfold plp
  split at h4
  · rename_i g r e
    rw [e]
    exact ⟨r, rfl⟩
  · cases h4
theorem fx_supc {D C B : Str} (c : (Fx.supc D C B).ok K = true) : SupC K (He.ga K D) (He.ga K C) (He.ma K (He.ga K B) "__init__") := by
  obtain ⟨h1, c⟩ := He.ba c
  obtain ⟨h2, c⟩ := He.ba c
  obtain ⟨h3, h4⟩ := He.ba c
  exact ⟨of_decide_eq_true h1, He.eqO_ok h2, of_decide_eq_true h3, h4⟩
theorem fx_kit1 {C : Str} {T : String} {b : Bool} (c : (Fx.kit1 C T b).ok K = true) : PySem.W.kitOne K (.ref (He.ga K C)) (.type T) = some b := of_decide_eq_true c
theorem fx_xf {C : Str} (c : (Fx.xf C).ok K = true) : XfC K (He.ga K C) := xfB_ok c
theorem fx_init1 {C : Str} (c : (Fx.init C).ok K = true) : PySem.W.findIn K (.ref (He.ga K C)) "__init__" = some (some (.ref (He.ma K (He.ga K C) "__init__"))) := He.eqO_ok (He.ba c).1
theorem fx_init2 {C : Str} (c : (Fx.init C).ok K = true) : PySem.W.typeIn K (.ref (He.ma K (He.ga K C) "__init__")) = some (.type "function") := of_decide_eq_true (He.ba c).2
end
structure DefB where
  d : He5.DefA
  c : Option (Str × Str) := none
def fnS (K : PySem.W.Frag) (a : Addr) : He.FnW := match K.lookup a with
  | some ⟨_, _, .func fd, _⟩ => some (fd.name, fd.qualname, fd.params, fd.body, fd.scope, fd.globals, [], fd.builtins)
  | _ => none
def cellB (K : PySem.W.Frag) (cc D : Addr) : Bool := match K.lookup cc with
  | some ⟨_, _, .cell (some (.ref D')), _⟩ => decide (D' = D)
  | _ => false
def fileB (K : PySem.W.Frag) (cda : Addr) (file : Str) : Bool := match K.lookup cda with
  | some ⟨_, _, .fields vs, _⟩ => (match (vs[2]? : Option Value) with
    | some (Value.str f _) => decide (f = file)
    | _ => false)
  | _ => false
def clos (fd : FuncData) (K : PySem.W.Frag) (D : Addr) (qual file : Str) : Bool := match fd.closure, fd.code, fd.defaults with
  | [(x, cc)], .ref cda, .none => decide (x = "__class__") && (PySem.W.codeIn K (.ref cda) qual && (cellB K cc D && ((PySem.W.clsIn K D).isSome && (He.eqO (PySem.W.nsIn K PySem.cStatics "thirdparty.any") (some none) && fileB K cda file))))
  | _, _, _ => false
def supB (K : PySem.W.Frag) (f D : Addr) (qual file : Str) : Bool := match K.lookup f with
  | some ⟨_, _, .func fd, _⟩ => clos fd K D qual file
  | _ => false
def DefB.fn (K : PySem.W.Frag) (e : DefB) : He.FnW := match e.c with
  | none => He5.fnA K (e.d.at_ K)
  | some _ => fnS K (e.d.at_ K)
def DefB.ok (K : PySem.W.Frag) (e : DefB) : Bool := match e.c with
  | none => e.d.ok K
  | some (C, file) => supB K (e.d.at_ K) (He.ga K C) e.d.qual file
abbrev AlB : Type := Bool × List He.FnW
def obsB (fx : List Fx) (fn : List DefB) (K : PySem.W.Frag) : AlB := ((fx.all fun f => f.ok K) && fn.all fun d => d.ok K, fn.map fun d => d.fn K)
def valB (fn : List DefB) : AlB := (true, fn.map fun e => e.d.val)
def obsBG (n : Nat) (fx : List Fx) (fn : List DefB) (g : Addr → Option Obj) : AlB := obsB fx fn (He.frG g (cStatics :: He.asD g n))
def hookB (n : Nat) (fx : List Fx) (fn : List DefB) : PySem.W.Hook where
  α := AlB
  obs := fun s => obsBG n fx fn s.heap.get?
  val := fun _ => valB fn
  says := fun _ h => ∃ K : PySem.W.Frag, K.In h ∧ obsB fx fn K = valB fn
  of := fun _ _ e => ⟨_, He.frG_in, e⟩
  keeps := fun _ _ _ ⟨K, hK, c⟩ k => ⟨K, PySem.W.Frag.In.keeps hK k, c⟩
theorem obsBG_eq {n : Nat} {fx : List Fx} {fn : List DefB} {g : Addr → Option Obj} {s : Shared} (h : ∀ a, g a = s.heap.get? a) : obsBG n fx fn g = (hookB n fx fn).obs s := by
  have e : g = s.heap.get? := funext h
  rw [e]
  rfl
section
variable {fx : List Fx} {fn : List DefB} {K : PySem.W.Frag}
theorem says_fx (c : obsB fx fn K = valB fn) (i : Nat) {f : Fx} (hf : fx[i]? = some f) : f.ok K = true := by
  have c1 := (He.ba (show ((fx.all fun f => f.ok K) && fn.all fun d => d.ok K) = true from congrArg Prod.fst c)).1
  exact List.all_eq_true.mp c1 f (List.mem_of_getElem? hf)
theorem says_fn (c : obsB fx fn K = valB fn) (i : Nat) {d : DefB} (hd : fn[i]? = some d) : d.ok K = true ∧ d.fn K = d.d.val := by
  have c2 := (He.ba (show ((fx.all fun f => f.ok K) && fn.all fun d => d.ok K) = true from congrArg Prod.fst c)).2
  have e : fn.map (fun d => d.fn K) = fn.map (fun e => e.d.val) := congrArg Prod.snd c
  have e2 : (fn.map fun d => d.fn K)[i]? = (fn.map fun e => e.d.val)[i]? := by rw [e]
  rw [List.getElem?_map, List.getElem?_map, hd] at e2
  exact ⟨List.all_eq_true.mp c2 d (List.mem_of_getElem? hd), Option.some.inj e2⟩
/-- a def without defaults -/
def mkD (at_ : PySem.W.Frag → Addr) (x qual : Str) (st : Stmt) : DefB := ⟨⟨at_, x, qual, defArgs st, defBody st, defScope st, [], []⟩, none⟩
/-- a def of the class C whose body says super() -/
def mkS (at_ : PySem.W.Frag → Addr) (x qual : Str) (st : Stmt) (C file : Str) : DefB := ⟨⟨at_, x, qual, defArgs st, defBody st, defScope st, [], []⟩, some (C, file)⟩
theorem says_fun {x qual : Str} {st : Stmt} {p : PySem.W.Frag → Addr} (c : obsB fx fn K = valB fn) (i : Nat) (hd : fn[i]? = some (mkD p x qual st)) : Fun K x qual st (p K) (fdG K (p K)) := by
  obtain ⟨h1, h2⟩ := says_fn c i hd
  obtain ⟨fd, F⟩ := He5.DefA.funD h2 h1
  obtain ⟨oc, od, dV, kV, doc, pm, an, cdv, ct, osl, e1, e2, e3, e4, e5⟩ := F.ex
  have e0 : dV = .none := by
    rcases e4 with ⟨q1, q2⟩ | ⟨q1, _⟩
    · first | exact q1 | exact q2
    · exact absurd rfl q1
  subst e0
  have ef : fdG K (p K) = fd := by
    unfold fdG
    have e2' : K.lookup (p K) = some ⟨oc, od, .func fd, osl⟩ := e2
    rw [e2']
  rw [ef]
  exact ⟨⟨oc, od, kV, doc, pm, an, cdv, ct, osl, e1, e2, e3⟩, F.kp⟩
theorem says_funS {P : Program} {mg : Str → Option Value} {x qual C file : Str} {st : Stmt} {p : PySem.W.Frag → Addr} (c : obsB fx fn K = valB fn) (hP : P.main.file = file) (hT : (P.main.scope.names.lookup ("super" : Str)).isSome = false) (hm : mg "super" = none) (i : Nat) (hd : fn[i]? = some (mkS p x qual st C file)) : FunS P K mg (He.ga K C) x qual st (p K) (fdG K (p K)) := by
  obtain ⟨h1, h2⟩ := says_fn c i hd
  have g1 : supB K (p K) (He.ga K C) qual file = true := h1
  have g2 : fnS K (p K) = some (x, qual, defArgs st, .stmts (defBody st), defScope st, mainGlobals, [], builtinsNs) := h2
  unfold supB at g1
  unfold fnS at g2
  cases q : K.lookup (p K) with
  | none => rw [q] at g1; cases g1
  | some o =>
    obtain ⟨oc, od, dt, osl⟩ := o
    rw [q] at g1 g2
    cases dt with
    | func fd =>
      obtain ⟨n1, n2, n3, n4, n5, n6, n7, n8, n9, n10, n11, n12, n13, n14, n15⟩ := fd
      have g2' : (some (n1, n2, n3, n4, n5, n6, [], n15) : He.FnW) = some (x, qual, defArgs st, .stmts (defBody st), defScope st, mainGlobals, [], builtinsNs) := g2
      simp only [Option.some.injEq, Prod.mk.injEq] at g2'
      obtain ⟨r1, r2, r3, r4, r5, r6, _, r8⟩ := g2'
      subst r1 r2 r3 r4 r5 r6 r8
      have g3 : clos _ K (He.ga K C) _ file = true := g1
      unfold clos at g3
      split at g3
      · rename_i y cc cda u1 u2 u3
        obtain ⟨k1, g3⟩ := He.ba g3
        obtain ⟨k2, g3⟩ := He.ba g3
        obtain ⟨k3, g3⟩ := He.ba g3
        obtain ⟨k4, g3⟩ := He.ba g3
        obtain ⟨k5, k6⟩ := He.ba g3
        have e1 : y = "__class__" := of_decide_eq_true k1
        have v1 : n7 = [(y, cc)] := u1
        have v2 : n13 = .ref cda := u2
        have v3 : n8 = .none := u3
        subst e1 v1 v2 v3
        have ef : ∀ fd : FuncData, K.lookup (p K) = some ⟨oc, od, .func fd, osl⟩ → fdG K (p K) = fd := fun fd e => by
          unfold fdG
          rw [e]
        rw [ef _ q]
        refine ⟨oc, od, n9, n10, n11, n12, cda, cc, n14, osl, rfl, q, k2, ⟨?_, Option.isSome_iff_exists.mp k4, He.eqO_ok k5, ?_, hT, hm⟩⟩
        · unfold cellB at k3
          split at k3
          · rename_i t1 t2 D' t3 e
            have e4 : D' = He.ga K C := of_decide_eq_true k3
            subst e4
            exact ⟨_, _, _, e⟩
          · cases k3
        · unfold fileB at k6
          split at k6
          · rename_i t1 t2 vs t3 e
            split at k6
            · rename_i f tf e6
              have e7 : f = file := of_decide_eq_true k6
              subst e7
              exact ⟨_, _, _, _, _, _, e, e6, by rw [hP]; simp⟩
            · cases k6
          · cases k6
      · cases g3
    | _ => cases g1
end
end Tr
set_option maxHeartbeats 0
namespace Tr
open PySem PySem.Spec PyProof.Rows L2
def top (i : Nat) : Stmt := PySem.Challenge.pw_trackedreads_k67_cells.main.body.getD i (.Pass ⟨0, 0, 0, 0⟩)
def fx9 : List Fx := [.fa (.free "len"),
  .fa (.free "iter"),
  .fa (.free "list"),
  .fa (.free "range"),
  .fa (.glo "Desk"),
  .fa (.glo "Cell"),
  .fa (.cls "Cell"),
  .fa (.cls "Desk"),
  .noats "Cell" ["desk", "name", "now"],
  .noats "Desk" ["used_names", "cells", "readable", "effects", "log", "frames", "batches", "moved"],
  .fa (.free "super"),
  .supc "Cell" "Cell" "Thing",
  .fa (.mkr "Cell"),
  .fa (.meth "Cell" "put"),
  .fa (.mkr "Desk"),
  .fa (.meth "Desk" "check_placed"),
  .fa (.meth "Desk" "note"),
  .fa (.meth "Desk" "use_name"),
  .own "Cell" "__call__",
  .own "Cell" "__iadd__",
  .sf "Cell",
  .propof "Cell" "value",
  .fa (.meth "Desk" "cell"),
  .fa (.meth "Desk" "settle"),
  .con "Desk" "MOST_RUNS" 100,
  .nsq "Desk",
  .own "Desk" "__getitem__",
  .own "Desk" "__setitem__",
  .own "Desk" "__contains__",
  .own "Desk" "__iter__",
  .own "Desk" "__len__",
  .fa (.glo "NoName"),
  .oex "NoName",
  .xf "NoName",
  .noats "NoName" ["name"],
  .init "NoName",
  .fa (.glo "TrackedError"),
  .cread "TrackedError",
  .cinit "TrackedError" "ValueError.__init__",
  .fa (.free "abs"),
  .fa (.free "int"),
  .fa (.glo "_law_bag"),
  .fa (.glo "_law_take"),
  .fa (.glo "_law_of"),
  .fa (.glo "_law_worth"),
  .fa (.free "max"),
  .fa (.free "min"),
  .fa (.free "zip"),
  .fa (.free "isinstance"),
  .fa (.free "bool"),
  .fa (.free "ValueError"),
  .fa (.glo "_law_names"),
  .fa (.glo "_law_is_int"),
  .fa (.glo "_law_shows"),
  .fa (.glo "_law_no_name"),
  .fa (.glo "_law_put"),
  .fa (.glo "_law_right"),
  .kit "Cell" "Cell" true,
  .ins "Cell",
  .excc "NoName",
  .kit "NoName" "TrackedError" true,
  .kit1 "NoName" "ValueError" true,
  .fa (.exm "NoName" "NoName" true),
  .fa (.glo "law")]
def fn9 : List DefB := [mkD (pl ("Thing", some "__init__")) "__init__" "Thing.__init__" (inClass (top 10) 0),
  mkS (pl ("Cell", some "__init__")) "__init__" "Cell.__init__" (inClass (top 11) 0) "Cell" PySem.Challenge.pw_trackedreads_k67_cells.main.file,
  mkD (pl ("Cell", some "__call__")) "__call__" "Cell.__call__" (inClass (top 11) 1),
  mkD (plp "Cell" "value") "value" "Cell.value" (inClass (top 11) 2),
  mkD (pl ("Cell", some "put")) "put" "Cell.put" (inClass (top 11) 4),
  mkD (pl ("Cell", some "__iadd__")) "__iadd__" "Cell.__iadd__" (inClass (top 11) 6),
  mkD (pl ("Desk", some "__init__")) "__init__" "Desk.__init__" (inClass (top 15) 1),
  mkD (pl ("Desk", some "check_placed")) "check_placed" "Desk.check_placed" (inClass (top 15) 2),
  mkD (pl ("Desk", some "note")) "note" "Desk.note" (inClass (top 15) 4),
  mkD (pl ("Desk", some "use_name")) "use_name" "Desk.use_name" (inClass (top 15) 5),
  mkD (pl ("Desk", some "cell")) "cell" "Desk.cell" (inClass (top 15) 6),
  mkD (pl ("Desk", some "settle")) "settle" "Desk.settle" (inClass (top 15) 9),
  mkD (pl ("Desk", some "__getitem__")) "__getitem__" "Desk.__getitem__" (inClass (top 15) 13),
  mkD (pl ("Desk", some "__setitem__")) "__setitem__" "Desk.__setitem__" (inClass (top 15) 14),
  mkD (pl ("Desk", some "__contains__")) "__contains__" "Desk.__contains__" (inClass (top 15) 15),
  mkD (pl ("Desk", some "__iter__")) "__iter__" "Desk.__iter__" (inClass (top 15) 16),
  mkD (pl ("Desk", some "__len__")) "__len__" "Desk.__len__" (inClass (top 15) 17),
  mkD (pl ("NoName", some "__init__")) "__init__" "NoName.__init__" (inClass (top 3) 0),
  mkD (pl ("_law_bag", none)) "_law_bag" "_law_bag" (top 17),
  mkD (pl ("_law_take", none)) "_law_take" "_law_take" (top 18),
  mkD (pl ("_law_of", none)) "_law_of" "_law_of" (top 19),
  mkD (pl ("_law_worth", none)) "_law_worth" "_law_worth" (top 20),
  mkD (pl ("_law_names", none)) "_law_names" "_law_names" (top 21),
  mkD (pl ("_law_is_int", none)) "_law_is_int" "_law_is_int" (top 22),
  mkD (pl ("_law_shows", none)) "_law_shows" "_law_shows" (top 23),
  mkD (pl ("_law_no_name", none)) "_law_no_name" "_law_no_name" (top 24),
  mkD (pl ("_law_put", none)) "_law_put" "_law_put" (top 25),
  mkD (pl ("_law_right", none)) "_law_right" "_law_right" (top 26),
  mkD (pl ("law", none)) "law" "law" (top 27)]
abbrev R9 : PySem.W.OpenRow := PySem.W.OpenLaw.row PySem.Challenge.rw_trackedreads_k67_cells
abbrev hk9 : PySem.W.Hook := hookB 6 fx9 fn9
def ob9 (s : PySem.W.SharedT) : AlB := obsBG 6 fx9 fn9 (HandSHeadRun.getT s)
theorem ob9_eq (s : PySem.W.SharedT) : ob9 s = hk9.obs s.abs := obsBG_eq (HandSHeadRun.getT_eq s)
theorem run9 (w : World) : HandSHeadRun.RunEq R9 (PySem.W.view R9.prog [27]) hk9 ob9 20000 ("_wall" :: "TrackedError" :: "NoName" :: "Taken" :: "TooLong" :: "Misplaced" :: "Busy" :: "Frame" :: "Thing" :: "Cell" :: "Runner" :: "Kept" :: "Effect" :: "Desk" :: "_law_bag" :: "_law_take" :: "_law_of" :: "_law_worth" :: "_law_names" :: "_law_is_int" :: "_law_shows" :: "_law_no_name" :: "_law_put" :: "_law_right" :: ([] : List Str)) w := by
  intro os
  kernel_rfl
end Tr
section
open PySem PySem.W PySem.Calls PyProof.Rows
theorem Tr.fileEq : (PySem.W.OpenLaw.row PySem.Challenge.rw_trackedreads_k67_cells).prog.main.file = PySem.Challenge.pw_trackedreads_k67_cells.main.file := by first | rfl | kernel_rfl
theorem Tr.topEq : ((PySem.W.OpenLaw.row PySem.Challenge.rw_trackedreads_k67_cells).prog.main.scope.names.lookup ("super" : PySem.Str)).isSome = false := by first | decide +kernel | kernel_rfl
theorem Tr.nameEq : (HandSHeadRun.topDef (PySem.W.OpenLaw.row PySem.Challenge.rw_trackedreads_k67_cells).prog 27).name = ("law" : PySem.Str) := by kernel_rfl
theorem Tr.headE (hc : PySem.W.WalkO (view (OpenLaw.row PySem.Challenge.rw_trackedreads_k67_cells).prog [27]) ("_wall" :: "TrackedError" :: "NoName" :: "Taken" :: "TooLong" :: "Misplaced" :: "Busy" :: "Frame" :: "Thing" :: "Cell" :: "Runner" :: "Kept" :: "Effect" :: "Desk" :: "_law_bag" :: "_law_take" :: "_law_of" :: "_law_worth" :: "_law_names" :: "_law_is_int" :: "_law_shows" :: "_law_no_name" :: "_law_put" :: "_law_right" :: ([] : List Str)) (XL (view (OpenLaw.row PySem.Challenge.rw_trackedreads_k67_cells).prog [27]) []) Tr.hk9.says (OpenLaw.row PySem.Challenge.rw_trackedreads_k67_cells).toRowW (HandSHeadRun.topDef (OpenLaw.row PySem.Challenge.rw_trackedreads_k67_cells).prog 27) [] fun f vs => PySem.call f vs) : PySem.Challenge.rw_trackedreads_k67_cells.Holds := by
  w_on; o_law
  refine HandSHeadRun.head_any (r := OpenLaw.row PySem.Challenge.rw_trackedreads_k67_cells) (q := view (OpenLaw.row PySem.Challenge.rw_trackedreads_k67_cells).prog [27]) (H := Tr.hk9) (ob := Tr.ob9) (M := 20000) (loose := ("_wall" :: "TrackedError" :: "NoName" :: "Taken" :: "TooLong" :: "Misplaced" :: "Busy" :: "Frame" :: "Thing" :: "Cell" :: "Runner" :: "Kept" :: "Effect" :: "Desk" :: "_law_bag" :: "_law_take" :: "_law_of" :: "_law_worth" :: "_law_names" :: "_law_is_int" :: "_law_shows" :: "_law_no_name" :: "_law_put" :: "_law_right" :: ([] : List Str))) (d := HandSHeadRun.topDef (OpenLaw.row PySem.Challenge.rw_trackedreads_k67_cells).prog 27) (kwd := []) Tr.ob9_eq
    (by kernel_rfl) (fun s => by kernel_rfl) Tr.run9 (by kernel_rfl) (by kernel_rfl) (by kernel_rfl) (by rfl) (by first | assumption | decide +kernel) (by decide +kernel) ⟨rfl, rfl, rfl, rfl, rfl, by decide +kernel⟩ ?hw hc
  case hw => w_witness2
end
namespace Tr
open PySem PySem.Spec PyProof.Rows L2
section
variable {X : Cx} {CX : CXT} {k : Nat} {f C : Addr} {fd : FuncData} {ps : List Str} {sp : Sp} {E : XK}
/-- the callee runs, somewhere below the running body -/
theorem run_fnA {pins : List (Addr × Obj)} {σ : L2.St} {H : Hp} {s : Shared} {Q : VK} {us : List Value} {vs : List V} {A : Around} (F : FnOk X.prog X.w X.K X.mg X.base CX k f fd ps sp) (hr : Room k A) (hA : A.frames = X.A.frames) (hb : Binds X.K fd ps []) (hx : Passes CX X E)
    (I : Inv X pins σ H s) (r : Vals vs us) (h : sp vs H Q E) : wpAny (model X.prog X.w) A (call (.ref f) us) (EP X pins σ Q) X.xe s := by
  have e0 : L2.Env0 X.prog X.w X.K X.mg X.base A X.stack s H := by
    have e := I.env0
    exact ⟨by rw [hA]; exact e.frames, e.mod, e.bs, e.bsz, e.funs, e.frf, e.hok, e.bare⟩
  have hl : (us ++ []).length = ps.length := by rw [List.append_nil, ← r.length]; exact F.len _ _ _ _ h
  have hb' := hb s us I.kIn hl
  rw [List.append_nil] at hb'
  refine wpAny_call (codeAny_mono (F.run A X.stack s H ⟨us, []⟩ us vs Q E hr e0 hb' r h) fun r s' hq => ?_)
  cases r with
  | error e => exact hx pins σ H s e s' I hq
  | ok fl =>
    cases fl with
    | ret u => exact I.after hq
    | next => exact False.elim hq
    | brk => exact False.elim hq
    | cont => exact False.elim hq
/-- x in o -/
def rInO (C : Addr) (sp : Sp) (E : XK) (neg : Bool) : R2 := fun x y H Q => ∃ (o dx : Addr) (fs : List (Str × V)), y = .ref o ∧ H o = some (.ins C dx fs) ∧ sp [.ref o, x] H (fun v H' => ∃ b, v = .bl b ∧ Q (.bl (if neg then !b else b)) H') E
theorem op_inO (hs : PySem.W.findIn X.K (.ref C) "__contains__" = some (some (.ref f))) (hf : PySem.W.isFn X.K (.ref f) = true) (F : FnOk X.prog X.w X.K X.mg X.base CX k f fd ps sp) (hr : Room k X.A) (hb : Binds X.K fd ps []) (hx : Passes CX X E) : OpR X (compareOp .In) (rInO C sp E false) := by
  intro pins s σ H x y v u Q I rx ry h
  obtain ⟨o, dx, fs, rfl, ho, h⟩ := h
  cases ry
  obtain ⟨mA, J, _⟩ := ins_get I.hok ho
  obtain ⟨od, J, _⟩ := J.look
  obtain ⟨m, hF⟩ := I.fr
  refine PySem.W.in_K hF I.ok.mod.kin J hs hf (wpAny_mono (run_fnA (vs := [.ref o, x]) F hr rfl hb hx I (.cons rfl (.cons rx .nil)) h) (fun r s' hq => ?_) fun _ _ e => e)
  obtain ⟨z, H', I', rz, b, rfl, q⟩ := hq
  cases rz
  exact wpAny_pure ⟨.bl b, H', I', rfl, q⟩
theorem op_ninO (hs : PySem.W.findIn X.K (.ref C) "__contains__" = some (some (.ref f))) (hf : PySem.W.isFn X.K (.ref f) = true) (F : FnOk X.prog X.w X.K X.mg X.base CX k f fd ps sp) (hr : Room k X.A) (hb : Binds X.K fd ps []) (hx : Passes CX X E) : OpR X (compareOp .NotIn) (rInO C sp E true) := by
  intro pins s σ H x y v u Q I rx ry h
  obtain ⟨o, dx, fs, rfl, ho, h⟩ := h
  cases ry
  obtain ⟨mA, J, _⟩ := ins_get I.hok ho
  obtain ⟨od, J, _⟩ := J.look
  obtain ⟨m, hF⟩ := I.fr
  refine PySem.W.notIn_K hF I.ok.mod.kin J hs hf (wpAny_mono (run_fnA (vs := [.ref o, x]) F hr rfl hb hx I (.cons rfl (.cons rx .nil)) h) (fun r s' hq => ?_) fun _ _ e => e)
  obtain ⟨z, H', I', rz, b, rfl, q⟩ := hq
  cases rz
  exact wpAny_pure ⟨.bl (!b), H', I', rfl, q⟩
/-- len(o) -/
def rLenO (C : Addr) (sp : Sp) (E : XK) : List V → Hp → VK → Prop := fun xs H Q => ∃ (o dx : Addr) (fs : List (Str × V)), xs = [.ref o] ∧ H o = some (.ins C dx fs) ∧ sp [.ref o] H (fun v H' => ∃ n : Int, v = .int n ∧ (0 ≤ n ∧ n < 2 ^ 63) ∧ Q (.int n) H') E
theorem call_lenO (hs : PySem.W.findIn X.K (.ref C) "__len__" = some (some (.ref f))) (hf : PySem.W.isFn X.K (.ref f) = true) (F : FnOk X.prog X.w X.K X.mg X.base CX k f fd ps sp) (hr : Room k X.A.in1) (hA : X.A.in1.frames = X.A.frames) (hb : Binds X.K fd ps []) (hx : Passes CX X E) : CallR X (.builtin "len") (rLenO C sp E) := by
  intro pins s σ H xs us Q I r h
  obtain ⟨o, dx, fs, rfl, ho, h⟩ := h
  cases r with
  | cons r1 r2 =>
  cases r2
  cases r1
  obtain ⟨mA, J, _⟩ := ins_get I.hok ho
  obtain ⟨od, J, _⟩ := J.look
  obtain ⟨m, hF⟩ := I.fr
  refine PySem.W.len_K hF I.ok.mod.kin J hs hf (wpAny_mono (run_fnA (vs := [.ref o]) F hr hA hb hx I (.cons rfl .nil) h) (fun r s' hq => ?_) fun _ _ e => e)
  obtain ⟨z, H', I', rz, n, rfl, hn, q⟩ := hq
  obtain ⟨t, rfl⟩ := rz
  exact ⟨hn, .int n, H', I'.tok _, ⟨_, rfl⟩, q⟩
end
end Tr
set_option maxHeartbeats 2000000
namespace Tr
open PySem PySem.Spec PyProof.Rows L2
open AutoSeq1 (wpAny_loadPart')
/-- the iterator's object, the enumerate's -/
abbrev tio (l : Addr) : Obj := { cls := .type "tuple_iterator", data := .fields #[.ref l, .int 0 0] }
abbrev eno (n : Addr) : Obj := { cls := .type "enumerate", data := .fields #[.none, .bool false, .ref n, rawInt 0, .none, .none] }
theorem meets_enumT (l : Addr) (its : Array Value) (n : Nat) (dct : Option Addr) (sl : Array (Option Value)) :
    Meets (Builtin.«enumerate.__new__» ⟨[.type "enumerate", .ref l], []⟩)
      (fun _ R s => s.heap.get? l = some { cls := .type "tuple", dict := dct, data := .seq its n, slots := sl } ∧
        R (.ok (.ret (.ref (s.heap.push (tio l)).objs.size))) { s with heap := (s.heap.push (tio l)).push (eno s.heap.objs.size) }) :=
  .of_wp fun prog w A R s h => by
    obtain ⟨hp, g, d, tk, os⟩ := s
    obtain ⟨hl, h⟩ := h
    have hsub := PySem.sub_enumerate
    have hT : Heap.IsTuple (Shared.heap ⟨hp, g, d, tk, os⟩) l its := ⟨_, hl, rfl, n, rfl⟩
    wp_walk using wpAny_loadPart' hl
    refine PySem.wpAny_stack_any fun st => wpAny_pure ?_
    split
    case h_1 =>
      rename_i c _ _ _ _ _
      cases (c == Value.type "enumerate") <;> (wp_walk using wpAny_loadPart' hl, wpAny_pyIter_tuple hT; exact ⟨_, rfl, h⟩)
    case h_2 => wp_walk using wpAny_loadPart' hl, wpAny_pyIter_tuple hT; exact ⟨_, rfl, h⟩
theorem call_enumT {prog : Program} {w : World} {A : Around} {E : Value → Shared → Prop} {s : Shared} {l : Addr} {its : Array Value} {Q : Value → Shared → Prop} (hT : s.heap.IsTuple l its)
    (h : ∀ h', IsEnum h' (s.heap.objs.size + 1) s.heap.objs.size 0 .none → h'.IsTupleIter s.heap.objs.size l 0 → (∀ b o, s.heap.get? b = some o → h'.get? b = some o) → Q (.ref (s.heap.objs.size + 1)) { s with heap := h' }) :
    wpAny (model prog w) A (call (.type "enumerate") [.ref l]) Q E s := by
  obtain ⟨⟨c, dct, dt, sl⟩, hl, hc, n, hd⟩ := hT
  have hc' : c = .type "tuple" := hc
  have hd' : dt = .seq its n := hd
  subst hc' hd'
  refine callType_new F.called_enumerate (by decide) (F.typeCall_enumerate_1 _) (F.newCall_enumerate_1 _)
    (fun obj => F.args_object_init_2 obj _) F.entry_enumerate_new (meets_enumT l its n dct sl) ⟨hl, ?_⟩
  have hz : (s.heap.push (tio l)).objs.size = s.heap.objs.size + 1 := Heap.size_push ..
  show _ ∧ _
  rw [hz]
  have he : IsEnum ((s.heap.push (tio l)).push (eno s.heap.objs.size)) (s.heap.objs.size + 1) s.heap.objs.size 0 .none := by
    have z := Heap.get?_push_size (s.heap.push (tio l)) (o := eno s.heap.objs.size) rfl
    rw [hz] at z
    exact z
  refine ⟨⟨_, he, rfl⟩, h _ he ⟨_, Heap.get?_push_of_some _ (Heap.get?_push_size _ rfl), rfl, rfl⟩ fun b o x => ?_⟩
  exact Heap.get?_push_of_some _ (Heap.get?_push_of_some _ x)
theorem draws_tup {prog : Program} {w : World} {A : Around} (hh : A.handled = none) (it l : Addr) (hne : l ≠ it) (its : Array Value) :
    Draws prog w A it [it, l] its.size (fun i v => its[i]? = some v) (fun i h => h.IsTupleIter it l i ∧ h.IsTuple l its) where
  live := fun _ _ st => by
    obtain ⟨o, ho, _⟩ := st.1
    exact ⟨o, ho⟩
  frame := fun _ _ _ st hk => by
    obtain ⟨⟨o, ho, r⟩, ⟨o2, ho2, r2⟩⟩ := st
    exact ⟨⟨o, hk it (by simp) o ho, r⟩, ⟨o2, hk l (by simp) o2 ho2, r2⟩⟩
  item := fun i s Q E hi st hQ => by
    refine RZ.nextOf_tuple_item st.1 st.2 (x := its[i]) (by simp [hi]) fun h' hit' hs' => ?_
    obtain ⟨o2, ho2, r2⟩ := st.2
    exact hQ _ h' s.toks (by simp [hi]) ⟨hit', o2, (hs'.2 l hne).trans ho2, r2⟩ hs'
  done := fun s Q E st hE => RZ.nextOf_tuple_end hh st.1 st.2 (by simp) hE
/-- the tuple at a as it stands at each turn, each item in a new pair -/
def IteT (K : PySem.W.Frag) (a : Addr) : It :=
  ⟨fun i H => ∃ (xs : List V) (x : V), SqT K H a xs ∧ xs[i]? = some x,
   fun i H v H' => ∃ T x, v = .ref T ∧ H T = none ∧ H' = upd H T (.tup [.int (i : Nat), x]) ∧ ∀ xs, SqT K H a xs → xs[i]? = some x,
   fun i H => ∃ xs : List V, SqT K H a xs ∧ xs.length ≤ i⟩
theorem turn_enumT {P : Program} {w : World} {K : PySem.W.Frag} {elts : List Expr} {kk : Nat} {tpos : Pos} (a e it : Addr) (ha : a ≠ it) (hae : a ≠ e) :
    Turn P w K (.Tuple elts kk tpos) (IteT K a) [e, it] e (fun i h => (∃ old, IsEnum h e it ((i : Nat) : Int) old) ∧ h.IsTupleIter it a i ∧ e ≠ it) where
  mem := by simp
  obj := fun i h st b hb => by
    obtain ⟨⟨old, he⟩, ⟨o, ho, hc, hd⟩, _⟩ := st
    have e' : b = e ∨ b = it := by simpa using hb
    rcases e' with rfl | rfl
    · exact ⟨_, he, fun v q => nomatch q⟩
    · exact ⟨o, ho, fun v q => by rw [hd] at q; cases q⟩
  keep := fun i h h' st k => by
    obtain ⟨⟨old, he⟩, ⟨o, ho, r⟩, hne⟩ := st
    exact ⟨⟨old, k e (by simp) _ he⟩, ⟨o, k it (by simp) o ho, r⟩, hne⟩
  item := by
    intro X hP hw hK hc i pins s σ H E I hf st hg
    subst hP hw hK
    obtain ⟨⟨old, he⟩, hit, hne⟩ := st
    obtain ⟨xs, x, hq, hx⟩ := hg
    obtain ⟨its, rv, p, hz⟩ := I.tuple hq
    obtain ⟨u, hu, ru⟩ := rv.get hx
    have p' : s.heap.IsTuple a its.toArray := p
    have hel : e < s.heap.objs.size := Heap.lt_size he
    have hil : it < s.heap.objs.size := by obtain ⟨_, q, _⟩ := hit; exact Heap.lt_size q
    have hlt : i < its.toArray.size := by
      have := (List.getElem?_eq_some_iff.mp hu).1
      simpa using this
    have D := draws_tup (prog := X.prog) (w := X.w) (A := X.A.in1) (I.ok.hd hc) it a ha its.toArray
    refine wpAny_pyNext_enum_itemD D he ⟨hit, p'⟩ hlt hne (by simp [hne, Ne.symm hae]) fun y h' tk hy ho hst hT hsz hk => ?_
    have ey : y = u := by
      rw [List.getElem?_toArray, hu] at hy
      exact (Option.some.inj hy).symm
    subst ey
    refine ⟨_, rfl, wpAny_letOwnedTupleGo_enum (s := { s with heap := h', toks := tk + 1 }) ho fun h'' he' sb => ?_⟩
    have hT2 : h''.get? s.heap.objs.size = some { cls := .type "tuple", data := .seq #[.int i tk, y] } := (sb.2 _ (Nat.ne_of_gt hel)).trans hT
    have new : ObjOk X.prog X.w (upd H s.heap.objs.size (.tup [.int (i : Nat), x])) h'' s.heap.objs.size (.tup [.int (i : Nat), x]) :=
      ⟨by show 2 ≤ sizeLine; decide, [.int i tk, y], .cons ⟨_, rfl⟩ (.cons ru .nil), ⟨_, hT2, rfl, _, rfl⟩⟩
    have keep : ∀ b ob, b ∉ [e, it] → s.heap.get? b = some ob → h''.get? b = some ob := fun b ob hb q => by
      have b1 : b ≠ e := fun z => hb (by simp [z])
      have b2 : b ≠ it := fun z => hb (by simp [z])
      exact (sb.2 b b1).trans (hk b ob b1 b2 q)
    have I1 : Inv X pins σ (upd H s.heap.objs.size (.tup [.int (i : Nat), x])) { s with heap := h'', toks := tk + 1 } :=
      I.turnedNew (ch := [e, it]) keep hf (Nat.le_refl _) new
    have e1 : ((i + 1 : Nat) : Int) = (i : Int) + 1 := by omega
    obtain ⟨o2, ho2, r2⟩ := hst.1
    refine ⟨.ref s.heap.objs.size, _, I1, rfl, ⟨_, x, rfl, I.hok.fresh (Nat.le_refl _), rfl, fun ys hy => ?_⟩, ⟨⟨y, by rw [e1]; exact he'⟩, ⟨o2, (sb.2 it (Ne.symm hne)).trans ho2, r2⟩, hne⟩, fun b hb => ?_⟩
    · rw [I.tuple_inj hy hq]
      exact hx
    · have hb' : b < s.heap.objs.size := by
        have z : b = e ∨ b = it := by simpa using hb
        rcases z with rfl | rfl
        · exact hel
        · exact hil
      rw [upd_ne (Nat.ne_of_lt hb')]
      exact (hf b hb).1
  done := by
    intro X hP hw hK hc i pins s σ H E I hf st hg
    subst hP hw hK
    obtain ⟨⟨old, he⟩, hit, hne⟩ := st
    obtain ⟨xs, hq, hx⟩ := hg
    obtain ⟨its, rv, p, hz⟩ := I.tuple hq
    have p' : s.heap.IsTuple a its.toArray := p
    obtain ⟨f0, f1, f2, f3, f4, f5⟩ := hf it (by simp)
    have hl := rv.length
    have hT : s.TypeIs (.ref e) "enumerate" := ⟨_, he, rfl⟩
    unfold pyNext
    refine wpAny_bind (wpAny_attempt (wpAny_callSpecial?_slot (name := Str.ofString "__next__") hT F.slot_enumerate_next
      (wpAny_call_entry F.slot_enumerate_next hT F.entry_enumerate_next ?_ (F.args_enumerate_next_1 _))))
    show wpAny _ _ (field (.ref e) 2 >>= _) _ _ _
    refine wpAny_bind (wpAny_field he rfl (x := .ref it) rfl (wpAny_bind ?_))
    refine RZ.nextOf_tuple_end (I.ok.hd hc) hit p' (by simp; omega) fun h' ex eb hx' => ?_
    obtain ⟨o, ho, hcl⟩ := hx'
    refine wpAny_bind (wpAny_isInstance (T := "StopIteration") (b := true) ⟨o, ho, hcl⟩ isSubtype_stop (wpAny_pure ?_))
    exact ⟨rfl, I.turned (t' := s.toks) (fun b o hb q => eb b o hb q) f0 f1 f3 f4 f5⟩
  self := fun A i s Q E st h => by
    obtain ⟨⟨_, he⟩, _⟩ := st
    exact wpAny_pyIter_enum he h
def iEnumT (K : PySem.W.Frag) (ta : TA) : TI := fun σ H R => ta σ H fun vs H1 => ∃ a xs, vs = [.ref a] ∧ SqT K H1 a xs ∧ R (IteT K a) H1
theorem pi_enumT {X : Cx} {e : Expr} {ta : TA} {p pos tpos : Pos} {elts : List Expr} {kk : Nat} (hg : Gl X "enumerate") (hm : X.mg "enumerate" = none)
    (ha : PA X [e] ta) (hs : starEach [e] X.env = [(false, eval e X.env)] := by rfl) :
    PI X (.Tuple elts kk tpos) (.Call (.Name "enumerate" p) [e] [] pos) (iEnumT X.K ta) := by
  constructor
  intro pins s σ H R I h
  refine Call_ (ld_blt I hg hm boot_enumerate (PyProof.Rows.callWith_type1 (thn (ha.run pos pins s σ H _ I h) fun us s1 hh => ?_) hs rfl))
  obtain ⟨vs, H1, I1, r1, a, xs, ex, hq, q⟩ := hh
  subst ex
  cases r1 with
  | cons r rr =>
    cases rr
    cases r
    obtain ⟨its, rv, p', hz⟩ := I1.tuple hq
    have pt : s1.heap.IsTuple a its.toArray := p'
    have hal : a < s1.heap.objs.size := by obtain ⟨_, z, _⟩ := pt; exact Heap.lt_size z
    refine call_enumT pt fun h' he hit hk => wpAny_pyIter_enum he ?_
    have I2 : Inv X pins σ H1 { s1 with heap := h' } := I1.kept (t' := s1.toks) hk
    refine ⟨s1.heap.objs.size + 1, [s1.heap.objs.size + 1, s1.heap.objs.size], _, _, H1, rfl, I2,
      turn_enumT a (s1.heap.objs.size + 1) s1.heap.objs.size (Nat.ne_of_lt hal) (Nat.ne_of_lt (Nat.lt_succ_of_lt hal)), ⟨⟨.none, he⟩, hit, Nat.succ_ne_self _⟩, fun b hb => ?_, q⟩
    have z : b = s1.heap.objs.size + 1 ∨ b = s1.heap.objs.size := by simpa using hb
    have hle : s1.heap.objs.size ≤ b := by
      rcases z with rfl | rfl
      · exact Nat.le_succ _
      · exact Nat.le_refl _
    exact I1.fpOk hle (I1.hok.fresh hle)
theorem walk_enumT {K : PySem.W.Frag} {a : Addr} {xs : List V} : Walk (IteT K a) xs.length (fun H => SqT K H a xs) (YPair (fun i => some (.int (i : Nat))) (fun i => xs[i]?)) := by
  refine ⟨fun i _ hi q => ⟨xs, xs[i], q, by simp [hi]⟩, fun _ q => ⟨xs, q, Nat.le_refl _⟩, fun i H v H' _ q y => ?_⟩
  obtain ⟨T, x, h1, h2, h3, h4⟩ := y
  exact ⟨T, .int (i : Nat), x, h1, h2, h3, rfl, h4 xs q⟩
/-- for i, x in enumerate(t), t a tuple of the slot j -/
theorem s_forEnumT {σ : L2.St} {H : Hp} {K : PySem.W.Frag} {p : Addr} {xs : List V} {g : TG} {tb : TS} {j : Nat} {na : L2.St → Hp → Prop} {rt : VK} {bk ct : L2.St → Hp → Prop} (hv : σ[j]? = some (some (.ref p))) (hp : H p = some (.tup xs)) (Pv : Nat → L2.St → Hp → Prop) (h0 : Pv 0 σ H)
    (hG : ∀ i σ H, i ≤ xs.length → Pv i σ H → H p = some (.tup xs))
    (hs : ∀ i x T σ H, xs[i]? = some x → Pv i σ H → H T = none → g (.ref T) σ (upd H T (.tup [.int (i : Nat), x])) fun σ2 H2 => tb ⟨Pv (i + 1), rt, na, Pv (i + 1)⟩ σ2 H2)
    (hd : ∀ σ H, Pv xs.length σ H → na σ H) : tFor (iEnumT K (tCons (tVar j) tNil)) g tb ⟨na, rt, bk, ct⟩ σ H := by
  refine ⟨_, hv, p, xs, rfl, SqT.of hp, ?_⟩
  refine for_it (D := ⟨na, rt, bk, ct⟩) (walk_enumT (xs := xs)) Pv h0 (fun i σ H hi pv => SqT.of (hG i σ H hi pv)) ?_ hd
  rintro i x σ H H' hi pv ⟨T, x1, y1, rfl, hT, rfl, e1, e2⟩
  cases e1
  exact hs i y1 T σ H e2 pv hT
end Tr
namespace L2
open PySem PySem.Spec PyProof.Rows
section
variable {X : Cx} {CX : CXT} {k : Nat} {f C : Addr} {fd : FuncData} {ps : List Str} {sp : Sp} {E : St → XK} {m : Str} {apos pos : Pos} {o e : Expr} {es : List Expr} {ta : TE} {t : TA}
def tMethX (C : Addr) (sp : Sp) (E : St → XK) (m : Str) (ta : TE) (t : TA) : TE := fun σ H Q => ta σ H fun x H1 => ∃ (a dx : Addr) (fs : List (Str × V)), x = .ref a ∧ H1 a = some (.ins C dx fs) ∧ fs.lookup m = none ∧ t σ H1 fun vs H2 => sp (.ref a :: vs) H2 Q (E σ)
theorem pe_methX {pl : Sem Bool} (he : PE X o ta) (c : Cls X.K C) (hm : Meth X.K C m f) (F : FnOk X.prog X.w X.K X.mg X.base CX k f fd ps sp) (hr : Room k X.A) (hb : Binds X.K fd ps []) (hx : ∀ σ, PassesAt CX X σ (E σ)) (ha : PA X (e :: es) t)
    (hst : starEach (e :: es) X.env = (false, eval e X.env) :: starEach es X.env := by rfl) (hpl : (backTo pos (starEach es X.env)).any (·.1) = false := by rfl)
    (ht : eval (.Call (.Attribute o m apos) (e :: es) [] pos) X.env = (do
      let ov ← eval o X.env
      standAt apos.atName
      let (f, first) ← holding [ov] (getMethod ov m pl)
      callWith pos f first (backTo pos (starEach (e :: es) X.env)) (backToKw pos (keywordEach [] X.env))) := by rfl) :
    PE X (.Call (.Attribute o m apos) (e :: es) [] pos) (tMethX C sp E m ta t) := by
  constructor
  intro pins s σ H Q I h
  refine PySem.W.methodCall_KW (pl := pl) (thn (he.run pins s σ H _ I h) fun u s1 hh => ?_) ht
  obtain ⟨x, H1, I1, rx, a, dx, fs, rfl, ea, l, q⟩ := hh
  cases (show u = Value.ref a from rx)
  refine getmeth_ok I1 ea c hm l ?_
  refine PySem.W.callWith_K (first := [.ref a]) (h₀ := X.base) I.ok.mod.kin hm.kp (thn (ha.run pos pins s1 σ H1 _ I1 q) fun us s2 hh2 => ?_) hst hpl
  obtain ⟨vs, H2, I2, r, q2⟩ := hh2
  refine ⟨I2.kIn, ?_⟩
  have rv2 : Vals (V.ref a :: vs) (Value.ref a :: us) := .cons rfl r
  have hl : (Value.ref a :: us).length = ps.length := by rw [← rv2.length]; exact F.len _ _ _ _ q2
  have b := hb s2 (Value.ref a :: us) I2.kIn (by rw [List.append_nil]; exact hl)
  rw [List.append_nil] at b
  refine wpAny_call (codeAny_mono (F.run X.A X.stack s2 H2 ⟨Value.ref a :: us, []⟩ (Value.ref a :: us) (V.ref a :: vs) Q (E σ) hr I2.env0 b rv2 q2) fun r s' hq => ?_)
  cases r with
  | error er => exact hx σ pins H2 s2 er s' I2 hq
  | ok fl =>
    cases fl with
    | ret u => exact I2.after hq
    | next => exact False.elim hq
    | brk => exact False.elim hq
    | cont => exact False.elim hq
end
end L2
namespace Tr
open PySem PySem.Spec PyProof.Rows L2
section
variable {σ : L2.St} {H : Hp} {Q : VK} {K : PySem.W.Frag}
theorem s_methX {C : Addr} {sp : Sp} {E : L2.St → XK} {m : Str} {ta : TE} {t : TA} (h : ta σ H fun x H1 => ∃ (a dx : Addr) (fs : List (Str × V)), x = .ref a ∧ H1 a = some (.ins C dx fs) ∧ fs.lookup m = none ∧ t σ H1 fun vs H2 => sp (.ref a :: vs) H2 Q (E σ)) : tMethX C sp E m ta t σ H Q := h
/-- a comprehension over a list whose steps may change what is there: J i acc H is so before the i-th step -/
theorem s_lcJ {p : Addr} {xs : List V} {g : TG} {te : TE} {vs : List Nat} (J : Nat → Addr → List V → Hp → Prop) (hp : H p = some (.lst xs)) (hz : xs.length ≤ 100000)
    (h0 : ∀ D, H D = none → J 0 D [] (upd H D (.lst []))) (hG : ∀ i D acc H', J i D acc H' → H' p = some (.lst xs) ∧ H' D = some (.lst acc) ∧ acc.length = i)
    (hs : ∀ (i : Nat) (D : Addr) (acc : List V) (x : V) (H2 : Hp) (R : VK), xs[i]? = some x → J i D acc H2 → (∀ v H4, H4 D = some (.lst acc) → J (i + 1) D (acc ++ [v]) (upd H4 D (.lst (acc ++ [v]))) → R v H4) →
      g x (wipe σ vs) H2 fun σ2 H3 => wipe σ2 vs = wipe σ vs ∧ te σ2 H3 R)
    (hd : ∀ D acc H', H D = none → J xs.length D acc H' → Q (.ref D) H') : mList K (LcGo g tYes te vs σ Q) (.ref p) H := by
  refine ⟨p, rfl, ⟨xs, SqL.of hp⟩, fun D hD => ?_⟩
  refine lc_it (walk_list (xs := xs)) (fun i H' => ∃ acc, J i D acc H') ⟨[], h0 D hD⟩ (fun i H' _ pv => ?_) ?_ ?_
  · obtain ⟨acc, j⟩ := pv
    exact SqL.of (hG _ _ _ _ j).1
  · rintro i x H2 H' hi ⟨acc, j⟩ ⟨rfl, hxx⟩
    obtain ⟨_, hD2, hl⟩ := hG _ _ _ _ j
    have := hs i D acc x H' (fun y H4 => ∃ acc, H4 D = some (.lst acc) ∧ acc.length < sizeLine ∧ ∃ acc', J (i + 1) D acc' (upd H4 D (.lst (acc ++ [y])))) hxx j fun v H4 h4 j4 => ⟨acc, h4, by rw [hl]; exact sz_lt (by omega), _, j4⟩
    have e2 : (fun σ2 H3 => wipe σ2 vs = wipe σ vs ∧ te σ2 H3 (fun y H4 => ∃ acc, H4 D = some (.lst acc) ∧ acc.length < sizeLine ∧ ∃ acc', J (i + 1) D acc' (upd H4 D (.lst (acc ++ [y]))))) =
      (fun σ2 H3 => wipe σ2 vs = wipe σ vs ∧ tYes σ2 H3 fun b' H3 => if b' = true then te σ2 H3 (fun y H4 => ∃ acc, H4 D = some (.lst acc) ∧ acc.length < sizeLine ∧ ∃ acc', J (i + 1) D acc' (upd H4 D (.lst (acc ++ [y])))) else ∃ acc, J (i + 1) D acc H3) := rfl
    rw [e2] at this
    exact this
  · rintro H' ⟨acc, j⟩
    exact hd D acc H' hD j
end
end Tr
set_option maxHeartbeats 1000000
namespace L2
open PySem PySem.Spec PyProof.Rows
/-- what the clauses wish of an exception of the body, one after the other -/
def wKeeps (K : PySem.W.Frag) (Wout : WX) (D : Ends) : List (Value × Option Nat × (Addr → Value → Option Addr → TS)) → WX
  | [] => Wout
  | (c, some i, ts) :: r => fun cls d σ H => ∃ b, PySem.W.exmOne K cls c = some b ∧
    (b = true → ∀ a, H a = none → ts a cls d ⟨fun σ' H' => D.nx (σ'.set i none) (upd H' a (xo a cls d)), fun v H' => D.rt v H', fun _ _ => False, fun _ _ => False⟩ (σ.set i (some (.ref a))) H) ∧
    (b = false → wKeeps K Wout D r cls d σ H)
  | (c, none, ts) :: r => fun cls d σ H => ∃ b, PySem.W.exmOne K cls c = some b ∧ (b = true → ∀ a, H a = none → ts a cls d D σ H) ∧ (b = false → wKeeps K Wout D r cls d σ H)
inductive HdsK (X : Cx) : List ExceptHandler → List (Value × Option Nat × (Addr → Value → Option Addr → TS)) → Prop
  | nil : HdsK X [] []
  | cons {x n : Str} {c : Value} {i : Nat} {ts : Addr → Value → Option Addr → TS} {b₀ : Stmt} {suite : List Stmt} {np pos' : Pos} {hds : List ExceptHandler} {l : List (Value × Option Nat × (Addr → Value → Option Addr → TS))} (hi : X.N[i]? = some n) (hln : X.env.kindOf n = some .local) (hc : Names X x c)
      (hsu : ∀ (a : Addr) (oe : Obj) (cls : Value) (d : Option Addr) (pn : List (Addr × Obj)), Zc cls d oe → (∃ vs, oe.data = .fields vs) → PSs (X.suite a ((a, oe) :: pn)) (b₀ :: suite) (ts a cls d)) (r : HdsK X hds l) :
      HdsK X (.ExceptHandler (some (.Name x np)) (some n) (b₀ :: suite) pos' :: hds) ((c, some i, ts) :: l)
  | cons0 {x : Str} {c : Value} {ts : Addr → Value → Option Addr → TS} {b₀ : Stmt} {suite : List Stmt} {np pos' : Pos} {hds : List ExceptHandler} {l : List (Value × Option Nat × (Addr → Value → Option Addr → TS))} (hc : Names X x c)
      (hsu : ∀ (a : Addr) (oe : Obj) (cls : Value) (d : Option Addr) (pn : List (Addr × Obj)), Zc cls d oe → (∃ vs, oe.data = .fields vs) → PSs (X.suite a ((a, oe) :: pn)) (b₀ :: suite) (ts a cls d)) (r : HdsK X hds l) :
      HdsK X (.ExceptHandler (some (.Name x np)) none (b₀ :: suite) pos' :: hds) ((c, none, ts) :: l)
section
variable {X : Cx} {n : Str} {i : Nat} {body suite : List Stmt} {b₀ : Stmt} {h₀ : ExceptHandler} {hds : List ExceptHandler} {l : List (Value × Option Nat × (Addr → Value → Option Addr → TS))} {pos pos' : Pos} {tb : WX → TS} {Wout : WX} {ts : Addr → Value → Option Addr → TS}
theorem suite_keeps {pins : List (Addr × Obj)} {σ : St} {H : Hp} {s : Shared} {D : Ends} {a : Addr} {oe : Obj} {vs : Array Value} {cls : Value} {d : Option Addr} (ok : X.Ok) (hN : X.N.Nodup) (hi : X.N[i]? = some n) (hln : X.env.kindOf n = some .local)
    (hsu : PSs (X.suite a ((a, oe) :: (X.pn ++ pins))) (b₀ :: suite) (ts a cls d)) (S : Inv (X.suite a ((a, oe) :: (X.pn ++ pins))) [] (σ.set i (some (.ref a))) H s) (hz : Zc cls d oe) (hd : oe.data = .fields vs) (n0 : X.s_0.heap.get? a = none) (np' : ∀ p ∈ X.pn ++ pins, p.1 ≠ a)
    (h : ts a cls d ⟨fun σ' H' => D.nx (σ'.set i none) (upd H' a (xo a cls d)), fun v H' => D.rt v H', fun _ _ => False, fun _ _ => False⟩ (σ.set i (some (.ref a))) H) :
    wpAny (model X.prog X.w) (X.A.mark (some (.ref a))) (execs (b₀ :: suite) X.env) (fun f s6 => wpAny (model X.prog X.w) X.A (do bindName X.env n .none; unbindBehindTheSuite X.env n pos') (fun _ s7 => SP X pins D f s7) X.xe s6) (fun _ _ => False) s := by
  have pinsOf : ∀ {σ6 : St} {H6 : Hp} {s6 : Shared}, Inv (X.suite a ((a, oe) :: (X.pn ++ pins))) [] σ6 H6 s6 → Inv X ((a, oe) :: pins) σ6 H6 s6 := fun S6 => (S6.unsuite ok).pins_of fun p hp => S6.pin p (List.mem_append_left _ (by
      rcases List.mem_cons.mp hp with e | e
      · rw [e]; exact List.mem_cons_self
      · exact List.mem_cons_of_mem _ (List.mem_append_right _ e)))
  refine wpAny_mono (hsu.run [] s _ H _ S h) (fun f s6 hsp => ?_) (fun _ _ z => z)
  match f, hsp with
  | .next, ⟨σ6, H6, S6, q6⟩ => exact gone_ok (pinsOf S6) hN hi hln fun s7 I7 => ⟨_, _, I7.track hz hd n0 np', q6⟩
  | .brk, ⟨_, _, _, q6⟩ => exact q6.elim
  | .cont, ⟨_, _, _, q6⟩ => exact q6.elim
  | .ret _, ⟨v6, σ6, H6, S6, r6, q6⟩ => exact gone_ok (pinsOf S6) hN hi hln fun s7 I7 => ⟨_, _, _, I7.pins_of fun p hp => I7.pin p (List.mem_append_right _ (List.mem_cons_of_mem _ hp)), r6, q6⟩
theorem ps_try_keeps (hs : X.stack = X.env :: X.outer) (hf : X.env.frame = some X.env.locals) (hN : X.N.Nodup) (hex : X.ex = []) (tk : Takes X Wout)
    (hb : ∀ (W : WX) (pn : List (Addr × Obj)) (xe : Value → Shared → Prop), Takes (X.tr pn xe) W → PassesOwn (model X.prog X.w) X.A X.env xe → PSs (X.tr pn xe) body (tb W))
    (hh : HdsK X (h₀ :: hds) l) : PS X (.Try body (h₀ :: hds) [] [] pos) (fun D σ H => tb (wKeeps X.K Wout D l) D σ H) := by
  refine ⟨fun pins s σ H D I h => ?_⟩
  have ok := I.ok
  have hfr : X.A.frames = some (X.env :: X.outer) := by rw [ok.frames, hs]
  refine wpAny_Try_except ?_
  refine wpAny_mono ((hb (wKeeps X.K Wout D l) (X.pn ++ pins) (fun e s₁ => wpAny (model X.prog X.w) X.A (noteFrame e X.env) (fun _ s₂ => wpAny (model X.prog X.w) X.A (setFlight e none) (fun _ s₃ =>
    wpAny (model X.prog X.w) X.A (handleBy e X.env (h₀ :: hds)) (SP X pins D) X.xe s₃) X.xe s₂) X.xe s₁) (fun u s' xx => ?_) PassesOwn.looking).run [] s σ H D (I.toTry _) h) (fun f s1 hsp => ?_) (fun e s1 he => he)
  · obtain ⟨a, B, sI, pins', σ', H', cls, d, rfl, J', nb, up, sky, na, os, ag, w⟩ := xx
    have J : Inv X pins σ' H' sI := J'.ofTry ok
    have sky' : Sky B (X.env :: X.outer) a (Zc cls d) X.env.locals s'.heap := by rw [← hs]; exact sky
    show wpAny (model X.prog X.w) X.A (noteFrame (.ref a) X.env) _ _ _
    refine Sky.land Zc.steady hfr hf sky' fun h3 fl3 up3 => ?_
    have J3 : Inv X pins σ' H' { s' with heap := h3 } := J.landed nb fl3.1 (up.trans up3) os ag
    obtain ⟨oe3, vs3, he3, hz3, hd3⟩ := fl3.there
    have notFr : ∀ {h : Heap} {o : Obj} {vs : Array Value}, h.FunFrames B (X.env :: X.outer) → h.get? a = some o → o.data = .fields vs → a ∉ frs (X.env :: X.outer) := fun {h o vs} ff e dd hm => by
      obtain ⟨_, o', e', hnf⟩ := ff.mem hm
      rw [e] at e'; cases e'
      exact hnf _ dd
    have nfr := notFr fl3.2.2.1 he3 hd3
    have nL : a ≠ X.env.locals := fun z => nfr (List.mem_filterMap.mpr ⟨X.env, List.mem_cons_self, by rw [hf, z]⟩)
    have nF : a ∉ X.fs := fun hm => by
      obtain ⟨e, he, q⟩ := List.mem_filterMap.mp hm
      exact nfr (List.mem_filterMap.mpr ⟨e, List.mem_cons_of_mem _ he, q⟩)
    have noI : sI.heap.get? a = none := by
      cases q : sI.heap.get? a with
      | none => rfl
      | some o => exact absurd ((nb a o q (by rw [hs]; exact nfr)).symm.trans fl3.2.1) (by simp)
    have n0 : X.s_0.heap.get? a = none := by
      cases q : X.s_0.heap.get? a with
      | none => rfl
      | some o =>
        obtain ⟨o', e'⟩ := J.base.there a o q (by rw [hex]; simp)
        rw [noI] at e'
        cases e'
    have npn : ∀ p ∈ X.pn ++ pins, p.1 ≠ a := fun p hp z => by
      have := (J.pin p hp).1
      rw [z, noI] at this
      cases this
    have S3 := J3.suite he3 hd3 na nL nF
    have go : ∀ {hds' : List ExceptHandler} {l' : List (Value × Option Nat × (Addr → Value → Option Addr → TS))}, HdsK X hds' l' → wKeeps X.K Wout D l' cls d σ' H' →
        wpAny (model X.prog X.w) X.A (handleBy (.ref a) X.env hds') (SP X pins D) X.xe { s' with heap := h3 } := by
      intro hds' l' hk
      induction hk with
      | nil =>
        intro w
        refine wpAny_handleBy_nil ?_
        obtain ⟨k1, k2, k3, oe, vs, T, oT, ts', he, hz, hd, h1, hr⟩ := id fl3
        unfold PySem.passOn
        refine wpAny_bind (wpAny_field he hd h1 ?_)
        rw [if_neg (show ¬ ((Value.ref T == Value.none) = true) from by simp)]
        have fin : wpAny (model X.prog X.w) X.A (setFlight (.ref a) X.env.frame) (fun _ s4 => wpAny (model X.prog X.w) X.A (throw (.ref a) : Sem Flow) (SP X pins D) X.xe s4) X.xe { s' with heap := h3 } := by
          rw [hf]
          refine HandSPX.setFlight_upZ fl3 fun h4 hh4 up4 => wpAny_throw (tk _ _ ?_)
          exact ⟨a, B, sI, pins, σ', H', cls, d, rfl, J, nb, (up.trans up3).trans up4, .inr (.inr (by rw [hs]; exact hh4)), na, os, ag, w⟩
        first
          | exact wpAny_bind (wpAny_pure (wpAny_bind fin))
          | exact wpAny_bind fin
      | @cons x n c i ts b₀ suite np pos' hds2 l2 hi hln hc hsu r ih =>
        intro w
        obtain ⟨b, hb1, hyes, hno⟩ := w
        refine wpAny_handleBy_cons (codeAny_handlers_test ?_) (by intro q; cases q)
        have LT : PySem.W.Looks (model X.prog X.w) h3 (typeOf (.ref a)) cls := fun A Q E s k q => wpAny_typeOf_ref (k _ _ he3) (by rw [hz3.1]; exact q)
        have LM := PySem.W.exm_one (M := model X.prog X.w) (J3.kIn) LT hb1
        have test : ∀ {Q : Value → Shared → Prop} {E : Value → Shared → Prop}, Q c { s' with heap := h3 } → wpAny (model X.prog X.w) (X.A.mark (some (.ref a))) (eval (.Name x np) X.env) Q E { s' with heap := h3 } := fun {Q E} q => by
          obtain ⟨hg, hdbg, hm | ⟨hm, hv, hnn⟩⟩ := hc
          · exact ld_glob (X := X.suite a ((a, oe3) :: (X.pn ++ pins))) S3 hg hm q hdbg
          · exact ld_blt (X := X.suite a ((a, oe3) :: (X.pn ++ pins))) S3 hg hm hv q hnn hdbg
        refine test (LM.here ?_)
        cases b with
        | true =>
          refine codeAny_handlers_suite_as (HandSPX.lands_againZ fl3 fun h4 fl4 up4 => ?_)
          obtain ⟨oe4, vs4, he4, hz4, hd4⟩ := fl4.there
          have J4 : Inv X pins σ' H' { s' with heap := h4 } := J.landed nb fl4.1 ((up.trans up3).trans up4) os ag
          refine store_ok (X := X.suite a ((a, oe4) :: (X.pn ++ pins))) (v := .ref a) (J4.suite he4 hd4 na nL nF) hN hi (.inl hln) rfl (fun s5 S5 => ?_) (.inr hln)
          exact wpAny_mono (suite_keeps ok hN hi hln (hsu a oe4 cls d _ hz4 ⟨_, hd4⟩) S5 hz4 hd4 n0 npn (hyes rfl a na)) (fun _ _ z => z) fun _ _ z => z.elim
        | false =>
          show wpAny _ X.A (handleBy (.ref a) X.env hds2) _ _ _
          exact ih (hno rfl)
      | @cons0 x c ts b₀ suite np pos' hds2 l2 hc hsu r ih =>
        intro w
        obtain ⟨b, hb1, hyes, hno⟩ := w
        refine wpAny_handleBy_cons (codeAny_handlers_test ?_) (by intro q; cases q)
        have LT : PySem.W.Looks (model X.prog X.w) h3 (typeOf (.ref a)) cls := fun A Q E s k q => wpAny_typeOf_ref (k _ _ he3) (by rw [hz3.1]; exact q)
        have LM := PySem.W.exm_one (M := model X.prog X.w) (J3.kIn) LT hb1
        have test : ∀ {Q : Value → Shared → Prop} {E : Value → Shared → Prop}, Q c { s' with heap := h3 } → wpAny (model X.prog X.w) (X.A.mark (some (.ref a))) (eval (.Name x np) X.env) Q E { s' with heap := h3 } := fun {Q E} q => by
          obtain ⟨hg, hdbg, hm | ⟨hm, hv, hnn⟩⟩ := hc
          · exact ld_glob (X := X.suite a ((a, oe3) :: (X.pn ++ pins))) S3 hg hm q hdbg
          · exact ld_blt (X := X.suite a ((a, oe3) :: (X.pn ++ pins))) S3 hg hm hv q hnn hdbg
        refine test (LM.here ?_)
        cases b with
        | true =>
          refine codeAny_handlers_suite ?_
          refine HandSPX.lands_againZ fl3 fun h4 fl4 up4 => ?_
          have J4 : Inv X pins σ' H' { s' with heap := h4 } := J.landed nb fl4.1 ((up.trans up3).trans up4) os ag
          obtain ⟨oe4, vs4, he4, hz4, hd4⟩ := fl4.there
          have S4 := J4.suite he4 hd4 na nL nF
          refine wpAny_mono ((hsu a oe4 cls d (X.pn ++ pins) hz4 ⟨_, hd4⟩).run [] _ _ H' _ S4 (hyes rfl a na)) (fun f s6 hsp => ?_) (fun _ _ z => False.elim z)
          cases f with
          | next =>
            obtain ⟨σ6, H6, S6, q6⟩ := hsp
            exact ⟨_, _, S6.unsuite ok, q6⟩
          | brk =>
            obtain ⟨σ6, H6, S6, q6⟩ := hsp
            exact ⟨_, _, S6.unsuite ok, q6⟩
          | cont =>
            obtain ⟨σ6, H6, S6, q6⟩ := hsp
            exact ⟨_, _, S6.unsuite ok, q6⟩
          | ret u =>
            obtain ⟨v6, σ6, H6, S6, r6, q6⟩ := hsp
            exact ⟨_, _, _, S6.unsuite ok, r6, q6⟩
        | false =>
          show wpAny _ X.A (handleBy (.ref a) X.env hds2) _ _ _
          exact ih (hno rfl)
    exact go hh w
  · cases f with
    | next =>
      obtain ⟨σ', H', J', q⟩ := hsp
      exact wpAny_execs_nil ⟨σ', H', J'.ofTry ok, q⟩
    | brk =>
      obtain ⟨σ', H', J', q⟩ := hsp
      exact ⟨σ', H', J'.ofTry ok, q⟩
    | cont =>
      obtain ⟨σ', H', J', q⟩ := hsp
      exact ⟨σ', H', J'.ofTry ok, q⟩
    | ret u =>
      obtain ⟨v, σ', H', J', r, q⟩ := hsp
      exact ⟨v, σ', H', J'.ofTry ok, r, q⟩
end
end L2
set_option maxHeartbeats 1000000
namespace L2
open PySem PySem.Spec PyProof.Rows
section
variable {X : Cx} {CX : CXT} {k i : Nat} {f C : Addr} {fd : FuncData} {ps : List Str} {sp : Sp} {E : St → XK} {x : Str} {p pos : Pos} {e : Expr} {es : List Expr} {t : TA}
def tMakeL (i : Nat) (C : Addr) (sp : Sp) (E : St → XK) (t : TA) : TE := fun σ H Q => σ[i]? = some (some (.ref C)) ∧ tMakeS C sp E t σ H Q
theorem pe_makeL (M : Mk X.K C f)
    (F : FnOk X.prog X.w X.K X.mg X.base CX k f fd ps sp) (hr : Room (k + 1) X.A)
    (hN : X.N[i]? = some x) (hv : Vis X.env.scope x) (hb : Binds X.K fd ps []) (hx : ∀ σ, PassesAt CX X σ (E σ)) (ha : PA X (e :: es) t)
    (hdb : (x == ("__debug__" : Str)) = false := by decide) (hcd : (x == ("__classdict__" : Str)) = false := by decide)
    (he : starEach (e :: es) X.env = (false, eval e X.env) :: starEach es X.env := by rfl)
    (hpl : (backTo pos (starEach es X.env)).any (·.1) = false := by rfl) :
    PE X (.Call (.Name x p) (e :: es) [] pos) (tMakeL i C sp E t) := by
  constructor
  intro pins s σ H Q I h
  obtain ⟨hs, h⟩ := h
  refine wpAny_Call_Name_kw (thn ((pe_var (pos := p) hN hv hdb hcd).run pins s σ H (fun v H1 => v = .ref C ∧ H1 = H) I ⟨.ref C, hs, rfl, rfl⟩) fun u s0 ⟨v, H0, I0, r0, q0⟩ => ?_)
  obtain ⟨rfl, rfl⟩ := q0
  cases r0
  refine PySem.W.callWith_K (h₀ := X.base) I0.ok.mod.kin M.kp (thn (ha.run pos pins s0 σ _ _ I0 h) fun us s1 hh => ?_) he hpl
  obtain ⟨vs, H1, I1, r, q⟩ := hh
  refine ⟨I1.kIn, ?_⟩
  show wpAny _ _ (call (.ref C) us) _ _ _
  generalize hn : s1.heap.objs.size = n
  have f0 : H1 n = none := by rw [← hn]; exact I1.hok.fresh (Nat.le_refl _)
  have f1 : H1 (n + 1) = none := by rw [← hn]; exact I1.hok.fresh (Nat.le_succ _)
  have hq := q (n + 1) n f1 f0 (Nat.ne_of_lt (Nat.lt_succ_self _))
  have I2 := Inv.made (C := C) I1
  rw [hn] at I2
  have r2 : Vals (V.ref (n + 1) :: vs) (Value.ref (n + 1) :: us) := .cons rfl r
  have hl : (Value.ref (n + 1) :: us ++ []).length = ps.length := by
    have z := r2.length
    rw [F.len _ _ _ _ hq] at z
    rw [List.append_nil]
    exact z.symm
  have b := hb _ (Value.ref (n + 1) :: us) I2.kIn hl
  rw [List.append_nil] at b
  have run := F.run _ X.stack _ _ ⟨Value.ref (n + 1) :: us, []⟩ (Value.ref (n + 1) :: us) _ _ (E σ) (hr.make C us []) (I2.env0.make C us []) b r2 hq
  refine wpAny_call (make_map (f := f) I1.kIn M.makes M.init (beq_iff_eq.mp M.fn) (codeAny_mono (by rw [hn]; exact run) fun r s' hq' => ?_))
  cases r with
  | error er => exact hx σ pins _ _ er s' I2 hq'
  | ok fl =>
    cases fl with
    | next => exact False.elim hq'
    | brk => exact False.elim hq'
    | cont => exact False.elim hq'
    | ret u =>
      obtain ⟨v, H', I3, rv, ev, q3⟩ := I2.after hq'
      cases ev
      rw [hn]
      exact ⟨rv, ⟨V.ref (n + 1), H', I3, rfl, q3⟩⟩
end
open ClX in
section
variable {X : Cx} {CX : CXT} {k : Nat} {C p g : Addr} {fd : FuncData} {ps : List Str} {mc : Value} {sp : Sp} {E : St → XK} {o e : Expr} {es : List Expr} {m : Str} {pos apos : Pos} {ta : TE} {t : TA} {pl : Sem Bool}
/-- C.m(e, ..), m a classmethod that may raise -/
def tCMethS (C : Addr) (sp : Sp) (E : St → XK) (ta : TE) (t : TA) : TE := fun σ H Q => ta σ H fun x H1 => x = .ref C ∧ t σ H1 fun vs H2 => sp (.ref C :: vs) H2 Q (E σ)
theorem pe_cmethS (he : PE X o ta) (r : CRead X.K C mc) (c : CMet X.K C mc m p g) (F : FnOk X.prog X.w X.K X.mg X.base CX k g fd ps sp) (hb : Binds X.K fd ps []) (hr : Room k X.A) (hx : ∀ σ, PassesAt CX X σ (E σ)) (ha : PA X (e :: es) t)
    (hst : starEach (e :: es) X.env = (false, eval e X.env) :: starEach es X.env := by rfl) (hpl : (backTo pos (starEach es X.env)).any (·.1) = false := by rfl)
    (ht : eval (.Call (.Attribute o m apos) (e :: es) [] pos) X.env = (do
      let ov ← eval o X.env
      standAt apos.atName
      let (f, first) ← holding [ov] (getMethod ov m pl)
      callWith pos f first (backTo pos (starEach (e :: es) X.env)) (backToKw pos (keywordEach [] X.env))) := by rfl) :
    PE X (.Call (.Attribute o m apos) (e :: es) [] pos) (tCMethS C sp E ta t) := by
  refine ⟨fun pins s σ H Q I h => ?_⟩
  refine PySem.W.methodCall_KW (pl := pl) (thn (he.run pins s σ H _ I h) fun u s1 ⟨x, H1, I1, rx, ex, q⟩ => ?_) ht
  subst ex
  obtain rfl : u = Value.ref C := rx
  refine getmethcm_ok I1 r c fun s2 I2 => ?_
  refine callwith_cm I2 (base_none I1 (Nat.le_refl _)) c.fi (thn (ha.run pos _ s2 σ H1 _ I2 q) fun us s3 ⟨vs, H2, I3, rv, q2⟩ => ⟨⟨pin_at I3, I3.kIn⟩, ?_⟩) hst hpl
  have rv2 : Vals (V.ref C :: vs) (Value.ref C :: us) := .cons rfl rv
  have hl : (Value.ref C :: us).length = ps.length := by rw [← rv2.length]; exact F.len _ _ _ _ q2
  have b := hb s3 (Value.ref C :: us) I3.kIn (by rw [List.append_nil]; exact hl)
  rw [List.append_nil] at b
  have z : wpAny (model X.prog X.w) X.A (call (.ref s1.heap.objs.size) us) (EP X ((s1.heap.objs.size, PySem.W.methodObj (.ref g) (.ref C)) :: pins) σ Q) X.xe s3 := by
    refine wpAny_call (PySem.W.method_call (pin_at I3) (codeAny_mono (F.run X.A X.stack s3 H2 ⟨Value.ref C :: us, []⟩ (Value.ref C :: us) (V.ref C :: vs) Q (E σ) hr I3.env0 b rv2 q2) fun r s' hq => ?_))
    cases r with
    | error e => exact hx σ _ H2 s3 e s' I3 hq
    | ok fl =>
      cases fl with
      | ret u => exact I3.after hq
      | next => exact False.elim hq
      | brk => exact False.elim hq
      | cont => exact False.elim hq
  exact thn z fun _ _ y => unpinE y
end
end L2
set_option maxHeartbeats 1000000
namespace Tr
open PySem PySem.Spec PyProof.Rows L2
/-- an expression that gives v and changes nothing -/
def PuV (te : TE) (σ : L2.St) (v : V) : Prop := ∀ H Q, Q v H → te σ H Q
def PuS (ta : TA) (σ : L2.St) (zs : List V) : Prop := ∀ H Q, Q zs H → ta σ H Q
section
variable {σ : L2.St} {te te' : TE} {ta : TA} {v : V} {z z' : Str} {vs : List V} {i : Nat}
theorem qv_var (h : σ[i]? = some (some v)) : PuV (tVar i) σ v := fun H Q q => ⟨_, h, q⟩
theorem qv_c : PuV (tC v) σ v := fun H Q q => q
theorem qv_add (h : PuV te σ (.str z)) (h' : PuV te' σ (.str z')) (hl : z.length + z'.length ≤ 100000) : PuV (tOp rAddU te te') σ (.str (z ++ z')) := fun H Q q => h H _ (h' H _ ⟨sz_le hl, q⟩)
theorem qs_nil : PuS tNil σ [] := fun H Q q => q
theorem qs_cons (h : PuV te σ v) (h' : PuS ta σ vs) : PuS (tCons te ta) σ (v :: vs) := fun H Q q => h H _ (h' H _ q)
theorem qs_go {H : Hp} {Q : List V → Hp → Prop} (h : PuS ta σ vs) (q : Q vs H) : ta σ H Q := h H Q q
theorem qv_go {H : Hp} {Q : VK} (h : PuV te σ v) (q : Q v H) : te σ H Q := h H Q q
end
/-- an item of a tuple: a value, or a list of texts -/
inductive El where
  | v (x : V)
  | ls (zs : List Str)
def ElAt (H0 H : Hp) (x : V) : El → Prop
  | .v y => x = y
  | .ls zs => ∃ l, x = .ref l ∧ H l = some (.lst (zs.map V.str)) ∧ H0 l = none
def ElsAt (H0 H : Hp) : List V → List El → Prop
  | [], [] => True
  | x :: xs, e :: es => ElAt H0 H x e ∧ ElsAt H0 H xs es
  | _, _ => False
theorem ElAt.fr {H0 H H' : Hp} {x : V} {S : List Addr} (f : ∀ x o, H x = some o → x ∉ S → H' x = some o) (hS : ∀ x ∈ S, H0 x ≠ none) : ∀ {e : El}, ElAt H0 H x e → ElAt H0 H' x e
  | .v _, h => h
  | .ls _, ⟨l, e, h1, h2⟩ => ⟨l, e, f _ _ h1 fun q => hS l q h2, h2⟩
theorem ElsAt.fr {H0 H H' : Hp} {S : List Addr} (f : ∀ x o, H x = some o → x ∉ S → H' x = some o) (hS : ∀ x ∈ S, H0 x ≠ none) : ∀ {xs : List V} {es : List El}, ElsAt H0 H xs es → ElsAt H0 H' xs es
  | [], [], _ => trivial
  | _ :: _, _ :: _, ⟨h1, h2⟩ => ⟨ElAt.fr f hS h1, ElsAt.fr f hS h2⟩
  | [], _ :: _, h => h.elim
  | _ :: _, [], h => h.elim
theorem ElAt.free {H1 H0 H : Hp} {x : V} (s : Same H1 H0) : ∀ {e : El}, ElAt H0 H x e → ElAt H1 H x e
  | .v _, h => h
  | .ls _, ⟨l, e, h1, h2⟩ => ⟨l, e, h1, s.free h2⟩
theorem ElsAt.free {H1 H0 H : Hp} (s : Same H1 H0) : ∀ {xs : List V} {es : List El}, ElsAt H0 H xs es → ElsAt H1 H xs es
  | [], [], _ => trivial
  | _ :: _, _ :: _, ⟨h1, h2⟩ => ⟨ElAt.free s h1, ElsAt.free s h2⟩
  | [], _ :: _, h => h.elim
  | _ :: _, [], h => h.elim
theorem ElsAt.len {H0 H : Hp} : ∀ {xs : List V} {es : List El}, ElsAt H0 H xs es → xs.length = es.length
  | [], [], _ => rfl
  | _ :: _, _ :: _, ⟨_, h2⟩ => by rw [List.length_cons, List.length_cons, ElsAt.len h2]
  | [], _ :: _, h => h.elim
  | _ :: _, [], h => h.elim
/-- the items of one tuple -/
def PuT (ta : TA) (σ : L2.St) (es : List El) : Prop := ∀ H Q, (∀ us H', Same H H' → ElsAt H H' us es → Q us H') → ta σ H Q
section
variable {σ : L2.St} {te : TE} {ta tr : TA} {v : V} {zs : List Str} {es : List El}
theorem pt_nil : PuT tNil σ [] := fun H Q q => q [] H (Same.refl _) trivial
theorem pt_v (h : PuV te σ v) (hr : PuT tr σ es) : PuT (tCons te tr) σ (.v v :: es) := fun H Q q => s_cons (h H _ (hr H _ fun us H' s e => q _ H' s ⟨rfl, e⟩))
theorem pt_ls (h : PuS ta σ (zs.map V.str)) (hl : zs.length ≤ 1000) (hr : PuT tr σ es) : PuT (tCons (tLst ta) tr) σ (.ls zs :: es) := by
  intro H Q q
  refine s_cons (s_lst (h H _ ?_))
  refine ⟨sz_le (by rw [List.length_map]; omega), fun l nl => ?_⟩
  refine hr _ _ fun us H' s' he => ?_
  have s1 : Same H (upd H l (.lst (zs.map V.str))) := Same.new nl
  exact q _ H' (s1.trans s') ⟨⟨l, rfl, s' _ _ upd_same, nl⟩, he.free s1⟩
end
/-- a list of tuples -/
def RowsAt (H0 H : Hp) (us : List V) (rows : List (List El)) : Prop := us.length = rows.length ∧ ∀ (i : Nat) (x : V) (es : List El), us[i]? = some x → rows[i]? = some es → ∃ t vs, x = .ref t ∧ H t = some (.tup vs) ∧ H0 t = none ∧ ElsAt H0 H vs es
theorem RowsAt.fr {H0 H H' : Hp} {us : List V} {rows : List (List El)} {S : List Addr} (h : RowsAt H0 H us rows) (f : ∀ x o, H x = some o → x ∉ S → H' x = some o) (hS : ∀ x ∈ S, H0 x ≠ none) : RowsAt H0 H' us rows :=
  ⟨h.1, fun i x es hx hp => by
    obtain ⟨t, vs, e, h1, h2, h3⟩ := h.2 i x es hx hp
    exact ⟨t, vs, e, f _ _ h1 fun q => hS t q h2, h2, h3.fr f hS⟩⟩
theorem RowsAt.same {H0 H H' : Hp} {us : List V} {rows : List (List El)} (h : RowsAt H0 H us rows) (s : Same H H') : RowsAt H0 H' us rows := h.fr (S := []) (fun x o hx _ => s _ _ hx) (fun x hx => by cases hx)
def PuR (ta : TA) (σ : L2.St) (rows : List (List El)) : Prop := ∀ H Q, (∀ us H', Same H H' → RowsAt H H' us rows → Q us H') → ta σ H Q
section
variable {σ : L2.St} {ta tr : TA} {es : List El} {rows : List (List El)}
theorem pr_nil : PuR tNil σ [] := fun H Q q => q [] H (Same.refl _) ⟨rfl, fun i x p h => by simp at h⟩
theorem pr_cons (h : PuT ta σ es) (hl : es.length ≤ 1000) (hr : PuR tr σ rows) : PuR (tCons (tTup ta) tr) σ (es :: rows) := by
  intro H Q q
  refine s_cons (s_tup (h H _ fun vs H1 s1 he => ?_))
  refine ⟨sz_le (by rw [he.len]; omega), fun t nt => ?_⟩
  have s2 : Same H1 (upd H1 t (.tup vs)) := Same.new nt
  refine hr _ _ fun us H' s' hp => ?_
  refine q _ H' ((s1.trans s2).trans s') ⟨by rw [List.length_cons, List.length_cons, hp.1], fun i x es' hx hpp => ?_⟩
  cases i with
  | zero =>
    cases hx
    cases hpp
    exact ⟨t, vs, rfl, s' _ _ upd_same, s1.free nt, he.fr (S := []) (fun x o hx _ => s' _ _ (s2 _ _ hx)) (fun x hx => by cases hx)⟩
  | succ i =>
    obtain ⟨t', vs', e, h1, h2, h3⟩ := hp.2 i x es' hx hpp
    exact ⟨t', vs', e, h1, (s1.trans s2).free h2, h3.free (s1.trans s2)⟩
theorem pr_go {H : Hp} {Q : List V → Hp → Prop} (h : PuR ta σ rows) (q : ∀ us H', Same H H' → RowsAt H H' us rows → Q us H') : ta σ H Q := h H Q q
end
end Tr
namespace L2
open PySem PySem.Spec PyProof.Rows
section
variable {X : Cx} {CI CL : CXT} {n : Nat} {C fi fl q it l : Addr} {fdI fdL : FuncData} {psI psL : List Str} {spI spL : Sp} {pins : List (Addr × Obj)} {σ : L2.St} {A1 : Around} {xs : List V}
theorem it_loop {Rs : Result → Shared → Prop} (hc : X.calm = true) (hd : A1.in1.handled = none) : ∀ (m i : Nat) (acc : List V) (H : Hp) (s : Shared), xs.length - i = m → i ≤ xs.length → acc.length + (xs.length - i) ≤ sizeLine → Inv X pins σ H s → H q = some (.lst acc) → H it = some (ItO l it i) → H l = some (.lst xs) → q ≠ l → q ≠ it → l ≠ it →
    (∀ H' s', Inv X pins σ H' s' → H' q = some (.lst (acc ++ xs.drop i)) → (∀ b, b ≠ q → b ≠ it → H' b = H b) → Rs (.ok (.ret .none)) s') → codeAny (model X.prog X.w) A1 (.builtin "list.extend.loop" ⟨[.ref q, .ref it, .none], []⟩) Rs s := by
  intro m
  induction m with
  | zero =>
    intro i acc H s hm hi hz I hq hit hl n1 n2 n3 hR
    have e : i = xs.length := by omega
    subst e
    refine codeAny_builtin PySem.F.entry_extend_loop ?_
    rw [Around.under_plainId PySem.F.plain_extend_loop _]
    show wpAny _ A1.in1 (pyNext (.ref it) >>= _) _ _ s
    obtain ⟨its, rv, pl, hz2⟩ := I.list (SqL.of hl)
    have mu : Mut (H it) := by rw [hit]; exact True.intro
    refine wpAny_bind (DSub.py_end hd (itO_get I hit) pl.isList (by rw [List.getElem?_toArray]; exact rv.none_of (by simp)) fun h' e1 sb => ?_)
    have I2 : Inv X pins σ (upd H it (ItE it xs.length)) { s with heap := h' } := I.write (x := it) (e := it) (t' := s.toks) mu (.inl rfl) (fun b o nb z => sb b o nb z) ⟨_, e1⟩ (itE_ok e1)
    exact wpAny_pure (hR _ _ I2 (by rw [upd_ne n2, hq]; simp) fun b _ hb => upd_ne hb)
  | succ m ih =>
    intro i acc H s hm hi hz I hq hit hl n1 n2 n3 hR
    have hlt : i < xs.length := by omega
    obtain ⟨x, hx⟩ : ∃ x, xs[i]? = some x := ⟨_, List.getElem?_eq_getElem hlt⟩
    refine codeAny_builtin PySem.F.entry_extend_loop ?_
    rw [Around.under_plainId PySem.F.plain_extend_loop _]
    show wpAny _ A1.in1 (pyNext (.ref it) >>= _) _ _ s
    obtain ⟨its, rv, pl, hz2⟩ := I.list (SqL.of hl)
    obtain ⟨u, hu, ru⟩ := rv.get hx
    have mu : Mut (H it) := by rw [hit]; exact True.intro
    refine wpAny_bind (DSub.py_item (itO_get I hit) pl.isList (by rw [List.getElem?_toArray]; exact hu) fun h' e1 sb => ?_)
    have I2 : Inv X pins σ (upd H it (ItO l it (i + 1))) { s with heap := h' } := I.write (x := it) (e := it) (t' := s.toks) mu (.inl rfl) (fun b o nb z => (sb.2 b nb).trans z) ⟨_, e1⟩ (itO_ok e1)
    show wpAny _ A1.in1 (updateSeq q (·.push u) >>= _) _ _ _
    have hq2 : upd H it (ItO l it (i + 1)) q = some (.lst acc) := by rw [upd_ne n2]; exact hq
    obtain ⟨z, its2, k, r2, hl2, e2⟩ := I2.lstM hq2
    refine wpAny_bind (wpAny_updateSeq e2 rfl (wpAny_pure ⟨plainId_quiet PySem.F.plain_extend_loop _, ?_⟩) (by rw [List.size_toArray]; omega) (by show (its2.toArray.push u).size ≤ sizeLine + 1; rw [Array.size_push, List.size_toArray]; omega))
    refine ih (i + 1) (acc ++ [x]) _ _ (by omega) hlt (by rw [List.length_append, List.length_singleton]; omega) (I2.lset (its' := its2 ++ [u]) (t' := s.toks) hq2 e2 (by simp) (r2.append (.cons ru .nil)) (by rw [List.length_append, List.length_singleton]; omega)) upd_same (by rw [upd_ne (Ne.symm n2)]; exact upd_same) (by rw [upd_ne (Ne.symm n1), upd_ne n3]; exact hl) n1 n2 n3 fun H' s' I' h1 h2 => hR H' s' I' ?_ fun b b1 b2 => by rw [h2 b b1 b2, upd_ne b1, upd_ne b2]
    have ed : xs.drop i = x :: xs.drop (i + 1) := by
      obtain ⟨hi2, e⟩ := List.getElem?_eq_some_iff.mp hx
      rw [← e]; exact List.drop_eq_getElem_cons hi2
    rw [h1, ed]; simp
theorem len_hint {M : World} {K : PySem.W.Frag} {pg : Program} {A : Around} {E : Value → Shared → Prop} {s : Shared} {Q : Bool → Shared → Prop} {h0 : Heap} {L0 : Addr} {m0 : Str → Option Value} {ox : Obj} {od : Option Obj} {a : Addr} (F : Fr h0 L0 s.heap m0) (X0 : K.In h0) (J : PySem.W.InstAt s.heap a ox C od)
    (hl : PySem.W.findIn K (.ref C) "__len__" = some (some (.ref fl))) (hf : PySem.W.isFn K (.ref fl) = true)
    (h : wpAny (model pg M) A (call (.builtin "len") [.ref a]) (fun v s' => ∃ (k : Nat) (t : Tok), v = .int k t ∧ k ≤ sizeLine ∧ Q ((k : Int) != 0) s') (fun e s' => False) s) : wpAny (model pg M) A (Builtin.List.listLengthHint (.ref a)) Q E s := by
  have X := X0.keeps F.keep
  unfold Builtin.List.listLengthHint
  refine wpAny_bind (wpAny_bind (J.type.here ((PySem.W.looks_findIn X hl).here ?_)))
  refine PySem.W.KFB.if_not rfl ?_
  refine wpAny_ite_split (fun _ => ?_) (fun z => absurd rfl z)
  refine wpAny_bind (wpAny_rule ?_)
  refine wpAny_bind (wpAny_attempt (wpAny_mono h (fun v s' hv => ?_) fun e s' z => z.elim))
  obtain ⟨k, t, rfl, hk, q⟩ := hv
  refine wpAny_bind (wpAny_of_eq (a := some (k : Int)) (by first | rfl | kernel_rfl) ?_)
  refine wpAny_ite_split (fun z => ?_) (fun _ => wpAny_pure q)
  exact absurd z (by unfold Builtin.List.listTooLong; rw [decide_eq_true_eq]; have : ((k : Nat) : Int).toNat = k := Int.toNat_natCast k; omega)
/-- list(o) -/
def rListIt (C : Addr) (spI spL : Sp) : List V → Hp → VK → Prop := fun vs H Q => ∃ (a dx : Addr) (fs : List (Str × V)), vs = [.ref a] ∧ H a = some (.ins C dx fs) ∧ ∀ q, H q = none →
  spI [.ref a] (upd H q (.lst [])) (fun v H1 => ∃ (it l : Addr) (xs : List V), v = .ref it ∧ H1 it = some (ItO l it 0) ∧ H1 l = some (.lst xs) ∧ H1 q = some (.lst []) ∧ q ≠ l ∧ q ≠ it ∧ H1 a = some (.ins C dx fs) ∧
    spL [.ref a] H1 (fun v2 H2 => ∃ k : Nat, v2 = .int k ∧ k ≤ sizeLine ∧ H2 = H1) E0 ∧ ∀ H3, (∀ b, b ≠ q → b ≠ it → H3 b = H1 b) → H3 q = some (.lst xs) → Q (.ref q) H3) E0
theorem call_listIt (hsI : PySem.W.findIn X.K (.ref C) "__iter__" = some (some (.ref fi))) (hfI : PySem.W.isFn X.K (.ref fi) = true) (hsL : PySem.W.findIn X.K (.ref C) "__len__" = some (some (.ref fl))) (hfL : PySem.W.isFn X.K (.ref fl) = true)
    (FI : FnOk X.prog X.w X.K X.mg X.base CX0 n fi fdI psI spI) (bI : Binds X.K fdI psI []) (FL : FnOk X.prog X.w X.K X.mg X.base CX0 n fl fdL psL spL) (bL : Binds X.K fdL psL []) (hr : Room (n + 4) X.A) (hcalm : X.calm = true) : CallR X (.type "list") (rListIt C spI spL) := by
  intro pins s σ H xs us Q I rv h
  obtain ⟨a, dx, fs, rfl, ha, hq⟩ := h
  obtain ⟨u, rfl, ru⟩ := rv.one
  cases ru
  have px : ∀ σ, PassesAt CX0 X σ E0 := fun σ pins H s e s' _ z => z.elim
  refine callType_codes (Q₁ := fun obj s₁ => obj = .ref s.heap.objs.size ∧ s₁ = { s with heap := s.heap.push { cls := .type "list", data := .seq #[] } }) PySem.F.called_list (PySem.F.typeCall_list_1 _) PySem.F.entry_list_init
    (code_list_new _ ⟨rfl, rfl⟩) fun obj s₁ h₁ => ?_
  obtain ⟨rfl, rfl⟩ := h₁
  have hS : (s.heap.push { cls := .type "list", data := .seq #[] }).get? s.heap.objs.size = some { cls := .type "list", data := .seq #[] } := Heap.get?_push_size _ rfl
  refine ⟨⟨_, hS, rfl⟩, PySem.F.args_list_init_2 _ _, ?_⟩
  have fr : H s.heap.objs.size = none := I.hok.fresh (Nat.le_refl _)
  have hsp := hq _ fr
  have I1 : Inv X pins σ (upd H s.heap.objs.size (.lst [])) { s with heap := s.heap.push { cls := .type "list", data := .seq #[] } } := I.lnew (its := []) (t' := s.toks) .nil (Nat.zero_le _)
  show wpAny _ _ (do let old ← Builtin.List.listItems (.ref s.heap.objs.size); Builtin.List.listUpdate (.ref s.heap.objs.size) (fun _ => #[]); letGo old.toList.reverse; Builtin.List.listExtendWith (.ref s.heap.objs.size) (.ref a) .none) _ _ _
  refine wpAny_bind ?_
  unfold Builtin.List.listItems
  refine wpAny_bind (wpAny_seqItems hS rfl (wpAny_pure ?_))
  show wpAny _ _ (updateSeq s.heap.objs.size (fun _ => #[]) >>= fun _ => letGo (#[] : Array Value).toList.reverse >>= fun _ => Builtin.List.listExtendWith (.ref s.heap.objs.size) (.ref a) .none) _ _ _
  refine wpAny_bind (wpAny_updateSeq hS rfl ?_)
  have I2 := I1.lset (f := fun _ => #[]) (its := []) (its' := []) (ys := []) (t' := s.toks) upd_same hS rfl .nil (Nat.zero_le _)
  rw [upd_upd] at I2
  refine wpAny_bind (wpAny_letGo ?_)
  have ha2 : upd H s.heap.objs.size (.lst []) a = some (.ins C dx fs) := by rw [upd_ne (ne_of_none ha fr)]; exact ha
  have hne : s.heap.objs.size ≠ a := Ne.symm (ne_of_none ha fr)
  generalize s.heap.objs.size = q at *
  generalize upd H q (.lst []) = Hq at *
  obtain ⟨mA, J, _⟩ := ins_get I2.hok ha2
  obtain ⟨od, J, _⟩ := J.look
  obtain ⟨m0, hF⟩ := I2.fr
  unfold Builtin.List.listExtendWith
  refine wpAny_bind (J.type.here ?_)
  have h1 : Builtin.List.listSameRef (.ref q) (.ref a) = false := by simp [Builtin.List.listSameRef, hne]
  have h2 : (Value.ref C == Value.type "list") = false := rfl
  have h3 : (Value.ref C == Value.type "tuple") = false := rfl
  simp only [h1, h2, h3, Bool.or_false, Bool.false_eq_true, if_false]
  refine wpAny_bind (PySem.W.owit_iter hF I2.ok.mod.kin J hsI hfI ?_)
  refine wpAny_mono (call_fnAt (vs := [.ref a]) FI (hr.in1.in1.mono (by omega)) rfl bI (px σ) I2 (.cons rfl .nil) hsp) (fun r s3 hr3 => ?_) fun e s3 he => he
  obtain ⟨v, H1, I3, rv3, it, l, xs, rfl, hit, hl, hq1, nql, nqi, ha1, hsp2, hk⟩ := hr3
  cases (show r = Value.ref it from rv3)
  have hh : X.A.in1.in1.handled = none := I.ok.hd hcalm
  have nli : l ≠ it := ne_of hl hit (fun z => nomatch z)
  unfold PySem.W.OwitIt
  refine wpAny_specialOf (T := "list_iterator") (DSub.iter_of (itO_get I3 hit)).typeIs slot_listiter_next.lookup ?_
  obtain ⟨mA2, J2, _⟩ := ins_get I3.hok ha1
  obtain ⟨od2, J2, _⟩ := J2.look
  obtain ⟨m2, hF2⟩ := I3.fr
  refine wpAny_bind (wpAny_holding (len_hint hF2 I3.ok.mod.kin J2 hsL hfL (PySem.W.len_K hF2 I3.ok.mod.kin J2 hsL hfL (wpAny_mono (call_fnAt (X := X.wish fun _ _ => False) (vs := [.ref a]) FL (hr.in1.in1.in1.mono (by omega)) rfl bL (fun pins H s e s' _ z => z.elim) (I3.wish _) (.cons rfl .nil) hsp2) (fun r4 s4 hr4 => ?_) fun e s4 he => he)))) 
  obtain ⟨v4, H4, I4, rv4, k, rfl, hk4, e4H⟩ := hr4
  rw [e4H] at I4
  obtain ⟨t4, rfl⟩ := rv4
  refine ⟨by rw [sizeLine_eq] at hk4; omega, k, _, rfl, hk4, ?_⟩
  have I5 : Inv X pins σ H1 { s4 with toks := s4.toks + 1 } := (I4.unwish).tok _
  have last : ∀ s5, Inv X pins σ H1 s5 → codeAny (model X.prog X.w) X.A.in1 (.builtin "list.extend.loop" ⟨[.ref q, .ref it, .none], []⟩) (wants (fun r s₂ => r = .none ∧ EP X pins σ Q (.ref q) s₂) X.xe) s5 := fun s5 I => by
    obtain ⟨_, _, _, hz⟩ := I.list (SqL.of hl)
    exact it_loop hcalm hh _ 0 [] H1 s5 rfl (Nat.zero_le _) (by simpa using hz) I hq1 hit hl nql nqi nli fun H' s' I' e1 e2 => ⟨rfl, .ref q, H', I', rfl, hk H' e2 (by simpa using e1)⟩
  refine wpAny_ite_split (fun _ => ?_) (fun _ => wpAny_pure ⟨plainId_quiet PySem.F.plain_extend_loop _, last _ I5⟩)
  refine wpAny_bind (wpAny_rule ?_)
  refine wpAny_bind ?_
  show wpAny _ _ (updateSeq q (·.push .none) >>= fun _ => updateSeq q (·.pop)) _ _ _
  obtain ⟨z, its, kk, r3, hl3, e3⟩ := I5.lstM hq1
  cases r3
  refine wpAny_bind (wpAny_updateSeq e3 rfl ?_)
  have I6 := I5.lset (f := (·.push Value.none)) (its' := [Value.none]) (ys := [.non]) (t' := s4.toks + 1) hq1 e3 (by simp) (.cons rfl .nil) (by rw [List.length_singleton, sizeLine_eq]; decide)
  obtain ⟨z4, its4, k4, r4, hl4, e4⟩ := I6.lstM upd_same
  obtain ⟨u4, rfl, ru4⟩ := r4.one
  refine wpAny_updateSeq e4 rfl ?_ (by show 1 ≤ sizeLine; rw [sizeLine_eq]; decide) (by show 0 ≤ sizeLine + 1; exact Nat.zero_le _)
  refine wpAny_pure ⟨plainId_quiet PySem.F.plain_extend_loop _, last _ ?_⟩
  have I7 := I6.lset (f := (·.pop)) (its := [u4]) (its' := []) (ys := []) (t' := s4.toks + 1) upd_same e4 (by rfl) .nil (Nat.zero_le _)
  rw [upd_upd] at I7
  have hH : upd H1 q (.lst []) = H1 := by
    funext b
    by_cases hb : b = q
    · rw [hb, upd_same, hq1]
    · rw [upd_ne hb]
  rw [hH] at I7
  exact I7
end
end L2
namespace L2
open PySem PySem.Spec PyProof.Rows
section
variable {X : Cx} {e : Expr} {te : TE} {p pos apos cpos : Pos}
def tListVals (te : TE) : TE := fun σ H Q => te σ H fun x H1 => ∃ (d : Addr) (kvs : List (Key × V)), x = .ref d ∧ H1 d = some (.dK kvs) ∧ ∀ q, H1 q = none → Q (.ref q) (upd H1 q (.lst (kvs.map (·.2))))
theorem kv_vals {kvs : List (Key × V)} {vs : List (Key × Value)} (kv : KV kvs vs) : Vals (kvs.map (·.2)) (vs.map (·.2)) := by
  induction kv with
  | nil => exact .nil
  | cons r _ ih => exact .cons r.2 ih
theorem pe_listVals (hc : X.calm = true) (he : PE X e te) (hg : Gl X "list") (hm : X.mg "list" = none) (hv : bootBuiltins "list" = some (.type "list")) (hbase : attributeBase e "values" X.env (eval e X.env) = eval e X.env := by rfl) (hline : (apos.endLine == cpos.line) = true := by rfl)
    (hs : starEach [.Call (.Attribute e "values" apos) [] [] cpos] X.env = (false, eval (.Call (.Attribute e "values" apos) [] [] cpos) X.env) :: starEach [] X.env := by rfl) :
    PE X (.Call (.Name "list" p) [.Call (.Attribute e "values" apos) [] [] cpos] [] pos) (tListVals te) := by
  refine ⟨fun pins s σ H Q I hq => ?_⟩
  refine wpAny_Call_Name_kw (ld_blt I hg hm hv ?_)
  refine PyProof.Rows.callWith_type1 ?_ hs rfl
  rw [hs]
  show wpAny _ _ (spliced ((false, eval (.Call (.Attribute e "values" apos) [] [] cpos) X.env) :: backTo pos (starEach [] X.env))) _ _ s
  refine Calls.spliced_cons ?_
  refine wpAny_Call_method (T := "dict") (id := "dict.values") hbase rfl hline F.plainAttrs_dict F.slot_dict_values F.type_dict_values (thn (he.run pins s σ H _ I hq) fun u s1 ⟨x, H1, I1, rx, d, kvs, ex, hd, q⟩ => ?_)
  subst ex
  obtain rfl : u = Value.ref d := rx
  obtain ⟨hz, hs0, vs, kv, hdo⟩ := I1.hok d _ hd
  obtain ⟨ep, hat⟩ := hdo.dictAt
  have lk : kvs.length = vs.length := Paired.length kv
  have I2 : Inv X pins σ H1 { s1 with heap := s1.heap.push { cls := .type "dict_values", data := .fields #[.ref d] } } := I1.kept (t' := s1.toks) fun b ob q => Heap.get?_push_of_some _ q
  refine ⟨hdo.typeIs, hdo.mapOf.noDict, ?_⟩
  show wpAny _ _ (callWith cpos (.builtin "dict.values") [.ref d] [] []) _ X.xe s1
  refine method_meetsIn F.slot_dict_values F.entry_dict_values rfl (PySem.evalArgs_none ⟨rfl, hdo.typeIs, F.args_dict_values_1 _, _, meets_dict_values (mixKind X.prog X.w) d hs0, ⟨vs, hdo⟩, ?_⟩)
  refine Calls.spliced_nil ?_
  refine PySem.W.kdl_call (PySem.W.kdl_values (knd := mixKind X.prog X.w) (kvs := vs) (ep := ep)) (I1.ok.hd hc) ⟨⟨_, Heap.get?_push_size _ rfl, rfl, rfl⟩, hat.push _⟩ (by omega) fun h' tk acc c hk hS hacc => ?_
  have hvals : acc.toList = vs.map (·.2) := by
    apply List.ext_getElem?
    intro i
    rw [List.getElem?_map, Array.getElem?_toList]
    cases ei : acc[i]? with
    | none =>
      have : vs.length ≤ i := by rw [Array.getElem?_eq_none_iff, hacc.1] at ei; exact ei
      rw [List.getElem?_eq_none this]; rfl
    | some v =>
      obtain ⟨k, hk2⟩ := hacc.2 i v ei
      rw [hk2]; rfl
  have I3 := I2.laid (t' := tk) (o := .lst (kvs.map (·.2))) hk (Nat.le_refl _) ⟨by rw [List.length_map]; exact hz, vs.map (·.2), c, kv_vals kv, by rw [hS]; rw [← hvals]⟩
  exact ⟨.ref _, _, I3, rfl, q _ (I2.hok.fresh (Nat.le_refl _))⟩
end
end L2
namespace L2
open PySem PySem.Spec PyProof.Rows PySem.OXB
def rIsE2 (K : PySem.W.Frag) (D a : Addr) (cls : Value) (d : Option Addr) : List V → Hp → VK → Prop := fun xs H Q => ∃ (c : V) (cv : Value) (b : Bool), xs = [.ref a, c] ∧ cls = .ref D ∧ (∀ dd, d = some dd → ∃ fs, H dd = some (.xd fs)) ∧ (∀ u, RelV c u → u = cv) ∧ PySem.W.kitOne K (.ref D) cv = some b ∧ Q (.bl b) H
theorem call_isE2 {X : Cx} {a D : Addr} {oe : Obj} {cls : Value} {d : Option Addr} {pn : List (Addr × Obj)} (K : PySem.W.Frag) (C : ExcC K D) (hz : Zc cls d oe) (hf : ∃ vs, oe.data = .fields vs) (hK : X.K = K := by rfl) : CallR (X.suite a ((a, oe) :: pn)) (.builtin "isinstance") (rIsE2 K D a cls d) := by
  subst hK
  intro pins s σ H xs us Q I r h
  obtain ⟨c, cv, b, rfl, rfl, hdd, hcv, e, q⟩ := h
  cases r with
  | cons rx rr =>
    cases rr with
    | cons rt rr =>
      cases rr
      cases rx
      have ec := hcv _ rt
      subst ec
      obtain ⟨hget, _⟩ := I.pin (a, oe) (List.mem_append.mpr (.inl List.mem_cons_self))
      obtain ⟨vs, hv⟩ := hf
      have J : ∃ ox od, PySem.W.InstAt s.heap a ox D od := by
        cases d with
        | none => exact ⟨oe, none, hget, hz.1, by unfold PySem.W.notCls; rw [hv] <;> rfl, by rw [hz.2]; trivial⟩
        | some dd =>
          obtain ⟨fs, ed⟩ := hdd dd rfl
          have hx : ∃ mA, s.heap.Ns1 dd mA ∧ ∀ f, RelO (fs.lookup f) (mA f) := I.hok dd _ ed
          obtain ⟨mA, hns, _⟩ := hx
          obtain ⟨od, ho, _⟩ := lookIn_ns hns
          exact ⟨oe, some od, hget, hz.1, by unfold PySem.W.notCls; rw [hv] <;> rfl, by rw [hz.2]; exact ho⟩
      exact PySem.W.kia_one (PySem.W.kitx_excO C.hg C.hk C.hs C.hd C.ha C.hn C.ht C.hm) I.kIn J e (fun z => nomatch z) fun tk => ⟨.bl b, H, I.kept (t' := tk) fun _ _ z => z, rfl, q⟩
end L2
set_option maxHeartbeats 1000000
namespace Tr
open PySem PySem.Spec PyProof.Rows L2
theorem op_mulS {X : Cx} : OpR X (binaryOp .Mult) (fun x y H Q => ∃ z n, x = .str z ∧ y = .int n ∧ MulOk z n ∧ Q (.str (Txt.mul z n)) H) := by
  intro pins s σ H x y v u Q I rx ry h
  obtain ⟨i, j, rfl, rfl, hz, q⟩ := h
  obtain ⟨t, rfl⟩ := rx
  obtain ⟨t', rfl⟩ := ry
  exact SB.mul hz fun t' tk => ⟨.str _, H, I.tok _, ⟨_, rfl⟩, q⟩
theorem mulOk_small {z : Str} {n : Int} (h0 : 0 ≤ n) (hn : n ≤ 1000) (hz : z.length ≤ 1000) : MulOk z n := by
  have e1 : n.toNat ≤ 1000 := by omega
  refine ⟨by simp; omega, fun h1 h2 => ?_, fun h1 h2 => ?_⟩
  · have : (2 ^ 63 - 1 : Int) / n ≥ 1000 := by
      refine Int.le_ediv_of_mul_le (by omega) ?_
      have : (1000 : Int) * n ≤ 1000 * 1000 := by omega
      omega
    omega
  · have h5 : z.length * n.toNat ≤ 1000 * 1000 := Nat.mul_le_mul hz e1
    have h6 : 1000 * 1000 ≤ sizeLine := by decide
    unfold Builtin.Str.tooLong
    simp
    omega
end Tr
set_option maxHeartbeats 1000000
namespace Tr
open PySem PySem.Spec PyProof.Rows L2
section
variable {σ : L2.St} {H : Hp} {Q : VK} {K : PySem.W.Frag}
theorem s_lcRJ {n : Int} {g : TG} {te : TE} {vs : List Nat} (J : Nat → Addr → List V → Hp → Prop) (h0 : 0 ≤ n) (h1 : n ≤ 100000)
    (j0 : ∀ D, H D = none → J 0 D [] (upd H D (.lst []))) (hG : ∀ i D acc H', J i D acc H' → H' D = some (.lst acc) ∧ acc.length = i)
    (hs : ∀ (i : Nat) (D : Addr) (acc : List V) (H2 : Hp) (R : VK), (i : Int) < n → J i D acc H2 → (∀ v H4, H4 D = some (.lst acc) → J (i + 1) D (acc ++ [v]) (upd H4 D (.lst (acc ++ [v]))) → R v H4) →
      g (.int (i : Int)) (wipe σ vs) H2 fun σ2 H3 => wipe σ2 vs = wipe σ vs ∧ te σ2 H3 R)
    (hd : ∀ D acc H', H D = none → J n.toNat D acc H' → Q (.ref D) H') : mRng (LcGo g tYes te vs σ Q) [.int n] H := by
  refine ⟨n, rfl, by omega, by omega, fun D hD => ?_⟩
  refine lc_it (walk_range (lo := 0) (n := n.toNat)) (fun i H' => ∃ acc, J i D acc H') ⟨[], j0 D hD⟩ (fun i H' _ pv => trivial) ?_ ?_
  · rintro i x H2 H' hi ⟨acc, j⟩ ⟨rfl, hxx⟩
    obtain ⟨hD2, hl⟩ := hG _ _ _ _ j
    subst hxx
    have e : (0 : Int) + (i : Int) = (i : Int) := Int.zero_add _
    show g (V.int (0 + (i : Int))) (wipe σ vs) H' _
    rw [e]
    have := hs i D acc H' (fun y H4 => ∃ acc, H4 D = some (.lst acc) ∧ acc.length < sizeLine ∧ ∃ acc', J (i + 1) D acc' (upd H4 D (.lst (acc ++ [y])))) (by omega) j fun v H4 h4 j4 => ⟨acc, h4, by rw [hl]; exact sz_lt (by omega), _, j4⟩
    have e2 : (fun σ2 H3 => wipe σ2 vs = wipe σ vs ∧ te σ2 H3 (fun y H4 => ∃ acc, H4 D = some (.lst acc) ∧ acc.length < sizeLine ∧ ∃ acc', J (i + 1) D acc' (upd H4 D (.lst (acc ++ [y]))))) =
      (fun σ2 H3 => wipe σ2 vs = wipe σ vs ∧ tYes σ2 H3 fun b' H3 => if b' = true then te σ2 H3 (fun y H4 => ∃ acc, H4 D = some (.lst acc) ∧ acc.length < sizeLine ∧ ∃ acc', J (i + 1) D acc' (upd H4 D (.lst (acc ++ [y])))) else ∃ acc, J (i + 1) D acc H3) := rfl
    rw [e2] at this
    exact this
  · rintro H' ⟨acc, j⟩
    exact hd D acc H' hD j
end
theorem len_app (x y : Str) : (x ++ y).length = x.length + y.length := by
  show (x.cps ++ y.cps).size = _
  rw [Array.size_append]; rfl
theorem ok_app {x y : Str} (h1 : PyData.strOk x = true) (h2 : PyData.strOk y = true) : PyData.strOk (x ++ y) = true := by
  show (x.cps ++ y.cps).all (· < 0x110000) = true
  rw [Array.all_append]
  exact Bool.and_eq_true_iff.mpr ⟨h1, h2⟩
theorem ok_empty : PyData.strOk Str.empty = true := by decide +kernel
theorem ok_nil : PyData.strOk (Str.ofString "") = true := by decide +kernel
theorem join_e : ∀ ys : List Str, (Txt.join (Str.ofString "") ys).length = (ys.map (·.length)).sum ∧ ((∀ y ∈ ys, PyData.strOk y = true) → PyData.strOk (Txt.join (Str.ofString "") ys) = true)
  | [] => ⟨rfl, fun _ => ok_empty⟩
  | [x] => by
    rw [TL.join_eq]
    exact ⟨by show x.length = _; simp, fun h => h x (by simp)⟩
  | x :: y :: ys => by
    have ih := join_e (y :: ys)
    rw [TL.join_eq] at ih ⊢
    refine ⟨?_, fun h => ?_⟩
    · show (x ++ Str.ofString "" ++ Str.join (Str.ofString "") (y :: ys)).length = _
      rw [len_app, len_app, ih.1]
      show x.length + 0 + _ = _
      simp
    · exact ok_app (ok_app (h x (by simp)) ok_nil) (ih.2 fun z hz => h z (List.mem_cons_of_mem _ hz))
theorem foldl_app {α : Type} : ∀ (l : List (Array α)) (a : Array α), (l.foldl (· ++ ·) a).toList = a.toList ++ (l.map Array.toList).flatten
  | [], a => by simp
  | x :: l, a => by rw [List.foldl_cons, foldl_app l]; simp
theorem mul_e {z : Str} {n : Int} (hz : PyData.strOk z = true) (h1 : z.length = 1) (h0 : 0 ≤ n) : (Txt.mul z n).length = n.toNat ∧ PyData.strOk (Txt.mul z n) = true := by
  unfold Txt.mul
  by_cases c1 : n < 1
  · rw [if_pos c1]
    have : n = 0 := by omega
    subst this
    exact ⟨rfl, ok_empty⟩
  · rw [if_neg c1]
    split
    · rename_i c2
      rw [h1] at c2
      have : n = 1 := by simpa using c2
      subst this
      exact ⟨h1, hz⟩
    · have e := foldl_app (List.replicate n.toNat z.cps) #[]
      have hz1 : z.cps.toList.length = 1 := h1
      refine ⟨?_, ?_⟩
      · show ((List.replicate n.toNat z.cps).foldl (· ++ ·) #[]).size = _
        rw [← Array.length_toList, e]
        simp only [List.map_replicate, List.nil_append, List.length_flatten, List.sum_replicate_nat, hz1, Nat.mul_one]
      · show ((List.replicate n.toNat z.cps).foldl (· ++ ·) #[]).all (· < 0x110000) = true
        rw [← Array.all_toList, e, List.all_eq_true]
        intro c hc
        simp only [List.nil_append, List.mem_flatten, List.mem_map, List.mem_replicate] at hc
        obtain ⟨l, ⟨y, ⟨_, rfl⟩, rfl⟩, hc⟩ := hc
        have hz' : z.cps.all (· < 0x110000) = true := hz
        rw [← Array.all_toList, List.all_eq_true] at hz'
        exact hz' c hc
end Tr
namespace L2
open PySem PySem.Spec PyProof.Rows
theorem Fun.kbn {K : PySem.W.Frag} {x qual : Str} {st : Stmt} {f : Addr} {fd : FuncData} {ps ks : List Str} {n : Nat} (F : Fun K x qual st f fd)
    (h : ∀ (kV doc pm : Value) (an : Option Addr) (cdv ct : Value) (us ws : List Value), us.length = n → ws.length = ks.length → bindArgs (PySem.W.fnOf x qual (defArgs st) (defBody st) (defScope st) .none kV doc pm an cdv ct) ⟨us, ks.zip ws⟩ = pure (ps.zip (us ++ ws))) :
    KBn K fd ps n ks (· ++ ·) (· ++ ·) := by
  obtain ⟨oc, od, kV, doc, pm, an, cdv, ct, osl, rfl, lk, hcd⟩ := F.ex
  exact ⟨fun s us ws X l1 l2 => BindsTo.of_looks fun M => .of_pure (h kV doc pm an cdv ct us ws l1 l2), fun r1 r2 => r1.append r2⟩
def tMethK (C : Addr) (m : Str) (n : Nat) (sp : Sp) (gV : List V → List V → List V) (E : XK) (ta : TE) (t : TA) : TE := fun σ H Q => ta σ H fun x H1 => ∃ a dx fs, x = .ref a ∧ H1 a = some (.ins C dx fs) ∧ fs.lookup m = none ∧
  t σ H1 fun zs H2 => zs.length = n ∧ sp (gV [x] zs) H2 Q E
section
variable {X : Cx} {CX : CXT} {k : Nat} {f C : Addr} {fd : FuncData} {ps ks : List Str} {sp : Sp} {E : XK} {o : Expr} {m : Str} {apos pos : Pos} {kws : List Keyword} {ta : TE} {tk : TA} {g : List Value → List Value → List Value} {gV : List V → List V → List V}
theorem pe_methK {pl : Sem Bool} (he : PE X o ta) (c : Cls X.K C) (hm : Meth X.K C m f) (F : FnOk X.prog X.w X.K X.mg X.base CX k f fd ps sp) (hr : Room k X.A) (hb : KBn X.K fd ps 1 ks g gV) (hx : Passes CX X E) (hkw : PK X kws tk)
    (hall : (backToKw pos (keywordEach kws X.env)).all (·.1.isSome) = true := by rfl) (hks : (backToKw pos (keywordEach kws X.env)).filterMap (·.1) = ks := by rfl)
    (hpl : ((backTo pos (starEach [] X.env)).any (·.1) || (backToKw pos (keywordEach kws X.env)).any (·.1.isNone)) = false := by rfl)
    (ht : eval (.Call (.Attribute o m apos) [] kws pos) X.env = (do
      let ov ← eval o X.env
      standAt apos.atName
      let (f, first) ← holding [ov] (getMethod ov m pl)
      callWith pos f first (backTo pos (starEach [] X.env)) (backToKw pos (keywordEach kws X.env))) := by rfl) :
    PE X (.Call (.Attribute o m apos) [] kws pos) (tMethK C m ks.length sp gV E ta tk) := by
  refine ⟨fun pins s σ H Q I h => ?_⟩
  refine PySem.W.methodCall_KW (pl := pl) (thn (he.run pins s σ H _ I h) fun u s1 ⟨x, H1, I1, rx, a, dx, fs, ex, ea, l, q⟩ => ?_) ht
  subst ex
  obtain rfl : u = Value.ref a := rx
  refine getmeth_ok I1 ea c hm l ?_
  refine PySem.W.callWith_KW0 (first := [.ref a]) (h₀ := X.base) I.ok.mod.kin hm.kp hall ?_ hpl
  refine thn (hkw.run pos pins s1 σ H1 _ I1 q) fun ws s2 ⟨zs, H2, I2, rz, l2, q2⟩ => ⟨I2.kIn, ?_⟩
  rw [hks]
  exact run_fnN (us := [.ref a]) (vs := [.ref a]) F hr hb hx I2 (.cons rfl .nil) rz rfl l2 q2
end
end L2
set_option maxHeartbeats 4000000

namespace Tr
open PySem L2
/-- all but what stands at S stays -/
def Fr (H H' : Hp) (S : List Addr) : Prop := ∀ x o, H x = some o → x ∉ S → H' x = some o
abbrev s_Thing___init__ : Stmt := (inClass (top 10) 0)
abbrev N_Thing___init__ : List Str := ["self", "desk", "name"]
theorem sc_Thing___init__ : FnScope ["self", "desk", "name"] ["self", "desk", "name"] (defScope s_Thing___init__) := ⟨rfl, rfl, rfl, by decide +kernel, rfl, by decide +kernel, by decide +kernel⟩
abbrev s_Cell___call__ : Stmt := (inClass (top 11) 1)
abbrev N_Cell___call__ : List Str := ["self"]
theorem sc_Cell___call__ : FnScope ["self"] ["self"] (defScope s_Cell___call__) := ⟨rfl, rfl, rfl, by decide +kernel, rfl, by decide +kernel, by decide +kernel⟩
abbrev s_Cell_value : Stmt := (inClass (top 11) 3)
abbrev N_Cell_value : List Str := ["self", "worth"]
theorem sc_Cell_value : FnScope ["self", "worth"] ["self", "worth"] (defScope s_Cell_value) := ⟨rfl, rfl, rfl, by decide +kernel, rfl, by decide +kernel, by decide +kernel⟩
abbrev s_Cell_put : Stmt := (inClass (top 11) 4)
abbrev N_Cell_put : List Str := ["self", "value"]
theorem sc_Cell_put : FnScope ["self", "value"] ["self", "value"] (defScope s_Cell_put) := ⟨rfl, rfl, rfl, by decide +kernel, rfl, by decide +kernel, by decide +kernel⟩
abbrev s_Cell___iadd__ : Stmt := (inClass (top 11) 6)
abbrev N_Cell___iadd__ : List Str := ["self", "number"]
theorem sc_Cell___iadd__ : FnScope ["self", "number"] ["self", "number"] (defScope s_Cell___iadd__) := ⟨rfl, rfl, rfl, by decide +kernel, rfl, by decide +kernel, by decide +kernel⟩
abbrev s_Desk___init__ : Stmt := (inClass (top 15) 1)
abbrev N_Desk___init__ : List Str := ["self"]
theorem sc_Desk___init__ : FnScope ["self"] ["self"] (defScope s_Desk___init__) := ⟨rfl, rfl, rfl, by decide +kernel, rfl, by decide +kernel, by decide +kernel⟩
abbrev s_Desk_check_placed : Stmt := (inClass (top 15) 2)
abbrev N_Desk_check_placed : List Str := ["self"]
theorem sc_Desk_check_placed : FnScope ["self"] ["self"] (defScope s_Desk_check_placed) := ⟨rfl, rfl, rfl, by decide +kernel, rfl, by decide +kernel, by decide +kernel⟩
abbrev s_Desk_note : Stmt := (inClass (top 15) 4)
abbrev N_Desk_note : List Str := ["self", "name", "worth", "frame"]
theorem sc_Desk_note : FnScope ["self", "name", "worth", "frame"] ["self", "name", "worth"] (defScope s_Desk_note) := ⟨rfl, rfl, rfl, by decide +kernel, rfl, by decide +kernel, by decide +kernel⟩
abbrev s_Desk_use_name : Stmt := (inClass (top 15) 5)
abbrev N_Desk_use_name : List Str := ["self", "name"]
theorem sc_Desk_use_name : FnScope ["self", "name"] ["self", "name"] (defScope s_Desk_use_name) := ⟨rfl, rfl, rfl, by decide +kernel, rfl, by decide +kernel, by decide +kernel⟩
abbrev s_Desk_cell : Stmt := (inClass (top 15) 6)
abbrev N_Desk_cell : List Str := ["self", "name", "value", "made"]
theorem sc_Desk_cell : FnScope ["self", "name", "value", "made"] ["self", "name", "value"] (defScope s_Desk_cell) := ⟨rfl, rfl, rfl, by decide +kernel, rfl, by decide +kernel, by decide +kernel⟩
abbrev s_Desk_settle : Stmt := (inClass (top 15) 9)
abbrev N_Desk_settle : List Str := ["self", "turn", "due", "effect", "name"]
theorem sc_Desk_settle : FnScope ["self", "turn", "due", "effect", "name"] ["self"] (defScope s_Desk_settle) := ⟨rfl, rfl, rfl, by decide +kernel, rfl, by decide +kernel, by decide +kernel⟩
abbrev s_Desk___getitem__ : Stmt := (inClass (top 15) 13)
abbrev N_Desk___getitem__ : List Str := ["self", "name", "cell"]
theorem sc_Desk___getitem__ : FnScope ["self", "name", "cell"] ["self", "name"] (defScope s_Desk___getitem__) := ⟨rfl, rfl, rfl, by decide +kernel, rfl, by decide +kernel, by decide +kernel⟩
abbrev s_Desk___setitem__ : Stmt := (inClass (top 15) 14)
abbrev N_Desk___setitem__ : List Str := ["self", "name", "worth", "cell"]
theorem sc_Desk___setitem__ : FnScope ["self", "name", "worth", "cell"] ["self", "name", "worth"] (defScope s_Desk___setitem__) := ⟨rfl, rfl, rfl, by decide +kernel, rfl, by decide +kernel, by decide +kernel⟩
abbrev s_Desk___contains__ : Stmt := (inClass (top 15) 15)
abbrev N_Desk___contains__ : List Str := ["self", "thing"]
theorem sc_Desk___contains__ : FnScope ["self", "thing"] ["self", "thing"] (defScope s_Desk___contains__) := ⟨rfl, rfl, rfl, by decide +kernel, rfl, by decide +kernel, by decide +kernel⟩
abbrev s_Desk___iter__ : Stmt := (inClass (top 15) 16)
abbrev N_Desk___iter__ : List Str := ["self"]
theorem sc_Desk___iter__ : FnScope ["self"] ["self"] (defScope s_Desk___iter__) := ⟨rfl, rfl, rfl, by decide +kernel, rfl, by decide +kernel, by decide +kernel⟩
abbrev s_Desk___len__ : Stmt := (inClass (top 15) 17)
abbrev N_Desk___len__ : List Str := ["self"]
theorem sc_Desk___len__ : FnScope ["self"] ["self"] (defScope s_Desk___len__) := ⟨rfl, rfl, rfl, by decide +kernel, rfl, by decide +kernel, by decide +kernel⟩
abbrev s_NoName___init__ : Stmt := (inClass (top 3) 0)
abbrev N_NoName___init__ : List Str := ["self", "name"]
theorem sc_NoName___init__ : FnScope ["self", "name"] ["self", "name"] (defScope s_NoName___init__) := ⟨rfl, rfl, rfl, by decide +kernel, rfl, by decide +kernel, by decide +kernel⟩

abbrev s_Cell___init__ : Stmt := (inClass (top 11) 0)
abbrev s_Cell_valueG : Stmt := (inClass (top 11) 2)
theorem sc_Cell_valueG : FnScope ["self"] ["self"] (defScope s_Cell_valueG) := ⟨rfl, rfl, rfl, by decide +kernel, rfl, by decide +kernel, by decide +kernel⟩
/-- what the top has made of the desk -/
structure Td (P : Program) (K : PySem.W.Frag) (mg : Str → Option Value) (a : Nat → Addr) (fd : Nat → FuncData) (tk : Nat → Tok) : Prop where
  b_len : mg "len" = none
  b_iter : mg "iter" = none
  b_list : mg "list" = none
  b_range : mg "range" = none
  g_Desk : mg "Desk" = some (.ref (a 3))
  g_Cell : mg "Cell" = some (.ref (a 2))
  cl_Cell : Cls K (a 2)
  cl_Desk : Cls K (a 3)
  f_Cell : ∀ f, f ∈ (["desk", "name", "now"] : List Str) → NoAttr K (a 2) f
  f_Desk : ∀ f, f ∈ (["used_names", "cells", "readable", "effects", "log", "frames", "batches", "moved"] : List Str) → NoAttr K (a 3) f
  F_Thing___init__ : Fun K "__init__" "Thing.__init__" s_Thing___init__ (a 4) (fd 4)
  F_Cell___init__ : FunS P K mg (a 2) "__init__" "Cell.__init__" s_Cell___init__ (a 5) (fd 5)
  sc_Cell : SupC K (a 2) (a 2) (a 4)
  mk_Cell : L2.Mk K (a 2) (a 5)
  F_Cell___call__ : Fun K "__call__" "Cell.__call__" s_Cell___call__ (a 6) (fd 6)
  F_Cell_value : Fun K "value" "Cell.value" s_Cell_valueG (a 8) (fd 8)
  m_Cell_put : Meth K (a 2) "put" (a 9)
  F_Cell_put : Fun K "put" "Cell.put" s_Cell_put (a 9) (fd 9)
  F_Cell___iadd__ : Fun K "__iadd__" "Cell.__iadd__" s_Cell___iadd__ (a 10) (fd 10)
  mk_Desk : L2.Mk K (a 3) (a 11)
  F_Desk___init__ : Fun K "__init__" "Desk.__init__" s_Desk___init__ (a 11) (fd 11)
  m_Desk_check_placed : Meth K (a 3) "check_placed" (a 12)
  F_Desk_check_placed : Fun K "check_placed" "Desk.check_placed" s_Desk_check_placed (a 12) (fd 12)
  m_Desk_note : Meth K (a 3) "note" (a 13)
  F_Desk_note : Fun K "note" "Desk.note" s_Desk_note (a 13) (fd 13)
  m_Desk_use_name : Meth K (a 3) "use_name" (a 14)
  F_Desk_use_name : Fun K "use_name" "Desk.use_name" s_Desk_use_name (a 14) (fd 14)
  o_Cell___call__ : OwnM K (a 2) "__call__" (a 6)
  o_Cell___iadd__ : OwnM K (a 2) "__iadd__" (a 10)
  sf_Cell : PySem.W.selfFirst K (a 2) = true
  p_Cell_value : PropOf K (a 2) "value" (a 7) (a 8)
  m_Desk_cell : Meth K (a 3) "cell" (a 15)
  F_Desk_cell : Fun K "cell" "Desk.cell" s_Desk_cell (a 15) (fd 15)
  m_Desk_settle : Meth K (a 3) "settle" (a 16)
  F_Desk_settle : Fun K "settle" "Desk.settle" s_Desk_settle (a 16) (fd 16)
  k_MOST_RUNS : Con K (a 3) "MOST_RUNS" (.int 100) (.int 100 (tk 0))
  ns_Desk : PySem.W.noSeq K (a 3) = true
  o_Desk___getitem__ : OwnM K (a 3) "__getitem__" (a 17)
  F_Desk___getitem__ : Fun K "__getitem__" "Desk.__getitem__" s_Desk___getitem__ (a 17) (fd 17)
  o_Desk___setitem__ : OwnM K (a 3) "__setitem__" (a 18)
  F_Desk___setitem__ : Fun K "__setitem__" "Desk.__setitem__" s_Desk___setitem__ (a 18) (fd 18)
  o_Desk___contains__ : OwnM K (a 3) "__contains__" (a 19)
  F_Desk___contains__ : Fun K "__contains__" "Desk.__contains__" s_Desk___contains__ (a 19) (fd 19)
  o_Desk___iter__ : OwnM K (a 3) "__iter__" (a 20)
  F_Desk___iter__ : Fun K "__iter__" "Desk.__iter__" s_Desk___iter__ (a 20) (fd 20)
  o_Desk___len__ : OwnM K (a 3) "__len__" (a 21)
  F_Desk___len__ : Fun K "__len__" "Desk.__len__" s_Desk___len__ (a 21) (fd 21)
  g_NoName : mg "NoName" = some (.ref (a 22))
  ox_NoName : OexC K (a 22)
  xf_NoName : XfC K (a 22)
  no_NoName : PySem.W.findIn K (.ref (a 22)) "name" = some none
  ini_NoName : PySem.W.findIn K (.ref (a 22)) "__init__" = some (some (.ref (a 23)))
  inf_NoName : PySem.W.typeIn K (.ref (a 23)) = some (.type "function")
  F_NoName___init__ : Fun K "__init__" "NoName.__init__" s_NoName___init__ (a 23) (fd 23)
  g_TrackedError : mg "TrackedError" = some (.ref (a 24))
  cr_TrackedError : ClX.CRead K (a 24) (.type "type")
  vi_TrackedError : PySem.W.findCls K (.ref (a 24)) (.type "type") "__init__" = some (.val (.builtin "ValueError.__init__"))
section
variable {P : Program} {w : World} {K : PySem.W.Frag} {mg : Str → Option Value} {base : Heap} {a : Nat → Addr} {fd : Nat → FuncData} {tk : Nat → Tok}
theorem Td.ce (T : Td P K mg a fd tk) {f : Str} (h : f ∈ (["desk", "name", "now"] : List Str)) : FldOk K (a 2) f := ⟨T.cl_Cell, T.f_Cell f h⟩
theorem Td.de (T : Td P K mg a fd tk) {f : Str} (h : f ∈ (["used_names", "cells", "readable", "effects", "log", "frames", "batches", "moved"] : List Str)) : FldOk K (a 3) f := ⟨T.cl_Desk, T.f_Desk f h⟩
local macro_rules | `(tactic| walk_at "ne") => `(tactic| first | assumption | (exact Ne.symm (by assumption)) | (refine ne_of_none (by assumption) (by assumption)) | (refine Ne.symm (ne_of_none (by assumption) (by assumption))))
local macro_rules | `(tactic| walk_at "hl") => `(tactic| first | assumption | with_reducible exact upd_same | ((with_reducible refine' Eq.trans (upd_ne ?hne) ?hrest); (case hne => walk_at "ne"); (case hrest => walk_at "hl")) | (refine' get_same ?hs ?hg; (case hs => assumption); (case hg => assumption)))
local macro_rules | `(tactic| walk_at "at") => `(tactic| first | with_reducible exact atI_0 _ _ | with_reducible exact atI_1 _ _ _ | with_reducible exact atI_2 _ _ _ _ | with_reducible exact atI_3 _ _ _ _ _ | assumption)
local macro_rules | `(tactic| walk_at "rd1") => `(tactic| first
  | with_reducible refine s_seq ?_ | with_reducible refine s_next ?_ | with_reducible refine s_if ?_ | with_reducible refine s_ret ?_ | with_reducible refine s_retN ?_ | with_reducible refine s_drop ?_ | with_reducible refine s_asg ?_ | with_reducible refine s_brk ?_ | with_reducible refine s_cont ?_
  | with_reducible refine s_gname ?_ | with_reducible refine s_c ?_ | with_reducible refine s_op ?_ | with_reducible refine s_un ?_ | with_reducible refine s_neg ?_ | with_reducible refine s_test ?_ | with_reducible refine s_tb ?_ | with_reducible refine s_not ?_ | with_reducible refine s_and ?_ | with_reducible refine s_or ?_ | with_reducible refine s_yes ?_
  | ((with_reducible refine' s_var ?hv ?_); (case hv => exact rfl))
  | with_reducible refine s_ifx ?_ | with_reducible refine s_andV ?_ | with_reducible refine s_orV ?_ | with_reducible refine s_notV ?_ | with_reducible refine s_chain ?_ | with_reducible refine s_nil ?_ | with_reducible refine s_cons ?_ | with_reducible refine s_lst ?_ | with_reducible refine s_tup ?_ | with_reducible refine s_cb ?_ | with_reducible refine s_call ?_ | with_reducible refine s_meth ?_ | with_reducible refine s_make ?_
  | with_reducible refine s_dnewK ?_ | with_reducible refine s_sl ?_ | with_reducible refine s_po0 ?_ | with_reducible refine s_po1 ?_ | with_reducible refine s_bm ?_ | with_reducible refine s_bm0 ?_
  | with_reducible refine s_bl ?_ | with_reducible refine s_int ?_ | with_reducible refine s_I0 ?_ | with_reducible refine s_addI ?_ | with_reducible refine s_intI ?_ | with_reducible refine s_intB ?_
  | with_reducible refine s_m1 ?_ | with_reducible refine s_lc ?_ | with_reducible refine s_ilist ?_ | with_reducible refine s_for ?_ | with_reducible refine s_irng ?_ | with_reducible refine s_match ?_ | with_reducible refine s_starT ?_ | with_reducible refine s_isS ?_ | with_reducible refine s_isiSS ?_ | with_reducible refine s_fldU ?_ | with_reducible refine s_sfldU ?_
  | ((with_reducible refine' s_eqS ?hq ?_); (case hq => exact rfl)) | ((with_reducible refine' s_neS ?hq ?_); (case hq => exact rfl))
  | ((with_reducible refine' s_isN ?hq ?_); (case hq => exact rfl)) | ((with_reducible refine' s_notN ?hq ?_); (case hq => exact rfl))
  | ((with_reducible refine' s_eqNil ?h1 ?h2 ?_); (case h1 => walk_at "hl"); (case h2 => walk_at "hl")) | ((with_reducible refine' s_neNil ?h1 ?h2 ?_); (case h1 => walk_at "hl"); (case h2 => walk_at "hl"))
  | ((with_reducible refine' s_ixL ?h1 ?h2 ?_); (case h1 => walk_at "hl"); (case h2 => walk_at "at")) | ((with_reducible refine' s_ixT ?h1 ?h2 ?_); (case h1 => walk_at "hl"); (case h2 => walk_at "at"))
  | ((with_reducible refine' s_inS ?h1 ?_); (case h1 => walk_at "hl")) | ((with_reducible refine' s_ninS ?h1 ?_); (case h1 => walk_at "hl")) | with_reducible refine s_inW ?_
  | ((with_reducible refine' s_lenL ?h1 ?_); (case h1 => walk_at "hl")) | ((with_reducible refine' s_lenT ?h1 ?_); (case h1 => walk_at "hl"))
  | ((with_reducible refine' s_tyL ?h1 ?_); (case h1 => walk_at "hl"))
  | ((with_reducible refine' s_fldM ?h1 ?h2 ?h3 ?_); (case h1 => walk_at "hl"); (case h2 => walk_at "fok"); (case h3 => walk_at "flk"))
  | ((with_reducible refine' s_setM ?h1 ?h2 ?h3 ?h4 ?_); (case h1 => walk_at "hl"); (case h2 => walk_at "fok"); (case h4 => walk_at "put"); (case h3 => exact Nat.le_of_ble_eq_true rfl))
  | ((with_reducible refine' s_starM ?h1 ?_); (case h1 => walk_at "hl"))
  | ((with_reducible refine' s_recv ?h1 ?h2 ?_); (case h1 => walk_at "hl"); (case h2 => exact rfl))
  | ((with_reducible refine' s_sz ?h1 ?_); (case h1 => (simp; done))))
local macro_rules | `(tactic| walk_at "rd") => `(tactic| repeat (walk_at "rd1"))
local macro_rules | `(tactic| walk_at "fok") => `(tactic| assumption)
local macro_rules | `(tactic| walk_at "flk") => `(tactic| rfl)
local macro_rules | `(tactic| walk_at "put") => `(tactic| exact rfl)

local macro_rules | `(tactic| walk_at "fok") => `(tactic| first | assumption | exact Td.ce (by assumption) (by decide) | exact Td.de (by assumption) (by decide))
def cellF (d : Addr) (nm : Str) (v : Int) : List (Str × V) := [("desk", .ref d), ("name", .str nm), ("now", .int v)]
def deskF (un cs rd ef lg fr mv : Addr) : List (Str × V) := [("used_names", .ref un), ("cells", .ref cs), ("readable", .ref rd), ("effects", .ref ef), ("log", .ref lg), ("frames", .ref fr), ("batches", .int 0), ("moved", .ref mv)]
structure DA where
  dd : Addr
  un : Addr
  cs : Addr
  rd : Addr
  ef : Addr
  lg : Addr
  fr : Addr
  mv : Addr
/-- a desk with cells alone, nothing under way -/
structure DeskAt (a : Nat → Addr) (H : Hp) (d : Addr) (D : DA) (names : List Str) (cl : List (Str × Addr)) : Prop where
  ob : H d = some (.ins (a 3) D.dd (deskF D.un D.cs D.rd D.ef D.lg D.fr D.mv))
  un : H D.un = some (.lst (names.map V.str))
  cs : H D.cs = some (.dK (cl.map fun c => (.inr c.1, .ref c.2)))
  rd : H D.rd = some (.dK (cl.map fun c => (.inr c.1, .ref c.2)))
  ef : H D.ef = some (.lst [])
  lg : H D.lg = some (.lst [])
  fr : H D.fr = some (.lst [])
  mv : ∃ ms, H D.mv = some (.lst ms) ∧ ms.length ≤ 100
  nd : [D.un, D.ef, D.lg, D.fr, D.mv].Nodup ∧ D.cs ≠ D.rd
def spLeaf (a : Nat → Addr) : Sp := fun vs H Q _ => ∃ d D names cl, vs = [.ref d] ∧ DeskAt a H d D names cl ∧ Q .non H
theorem ok_Desk_check_placed (T : Td P K mg a fd tk) : FnOk P w K mg base CX0 1 (a 12) (fd 12) ["self"] (spLeaf a) := by
  refine T.F_Desk_check_placed.ok sc_Desk_check_placed (fun vs H Q E h => ?_) (fun cdv A outer s H vs Q E hr h => ?_)
  · obtain ⟨d, D, names, cl, rfl, _⟩ := h
    rfl
  · obtain ⟨d, D, names, cl, rfl, DK, k⟩ := h
    refine ⟨_, (pss_one (ps_if (PW.pt (pw_and (pt_cmpR op_gt (pe_callB uLen (by rfl) T.b_len bt_len (pa_cons (pe_fldU K (pv 0)) pa_nil)) pe_int (nomark _)) (pw_and1 pt_never))) (pss_one ps_nev) pss_nil)), ?_⟩
    have hob := DK.ob
    have hfr := DK.fr
    walk_at "rd"
    refine ifF rfl ?_
    refine ifF rfl ?_
    walk_at "rd"
    exact k
theorem b_Desk_check_placed (T : Td P K mg a fd tk) : Binds K (fd 12) ["self"] [] := T.F_Desk_check_placed.binds fun _ _ _ _ _ _ us hl => match us, hl with | [_], _ => rfl
def spNote (a : Nat → Addr) : Sp := fun vs H Q _ => ∃ d D names cl x v, vs = [.ref d, x, v] ∧ DeskAt a H d D names cl ∧ Q .non H
theorem ok_Desk_note (T : Td P K mg a fd tk) : FnOk P w K mg base CX0 1 (a 13) (fd 13) ["self", "name", "worth"] (spNote a) := by
  refine T.F_Desk_note.ok sc_Desk_note (fun vs H Q E h => ?_) (fun cdv A outer s H vs Q E hr h => ?_)
  · obtain ⟨d, D, names, cl, x, v, rfl, _⟩ := h
    rfl
  · obtain ⟨d, D, names, cl, x, v, rfl, DK, k⟩ := h
    refine ⟨_, (pss_cons (ps_if (pt_cmpR (uEq K hr.units) (pe_callB uLen (by rfl) T.b_len bt_len (pa_cons (pe_fldU K (pv 0)) pa_nil)) pe_int (nomark _)) (pss_one ps_retN) pss_nil)
  (pss_cons ps_nev
  (pss_one ps_nev))), ?_⟩
    have hob := DK.ob
    have hfr := DK.fr
    walk_at "rd"
    refine ifT rfl ?_
    walk_at "rd"
    exact k
theorem b_Desk_note (T : Td P K mg a fd tk) : Binds K (fd 13) ["self", "name", "worth"] [] := T.F_Desk_note.binds fun _ _ _ _ _ _ us hl => match us, hl with | [_, _, _], _ => rfl
theorem DeskAt.setU {H : Hp} {d : Addr} {D : DA} {names names' : List Str} {cl : List (Str × Addr)} (h : DeskAt a H d D names cl) : DeskAt a (upd H D.un (.lst (names'.map V.str))) d D names' cl := by
  obtain ⟨nd1, nd2⟩ := h.nd
  simp only [List.nodup_cons, List.mem_cons, List.not_mem_nil, or_false, not_or] at nd1
  obtain ⟨⟨n1, n2, n3, n4⟩, _⟩ := nd1
  obtain ⟨ms, hm1, hm2⟩ := h.mv
  exact ⟨by rw [upd_ne (ne_of h.ob h.un (fun z => by cases z))]; exact h.ob, upd_same, by rw [upd_ne (ne_of h.cs h.un (fun z => by cases z))]; exact h.cs, by rw [upd_ne (ne_of h.rd h.un (fun z => by cases z))]; exact h.rd,
    by rw [upd_ne (Ne.symm n1)]; exact h.ef, by rw [upd_ne (Ne.symm n2)]; exact h.lg, by rw [upd_ne (Ne.symm n3)]; exact h.fr, ⟨ms, by rw [upd_ne (Ne.symm n4)]; exact hm1, hm2⟩, h.nd⟩
def spUse (a : Nat → Addr) : Sp := fun vs H Q _ => ∃ d D names cl nm, vs = [.ref d, .str nm] ∧ DeskAt a H d D names cl ∧ nm ∉ names ∧ names.length ≤ 50 ∧ ∀ H', DeskAt a H' d D (names ++ [nm]) cl → Fr H H' [D.un] → Q .non H'
theorem ok_Desk_use_name (T : Td P K mg a fd tk) : FnOk P w K mg base CX0 2 (a 14) (fd 14) ["self", "name"] (spUse a) := by
  refine T.F_Desk_use_name.ok sc_Desk_use_name (fun vs H Q E h => ?_) (fun cdv A outer s H vs Q E hr h => ?_)
  · obtain ⟨d, D, names, cl, nm, rfl, _⟩ := h
    rfl
  · obtain ⟨d, D, names, cl, nm, rfl, DK, hn, h50, k⟩ := h
    refine ⟨_, (pss_cons (ps_expr (pe_meth0 (pv 0) T.cl_Desk T.m_Desk_check_placed (ok_Desk_check_placed T) (hr.mono (by decide)) (b_Desk_check_placed T) .nil pass0))
  (pss_cons (ps_if (pt_cmpR (uIn K) (pv 1) (pe_fldU K (pv 0)) (by rfl)) (pss_one ps_nev) pss_nil)
  (pss_one (ps_expr (pe_bm PySem.F.plainAttrs_list PySem.F.slot_list_append PySem.F.type_list_append uAppend (pe_fldU K (pv 0)) (pa_cons (pv 1) pa_nil)))))), ?_⟩
    have hob := DK.ob
    have hun := DK.un
    walk_at "rd"
    refine ⟨d, D, names, cl, rfl, DK, ?_⟩
    walk_at "rd"
    have hc : names.contains nm = false := by rw [Bool.eq_false_iff]; exact fun z => hn (List.contains_iff_mem.mp z)
    refine ifF hc ?_
    walk_at "rd"
    refine s_app hun (sz_lt (by rw [List.length_map]; omega)) ?_
    have e : names.map V.str ++ [V.str nm] = (names ++ [nm]).map V.str := by simp
    rw [e]
    exact k _ DK.setU fun x o hx hS => by rw [upd_ne (by simpa using hS)]; exact hx
theorem b_Desk_use_name (T : Td P K mg a fd tk) : Binds K (fd 14) ["self", "name"] [] := T.F_Desk_use_name.binds fun _ _ _ _ _ _ us hl => match us, hl with | [_, _], _ => rfl
def spThing (K : PySem.W.Frag) : Sp := fun vs H Q _ => ∃ (x C dx : Addr) (v1 v2 : V), vs = [.ref x, v1, v2] ∧ H x = some (.ins C dx []) ∧ FldOk K C "desk" ∧ FldOk K C "name" ∧ Q .non (upd H x (.ins C dx [("desk", v1), ("name", v2)]))
theorem ok_Thing___init__ (T : Td P K mg a fd tk) : FnOk P w K mg base CX0 1 (a 4) (fd 4) ["self", "desk", "name"] (spThing K) := by
  refine T.F_Thing___init__.ok sc_Thing___init__ (fun vs H Q E h => ?_) (fun cdv A outer s H vs Q E hr h => ?_)
  · obtain ⟨x, C, dx, v1, v2, rfl, _⟩ := h
    rfl
  · obtain ⟨x, C, dx, v1, v2, rfl, hx, f1, f2, k⟩ := h
    refine ⟨_, (pss_cons (ps_fldU K (pv 0) (pv 1))
  (pss_one (ps_fldU K (pv 0) (pv 2)))), ?_⟩
    walk_at "rd"
    rw [upd_upd]
    exact k
theorem b_Thing___init__ (T : Td P K mg a fd tk) : Binds K (fd 4) ["self", "desk", "name"] [] := T.F_Thing___init__.binds fun _ _ _ _ _ _ us hl => match us, hl with | [_, _, _], _ => rfl
def spCellI (a : Nat → Addr) : Sp := fun vs H Q _ => ∃ (x dx : Addr) (v1 v2 v3 : V), vs = [.ref x, v1, v2, v3] ∧ H x = some (.ins (a 2) dx []) ∧ Q .non (upd H x (.ins (a 2) dx [("desk", v1), ("name", v2), ("now", v3)]))
theorem ok_Cell___init__ (T : Td P K mg a fd tk) : FnOk P w K mg base CX0 2 (a 5) (fd 5) ["self", "desk", "name", "worth"] (spCellI a) := by
  refine T.F_Cell___init__.ok (N := ["self", "desk", "name", "worth", "__class__"]) rfl (NdefX.nscope_by (by decide +kernel)) rfl rfl (by decide +kernel) (ok_Thing___init__ T) (Nat.le_refl _) (b_Thing___init__ T) (fun vs H Q E h => ?_) (fun FF A outer s H vs Q E hs hr h => ?_)
  · obtain ⟨x, dx, v1, v2, v3, rfl, _⟩ := h
    rfl
  · obtain ⟨x, dx, v1, v2, v3, rfl, hx, k⟩ := h
    have vis : ∀ {y : Str}, (defScope s_Cell___init__).names.lookup y = some .local → Vis FF.scope y := fun {y} e => by rw [hs]; exact .inl e
    refine ⟨_, _, a 2, x, dx, [], pa_cons (pv 1 rfl (vis (by decide +kernel))) (pa_cons (pv 2 rfl (vis (by decide +kernel))) pa_nil), pss_one (ps_fldU K (pv 0 rfl (vis (by decide +kernel))) (pv 3 rfl (vis (by decide +kernel)))), rfl, hx, T.sc_Cell, ?_⟩
    walk_at "rd"
    refine ⟨x, a 2, dx, v1, v2, rfl, hx, T.ce (by decide), T.ce (by decide), ?_⟩
    walk_at "rd"
    rw [upd_upd]
    exact k
theorem b_Cell___init__ (T : Td P K mg a fd tk) : Binds K (fd 5) ["self", "desk", "name", "worth"] [] := T.F_Cell___init__.binds fun _ _ _ _ _ _ _ us hl => match us, hl with | [_, _, _, _], _ => rfl
end
end Tr
set_option maxHeartbeats 4000000

namespace Tr
open PySem L2
section
variable {P : Program} {w : World} {K : PySem.W.Frag} {mg : Str → Option Value} {base : Heap} {a : Nat → Addr} {fd : Nat → FuncData} {tk : Nat → Tok}
local macro_rules | `(tactic| walk_at "ne") => `(tactic| first | assumption | (exact Ne.symm (by assumption)) | (refine ne_of_none (by assumption) (by assumption)) | (refine Ne.symm (ne_of_none (by assumption) (by assumption))))
local macro_rules | `(tactic| walk_at "hl") => `(tactic| first | assumption | with_reducible exact upd_same | ((with_reducible refine' Eq.trans (upd_ne ?hne) ?hrest); (case hne => walk_at "ne"); (case hrest => walk_at "hl")) | (refine' get_same ?hs ?hg; (case hs => assumption); (case hg => assumption)))
local macro_rules | `(tactic| walk_at "at") => `(tactic| first | with_reducible exact atI_0 _ _ | with_reducible exact atI_1 _ _ _ | with_reducible exact atI_2 _ _ _ _ | with_reducible exact atI_3 _ _ _ _ _ | assumption)
local macro_rules | `(tactic| walk_at "rd1") => `(tactic| first
  | with_reducible refine s_seq ?_ | with_reducible refine s_next ?_ | with_reducible refine s_if ?_ | with_reducible refine s_ret ?_ | with_reducible refine s_retN ?_ | with_reducible refine s_drop ?_ | with_reducible refine s_asg ?_ | with_reducible refine s_brk ?_ | with_reducible refine s_cont ?_
  | with_reducible refine s_gname ?_ | with_reducible refine s_c ?_ | with_reducible refine s_op ?_ | with_reducible refine s_un ?_ | with_reducible refine s_neg ?_ | with_reducible refine s_test ?_ | with_reducible refine s_tb ?_ | with_reducible refine s_not ?_ | with_reducible refine s_and ?_ | with_reducible refine s_or ?_ | with_reducible refine s_yes ?_
  | ((with_reducible refine' s_var ?hv ?_); (case hv => exact rfl))
  | with_reducible refine s_ifx ?_ | with_reducible refine s_andV ?_ | with_reducible refine s_orV ?_ | with_reducible refine s_notV ?_ | with_reducible refine s_chain ?_ | with_reducible refine s_nil ?_ | with_reducible refine s_cons ?_ | with_reducible refine s_lst ?_ | with_reducible refine s_tup ?_ | with_reducible refine s_cb ?_ | with_reducible refine s_call ?_ | with_reducible refine s_meth ?_ | with_reducible refine s_make ?_
  | with_reducible refine s_dnewK ?_ | with_reducible refine s_sl ?_ | with_reducible refine s_po0 ?_ | with_reducible refine s_po1 ?_ | with_reducible refine s_bm ?_ | with_reducible refine s_bm0 ?_
  | with_reducible refine s_bl ?_ | with_reducible refine s_int ?_ | with_reducible refine s_I0 ?_ | with_reducible refine s_addI ?_ | with_reducible refine s_intI ?_ | with_reducible refine s_intB ?_
  | with_reducible refine s_m1 ?_ | with_reducible refine s_lc ?_ | with_reducible refine s_ilist ?_ | with_reducible refine s_for ?_ | with_reducible refine s_irng ?_ | with_reducible refine s_match ?_ | with_reducible refine s_starT ?_ | with_reducible refine s_isS ?_ | with_reducible refine s_isiSS ?_ | with_reducible refine s_fldU ?_ | with_reducible refine s_sfldU ?_
  | ((with_reducible refine' s_eqS ?hq ?_); (case hq => exact rfl)) | ((with_reducible refine' s_neS ?hq ?_); (case hq => exact rfl))
  | ((with_reducible refine' s_isN ?hq ?_); (case hq => exact rfl)) | ((with_reducible refine' s_notN ?hq ?_); (case hq => exact rfl))
  | ((with_reducible refine' s_eqNil ?h1 ?h2 ?_); (case h1 => walk_at "hl"); (case h2 => walk_at "hl")) | ((with_reducible refine' s_neNil ?h1 ?h2 ?_); (case h1 => walk_at "hl"); (case h2 => walk_at "hl"))
  | ((with_reducible refine' s_ixL ?h1 ?h2 ?_); (case h1 => walk_at "hl"); (case h2 => walk_at "at")) | ((with_reducible refine' s_ixT ?h1 ?h2 ?_); (case h1 => walk_at "hl"); (case h2 => walk_at "at"))
  | ((with_reducible refine' s_inS ?h1 ?_); (case h1 => walk_at "hl")) | ((with_reducible refine' s_ninS ?h1 ?_); (case h1 => walk_at "hl")) | with_reducible refine s_inW ?_
  | ((with_reducible refine' s_lenL ?h1 ?_); (case h1 => walk_at "hl")) | ((with_reducible refine' s_lenT ?h1 ?_); (case h1 => walk_at "hl"))
  | ((with_reducible refine' s_tyL ?h1 ?_); (case h1 => walk_at "hl"))
  | ((with_reducible refine' s_fldM ?h1 ?h2 ?h3 ?_); (case h1 => walk_at "hl"); (case h2 => walk_at "fok"); (case h3 => walk_at "flk"))
  | ((with_reducible refine' s_setM ?h1 ?h2 ?h3 ?h4 ?_); (case h1 => walk_at "hl"); (case h2 => walk_at "fok"); (case h4 => walk_at "put"); (case h3 => exact Nat.le_of_ble_eq_true rfl))
  | ((with_reducible refine' s_starM ?h1 ?_); (case h1 => walk_at "hl"))
  | ((with_reducible refine' s_recv ?h1 ?h2 ?_); (case h1 => walk_at "hl"); (case h2 => exact rfl))
  | ((with_reducible refine' s_sz ?h1 ?_); (case h1 => (simp; done))))
local macro_rules | `(tactic| walk_at "rd") => `(tactic| repeat (walk_at "rd1"))
local macro_rules | `(tactic| walk_at "fok") => `(tactic| assumption)
local macro_rules | `(tactic| walk_at "flk") => `(tactic| rfl)
local macro_rules | `(tactic| walk_at "put") => `(tactic| exact rfl)

local macro_rules | `(tactic| walk_at "fok") => `(tactic| first | assumption | exact Td.ce (by assumption) (by decide) | exact Td.de (by assumption) (by decide))
theorem Fr.same {H H' : Hp} {S : List Addr} (s : Same H H') : Fr H H' S := fun x o h _ => s _ _ h
theorem Fr.tr {H H1 H2 : Hp} {S : List Addr} (f : Fr H H1 S) (g : Fr H1 H2 S) : Fr H H2 S := fun x o h hx => g _ _ (f _ _ h hx) hx
/-- a new list of what moved -/
theorem DeskAt.setM {H : Hp} {d z : Addr} {D : DA} {names : List Str} {cl : List (Str × Addr)} (h : DeskAt a H d D names cl) (nz : H z = none) :
    DeskAt a (upd (upd H z (.lst [])) d (.ins (a 3) D.dd (deskF D.un D.cs D.rd D.ef D.lg D.fr z))) d { D with mv := z } names cl := by
  have ne : ∀ {x : Addr} {o : HO}, H x = some o → x ≠ z := fun h => ne_of_none h nz
  have nd : ∀ {x : Addr} {o : HO}, H x = some o → (∀ C dx fs, o ≠ .ins C dx fs) → x ≠ d := fun hx hn => by
    rintro rfl
    have := h.ob
    rw [hx] at this
    exact hn _ _ _ (Option.some.inj this)
  obtain ⟨n1, n2⟩ := h.nd
  have up : ∀ {x : Addr} {o : HO}, H x = some o → (∀ C dx fs, o ≠ .ins C dx fs) → upd (upd H z (.lst [])) d (.ins (a 3) D.dd (deskF D.un D.cs D.rd D.ef D.lg D.fr z)) x = some o := fun hx hn => by rw [upd_ne (nd hx hn), upd_ne (ne hx)]; exact hx
  refine ⟨upd_same, up h.un (by intros; simp), up h.cs (by intros; simp), up h.rd (by intros; simp), up h.ef (by intros; simp), up h.lg (by intros; simp), up h.fr (by intros; simp), ⟨[], by rw [upd_ne (Ne.symm (ne h.ob))]; exact upd_same, by simp⟩, ?_, n2⟩
  simp only [List.nodup_cons, List.mem_cons, List.not_mem_nil, or_false, not_or] at n1 ⊢
  have := ne h.un
  have := ne h.ef
  have := ne h.lg
  have := ne h.fr
  simp_all
theorem s_con {σ : L2.St} {H : Hp} {Q : VK} {ta : TE} {f : Str} (h : ta σ H fun x H1 => ∃ a C dx fs v u, x = .ref a ∧ H1 a = some (.ins C dx fs) ∧ Cls K C ∧ Con K C f v u ∧ fs.lookup f = none ∧ Q v H1) : tCon K ta f σ H Q := h
theorem DeskAt.same {H H' : Hp} {d : Addr} {D : DA} {names : List Str} {cl : List (Str × Addr)} (h : DeskAt a H d D names cl) (s : Same H H') : DeskAt a H' d D names cl := by
  obtain ⟨ms, m1, m2⟩ := h.mv
  exact ⟨s _ _ h.ob, s _ _ h.un, s _ _ h.cs, s _ _ h.rd, s _ _ h.ef, s _ _ h.lg, s _ _ h.fr, ⟨ms, s _ _ m1, m2⟩, h.nd⟩
def spSettle (a : Nat → Addr) : Sp := fun vs H Q _ => ∃ d D names cl, vs = [.ref d] ∧ DeskAt a H d D names cl ∧ ∀ z H', H z = none → DeskAt a H' d { D with mv := z } names cl → H' z = some (.lst []) → Fr H H' [d] → Q .non H'
theorem ok_Desk_settle (T : Td P K mg a fd tk) : FnOk P w K mg base CX0 2 (a 16) (fd 16) ["self"] (spSettle a) := by
  refine T.F_Desk_settle.ok sc_Desk_settle (fun vs H Q E h => ?_) (fun cdv A outer s H vs Q E hr h => ?_)
  · obtain ⟨d, D, names, cl, rfl, _⟩ := h
    rfl
  · obtain ⟨d, D, names, cl, rfl, DK, k⟩ := h
    refine ⟨_, (pss_cons (ps_expr (pe_meth0 (pv 0) T.cl_Desk T.m_Desk_check_placed (ok_Desk_check_placed T) (hr.mono (by decide)) (b_Desk_check_placed T) .nil pass0))
  (pss_cons (ps_if (PW.pt (pw_or (pt_cmpR op_gt (pe_fldU K (pv 0)) pe_int (nomark _)) (pw_or1 (pt_cmpR op_gt (pe_callB uLen (by rfl) T.b_len bt_len (pa_cons (pe_fldU K (pv 0)) pa_nil)) pe_int (nomark _))))) (pss_one ps_retN) pss_nil)
  (pss_cons (ps_fldU K (pv 0) (pe_lst pa_nil))
  (pss_one (ps_for PassesOwn.never rfl (pi_range1 (by rfl) T.b_range (pa_cons (pe_op uAdd (pe_con (pv 0) rfl) pe_int) pa_nil)) (pg_name (i := 1) sc_Desk_settle.nd rfl (by first | exact Or.inl rfl | exact Or.inr rfl))
   (pss_cons (ps_setLc (i := 2) (own := [("effect", 3)]) rfl sc_Desk_settle.nd rfl rfl (sw_true rfl rfl rfl (by decide +kernel)) (pi_list (pe_callTy uList (by rfl) T.b_list bt_list (pa_cons (pe_fldU K (pv 0)) pa_nil))) (blkOk_by (N := N_Desk_settle) (sc := defScope s_Desk_settle) (by decide +kernel)) (fun _ _ _ _ _ => (pg_name (i := 3) sc_Desk_settle.nd rfl (by first | exact Or.inl rfl | exact Or.inr rfl))) (fun _ _ _ _ _ => (pts_one pt_never)) (fun _ _ _ _ _ => (pv 3)))
  (pss_cons (ps_if (pt_cmpR (uEq K hr.units) (pe_callB uLen (by rfl) T.b_len bt_len (pa_cons (pv 2) pa_nil)) pe_int (nomark _)) (pss_one ps_retN) pss_nil)
  (pss_cons ps_nev
  (pss_one ps_nev))))))))), ?_⟩
    have hob := DK.ob
    have hfr := DK.fr
    walk_at "rd"
    refine ⟨d, D, names, cl, rfl, DK, ?_⟩
    walk_at "rd"
    refine ifF rfl ?_
    walk_at "rd"
    refine ifF rfl ?_
    walk_at "rd"
    intro z nz
    have DKz := DK.setM nz
    have hobz := upd_ne (o := .lst []) (H := H) (ne_of_none hob nz)
    rw [hob] at hobz
    walk_at "rd"
    have fz : Fr H (upd (upd H z (.lst [])) d (.ins (a 3) D.dd (deskF D.un D.cs D.rd D.ef D.lg D.fr z))) [d] := fun x o hx hS => by
      rw [upd_ne (by simpa using hS), upd_ne (ne_of_none hx nz)]; exact hx
    have ep : putF (Str.ofString "moved") (V.ref z) (deskF D.un D.cs D.rd D.ef D.lg D.fr D.mv) = deskF D.un D.cs D.rd D.ef D.lg D.fr z := rfl
    rw [ep]
    have hzz : upd (upd H z (.lst [])) d (.ins (a 3) D.dd (deskF D.un D.cs D.rd D.ef D.lg D.fr z)) z = some (.lst []) := by rw [upd_ne (Ne.symm (ne_of_none hob nz))]; exact upd_same
    generalize upd (upd H z (.lst [])) d (.ins (a 3) D.dd (deskF D.un D.cs D.rd D.ef D.lg D.fr z)) = H1 at DKz fz hzz ⊢
    have hob1 := DKz.ob
    have hef1 := DKz.ef
    refine s_con ?_
    walk_at "rd"
    refine ⟨d, a 3, D.dd, _, _, _, rfl, hob1, T.cl_Desk, T.k_MOST_RUNS, rfl, ?_⟩
    walk_at "rd"
    refine s_forR (by decide) (by decide) (fun i σ H' => i = 0 ∧ σ = [some (.ref d), none, none, none, none] ∧ H' = H1) ⟨rfl, rfl, rfl⟩ ?_ ?_
    rotate_left
    · rintro σ H' ⟨z, _⟩
      exact absurd z (by decide)
    rintro i σ H' hi ⟨rfl, rfl, rfl⟩
    walk_at "rd"
    refine s_listL hef1 fun q nq => ?_
    walk_at "rd"
    have s2 := Same.new (o := .lst []) nq
    refine s_lcM ([] : List V) (fun _ => none) upd_same rfl (by decide) (fun i a x H2 R R0 h => by simp at h) (fun D2 H2 s3 nD hD => ?_)
    walk_at "rd"
    refine ifT rfl ?_
    walk_at "rd"
    have s4 := s2.trans s3
    exact k z _ nz (DKz.same s4) (s4 _ _ hzz) (fz.tr (.same s4))
theorem b_Desk_settle (T : Td P K mg a fd tk) : Binds K (fd 16) ["self"] [] := T.F_Desk_settle.binds fun _ _ _ _ _ _ us hl => match us, hl with | [_], _ => rfl
theorem s_seqK {t1 t2 : TS} {na : L2.St → Hp → Prop} {rt : VK} {bk ct : L2.St → Hp → Prop} {σ : L2.St} {H : Hp} (σ1 : L2.St) (S : Hp → Prop) (h2 : ∀ H', S H' → t2 ⟨na, rt, bk, ct⟩ σ1 H') (h1 : ∀ R : L2.St → Hp → Prop, (∀ H', S H' → R σ1 H') → t1 ⟨R, rt, bk, ct⟩ σ H) : tSeq t1 t2 ⟨na, rt, bk, ct⟩ σ H := h1 _ h2
theorem DeskAt.setV {H : Hp} {d : Addr} {D : DA} {names : List Str} {cl : List (Str × Addr)} (h : DeskAt a H d D names cl) {ms : List V} (hm : ms.length ≤ 100) : DeskAt a (upd H D.mv (.lst ms)) d D names cl := by
  obtain ⟨nd1, nd2⟩ := h.nd
  simp only [List.nodup_cons, List.mem_cons, List.not_mem_nil, or_false, not_or] at nd1
  obtain ⟨⟨n1, n2, n3, n4⟩, ⟨n5, n6, n7⟩, ⟨n8, n9⟩, n10, _⟩ := nd1
  obtain ⟨ms0, hm1, hm2⟩ := h.mv
  exact ⟨by rw [upd_ne (ne_of h.ob hm1 (fun z => by cases z))]; exact h.ob, by rw [upd_ne n4]; exact h.un, by rw [upd_ne (ne_of h.cs hm1 (fun z => by cases z))]; exact h.cs, by rw [upd_ne (ne_of h.rd hm1 (fun z => by cases z))]; exact h.rd,
    by rw [upd_ne n7]; exact h.ef, by rw [upd_ne n9]; exact h.lg, by rw [upd_ne n10]; exact h.fr, ⟨ms, upd_same, hm⟩, h.nd⟩
/-- another thing changes -/
theorem DeskAt.other {H : Hp} {d x : Addr} {D : DA} {names : List Str} {cl : List (Str × Addr)} (h : DeskAt a H d D names cl) {C dx dx' : Addr} {fs fs' : List (Str × V)} (hx : H x = some (.ins C dx fs)) (hd : x ≠ d) : DeskAt a (upd H x (.ins C dx' fs')) d D names cl := by
  obtain ⟨ms0, hm1, hm2⟩ := h.mv
  exact ⟨by rw [upd_ne (Ne.symm hd)]; exact h.ob, by rw [upd_ne (ne_of h.un hx (fun z => by cases z))]; exact h.un, by rw [upd_ne (ne_of h.cs hx (fun z => by cases z))]; exact h.cs, by rw [upd_ne (ne_of h.rd hx (fun z => by cases z))]; exact h.rd,
    by rw [upd_ne (ne_of h.ef hx (fun z => by cases z))]; exact h.ef, by rw [upd_ne (ne_of h.lg hx (fun z => by cases z))]; exact h.lg, by rw [upd_ne (ne_of h.fr hx (fun z => by cases z))]; exact h.fr, ⟨ms0, by rw [upd_ne (ne_of hm1 hx (fun z => by cases z))]; exact hm1, hm2⟩, h.nd⟩
def CellAt (a : Nat → Addr) (H : Hp) (d c : Addr) (nm : Str) (v : Int) : Prop := ∃ dc, H c = some (.ins (a 2) dc (cellF d nm v))
def spCall (a : Nat → Addr) : Sp := fun vs H Q _ => ∃ d D names cl c nm v, vs = [.ref c] ∧ DeskAt a H d D names cl ∧ CellAt a H d c nm v ∧ Q (.int v) H
theorem ok_Cell___call__ (T : Td P K mg a fd tk) : FnOk P w K mg base CX0 2 (a 6) (fd 6) ["self"] (spCall a) := by
  refine T.F_Cell___call__.ok sc_Cell___call__ (fun vs H Q E h => ?_) (fun cdv A outer s H vs Q E hr h => ?_)
  · obtain ⟨d, D, names, cl, c, nm, v, rfl, _⟩ := h
    rfl
  · obtain ⟨d, D, names, cl, c, nm, v, rfl, DK, ⟨dc, hc⟩, k⟩ := h
    refine ⟨_, (pss_cons (ps_expr (pe_meth (pe_fldU K (pv 0)) T.cl_Desk T.m_Desk_note (ok_Desk_note T) (hr.mono (by decide)) (b_Desk_note T) .nil pass0 (pa_cons (pe_fldU K (pv 0)) (pa_cons (pe_fldU K (pv 0)) pa_nil))))
  (pss_one (ps_ret (pe_fldU K (pv 0))))), ?_⟩
    have hob := DK.ob
    walk_at "rd"
    refine ⟨d, D, names, cl, _, _, rfl, DK, ?_⟩
    walk_at "rd"
    exact k
theorem b_Cell___call__ (T : Td P K mg a fd tk) : Binds K (fd 6) ["self"] [] := T.F_Cell___call__.binds fun _ _ _ _ _ _ us hl => match us, hl with | [_], _ => rfl
def spPut (a : Nat → Addr) : Sp := fun vs H Q _ => ∃ d D names cl c nm v v', vs = [.ref c, .int v'] ∧ DeskAt a H d D names cl ∧ CellAt a H d c nm v ∧ (∃ ms, H D.mv = some (.lst ms) ∧ ms.length ≤ 50) ∧ c ≠ d ∧ ∀ z H', H z = none → DeskAt a H' d { D with mv := z } names cl → H' z = some (.lst []) → CellAt a H' d c nm v' → Fr H H' [d, c, D.mv] → Q .non H'
theorem ok_Cell_put (T : Td P K mg a fd tk) : FnOk P w K mg base CX0 3 (a 9) (fd 9) ["self", "value"] (spPut a) := by
  refine T.F_Cell_put.ok sc_Cell_put (fun vs H Q E h => ?_) (fun cdv A outer s H vs Q E hr h => ?_)
  · obtain ⟨d, D, names, cl, c, nm, v, v', rfl, _⟩ := h
    rfl
  · obtain ⟨d, D, names, cl, c, nm, v, v', rfl, DK, ⟨dc, hc⟩, ⟨ms, hm1, hm2⟩, hcd, k⟩ := h
    refine ⟨_, (pss_cons (ps_expr (pe_meth0 (pe_fldU K (pv 0)) T.cl_Desk T.m_Desk_check_placed (ok_Desk_check_placed T) (hr.mono (by decide)) (b_Desk_check_placed T) .nil pass0))
  (pss_cons (ps_if (pt_cmpR (uNe K hr.units) (pv 1) (pe_fldU K (pv 0)) (nomark _)) (pss_one (ps_expr (pe_bm PySem.F.plainAttrs_list PySem.F.slot_list_append PySem.F.type_list_append uAppend (pe_fldU K (pe_fldU K (pv 0))) (pa_cons (pe_fldU K (pv 0)) pa_nil)))) pss_nil)
  (pss_cons (ps_fldU K (pv 0) (pv 1))
  (pss_one (ps_expr (pe_meth0 (pe_fldU K (pv 0)) T.cl_Desk T.m_Desk_settle (ok_Desk_settle T) (hr.mono (by decide)) (b_Desk_settle T) .nil pass0)))))), ?_⟩
    have hob := DK.ob
    walk_at "rd"
    refine ⟨d, D, names, cl, rfl, DK, ?_⟩
    refine s_seqK (L2.start ["self", "value"] [.ref c, .int v']) (fun H1 => DeskAt a H1 d D names cl ∧ H1 c = some (.ins (a 2) dc (cellF d nm v)) ∧ Fr H H1 [D.mv]) (fun H1 hS => ?_) fun R hR => ?_
    rotate_left
    · walk_at "rd"
      refine ifB (fun hne => ?_) (fun hne => ?_)
      · walk_at "rd"
        refine s_app hm1 (sz_lt (by omega)) ?_
        exact hR _ ⟨DK.setV (by rw [List.length_append]; simp; omega), by rw [upd_ne (ne_of hc hm1 (fun z => by cases z))]; exact hc, fun x o hx hS => by rw [upd_ne (by simpa using hS)]; exact hx⟩
      · exact hR _ ⟨DK, hc, fun x o hx _ => hx⟩
    · obtain ⟨DK1, hc1, f1⟩ := hS
      walk_at "rd"
      have hob1 := DK1.ob
      have ep : putF (Str.ofString "now") (V.int v') (cellF d nm v) = cellF d nm v' := rfl
      rw [ep]
      have DK2 := DK1.other (dx' := dc) (fs' := cellF d nm v') hc1 hcd
      have hc2 : upd H1 c (.ins (a 2) dc (cellF d nm v')) c = some (.ins (a 2) dc (cellF d nm v')) := upd_same
      have f2 : Fr H (upd H1 c (.ins (a 2) dc (cellF d nm v'))) [d, c, D.mv] := fun x o hx hS => by
        simp only [List.mem_cons, List.not_mem_nil, or_false, not_or] at hS
        rw [upd_ne hS.2.1]; exact f1 _ _ hx (by simpa using hS.2.2)
      generalize upd H1 c (.ins (a 2) dc (cellF d nm v')) = H2 at DK2 hc2 f2 ⊢
      have hob2 := DK2.ob
      walk_at "rd"
      refine ⟨d, D, names, cl, rfl, DK2, fun z H3 nz DK3 hz3 f3 => ?_⟩
      walk_at "rd"
      have nzH : H z = none := by
        cases ez : H z with
        | none => rfl
        | some o =>
          by_cases hS : z ∈ [d, c, D.mv]
          · simp only [List.mem_cons, List.not_mem_nil, or_false] at hS
            obtain ⟨ms2, hm3, _⟩ := DK2.mv
            rcases hS with rfl | rfl | rfl
            · rw [hob2] at nz; cases nz
            · rw [hc2] at nz; cases nz
            · rw [hm3] at nz; cases nz
          · rw [f2 _ _ ez hS] at nz; cases nz
      exact k z H3 nzH DK3 hz3 ⟨dc, f3 _ _ hc2 (by simpa using hcd)⟩ fun x o hx hS => f3 _ _ (f2 _ _ hx hS) (by simp only [List.mem_cons, List.not_mem_nil, or_false, not_or] at hS ⊢; exact hS.1)
theorem b_Cell_put (T : Td P K mg a fd tk) : Binds K (fd 9) ["self", "value"] [] := T.F_Cell_put.binds fun _ _ _ _ _ _ us hl => match us, hl with | [_, _], _ => rfl
end
end Tr
set_option maxHeartbeats 4000000

namespace Tr
open PySem L2
section
variable {P : Program} {w : World} {K : PySem.W.Frag} {mg : Str → Option Value} {base : Heap} {a : Nat → Addr} {fd : Nat → FuncData} {tk : Nat → Tok}
local macro_rules | `(tactic| walk_at "ne") => `(tactic| first | assumption | (exact Ne.symm (by assumption)) | (refine ne_of_none (by assumption) (by assumption)) | (refine Ne.symm (ne_of_none (by assumption) (by assumption))))
local macro_rules | `(tactic| walk_at "hl") => `(tactic| first | assumption | with_reducible exact upd_same | ((with_reducible refine' Eq.trans (upd_ne ?hne) ?hrest); (case hne => walk_at "ne"); (case hrest => walk_at "hl")) | (refine' get_same ?hs ?hg; (case hs => assumption); (case hg => assumption)))
local macro_rules | `(tactic| walk_at "at") => `(tactic| first | with_reducible exact atI_0 _ _ | with_reducible exact atI_1 _ _ _ | with_reducible exact atI_2 _ _ _ _ | with_reducible exact atI_3 _ _ _ _ _ | assumption)
local macro_rules | `(tactic| walk_at "rd1") => `(tactic| first
  | with_reducible refine s_seq ?_ | with_reducible refine s_next ?_ | with_reducible refine s_if ?_ | with_reducible refine s_ret ?_ | with_reducible refine s_retN ?_ | with_reducible refine s_drop ?_ | with_reducible refine s_asg ?_ | with_reducible refine s_brk ?_ | with_reducible refine s_cont ?_
  | with_reducible refine s_gname ?_ | with_reducible refine s_c ?_ | with_reducible refine s_op ?_ | with_reducible refine s_un ?_ | with_reducible refine s_neg ?_ | with_reducible refine s_test ?_ | with_reducible refine s_tb ?_ | with_reducible refine s_not ?_ | with_reducible refine s_and ?_ | with_reducible refine s_or ?_ | with_reducible refine s_yes ?_
  | ((with_reducible refine' s_var ?hv ?_); (case hv => exact rfl))
  | with_reducible refine s_ifx ?_ | with_reducible refine s_andV ?_ | with_reducible refine s_orV ?_ | with_reducible refine s_notV ?_ | with_reducible refine s_chain ?_ | with_reducible refine s_nil ?_ | with_reducible refine s_cons ?_ | with_reducible refine s_lst ?_ | with_reducible refine s_tup ?_ | with_reducible refine s_cb ?_ | with_reducible refine s_call ?_ | with_reducible refine s_meth ?_ | with_reducible refine s_make ?_
  | with_reducible refine s_dnewK ?_ | with_reducible refine s_sl ?_ | with_reducible refine s_po0 ?_ | with_reducible refine s_po1 ?_ | with_reducible refine s_bm ?_ | with_reducible refine s_bm0 ?_
  | with_reducible refine s_bl ?_ | with_reducible refine s_int ?_ | with_reducible refine s_I0 ?_ | with_reducible refine s_addI ?_ | with_reducible refine s_intI ?_ | with_reducible refine s_intB ?_
  | with_reducible refine s_m1 ?_ | with_reducible refine s_lc ?_ | with_reducible refine s_ilist ?_ | with_reducible refine s_for ?_ | with_reducible refine s_irng ?_ | with_reducible refine s_match ?_ | with_reducible refine s_starT ?_ | with_reducible refine s_isS ?_ | with_reducible refine s_isiSS ?_ | with_reducible refine s_fldU ?_ | with_reducible refine s_sfldU ?_
  | ((with_reducible refine' s_eqS ?hq ?_); (case hq => exact rfl)) | ((with_reducible refine' s_neS ?hq ?_); (case hq => exact rfl))
  | ((with_reducible refine' s_isN ?hq ?_); (case hq => exact rfl)) | ((with_reducible refine' s_notN ?hq ?_); (case hq => exact rfl))
  | ((with_reducible refine' s_eqNil ?h1 ?h2 ?_); (case h1 => walk_at "hl"); (case h2 => walk_at "hl")) | ((with_reducible refine' s_neNil ?h1 ?h2 ?_); (case h1 => walk_at "hl"); (case h2 => walk_at "hl"))
  | ((with_reducible refine' s_ixL ?h1 ?h2 ?_); (case h1 => walk_at "hl"); (case h2 => walk_at "at")) | ((with_reducible refine' s_ixT ?h1 ?h2 ?_); (case h1 => walk_at "hl"); (case h2 => walk_at "at"))
  | ((with_reducible refine' s_inS ?h1 ?_); (case h1 => walk_at "hl")) | ((with_reducible refine' s_ninS ?h1 ?_); (case h1 => walk_at "hl")) | with_reducible refine s_inW ?_
  | ((with_reducible refine' s_lenL ?h1 ?_); (case h1 => walk_at "hl")) | ((with_reducible refine' s_lenT ?h1 ?_); (case h1 => walk_at "hl"))
  | ((with_reducible refine' s_tyL ?h1 ?_); (case h1 => walk_at "hl"))
  | ((with_reducible refine' s_fldM ?h1 ?h2 ?h3 ?_); (case h1 => walk_at "hl"); (case h2 => walk_at "fok"); (case h3 => walk_at "flk"))
  | ((with_reducible refine' s_setM ?h1 ?h2 ?h3 ?h4 ?_); (case h1 => walk_at "hl"); (case h2 => walk_at "fok"); (case h4 => walk_at "put"); (case h3 => exact Nat.le_of_ble_eq_true rfl))
  | ((with_reducible refine' s_starM ?h1 ?_); (case h1 => walk_at "hl"))
  | ((with_reducible refine' s_recv ?h1 ?h2 ?_); (case h1 => walk_at "hl"); (case h2 => exact rfl))
  | ((with_reducible refine' s_sz ?h1 ?_); (case h1 => (simp; done))))
local macro_rules | `(tactic| walk_at "rd") => `(tactic| repeat (walk_at "rd1"))
local macro_rules | `(tactic| walk_at "fok") => `(tactic| assumption)
local macro_rules | `(tactic| walk_at "flk") => `(tactic| rfl)
local macro_rules | `(tactic| walk_at "put") => `(tactic| exact rfl)

local macro_rules | `(tactic| walk_at "fok") => `(tactic| first | assumption | exact Td.ce (by assumption) (by decide) | exact Td.de (by assumption) (by decide))
def spVal (a : Nat → Addr) : Sp := fun vs H Q _ => ∃ d c nm v, vs = [.ref c] ∧ CellAt a H d c nm v ∧ Q (.int v) H
theorem ok_Cell_value (T : Td P K mg a fd tk) : FnOk P w K mg base CX0 1 (a 8) (fd 8) ["self"] (spVal a) := by
  refine T.F_Cell_value.ok sc_Cell_valueG (fun vs H Q E h => ?_) (fun cdv A outer s H vs Q E hr h => ?_)
  · obtain ⟨d, c, nm, v, rfl, _⟩ := h
    rfl
  · obtain ⟨d, c, nm, v, rfl, ⟨dc, hc⟩, k⟩ := h
    refine ⟨_, (pss_one (ps_ret (pe_fldU K (pv 0)))), ?_⟩
    walk_at "rd"
    exact k
theorem b_Cell_value (T : Td P K mg a fd tk) : Binds K (fd 8) ["self"] [] := T.F_Cell_value.binds fun _ _ _ _ _ _ us hl => match us, hl with | [_], _ => rfl
def spIadd (a : Nat → Addr) : Sp := fun vs H Q _ => ∃ d D names cl c nm v x, vs = [.ref c, .int x] ∧ DeskAt a H d D names cl ∧ CellAt a H d c nm v ∧ (∃ ms, H D.mv = some (.lst ms) ∧ ms.length ≤ 50) ∧ c ≠ d ∧ ∀ z H', H z = none → DeskAt a H' d { D with mv := z } names cl → H' z = some (.lst []) → CellAt a H' d c nm (v + x) → Fr H H' [d, c, D.mv] → Q (.ref c) H'
theorem ok_Cell___iadd__ (T : Td P K mg a fd tk) : FnOk P w K mg base CX0 4 (a 10) (fd 10) ["self", "number"] (spIadd a) := by
  refine T.F_Cell___iadd__.ok sc_Cell___iadd__ (fun vs H Q E h => ?_) (fun cdv A outer s H vs Q E hr h => ?_)
  · obtain ⟨d, D, names, cl, c, nm, v, x, rfl, _⟩ := h
    rfl
  · obtain ⟨d, D, names, cl, c, nm, v, x, rfl, DK, ⟨dc, hc⟩, hm, hcd, k⟩ := h
    refine ⟨_, (pss_cons (ps_expr (pe_meth (pv 0) T.cl_Cell T.m_Cell_put (ok_Cell_put T) (hr.mono (by decide)) (b_Cell_put T) .nil pass0 (pa_cons (pe_op uAdd (pe_fldU K (pv 0)) (pv 1)) pa_nil)))
  (pss_one (ps_ret (pv 0)))), ?_⟩
    walk_at "rd"
    refine ⟨d, D, names, cl, c, nm, v, v + x, rfl, DK, ⟨dc, hc⟩, hm, hcd, fun z H' nz DK' hz hc' f' => ?_⟩
    walk_at "rd"
    exact k z H' nz DK' hz hc' f'
theorem b_Cell___iadd__ (T : Td P K mg a fd tk) : Binds K (fd 10) ["self", "number"] [] := T.F_Cell___iadd__.binds fun _ _ _ _ _ _ us hl => match us, hl with | [_, _], _ => rfl
def spLenD (a : Nat → Addr) : Sp := fun vs H Q _ => ∃ d D names cl, vs = [.ref d] ∧ DeskAt a H d D names cl ∧ Q (.int (0 : Nat)) H
theorem ok_Desk___len__ (T : Td P K mg a fd tk) : FnOk P w K mg base CX0 1 (a 21) (fd 21) ["self"] (spLenD a) := by
  refine T.F_Desk___len__.ok sc_Desk___len__ (fun vs H Q E h => ?_) (fun cdv A outer s H vs Q E hr h => ?_)
  · obtain ⟨d, D, names, cl, rfl, _⟩ := h
    rfl
  · obtain ⟨d, D, names, cl, rfl, DK, k⟩ := h
    refine ⟨_, (pss_one (ps_ret (pe_callB uLen (by rfl) T.b_len bt_len (pa_cons (pe_fldU K (pv 0)) pa_nil)))), ?_⟩
    have hob := DK.ob
    have hlg := DK.lg
    walk_at "rd"
    exact k
theorem b_Desk___len__ (T : Td P K mg a fd tk) : Binds K (fd 21) ["self"] [] := T.F_Desk___len__.binds fun _ _ _ _ _ _ us hl => match us, hl with | [_], _ => rfl
def spIterD (a : Nat → Addr) : Sp := fun vs H Q _ => ∃ d D names cl, vs = [.ref d] ∧ DeskAt a H d D names cl ∧ ∀ it, H it = none → Q (.ref it) (upd H it (ItO D.lg it 0))
theorem bt_iter : bootBuiltins "iter" = some (.builtin "iter") := by decide +kernel
theorem ok_Desk___iter__ (T : Td P K mg a fd tk) : FnOk P w K mg base CX0 1 (a 20) (fd 20) ["self"] (spIterD a) := by
  refine T.F_Desk___iter__.ok sc_Desk___iter__ (fun vs H Q E h => ?_) (fun cdv A outer s H vs Q E hr h => ?_)
  · obtain ⟨d, D, names, cl, rfl, _⟩ := h
    rfl
  · obtain ⟨d, D, names, cl, rfl, DK, k⟩ := h
    refine ⟨_, (pss_one (ps_ret (pe_callB call_iterL (by rfl) T.b_iter bt_iter (pa_cons (pe_fldU K (pv 0)) pa_nil)))), ?_⟩
    have hob := DK.ob
    have hlg := DK.lg
    walk_at "rd"
    exact ⟨D.lg, [], rfl, SqL.of hlg, k⟩
theorem b_Desk___iter__ (T : Td P K mg a fd tk) : Binds K (fd 20) ["self"] [] := T.F_Desk___iter__.binds fun _ _ _ _ _ _ us hl => match us, hl with | [_], _ => rfl
theorem hu65 {k : Nat} {A : Around} (hr : Room k A) : A.units + 65 < cLine := by have := hr.un; omega
def rInUD (K : PySem.W.Frag) : R2 := fun x y H Q => rInU K false x y H Q ∨ rInD K x y H Q
theorem op_inUD {X : Cx} (K : PySem.W.Frag) (hu : X.A.units + 65 < cLine) (hK : X.K = K := by rfl) : OpR X (compareOp .In) (rInUD K) := by
  intro pins s σ H x y v u Q I rx ry h
  rcases h with h | h
  · exact uIn K hK pins s σ H x y v u Q I rx ry h
  · subst hK; exact op_inD hu pins s σ H x y v u Q I rx ry h
theorem s_inUD {σ : L2.St} {x y : V} {H : Hp} {Q : VK} (h : rInUD K x y H Q) : rInUD K x y H Q := h
/-- x in desk, x a value of a kind that can be compared with texts -/
def spInD (a : Nat → Addr) (K : PySem.W.Frag) : Sp := fun vs H Q _ => ∃ d D names cl x b, vs = [.ref d, x] ∧ DeskAt a H d D names cl ∧ (∀ {Q' : VK}, Q' (.bl b) H → rInUD K x (.ref D.un) H Q') ∧ Q (.bl b) H
theorem ok_Desk___contains__ (T : Td P K mg a fd tk) : FnOk P w K mg base CX0 1 (a 19) (fd 19) ["self", "thing"] (spInD a K) := by
  refine T.F_Desk___contains__.ok sc_Desk___contains__ (fun vs H Q E h => ?_) (fun cdv A outer s H vs Q E hr h => ?_)
  · obtain ⟨d, D, names, cl, x, b, rfl, _⟩ := h
    rfl
  · obtain ⟨d, D, names, cl, x, b, rfl, DK, hin, k⟩ := h
    refine ⟨_, (pss_one (ps_ret (pe_cmpR (op_inUD K (hu65 hr)) (pv 1) (pe_fldU K (pv 0)) (by rfl)))), ?_⟩
    have hob := DK.ob
    walk_at "rd"
    exact hin k
theorem b_Desk___contains__ (T : Td P K mg a fd tk) : Binds K (fd 19) ["self", "thing"] [] := T.F_Desk___contains__.binds fun _ _ _ _ _ _ us hl => match us, hl with | [_, _], _ => rfl
theorem di_step {H : Hp} {d dd p C : Addr} {fs fs' : List (Str × V)} {o : HO} (hd : H d = some (.ins C dd fs)) (n : H p = none) : upd (upd H p o) d (.ins C dd fs') d = some (.ins C dd fs') ∧ upd (upd H p o) d (.ins C dd fs') p = some o ∧ (∀ x o', H x = some o' → x ≠ d → upd (upd H p o) d (.ins C dd fs') x = some o') ∧ ∀ x, upd (upd H p o) d (.ins C dd fs') x = none → H x = none ∧ x ≠ p :=
  ⟨upd_same, by rw [upd_ne (Ne.symm (ne_of_none hd n))]; exact upd_same, fun x o' hx hne => by rw [upd_ne hne, upd_ne (ne_of_none hx n)]; exact hx, fun x hx => by
    have h1 : x ≠ d := by rintro rfl; rw [upd_same] at hx; cases hx
    rw [upd_ne h1] at hx
    have h2 : x ≠ p := by rintro rfl; rw [upd_same] at hx; cases hx
    rw [upd_ne h2] at hx
    exact ⟨hx, h2⟩⟩
theorem upd_non {H : Hp} {x y : Addr} {o : HO} (h : upd H x o y = none) : y ≠ x ∧ H y = none := by
  have hn : y ≠ x := by rintro rfl; rw [upd_same] at h; cases h
  exact ⟨hn, by rw [upd_ne hn] at h; exact h⟩
def spDeskI (a : Nat → Addr) : Sp := fun vs H Q _ => ∃ d dd, vs = [.ref d] ∧ H d = some (.ins (a 3) dd []) ∧ ∀ D H', DeskAt a H' d D [] [] → H' D.mv = some (.lst []) → D.dd = dd → (∀ x o, H x = some o → x ≠ d → H' x = some o) → (∀ x ∈ [D.un, D.cs, D.rd, D.ef, D.lg, D.fr, D.mv], H x = none) → Q .non H'
theorem ok_Desk___init__ (T : Td P K mg a fd tk) : FnOk P w K mg base CX0 1 (a 11) (fd 11) ["self"] (spDeskI a) := by
  refine T.F_Desk___init__.ok sc_Desk___init__ (fun vs H Q E h => ?_) (fun cdv A outer s H vs Q E hr h => ?_)
  · obtain ⟨d, dd, rfl, _⟩ := h
    rfl
  · obtain ⟨d, dd, rfl, hd, k⟩ := h
    refine ⟨_, (pss_cons (ps_fldU K (pv 0) (pe_lst pa_nil))
  (pss_cons (ps_fldU K (pv 0) pe_dnewK)
  (pss_cons (ps_fldU K (pv 0) pe_dnewK)
  (pss_cons (ps_fldU K (pv 0) (pe_lst pa_nil))
  (pss_cons (ps_fldU K (pv 0) (pe_lst pa_nil))
  (pss_cons (ps_fldU K (pv 0) (pe_lst pa_nil))
  (pss_cons (ps_fldU K (pv 0) pe_int)
  (pss_one (ps_fldU K (pv 0) (pe_lst pa_nil)))))))))), ?_⟩
    walk_at "rd"
    intro un n1
    walk_at "rd"
    obtain ⟨hd1, hp1, kp1, nn1⟩ := di_step (o := (.lst [])) (fs' := [("used_names", .ref un)]) hd n1
    have e1 : ∀ (Hx : Hp), upd (upd Hx un (.lst [])) d (.ins (a 3) dd [("used_names", .ref un)]) = upd (upd Hx un (.lst [])) d (.ins (a 3) dd [("used_names", .ref un)]) := fun _ => rfl
    generalize hH1 : upd (upd H un (.lst [])) d (.ins (a 3) dd [("used_names", .ref un)]) = H1 at hd1 hp1 kp1 nn1
    first | rw [show upd (upd H un (.lst [])) d (.ins (a 3) dd (putF (Str.ofString "used_names") (.ref un) [])) = H1 from hH1] | skip
    clear e1
    walk_at "rd"
    intro cs n2
    walk_at "rd"
    obtain ⟨hd2, hp2, kp2, nn2⟩ := di_step (o := (.dK [])) (fs' := [("used_names", .ref un), ("cells", .ref cs)]) hd1 n2
    have e2 : ∀ (Hx : Hp), upd (upd Hx cs (.dK [])) d (.ins (a 3) dd [("used_names", .ref un), ("cells", .ref cs)]) = upd (upd Hx cs (.dK [])) d (.ins (a 3) dd [("used_names", .ref un), ("cells", .ref cs)]) := fun _ => rfl
    generalize hH2 : upd (upd H1 cs (.dK [])) d (.ins (a 3) dd [("used_names", .ref un), ("cells", .ref cs)]) = H2 at hd2 hp2 kp2 nn2
    first | rw [show upd (upd H1 cs (.dK [])) d (.ins (a 3) dd (putF (Str.ofString "cells") (.ref cs) [("used_names", .ref un)])) = H2 from hH2] | skip
    clear e2
    walk_at "rd"
    intro rd n3
    walk_at "rd"
    obtain ⟨hd3, hp3, kp3, nn3⟩ := di_step (o := (.dK [])) (fs' := [("used_names", .ref un), ("cells", .ref cs), ("readable", .ref rd)]) hd2 n3
    have e3 : ∀ (Hx : Hp), upd (upd Hx rd (.dK [])) d (.ins (a 3) dd [("used_names", .ref un), ("cells", .ref cs), ("readable", .ref rd)]) = upd (upd Hx rd (.dK [])) d (.ins (a 3) dd [("used_names", .ref un), ("cells", .ref cs), ("readable", .ref rd)]) := fun _ => rfl
    generalize hH3 : upd (upd H2 rd (.dK [])) d (.ins (a 3) dd [("used_names", .ref un), ("cells", .ref cs), ("readable", .ref rd)]) = H3 at hd3 hp3 kp3 nn3
    first | rw [show upd (upd H2 rd (.dK [])) d (.ins (a 3) dd (putF (Str.ofString "readable") (.ref rd) [("used_names", .ref un), ("cells", .ref cs)])) = H3 from hH3] | skip
    clear e3
    walk_at "rd"
    intro ef n4
    walk_at "rd"
    obtain ⟨hd4, hp4, kp4, nn4⟩ := di_step (o := (.lst [])) (fs' := [("used_names", .ref un), ("cells", .ref cs), ("readable", .ref rd), ("effects", .ref ef)]) hd3 n4
    have e4 : ∀ (Hx : Hp), upd (upd Hx ef (.lst [])) d (.ins (a 3) dd [("used_names", .ref un), ("cells", .ref cs), ("readable", .ref rd), ("effects", .ref ef)]) = upd (upd Hx ef (.lst [])) d (.ins (a 3) dd [("used_names", .ref un), ("cells", .ref cs), ("readable", .ref rd), ("effects", .ref ef)]) := fun _ => rfl
    generalize hH4 : upd (upd H3 ef (.lst [])) d (.ins (a 3) dd [("used_names", .ref un), ("cells", .ref cs), ("readable", .ref rd), ("effects", .ref ef)]) = H4 at hd4 hp4 kp4 nn4
    first | rw [show upd (upd H3 ef (.lst [])) d (.ins (a 3) dd (putF (Str.ofString "effects") (.ref ef) [("used_names", .ref un), ("cells", .ref cs), ("readable", .ref rd)])) = H4 from hH4] | skip
    clear e4
    walk_at "rd"
    intro lg n5
    walk_at "rd"
    obtain ⟨hd5, hp5, kp5, nn5⟩ := di_step (o := (.lst [])) (fs' := [("used_names", .ref un), ("cells", .ref cs), ("readable", .ref rd), ("effects", .ref ef), ("log", .ref lg)]) hd4 n5
    have e5 : ∀ (Hx : Hp), upd (upd Hx lg (.lst [])) d (.ins (a 3) dd [("used_names", .ref un), ("cells", .ref cs), ("readable", .ref rd), ("effects", .ref ef), ("log", .ref lg)]) = upd (upd Hx lg (.lst [])) d (.ins (a 3) dd [("used_names", .ref un), ("cells", .ref cs), ("readable", .ref rd), ("effects", .ref ef), ("log", .ref lg)]) := fun _ => rfl
    generalize hH5 : upd (upd H4 lg (.lst [])) d (.ins (a 3) dd [("used_names", .ref un), ("cells", .ref cs), ("readable", .ref rd), ("effects", .ref ef), ("log", .ref lg)]) = H5 at hd5 hp5 kp5 nn5
    first | rw [show upd (upd H4 lg (.lst [])) d (.ins (a 3) dd (putF (Str.ofString "log") (.ref lg) [("used_names", .ref un), ("cells", .ref cs), ("readable", .ref rd), ("effects", .ref ef)])) = H5 from hH5] | skip
    clear e5
    walk_at "rd"
    intro fr n6
    walk_at "rd"
    obtain ⟨hd6, hp6, kp6, nn6⟩ := di_step (o := (.lst [])) (fs' := [("used_names", .ref un), ("cells", .ref cs), ("readable", .ref rd), ("effects", .ref ef), ("log", .ref lg), ("frames", .ref fr)]) hd5 n6
    have e6 : ∀ (Hx : Hp), upd (upd Hx fr (.lst [])) d (.ins (a 3) dd [("used_names", .ref un), ("cells", .ref cs), ("readable", .ref rd), ("effects", .ref ef), ("log", .ref lg), ("frames", .ref fr)]) = upd (upd Hx fr (.lst [])) d (.ins (a 3) dd [("used_names", .ref un), ("cells", .ref cs), ("readable", .ref rd), ("effects", .ref ef), ("log", .ref lg), ("frames", .ref fr)]) := fun _ => rfl
    generalize hH6 : upd (upd H5 fr (.lst [])) d (.ins (a 3) dd [("used_names", .ref un), ("cells", .ref cs), ("readable", .ref rd), ("effects", .ref ef), ("log", .ref lg), ("frames", .ref fr)]) = H6 at hd6 hp6 kp6 nn6
    first | rw [show upd (upd H5 fr (.lst [])) d (.ins (a 3) dd (putF (Str.ofString "frames") (.ref fr) [("used_names", .ref un), ("cells", .ref cs), ("readable", .ref rd), ("effects", .ref ef), ("log", .ref lg)])) = H6 from hH6] | skip
    clear e6
    walk_at "rd"
    intro mv n7
    have nmd : mv ≠ d := by rintro rfl; rw [upd_same] at n7; cases n7
    have n7' : H6 mv = none := by rw [upd_ne nmd] at n7; exact n7
    walk_at "rd"
    have up : ∀ {x : Addr} {o : HO}, H6 x = some o → x ≠ d → ∀ {u1 u2 : HO}, upd (upd (upd H6 d u1) mv (.lst [])) d u2 x = some o := by
      intro x o hx hne u1 u2
      rw [upd_ne hne, upd_ne (ne_of_none hx n7'), upd_ne hne]; exact hx
    have f1 := n1
    have f2 := (nn1 _ n2).1
    have f3 := (nn1 _ (nn2 _ n3).1).1
    have f4 := (nn1 _ (nn2 _ (nn3 _ n4).1).1).1
    have f5 := (nn1 _ (nn2 _ (nn3 _ (nn4 _ n5).1).1).1).1
    have f6 := (nn1 _ (nn2 _ (nn3 _ (nn4 _ (nn5 _ n6).1).1).1).1).1
    have f7 := (nn1 _ (nn2 _ (nn3 _ (nn4 _ (nn5 _ (nn6 _ n7').1).1).1).1).1).1
    have nd : ∀ {x : Addr}, H x = none → x ≠ d := fun h => by rintro rfl; rw [hd] at h; cases h
    have q1 := kp6 _ _ (kp5 _ _ (kp4 _ _ (kp3 _ _ (kp2 _ _ hp1 (nd f1)) (nd f1)) (nd f1)) (nd f1)) (nd f1)
    have q2 := kp6 _ _ (kp5 _ _ (kp4 _ _ (kp3 _ _ hp2 (nd f2)) (nd f2)) (nd f2)) (nd f2)
    have q3 := kp6 _ _ (kp5 _ _ (kp4 _ _ hp3 (nd f3)) (nd f3)) (nd f3)
    have q4 := kp6 _ _ (kp5 _ _ hp4 (nd f4)) (nd f4)
    have q5 := kp6 _ _ hp5 (nd f5)
    refine k ⟨dd, un, cs, rd, ef, lg, fr, mv⟩ _ ⟨upd_same, up q1 (nd f1), up q2 (nd f2), up q3 (nd f3), up q4 (nd f4), up q5 (nd f5), up hp6 (nd f6), ⟨[], by rw [upd_ne nmd]; exact upd_same, by simp⟩, ?_⟩ (by rw [upd_ne nmd]; exact upd_same) rfl (fun x o hx hne => up (kp6 _ _ (kp5 _ _ (kp4 _ _ (kp3 _ _ (kp2 _ _ (kp1 _ _ hx hne) hne) hne) hne) hne) hne) hne) (fun x hx => ?_)
    · have a1 := (nn4 _ (nn5 _ (nn6 _ n7').1).1).2
      have a2 := (nn5 _ (nn6 _ n7').1).2
      have a3 := (nn6 _ n7').2
      have a4 := (nn4 _ (nn5 _ n6).1).2
      have a5 := (nn5 _ n6).2
      have a6 := (nn4 _ n5).2
      have b1 := (nn1 _ (nn2 _ (nn3 _ n4).1).1).2
      have b2 := (nn1 _ (nn2 _ (nn3 _ (nn4 _ n5).1).1).1).2
      have b3 := (nn1 _ (nn2 _ (nn3 _ (nn4 _ (nn5 _ n6).1).1).1).1).2
      have b4 := (nn1 _ (nn2 _ (nn3 _ (nn4 _ (nn5 _ (nn6 _ n7').1).1).1).1).1).2
      have c1 := (nn2 _ n3).2
      simp only [List.nodup_cons, List.mem_cons, List.not_mem_nil, or_false, not_or, List.nodup_nil, and_true]
      exact ⟨⟨⟨Ne.symm b1, Ne.symm b2, Ne.symm b3, Ne.symm b4⟩, ⟨Ne.symm a6, Ne.symm a4, Ne.symm a1⟩, ⟨Ne.symm a5, Ne.symm a2⟩, Ne.symm a3, not_false⟩, Ne.symm c1⟩
    · simp only [List.mem_cons, List.not_mem_nil, or_false] at hx
      rcases hx with rfl | rfl | rfl | rfl | rfl | rfl | rfl
      · exact f1
      · exact f2
      · exact f3
      · exact f4
      · exact f5
      · exact f6
      · exact f7
theorem b_Desk___init__ (T : Td P K mg a fd tk) : Binds K (fd 11) ["self"] [] := T.F_Desk___init__.binds fun _ _ _ _ _ _ us hl => match us, hl with | [_], _ => rfl
end
end Tr
set_option maxHeartbeats 4000000

namespace Tr
open PySem L2
section
variable {P : Program} {w : World} {K : PySem.W.Frag} {mg : Str → Option Value} {base : Heap} {a : Nat → Addr} {fd : Nat → FuncData} {tk : Nat → Tok}
local macro_rules | `(tactic| walk_at "ne") => `(tactic| first | assumption | (exact Ne.symm (by assumption)) | (refine ne_of_none (by assumption) (by assumption)) | (refine Ne.symm (ne_of_none (by assumption) (by assumption))))
local macro_rules | `(tactic| walk_at "hl") => `(tactic| first | assumption | with_reducible exact upd_same | ((with_reducible refine' Eq.trans (upd_ne ?hne) ?hrest); (case hne => walk_at "ne"); (case hrest => walk_at "hl")) | (refine' get_same ?hs ?hg; (case hs => assumption); (case hg => assumption)))
local macro_rules | `(tactic| walk_at "at") => `(tactic| first | with_reducible exact atI_0 _ _ | with_reducible exact atI_1 _ _ _ | with_reducible exact atI_2 _ _ _ _ | with_reducible exact atI_3 _ _ _ _ _ | assumption)
local macro_rules | `(tactic| walk_at "rd1") => `(tactic| first
  | with_reducible refine s_seq ?_ | with_reducible refine s_next ?_ | with_reducible refine s_if ?_ | with_reducible refine s_ret ?_ | with_reducible refine s_retN ?_ | with_reducible refine s_drop ?_ | with_reducible refine s_asg ?_ | with_reducible refine s_brk ?_ | with_reducible refine s_cont ?_
  | with_reducible refine s_gname ?_ | with_reducible refine s_c ?_ | with_reducible refine s_op ?_ | with_reducible refine s_un ?_ | with_reducible refine s_neg ?_ | with_reducible refine s_test ?_ | with_reducible refine s_tb ?_ | with_reducible refine s_not ?_ | with_reducible refine s_and ?_ | with_reducible refine s_or ?_ | with_reducible refine s_yes ?_
  | ((with_reducible refine' s_var ?hv ?_); (case hv => exact rfl))
  | with_reducible refine s_ifx ?_ | with_reducible refine s_andV ?_ | with_reducible refine s_orV ?_ | with_reducible refine s_notV ?_ | with_reducible refine s_chain ?_ | with_reducible refine s_nil ?_ | with_reducible refine s_cons ?_ | with_reducible refine s_lst ?_ | with_reducible refine s_tup ?_ | with_reducible refine s_cb ?_ | with_reducible refine s_call ?_ | with_reducible refine s_meth ?_ | with_reducible refine s_make ?_
  | with_reducible refine s_dnewK ?_ | with_reducible refine s_sl ?_ | with_reducible refine s_po0 ?_ | with_reducible refine s_po1 ?_ | with_reducible refine s_bm ?_ | with_reducible refine s_bm0 ?_
  | with_reducible refine s_bl ?_ | with_reducible refine s_int ?_ | with_reducible refine s_I0 ?_ | with_reducible refine s_addI ?_ | with_reducible refine s_intI ?_ | with_reducible refine s_intB ?_
  | with_reducible refine s_m1 ?_ | with_reducible refine s_lc ?_ | with_reducible refine s_ilist ?_ | with_reducible refine s_for ?_ | with_reducible refine s_irng ?_ | with_reducible refine s_match ?_ | with_reducible refine s_starT ?_ | with_reducible refine s_isS ?_ | with_reducible refine s_isiSS ?_ | with_reducible refine s_fldU ?_ | with_reducible refine s_sfldU ?_
  | ((with_reducible refine' s_eqS ?hq ?_); (case hq => exact rfl)) | ((with_reducible refine' s_neS ?hq ?_); (case hq => exact rfl))
  | ((with_reducible refine' s_isN ?hq ?_); (case hq => exact rfl)) | ((with_reducible refine' s_notN ?hq ?_); (case hq => exact rfl))
  | ((with_reducible refine' s_eqNil ?h1 ?h2 ?_); (case h1 => walk_at "hl"); (case h2 => walk_at "hl")) | ((with_reducible refine' s_neNil ?h1 ?h2 ?_); (case h1 => walk_at "hl"); (case h2 => walk_at "hl"))
  | ((with_reducible refine' s_ixL ?h1 ?h2 ?_); (case h1 => walk_at "hl"); (case h2 => walk_at "at")) | ((with_reducible refine' s_ixT ?h1 ?h2 ?_); (case h1 => walk_at "hl"); (case h2 => walk_at "at"))
  | ((with_reducible refine' s_inS ?h1 ?_); (case h1 => walk_at "hl")) | ((with_reducible refine' s_ninS ?h1 ?_); (case h1 => walk_at "hl")) | with_reducible refine s_inW ?_
  | ((with_reducible refine' s_lenL ?h1 ?_); (case h1 => walk_at "hl")) | ((with_reducible refine' s_lenT ?h1 ?_); (case h1 => walk_at "hl"))
  | ((with_reducible refine' s_tyL ?h1 ?_); (case h1 => walk_at "hl"))
  | ((with_reducible refine' s_fldM ?h1 ?h2 ?h3 ?_); (case h1 => walk_at "hl"); (case h2 => walk_at "fok"); (case h3 => walk_at "flk"))
  | ((with_reducible refine' s_setM ?h1 ?h2 ?h3 ?h4 ?_); (case h1 => walk_at "hl"); (case h2 => walk_at "fok"); (case h4 => walk_at "put"); (case h3 => exact Nat.le_of_ble_eq_true rfl))
  | ((with_reducible refine' s_starM ?h1 ?_); (case h1 => walk_at "hl"))
  | ((with_reducible refine' s_recv ?h1 ?h2 ?_); (case h1 => walk_at "hl"); (case h2 => exact rfl))
  | ((with_reducible refine' s_sz ?h1 ?_); (case h1 => (simp; done))))
local macro_rules | `(tactic| walk_at "rd") => `(tactic| repeat (walk_at "rd1"))
local macro_rules | `(tactic| walk_at "fok") => `(tactic| assumption)
local macro_rules | `(tactic| walk_at "flk") => `(tactic| rfl)
local macro_rules | `(tactic| walk_at "put") => `(tactic| exact rfl)

local macro_rules | `(tactic| walk_at "fok") => `(tactic| first | assumption | exact Td.ce (by assumption) (by decide) | exact Td.de (by assumption) (by decide))
theorem s_dput {σ : L2.St} {H : Hp} {td ty tv : TE} {na : L2.St → Hp → Prop} {rt : VK} {bk ct : L2.St → Hp → Prop} (h : tv σ H fun v H1 => td σ H1 fun x H2 => ty σ H2 fun y H3 => ∃ a H4, x = .ref a ∧ DPut H3 a y v H4 ∧ na σ H4) : sDPut td ty tv ⟨na, rt, bk, ct⟩ σ H := h
def cdK (cl : List (Str × Addr)) : List (Key × V) := cl.map fun c => (.inr c.1, .ref c.2)
theorem cdK_put {cl : List (Str × Addr)} {nm : Str} {x : Addr} (h : nm ∉ cl.map (·.1)) : putK (cdK cl) (.inr nm) (.ref x) = cdK (cl ++ [(nm, x)]) := by
  unfold putK
  have e : (cdK cl).any (fun kv => decide (kv.1 = .inr nm)) = false := by
    rw [Bool.eq_false_iff]
    intro z
    obtain ⟨kv, h1, h2⟩ := List.any_eq_true.mp z
    obtain ⟨c, hc, rfl⟩ := List.mem_map.mp h1
    have : (Sum.inr c.1 : Key) = .inr nm := by simpa using h2
    exact h (List.mem_map.mpr ⟨c, hc, Sum.inr.inj this⟩)
  rw [e, if_neg (by simp)]
  simp [cdK]
theorem DeskAt.setC {H : Hp} {d : Addr} {D : DA} {names : List Str} {cl cl' : List (Str × Addr)} (h : DeskAt a H d D names cl) : DeskAt a (upd (upd H D.cs (.dK (cdK cl'))) D.rd (.dK (cdK cl'))) d D names cl' := by
  obtain ⟨nd1, nd2⟩ := h.nd
  obtain ⟨ms, m1, m2⟩ := h.mv
  have up : ∀ {x : Addr} {o : HO}, H x = some o → (∀ kv, o ≠ .dK kv) → upd (upd H D.cs (.dK (cdK cl'))) D.rd (.dK (cdK cl')) x = some o := by
    intro x o hx hn
    rw [upd_ne (ne_of hx h.rd (hn _)), upd_ne (ne_of hx h.cs (hn _))]; exact hx
  exact ⟨up h.ob (by intros; simp), up h.un (by intros; simp), by rw [upd_ne nd2]; exact upd_same, upd_same, up h.ef (by intros; simp), up h.lg (by intros; simp), up h.fr (by intros; simp), ⟨ms, up m1 (by intros; simp), m2⟩, h.nd⟩
def spCellD (a : Nat → Addr) : Sp := fun vs H Q _ => ∃ d D names cl nm v, vs = [.ref d, .str nm, .int v] ∧ DeskAt a H d D names cl ∧ nm ∉ names ∧ nm ∉ cl.map (·.1) ∧ names.length ≤ 50 ∧ cl.length ≤ 50 ∧
  ∀ c H', DeskAt a H' d D (names ++ [nm]) (cl ++ [(nm, c)]) → CellAt a H' d c nm v → H c = none → Fr H H' [D.un, D.cs, D.rd] → Q (.ref c) H'
theorem ok_Desk_cell (T : Td P K mg a fd tk) : FnOk P w K mg base CX0 4 (a 15) (fd 15) ["self", "name", "value"] (spCellD a) := by
  refine T.F_Desk_cell.ok sc_Desk_cell (fun vs H Q E h => ?_) (fun cdv A outer s H vs Q E hr h => ?_)
  · obtain ⟨d, D, names, cl, nm, v, rfl, _⟩ := h
    rfl
  · obtain ⟨d, D, names, cl, nm, v, rfl, DK, h1, h2, h3, h4, k⟩ := h
    refine ⟨_, (pss_cons (ps_expr (pe_meth (pv 0) T.cl_Desk T.m_Desk_use_name (ok_Desk_use_name T) (hr.mono (by decide)) (b_Desk_use_name T) .nil pass0 (pa_cons (pv 1) pa_nil)))
  (pss_cons (ps_asg (pe_make T.mk_Cell (ok_Cell___init__ T) (hr.mono (by decide)) (by rfl) T.g_Cell (b_Cell___init__ T) .nil pass0 (pa_cons (pv 0) (pa_cons (pv 1) (pa_cons (pv 2) pa_nil)))) (pg_name (i := 3) sc_Desk_cell.nd rfl (by first | exact Or.inl rfl | exact Or.inr rfl)))
  (pss_cons (ps_dput (hu_of hr) (pe_fldU K (pv 0)) (pv 1) (pv 3) rfl)
  (pss_cons (ps_dput (hu_of hr) (pe_fldU K (pv 0)) (pv 1) (pv 3) rfl)
  (pss_one (ps_ret (pv 3))))))), ?_⟩
    have hob := DK.ob
    walk_at "rd"
    refine ⟨d, D, names, cl, nm, rfl, DK, h1, h3, fun H1 DK1 f1 => ?_⟩
    walk_at "rd"
    intro x dx nx ndx hne
    refine ⟨x, dx, _, _, _, rfl, upd_same, ?_⟩
    refine ⟨rfl, ?_⟩
    rw [upd_upd]
    have s2 : Same H1 (upd (upd H1 dx (.own x)) x (.ins (a 2) dx (cellF d nm v))) := fun b o hb => by
      rw [upd_ne (by rintro rfl; rw [nx] at hb; cases hb), upd_ne (by rintro rfl; rw [ndx] at hb; cases hb)]; exact hb
    have hc2 : upd (upd H1 dx (.own x)) x (.ins (a 2) dx (cellF d nm v)) x = some (.ins (a 2) dx (cellF d nm v)) := upd_same
    have ep : ([("desk", .ref d), ("name", .str nm), ("now", .int v)] : List (Str × V)) = cellF d nm v := rfl
    rw [ep]
    generalize upd (upd H1 dx (.own x)) x (.ins (a 2) dx (cellF d nm v)) = H2 at s2 hc2 ⊢
    have DK2 := DK1.same s2
    have hob2 := DK2.ob
    walk_at "rd"
    refine s_dput ?_
    walk_at "rd"
    have hcs2 : H2 D.cs = some (.dK (cdK cl)) := DK2.cs
    have hrd2 : H2 D.rd = some (.dK (cdK cl)) := DK2.rd
    have lcl : (cdK cl).length < sizeLine := sz_lt (by unfold cdK; rw [List.length_map]; omega)
    refine ⟨D.cs, _, rfl, DPut.k (k := .inr nm) hcs2 lcl, ?_⟩
    rw [cdK_put h2]
    have hob3 : upd H2 D.cs (.dK (cdK (cl ++ [(nm, x)]))) d = some (.ins (a 3) D.dd (deskF D.un D.cs D.rd D.ef D.lg D.fr D.mv)) := by rw [upd_ne (ne_of hob2 hcs2 (fun z => by cases z))]; exact hob2
    have hrd3 : upd H2 D.cs (.dK (cdK (cl ++ [(nm, x)]))) D.rd = some (.dK (cdK cl)) := by rw [upd_ne (Ne.symm DK2.nd.2)]; exact hrd2
    have DK4 := DK2.setC (cl' := cl ++ [(nm, x)])
    refine s_seq (s_dput ?_)
    walk_at "rd"
    refine ⟨D.rd, _, rfl, DPut.k (k := .inr nm) hrd3 lcl, ?_⟩
    rw [cdK_put h2]
    have hc4 : upd (upd H2 D.cs (.dK (cdK (cl ++ [(nm, x)])))) D.rd (.dK (cdK (cl ++ [(nm, x)]))) x = some (.ins (a 2) dx (cellF d nm v)) := by
      rw [upd_ne (ne_of hc2 hrd2 (fun z => by cases z)), upd_ne (ne_of hc2 hcs2 (fun z => by cases z))]; exact hc2
    have f4 : Fr H (upd (upd H2 D.cs (.dK (cdK (cl ++ [(nm, x)])))) D.rd (.dK (cdK (cl ++ [(nm, x)])))) [D.un, D.cs, D.rd] := fun y o hy hS => by
      simp only [List.mem_cons, List.not_mem_nil, or_false, not_or] at hS
      rw [upd_ne hS.2.2, upd_ne hS.2.1]
      exact s2 _ _ (f1 _ _ hy (by simpa using hS.1))
    have nxH : H x = none := by
      cases e : H x with
      | none => rfl
      | some o =>
        by_cases hu : x = D.un
        · rw [hu] at nx; rw [DK1.un] at nx; cases nx
        · rw [f1 _ _ e (by simpa using hu)] at nx; cases nx
    walk_at "rd"
    exact k x _ DK4 ⟨dx, hc4⟩ nxH f4
theorem b_Desk_cell (T : Td P K mg a fd tk) : Binds K (fd 15) ["self", "name", "value"] [] := T.F_Desk_cell.binds fun _ _ _ _ _ _ us hl => match us, hl with | [_, _, _], _ => rfl
end
end Tr
set_option maxHeartbeats 4000000

namespace Tr
open PySem L2
section
variable {P : Program} {w : World} {K : PySem.W.Frag} {mg : Str → Option Value} {base : Heap} {a : Nat → Addr} {fd : Nat → FuncData} {tk : Nat → Tok}
local macro_rules | `(tactic| walk_at "ne") => `(tactic| first | assumption | (exact Ne.symm (by assumption)) | (refine ne_of_none (by assumption) (by assumption)) | (refine Ne.symm (ne_of_none (by assumption) (by assumption))))
local macro_rules | `(tactic| walk_at "hl") => `(tactic| first | assumption | with_reducible exact upd_same | ((with_reducible refine' Eq.trans (upd_ne ?hne) ?hrest); (case hne => walk_at "ne"); (case hrest => walk_at "hl")) | (refine' get_same ?hs ?hg; (case hs => assumption); (case hg => assumption)))
local macro_rules | `(tactic| walk_at "at") => `(tactic| first | with_reducible exact atI_0 _ _ | with_reducible exact atI_1 _ _ _ | with_reducible exact atI_2 _ _ _ _ | with_reducible exact atI_3 _ _ _ _ _ | assumption)
local macro_rules | `(tactic| walk_at "rd1") => `(tactic| first
  | with_reducible refine s_seq ?_ | with_reducible refine s_next ?_ | with_reducible refine s_if ?_ | with_reducible refine s_ret ?_ | with_reducible refine s_retN ?_ | with_reducible refine s_drop ?_ | with_reducible refine s_asg ?_ | with_reducible refine s_brk ?_ | with_reducible refine s_cont ?_
  | with_reducible refine s_gname ?_ | with_reducible refine s_c ?_ | with_reducible refine s_op ?_ | with_reducible refine s_un ?_ | with_reducible refine s_neg ?_ | with_reducible refine s_test ?_ | with_reducible refine s_tb ?_ | with_reducible refine s_not ?_ | with_reducible refine s_and ?_ | with_reducible refine s_or ?_ | with_reducible refine s_yes ?_
  | ((with_reducible refine' s_var ?hv ?_); (case hv => exact rfl))
  | with_reducible refine s_ifx ?_ | with_reducible refine s_andV ?_ | with_reducible refine s_orV ?_ | with_reducible refine s_notV ?_ | with_reducible refine s_chain ?_ | with_reducible refine s_nil ?_ | with_reducible refine s_cons ?_ | with_reducible refine s_lst ?_ | with_reducible refine s_tup ?_ | with_reducible refine s_cb ?_ | with_reducible refine s_call ?_ | with_reducible refine s_meth ?_ | with_reducible refine s_make ?_
  | with_reducible refine s_dnewK ?_ | with_reducible refine s_sl ?_ | with_reducible refine s_po0 ?_ | with_reducible refine s_po1 ?_ | with_reducible refine s_bm ?_ | with_reducible refine s_bm0 ?_
  | with_reducible refine s_bl ?_ | with_reducible refine s_int ?_ | with_reducible refine s_I0 ?_ | with_reducible refine s_addI ?_ | with_reducible refine s_intI ?_ | with_reducible refine s_intB ?_
  | with_reducible refine s_m1 ?_ | with_reducible refine s_lc ?_ | with_reducible refine s_ilist ?_ | with_reducible refine s_for ?_ | with_reducible refine s_irng ?_ | with_reducible refine s_match ?_ | with_reducible refine s_starT ?_ | with_reducible refine s_isS ?_ | with_reducible refine s_isiSS ?_ | with_reducible refine s_fldU ?_ | with_reducible refine s_sfldU ?_
  | ((with_reducible refine' s_eqS ?hq ?_); (case hq => exact rfl)) | ((with_reducible refine' s_neS ?hq ?_); (case hq => exact rfl))
  | ((with_reducible refine' s_isN ?hq ?_); (case hq => exact rfl)) | ((with_reducible refine' s_notN ?hq ?_); (case hq => exact rfl))
  | ((with_reducible refine' s_eqNil ?h1 ?h2 ?_); (case h1 => walk_at "hl"); (case h2 => walk_at "hl")) | ((with_reducible refine' s_neNil ?h1 ?h2 ?_); (case h1 => walk_at "hl"); (case h2 => walk_at "hl"))
  | ((with_reducible refine' s_ixL ?h1 ?h2 ?_); (case h1 => walk_at "hl"); (case h2 => walk_at "at")) | ((with_reducible refine' s_ixT ?h1 ?h2 ?_); (case h1 => walk_at "hl"); (case h2 => walk_at "at"))
  | ((with_reducible refine' s_inS ?h1 ?_); (case h1 => walk_at "hl")) | ((with_reducible refine' s_ninS ?h1 ?_); (case h1 => walk_at "hl")) | with_reducible refine s_inW ?_
  | ((with_reducible refine' s_lenL ?h1 ?_); (case h1 => walk_at "hl")) | ((with_reducible refine' s_lenT ?h1 ?_); (case h1 => walk_at "hl"))
  | ((with_reducible refine' s_tyL ?h1 ?_); (case h1 => walk_at "hl"))
  | ((with_reducible refine' s_fldM ?h1 ?h2 ?h3 ?_); (case h1 => walk_at "hl"); (case h2 => walk_at "fok"); (case h3 => walk_at "flk"))
  | ((with_reducible refine' s_setM ?h1 ?h2 ?h3 ?h4 ?_); (case h1 => walk_at "hl"); (case h2 => walk_at "fok"); (case h4 => walk_at "put"); (case h3 => exact Nat.le_of_ble_eq_true rfl))
  | ((with_reducible refine' s_starM ?h1 ?_); (case h1 => walk_at "hl"))
  | ((with_reducible refine' s_recv ?h1 ?h2 ?_); (case h1 => walk_at "hl"); (case h2 => exact rfl))
  | ((with_reducible refine' s_sz ?h1 ?_); (case h1 => (simp; done))))
local macro_rules | `(tactic| walk_at "rd") => `(tactic| repeat (walk_at "rd1"))
local macro_rules | `(tactic| walk_at "fok") => `(tactic| assumption)
local macro_rules | `(tactic| walk_at "flk") => `(tactic| rfl)
local macro_rules | `(tactic| walk_at "put") => `(tactic| exact rfl)

local macro_rules | `(tactic| walk_at "fok") => `(tactic| first | assumption | exact Td.ce (by assumption) (by decide) | exact Td.de (by assumption) (by decide))
theorem passF {X : Cx} : Passes CX0 X (fun _ _ _ => False) := fun _ _ _ _ _ _ _ h => h.elim
theorem s_veI {σ : L2.St} {H : Hp} {Q : VK} {ta : TA} (h : ta σ H fun vs H1 => ∃ (a C : Addr) (ws : List V), vs = .ref a :: ws ∧ ws.length ≤ 1000 ∧ OexC K C ∧ H1 a = some (exo a C none) ∧ Q .non H1) : tVeI K ta σ H Q := h
theorem s_ost {σ : L2.St} {H : Hp} {f : Str} {to te : TE} {na : L2.St → Hp → Prop} {rt : VK} {bk ct : L2.St → Hp → Prop} (h : te σ H fun y H1 => to σ H1 fun x H2 => ∃ a C : Addr, x = .ref a ∧ OexC K C ∧ PySem.W.findIn K (.ref C) f = some none ∧
  ((H2 a = some (exo a C none) ∧ ∀ dx, H2 dx = none → dx ≠ a → na σ (upd (upd H2 dx (exd dx [(f, y)])) a (exo a C (some dx)))) ∨
    ∃ (dx : Addr) (fs : List (Str × V)), H2 a = some (exo a C (some dx)) ∧ H2 dx = some (exd dx fs) ∧ fs.length ≤ 900 ∧ na σ (upd H2 dx (exd dx ((f, y) :: fs))))) : tOst K f to te ⟨na, rt, bk, ct⟩ σ H := h
def spNoE (a : Nat → Addr) : Sp := fun vs H Q _ => ∃ (x : Addr) (v : V), vs = [.ref x, v] ∧ H x = some (exo x (a 22) none) ∧ ∀ d, H d = none → d ≠ x → Q .non (upd (upd H d (exd d [("name", v)])) x (exo x (a 22) (some d)))
theorem ok_NoName___init__ (T : Td P K mg a fd tk) : FnOk P w K mg base CX0 1 (a 23) (fd 23) ["self", "name"] (spNoE a) := by
  refine T.F_NoName___init__.ok sc_NoName___init__ (fun vs H Q E h => ?_) (fun cdv A outer s H vs Q E hr h => ?_)
  · obtain ⟨x, i, rfl, _⟩ := h
    rfl
  · obtain ⟨x, i, rfl, hx, k⟩ := h
    refine ⟨_, (pss_cons (ps_expr (pe_ownInit (by rfl) T.g_TrackedError T.cr_TrackedError T.vi_TrackedError (pa_cons (pv 0) (pa_cons pe_str pa_nil))))
  (pss_one (ps_ost (pv 0) (pv 1)))), ?_⟩
    walk_at "rd"
    refine s_veI ?_
    walk_at "rd"
    refine ⟨x, a 22, [_], rfl, by simp, T.ox_NoName, hx, ?_⟩
    refine s_ost ?_
    walk_at "rd"
    exact ⟨x, a 22, rfl, T.ox_NoName, T.no_NoName, .inl ⟨hx, fun d hd hn => k d hd hn⟩⟩
theorem b_NoName___init__ (T : Td P K mg a fd tk) : Binds K (fd 23) ["self", "name"] [] := T.F_NoName___init__.binds fun _ _ _ _ _ _ us hl => match us, hl with | [_, _], _ => rfl
theorem s_mkO {σ : L2.St} {H : Hp} {C : Addr} {sp : Sp} {ta : TA} {Q : XK} (h : ta σ H fun vs H1 => vs.length ≤ 1000 ∧ ∀ a, H1 a = none → sp (.ref a :: (vs ++ [])) (upd H1 a (exo a C none))
  (fun v H2 => v = .non ∧ ∃ (d : Addr) (fs : List (Str × V)), H2 a = some (exo a C (some d)) ∧ H2 d = some (exd d fs) ∧ H1 d = none ∧ Q (.ref C) (some d) (upd (del H2 a) d (.xd fs))) (fun _ _ _ => False)) : tMkO C sp [] ta σ H Q := h
/-- raise NoName(name) -/
theorem s_raiseNo {H : Hp} {W : XK} {z : V} (q : ∀ d H', H d = none → Same H H' → H' d = some (.xd [("name", z)]) → W (.ref (a 22)) (some d) H') :
    ([z]).length ≤ 1000 ∧ ∀ x, H x = none → spNoE a (.ref x :: ([z] ++ [])) (upd H x (exo x (a 22) none))
      (fun v H2 => v = .non ∧ ∃ (d : Addr) (fs : List (Str × V)), H2 x = some (exo x (a 22) (some d)) ∧ H2 d = some (exd d fs) ∧ H d = none ∧ W (.ref (a 22)) (some d) (upd (del H2 x) d (.xd fs))) (fun _ _ _ => False) := by
  refine ⟨by simp, fun x hx => ⟨x, z, rfl, upd_same, fun d hd hn => ⟨rfl, d, [("name", z)], upd_same, ?_, ?_, ?_⟩⟩⟩
  · rw [upd_ne hn]; exact upd_same
  · rw [upd_ne hn] at hd; exact hd
  · rw [upd_ne hn] at hd
    refine q d _ hd (fun b o hb => ?_) upd_same
    have b1 : b ≠ d := by rintro rfl; rw [hd] at hb; cases hb
    have b2 : b ≠ x := by rintro rfl; rw [hx] at hb; cases hb
    rw [upd_ne b1, del_ne b2, upd_ne b2, upd_ne b1, upd_ne b2]
    exact hb
theorem s_listVals {σ : L2.St} {H : Hp} {Q : VK} {te : TE} (h : te σ H fun x H1 => ∃ (d : Addr) (kvs : List (Key × V)), x = .ref d ∧ H1 d = some (.dK kvs) ∧ ∀ q, H1 q = none → Q (.ref q) (upd H1 q (.lst (kvs.map (·.2))))) : tListVals te σ H Q := h
theorem take_snoc' {α : Type} {l : List α} {i : Nat} {x : α} (h : l[i]? = some x) : l.take (i + 1) = l.take i ++ [x] := by rw [List.take_add_one, h]; rfl
theorem fst_inj : ∀ {cl : List (Str × Addr)}, (cl.map (·.1)).Nodup → ∀ {c c' : Str × Addr}, c ∈ cl → c' ∈ cl → c.1 = c'.1 → c = c'
  | [], _, _, _, h, _, _ => by cases h
  | z :: cl, nd, c, c', h, h', e => by
    rw [List.map_cons, List.nodup_cons] at nd
    rcases List.mem_cons.mp h with h1 | h1
    · rcases List.mem_cons.mp h' with h2 | h2
      · rw [h1, h2]
      · exact absurd (show z.1 ∈ cl.map (·.1) from List.mem_map.mpr ⟨c', h2, by rw [← e, h1]⟩) nd.1
    · rcases List.mem_cons.mp h' with h2 | h2
      · exact absurd (show z.1 ∈ cl.map (·.1) from List.mem_map.mpr ⟨c, h1, by rw [e, h2]⟩) nd.1
      · exact fst_inj nd.2 h1 h2 e
def Cells (a : Nat → Addr) (H : Hp) (d : Addr) (cl : List (Str × Addr)) : Prop := ∀ c ∈ cl, ∃ v, CellAt a H d c.2 c.1 v
def spGetD (a : Nat → Addr) (K : PySem.W.Frag) : Sp := fun vs H Q E => ∃ d D names cl x, vs = [.ref d, x] ∧ DeskAt a H d D names cl ∧ Cells a H d cl ∧ cl.length ≤ 50 ∧ (cl.map (·.1)).Nodup ∧
  ((∃ c v, c ∈ cl ∧ x = .str c.1 ∧ CellAt a H d c.2 c.1 v ∧ ∀ H', Same H H' → Q (.int v) H') ∨
   ((∀ c ∈ cl, x ≠ .str c.1 ∧ ∀ {H' : Hp} {Q' : VK}, Same H H' → Q' (.bl false) H' → rEqU K (.str c.1) x H' Q') ∧ ∀ e H', Same H H' → H e = none → H' e = some (.xd [("name", x)]) → E (.ref (a 22)) (some e) H'))
theorem ok_Desk___getitem__ (T : Td P K mg a fd tk) : FnOk P w K mg base (L2.CX P w) 3 (a 17) (fd 17) ["self", "name"] (spGetD a K) := by
  refine T.F_Desk___getitem__.okX sc_Desk___getitem__ (fun vs H Q E h => ?_) (fun cdv A outer s H vs Q E hr h => ?_)
  · obtain ⟨d, D, names, cl, x, rfl, _⟩ := h
    rfl
  · obtain ⟨d, D, names, cl, x, rfl, DK, CS, h50, nd, h⟩ := h
    refine ⟨_, (pss_cons (ps_for (passes_of rfl) rfl (pi_list (pe_listVals rfl (pe_fldU K (pv 0)) (by rfl) T.b_list bt_list)) (pg_name (i := 2) sc_Desk___getitem__.nd rfl (by first | exact Or.inl rfl | exact Or.inr rfl))
   (pss_one (ps_if (pt_cmpR (uEq K hr.units) (pe_fldU K (pv 2)) (pv 1) (nomark _)) (pss_one (ps_ret (pe_fldU K (pv 2)))) pss_nil)))
  (pss_one (ps_raise rfl (takes_of rfl rfl rfl rfl) (pmk_oex T.ox_NoName T.ini_NoName T.inf_NoName (ok_NoName___init__ T) (hr.mono (by decide)) (b_NoName___init__ T) .nil passF (by rfl) T.g_NoName (pa_cons (pv 1) pa_nil))))), ?_⟩
    have hob := DK.ob
    walk_at "rd"
    refine s_listVals ?_
    walk_at "rd"
    refine ⟨D.cs, _, rfl, DK.cs, fun q nq => ?_⟩
    have s1 := Same.new (o := .lst (cl.map fun c => V.ref c.2)) nq
    have ev : ((cl.map fun c => ((.inr c.1 : Key), V.ref c.2)).map (·.2)) = cl.map fun c => V.ref c.2 := by simp
    rw [ev]
    have hq : upd H q (.lst (cl.map fun c => V.ref c.2)) q = some (.lst (cl.map fun c => V.ref c.2)) := upd_same
    generalize upd H q (.lst (cl.map fun c => V.ref c.2)) = H1 at s1 hq ⊢
    refine s_forL hq (fun i σ H' => ∃ v2, σ = [some (.ref d), some x, v2] ∧ Same H1 H' ∧ ∀ c ∈ cl.take i, x ≠ .str c.1) ⟨none, rfl, .refl _, by simp⟩ ?_ ?_ ?_
    · rintro i σ H' _ ⟨_, _, s', _⟩
      exact s' _ _ hq
    · rintro i y σ H2 hy ⟨v2, rfl, s2, hno⟩
      rw [List.getElem?_map] at hy
      cases ec : cl[i]? with
      | none => rw [ec] at hy; cases hy
      | some c =>
      rw [ec] at hy
      cases hy
      have hcm := List.mem_of_getElem? ec
      obtain ⟨v, dc, hc⟩ := CS c hcm
      have hc2 := s2 _ _ (s1 _ _ hc)
      walk_at "rd"
      have next : ∀ H', Same H2 H' → x ≠ .str c.1 → ∃ v2, [some (V.ref d), some x, some (V.ref c.2)] = [some (V.ref d), some x, v2] ∧ Same H1 H' ∧ ∀ c' ∈ cl.take (i + 1), x ≠ .str c'.1 := fun H' s' hx => ⟨_, rfl, s2.trans s', fun c' hc' => by
        rw [take_snoc' ec] at hc'
        rcases List.mem_append.mp hc' with z | z
        · exact hno c' z
        · rw [List.mem_singleton.mp z]; exact hx⟩
      rcases h with ⟨c0, v0, hc0, rfl, ⟨dc0, hcell⟩, kq⟩ | ⟨hne, kE⟩
      · refine s_eqS rfl ?_
        by_cases e0 : c.1 = c0.1
        · have ecc : c = c0 := by
            exact fst_inj nd hcm hc0 e0
          subst ecc
          rw [hcell] at hc
          have hv : v0 = v := by
            have := HO.ins.inj (Option.some.inj hc)
            simpa [cellF] using this.2.2
          subst hv
          refine ⟨_, rfl, ?_⟩
          refine ifT (by simp) ?_
          walk_at "rd"
          exact kq _ (s1.trans s2)
        · refine ⟨_, rfl, ?_⟩
          refine ifF (by simpa using e0) ?_
          walk_at "rd"
          exact next _ (.refl _) (fun z => e0 (by injection z with z; exact z.symm))
      · refine (hne c hcm).2 (s1.trans s2) ?_
        refine ⟨_, rfl, ?_⟩
        refine ifF rfl ?_
        walk_at "rd"
        exact next _ (.refl _) (hne c hcm).1
    · rintro σ H2 ⟨v2, rfl, s2, hno⟩
      rw [List.length_map, List.take_length] at hno
      rcases h with ⟨c0, v0, hc0, rfl, _, kq⟩ | ⟨hne, kE⟩
      · exact absurd rfl (hno c0 hc0)
      · walk_at "rd"
        refine s_mkO ?_
        walk_at "rd"
        exact s_raiseNo fun e H' ne s' he => kE e H' ((s1.trans s2).trans s') ((s1.trans s2).free ne) he
end
end Tr
set_option maxHeartbeats 4000000

namespace Tr
open PySem L2
section
variable {P : Program} {w : World} {K : PySem.W.Frag} {mg : Str → Option Value} {base : Heap} {a : Nat → Addr} {fd : Nat → FuncData} {tk : Nat → Tok}
local macro_rules | `(tactic| walk_at "ne") => `(tactic| first | assumption | (exact Ne.symm (by assumption)) | (refine ne_of_none (by assumption) (by assumption)) | (refine Ne.symm (ne_of_none (by assumption) (by assumption))))
local macro_rules | `(tactic| walk_at "hl") => `(tactic| first | assumption | with_reducible exact upd_same | ((with_reducible refine' Eq.trans (upd_ne ?hne) ?hrest); (case hne => walk_at "ne"); (case hrest => walk_at "hl")) | (refine' get_same ?hs ?hg; (case hs => assumption); (case hg => assumption)))
local macro_rules | `(tactic| walk_at "at") => `(tactic| first | with_reducible exact atI_0 _ _ | with_reducible exact atI_1 _ _ _ | with_reducible exact atI_2 _ _ _ _ | with_reducible exact atI_3 _ _ _ _ _ | assumption)
local macro_rules | `(tactic| walk_at "rd1") => `(tactic| first
  | with_reducible refine s_seq ?_ | with_reducible refine s_next ?_ | with_reducible refine s_if ?_ | with_reducible refine s_ret ?_ | with_reducible refine s_retN ?_ | with_reducible refine s_drop ?_ | with_reducible refine s_asg ?_ | with_reducible refine s_brk ?_ | with_reducible refine s_cont ?_
  | with_reducible refine s_gname ?_ | with_reducible refine s_c ?_ | with_reducible refine s_op ?_ | with_reducible refine s_un ?_ | with_reducible refine s_neg ?_ | with_reducible refine s_test ?_ | with_reducible refine s_tb ?_ | with_reducible refine s_not ?_ | with_reducible refine s_and ?_ | with_reducible refine s_or ?_ | with_reducible refine s_yes ?_
  | ((with_reducible refine' s_var ?hv ?_); (case hv => exact rfl))
  | with_reducible refine s_ifx ?_ | with_reducible refine s_andV ?_ | with_reducible refine s_orV ?_ | with_reducible refine s_notV ?_ | with_reducible refine s_chain ?_ | with_reducible refine s_nil ?_ | with_reducible refine s_cons ?_ | with_reducible refine s_lst ?_ | with_reducible refine s_tup ?_ | with_reducible refine s_cb ?_ | with_reducible refine s_call ?_ | with_reducible refine s_meth ?_ | with_reducible refine s_make ?_
  | with_reducible refine s_dnewK ?_ | with_reducible refine s_sl ?_ | with_reducible refine s_po0 ?_ | with_reducible refine s_po1 ?_ | with_reducible refine s_bm ?_ | with_reducible refine s_bm0 ?_
  | with_reducible refine s_bl ?_ | with_reducible refine s_int ?_ | with_reducible refine s_I0 ?_ | with_reducible refine s_addI ?_ | with_reducible refine s_intI ?_ | with_reducible refine s_intB ?_
  | with_reducible refine s_m1 ?_ | with_reducible refine s_lc ?_ | with_reducible refine s_ilist ?_ | with_reducible refine s_for ?_ | with_reducible refine s_irng ?_ | with_reducible refine s_match ?_ | with_reducible refine s_starT ?_ | with_reducible refine s_isS ?_ | with_reducible refine s_isiSS ?_ | with_reducible refine s_fldU ?_ | with_reducible refine s_sfldU ?_
  | ((with_reducible refine' s_eqS ?hq ?_); (case hq => exact rfl)) | ((with_reducible refine' s_neS ?hq ?_); (case hq => exact rfl))
  | ((with_reducible refine' s_isN ?hq ?_); (case hq => exact rfl)) | ((with_reducible refine' s_notN ?hq ?_); (case hq => exact rfl))
  | ((with_reducible refine' s_eqNil ?h1 ?h2 ?_); (case h1 => walk_at "hl"); (case h2 => walk_at "hl")) | ((with_reducible refine' s_neNil ?h1 ?h2 ?_); (case h1 => walk_at "hl"); (case h2 => walk_at "hl"))
  | ((with_reducible refine' s_ixL ?h1 ?h2 ?_); (case h1 => walk_at "hl"); (case h2 => walk_at "at")) | ((with_reducible refine' s_ixT ?h1 ?h2 ?_); (case h1 => walk_at "hl"); (case h2 => walk_at "at"))
  | ((with_reducible refine' s_inS ?h1 ?_); (case h1 => walk_at "hl")) | ((with_reducible refine' s_ninS ?h1 ?_); (case h1 => walk_at "hl")) | with_reducible refine s_inW ?_
  | ((with_reducible refine' s_lenL ?h1 ?_); (case h1 => walk_at "hl")) | ((with_reducible refine' s_lenT ?h1 ?_); (case h1 => walk_at "hl"))
  | ((with_reducible refine' s_tyL ?h1 ?_); (case h1 => walk_at "hl"))
  | ((with_reducible refine' s_fldM ?h1 ?h2 ?h3 ?_); (case h1 => walk_at "hl"); (case h2 => walk_at "fok"); (case h3 => walk_at "flk"))
  | ((with_reducible refine' s_setM ?h1 ?h2 ?h3 ?h4 ?_); (case h1 => walk_at "hl"); (case h2 => walk_at "fok"); (case h4 => walk_at "put"); (case h3 => exact Nat.le_of_ble_eq_true rfl))
  | ((with_reducible refine' s_starM ?h1 ?_); (case h1 => walk_at "hl"))
  | ((with_reducible refine' s_recv ?h1 ?h2 ?_); (case h1 => walk_at "hl"); (case h2 => exact rfl))
  | ((with_reducible refine' s_sz ?h1 ?_); (case h1 => (simp; done))))
local macro_rules | `(tactic| walk_at "rd") => `(tactic| repeat (walk_at "rd1"))
local macro_rules | `(tactic| walk_at "fok") => `(tactic| assumption)
local macro_rules | `(tactic| walk_at "flk") => `(tactic| rfl)
local macro_rules | `(tactic| walk_at "put") => `(tactic| exact rfl)

local macro_rules | `(tactic| walk_at "fok") => `(tactic| first | assumption | exact Td.ce (by assumption) (by decide) | exact Td.de (by assumption) (by decide))
def spSetD (a : Nat → Addr) (K : PySem.W.Frag) : Sp := fun vs H Q E => ∃ d D names cl x n, vs = [.ref d, x, .int n] ∧ DeskAt a H d D names cl ∧ Cells a H d cl ∧ cl.length ≤ 50 ∧ (cl.map (·.1)).Nodup ∧ (∃ ms, H D.mv = some (.lst ms) ∧ ms.length ≤ 50) ∧
  ((∃ c v, c ∈ cl ∧ x = .str c.1 ∧ c.2 ≠ d ∧ CellAt a H d c.2 c.1 v ∧ ∀ z H', H z = none → DeskAt a H' d { D with mv := z } names cl → H' z = some (.lst []) → CellAt a H' d c.2 c.1 n → Fr H H' [d, c.2, D.mv] → Q .non H') ∨
   ((∀ c ∈ cl, x ≠ .str c.1 ∧ ∀ {H' : Hp} {Q' : VK}, Same H H' → Q' (.bl false) H' → rEqU K (.str c.1) x H' Q') ∧ ∀ e H', Same H H' → H e = none → H' e = some (.xd [("name", x)]) → E (.ref (a 22)) (some e) H'))
theorem ok_Desk___setitem__ (T : Td P K mg a fd tk) : FnOk P w K mg base (L2.CX P w) 5 (a 18) (fd 18) ["self", "name", "worth"] (spSetD a K) := by
  refine T.F_Desk___setitem__.okX sc_Desk___setitem__ (fun vs H Q E h => ?_) (fun cdv A outer s H vs Q E hr h => ?_)
  · obtain ⟨d, D, names, cl, x, n, rfl, _⟩ := h
    rfl
  · obtain ⟨d, D, names, cl, x, n, rfl, DK, CS, h50, nd, ⟨ms, hm1, hm2⟩, h⟩ := h
    refine ⟨_, (pss_cons (ps_expr (pe_meth0 (pv 0) T.cl_Desk T.m_Desk_check_placed (ok_Desk_check_placed T) (hr.mono (by decide)) (b_Desk_check_placed T) .nil pass0))
  (pss_cons (ps_for (passes_of rfl) rfl (pi_list (pe_listVals rfl (pe_fldU K (pv 0)) (by rfl) T.b_list bt_list)) (pg_name (i := 3) sc_Desk___setitem__.nd rfl (by first | exact Or.inl rfl | exact Or.inr rfl))
   (pss_one (ps_if (pt_cmpR (uEq K hr.units) (pe_fldU K (pv 3)) (pv 1) (nomark _)) (pss_cons (ps_expr (pe_meth (pv 3) T.cl_Cell T.m_Cell_put (ok_Cell_put T) (hr.mono (by decide)) (b_Cell_put T) .nil pass0 (pa_cons (pv 2) pa_nil)))
  (pss_one ps_retN)) pss_nil)))
  (pss_one (ps_raise rfl (takes_of rfl rfl rfl rfl) (pmk_oex T.ox_NoName T.ini_NoName T.inf_NoName (ok_NoName___init__ T) (hr.mono (by decide)) (b_NoName___init__ T) .nil passF (by rfl) T.g_NoName (pa_cons (pv 1) pa_nil)))))), ?_⟩
    have hob := DK.ob
    walk_at "rd"
    refine ⟨d, D, names, cl, rfl, DK, ?_⟩
    walk_at "rd"
    refine s_listVals ?_
    walk_at "rd"
    refine ⟨D.cs, _, rfl, DK.cs, fun q nq => ?_⟩
    have s1 := Same.new (o := .lst (cl.map fun c => V.ref c.2)) nq
    have ev : ((cl.map fun c => ((.inr c.1 : Key), V.ref c.2)).map (·.2)) = cl.map fun c => V.ref c.2 := by simp
    rw [ev]
    have hq : upd H q (.lst (cl.map fun c => V.ref c.2)) q = some (.lst (cl.map fun c => V.ref c.2)) := upd_same
    generalize upd H q (.lst (cl.map fun c => V.ref c.2)) = H1 at s1 hq ⊢
    refine s_forL hq (fun i σ H' => ∃ v2, σ = [some (.ref d), some x, some (.int n), v2] ∧ Same H1 H' ∧ ∀ c ∈ cl.take i, x ≠ .str c.1) ⟨none, rfl, .refl _, by simp⟩ ?_ ?_ ?_
    · rintro i σ H' _ ⟨_, _, s', _⟩
      exact s' _ _ hq
    · rintro i y σ H2 hy ⟨v2, rfl, s2, hno⟩
      rw [List.getElem?_map] at hy
      cases ec : cl[i]? with
      | none => rw [ec] at hy; cases hy
      | some c =>
      rw [ec] at hy
      cases hy
      have hcm := List.mem_of_getElem? ec
      obtain ⟨v, dc, hc⟩ := CS c hcm
      have hc2 := s2 _ _ (s1 _ _ hc)
      walk_at "rd"
      have next : ∀ H', Same H2 H' → x ≠ .str c.1 → ∃ v2, [some (V.ref d), some x, some (.int n), some (V.ref c.2)] = [some (V.ref d), some x, some (.int n), v2] ∧ Same H1 H' ∧ ∀ c' ∈ cl.take (i + 1), x ≠ .str c'.1 := fun H' s' hx => ⟨_, rfl, s2.trans s', fun c' hc' => by
        rw [take_snoc' ec] at hc'
        rcases List.mem_append.mp hc' with z | z
        · exact hno c' z
        · rw [List.mem_singleton.mp z]; exact hx⟩
      rcases h with ⟨c0, v0, hc0, rfl, hcd, ⟨dc0, hcell⟩, kq⟩ | ⟨hne, kE⟩
      · refine s_eqS rfl ?_
        by_cases e0 : c.1 = c0.1
        · have ecc : c = c0 := fst_inj nd hcm hc0 e0
          subst ecc
          refine ⟨_, rfl, ?_⟩
          refine ifT (by simp) ?_
          walk_at "rd"
          refine ⟨d, D, names, cl, c.2, c.1, v, n, rfl, DK.same (s1.trans s2), ⟨dc, hc2⟩, ⟨ms, (s1.trans s2) _ _ hm1, hm2⟩, hcd, fun z H3 nz DK3 hz3 hc3 f3 => ?_⟩
          walk_at "rd"
          exact kq z H3 ((s1.trans s2).free nz) DK3 hz3 hc3 fun y o hy hS => f3 _ _ ((s1.trans s2) _ _ hy) hS
        · refine ⟨_, rfl, ?_⟩
          refine ifF (by simpa using e0) ?_
          walk_at "rd"
          exact next _ (.refl _) (fun z => e0 (by injection z with z; exact z.symm))
      · refine (hne c hcm).2 (s1.trans s2) ?_
        refine ⟨_, rfl, ?_⟩
        refine ifF rfl ?_
        walk_at "rd"
        exact next _ (.refl _) (hne c hcm).1
    · rintro σ H2 ⟨v2, rfl, s2, hno⟩
      rw [List.length_map, List.take_length] at hno
      rcases h with ⟨c0, v0, hc0, rfl, _, _, kq⟩ | ⟨hne, kE⟩
      · exact absurd rfl (hno c0 hc0)
      · walk_at "rd"
        refine s_mkO ?_
        walk_at "rd"
        exact s_raiseNo fun e H' ne s' he => kE e H' ((s1.trans s2).trans s') ((s1.trans s2).free ne) he
theorem b_Desk___getitem__ (T : Td P K mg a fd tk) : Binds K (fd 17) ["self", "name"] [] := T.F_Desk___getitem__.binds fun _ _ _ _ _ _ us hl => match us, hl with | [_, _], _ => rfl
theorem b_Desk___setitem__ (T : Td P K mg a fd tk) : Binds K (fd 18) ["self", "name", "worth"] [] := T.F_Desk___setitem__.binds fun _ _ _ _ _ _ us hl => match us, hl with | [_, _, _], _ => rfl
end
end Tr
set_option maxHeartbeats 4000000

namespace Tr
open PySem L2
abbrev s__law_bag : Stmt := (top 17)
abbrev N__law_bag : List Str := ["_law_script", "_law_at", "_law_cell", "_law_digits"]
theorem sc__law_bag : FnScope ["_law_script", "_law_at", "_law_cell", "_law_digits"] ["_law_script", "_law_at"] (defScope s__law_bag) := ⟨rfl, rfl, rfl, by decide +kernel, rfl, by decide +kernel, by decide +kernel⟩
abbrev s__law_take : Stmt := (top 18)
abbrev N__law_take : List Str := ["_law_bag_here", "_law_many", "_law_mixed", "_law_digit"]
theorem sc__law_take : FnScope ["_law_bag_here", "_law_many", "_law_mixed", "_law_digit"] ["_law_bag_here", "_law_many"] (defScope s__law_take) := ⟨rfl, rfl, rfl, by decide +kernel, rfl, by decide +kernel, by decide +kernel⟩
abbrev s__law_of : Stmt := (top 19)
abbrev N__law_of : List Str := ["_law_bag_here", "_law_some"]
theorem sc__law_of : FnScope ["_law_bag_here", "_law_some"] ["_law_bag_here", "_law_some"] (defScope s__law_of) := ⟨rfl, rfl, rfl, by decide +kernel, rfl, by decide +kernel, by decide +kernel⟩
abbrev s__law_worth : Stmt := (top 20)
abbrev N__law_worth : List Str := ["_law_bag_here", "_law_kind"]
theorem sc__law_worth : FnScope ["_law_bag_here", "_law_kind"] ["_law_bag_here"] (defScope s__law_worth) := ⟨rfl, rfl, rfl, by decide +kernel, rfl, by decide +kernel, by decide +kernel⟩

/-- what the top has made of the law's own defs -/
structure Tl (P : Program) (K : PySem.W.Frag) (mg : Str → Option Value) (a : Nat → Addr) (fd : Nat → FuncData) (tk : Nat → Tok) : Prop where
  d : Td P K mg a fd tk
  b_abs : mg "abs" = none
  b_int : mg "int" = none
  g__law_bag : mg "_law_bag" = some (.ref (a 30))
  F__law_bag : Fun K "_law_bag" "_law_bag" s__law_bag (a 30) (fd 30)
  g__law_take : mg "_law_take" = some (.ref (a 31))
  F__law_take : Fun K "_law_take" "_law_take" s__law_take (a 31) (fd 31)
  g__law_of : mg "_law_of" = some (.ref (a 32))
  F__law_of : Fun K "_law_of" "_law_of" s__law_of (a 32) (fd 32)
  g__law_worth : mg "_law_worth" = some (.ref (a 33))
  F__law_worth : Fun K "_law_worth" "_law_worth" s__law_worth (a 33) (fd 33)
section
variable {P : Program} {w : World} {K : PySem.W.Frag} {mg : Str → Option Value} {base : Heap} {a : Nat → Addr} {fd : Nat → FuncData} {tk : Nat → Tok}
local macro_rules | `(tactic| walk_at "ne") => `(tactic| first | assumption | (exact Ne.symm (by assumption)) | (refine ne_of_none (by assumption) (by assumption)) | (refine Ne.symm (ne_of_none (by assumption) (by assumption))))
local macro_rules | `(tactic| walk_at "hl") => `(tactic| first | assumption | with_reducible exact upd_same | ((with_reducible refine' Eq.trans (upd_ne ?hne) ?hrest); (case hne => walk_at "ne"); (case hrest => walk_at "hl")) | (refine' get_same ?hs ?hg; (case hs => assumption); (case hg => assumption)))
local macro_rules | `(tactic| walk_at "at") => `(tactic| first | with_reducible exact atI_0 _ _ | with_reducible exact atI_1 _ _ _ | with_reducible exact atI_2 _ _ _ _ | with_reducible exact atI_3 _ _ _ _ _ | assumption)
local macro_rules | `(tactic| walk_at "rd1") => `(tactic| first
  | with_reducible refine s_seq ?_ | with_reducible refine s_next ?_ | with_reducible refine s_if ?_ | with_reducible refine s_ret ?_ | with_reducible refine s_retN ?_ | with_reducible refine s_drop ?_ | with_reducible refine s_asg ?_ | with_reducible refine s_brk ?_ | with_reducible refine s_cont ?_
  | with_reducible refine s_gname ?_ | with_reducible refine s_c ?_ | with_reducible refine s_op ?_ | with_reducible refine s_un ?_ | with_reducible refine s_neg ?_ | with_reducible refine s_test ?_ | with_reducible refine s_tb ?_ | with_reducible refine s_not ?_ | with_reducible refine s_and ?_ | with_reducible refine s_or ?_ | with_reducible refine s_yes ?_
  | ((with_reducible refine' s_var ?hv ?_); (case hv => exact rfl))
  | with_reducible refine s_ifx ?_ | with_reducible refine s_andV ?_ | with_reducible refine s_orV ?_ | with_reducible refine s_notV ?_ | with_reducible refine s_chain ?_ | with_reducible refine s_nil ?_ | with_reducible refine s_cons ?_ | with_reducible refine s_lst ?_ | with_reducible refine s_tup ?_ | with_reducible refine s_cb ?_ | with_reducible refine s_call ?_ | with_reducible refine s_meth ?_ | with_reducible refine s_make ?_
  | with_reducible refine s_dnewK ?_ | with_reducible refine s_sl ?_ | with_reducible refine s_po0 ?_ | with_reducible refine s_po1 ?_ | with_reducible refine s_bm ?_ | with_reducible refine s_bm0 ?_
  | with_reducible refine s_bl ?_ | with_reducible refine s_int ?_ | with_reducible refine s_I0 ?_ | with_reducible refine s_addI ?_ | with_reducible refine s_intI ?_ | with_reducible refine s_intB ?_
  | with_reducible refine s_m1 ?_ | with_reducible refine s_lc ?_ | with_reducible refine s_ilist ?_ | with_reducible refine s_for ?_ | with_reducible refine s_irng ?_ | with_reducible refine s_match ?_ | with_reducible refine s_starT ?_ | with_reducible refine s_isS ?_ | with_reducible refine s_isiSS ?_ | with_reducible refine s_fldU ?_ | with_reducible refine s_sfldU ?_
  | ((with_reducible refine' s_eqS ?hq ?_); (case hq => exact rfl)) | ((with_reducible refine' s_neS ?hq ?_); (case hq => exact rfl))
  | ((with_reducible refine' s_isN ?hq ?_); (case hq => exact rfl)) | ((with_reducible refine' s_notN ?hq ?_); (case hq => exact rfl))
  | ((with_reducible refine' s_eqNil ?h1 ?h2 ?_); (case h1 => walk_at "hl"); (case h2 => walk_at "hl")) | ((with_reducible refine' s_neNil ?h1 ?h2 ?_); (case h1 => walk_at "hl"); (case h2 => walk_at "hl"))
  | ((with_reducible refine' s_ixL ?h1 ?h2 ?_); (case h1 => walk_at "hl"); (case h2 => walk_at "at")) | ((with_reducible refine' s_ixT ?h1 ?h2 ?_); (case h1 => walk_at "hl"); (case h2 => walk_at "at"))
  | ((with_reducible refine' s_inS ?h1 ?_); (case h1 => walk_at "hl")) | ((with_reducible refine' s_ninS ?h1 ?_); (case h1 => walk_at "hl")) | with_reducible refine s_inW ?_
  | ((with_reducible refine' s_lenL ?h1 ?_); (case h1 => walk_at "hl")) | ((with_reducible refine' s_lenT ?h1 ?_); (case h1 => walk_at "hl"))
  | ((with_reducible refine' s_tyL ?h1 ?_); (case h1 => walk_at "hl"))
  | ((with_reducible refine' s_fldM ?h1 ?h2 ?h3 ?_); (case h1 => walk_at "hl"); (case h2 => walk_at "fok"); (case h3 => walk_at "flk"))
  | ((with_reducible refine' s_setM ?h1 ?h2 ?h3 ?h4 ?_); (case h1 => walk_at "hl"); (case h2 => walk_at "fok"); (case h4 => walk_at "put"); (case h3 => exact Nat.le_of_ble_eq_true rfl))
  | ((with_reducible refine' s_starM ?h1 ?_); (case h1 => walk_at "hl"))
  | ((with_reducible refine' s_recv ?h1 ?h2 ?_); (case h1 => walk_at "hl"); (case h2 => exact rfl))
  | ((with_reducible refine' s_sz ?h1 ?_); (case h1 => (simp; done))))
local macro_rules | `(tactic| walk_at "rd") => `(tactic| repeat (walk_at "rd1"))
local macro_rules | `(tactic| walk_at "fok") => `(tactic| assumption)
local macro_rules | `(tactic| walk_at "flk") => `(tactic| rfl)
local macro_rules | `(tactic| walk_at "put") => `(tactic| exact rfl)

/-- a source of draws: so many at most were drawn -/
def BagD (H : Hp) (b : Addr) (n : Nat) : Prop := ∃ dg m k : Int, H b = some (.lst [.int dg, .int m, .int k]) ∧ 0 ≤ dg ∧ 0 ≤ m ∧ m < 2 ^ 62 ∧ 0 ≤ k ∧ k ≤ n
theorem ixN_nat {n j : Nat} (h : j < n) : ixN n (j : Int) = some j := by
  unfold ixN
  rw [if_pos (by omega), if_pos (by omega)]
  simp
theorem ixN_last {n : Nat} (h : 0 < n) : ixN n (-1) = some (n - 1) := by
  unfold ixN
  rw [if_neg (by omega), if_pos (by omega)]
  congr 1
  omega
theorem atI_nat {xs : List V} {j : Nat} {v : V} (h : xs[j]? = some v) : atI xs (j : Int) = some v := by
  unfold atI
  rw [ixN_nat (List.getElem?_eq_some_iff.mp h).1]
  exact h
def spTake : Sp := fun vs H Q _ => ∃ (b : Addr) (many : Int) (n : Nat), vs = [.ref b, .int many] ∧ BagD H b n ∧ n < 10 ^ 9 ∧ 0 < many ∧ many < 2 ^ 200 ∧ ∀ (d : Int) H', 0 ≤ d → d < many → BagD H' b (n + 1) → Fr H H' [b] → Q (.int d) H'
theorem s_gsub {to ti : TE} {t : TSet} {v : V} {σ : L2.St} {H : Hp} {Q : L2.St → Hp → Prop} (h : to σ H fun o H1 => ti σ H1 fun i H2 => t o i v H2 fun H3 => Q σ H3) : gSub to ti t v σ H Q := h
theorem s_setU {p : Addr} {xs : List V} {k : Int} {j : Nat} {v : V} {H : Hp} {Q : Hp → Prop} (hp : H p = some (.lst xs)) (hj : ixN xs.length k = some j) (q : Q (upd H p (.lst (xs.set j v)))) : rSetU (.ref p) (.int k) v H Q := by
  simp only [rSetU, hp]
  exact ⟨j, hj, q⟩
theorem lg2 {x : Int} (h : x.natAbs < 2 ^ 200) : x.natAbs.log2 < 9000 := Nat.lt_of_lt_of_le (PySem.Flt.log2_lt_of (by decide) h) (by decide)
theorem mulOk {x y : Int} (h : x.natAbs < 2 ^ 200) (h' : y.natAbs < 2 ^ 200) : CMulW x y := by
  have := lg2 h
  have := lg2 h'
  unfold CMulW
  omega
theorem ok__law_take (T : Tl P K mg a fd tk) : FnOk P w K mg base CX0 1 (a 31) (fd 31) ["_law_bag_here", "_law_many"] spTake := by
  refine T.F__law_take.ok sc__law_take (fun vs H Q E h => ?_) (fun cdv A outer s H vs Q E hr h => ?_)
  · obtain ⟨b, many, n, rfl, _⟩ := h
    rfl
  · obtain ⟨b, many, n, rfl, ⟨dg, m, k0, hb, g0, m0, m1, k1, k2⟩, hn, h0, h1, k⟩ := h
    refine ⟨_, (pss_cons (ps_if (pt_cmpR op_gt (pe_ix uIx (pv 0) pe_int (fun _ _ => rfl)) pe_int (nomark _)) (pss_cons (ps_asg (pe_op op_mod (pe_callTy uInt (by rfl) T.b_int bt_int (pa_cons (pe_ix uIx (pv 0) pe_int (fun _ _ => rfl)) pa_nil)) (pv 1)) (pg_name (i := 3) sc__law_take.nd rfl (by first | exact Or.inl rfl | exact Or.inr rfl)))
  (pss_cons (ps_asg (pe_op op_fdivW (pe_ix uIx (pv 0) pe_int (fun _ _ => rfl)) (pv 1)) (pg_sub (pv 0) pe_int set_listU))
  (pss_one (ps_ret (pv 3))))) pss_nil)
  (pss_cons (ps_asg (pe_op uAdd (pe_ix uIx (pv 0) pe_int (fun _ _ => rfl)) pe_int) (pg_sub (pv 0) pe_int set_listU))
  (pss_cons (ps_asg (pe_op op_mod (pe_callTy uInt (by rfl) T.b_int bt_int (pa_cons (pe_op op_pow (pe_op uAdd (pe_ix uIx (pv 0) pe_int (fun _ _ => rfl)) (pe_op uMul pe_int (pe_ix uIx (pv 0) pe_int (fun _ _ => rfl)))) pe_int) pa_nil)) pe_int) (pg_name (i := 2) sc__law_take.nd rfl (by first | exact Or.inl rfl | exact Or.inr rfl)))
  (pss_cons (ps_asg (pe_op op_mod (pe_callTy uInt (by rfl) T.b_int bt_int (pa_cons (pe_op op_pow (pe_op uAdd (pv 2) (pe_op uMul pe_int (pe_ix uIx (pv 0) pe_int (fun _ _ => rfl)))) pe_int) pa_nil)) pe_int) (pg_name (i := 2) sc__law_take.nd rfl (by first | exact Or.inl rfl | exact Or.inr rfl)))
  (pss_one (ps_ret (pe_op op_mod (pe_callTy uInt (by rfl) T.b_int bt_int (pa_cons (pe_op op_fdivW (pv 2) pe_int) pa_nil)) (pv 1)))))))), ?_⟩
    walk_at "rd"
    have hlog : many.natAbs.log2 < 9000 := by
      have : many.natAbs < 2 ^ 200 := by omega
      exact Nat.lt_of_lt_of_le (PySem.Flt.log2_lt_of (by decide) this) (by decide)
    by_cases hg : 0 < dg
    · refine ifT (by simpa using hg) ?_
      walk_at "rd"
      refine s_I h0 ?_
      walk_at "rd"
      refine s_I ⟨h0, hlog⟩ ?_
      refine s_gsub ?_
      walk_at "rd"
      refine s_setU hb (j := 0) rfl ?_
      walk_at "rd"
      exact k _ _ (Int.emod_nonneg _ (by omega)) (Int.emod_lt_of_pos _ h0) ⟨_, _, _, upd_same, Int.ediv_nonneg g0 (by omega), m0, m1, k1, by omega⟩ fun x o hx hS => by rw [upd_ne (by simpa using hS)]; exact hx
    · refine ifF (by simpa using hg) ?_
      walk_at "rd"
      refine s_gsub ?_
      walk_at "rd"
      refine s_setU hb (j := 2) rfl ?_
      have hb1 : upd H b (.lst (([V.int dg, .int m, .int k0] : List V).set 2 (.int (k0 + 1)))) b = some (.lst [.int dg, .int m, .int (k0 + 1)]) := upd_same
      have f1 : Fr H (upd H b (.lst (([V.int dg, .int m, .int k0] : List V).set 2 (.int (k0 + 1))))) [b] := fun x o hx hS => by rw [upd_ne (by simpa using hS)]; exact hx
      generalize upd H b (.lst (([V.int dg, .int m, .int k0] : List V).set 2 (.int (k0 + 1)))) = H1 at hb1 f1 ⊢
      walk_at "rd"
      have kb : k0 + 1 ≤ 1000000000 := by omega
      refine s_mulI (mulOk (by decide) (by omega)) ?_
      walk_at "rd"
      refine s_I ⟨by decide, by decide, by omega⟩ ?_
      walk_at "rd"
      refine s_I (by decide) ?_
      generalize hx1 : ((m + 32452867 * (k0 + 1)) ^ (3 : Int).toNat) % 2305843009213693921 = x1
      have x10 : 0 ≤ x1 := by rw [← hx1]; exact Int.emod_nonneg _ (by decide)
      have x11 : x1 < 2305843009213693921 := by rw [← hx1]; exact Int.emod_lt_of_pos _ (by decide)
      walk_at "rd"
      refine s_mulI (mulOk (by decide) (by omega)) ?_
      walk_at "rd"
      refine s_I ⟨by decide, by decide, by omega⟩ ?_
      walk_at "rd"
      refine s_I (by decide) ?_
      generalize hx2 : ((x1 + 982451653 * (k0 + 1)) ^ (2 : Int).toNat) % 2305843009213693951 = x2
      have x20 : 0 ≤ x2 := by rw [← hx2]; exact Int.emod_nonneg _ (by decide)
      walk_at "rd"
      refine s_I ⟨by decide, by decide⟩ ?_
      walk_at "rd"
      refine s_I h0 ?_
      walk_at "rd"
      exact k _ _ (Int.emod_nonneg _ (by omega)) (Int.emod_lt_of_pos _ h0) ⟨_, _, _, hb1, g0, m0, m1, by omega, by push_cast; omega⟩ f1
theorem b__law_take (T : Tl P K mg a fd tk) : Binds K (fd 31) ["_law_bag_here", "_law_many"] [] := T.F__law_take.binds fun _ _ _ _ _ _ us hl => match us, hl with | [_, _], _ => rfl
theorem BagD.more {H : Hp} {b : Addr} {n n' : Nat} (h : BagD H b n) (hn : n ≤ n') : BagD H b n' := by
  obtain ⟨dg, m, k, e, h1, h2, h3, h4, h5⟩ := h
  exact ⟨dg, m, k, e, h1, h2, h3, h4, by omega⟩
def spWorth : Sp := fun vs H Q _ => ∃ (b : Addr) (n : Nat), vs = [.ref b] ∧ BagD H b n ∧ n < 10 ^ 8 ∧ ∀ (v : Int) H', v.natAbs ≤ 10 ^ 29 → BagD H' b (n + 2) → Fr H H' [b] → Q (.int v) H'
theorem ok__law_worth (T : Tl P K mg a fd tk) : FnOk P w K mg base CX0 2 (a 33) (fd 33) ["_law_bag_here"] spWorth := by
  refine T.F__law_worth.ok sc__law_worth (fun vs H Q E h => ?_) (fun cdv A outer s H vs Q E hr h => ?_)
  · obtain ⟨b, n, rfl, _⟩ := h
    rfl
  · obtain ⟨b, n, rfl, B, hn, k⟩ := h
    refine ⟨_, (pss_cons (ps_asg (pe_call (ok__law_take T) (hr.mono (by decide)) (by rfl) T.g__law_take T.F__law_take.kp (b__law_take T) .nil pass0 (pa_cons (pv 0) (pa_cons pe_int pa_nil))) (pg_name (i := 1) sc__law_worth.nd rfl (by first | exact Or.inl rfl | exact Or.inr rfl)))
  (pss_cons (ps_if (pt_cmpR op_lt (pv 1) pe_int (nomark _)) (pss_one (ps_ret (pe_call (ok__law_take T) (hr.mono (by decide)) (by rfl) T.g__law_take T.F__law_take.kp (b__law_take T) .nil pass0 (pa_cons (pv 0) (pa_cons pe_int pa_nil))))) pss_nil)
  (pss_cons (ps_if (pt_cmpR (uEq K hr.units) (pv 1) pe_int (nomark _)) (pss_one (ps_ret (pe_call (ok__law_take T) (hr.mono (by decide)) (by rfl) T.g__law_take T.F__law_take.kp (b__law_take T) .nil pass0 (pa_cons (pv 0) (pa_cons (pe_op op_pow pe_int pe_int) pa_nil))))) pss_nil)
  (pss_one (ps_ret (pe_op op_sub (pe_un un_neg pe_int) (pe_call (ok__law_take T) (hr.mono (by decide)) (by rfl) T.g__law_take T.F__law_take.kp (b__law_take T) .nil pass0 (pa_cons (pv 0) (pa_cons (pe_op op_pow pe_int pe_int) pa_nil))))))))), ?_⟩
    walk_at "rd"
    refine ⟨b, 5, n, rfl, B, by omega, by decide, by decide, fun d1 H1 d0 d5 B1 f1 => ?_⟩
    walk_at "rd"
    by_cases c1 : d1 < 3
    · refine ifT (by simpa using c1) ?_
      walk_at "rd"
      refine ⟨b, 3, n + 1, rfl, B1, by omega, by decide, by decide, fun d2 H2 e0 e1 B2 f2 => ?_⟩
      walk_at "rd"
      exact k d2 H2 (by omega) B2 (f1.tr f2)
    refine ifF (by simpa using c1) ?_
    walk_at "rd"
    have e29 : (10 : Int) ^ (29 : Int).toNat = 100000000000000000000000000000 := by decide +kernel
    by_cases c2 : d1 = 3
    · refine ifT (by simpa using c2) ?_
      walk_at "rd"
      refine s_I ⟨by decide, by decide, by decide⟩ ?_
      rw [e29]
      walk_at "rd"
      refine ⟨b, _, n + 1, rfl, B1, by omega, by decide, by decide, fun d2 H2 e0 e1 B2 f2 => ?_⟩
      walk_at "rd"
      exact k d2 H2 (by omega) B2 (f1.tr f2)
    refine ifF (by simpa using c2) ?_
    walk_at "rd"
    refine s_I ⟨by decide, by decide, by decide⟩ ?_
    rw [e29]
    walk_at "rd"
    refine ⟨b, _, n + 1, rfl, B1, by omega, by decide, by decide, fun d2 H2 e0 e1 B2 f2 => ?_⟩
    walk_at "rd"
    exact k _ H2 (by omega) B2 (f1.tr f2)
theorem b__law_worth (T : Tl P K mg a fd tk) : Binds K (fd 33) ["_law_bag_here"] [] := T.F__law_worth.binds fun _ _ _ _ _ _ us hl => match us, hl with | [_], _ => rfl
def spOf : Sp := fun vs H Q _ => ∃ (b p : Addr) (xs : List V) (n : Nat), vs = [.ref b, .ref p] ∧ BagD H b n ∧ n < 10 ^ 8 ∧ H p = some (.lst xs) ∧ p ≠ b ∧ 0 < xs.length ∧ xs.length ≤ 1000 ∧ ∀ (i : Nat) (x : V) H', xs[i]? = some x → BagD H' b (n + 1) → Fr H H' [b] → Q x H'
theorem ok__law_of (T : Tl P K mg a fd tk) : FnOk P w K mg base CX0 2 (a 32) (fd 32) ["_law_bag_here", "_law_some"] spOf := by
  refine T.F__law_of.ok sc__law_of (fun vs H Q E h => ?_) (fun cdv A outer s H vs Q E hr h => ?_)
  · obtain ⟨b, p, xs, n, rfl, _⟩ := h
    rfl
  · obtain ⟨b, p, xs, n, rfl, B, hn, hp, hpb, h0, h1, k⟩ := h
    refine ⟨_, (pss_one (ps_ret (pe_ix uIx (pv 1) (pe_call (ok__law_take T) (hr.mono (by decide)) (by rfl) T.g__law_take T.F__law_take.kp (b__law_take T) .nil pass0 (pa_cons (pv 0) (pa_cons (pe_callB uLen (by rfl) T.d.b_len bt_len (pa_cons (pv 1) pa_nil)) pa_nil))) (fun _ _ => rfl)))), ?_⟩
    walk_at "rd"
    refine ⟨b, _, n, rfl, B, by omega, by omega, Int.lt_of_le_of_lt (b := 1000) (by omega) (by decide), fun d H1 d0 d1 B1 f1 => ?_⟩
    obtain ⟨i, rfl⟩ := Int.eq_ofNat_of_zero_le d0
    have hi : i < xs.length := by omega
    have ex : xs[i]? = some xs[i] := List.getElem?_eq_getElem hi
    refine s_ixL (f1 _ _ hp (by simpa using hpb)) (atI_nat ex) ?_
    walk_at "rd"
    exact k i _ H1 ex B1 f1
theorem b__law_of (T : Tl P K mg a fd tk) : Binds K (fd 32) ["_law_bag_here", "_law_some"] [] := T.F__law_of.binds fun _ _ _ _ _ _ us hl => match us, hl with | [_, _], _ => rfl
end
end Tr
set_option maxHeartbeats 4000000

namespace Tr
open PySem L2
section
variable {P : Program} {w : World} {K : PySem.W.Frag} {mg : Str → Option Value} {base : Heap} {a : Nat → Addr} {fd : Nat → FuncData} {tk : Nat → Tok}
local macro_rules | `(tactic| walk_at "ne") => `(tactic| first | assumption | (exact Ne.symm (by assumption)) | (refine ne_of_none (by assumption) (by assumption)) | (refine Ne.symm (ne_of_none (by assumption) (by assumption))))
local macro_rules | `(tactic| walk_at "hl") => `(tactic| first | assumption | with_reducible exact upd_same | ((with_reducible refine' Eq.trans (upd_ne ?hne) ?hrest); (case hne => walk_at "ne"); (case hrest => walk_at "hl")) | (refine' get_same ?hs ?hg; (case hs => assumption); (case hg => assumption)))
local macro_rules | `(tactic| walk_at "at") => `(tactic| first | with_reducible exact atI_0 _ _ | with_reducible exact atI_1 _ _ _ | with_reducible exact atI_2 _ _ _ _ | with_reducible exact atI_3 _ _ _ _ _ | assumption)
local macro_rules | `(tactic| walk_at "rd1") => `(tactic| first
  | with_reducible refine s_seq ?_ | with_reducible refine s_next ?_ | with_reducible refine s_if ?_ | with_reducible refine s_ret ?_ | with_reducible refine s_retN ?_ | with_reducible refine s_drop ?_ | with_reducible refine s_asg ?_ | with_reducible refine s_brk ?_ | with_reducible refine s_cont ?_
  | with_reducible refine s_gname ?_ | with_reducible refine s_c ?_ | with_reducible refine s_op ?_ | with_reducible refine s_un ?_ | with_reducible refine s_neg ?_ | with_reducible refine s_test ?_ | with_reducible refine s_tb ?_ | with_reducible refine s_not ?_ | with_reducible refine s_and ?_ | with_reducible refine s_or ?_ | with_reducible refine s_yes ?_
  | ((with_reducible refine' s_var ?hv ?_); (case hv => exact rfl))
  | with_reducible refine s_ifx ?_ | with_reducible refine s_andV ?_ | with_reducible refine s_orV ?_ | with_reducible refine s_notV ?_ | with_reducible refine s_chain ?_ | with_reducible refine s_nil ?_ | with_reducible refine s_cons ?_ | with_reducible refine s_lst ?_ | with_reducible refine s_tup ?_ | with_reducible refine s_cb ?_ | with_reducible refine s_call ?_ | with_reducible refine s_meth ?_ | with_reducible refine s_make ?_
  | with_reducible refine s_dnewK ?_ | with_reducible refine s_sl ?_ | with_reducible refine s_po0 ?_ | with_reducible refine s_po1 ?_ | with_reducible refine s_bm ?_ | with_reducible refine s_bm0 ?_
  | with_reducible refine s_bl ?_ | with_reducible refine s_int ?_ | with_reducible refine s_I0 ?_ | with_reducible refine s_addI ?_ | with_reducible refine s_intI ?_ | with_reducible refine s_intB ?_
  | with_reducible refine s_m1 ?_ | with_reducible refine s_lc ?_ | with_reducible refine s_ilist ?_ | with_reducible refine s_for ?_ | with_reducible refine s_irng ?_ | with_reducible refine s_match ?_ | with_reducible refine s_starT ?_ | with_reducible refine s_isS ?_ | with_reducible refine s_isiSS ?_ | with_reducible refine s_fldU ?_ | with_reducible refine s_sfldU ?_
  | ((with_reducible refine' s_eqS ?hq ?_); (case hq => exact rfl)) | ((with_reducible refine' s_neS ?hq ?_); (case hq => exact rfl))
  | ((with_reducible refine' s_isN ?hq ?_); (case hq => exact rfl)) | ((with_reducible refine' s_notN ?hq ?_); (case hq => exact rfl))
  | ((with_reducible refine' s_eqNil ?h1 ?h2 ?_); (case h1 => walk_at "hl"); (case h2 => walk_at "hl")) | ((with_reducible refine' s_neNil ?h1 ?h2 ?_); (case h1 => walk_at "hl"); (case h2 => walk_at "hl"))
  | ((with_reducible refine' s_ixL ?h1 ?h2 ?_); (case h1 => walk_at "hl"); (case h2 => walk_at "at")) | ((with_reducible refine' s_ixT ?h1 ?h2 ?_); (case h1 => walk_at "hl"); (case h2 => walk_at "at"))
  | ((with_reducible refine' s_inS ?h1 ?_); (case h1 => walk_at "hl")) | ((with_reducible refine' s_ninS ?h1 ?_); (case h1 => walk_at "hl")) | with_reducible refine s_inW ?_
  | ((with_reducible refine' s_lenL ?h1 ?_); (case h1 => walk_at "hl")) | ((with_reducible refine' s_lenT ?h1 ?_); (case h1 => walk_at "hl"))
  | ((with_reducible refine' s_tyL ?h1 ?_); (case h1 => walk_at "hl"))
  | ((with_reducible refine' s_fldM ?h1 ?h2 ?h3 ?_); (case h1 => walk_at "hl"); (case h2 => walk_at "fok"); (case h3 => walk_at "flk"))
  | ((with_reducible refine' s_setM ?h1 ?h2 ?h3 ?h4 ?_); (case h1 => walk_at "hl"); (case h2 => walk_at "fok"); (case h4 => walk_at "put"); (case h3 => exact Nat.le_of_ble_eq_true rfl))
  | ((with_reducible refine' s_starM ?h1 ?_); (case h1 => walk_at "hl"))
  | ((with_reducible refine' s_recv ?h1 ?h2 ?_); (case h1 => walk_at "hl"); (case h2 => exact rfl))
  | ((with_reducible refine' s_sz ?h1 ?_); (case h1 => (simp; done))))
local macro_rules | `(tactic| walk_at "rd") => `(tactic| repeat (walk_at "rd1"))
local macro_rules | `(tactic| walk_at "fok") => `(tactic| assumption)
local macro_rules | `(tactic| walk_at "flk") => `(tactic| rfl)
local macro_rules | `(tactic| walk_at "put") => `(tactic| exact rfl)

def spBagD (K : PySem.W.Frag) : Sp := fun vs H Q _ => ∃ (p : Addr) (xs : List Int) (at_ : Nat), vs = [.ref p, .int (at_ : Int)] ∧ SqL K H p (xs.map V.int) ∧ xs.length ≤ 63 ∧ at_ ≤ 3 ∧ ∀ b H', Same H H' → H b = none → BagD H' b 0 → Q (.ref b) H'
theorem ok__law_bag (T : Tl P K mg a fd tk) : FnOk P w K mg base CX0 1 (a 30) (fd 30) ["_law_script", "_law_at"] (spBagD K) := by
  refine T.F__law_bag.ok sc__law_bag (fun vs H Q E h => ?_) (fun cdv A outer s H vs Q E hr h => ?_)
  · obtain ⟨p, xs, at_, rfl, _⟩ := h
    rfl
  · obtain ⟨p, xs, at_, rfl, hp, hn, h3, k⟩ := h
    refine ⟨_, (pss_cons (ps_asg (pe_ifExp (pt_cmpR op_lt (pv 1) (pe_callB call_len_seq (by rfl) T.d.b_len bt_len (pa_cons (pv 0) pa_nil)) (nomark _)) (pe_ix ix_list (pv 0) (pv 1) (fun _ _ => rfl)) pe_int) (pg_name (i := 2) sc__law_bag.nd rfl (by first | exact Or.inl rfl | exact Or.inr rfl)))
  (pss_cons (ps_asg (pe_ifExp (pt_cmpR op_ge (pe_callB call_abs (by rfl) T.b_abs bt_abs (pa_cons (pv 2) pa_nil)) (pe_op op_pow pe_int pe_int) (nomark _)) (pe_callB call_abs (by rfl) T.b_abs bt_abs (pa_cons (pv 2) pa_nil)) pe_int) (pg_name (i := 3) sc__law_bag.nd rfl (by first | exact Or.inl rfl | exact Or.inr rfl)))
  (pss_one (ps_ret (pe_lst (pa_cons (pv 3) (pa_cons (pe_op uAdd (pe_op uAdd (pe_op op_mod (pe_callTy uInt (by rfl) T.b_int bt_int (pa_cons (pv 2) pa_nil)) pe_int) (pe_op uMul pe_int (pv 1))) pe_int) (pa_cons pe_int pa_nil)))))))), ?_⟩
    walk_at "rd"
    refine ⟨p, _, rfl, .inl hp, ?_⟩
    walk_at "rd"
    by_cases hc : at_ < xs.length
    · refine ifT (by simpa using hc) ?_
      walk_at "rd"
      refine ⟨p, _, _, .int xs[at_], rfl, rfl, hp, atI_nat (by rw [List.getElem?_map, List.getElem?_eq_getElem hc]; rfl), ?_⟩
      generalize xs[at_] = c
      walk_at "rd"
      refine ⟨c, rfl, ?_⟩
      walk_at "rd"
      refine s_I ⟨by decide, by decide, by decide⟩ ?_
      walk_at "rd"
      by_cases hb : (10 : Int) ^ (18 : Int).toNat ≤ (if c < 0 then -c else c)
      · refine ifT (decide_eq_true hb) ?_
        walk_at "rd"
        refine ⟨c, rfl, ?_⟩
        walk_at "rd"
        refine s_I (by decide) ?_
        have m0 : 0 ≤ c % 2305843009213693951 := Int.emod_nonneg _ (by decide)
        have m1 : c % 2305843009213693951 < 2305843009213693951 := Int.emod_lt_of_pos _ (by decide)
        generalize c % 2305843009213693951 = mm at m0 m1 ⊢
        walk_at "rd"
        refine s_mulI (mulOk (by decide) (by omega)) ?_
        walk_at "rd"
        intro b nb
        exact k b _ (Same.new nb) nb ⟨_, _, _, upd_same, by first | omega | (split <;> omega), by omega, by omega, by decide, by decide⟩
      · refine ifF (decide_eq_false hb) ?_
        walk_at "rd"
        refine s_I (by decide) ?_
        have m0 : 0 ≤ c % 2305843009213693951 := Int.emod_nonneg _ (by decide)
        have m1 : c % 2305843009213693951 < 2305843009213693951 := Int.emod_lt_of_pos _ (by decide)
        generalize c % 2305843009213693951 = mm at m0 m1 ⊢
        walk_at "rd"
        refine s_mulI (mulOk (by decide) (by omega)) ?_
        walk_at "rd"
        intro b nb
        exact k b _ (Same.new nb) nb ⟨_, _, _, upd_same, by first | omega | (split <;> omega), by omega, by omega, by decide, by decide⟩
    · refine ifF (by simpa using hc) ?_
      walk_at "rd"
      refine ⟨0, rfl, ?_⟩
      walk_at "rd"
      refine s_I ⟨by decide, by decide, by decide⟩ ?_
      walk_at "rd"
      by_cases hb : (10 : Int) ^ (18 : Int).toNat ≤ (if (0 : Int) < 0 then -0 else 0)
      · refine ifT (decide_eq_true hb) ?_
        walk_at "rd"
        refine ⟨0, rfl, ?_⟩
        walk_at "rd"
        refine s_I (by decide) ?_
        have m0 : 0 ≤ (0 : Int) % 2305843009213693951 := Int.emod_nonneg _ (by decide)
        have m1 : (0 : Int) % 2305843009213693951 < 2305843009213693951 := Int.emod_lt_of_pos _ (by decide)
        generalize (0 : Int) % 2305843009213693951 = mm at m0 m1 ⊢
        walk_at "rd"
        refine s_mulI (mulOk (by decide) (by omega)) ?_
        walk_at "rd"
        intro b nb
        exact k b _ (Same.new nb) nb ⟨_, _, _, upd_same, by first | omega | (split <;> omega), by omega, by omega, by decide, by decide⟩
      · refine ifF (decide_eq_false hb) ?_
        walk_at "rd"
        refine s_I (by decide) ?_
        have m0 : 0 ≤ (0 : Int) % 2305843009213693951 := Int.emod_nonneg _ (by decide)
        have m1 : (0 : Int) % 2305843009213693951 < 2305843009213693951 := Int.emod_lt_of_pos _ (by decide)
        generalize (0 : Int) % 2305843009213693951 = mm at m0 m1 ⊢
        walk_at "rd"
        refine s_mulI (mulOk (by decide) (by omega)) ?_
        walk_at "rd"
        intro b nb
        exact k b _ (Same.new nb) nb ⟨_, _, _, upd_same, by first | omega | (split <;> omega), by omega, by omega, by decide, by decide⟩
theorem b__law_bag (T : Tl P K mg a fd tk) : Binds K (fd 30) ["_law_script", "_law_at"] [] := T.F__law_bag.binds fun _ _ _ _ _ _ us hl => match us, hl with | [_, _], _ => rfl
end
end Tr
set_option maxHeartbeats 4000000

namespace Tr
open PySem L2
abbrev s__law_names : Stmt := (top 21)
abbrev N__law_names : List Str := ["_law_bag_here", "_law_many", "_law_found", "_law_turn", "_law_letters", "_law_name", "_law_k", "_law_one"]
theorem sc__law_names : FnScope ["_law_bag_here", "_law_many", "_law_found", "_law_turn", "_law_letters", "_law_name", "_law_k", "_law_one"] ["_law_bag_here", "_law_many"] (defScope s__law_names) := ⟨rfl, rfl, rfl, by decide +kernel, rfl, by decide +kernel, by decide +kernel⟩
abbrev s__law_is_int : Stmt := (top 22)
abbrev N__law_is_int : List Str := ["_law_thing"]
theorem sc__law_is_int : FnScope ["_law_thing"] ["_law_thing"] (defScope s__law_is_int) := ⟨rfl, rfl, rfl, by decide +kernel, rfl, by decide +kernel, by decide +kernel⟩
abbrev s__law_shows : Stmt := (top 23)
abbrev N__law_shows : List Str := ["_law_desk", "_law_cells", "_law_names_here", "_law_dues", "_law_cell", "_law_name", "_law_due", "_law_found"]
theorem sc__law_shows : FnScope ["_law_desk", "_law_cells", "_law_names_here", "_law_dues", "_law_cell", "_law_name", "_law_due", "_law_found"] ["_law_desk", "_law_cells", "_law_names_here", "_law_dues"] (defScope s__law_shows) := ⟨rfl, rfl, rfl, by decide +kernel, rfl, by decide +kernel, by decide +kernel⟩
abbrev s__law_no_name : Stmt := (top 24)
abbrev N__law_no_name : List Str := ["_law_desk", "_law_odd", "_law_putting", "e", "_law_found"]
theorem sc__law_no_name : FnScope ["_law_desk", "_law_odd", "_law_putting", "e", "_law_found"] ["_law_desk", "_law_odd", "_law_putting"] (defScope s__law_no_name) := ⟨rfl, rfl, rfl, by decide +kernel, rfl, by decide +kernel, by decide +kernel⟩
abbrev s__law_put : Stmt := (top 25)
abbrev N__law_put : List Str := ["_law_bag_here", "_law_desk", "_law_cells", "_law_names_here", "_law_dues", "_law_k", "_law_cell", "_law_name", "_law_road", "_law_worth_here", "_law_more"]
theorem sc__law_put : FnScope ["_law_bag_here", "_law_desk", "_law_cells", "_law_names_here", "_law_dues", "_law_k", "_law_cell", "_law_name", "_law_road", "_law_worth_here", "_law_more"] ["_law_bag_here", "_law_desk", "_law_cells", "_law_names_here", "_law_dues"] (defScope s__law_put) := ⟨rfl, rfl, rfl, by decide +kernel, rfl, by decide +kernel, by decide +kernel⟩
abbrev s__law_right : Stmt := (top 26)
abbrev N__law_right : List Str := ["_law_bag_here", "_law_names_here", "_law_dues", "_law_cells", "_law_name", "_law_odds", "_law_turn", "_law_twin", "_law_desk", "_law_other", "_law_odd"]
theorem sc__law_right : FnScope ["_law_bag_here", "_law_names_here", "_law_dues", "_law_cells", "_law_name", "_law_odds", "_law_turn", "_law_twin", "_law_desk", "_law_other", "_law_odd"] ["_law_bag_here"] (defScope s__law_right) := ⟨rfl, rfl, rfl, by decide +kernel, rfl, by decide +kernel, by decide +kernel⟩
abbrev s_law : Stmt := (top 27)
abbrev N_law : List Str := ["_law_script", "_law_at"]
theorem sc_law : FnScope ["_law_script", "_law_at"] ["_law_script"] (defScope s_law) := ⟨rfl, rfl, rfl, by decide +kernel, rfl, by decide +kernel, by decide +kernel⟩

/-- what the top has made of the law's own defs -/
structure Tq (P : Program) (K : PySem.W.Frag) (mg : Str → Option Value) (a : Nat → Addr) (fd : Nat → FuncData) (tk : Nat → Tok) : Prop where
  l : Tl P K mg a fd tk
  b_max : mg "max" = none
  b_min : mg "min" = none
  b_zip : mg "zip" = none
  b_isinstance : mg "isinstance" = none
  b_bool : mg "bool" = none
  b_ValueError : mg "ValueError" = none
  g__law_names : mg "_law_names" = some (.ref (a 34))
  F__law_names : Fun K "_law_names" "_law_names" s__law_names (a 34) (fd 34)
  g__law_is_int : mg "_law_is_int" = some (.ref (a 35))
  F__law_is_int : Fun K "_law_is_int" "_law_is_int" s__law_is_int (a 35) (fd 35)
  g__law_shows : mg "_law_shows" = some (.ref (a 36))
  F__law_shows : Fun K "_law_shows" "_law_shows" s__law_shows (a 36) (fd 36)
  g__law_no_name : mg "_law_no_name" = some (.ref (a 37))
  F__law_no_name : Fun K "_law_no_name" "_law_no_name" s__law_no_name (a 37) (fd 37)
  g__law_put : mg "_law_put" = some (.ref (a 38))
  F__law_put : Fun K "_law_put" "_law_put" s__law_put (a 38) (fd 38)
  g__law_right : mg "_law_right" = some (.ref (a 39))
  F__law_right : Fun K "_law_right" "_law_right" s__law_right (a 39) (fd 39)
  ki_Cell : PySem.W.kitOne K (.ref (a 2)) (.ref (a 2)) = some true
  i1_Cell : PySem.W.findIn K (.ref (a 2)) "__class__" = some (some (.builtin "object.__class__"))
  i2_Cell : PySem.W.specialIn K (.builtin "object.__class__") "__get__" = some (some (.builtin "getset_descriptor.__get__"))
  i3_Cell : PySem.W.takesIn K (.builtin "object.__class__") = some true
  i4_Cell : PySem.W.mroIn K (a 2) (.type "object") = some true
  ec_NoName : ExcC K (a 22)
  ki_NoName : PySem.W.kitOne K (.ref (a 22)) (.ref (a 24)) = some true
  kv_NoName : PySem.W.kitOne K (.ref (a 22)) (.type "ValueError") = some true
  te_NoName : PySem.W.exmOne K (.ref (a 22)) (.ref (a 22)) = some true
section
variable {P : Program} {w : World} {K : PySem.W.Frag} {mg : Str → Option Value} {base : Heap} {a : Nat → Addr} {fd : Nat → FuncData} {tk : Nat → Tok}
local macro_rules | `(tactic| walk_at "ne") => `(tactic| first | assumption | (exact Ne.symm (by assumption)) | (refine ne_of_none (by assumption) (by assumption)) | (refine Ne.symm (ne_of_none (by assumption) (by assumption))))
local macro_rules | `(tactic| walk_at "hl") => `(tactic| first | assumption | with_reducible exact upd_same | ((with_reducible refine' Eq.trans (upd_ne ?hne) ?hrest); (case hne => walk_at "ne"); (case hrest => walk_at "hl")) | (refine' get_same ?hs ?hg; (case hs => assumption); (case hg => assumption)))
local macro_rules | `(tactic| walk_at "at") => `(tactic| first | with_reducible exact atI_0 _ _ | with_reducible exact atI_1 _ _ _ | with_reducible exact atI_2 _ _ _ _ | with_reducible exact atI_3 _ _ _ _ _ | assumption)
local macro_rules | `(tactic| walk_at "rd1") => `(tactic| first
  | with_reducible refine s_seq ?_ | with_reducible refine s_next ?_ | with_reducible refine s_if ?_ | with_reducible refine s_ret ?_ | with_reducible refine s_retN ?_ | with_reducible refine s_drop ?_ | with_reducible refine s_asg ?_ | with_reducible refine s_brk ?_ | with_reducible refine s_cont ?_
  | with_reducible refine s_gname ?_ | with_reducible refine s_c ?_ | with_reducible refine s_op ?_ | with_reducible refine s_un ?_ | with_reducible refine s_neg ?_ | with_reducible refine s_test ?_ | with_reducible refine s_tb ?_ | with_reducible refine s_not ?_ | with_reducible refine s_and ?_ | with_reducible refine s_or ?_ | with_reducible refine s_yes ?_
  | ((with_reducible refine' s_var ?hv ?_); (case hv => exact rfl))
  | with_reducible refine s_ifx ?_ | with_reducible refine s_andV ?_ | with_reducible refine s_orV ?_ | with_reducible refine s_notV ?_ | with_reducible refine s_chain ?_ | with_reducible refine s_nil ?_ | with_reducible refine s_cons ?_ | with_reducible refine s_lst ?_ | with_reducible refine s_tup ?_ | with_reducible refine s_cb ?_ | with_reducible refine s_call ?_ | with_reducible refine s_meth ?_ | with_reducible refine s_make ?_
  | with_reducible refine s_dnewK ?_ | with_reducible refine s_sl ?_ | with_reducible refine s_po0 ?_ | with_reducible refine s_po1 ?_ | with_reducible refine s_bm ?_ | with_reducible refine s_bm0 ?_
  | with_reducible refine s_bl ?_ | with_reducible refine s_int ?_ | with_reducible refine s_I0 ?_ | with_reducible refine s_addI ?_ | with_reducible refine s_intI ?_ | with_reducible refine s_intB ?_
  | with_reducible refine s_m1 ?_ | with_reducible refine s_lc ?_ | with_reducible refine s_ilist ?_ | with_reducible refine s_for ?_ | with_reducible refine s_irng ?_ | with_reducible refine s_match ?_ | with_reducible refine s_starT ?_ | with_reducible refine s_isS ?_ | with_reducible refine s_isiSS ?_ | with_reducible refine s_fldU ?_ | with_reducible refine s_sfldU ?_
  | ((with_reducible refine' s_eqS ?hq ?_); (case hq => exact rfl)) | ((with_reducible refine' s_neS ?hq ?_); (case hq => exact rfl))
  | ((with_reducible refine' s_isN ?hq ?_); (case hq => exact rfl)) | ((with_reducible refine' s_notN ?hq ?_); (case hq => exact rfl))
  | ((with_reducible refine' s_eqNil ?h1 ?h2 ?_); (case h1 => walk_at "hl"); (case h2 => walk_at "hl")) | ((with_reducible refine' s_neNil ?h1 ?h2 ?_); (case h1 => walk_at "hl"); (case h2 => walk_at "hl"))
  | ((with_reducible refine' s_ixL ?h1 ?h2 ?_); (case h1 => walk_at "hl"); (case h2 => walk_at "at")) | ((with_reducible refine' s_ixT ?h1 ?h2 ?_); (case h1 => walk_at "hl"); (case h2 => walk_at "at"))
  | ((with_reducible refine' s_inS ?h1 ?_); (case h1 => walk_at "hl")) | ((with_reducible refine' s_ninS ?h1 ?_); (case h1 => walk_at "hl")) | with_reducible refine s_inW ?_
  | ((with_reducible refine' s_lenL ?h1 ?_); (case h1 => walk_at "hl")) | ((with_reducible refine' s_lenT ?h1 ?_); (case h1 => walk_at "hl"))
  | ((with_reducible refine' s_tyL ?h1 ?_); (case h1 => walk_at "hl"))
  | ((with_reducible refine' s_fldM ?h1 ?h2 ?h3 ?_); (case h1 => walk_at "hl"); (case h2 => walk_at "fok"); (case h3 => walk_at "flk"))
  | ((with_reducible refine' s_setM ?h1 ?h2 ?h3 ?h4 ?_); (case h1 => walk_at "hl"); (case h2 => walk_at "fok"); (case h4 => walk_at "put"); (case h3 => exact Nat.le_of_ble_eq_true rfl))
  | ((with_reducible refine' s_starM ?h1 ?_); (case h1 => walk_at "hl"))
  | ((with_reducible refine' s_recv ?h1 ?h2 ?_); (case h1 => walk_at "hl"); (case h2 => exact rfl))
  | ((with_reducible refine' s_sz ?h1 ?_); (case h1 => (simp; done))))
local macro_rules | `(tactic| walk_at "rd") => `(tactic| repeat (walk_at "rd1"))
local macro_rules | `(tactic| walk_at "fok") => `(tactic| assumption)
local macro_rules | `(tactic| walk_at "flk") => `(tactic| rfl)
local macro_rules | `(tactic| walk_at "put") => `(tactic| exact rfl)

def NameOk (n : Nat) (z : Str) : Prop := PyData.strOk z = true ∧ z.length ≤ n
def letters : List Str := ["a", "b", "z", "K", "7", " ", "-", "kept", "log"]
theorem letter_ok : ∀ z ∈ letters, NameOk 4 z := by
  have : letters.all (fun z => PyData.strOk z && decide (z.length ≤ 4)) = true := by decide +kernel
  intro z hz
  have := List.all_eq_true.mp this z hz
  simp only [Bool.and_eq_true, decide_eq_true_eq] at this
  exact this
theorem s_max {K : PySem.W.Frag} {p : Addr} {ns : List Int} {H : Hp} {Q : VK} (hp : H p = some (.lst (ns.map V.int))) (hn : 0 < ns.length) (q : ∀ m, m ∈ ns → (∀ y, y ∈ ns → y ≤ m) → Q (.int m) H) : rMax K [.ref p] H Q := ⟨p, ns, rfl, SqL.of hp, hn, q⟩
theorem s_mulS {z : Str} {n : Int} {H : Hp} {Q : VK} (h : MulOk z n) (q : Q (.str (Txt.mul z n)) H) : (fun (x y : V) (H : Hp) (Q : VK) => ∃ z n, x = .str z ∧ y = .int n ∧ MulOk z n ∧ Q (.str (Txt.mul z n)) H) (.str z) (.int n) H Q := ⟨z, n, rfl, rfl, h, q⟩
theorem BagD.fr {H H' : Hp} {b : Addr} {n : Nat} {S : List Addr} (h : BagD H b n) (f : Fr H H' S) (hb : b ∉ S) : BagD H' b n := by
  obtain ⟨dg, m, k, e, r⟩ := h
  exact ⟨dg, m, k, f _ _ e hb, r⟩
theorem BagD.same {H H' : Hp} {b : Addr} {n : Nat} (h : BagD H b n) (f : Same H H') : BagD H' b n := h.fr (S := []) (fun x o e _ => f _ _ e) (by simp)
theorem sum_le {n : Nat} : ∀ ls : List Str, (∀ z ∈ ls, z.length ≤ n) → (ls.map (·.length)).sum ≤ n * ls.length
  | [], _ => by simp
  | z :: ls, h => by
    have := sum_le ls fun y hy => h y (List.mem_cons_of_mem _ hy)
    have := h z (by simp)
    simp only [List.map_cons, List.sum_cons, List.length_cons]
    rw [Nat.mul_succ]
    omega
def spNames : Sp := fun vs H Q _ => ∃ (b : Addr) (n many : Nat), vs = [.ref b, .int (many : Int)] ∧ BagD H b n ∧ n < 10 ^ 7 ∧ many ≤ 6 ∧ ∀ (p : Addr) (l : List Str) H', BagD H' b (n + 24) → H p = none → H' p = some (.lst (l.map V.str)) → l.length = many → l.Nodup → (∀ z ∈ l, NameOk 1000 z) → Fr H H' [b] → Q (.ref p) H'
theorem ok__law_names (T : Tq P K mg a fd tk) : FnOk P w K mg base CX0 3 (a 34) (fd 34) ["_law_bag_here", "_law_many"] spNames := by
  refine T.F__law_names.ok sc__law_names (fun vs H Q E h => ?_) (fun cdv A outer s H vs Q E hr h => ?_)
  · obtain ⟨b, n, many, rfl, _⟩ := h
    rfl
  · obtain ⟨b, n, many, rfl, B, hn, hmany, k⟩ := h
    refine ⟨_, (pss_cons (ps_asg (pe_lst pa_nil) (pg_name (i := 2) sc__law_names.nd rfl (by first | exact Or.inl rfl | exact Or.inr rfl)))
  (pss_cons (ps_for PassesOwn.never rfl (pi_range1 (by rfl) T.l.d.b_range (pa_cons (pv 1) pa_nil)) (pg_name (i := 3) sc__law_names.nd rfl (by first | exact Or.inl rfl | exact Or.inr rfl))
   (pss_cons (ps_setLc (i := 4) (own := [("_law_k", 6)]) rfl sc__law_names.nd rfl rfl (sw_true rfl rfl rfl (by decide +kernel)) (pi_range1 (by rfl) T.l.d.b_range (pa_cons (pe_call (ok__law_take T.l) (hr.mono (by decide)) (by rfl) T.l.g__law_take T.l.F__law_take.kp (b__law_take T.l) .nil pass0 (pa_cons (pv 0) (pa_cons pe_int pa_nil))) pa_nil)) (blkOk_by (N := N__law_names) (sc := defScope s__law_names) (by decide +kernel)) (fun _ _ _ _ _ => (pg_name (i := 6) sc__law_names.nd rfl (by first | exact Or.inl rfl | exact Or.inr rfl))) (fun _ _ _ _ _ => pts_nil) (fun _ _ _ _ _ => (pe_call (ok__law_of T.l) (hr.mono (by decide)) (by rfl) T.l.g__law_of T.l.F__law_of.kp (b__law_of T.l) .nil pass0 (pa_cons (pv 0) (pa_cons (pe_lst (pa_cons pe_str (pa_cons pe_str (pa_cons pe_str (pa_cons pe_str (pa_cons pe_str (pa_cons pe_str (pa_cons pe_str (pa_cons pe_str (pa_cons pe_str pa_nil)))))))))) pa_nil)))))
  (pss_cons (ps_asg (pe_join pe_str (pv 4)) (pg_name (i := 5) sc__law_names.nd rfl (by first | exact Or.inl rfl | exact Or.inr rfl)))
  (pss_cons (ps_if (pt_cmpR (uIn K) (pv 5) (pv 2) (by rfl)) (pss_one (ps_asg (pe_op uAdd (pv 5) (pe_op op_mulS pe_str (pe_op uAdd pe_int (pe_callB (cr_max rfl) (by rfl) T.b_max bt_max (pa_cons (pe_lc (own := [("_law_one", 7)]) rfl sc__law_names.nd (pi_list (pv 2)) (blkOk_by (N := N__law_names) (sc := defScope s__law_names) (by decide +kernel)) (fun _ _ _ _ _ => (pg_name (i := 7) sc__law_names.nd rfl (by first | exact Or.inl rfl | exact Or.inr rfl))) (fun _ _ _ _ _ => pts_nil) (fun _ _ _ _ _ => (pe_callB uLen (by rfl) T.l.d.b_len bt_len (pa_cons (pv 7) pa_nil)))) pa_nil))))) (pg_name (i := 5) sc__law_names.nd rfl (by first | exact Or.inl rfl | exact Or.inr rfl)))) pss_nil)
  (pss_one (ps_expr (pe_bm PySem.F.plainAttrs_list PySem.F.slot_list_append PySem.F.type_list_append uAppend (pv 2) (pa_cons (pv 5) pa_nil))))))))
  (pss_one (ps_ret (pv 2))))), ?_⟩
    walk_at "rd"
    intro p np
    walk_at "rd"
    have pb : p ≠ b := by rintro rfl; obtain ⟨_, _, _, hb, _⟩ := B; rw [np] at hb; cases hb
    have B0 : BagD (upd H p (.lst [])) b n := by
      obtain ⟨dg, m, k0, hb, r⟩ := B
      exact ⟨dg, m, k0, by rw [upd_ne (Ne.symm pb)]; exact hb, r⟩
    refine s_forR (by omega) (by omega) (fun i σ H' => ∃ (v3 v4 v5 : Option V) (l : List Str), σ = [some (.ref b), some (.int (many : Int)), some (.ref p), v3, v4, v5, none, none] ∧ H' p = some (.lst (l.map V.str)) ∧ BagD H' b (n + 4 * i) ∧ l.length = i ∧ l.Nodup ∧ (∀ z ∈ l, NameOk (13 * 2 ^ i) z) ∧ Fr (upd H p (.lst [])) H' [b, p])
      ⟨none, none, none, [], rfl, upd_same, B0, rfl, List.nodup_nil, by simp, fun x o h _ => h⟩ ?_ ?_
    · rintro i σ H1 hi ⟨v3, v4, v5, l, rfl, hp, B1, hl, nd, ok, f1⟩
      walk_at "rd"
      refine ⟨b, 4, _, rfl, B1, by omega, by decide, by decide, fun d1 H2 d0 d4 B2 f2 => ?_⟩
      walk_at "rd"
      refine s_lcRJ (fun j D acc H3 => ∃ ls : List Str, acc = ls.map V.str ∧ (∀ z ∈ ls, NameOk 4 z) ∧ BagD H3 b (n + 4 * i + 1 + j) ∧ Fr H2 H3 [b] ∧ H3 D = some (.lst acc) ∧ acc.length = j ∧ H2 D = none) d0 (by omega) (fun D nD => ?_) (fun j D acc H3 ⟨ls, _, _, _, _, q1, q2, _⟩ => ⟨q1, q2⟩) (fun j D acc H3 R hj ⟨ls, e, lo, B3, f3, hD, hl3, nD⟩ hk => ?_) (fun D acc H3 nD ⟨ls, e, lo, B3, f3, hD, hl3, _⟩ => ?_)
      · have Db : D ≠ b := by rintro rfl; obtain ⟨_, _, _, hb, _⟩ := B2; rw [nD] at hb; cases hb
        exact ⟨[], rfl, by simp, B2.fr (S := [D]) (fun x o h hS => by rw [upd_ne (by simpa using hS)]; exact h) (by simpa using Ne.symm Db), fun x o h _ => by rw [upd_ne (ne_of_none h nD)]; exact h, upd_same, rfl, nD⟩
      · have Db : D ≠ b := by rintro rfl; obtain ⟨_, _, _, hb, _⟩ := B2; rw [nD] at hb; cases hb
        walk_at "rd"
        refine ⟨rfl, ?_⟩
        walk_at "rd"
        intro q nq
        have qb : q ≠ b := by rintro rfl; obtain ⟨_, _, _, hb, _⟩ := B3; rw [nq] at hb; cases hb
        have sq := Same.new (o := .lst (letters.map V.str)) nq
        have hq : upd H3 q (.lst (letters.map V.str)) q = some (.lst (letters.map V.str)) := upd_same
        have eL : ([.str (Str.ofString "a"), .str (Str.ofString "b"), .str (Str.ofString "z"), .str (Str.ofString "K"), .str (Str.ofString "7"), .str (Str.ofString " "), .str (Str.ofString "-"), .str (Str.ofString "kept"), .str (Str.ofString "log")] : List V) = letters.map V.str := rfl
        rw [eL]
        generalize upd H3 q (.lst (letters.map V.str)) = H4 at sq hq ⊢
        walk_at "rd"
        refine ⟨b, q, _, _, rfl, B3.same sq, by omega, hq, qb, by decide, by decide, fun m x H5 hx B5 f5 => ?_⟩
        rw [List.getElem?_map] at hx
        cases ez : letters[m]? with
        | none => rw [ez] at hx; cases hx
        | some z =>
        rw [ez] at hx
        cases hx
        have hz := letter_ok z (List.mem_of_getElem? ez)
        have hD5 : H5 D = some (.lst acc) := f5 _ _ (sq _ _ hD) (by simpa using Db)
        refine hk _ _ hD5 ⟨ls ++ [z], by rw [e]; simp, fun y hy => ?_, ?_, ?_, upd_same, by rw [List.length_append, hl3]; rfl, nD⟩
        · rcases List.mem_append.mp hy with hy | hy
          · exact lo y hy
          · rw [List.mem_singleton.mp hy]; exact hz
        · exact (B5.fr (S := [D]) (fun x o h hS => by rw [upd_ne (by simpa using hS)]; exact h) (by simpa using Ne.symm Db))
        · intro x o h hS
          rw [upd_ne (ne_of_none h nD)]
          exact f5 _ _ (sq _ _ (f3 _ _ h hS)) hS
      · subst e
        have hl4 : ls.length ≤ 3 := by rw [List.length_map] at hl3; omega
        have hs4 := sum_le (n := 4) ls fun z hz => (lo z hz).2
        walk_at "rd"
        refine ⟨_, D, ls, rfl, rfl, .inl (SqL.of hD), by rw [show (Str.ofString "").length = 0 from rfl]; omega, ?_⟩
        obtain ⟨j1, j2⟩ := join_e ls
        have hz1 : NameOk 12 (Txt.join (Str.ofString "") ls) := ⟨j2 fun y hy => (lo y hy).1, by rw [j1]; omega⟩
        generalize Txt.join (Str.ofString "") ls = z at hz1
        have f13 : Fr H1 H3 [b] := f2.tr f3
        have hp3 : H3 p = some (.lst (l.map V.str)) := f13 _ _ hp (by simpa using pb)
        have B3' : BagD H3 b (n + 4 * (i + 1)) := B3.more (by omega)
        have f03 : Fr (upd H p (.lst [])) H3 [b, p] := fun x o h hS => f13 _ _ (f1 _ _ h hS) (by simp only [List.mem_cons, List.not_mem_nil, or_false, not_or] at hS ⊢; exact hS.1)
        have pw : 13 * 2 ^ i + 13 * 2 ^ i = 13 * 2 ^ (i + 1) := by rw [Nat.pow_succ]; omega
        have p1 : 1 ≤ 2 ^ i := Nat.one_le_two_pow
        have p6 : 2 ^ i ≤ 2 ^ 6 := Nat.pow_le_pow_right (by decide) (by omega)
        have fin : ∀ (z : Str) (H4 : Hp) (v4 v5 : Option V), Same H3 H4 → z ∉ l → NameOk (13 * 2 ^ (i + 1)) z → ∃ (v3 v4' v5' : Option V) (l' : List Str), [some (V.ref b), some (.int (many : Int)), some (.ref p), some (.int (i : Int)), v4, v5, none, none] = [some (.ref b), some (.int (many : Int)), some (.ref p), v3, v4', v5', none, none] ∧ upd H4 p (.lst (l.map V.str ++ [.str z])) p = some (.lst (l'.map V.str)) ∧ BagD (upd H4 p (.lst (l.map V.str ++ [.str z]))) b (n + 4 * (i + 1)) ∧ l'.length = i + 1 ∧ l'.Nodup ∧ (∀ z ∈ l', NameOk (13 * 2 ^ (i + 1)) z) ∧ Fr (upd H p (.lst [])) (upd H4 p (.lst (l.map V.str ++ [.str z]))) [b, p] := fun z H4 v4 v5 s4 hz hok =>
          ⟨_, _, _, l ++ [z], rfl, by rw [upd_same]; simp, (B3'.same s4).fr (S := [p]) (fun x o h hS => by rw [upd_ne (by simpa using hS)]; exact h) (by simpa using Ne.symm pb), by rw [List.length_append, hl]; rfl, by
            rw [List.nodup_append]; exact ⟨nd, by simp, fun x hx y hy => by rw [List.mem_singleton.mp hy]; rintro rfl; exact hz hx⟩, fun y hy => by
            rcases List.mem_append.mp hy with hy | hy
            · have := ok y hy; exact ⟨this.1, by have := this.2; omega⟩
            · rw [List.mem_singleton.mp hy]; exact hok, fun x o h hS => by
            simp only [List.mem_cons, List.not_mem_nil, or_false, not_or] at hS
            rw [upd_ne hS.2]; exact s4 _ _ (f03 _ _ h (by simp [hS.1, hS.2]))⟩
        walk_at "rd"
        refine ifB (fun hc => ?_) (fun hc => ?_)
        · have hmem : z ∈ l := by simpa using hc
          walk_at "rd"
          refine s_lcM l (fun y => some (.int (y.length : Int))) hp3 (List.length_map _) (by omega) (fun m y x H4 R R0 hy hx s4 kk _ => ?_) (fun D2 H4 s4 nD2 hD2 => ?_)
          · rw [List.getElem?_map, hy] at hx
            cases hx
            walk_at "rd"
            refine ⟨rfl, ?_⟩
            walk_at "rd"
            refine ifT rfl ?_
            walk_at "rd"
            exact s_lenS (sz_le (by have := (ok y (List.mem_of_getElem? hy)).2; omega)) (kk _ rfl _ (.refl _))
          · walk_at "rd"
            have eD : H4 D2 = some (.lst ((l.map fun y => (y.length : Int)).map V.int)) := by rw [hD2, fm_some, List.map_map]; rfl
            refine s_max eD (by rw [List.length_map]; exact List.length_pos_of_mem hmem) fun m hm hle => ?_
            obtain ⟨y, hy, rfl⟩ := List.mem_map.mp hm
            walk_at "rd"
            have hy2 := (ok y hy).2
            refine ⟨Str.ofString "q", 1 + (y.length : Int), rfl, rfl, mulOk_small (by omega) (by omega) (by decide), ?_⟩
            show rAddU _ _ _ _
            obtain ⟨m1, m2⟩ := mul_e (z := Str.ofString "q") (n := 1 + (y.length : Int)) (by decide +kernel) (by decide) (by omega)
            generalize Txt.mul (Str.ofString "q") (1 + (y.length : Int)) = mz at m1 m2
            have lz := hz1.2
            refine s_addS (sz_le (by omega)) ?_
            walk_at "rd"
            refine s_app (s4 _ _ hp3) (sz_lt (by rw [List.length_map]; omega)) ?_
            refine fin (z ++ mz) H4 _ _ s4 (fun hin => ?_) ⟨ok_app hz1.1 m2, by rw [len_app]; omega⟩
            have := hle _ (List.mem_map.mpr ⟨_, hin, rfl⟩)
            rw [len_app] at this
            omega
        · have hmem : z ∉ l := by simpa using hc
          walk_at "rd"
          refine s_app hp3 (sz_lt (by rw [List.length_map]; omega)) ?_
          exact fin z H3 _ _ (.refl _) hmem ⟨hz1.1, by have := hz1.2; omega⟩
    · rintro σ H1 ⟨v3, v4, v5, l, rfl, hp, B1, hl, nd, ok, f1⟩
      walk_at "rd"
      have e : (many : Int).toNat = many := by omega
      rw [e] at B1 hl ok
      have p6 : 2 ^ many ≤ 2 ^ 6 := Nat.pow_le_pow_right (by decide) hmany
      exact k p l H1 (B1.more (by omega)) np hp hl nd (fun z hz => ⟨(ok z hz).1, by have := (ok z hz).2; omega⟩) fun x o h hS => f1 _ _ (by rw [upd_ne (ne_of_none h np)]; exact h) (by
        simp only [List.mem_cons, List.not_mem_nil, or_false, not_or] at hS ⊢
        exact ⟨hS, ne_of_none h np⟩)
theorem b__law_names (T : Tq P K mg a fd tk) : Binds K (fd 34) ["_law_bag_here", "_law_many"] [] := T.F__law_names.binds fun _ _ _ _ _ _ us hl => match us, hl with | [_, _], _ => rfl
def spIsInt : Sp := fun vs H Q _ => ∃ n : Int, vs = [.int n] ∧ Q (.bl true) H
theorem ok__law_is_int (T : Tq P K mg a fd tk) : FnOk P w K mg base CX0 1 (a 35) (fd 35) ["_law_thing"] spIsInt := by
  refine T.F__law_is_int.ok sc__law_is_int (fun vs H Q E h => ?_) (fun cdv A outer s H vs Q E hr h => ?_)
  · obtain ⟨n, rfl, _⟩ := h
    rfl
  · obtain ⟨n, rfl, k⟩ := h
    refine ⟨_, (pss_one (ps_ret (pe_and (pe_callB call_isi (by rfl) T.b_isinstance bt_isinstance (pa_cons (pv 0) (pa_cons (pe_bltn (v := .ty "int") (by rfl) T.l.b_int bt_int rfl) pa_nil))) (pe_one (pe_not (pe_callB call_isi (by rfl) T.b_isinstance bt_isinstance (pa_cons (pv 0) (pa_cons (pe_bltn (v := .ty "bool") (by rfl) T.b_bool bt_bool rfl) pa_nil)))))))), ?_⟩
    walk_at "rd"
    refine ⟨_, _, _, _, true, rfl, .ty _, .base (.int n), kit_ty (by decide +kernel), ?_⟩
    walk_at "rd"
    refine ifT rfl ?_
    walk_at "rd"
    refine ⟨_, _, _, _, false, rfl, .ty _, .base (.int n), kit_ty (by decide +kernel), ?_⟩
    walk_at "rd"
    exact k
theorem b__law_is_int (T : Tq P K mg a fd tk) : Binds K (fd 35) ["_law_thing"] [] := T.F__law_is_int.binds fun _ _ _ _ _ _ us hl => match us, hl with | [_], _ => rfl
end
end Tr
set_option maxHeartbeats 4000000

namespace Tr
open PySem L2
section
variable {P : Program} {w : World} {K : PySem.W.Frag} {mg : Str → Option Value} {base : Heap} {a : Nat → Addr} {fd : Nat → FuncData} {tk : Nat → Tok}
local macro_rules | `(tactic| walk_at "ne") => `(tactic| first | assumption | (exact Ne.symm (by assumption)) | (refine ne_of_none (by assumption) (by assumption)) | (refine Ne.symm (ne_of_none (by assumption) (by assumption))))
local macro_rules | `(tactic| walk_at "hl") => `(tactic| first | assumption | with_reducible exact upd_same | ((with_reducible refine' Eq.trans (upd_ne ?hne) ?hrest); (case hne => walk_at "ne"); (case hrest => walk_at "hl")) | (refine' get_same ?hs ?hg; (case hs => assumption); (case hg => assumption)))
local macro_rules | `(tactic| walk_at "at") => `(tactic| first | with_reducible exact atI_0 _ _ | with_reducible exact atI_1 _ _ _ | with_reducible exact atI_2 _ _ _ _ | with_reducible exact atI_3 _ _ _ _ _ | assumption)
local macro_rules | `(tactic| walk_at "rd1") => `(tactic| first
  | with_reducible refine s_seq ?_ | with_reducible refine s_next ?_ | with_reducible refine s_if ?_ | with_reducible refine s_ret ?_ | with_reducible refine s_retN ?_ | with_reducible refine s_drop ?_ | with_reducible refine s_asg ?_ | with_reducible refine s_brk ?_ | with_reducible refine s_cont ?_
  | with_reducible refine s_gname ?_ | with_reducible refine s_c ?_ | with_reducible refine s_op ?_ | with_reducible refine s_un ?_ | with_reducible refine s_neg ?_ | with_reducible refine s_test ?_ | with_reducible refine s_tb ?_ | with_reducible refine s_not ?_ | with_reducible refine s_and ?_ | with_reducible refine s_or ?_ | with_reducible refine s_yes ?_
  | ((with_reducible refine' s_var ?hv ?_); (case hv => exact rfl))
  | with_reducible refine s_ifx ?_ | with_reducible refine s_andV ?_ | with_reducible refine s_orV ?_ | with_reducible refine s_notV ?_ | with_reducible refine s_chain ?_ | with_reducible refine s_nil ?_ | with_reducible refine s_cons ?_ | with_reducible refine s_lst ?_ | with_reducible refine s_tup ?_ | with_reducible refine s_cb ?_ | with_reducible refine s_call ?_ | with_reducible refine s_meth ?_ | with_reducible refine s_make ?_
  | with_reducible refine s_dnewK ?_ | with_reducible refine s_sl ?_ | with_reducible refine s_po0 ?_ | with_reducible refine s_po1 ?_ | with_reducible refine s_bm ?_ | with_reducible refine s_bm0 ?_
  | with_reducible refine s_bl ?_ | with_reducible refine s_int ?_ | with_reducible refine s_I0 ?_ | with_reducible refine s_addI ?_ | with_reducible refine s_intI ?_ | with_reducible refine s_intB ?_
  | with_reducible refine s_m1 ?_ | with_reducible refine s_lc ?_ | with_reducible refine s_ilist ?_ | with_reducible refine s_for ?_ | with_reducible refine s_irng ?_ | with_reducible refine s_match ?_ | with_reducible refine s_starT ?_ | with_reducible refine s_isS ?_ | with_reducible refine s_isiSS ?_ | with_reducible refine s_fldU ?_ | with_reducible refine s_sfldU ?_
  | ((with_reducible refine' s_eqS ?hq ?_); (case hq => exact rfl)) | ((with_reducible refine' s_neS ?hq ?_); (case hq => exact rfl))
  | ((with_reducible refine' s_isN ?hq ?_); (case hq => exact rfl)) | ((with_reducible refine' s_notN ?hq ?_); (case hq => exact rfl))
  | ((with_reducible refine' s_eqNil ?h1 ?h2 ?_); (case h1 => walk_at "hl"); (case h2 => walk_at "hl")) | ((with_reducible refine' s_neNil ?h1 ?h2 ?_); (case h1 => walk_at "hl"); (case h2 => walk_at "hl"))
  | ((with_reducible refine' s_ixL ?h1 ?h2 ?_); (case h1 => walk_at "hl"); (case h2 => walk_at "at")) | ((with_reducible refine' s_ixT ?h1 ?h2 ?_); (case h1 => walk_at "hl"); (case h2 => walk_at "at"))
  | ((with_reducible refine' s_inS ?h1 ?_); (case h1 => walk_at "hl")) | ((with_reducible refine' s_ninS ?h1 ?_); (case h1 => walk_at "hl")) | with_reducible refine s_inW ?_
  | ((with_reducible refine' s_lenL ?h1 ?_); (case h1 => walk_at "hl")) | ((with_reducible refine' s_lenT ?h1 ?_); (case h1 => walk_at "hl"))
  | ((with_reducible refine' s_tyL ?h1 ?_); (case h1 => walk_at "hl"))
  | ((with_reducible refine' s_fldM ?h1 ?h2 ?h3 ?_); (case h1 => walk_at "hl"); (case h2 => walk_at "fok"); (case h3 => walk_at "flk"))
  | ((with_reducible refine' s_setM ?h1 ?h2 ?h3 ?h4 ?_); (case h1 => walk_at "hl"); (case h2 => walk_at "fok"); (case h4 => walk_at "put"); (case h3 => exact Nat.le_of_ble_eq_true rfl))
  | ((with_reducible refine' s_starM ?h1 ?_); (case h1 => walk_at "hl"))
  | ((with_reducible refine' s_recv ?h1 ?h2 ?_); (case h1 => walk_at "hl"); (case h2 => exact rfl))
  | ((with_reducible refine' s_sz ?h1 ?_); (case h1 => (simp; done))))
local macro_rules | `(tactic| walk_at "rd") => `(tactic| repeat (walk_at "rd1"))
local macro_rules | `(tactic| walk_at "fok") => `(tactic| assumption)
local macro_rules | `(tactic| walk_at "flk") => `(tactic| rfl)
local macro_rules | `(tactic| walk_at "put") => `(tactic| exact rfl)

local macro_rules | `(tactic| walk_at "fok") => `(tactic| first | assumption | exact Td.ce (by assumption) (by decide) | exact Td.de (by assumption) (by decide))
theorem passZ0 {X : Cx} {σ : L2.St} {E : XK} : PassesAt CX0 X σ E := fun _ _ _ _ _ _ h => h.elim
theorem passZX {X : Cx} {σ : L2.St} : PassesAt (L2.CX X.prog X.w) X σ E0 := fun _ _ _ _ _ _ c => by
  obtain ⟨_, _, _, _, _, _, _, _, _, _, _, _, h⟩ := c
  exact h.elim
theorem s_callO {C : Addr} {sp : Sp} {E : L2.St → XK} {te : TE} {t : TA} {σ : L2.St} {H : Hp} {Q : VK} (h : te σ H fun x H1 => ∃ (a dx : Addr) (fs : List (Str × V)), x = .ref a ∧ H1 a = some (.ins C dx fs) ∧ t σ H1 fun vs H2 => H2 a = some (.ins C dx fs) ∧ sp (.ref a :: vs) H2 Q (E σ)) : tCallO C sp E te t σ H Q := h
theorem s_prop {C : Addr} {sp : Sp} {dvs : List V} {E : XK} {ta : TE} {σ : L2.St} {H : Hp} {Q : VK} (h : ta σ H fun x H1 => ∃ a dx fs, x = .ref a ∧ H1 a = some (.ins C dx fs) ∧ sp (.ref a :: dvs) H1 Q E) : tProp C sp dvs E ta σ H Q := h
theorem s_getX {C : Addr} {sp : Sp} {E : L2.St → XK} {ta tb : TE} {σ : L2.St} {H : Hp} {Q : VK} (h : ta σ H fun x H1 => tb σ H1 fun y H2 => ∃ (a dx : Addr) (fs : List (Str × V)), x = .ref a ∧ H2 a = some (.ins C dx fs) ∧ sp [.ref a, y] H2 Q (E σ)) : tGetX C sp E ta tb σ H Q := h
theorem s_setX {C : Addr} {sp : Sp} {E : L2.St → XK} {to ti : TE} {v : V} {σ : L2.St} {H : Hp} {Q : L2.St → Hp → Prop} (h : to σ H fun o H1 => ti σ H1 fun i H2 => ∃ (a dx : Addr) (fs : List (Str × V)), o = .ref a ∧ H2 a = some (.ins C dx fs) ∧ sp [.ref a, i, v] H2 (fun _ H' => Q σ H') (E σ)) : gSetX C sp E to ti v σ H Q := h
theorem s_dget {σ : L2.St} {H : Hp} {Q : VK} {td ty : TE} (h : td σ H fun x H1 => ty σ H1 fun y H2 => ∃ a v, x = .ref a ∧ DGet H2 a y (some v) ∧ Q v H2) : tDGet td ty σ H Q := h
theorem s_izip {K : PySem.W.Frag} {ta : TA} {R : It → Hp → Prop} {σ : L2.St} {H : Hp} (h : ta σ H fun vs H1 => ∃ a b xs ys, vs = [.ref a, .ref b] ∧ SqL K H1 a xs ∧ SqL K H1 b ys ∧ R (Itz K a b) H1) : iZip K ta σ H R := h
/-- a desk with cells, and the law's own lists and dict of them -/
def duesK (cl : List (Str × Addr)) (val : Str → Int) : List (Key × V) := cl.map fun c => (.inr c.1, .int (val c.1))
structure Wd (a : Nat → Addr) (H : Hp) (d : Addr) (D : DA) (cl : List (Str × Addr)) (val : Str → Int) (pc pn pd : Addr) : Prop where
  dk : DeskAt a H d D (cl.map (·.1)) cl
  mv : H D.mv = some (.lst [])
  ce : ∀ c ∈ cl, CellAt a H d c.2 c.1 (val c.1)
  nd : (cl.map (·.1)).Nodup
  n6 : cl.length ≤ 6
  ok : ∀ c ∈ cl, NameOk 1000 c.1
  pc : H pc = some (.lst (cl.map fun c => .ref c.2))
  pn : H pn = some (.lst (cl.map fun c => .str c.1))
  pd : H pd = some (.dK (duesK cl val))
theorem CellAt.same {H H' : Hp} {d c : Addr} {nm : Str} {v : Int} (h : CellAt a H d c nm v) (s : Same H H') : CellAt a H' d c nm v := by
  obtain ⟨dc, e⟩ := h
  exact ⟨dc, s _ _ e⟩
theorem Wd.same {H H' : Hp} {d : Addr} {D : DA} {cl : List (Str × Addr)} {val : Str → Int} {pc pn pd : Addr} (h : Wd a H d D cl val pc pn pd) (s : Same H H') : Wd a H' d D cl val pc pn pd :=
  ⟨h.dk.same s, s _ _ h.mv, fun c hc => (h.ce c hc).same s, h.nd, h.n6, h.ok, s _ _ h.pc, s _ _ h.pn, s _ _ h.pd⟩
theorem dues_get {val : Str → Int} {nm : Str} : ∀ {cl : List (Str × Addr)}, nm ∈ cl.map (·.1) → valV (duesK cl val) (.inr nm) = some (.int (val nm))
  | c :: cl, h => by
    by_cases e : c.1 = nm
    · unfold duesK
      rw [List.map_cons, valV_pos (by rw [e]), e]
    · have h2 : nm ∈ cl.map (·.1) := by
        rw [List.map_cons] at h
        rcases List.mem_cons.mp h with h | h
        · exact absurd h.symm e
        · exact h
      have := dues_get (val := val) h2
      unfold duesK at this ⊢
      rw [List.map_cons, valV_neg (fun z => e (by injection z))]
      exact this
def spShows (a : Nat → Addr) : Sp := fun vs H Q _ => ∃ (d : Addr) (D : DA) (cl : List (Str × Addr)) (val : Str → Int) (pc pn pd : Addr), vs = [.ref d, .ref pc, .ref pn, .ref pd] ∧ Wd a H d D cl val pc pn pd ∧ ∀ H', Same H H' → Q (.bl true) H'
theorem ok__law_shows (T : Tq P K mg a fd tk) : FnOk P w K mg base CX0 5 (a 36) (fd 36) ["_law_desk", "_law_cells", "_law_names_here", "_law_dues"] (spShows a) := by
  refine T.F__law_shows.ok sc__law_shows (fun vs H Q E h => ?_) (fun cdv A outer s H vs Q E hr h => ?_)
  · obtain ⟨d, D, cl, val, pc, pn, pd, rfl, _⟩ := h
    rfl
  · obtain ⟨d, D, cl, val, pc, pn, pd, rfl, W, k⟩ := h
    refine ⟨_, (pss_cons (ps_for PassesOwn.never rfl (pi_zip (by rfl) T.b_zip (pa_cons (pv 1) (pa_cons (pv 2) pa_nil))) (pg_tupU (n := 2) rfl (pgs_cons (pg_name (i := 4) sc__law_shows.nd rfl (by first | exact Or.inl rfl | exact Or.inr rfl)) (pgs_cons (pg_name (i := 5) sc__law_shows.nd rfl (by first | exact Or.inl rfl | exact Or.inr rfl)) pgs_nil)))
   (pss_cons (ps_asg (pe_dget (hu_of hr) (pv 3) (pv 5) (fun _ _ => rfl)) (pg_name (i := 6) sc__law_shows.nd rfl (by first | exact Or.inl rfl | exact Or.inr rfl)))
  (pss_cons (ps_for PassesOwn.never rfl (pi_list (pe_lst (pa_cons (pe_callO0 (E := fun _ => E0) callee_name (pv 4) T.l.d.o_Cell___call__.at_ T.l.d.o_Cell___call__.fn T.l.d.o_Cell___call__.fi (ok_Cell___call__ T.l.d) (hr.mono (by decide)) (b_Cell___call__ T.l.d) (fun _ => passZ0)) (pa_cons (pe_prop (pv 4) T.l.d.cl_Cell T.l.d.p_Cell_value (ok_Cell_value T.l.d) (hr.mono (by decide)) (b_Cell_value T.l.d) .nil pass0 (by rfl)) (pa_cons (pe_getX (E := fun _ => E0) (pv 0) (pv 5) T.l.d.o_Desk___getitem__.at_ T.l.d.o_Desk___getitem__.fi T.l.d.o_Desk___getitem__.fn (ok_Desk___getitem__ T.l.d) (hr.in1.mono (by decide)) (b_Desk___getitem__ T.l.d) (fun _ => passZX)) pa_nil))))) (pg_name (i := 7) sc__law_shows.nd rfl (by first | exact Or.inl rfl | exact Or.inr rfl))
   (pss_one (ps_if (PW.pt (pw_or (pt_not (pt_val (pe_call (ok__law_is_int T) (hr.mono (by decide)) (by rfl) T.g__law_is_int T.F__law_is_int.kp (b__law_is_int T) .nil pass0 (pa_cons (pv 7) pa_nil)))) (pw_or1 (pt_cmpR (uNe K hr.units) (pv 7) (pv 6) (nomark _))))) (pss_one (ps_ret pe_bl)) pss_nil)))
  (pss_one (ps_if (PW.pt (pw_or (pt_not (pt_val (pe_callB call_isi (by rfl) T.b_isinstance bt_isinstance (pa_cons (pv 4) (pa_cons (pe_gR (by rfl) T.l.d.g_Cell) pa_nil))))) (pw_or (pt_cmpR (uNe K hr.units) (pe_fldU K (pv 4)) (pv 5) (nomark _)) (pw_or1 (pt_cmpR (op_ninO (E := E0) T.l.d.o_Desk___contains__.at_ T.l.d.o_Desk___contains__.fn (ok_Desk___contains__ T.l.d) (hr.mono (by decide)) (b_Desk___contains__ T.l.d) pass0) (pv 5) (pv 0) (by rfl)))))) (pss_one (ps_ret pe_bl)) pss_nil)))))
  (pss_one (ps_ret pe_bl))), ?_⟩
    walk_at "rd"
    refine s_izip ?_
    walk_at "rd"
    refine ⟨pc, pn, _, _, rfl, SqL.of W.pc, SqL.of W.pn, ?_⟩
    refine RZ.for_zipL (xs := cl.map fun c => V.ref c.2) (ys := cl.map fun c => V.str c.1) (by rw [List.length_map, List.length_map]) (fun i σ H' => ∃ (v4 v5 v6 v7 : Option V), σ = [some (.ref d), some (.ref pc), some (.ref pn), some (.ref pd), v4, v5, v6, v7] ∧ Same H H') ⟨none, none, none, none, rfl, .refl _⟩ ?_ ?_ ?_
    · rintro i σ H' ⟨_, _, _, _, _, s1⟩
      exact ⟨SqL.of (s1 _ _ W.pc), SqL.of (s1 _ _ W.pn)⟩
    · rintro i x y t σ H1 hx hy ⟨v4, v5, v6, v7, rfl, s1⟩ nt
      rw [List.getElem?_map] at hx hy
      cases ec : cl[i]? with
      | none => rw [ec] at hx; cases hx
      | some c =>
      rw [ec] at hx hy
      cases hx
      cases hy
      have hcm := List.mem_of_getElem? ec
      have s2 : Same H (upd H1 t (.tup [.ref c.2, .str c.1])) := s1.trans (Same.new nt)
      have ht : upd H1 t (.tup [.ref c.2, .str c.1]) t = some (.tup [.ref c.2, .str c.1]) := upd_same
      generalize upd H1 t (.tup [.ref c.2, .str c.1]) = H2 at s2 ht ⊢
      refine s_gtup2 ht rfl ?_
      walk_at "rd"
      refine s_dget ?_
      walk_at "rd"
      refine ⟨pd, _, rfl, (show DGet H2 pd (kV (.inr c.1)) (some (.int (val c.1))) from by have := DGet.k (k := .inr c.1) (s2 _ _ W.pd); rwa [dues_get (List.mem_map.mpr ⟨c, hcm, rfl⟩)] at this), ?_⟩
      walk_at "rd"
      have Wc := W.same s2
      have hob := Wc.dk.ob
      obtain ⟨dc, hc⟩ := Wc.ce c hcm
      refine s_callO ?_
      walk_at "rd"
      refine ⟨c.2, dc, _, rfl, hc, ?_⟩
      walk_at "rd"
      refine ⟨hc, d, D, _, cl, c.2, c.1, _, rfl, Wc.dk, ⟨dc, hc⟩, ?_⟩
      walk_at "rd"
      refine s_prop ?_
      walk_at "rd"
      refine ⟨c.2, dc, _, rfl, hc, d, c.2, c.1, _, rfl, ⟨dc, hc⟩, ?_⟩
      walk_at "rd"
      refine s_getX ?_
      walk_at "rd"
      refine ⟨d, _, _, rfl, hob, d, D, _, cl, _, rfl, Wc.dk, fun c hc => ⟨_, Wc.ce c hc⟩, by have := W.n6; omega, W.nd, .inl ⟨c, _, hcm, rfl, ⟨dc, hc⟩, fun H3 s3 => ?_⟩⟩
      walk_at "rd"
      intro q nq
      have s4 : Same H (upd H3 q (.lst [.int (val c.1), .int (val c.1), .int (val c.1)])) := (s2.trans s3).trans (Same.new nq)
      have hq : upd H3 q (.lst [.int (val c.1), .int (val c.1), .int (val c.1)]) q = some (.lst ([.int (val c.1), .int (val c.1), .int (val c.1)] : List V)) := upd_same
      generalize upd H3 q (.lst [.int (val c.1), .int (val c.1), .int (val c.1)]) = H4 at s4 hq ⊢
      walk_at "rd"
      refine s_forL hq (fun j σ H' => ∃ (v7 : Option V), σ = [some (.ref d), some (.ref pc), some (.ref pn), some (.ref pd), some (.ref c.2), some (.str c.1), some (.int (val c.1)), v7] ∧ Same H4 H') ⟨_, rfl, .refl _⟩ ?_ ?_ ?_
      · rintro j σ H' _ ⟨_, _, s'⟩
        exact s' _ _ hq
      · rintro j y σ H5 hy ⟨v7, rfl, s5⟩
        have ey : y = .int (val c.1) := by
          match j, hy with
          | 0, hy => cases hy; rfl
          | 1, hy => cases hy; rfl
          | 2, hy => cases hy; rfl
          | j + 3, hy => simp at hy
        subst ey
        walk_at "rd"
        refine ⟨_, rfl, ?_⟩
        walk_at "rd"
        refine ifF rfl ?_
        walk_at "rd"
        refine ifF (by simp) ?_
        walk_at "rd"
        exact ⟨_, rfl, s5⟩
      · rintro σ H5 ⟨v7, rfl, s5⟩
        have s6 := s4.trans s5
        have W6 := W.same s6
        have hob6 := W6.dk.ob
        obtain ⟨dc6, hc6⟩ := W6.ce c hcm
        walk_at "rd"
        refine ⟨_, _, _, _, true, rfl, .own _, .base (.ins hc6 T.l.d.cl_Cell T.i1_Cell T.i2_Cell T.i3_Cell T.i4_Cell), T.ki_Cell, ?_⟩
        walk_at "rd"
        refine ifF rfl ?_
        have TD := T.l.d
        walk_at "rd"
        refine ifF (by simp) ?_
        walk_at "rd"
        refine ⟨d, D.dd, _, rfl, hob6, d, D, _, cl, .str c.1, true, rfl, W6.dk, fun {Q'} hq' => .inl (s_inS W6.dk.un (by rw [show (cl.map (·.1)).contains c.1 = true from by simpa using ⟨c.2, hcm⟩]; exact hq')), true, rfl, ?_⟩
        walk_at "rd"
        refine ifF rfl ?_
        walk_at "rd"
        exact ⟨_, _, _, _, rfl, s6⟩
    · rintro σ H1 ⟨v4, v5, v6, v7, rfl, s1⟩
      walk_at "rd"
      exact k _ s1
theorem b__law_shows (T : Tq P K mg a fd tk) : Binds K (fd 36) ["_law_desk", "_law_cells", "_law_names_here", "_law_dues"] [] := T.F__law_shows.binds fun _ _ _ _ _ _ us hl => match us, hl with | [_, _, _, _], _ => rfl
end
end Tr
set_option maxHeartbeats 4000000

namespace Tr
open PySem L2
section
variable {P : Program} {w : World} {K : PySem.W.Frag} {mg : Str → Option Value} {base : Heap} {a : Nat → Addr} {fd : Nat → FuncData} {tk : Nat → Tok}
local macro_rules | `(tactic| walk_at "ne") => `(tactic| first | assumption | (exact Ne.symm (by assumption)) | (refine ne_of_none (by assumption) (by assumption)) | (refine Ne.symm (ne_of_none (by assumption) (by assumption))))
local macro_rules | `(tactic| walk_at "hl") => `(tactic| first | assumption | with_reducible exact upd_same | ((with_reducible refine' Eq.trans (upd_ne ?hne) ?hrest); (case hne => walk_at "ne"); (case hrest => walk_at "hl")) | (refine' get_same ?hs ?hg; (case hs => assumption); (case hg => assumption)))
local macro_rules | `(tactic| walk_at "at") => `(tactic| first | with_reducible exact atI_0 _ _ | with_reducible exact atI_1 _ _ _ | with_reducible exact atI_2 _ _ _ _ | with_reducible exact atI_3 _ _ _ _ _ | assumption)
local macro_rules | `(tactic| walk_at "rd1") => `(tactic| first
  | with_reducible refine s_seq ?_ | with_reducible refine s_next ?_ | with_reducible refine s_if ?_ | with_reducible refine s_ret ?_ | with_reducible refine s_retN ?_ | with_reducible refine s_drop ?_ | with_reducible refine s_asg ?_ | with_reducible refine s_brk ?_ | with_reducible refine s_cont ?_
  | with_reducible refine s_gname ?_ | with_reducible refine s_c ?_ | with_reducible refine s_op ?_ | with_reducible refine s_un ?_ | with_reducible refine s_neg ?_ | with_reducible refine s_test ?_ | with_reducible refine s_tb ?_ | with_reducible refine s_not ?_ | with_reducible refine s_and ?_ | with_reducible refine s_or ?_ | with_reducible refine s_yes ?_
  | ((with_reducible refine' s_var ?hv ?_); (case hv => exact rfl))
  | with_reducible refine s_ifx ?_ | with_reducible refine s_andV ?_ | with_reducible refine s_orV ?_ | with_reducible refine s_notV ?_ | with_reducible refine s_chain ?_ | with_reducible refine s_nil ?_ | with_reducible refine s_cons ?_ | with_reducible refine s_lst ?_ | with_reducible refine s_tup ?_ | with_reducible refine s_cb ?_ | with_reducible refine s_call ?_ | with_reducible refine s_meth ?_ | with_reducible refine s_make ?_
  | with_reducible refine s_dnewK ?_ | with_reducible refine s_sl ?_ | with_reducible refine s_po0 ?_ | with_reducible refine s_po1 ?_ | with_reducible refine s_bm ?_ | with_reducible refine s_bm0 ?_
  | with_reducible refine s_bl ?_ | with_reducible refine s_int ?_ | with_reducible refine s_I0 ?_ | with_reducible refine s_addI ?_ | with_reducible refine s_intI ?_ | with_reducible refine s_intB ?_
  | with_reducible refine s_m1 ?_ | with_reducible refine s_lc ?_ | with_reducible refine s_ilist ?_ | with_reducible refine s_for ?_ | with_reducible refine s_irng ?_ | with_reducible refine s_match ?_ | with_reducible refine s_starT ?_ | with_reducible refine s_isS ?_ | with_reducible refine s_isiSS ?_ | with_reducible refine s_fldU ?_ | with_reducible refine s_sfldU ?_
  | ((with_reducible refine' s_eqS ?hq ?_); (case hq => exact rfl)) | ((with_reducible refine' s_neS ?hq ?_); (case hq => exact rfl))
  | ((with_reducible refine' s_isN ?hq ?_); (case hq => exact rfl)) | ((with_reducible refine' s_notN ?hq ?_); (case hq => exact rfl))
  | ((with_reducible refine' s_eqNil ?h1 ?h2 ?_); (case h1 => walk_at "hl"); (case h2 => walk_at "hl")) | ((with_reducible refine' s_neNil ?h1 ?h2 ?_); (case h1 => walk_at "hl"); (case h2 => walk_at "hl"))
  | ((with_reducible refine' s_ixL ?h1 ?h2 ?_); (case h1 => walk_at "hl"); (case h2 => walk_at "at")) | ((with_reducible refine' s_ixT ?h1 ?h2 ?_); (case h1 => walk_at "hl"); (case h2 => walk_at "at"))
  | ((with_reducible refine' s_inS ?h1 ?_); (case h1 => walk_at "hl")) | ((with_reducible refine' s_ninS ?h1 ?_); (case h1 => walk_at "hl")) | with_reducible refine s_inW ?_
  | ((with_reducible refine' s_lenL ?h1 ?_); (case h1 => walk_at "hl")) | ((with_reducible refine' s_lenT ?h1 ?_); (case h1 => walk_at "hl"))
  | ((with_reducible refine' s_tyL ?h1 ?_); (case h1 => walk_at "hl"))
  | ((with_reducible refine' s_fldM ?h1 ?h2 ?h3 ?_); (case h1 => walk_at "hl"); (case h2 => walk_at "fok"); (case h3 => walk_at "flk"))
  | ((with_reducible refine' s_setM ?h1 ?h2 ?h3 ?h4 ?_); (case h1 => walk_at "hl"); (case h2 => walk_at "fok"); (case h4 => walk_at "put"); (case h3 => exact Nat.le_of_ble_eq_true rfl))
  | ((with_reducible refine' s_starM ?h1 ?_); (case h1 => walk_at "hl"))
  | ((with_reducible refine' s_recv ?h1 ?h2 ?_); (case h1 => walk_at "hl"); (case h2 => exact rfl))
  | ((with_reducible refine' s_sz ?h1 ?_); (case h1 => (simp; done))))
local macro_rules | `(tactic| walk_at "rd") => `(tactic| repeat (walk_at "rd1"))
local macro_rules | `(tactic| walk_at "fok") => `(tactic| assumption)
local macro_rules | `(tactic| walk_at "flk") => `(tactic| rfl)
local macro_rules | `(tactic| walk_at "put") => `(tactic| exact rfl)

local macro_rules | `(tactic| walk_at "fok") => `(tactic| first | assumption | exact Td.ce (by assumption) (by decide) | exact Td.de (by assumption) (by decide))
theorem bt_ValueError : bootBuiltins ("ValueError" : Str) = some (.type "ValueError") := by decide +kernel
theorem s_xf {oa C : Addr} {cls : Value} {d : Option Addr} {f : Str} {te : TE} {σ : L2.St} {H : Hp} {Q : VK} (h : te σ H fun x H1 => x = .ref oa ∧ cls = .ref C ∧ ∃ (dd : Addr) (fs : List (Str × V)) (v : V), d = some dd ∧ H1 dd = some (.xd fs) ∧ fs.lookup f = some v ∧ Q v H1) : tXf oa cls d C f te σ H Q := h
def spNoName (a : Nat → Addr) (K : PySem.W.Frag) : Sp := fun vs H Q _ => ∃ (d : Addr) (D : DA) (names : List Str) (cl : List (Str × Addr)) (x : V) (pu : Bool), vs = [.ref d, x, .bl pu] ∧ DeskAt a H d D names cl ∧ Cells a H d cl ∧ cl.length ≤ 50 ∧ (cl.map (·.1)).Nodup ∧ (∃ ms, H D.mv = some (.lst ms) ∧ ms.length ≤ 50) ∧
  (∀ c ∈ cl, x ≠ .str c.1 ∧ ∀ {H' : Hp} {Q' : VK}, Same H H' → Q' (.bl false) H' → rEqU K (.str c.1) x H' Q') ∧ (∀ {H' : Hp} {Q' : VK}, Same H H' → Q' (.bl true) H' → rEqU K x x H' Q') ∧ ∀ H', Same H H' → Q (.bl true) H'
theorem ok__law_no_name (T : Tq P K mg a fd tk) : FnOk P w K mg base CX0 6 (a 37) (fd 37) ["_law_desk", "_law_odd", "_law_putting"] (spNoName a K) := by
  refine T.F__law_no_name.ok sc__law_no_name (fun vs H Q E h => ?_) (fun cdv A outer s H vs Q E hr h => ?_)
  · obtain ⟨d, D, names, cl, x, pu, rfl, _⟩ := h
    rfl
  · obtain ⟨d, D, names, cl, x, pu, rfl, DK, CS, h50, nd, hm, hx, hxx, k⟩ := h
    refine ⟨_, (pss_cons (ps_try_keeps rfl rfl sc__law_no_name.nd rfl takes_none5
        (fun W pn xe tk _ => pss_one (ps_if (pt_val (pv 2))
          (pss_one (ps_asg pe_int (pg_setX (E := fun σ => WE W σ) (pv 0) (pv 1) T.l.d.ns_Desk T.l.d.o_Desk___setitem__.at_ T.l.d.o_Desk___setitem__.fn (ok_Desk___setitem__ T.l.d) (hr.mono (by decide)) (b_Desk___setitem__ T.l.d) (fun σ => passAt tk σ))))
          (pss_one (ps_asg (pe_getX (E := fun σ => WE W σ) (pv 0) (pv 1) T.l.d.o_Desk___getitem__.at_ T.l.d.o_Desk___getitem__.fi T.l.d.o_Desk___getitem__.fn (ok_Desk___getitem__ T.l.d) (hr.in1.mono (by decide)) (b_Desk___getitem__ T.l.d) (fun σ => passAt tk σ)) (pg_name (i := 4) sc__law_no_name.nd rfl (Or.inl rfl))))))
        (.cons (i := 3) rfl rfl ⟨rfl, by decide, .inl T.l.d.g_NoName⟩ (fun a oe cls d pn hz hf => pss_one (ps_ret (pe_and (pe_cmpR (uEq K hr.units) (pe_xf T.l.d.xf_NoName T.l.d.no_NoName hz hf (pv 3)) (pv 1) (nomark _)) (pe_and (pe_callB (call_isE2 K T.ec_NoName hz hf) (by rfl) T.b_isinstance bt_isinstance (pa_cons (pv 3) (pa_cons (pe_gR (by rfl) T.l.d.g_TrackedError) pa_nil))) (pe_one (pe_callB (call_isE2 K T.ec_NoName hz hf) (by rfl) T.b_isinstance bt_isinstance (pa_cons (pv 3) (pa_cons (pe_bltn (v := .ty "ValueError") (by rfl) T.b_ValueError bt_ValueError rfl) pa_nil))))))))
          .nil))
      (pss_one (ps_ret pe_bl))), ?_⟩
    walk_at "rd"
    cases pu with
    | true =>
      refine ifT rfl ?_
      walk_at "rd"
      refine s_setX ?_
      walk_at "rd"
      refine ⟨d, _, _, rfl, DK.ob, d, D, names, cl, x, 3, rfl, DK, CS, h50, nd, hm, .inr ⟨hx, fun e H' s' ne he => ?_⟩⟩
      refine ⟨true, T.te_NoName, fun _ o no => ?_, fun h => by cases h⟩
      walk_at "rd"
      refine s_xf ?_
      walk_at "rd"
      refine ⟨rfl, rfl, e, [("name", x)], x, rfl, he, rfl, ?_⟩
      walk_at "rd"
      refine hxx s' ?_
      walk_at "rd"
      refine ifT rfl ?_
      walk_at "rd"
      refine ⟨.ref (a 24), .ref (a 24), true, rfl, rfl, fun dd hdd => ⟨[("name", x)], by cases hdd; exact he⟩, fun u r => r, T.ki_NoName, ?_⟩
      walk_at "rd"
      refine ifT rfl ?_
      walk_at "rd"
      refine ⟨.ty "ValueError", .type "ValueError", true, rfl, rfl, fun dd hdd => ⟨[("name", x)], by cases hdd; exact he⟩, fun u r => r, T.kv_NoName, ?_⟩
      walk_at "rd"
      exact k _ s'
    | false =>
      refine ifF rfl ?_
      walk_at "rd"
      refine s_getX ?_
      walk_at "rd"
      refine ⟨d, _, _, rfl, DK.ob, d, D, names, cl, x, rfl, DK, CS, h50, nd, .inr ⟨hx, fun e H' s' ne he => ?_⟩⟩
      refine ⟨true, T.te_NoName, fun _ o no => ?_, fun h => by cases h⟩
      walk_at "rd"
      refine s_xf ?_
      walk_at "rd"
      refine ⟨rfl, rfl, e, [("name", x)], x, rfl, he, rfl, ?_⟩
      walk_at "rd"
      refine hxx s' ?_
      walk_at "rd"
      refine ifT rfl ?_
      walk_at "rd"
      refine ⟨.ref (a 24), .ref (a 24), true, rfl, rfl, fun dd hdd => ⟨[("name", x)], by cases hdd; exact he⟩, fun u r => r, T.ki_NoName, ?_⟩
      walk_at "rd"
      refine ifT rfl ?_
      walk_at "rd"
      refine ⟨.ty "ValueError", .type "ValueError", true, rfl, rfl, fun dd hdd => ⟨[("name", x)], by cases hdd; exact he⟩, fun u r => r, T.kv_NoName, ?_⟩
      walk_at "rd"
      exact k _ s'
theorem b__law_no_name (T : Tq P K mg a fd tk) : Binds K (fd 37) ["_law_desk", "_law_odd", "_law_putting"] [] := T.F__law_no_name.binds fun _ _ _ _ _ _ us hl => match us, hl with | [_, _, _], _ => rfl
end
end Tr
set_option maxHeartbeats 4000000

namespace Tr
open PySem L2
section
variable {P : Program} {w : World} {K : PySem.W.Frag} {mg : Str → Option Value} {base : Heap} {a : Nat → Addr} {fd : Nat → FuncData} {tk : Nat → Tok}
local macro_rules | `(tactic| walk_at "ne") => `(tactic| first | assumption | (exact Ne.symm (by assumption)) | (refine ne_of_none (by assumption) (by assumption)) | (refine Ne.symm (ne_of_none (by assumption) (by assumption))))
local macro_rules | `(tactic| walk_at "hl") => `(tactic| first | assumption | with_reducible exact upd_same | ((with_reducible refine' Eq.trans (upd_ne ?hne) ?hrest); (case hne => walk_at "ne"); (case hrest => walk_at "hl")) | (refine' get_same ?hs ?hg; (case hs => assumption); (case hg => assumption)))
local macro_rules | `(tactic| walk_at "at") => `(tactic| first | with_reducible exact atI_0 _ _ | with_reducible exact atI_1 _ _ _ | with_reducible exact atI_2 _ _ _ _ | with_reducible exact atI_3 _ _ _ _ _ | assumption)
local macro_rules | `(tactic| walk_at "rd1") => `(tactic| first
  | with_reducible refine s_seq ?_ | with_reducible refine s_next ?_ | with_reducible refine s_if ?_ | with_reducible refine s_ret ?_ | with_reducible refine s_retN ?_ | with_reducible refine s_drop ?_ | with_reducible refine s_asg ?_ | with_reducible refine s_brk ?_ | with_reducible refine s_cont ?_
  | with_reducible refine s_gname ?_ | with_reducible refine s_c ?_ | with_reducible refine s_op ?_ | with_reducible refine s_un ?_ | with_reducible refine s_neg ?_ | with_reducible refine s_test ?_ | with_reducible refine s_tb ?_ | with_reducible refine s_not ?_ | with_reducible refine s_and ?_ | with_reducible refine s_or ?_ | with_reducible refine s_yes ?_
  | ((with_reducible refine' s_var ?hv ?_); (case hv => exact rfl))
  | with_reducible refine s_ifx ?_ | with_reducible refine s_andV ?_ | with_reducible refine s_orV ?_ | with_reducible refine s_notV ?_ | with_reducible refine s_chain ?_ | with_reducible refine s_nil ?_ | with_reducible refine s_cons ?_ | with_reducible refine s_lst ?_ | with_reducible refine s_tup ?_ | with_reducible refine s_cb ?_ | with_reducible refine s_call ?_ | with_reducible refine s_meth ?_ | with_reducible refine s_make ?_
  | with_reducible refine s_dnewK ?_ | with_reducible refine s_sl ?_ | with_reducible refine s_po0 ?_ | with_reducible refine s_po1 ?_ | with_reducible refine s_bm ?_ | with_reducible refine s_bm0 ?_
  | with_reducible refine s_bl ?_ | with_reducible refine s_int ?_ | with_reducible refine s_I0 ?_ | with_reducible refine s_addI ?_ | with_reducible refine s_intI ?_ | with_reducible refine s_intB ?_
  | with_reducible refine s_m1 ?_ | with_reducible refine s_lc ?_ | with_reducible refine s_ilist ?_ | with_reducible refine s_for ?_ | with_reducible refine s_irng ?_ | with_reducible refine s_match ?_ | with_reducible refine s_starT ?_ | with_reducible refine s_isS ?_ | with_reducible refine s_isiSS ?_ | with_reducible refine s_fldU ?_ | with_reducible refine s_sfldU ?_
  | ((with_reducible refine' s_eqS ?hq ?_); (case hq => exact rfl)) | ((with_reducible refine' s_neS ?hq ?_); (case hq => exact rfl))
  | ((with_reducible refine' s_isN ?hq ?_); (case hq => exact rfl)) | ((with_reducible refine' s_notN ?hq ?_); (case hq => exact rfl))
  | ((with_reducible refine' s_eqNil ?h1 ?h2 ?_); (case h1 => walk_at "hl"); (case h2 => walk_at "hl")) | ((with_reducible refine' s_neNil ?h1 ?h2 ?_); (case h1 => walk_at "hl"); (case h2 => walk_at "hl"))
  | ((with_reducible refine' s_ixL ?h1 ?h2 ?_); (case h1 => walk_at "hl"); (case h2 => walk_at "at")) | ((with_reducible refine' s_ixT ?h1 ?h2 ?_); (case h1 => walk_at "hl"); (case h2 => walk_at "at"))
  | ((with_reducible refine' s_inS ?h1 ?_); (case h1 => walk_at "hl")) | ((with_reducible refine' s_ninS ?h1 ?_); (case h1 => walk_at "hl")) | with_reducible refine s_inW ?_
  | ((with_reducible refine' s_lenL ?h1 ?_); (case h1 => walk_at "hl")) | ((with_reducible refine' s_lenT ?h1 ?_); (case h1 => walk_at "hl"))
  | ((with_reducible refine' s_tyL ?h1 ?_); (case h1 => walk_at "hl"))
  | ((with_reducible refine' s_fldM ?h1 ?h2 ?h3 ?_); (case h1 => walk_at "hl"); (case h2 => walk_at "fok"); (case h3 => walk_at "flk"))
  | ((with_reducible refine' s_setM ?h1 ?h2 ?h3 ?h4 ?_); (case h1 => walk_at "hl"); (case h2 => walk_at "fok"); (case h4 => walk_at "put"); (case h3 => exact Nat.le_of_ble_eq_true rfl))
  | ((with_reducible refine' s_starM ?h1 ?_); (case h1 => walk_at "hl"))
  | ((with_reducible refine' s_recv ?h1 ?h2 ?_); (case h1 => walk_at "hl"); (case h2 => exact rfl))
  | ((with_reducible refine' s_sz ?h1 ?_); (case h1 => (simp; done))))
local macro_rules | `(tactic| walk_at "rd") => `(tactic| repeat (walk_at "rd1"))
local macro_rules | `(tactic| walk_at "fok") => `(tactic| assumption)
local macro_rules | `(tactic| walk_at "flk") => `(tactic| rfl)
local macro_rules | `(tactic| walk_at "put") => `(tactic| exact rfl)

local macro_rules | `(tactic| walk_at "fok") => `(tactic| first | assumption | exact Td.ce (by assumption) (by decide) | exact Td.de (by assumption) (by decide))
theorem kb_Cell_put (T : Td P K mg a fd tk) : KBn K (fd 9) ["self", "value"] 1 ["value"] (· ++ ·) (· ++ ·) := Fun.kbn T.F_Cell_put fun _ _ _ _ _ _ us ws h1 h2 => match us, ws, h1, h2 with | [_], [_], _, _ => rfl
/-- everything that the law holds of the first desk -/
structure Wb (a : Nat → Addr) (H : Hp) (b : Addr) (n : Nat) (d : Addr) (D : DA) (cl : List (Str × Addr)) (val : Str → Int) (pc pn pd : Addr) : Prop where
  w : Wd a H d D cl val pc pn pd
  B : BagD H b n
  sep : [b, pc, pn, D.un, D.ef, D.lg, D.fr, D.mv].Nodup
  dd : pd ≠ D.cs ∧ pd ≠ D.rd
  ne : 0 < cl.length
theorem ne_lst {H : Hp} {x y : Addr} {xs : List V} {o : HO} (hx : H x = some (.lst xs)) (hy : H y = some o) (h : ∀ l, o ≠ .lst l) : y ≠ x := by
  rintro rfl
  rw [hx] at hy
  cases hy
  exact h _ rfl
theorem Wb.bag {H H' : Hp} {b d pc pn pd : Addr} {n n' : Nat} {D : DA} {cl : List (Str × Addr)} {val : Str → Int} (h : Wb a H b n d D cl val pc pn pd) (B' : BagD H' b n') (f : Fr H H' [b]) : Wb a H' b n' d D cl val pc pn pd := by
  obtain ⟨w, ⟨dg, m, k, hb, r⟩, sep, dd, ne⟩ := h
  have sep2 := sep
  simp only [List.nodup_cons, List.mem_cons, List.not_mem_nil, or_false, not_or] at sep2
  obtain ⟨⟨s1, s2, s3, s4, s5, s6, s7⟩, _⟩ := sep2
  have g : ∀ {x : Addr} {o : HO}, H x = some o → x ≠ b → H' x = some o := fun hx hn => f _ _ hx (by simpa using hn)
  have g2 : ∀ {x : Addr} {o : HO}, H x = some o → (∀ l, o ≠ .lst l) → H' x = some o := fun hx hn => g hx (ne_lst hb hx hn)
  obtain ⟨ms, m1, m2⟩ := w.dk.mv
  exact ⟨⟨⟨g2 w.dk.ob (by intros; simp), g w.dk.un (Ne.symm s3), g2 w.dk.cs (by intros; simp), g2 w.dk.rd (by intros; simp), g w.dk.ef (Ne.symm s4), g w.dk.lg (Ne.symm s5), g w.dk.fr (Ne.symm s6), ⟨ms, g m1 (Ne.symm s7), m2⟩, w.dk.nd⟩,
    g w.mv (Ne.symm s7), fun c hc => by obtain ⟨dc, e⟩ := w.ce c hc; exact ⟨dc, g2 e (by intros; simp)⟩, w.nd, w.n6, w.ok, g w.pc (Ne.symm s1), g w.pn (Ne.symm s2), g2 w.pd (by intros; simp)⟩, B', sep, dd, ne⟩
theorem Wb.same {H H' : Hp} {b d pc pn pd : Addr} {n : Nat} {D : DA} {cl : List (Str × Addr)} {val : Str → Int} (h : Wb a H b n d D cl val pc pn pd) (s : Same H H') : Wb a H' b n d D cl val pc pn pd := ⟨h.w.same s, h.B.same s, h.sep, h.dd, h.ne⟩
/-- one cell of it was put -/
structure Put1 (a : Nat → Addr) (H H2 : Hp) (d : Addr) (D : DA) (cl : List (Str × Addr)) (c : Str × Addr) (n : Int) (pc z : Addr) : Prop where
  nz : H z = none
  dk : DeskAt a H2 d { D with mv := z } (cl.map (·.1)) cl
  mv : H2 z = some (.lst [])
  ce : CellAt a H2 d c.2 c.1 n
  hpc : H2 pc = some (.lst (cl.map fun c => .ref c.2))
  fr : Fr H H2 [d, c.2, D.mv, pc]
theorem dues_put {nm : Str} {v : Int} {val : Str → Int} : ∀ {cl : List (Str × Addr)}, nm ∈ cl.map (·.1) → putK (duesK cl val) (.inr nm) (.int v) = duesK cl (fun s => if s = nm then v else val s) := by
  intro cl h
  obtain ⟨c, hc, rfl⟩ := List.mem_map.mp h
  have e : (duesK cl val).any (fun kv => decide (kv.1 = (.inr c.1 : Key))) = true := by
    rw [List.any_eq_true]
    exact ⟨(.inr c.1, .int (val c.1)), List.mem_map.mpr ⟨c, hc, rfl⟩, by simp⟩
  unfold putK
  rw [if_pos e]
  unfold duesK
  rw [List.map_map]
  refine List.map_congr_left fun y _ => ?_
  show (if (Sum.inr y.1 : Key) = .inr c.1 then _ else _) = _
  by_cases ey : y.1 = c.1
  · simp [ey]
  · rw [if_neg (fun z => ey (by injection z))]; simp [ey]
theorem cell_ne {H : Hp} {d c c' : Addr} {nm nm' : Str} {v v' : Int} (h : CellAt a H d c nm v) (h' : CellAt a H d c' nm' v') (hn : nm ≠ nm') : c ≠ c' := by
  rintro rfl
  obtain ⟨_, e⟩ := h
  obtain ⟨_, e'⟩ := h'
  rw [e] at e'
  have := HO.ins.inj (Option.some.inj e')
  simp [cellF] at this
  exact hn this.2.1
theorem cell_desk {H : Hp} {d c d' : Addr} {D : DA} {names : List Str} {cl : List (Str × Addr)} {nm : Str} {v : Int} (h : CellAt a H d c nm v) (h' : DeskAt a H d' D names cl) : c ≠ d' := by
  rintro rfl
  obtain ⟨_, e⟩ := h
  have e' := h'.ob
  rw [e] at e'
  have := HO.ins.inj (Option.some.inj e')
  simp [cellF, deskF] at this
theorem Wb.put {H H2 : Hp} {b d pc pn pd z : Addr} {n : Nat} {D : DA} {cl : List (Str × Addr)} {val : Str → Int} {c : Str × Addr} {v : Int} (h : Wb a H b n d D cl val pc pn pd) (hc : c ∈ cl) (p : Put1 a H H2 d D cl c v pc z) :
    H2 pd = some (.dK (duesK cl val)) ∧ Wb a (upd H2 pd (.dK (duesK cl (fun s => if s = c.1 then v else val s)))) b n d { D with mv := z } cl (fun s => if s = c.1 then v else val s) pc pn pd ∧ Fr H (upd H2 pd (.dK (duesK cl (fun s => if s = c.1 then v else val s)))) (b :: d :: D.mv :: pc :: pd :: cl.map (·.2)) := by
  obtain ⟨w, ⟨dg, m, k, hb, r⟩, sep, dd, ne⟩ := h
  have sep2 := sep
  simp only [List.nodup_cons, List.mem_cons, List.not_mem_nil, or_false, not_or, List.nodup_nil, and_true] at sep2
  obtain ⟨⟨b1, b2, b3, b4, b5, b6, b7⟩, ⟨c1, c2, c3, c4, c5, c6⟩, ⟨d1, d2, d3, d4, d5⟩, ⟨u1, u2, u3, u4⟩, ⟨e1, e2, e3⟩, ⟨l1, l2⟩, q1⟩ := sep2
  obtain ⟨dc, hcc⟩ := w.ce c hc
  have lst_ne : ∀ {x : Addr} {xs : List V}, H x = some (.lst xs) → x ≠ d ∧ x ≠ c.2 := fun hx => ⟨Ne.symm (ne_lst hx w.dk.ob (by intros; simp)), Ne.symm (ne_lst hx hcc (by intros; simp))⟩
  have gl : ∀ {x : Addr} {xs : List V}, H x = some (.lst xs) → x ≠ D.mv → x ≠ pc → H2 x = some (.lst xs) := fun hx h1 h2 => p.fr _ _ hx (by
    obtain ⟨h3, h4⟩ := lst_ne hx
    simp [h1, h2, h3, h4])
  have hpd : H2 pd = some (.dK (duesK cl val)) := p.fr _ _ w.pd (by
    have h1 : pd ≠ d := ne_of w.pd w.dk.ob (by intro z; cases z)
    have h2 : pd ≠ c.2 := ne_of w.pd hcc (by intro z; cases z)
    have h3 : pd ≠ D.mv := ne_of w.pd w.mv (by intro z; cases z)
    have h4 : pd ≠ pc := ne_of w.pd w.pc (by intro z; cases z)
    simp [h1, h2, h3, h4])
  have up : ∀ {x : Addr} {o o' : HO}, H2 x = some o → (∀ kv, o ≠ .dK kv) → upd H2 pd o' x = some o := fun hx hn => by
    rw [upd_ne (by rintro rfl; rw [hpd] at hx; cases hx; exact hn _ rfl)]
    exact hx
  have zne : ∀ {x : Addr} {o : HO}, H x = some o → z ≠ x := fun hx => by rintro rfl; rw [p.nz] at hx; cases hx
  refine ⟨hpd, ⟨⟨⟨up p.dk.ob (by intros; simp), up p.dk.un (by intros; simp), by rw [upd_ne (Ne.symm dd.1)]; exact p.dk.cs, by rw [upd_ne (Ne.symm dd.2)]; exact p.dk.rd, up p.dk.ef (by intros; simp), up p.dk.lg (by intros; simp), up p.dk.fr (by intros; simp), ⟨[], up p.mv (by intros; simp), by simp⟩, p.dk.nd⟩,
    up p.mv (by intros; simp), fun c' hc' => ?_, w.nd, w.n6, w.ok, up p.hpc (by intros; simp), up (gl w.pn d5 (Ne.symm c1)) (by intros; simp), upd_same⟩, ⟨dg, m, k, up (gl hb b7 b1) (by intros; simp), r⟩, ?_, dd, ne⟩, fun x o hx hS => ?_⟩
  · by_cases en : c'.1 = c.1
    · have : c' = c := fst_inj w.nd hc' hc en
      subst this
      obtain ⟨dc2, h2⟩ := p.ce
      simp only [if_true]
      exact ⟨dc2, up h2 (by intros; simp)⟩
    · obtain ⟨dc2, h2⟩ := w.ce c' hc'
      simp only [if_neg en]
      have n1 : c'.2 ≠ c.2 := cell_ne (w.ce c' hc') (w.ce c hc) en
      have n2 : c'.2 ≠ d := cell_desk (w.ce c' hc') w.dk
      have n3 : c'.2 ≠ D.mv := ne_of h2 w.mv (by intro z; cases z)
      have n4 : c'.2 ≠ pc := ne_of h2 w.pc (by intro z; cases z)
      exact ⟨dc2, up (p.fr _ _ h2 (by simp [n1, n2, n3, n4])) (by intros; simp)⟩
  · have z1 := zne hb
    have z2 := zne w.pc
    have z3 := zne w.pn
    have z4 := zne w.dk.un
    have z5 := zne w.dk.ef
    have z6 := zne w.dk.lg
    have z7 := zne w.dk.fr
    simp only [List.nodup_cons, List.mem_cons, List.not_mem_nil, or_false, not_or, List.nodup_nil, and_true]
    exact ⟨⟨b1, b2, b3, b4, b5, b6, Ne.symm z1⟩, ⟨c1, c2, c3, c4, c5, Ne.symm z2⟩, ⟨d1, d2, d3, d4, Ne.symm z3⟩, ⟨u1, u2, u3, Ne.symm z4⟩, ⟨e1, e2, Ne.symm z5⟩, ⟨l1, Ne.symm z6⟩, Ne.symm z7, not_false⟩
  · simp only [List.mem_cons, not_or] at hS
    obtain ⟨h1, h2, h3, h4, h5, h6⟩ := hS
    rw [upd_ne h5]
    refine p.fr _ _ hx ?_
    have h7 : x ≠ c.2 := fun e => h6 (List.mem_map.mpr ⟨c, hc, e.symm⟩)
    simp [h2, h3, h4, h7]
end
end Tr
set_option maxHeartbeats 4000000

namespace Tr
open PySem L2
section
variable {P : Program} {w : World} {K : PySem.W.Frag} {mg : Str → Option Value} {base : Heap} {a : Nat → Addr} {fd : Nat → FuncData} {tk : Nat → Tok}
local macro_rules | `(tactic| walk_at "ne") => `(tactic| first | assumption | (exact Ne.symm (by assumption)) | (refine ne_of_none (by assumption) (by assumption)) | (refine Ne.symm (ne_of_none (by assumption) (by assumption))))
local macro_rules | `(tactic| walk_at "hl") => `(tactic| first | assumption | with_reducible exact upd_same | ((with_reducible refine' Eq.trans (upd_ne ?hne) ?hrest); (case hne => walk_at "ne"); (case hrest => walk_at "hl")) | (refine' get_same ?hs ?hg; (case hs => assumption); (case hg => assumption)))
local macro_rules | `(tactic| walk_at "at") => `(tactic| first | with_reducible exact atI_0 _ _ | with_reducible exact atI_1 _ _ _ | with_reducible exact atI_2 _ _ _ _ | with_reducible exact atI_3 _ _ _ _ _ | assumption)
local macro_rules | `(tactic| walk_at "rd1") => `(tactic| first
  | with_reducible refine s_seq ?_ | with_reducible refine s_next ?_ | with_reducible refine s_if ?_ | with_reducible refine s_ret ?_ | with_reducible refine s_retN ?_ | with_reducible refine s_drop ?_ | with_reducible refine s_asg ?_ | with_reducible refine s_brk ?_ | with_reducible refine s_cont ?_
  | with_reducible refine s_gname ?_ | with_reducible refine s_c ?_ | with_reducible refine s_op ?_ | with_reducible refine s_un ?_ | with_reducible refine s_neg ?_ | with_reducible refine s_test ?_ | with_reducible refine s_tb ?_ | with_reducible refine s_not ?_ | with_reducible refine s_and ?_ | with_reducible refine s_or ?_ | with_reducible refine s_yes ?_
  | ((with_reducible refine' s_var ?hv ?_); (case hv => exact rfl))
  | with_reducible refine s_ifx ?_ | with_reducible refine s_andV ?_ | with_reducible refine s_orV ?_ | with_reducible refine s_notV ?_ | with_reducible refine s_chain ?_ | with_reducible refine s_nil ?_ | with_reducible refine s_cons ?_ | with_reducible refine s_lst ?_ | with_reducible refine s_tup ?_ | with_reducible refine s_cb ?_ | with_reducible refine s_call ?_ | with_reducible refine s_meth ?_ | with_reducible refine s_make ?_
  | with_reducible refine s_dnewK ?_ | with_reducible refine s_sl ?_ | with_reducible refine s_po0 ?_ | with_reducible refine s_po1 ?_ | with_reducible refine s_bm ?_ | with_reducible refine s_bm0 ?_
  | with_reducible refine s_bl ?_ | with_reducible refine s_int ?_ | with_reducible refine s_I0 ?_ | with_reducible refine s_addI ?_ | with_reducible refine s_intI ?_ | with_reducible refine s_intB ?_
  | with_reducible refine s_m1 ?_ | with_reducible refine s_lc ?_ | with_reducible refine s_ilist ?_ | with_reducible refine s_for ?_ | with_reducible refine s_irng ?_ | with_reducible refine s_match ?_ | with_reducible refine s_starT ?_ | with_reducible refine s_isS ?_ | with_reducible refine s_isiSS ?_ | with_reducible refine s_fldU ?_ | with_reducible refine s_sfldU ?_
  | ((with_reducible refine' s_eqS ?hq ?_); (case hq => exact rfl)) | ((with_reducible refine' s_neS ?hq ?_); (case hq => exact rfl))
  | ((with_reducible refine' s_isN ?hq ?_); (case hq => exact rfl)) | ((with_reducible refine' s_notN ?hq ?_); (case hq => exact rfl))
  | ((with_reducible refine' s_eqNil ?h1 ?h2 ?_); (case h1 => walk_at "hl"); (case h2 => walk_at "hl")) | ((with_reducible refine' s_neNil ?h1 ?h2 ?_); (case h1 => walk_at "hl"); (case h2 => walk_at "hl"))
  | ((with_reducible refine' s_ixL ?h1 ?h2 ?_); (case h1 => walk_at "hl"); (case h2 => walk_at "at")) | ((with_reducible refine' s_ixT ?h1 ?h2 ?_); (case h1 => walk_at "hl"); (case h2 => walk_at "at"))
  | ((with_reducible refine' s_inS ?h1 ?_); (case h1 => walk_at "hl")) | ((with_reducible refine' s_ninS ?h1 ?_); (case h1 => walk_at "hl")) | with_reducible refine s_inW ?_
  | ((with_reducible refine' s_lenL ?h1 ?_); (case h1 => walk_at "hl")) | ((with_reducible refine' s_lenT ?h1 ?_); (case h1 => walk_at "hl"))
  | ((with_reducible refine' s_tyL ?h1 ?_); (case h1 => walk_at "hl"))
  | ((with_reducible refine' s_fldM ?h1 ?h2 ?h3 ?_); (case h1 => walk_at "hl"); (case h2 => walk_at "fok"); (case h3 => walk_at "flk"))
  | ((with_reducible refine' s_setM ?h1 ?h2 ?h3 ?h4 ?_); (case h1 => walk_at "hl"); (case h2 => walk_at "fok"); (case h4 => walk_at "put"); (case h3 => exact Nat.le_of_ble_eq_true rfl))
  | ((with_reducible refine' s_starM ?h1 ?_); (case h1 => walk_at "hl"))
  | ((with_reducible refine' s_recv ?h1 ?h2 ?_); (case h1 => walk_at "hl"); (case h2 => exact rfl))
  | ((with_reducible refine' s_sz ?h1 ?_); (case h1 => (simp; done))))
local macro_rules | `(tactic| walk_at "rd") => `(tactic| repeat (walk_at "rd1"))
local macro_rules | `(tactic| walk_at "fok") => `(tactic| assumption)
local macro_rules | `(tactic| walk_at "flk") => `(tactic| rfl)
local macro_rules | `(tactic| walk_at "put") => `(tactic| exact rfl)

local macro_rules | `(tactic| walk_at "fok") => `(tactic| first | assumption | exact Td.ce (by assumption) (by decide) | exact Td.de (by assumption) (by decide))
theorem s_par {i j : Nat} {ta : TA} {na : L2.St → Hp → Prop} {rt : VK} {bk ct : L2.St → Hp → Prop} {σ : L2.St} {H : Hp} (h : ta σ H fun vs H1 => ∃ v w, vs = [v, w] ∧ na ((σ.set i (some v)).set j (some w)) H1) : tPar i j ta ⟨na, rt, bk, ct⟩ σ H := h
theorem s_par3 {i j l : Nat} {ta : TA} {na : L2.St → Hp → Prop} {rt : VK} {bk ct : L2.St → Hp → Prop} {σ : L2.St} {H : Hp} (h : ta σ H fun vs H1 => ∃ v w y, vs = [v, w, y] ∧ na (((σ.set i (some v)).set j (some w)).set l (some y)) H1) : tPar3 i j l ta ⟨na, rt, bk, ct⟩ σ H := h
theorem s_ipO {C : Addr} {sp : Sp} {Ec : XK} {x y : V} {H : Hp} {Q : VK} (h : ∃ (a dx : Addr) (fs : List (Str × V)), x = .ref a ∧ H a = some (.ins C dx fs) ∧ sp [.ref a, y] H Q Ec) : rIpO C sp Ec x y H Q := h
theorem s_aug {i : Nat} {te : TE} {ti : TIp} {na : L2.St → Hp → Prop} {rt : VK} {bk ct : L2.St → Hp → Prop} {σ : L2.St} {H : Hp} (v : V) (hv : σ[i]? = some (some v)) (h : te σ H fun y H1 => ti v y H1 fun z H2 => na (σ.set i (some z)) H2) : tAug i te ti ⟨na, rt, bk, ct⟩ σ H := ⟨v, hv, h⟩
theorem s_augS {to ti te : TE} {tget : V → V → Hp → VK → Prop} {tip : TIp} {tset : TSet} {na : L2.St → Hp → Prop} {rt : VK} {bk ct : L2.St → Hp → Prop} {σ : L2.St} {H : Hp} (h : to σ H fun o H1 => ti σ H1 fun i H2 => tget o i H2 fun x H3 => te σ H3 fun y H4 => tip x y H4 fun z H5 => tset o i z H5 fun H6 => na σ H6) : tAugS to ti te tget tip tset ⟨na, rt, bk, ct⟩ σ H := h
theorem s_getO {C : Addr} {sp : Sp} {Ec : XK} {x y : V} {H : Hp} {Q : VK} (h : ∃ (a dx : Addr) (fs : List (Str × V)), x = .ref a ∧ H a = some (.ins C dx fs) ∧ sp [.ref a, y] H Q Ec) : rGetO C sp Ec x y H Q := h
theorem s_setO {C : Addr} {sp : Sp} {Ec : XK} {x y z : V} {H : Hp} {Q : Hp → Prop} (h : ∃ (a dx : Addr) (fs : List (Str × V)), x = .ref a ∧ H a = some (.ins C dx fs) ∧ sp [.ref a, y, z] H (fun _ H' => Q H') Ec) : rSetO C sp Ec x y z H Q := h
theorem s_methK {C : Addr} {m : Str} {n : Nat} {sp : Sp} {gV : List V → List V → List V} {E : XK} {ta : TE} {t : TA} {σ : L2.St} {H : Hp} {Q : VK} (h : ta σ H fun x H1 => ∃ a dx fs, x = .ref a ∧ H1 a = some (.ins C dx fs) ∧ fs.lookup m = none ∧ t σ H1 fun zs H2 => zs.length = n ∧ sp (gV [x] zs) H2 Q E) : tMethK C m n sp gV E ta t σ H Q := h
theorem List.set_getElem?_self' {α : Type} {l : List α} {i : Nat} {x : α} (h : l[i]? = some x) : l.set i x = l := by
  obtain ⟨hi, rfl⟩ := List.getElem?_eq_some_iff.mp h
  exact List.set_getElem_self hi
theorem upd_self' {H : Hp} {p : Addr} {o : HO} (h : H p = some o) : upd H p o = H := by
  funext x
  by_cases e : x = p
  · rw [e, upd_same, h]
  · rw [upd_ne e]
def spPutL (a : Nat → Addr) : Sp := fun vs H Q _ => ∃ (b d : Addr) (n : Nat) (D : DA) (cl : List (Str × Addr)) (val : Str → Int) (pc pn pd : Addr), vs = [.ref b, .ref d, .ref pc, .ref pn, .ref pd] ∧ Wb a H b n d D cl val pc pn pd ∧ n < 10 ^ 7 ∧
  ∀ (val' : Str → Int) (z : Addr) H', Wb a H' b (n + 5) d { D with mv := z } cl val' pc pn pd → H z = none → Fr H H' (b :: d :: D.mv :: pc :: pd :: cl.map (·.2)) → Q (.bl true) H'
theorem ok__law_put (T : Tq P K mg a fd tk) : FnOk P w K mg base CX0 7 (a 38) (fd 38) ["_law_bag_here", "_law_desk", "_law_cells", "_law_names_here", "_law_dues"] (spPutL a) := by
  refine T.F__law_put.ok sc__law_put (fun vs H Q E h => ?_) (fun cdv A outer s H vs Q E hr h => ?_)
  · obtain ⟨b, d, n, D, cl, val, pc, pn, pd, rfl, _⟩ := h
    rfl
  · obtain ⟨b, d, n, D, cl, val, pc, pn, pd, rfl, W, hn, k⟩ := h
    refine ⟨_, (pss_cons (ps_asg (pe_call (ok__law_take T.l) (hr.mono (by decide)) (by rfl) T.l.g__law_take T.l.F__law_take.kp (b__law_take T.l) .nil pass0 (pa_cons (pv 0) (pa_cons (pe_callB uLen (by rfl) T.l.d.b_len bt_len (pa_cons (pv 2) pa_nil)) pa_nil))) (pg_name (i := 5) sc__law_put.nd rfl (by first | exact Or.inl rfl | exact Or.inr rfl)))
  (pss_cons (ps_par (i := 6) (j := 7) (by rfl) sc__law_put.nd rfl rfl (by decide) rfl rfl (pa_cons (pe_ix uIx (pv 2) (pv 5) (fun _ _ => rfl)) (pa_cons (pe_ix uIx (pv 3) (pv 5) (fun _ _ => rfl)) pa_nil)) (by rfl))
  (pss_cons (ps_par3 (i := 8) (j := 9) (l := 10) (by rfl) sc__law_put.nd rfl rfl rfl (by decide) (by decide) (by decide) rfl rfl rfl (pa_cons (pe_call (ok__law_take T.l) (hr.mono (by decide)) (by rfl) T.l.g__law_take T.l.F__law_take.kp (b__law_take T.l) .nil pass0 (pa_cons (pv 0) (pa_cons pe_int pa_nil))) (pa_cons (pe_call (ok__law_worth T.l) (hr.mono (by decide)) (by rfl) T.l.g__law_worth T.l.F__law_worth.kp (b__law_worth T.l) .nil pass0 (pa_cons (pv 0) pa_nil)) (pa_cons (pe_op op_sub (pe_call (ok__law_take T.l) (hr.mono (by decide)) (by rfl) T.l.g__law_take T.l.F__law_take.kp (b__law_take T.l) .nil pass0 (pa_cons (pv 0) (pa_cons (pe_op op_pow pe_int pe_int) pa_nil))) (pe_op uMul pe_int (pe_op op_pow pe_int pe_int))) pa_nil))) (by rfl))
  (pss_cons (ps_if (PW.pt (pw_and (pt_cmpR (uEq K hr.units) (pv 8) pe_int (nomark _)) (pw_and1 (pt_cmpR op_notN1 (pe_ifExp (pt_cmpR op_lt (pv 10) pe_int (nomark _)) (pe_methK (pv 6) T.l.d.cl_Cell T.l.d.m_Cell_put (ok_Cell_put T.l.d) (hr.mono (by decide)) (kb_Cell_put T.l.d) pass0 (pk_cons (pv 9) pk_nil)) (pe_meth (pv 6) T.l.d.cl_Cell T.l.d.m_Cell_put (ok_Cell_put T.l.d) (hr.mono (by decide)) (b_Cell_put T.l.d) .nil pass0 (pa_cons (pv 9) pa_nil))) pe_non (nomark _))))) (pss_one (ps_ret pe_bl)) pss_nil)
  (pss_cons (ps_if (pt_cmpR (uEq K hr.units) (pv 8) pe_int (nomark _)) (pss_one (ps_asg (pv 9) (pg_setX (E := fun _ => E0) (pv 1) (pv 7) T.l.d.ns_Desk T.l.d.o_Desk___setitem__.at_ T.l.d.o_Desk___setitem__.fn (ok_Desk___setitem__ T.l.d) (hr.mono (by decide)) (b_Desk___setitem__ T.l.d) (fun _ => passZX)))) pss_nil)
  (pss_cons (ps_if (pt_cmpR (uEq K hr.units) (pv 8) pe_int (nomark _)) (pss_cons (ps_aug (i := 6) sc__law_put.nd rfl (by first | exact Or.inl rfl | exact Or.inr rfl) (pv 10) (ip_own (Ec := E0) T.l.d.sf_Cell T.l.d.o_Cell___iadd__.at_ T.l.d.o_Cell___iadd__.fn (ok_Cell___iadd__ T.l.d) (hr.mono (by decide)) (b_Cell___iadd__ T.l.d) (fun _ => passZ0)))
  (pss_one (ps_asg (pv 6) (pg_sub (pv 2) (pv 5) set_listU)))) pss_nil)
  (pss_cons (ps_if (pt_cmpR (uEq K hr.units) (pv 8) pe_int (nomark _)) (pss_one (ps_augS (pv 1) (pv 7) (get_own (Ec := E0) T.l.d.ns_Desk T.l.d.o_Desk___getitem__.at_ T.l.d.o_Desk___getitem__.fn (ok_Desk___getitem__ T.l.d) (hr.mono (by decide)) (b_Desk___getitem__ T.l.d) (fun _ => passZX)) (pv 10) ip_add (set_own (Ec := E0) T.l.d.ns_Desk T.l.d.o_Desk___setitem__.at_ T.l.d.o_Desk___setitem__.fn (ok_Desk___setitem__ T.l.d) (hr.mono (by decide)) (b_Desk___setitem__ T.l.d) (fun _ => passZX)))) pss_nil)
  (pss_cons (ps_dput (hu_of hr) (pv 4) (pv 7) (pe_ifExp (pt_cmpR op_lt (pv 8) pe_int (nomark _)) (pv 9) (pe_op uAdd (pe_dget (hu_of hr) (pv 4) (pv 7) (fun _ _ => rfl)) (pv 10))) rfl)
  (pss_one (ps_ret pe_bl)))))))))), ?_⟩
    have TD := T.l.d
    have hpc := W.w.pc
    have lc : (cl.map fun c => V.ref c.2).length = cl.length := List.length_map _
    have n6 := W.w.n6
    have n0 := W.ne
    walk_at "rd"
    refine ⟨b, _, n, rfl, W.B, by omega, by omega, Int.lt_of_le_of_lt (b := 1000) (by omega) (by decide), fun k1 H1 k10 k11 B1 f1 => ?_⟩
    have W1 := W.bag B1 f1
    have hpc1 := W1.w.pc
    have hpn1 := W1.w.pn
    obtain ⟨i, rfl⟩ := Int.eq_ofNat_of_zero_le k10
    have hi : i < cl.length := by omega
    obtain ⟨c, ec⟩ : ∃ c, cl[i]? = some c := ⟨_, List.getElem?_eq_getElem hi⟩
    have hcm := List.mem_of_getElem? ec
    walk_at "rd"
    refine s_par ?_
    walk_at "rd"
    refine s_ixL hpc1 (atI_nat (j := i) (by rw [List.getElem?_map, ec]; rfl)) ?_
    walk_at "rd"
    refine s_ixL hpn1 (atI_nat (j := i) (by rw [List.getElem?_map, ec]; rfl)) ?_
    walk_at "rd"
    refine ⟨_, _, rfl, ?_⟩
    walk_at "rd"
    refine s_par3 ?_
    walk_at "rd"
    refine ⟨b, 4, _, rfl, B1, by omega, by decide, by decide, fun rd H2 r0 r4 B2 f2 => ?_⟩
    walk_at "rd"
    refine ⟨b, _, rfl, B2, by omega, fun wv H3 hwv B3 f3 => ?_⟩
    walk_at "rd"
    refine s_I ⟨by decide, by decide, by decide⟩ ?_
    walk_at "rd"
    refine ⟨b, _, _, rfl, B3, by omega, by decide, by decide, fun m4 H4 m40 m41 B4 f4 => ?_⟩
    walk_at "rd"
    refine s_I ⟨by decide, by decide, by decide⟩ ?_
    have e27 : (10 : Int) ^ (27 : Int).toNat = 1000000000000000000000000000 := by decide +kernel
    rw [e27]
    refine s_mulI (mulOk (by decide) (by decide)) ?_
    generalize (5 : Int) * 1000000000000000000000000000 = five
    walk_at "rd"
    generalize m4 - five = more
    refine ⟨_, _, _, rfl, ?_⟩
    have f04 : Fr H H4 [b] := ((f1.tr f2).tr f3).tr f4
    have W4 : Wb a H4 b (n + 5) d D cl val pc pn pd := W.bag (B4.more (by omega)) f04
    have hin : c.1 ∈ cl.map (·.1) := List.mem_map.mpr ⟨c, hcm, rfl⟩
    have fin : ∀ (v : Int) (z : Addr) (H5 : Hp), Put1 a H4 H5 d D cl c v pc z → H5 pd = some (.dK (duesK cl val)) ∧ Q (.bl true) (upd H5 pd (.dK (putK (duesK cl val) (.inr c.1) (.int v)))) := by
      intro v z H5 p
      obtain ⟨e1, e2, e3⟩ := W4.put hcm p
      refine ⟨e1, ?_⟩
      rw [dues_put hin]
      refine k _ z _ e2 ?_ fun x o hx hS => e3 _ _ (f04 _ _ hx (by simp only [List.mem_cons, not_or] at hS; simpa using hS.1)) hS
      cases ez : H z with
      | none => rfl
      | some o =>
        have nz := p.nz
        by_cases hb : z = b
        · obtain ⟨_, _, _, hb4, _⟩ := W4.B
          rw [hb, hb4] at nz; cases nz
        · rw [f04 _ _ ez (by simpa using hb)] at nz; cases nz
    have hob4 := W4.w.dk.ob
    obtain ⟨dc, hc4⟩ := W4.w.ce c hcm
    have hcd := cell_desk (W4.w.ce c hcm) W4.w.dk
    have hmv := W4.w.mv
    have hpc4 := W4.w.pc
    have ldk : (duesK cl val).length < sizeLine := sz_lt (by unfold duesK; rw [List.length_map]; omega)
    have pcd : pc ≠ d := Ne.symm (ne_lst hpc4 hob4 (by intros; simp))
    have pcc : pc ≠ c.2 := Ne.symm (ne_lst hpc4 hc4 (by intros; simp))
    have pcm : pc ≠ D.mv := by
      have := W4.sep
      simp only [List.nodup_cons, List.mem_cons, List.not_mem_nil, or_false, not_or] at this
      exact this.2.1.2.2.2.2.2
    -- a put by the cell itself
    have put1 : ∀ {v : Int} {z : Addr} {H5 : Hp}, H4 z = none → DeskAt a H5 d { D with mv := z } (cl.map (·.1)) cl → H5 z = some (.lst []) → CellAt a H5 d c.2 c.1 v → Fr H4 H5 [d, c.2, D.mv] → Put1 a H4 H5 d D cl c v pc z := fun nz dk mz ce fr =>
      ⟨nz, dk, mz, ce, fr _ _ hpc4 (by simp [pcd, pcc, pcm]), fun x o hx hS => fr _ _ hx (by simp only [List.mem_cons, List.not_mem_nil, or_false, not_or] at hS ⊢; exact ⟨hS.1, hS.2.1, hS.2.2.1⟩)⟩
    have cells4 : Cells a H4 d cl := fun c hc => ⟨_, W4.w.ce c hc⟩
    have hrd : rd = 0 ∨ rd = 1 ∨ rd = 2 ∨ rd = 3 := by omega
    rcases hrd with rfl | rfl | rfl | rfl
    · walk_at "rd"
      refine ifT rfl ?_
      walk_at "rd"
      refine ifB (fun hm => ?_) (fun hm => ?_)
      · refine s_methK ?_
        walk_at "rd"
        refine ⟨c.2, dc, _, rfl, hc4, rfl, ?_⟩
        walk_at "rd"
        refine ⟨rfl, d, D, _, cl, c.2, c.1, _, wv, rfl, W4.w.dk, ⟨dc, hc4⟩, ⟨[], hmv, by simp⟩, hcd, fun z H5 nz dk5 mz5 ce5 fr5 => ?_⟩
        obtain ⟨g1, g2⟩ := fin wv z H5 (put1 nz dk5 mz5 ce5 fr5)
        walk_at "rd"
        refine ifF rfl ?_
        walk_at "rd"
        refine ifF rfl ?_
        walk_at "rd"
        refine ifF rfl ?_
        walk_at "rd"
        refine ifF rfl ?_
        walk_at "rd"
        refine s_dput ?_
        walk_at "rd"
        refine ifT rfl ?_
        walk_at "rd"
        refine ⟨pd, _, rfl, DPut.k (k := .inr c.1) g1 ldk, ?_⟩
        walk_at "rd"
        exact g2
      · walk_at "rd"
        refine ⟨d, D, _, cl, c.2, c.1, _, wv, rfl, W4.w.dk, ⟨dc, hc4⟩, ⟨[], hmv, by simp⟩, hcd, fun z H5 nz dk5 mz5 ce5 fr5 => ?_⟩
        obtain ⟨g1, g2⟩ := fin wv z H5 (put1 nz dk5 mz5 ce5 fr5)
        walk_at "rd"
        refine ifF rfl ?_
        walk_at "rd"
        refine ifF rfl ?_
        walk_at "rd"
        refine ifF rfl ?_
        walk_at "rd"
        refine ifF rfl ?_
        walk_at "rd"
        refine s_dput ?_
        walk_at "rd"
        refine ifT rfl ?_
        walk_at "rd"
        refine ⟨pd, _, rfl, DPut.k (k := .inr c.1) g1 ldk, ?_⟩
        walk_at "rd"
        exact g2
    · walk_at "rd"
      refine ifF rfl ?_
      walk_at "rd"
      refine ifF rfl ?_
      walk_at "rd"
      refine ifT rfl ?_
      walk_at "rd"
      refine s_setX ?_
      walk_at "rd"
      refine ⟨d, _, _, rfl, hob4, d, D, _, cl, _, wv, rfl, W4.w.dk, cells4, by omega, W4.w.nd, ⟨[], hmv, by simp⟩, .inl ⟨c, _, hcm, rfl, hcd, ⟨dc, hc4⟩, fun z H5 nz dk5 mz5 ce5 fr5 => ?_⟩⟩
      obtain ⟨g1, g2⟩ := fin wv z H5 (put1 nz dk5 mz5 ce5 fr5)
      walk_at "rd"
      refine ifF rfl ?_
      walk_at "rd"
      refine ifF rfl ?_
      walk_at "rd"
      refine s_dput ?_
      walk_at "rd"
      refine ifT rfl ?_
      walk_at "rd"
      refine ⟨pd, _, rfl, DPut.k (k := .inr c.1) g1 ldk, ?_⟩
      walk_at "rd"
      exact g2
    · walk_at "rd"
      refine ifF rfl ?_
      walk_at "rd"
      refine ifF rfl ?_
      walk_at "rd"
      refine ifF rfl ?_
      walk_at "rd"
      refine ifT rfl ?_
      walk_at "rd"
      refine s_aug (.ref c.2) rfl ?_
      walk_at "rd"
      refine s_ipO ?_
      refine ⟨c.2, dc, _, rfl, hc4, d, D, _, cl, c.2, c.1, _, more, rfl, W4.w.dk, ⟨dc, hc4⟩, ⟨[], hmv, by simp⟩, hcd, fun z H5 nz dk5 mz5 ce5 fr5 => ?_⟩
      have hp1 := put1 nz dk5 mz5 ce5 fr5
      have hpc5 := hp1.hpc
      walk_at "rd"
      refine s_gsub ?_
      walk_at "rd"
      refine s_setU hpc5 (j := i) (ixN_nat (by rw [List.length_map]; exact hi)) ?_
      have eS : (cl.map fun c => V.ref c.2).set i (.ref c.2) = cl.map fun c => V.ref c.2 := List.set_getElem?_self' (by rw [List.getElem?_map, ec]; rfl)
      have eU : upd H5 pc (.lst ((cl.map fun c => V.ref c.2).set i (.ref c.2))) = H5 := by rw [eS]; exact upd_self' hpc5
      rw [eU]
      obtain ⟨g1, g2⟩ := fin _ z H5 hp1
      walk_at "rd"
      refine ifF rfl ?_
      walk_at "rd"
      refine s_dput ?_
      walk_at "rd"
      refine ifF rfl ?_
      walk_at "rd"
      refine s_dget ?_
      walk_at "rd"
      refine ⟨pd, _, rfl, (show DGet _ pd (kV (.inr c.1)) (some (.int (val c.1))) from by have := DGet.k (k := .inr c.1) g1; rwa [dues_get hin] at this), ?_⟩
      walk_at "rd"
      refine ⟨pd, _, rfl, DPut.k (k := .inr c.1) g1 ldk, ?_⟩
      walk_at "rd"
      exact g2
    · walk_at "rd"
      refine ifF rfl ?_
      walk_at "rd"
      refine ifF rfl ?_
      walk_at "rd"
      refine ifF rfl ?_
      walk_at "rd"
      refine ifF rfl ?_
      walk_at "rd"
      refine ifT rfl ?_
      walk_at "rd"
      refine s_augS ?_
      walk_at "rd"
      refine s_getO ?_
      refine ⟨d, _, _, rfl, hob4, d, D, _, cl, _, rfl, W4.w.dk, cells4, by omega, W4.w.nd, .inl ⟨c, _, hcm, rfl, ⟨dc, hc4⟩, fun H41 s41 => ?_⟩⟩
      walk_at "rd"
      refine ⟨_, _, rfl, rfl, ?_⟩
      walk_at "rd"
      refine s_setO ?_
      have W41 := W4.same s41
      have fin41 : True := trivial
      refine ⟨d, _, _, rfl, s41 _ _ hob4, d, D, _, cl, _, val c.1 + more, rfl, W41.w.dk, fun c hc => ⟨_, W41.w.ce c hc⟩, by omega, W41.w.nd, ⟨[], W41.w.mv, by simp⟩, .inl ⟨c, _, hcm, rfl, hcd, ⟨dc, s41 _ _ hc4⟩, fun z H5 nz dk5 mz5 ce5 fr5 => ?_⟩⟩
      obtain ⟨g1, g2⟩ := fin (val c.1 + more) z H5 (put1 (s41.free nz) dk5 mz5 ce5 fun x o hx hS => fr5 _ _ (s41 _ _ hx) hS)
      walk_at "rd"
      refine s_dput ?_
      walk_at "rd"
      refine ifF rfl ?_
      walk_at "rd"
      refine s_dget ?_
      walk_at "rd"
      refine ⟨pd, _, rfl, (show DGet _ pd (kV (.inr c.1)) (some (.int (val c.1))) from by have := DGet.k (k := .inr c.1) g1; rwa [dues_get hin] at this), ?_⟩
      walk_at "rd"
      refine ⟨pd, _, rfl, DPut.k (k := .inr c.1) g1 ldk, ?_⟩
      walk_at "rd"
      exact g2
theorem b__law_put (T : Tq P K mg a fd tk) : Binds K (fd 38) ["_law_bag_here", "_law_desk", "_law_cells", "_law_names_here", "_law_dues"] [] := T.F__law_put.binds fun _ _ _ _ _ _ us hl => match us, hl with | [_, _, _, _, _], _ => rfl
end
end Tr
set_option maxHeartbeats 4000000

namespace Tr
open PySem L2
section
variable {P : Program} {w : World} {K : PySem.W.Frag} {mg : Str → Option Value} {base : Heap} {a : Nat → Addr} {fd : Nat → FuncData} {tk : Nat → Tok}
local macro_rules | `(tactic| walk_at "ne") => `(tactic| first | assumption | (exact Ne.symm (by assumption)) | (refine ne_of_none (by assumption) (by assumption)) | (refine Ne.symm (ne_of_none (by assumption) (by assumption))))
local macro_rules | `(tactic| walk_at "hl") => `(tactic| first | assumption | with_reducible exact upd_same | ((with_reducible refine' Eq.trans (upd_ne ?hne) ?hrest); (case hne => walk_at "ne"); (case hrest => walk_at "hl")) | (refine' get_same ?hs ?hg; (case hs => assumption); (case hg => assumption)))
local macro_rules | `(tactic| walk_at "at") => `(tactic| first | with_reducible exact atI_0 _ _ | with_reducible exact atI_1 _ _ _ | with_reducible exact atI_2 _ _ _ _ | with_reducible exact atI_3 _ _ _ _ _ | assumption)
local macro_rules | `(tactic| walk_at "rd1") => `(tactic| first
  | with_reducible refine s_seq ?_ | with_reducible refine s_next ?_ | with_reducible refine s_if ?_ | with_reducible refine s_ret ?_ | with_reducible refine s_retN ?_ | with_reducible refine s_drop ?_ | with_reducible refine s_asg ?_ | with_reducible refine s_brk ?_ | with_reducible refine s_cont ?_
  | with_reducible refine s_gname ?_ | with_reducible refine s_c ?_ | with_reducible refine s_op ?_ | with_reducible refine s_un ?_ | with_reducible refine s_neg ?_ | with_reducible refine s_test ?_ | with_reducible refine s_tb ?_ | with_reducible refine s_not ?_ | with_reducible refine s_and ?_ | with_reducible refine s_or ?_ | with_reducible refine s_yes ?_
  | ((with_reducible refine' s_var ?hv ?_); (case hv => exact rfl))
  | with_reducible refine s_ifx ?_ | with_reducible refine s_andV ?_ | with_reducible refine s_orV ?_ | with_reducible refine s_notV ?_ | with_reducible refine s_chain ?_ | with_reducible refine s_nil ?_ | with_reducible refine s_cons ?_ | with_reducible refine s_lst ?_ | with_reducible refine s_tup ?_ | with_reducible refine s_cb ?_ | with_reducible refine s_call ?_ | with_reducible refine s_meth ?_ | with_reducible refine s_make ?_
  | with_reducible refine s_dnewK ?_ | with_reducible refine s_sl ?_ | with_reducible refine s_po0 ?_ | with_reducible refine s_po1 ?_ | with_reducible refine s_bm ?_ | with_reducible refine s_bm0 ?_
  | with_reducible refine s_bl ?_ | with_reducible refine s_int ?_ | with_reducible refine s_I0 ?_ | with_reducible refine s_addI ?_ | with_reducible refine s_intI ?_ | with_reducible refine s_intB ?_
  | with_reducible refine s_m1 ?_ | with_reducible refine s_lc ?_ | with_reducible refine s_ilist ?_ | with_reducible refine s_for ?_ | with_reducible refine s_irng ?_ | with_reducible refine s_match ?_ | with_reducible refine s_starT ?_ | with_reducible refine s_isS ?_ | with_reducible refine s_isiSS ?_ | with_reducible refine s_fldU ?_ | with_reducible refine s_sfldU ?_
  | ((with_reducible refine' s_eqS ?hq ?_); (case hq => exact rfl)) | ((with_reducible refine' s_neS ?hq ?_); (case hq => exact rfl))
  | ((with_reducible refine' s_isN ?hq ?_); (case hq => exact rfl)) | ((with_reducible refine' s_notN ?hq ?_); (case hq => exact rfl))
  | ((with_reducible refine' s_eqNil ?h1 ?h2 ?_); (case h1 => walk_at "hl"); (case h2 => walk_at "hl")) | ((with_reducible refine' s_neNil ?h1 ?h2 ?_); (case h1 => walk_at "hl"); (case h2 => walk_at "hl"))
  | ((with_reducible refine' s_ixL ?h1 ?h2 ?_); (case h1 => walk_at "hl"); (case h2 => walk_at "at")) | ((with_reducible refine' s_ixT ?h1 ?h2 ?_); (case h1 => walk_at "hl"); (case h2 => walk_at "at"))
  | ((with_reducible refine' s_inS ?h1 ?_); (case h1 => walk_at "hl")) | ((with_reducible refine' s_ninS ?h1 ?_); (case h1 => walk_at "hl")) | with_reducible refine s_inW ?_
  | ((with_reducible refine' s_lenL ?h1 ?_); (case h1 => walk_at "hl")) | ((with_reducible refine' s_lenT ?h1 ?_); (case h1 => walk_at "hl"))
  | ((with_reducible refine' s_tyL ?h1 ?_); (case h1 => walk_at "hl"))
  | ((with_reducible refine' s_fldM ?h1 ?h2 ?h3 ?_); (case h1 => walk_at "hl"); (case h2 => walk_at "fok"); (case h3 => walk_at "flk"))
  | ((with_reducible refine' s_setM ?h1 ?h2 ?h3 ?h4 ?_); (case h1 => walk_at "hl"); (case h2 => walk_at "fok"); (case h4 => walk_at "put"); (case h3 => exact Nat.le_of_ble_eq_true rfl))
  | ((with_reducible refine' s_starM ?h1 ?_); (case h1 => walk_at "hl"))
  | ((with_reducible refine' s_recv ?h1 ?h2 ?_); (case h1 => walk_at "hl"); (case h2 => exact rfl))
  | ((with_reducible refine' s_sz ?h1 ?_); (case h1 => (simp; done))))
local macro_rules | `(tactic| walk_at "rd") => `(tactic| repeat (walk_at "rd1"))
local macro_rules | `(tactic| walk_at "fok") => `(tactic| assumption)
local macro_rules | `(tactic| walk_at "flk") => `(tactic| rfl)
local macro_rules | `(tactic| walk_at "put") => `(tactic| exact rfl)

local macro_rules | `(tactic| walk_at "fok") => `(tactic| first | assumption | exact Td.ce (by assumption) (by decide) | exact Td.de (by assumption) (by decide))
local macro_rules | `(tactic| walk_at "or") => `(tactic| grind)
/-- two new desks -/
structure Gr (a : Nat → Addr) (H G : Hp) (b d d2 : Addr) (D D2 : DA) : Prop where
  s : Same H G
  k1 : DeskAt a G d D [] []
  m1 : G D.mv = some (.lst [])
  k2 : DeskAt a G d2 D2 [] []
  m2 : G D2.mv = some (.lst [])
  B : BagD G b 0
  n1 : ∀ x ∈ [d, D.un, D.cs, D.rd, D.ef, D.lg, D.fr, D.mv], H x = none
  n2 : ∀ x ∈ [d2, D2.un, D2.cs, D2.rd, D2.ef, D2.lg, D2.fr, D2.mv], x ∉ [b, d, D.un, D.cs, D.rd, D.ef, D.lg, D.fr, D.mv]
  n3 : ∀ x ∈ [d2, D2.un, D2.cs, D2.rd, D2.ef, D2.lg, D2.fr, D2.mv], H x = none
theorem desk_some {H : Hp} {d : Addr} {D : DA} {names : List Str} {cl : List (Str × Addr)} (h : DeskAt a H d D names cl) : ∀ x ∈ [d, D.un, D.cs, D.rd, D.ef, D.lg, D.fr, D.mv], ∃ o, H x = some o := by
  intro x hx
  simp only [List.mem_cons, List.not_mem_nil, or_false] at hx
  obtain ⟨ms, m1, _⟩ := h.mv
  rcases hx with rfl | rfl | rfl | rfl | rfl | rfl | rfl | rfl
  · exact ⟨_, h.ob⟩
  · exact ⟨_, h.un⟩
  · exact ⟨_, h.cs⟩
  · exact ⟨_, h.rd⟩
  · exact ⟨_, h.ef⟩
  · exact ⟨_, h.lg⟩
  · exact ⟨_, h.fr⟩
  · exact ⟨_, m1⟩
/-- a desk stays where it is not written -/
theorem DeskAt.fr' {H H' : Hp} {d : Addr} {D : DA} {names : List Str} {cl : List (Str × Addr)} {S : List Addr} (h : DeskAt a H d D names cl) (f : Fr H H' S) (hS : ∀ x ∈ [d, D.un, D.cs, D.rd, D.ef, D.lg, D.fr, D.mv], x ∉ S) : DeskAt a H' d D names cl := by
  obtain ⟨ms, m1, m2⟩ := h.mv
  exact ⟨f _ _ h.ob (hS _ (by simp)), f _ _ h.un (hS _ (by simp)), f _ _ h.cs (hS _ (by simp)), f _ _ h.rd (hS _ (by simp)), f _ _ h.ef (hS _ (by simp)), f _ _ h.lg (hS _ (by simp)), f _ _ h.fr (hS _ (by simp)), ⟨ms, f _ _ m1 (hS _ (by simp)), m2⟩, h.nd⟩
theorem Wd.fr' {H H' : Hp} {d pc pn pd : Addr} {D : DA} {cl : List (Str × Addr)} {val : Str → Int} {S : List Addr} (h : Wd a H d D cl val pc pn pd) (f : Fr H H' S) (hS : ∀ x ∈ [d, D.un, D.cs, D.rd, D.ef, D.lg, D.fr, D.mv, pc, pn, pd], x ∉ S) (hc : ∀ c ∈ cl, c.2 ∉ S) : Wd a H' d D cl val pc pn pd :=
  ⟨h.dk.fr' f fun x hx => hS x (by simp only [List.mem_cons, List.not_mem_nil, or_false] at hx ⊢; walk_at "or"), f _ _ h.mv (hS _ (by simp)), fun c hcm => by obtain ⟨dc, e⟩ := h.ce c hcm; exact ⟨dc, f _ _ e (hc c hcm)⟩, h.nd, h.n6, h.ok, f _ _ h.pc (hS _ (by simp)), f _ _ h.pn (hS _ (by simp)), f _ _ h.pd (hS _ (by simp))⟩
/-- what is apart from the start on -/
structure Fxd (G : Hp) (b d : Addr) (D : DA) (pc pn pd : Addr) : Prop where
  bn : b ∉ [d, D.un, D.cs, D.rd, D.ef, D.lg, D.fr, D.mv]
  g1 : ∀ x ∈ [b, d, D.un, D.cs, D.rd, D.ef, D.lg, D.fr, D.mv], ∃ o, G x = some o
  p1 : G pc = none
  p2 : G pn = none
  p3 : G pd = none
  pp : pc ≠ pn
/-- so many cells are made -/
structure Wn (a : Nat → Addr) (G H : Hp) (b : Addr) (n : Nat) (d : Addr) (D : DA) (cl : List (Str × Addr)) (val : Str → Int) (pc pn pd : Addr) (pcs pns : List V) (kv : List (Key × V)) : Prop where
  dk : DeskAt a H d D (cl.map (·.1)) cl
  mv : H D.mv = some (.lst [])
  ce : ∀ c ∈ cl, CellAt a H d c.2 c.1 (val c.1)
  cn : ∀ c ∈ cl, G c.2 = none
  hpc : H pc = some (.lst pcs)
  hpn : H pn = some (.lst pns)
  hpd : H pd = some (.dK kv)
  B : BagD H b n
  fr : Fr G H [b, d, D.un, D.cs, D.rd, D.mv]
section
variable {G H H' : Hp} {b d pc pn pd : Addr} {n n' : Nat} {D : DA} {cl : List (Str × Addr)} {val : Str → Int} {pcs pns : List V} {kv : List (Key × V)}
theorem Wn.free (h : Wn a G H b n d D cl val pc pn pd pcs pns kv) {x : Addr} (hx : H x = none) : G x = none := by
  cases e : G x with
  | none => rfl
  | some o =>
    exfalso
    by_cases hS : x ∈ [b, d, D.un, D.cs, D.rd, D.mv]
    · simp only [List.mem_cons, List.not_mem_nil, or_false] at hS
      obtain ⟨_, _, _, hb, _⟩ := h.B
      have ds := desk_some h.dk
      rcases hS with rfl | hS
      · rw [hb] at hx; cases hx
      · obtain ⟨o, ho⟩ := ds x (by simp only [List.mem_cons, List.not_mem_nil, or_false]; walk_at "or")
        rw [ho] at hx; cases hx
    · rw [h.fr _ _ e hS] at hx; cases hx
theorem Wn.same (h : Wn a G H b n d D cl val pc pn pd pcs pns kv) (s : Same H H') : Wn a G H' b n d D cl val pc pn pd pcs pns kv :=
  ⟨h.dk.same s, s _ _ h.mv, fun c hc => (h.ce c hc).same s, h.cn, s _ _ h.hpc, s _ _ h.hpn, s _ _ h.hpd, h.B.same s, fun x o hx hS => s _ _ (h.fr _ _ hx hS)⟩
theorem Wn.bag (F : Fxd G b d D pc pn pd) (h : Wn a G H b n d D cl val pc pn pd pcs pns kv) (B' : BagD H' b n') (f : Fr H H' [b]) : Wn a G H' b n' d D cl val pc pn pd pcs pns kv := by
  have nb : ∀ {x : Addr}, G x = none → x ≠ b := fun hx => by rintro rfl; obtain ⟨o, ho⟩ := F.g1 _ List.mem_cons_self; rw [ho] at hx; cases hx
  have g : ∀ {x : Addr} {o : HO}, H x = some o → x ≠ b → H' x = some o := fun hx hn => f _ _ hx (by simpa using hn)
  refine ⟨h.dk.fr' f fun x hx => ?_, g h.mv ?_, fun c hc => ?_, h.cn, g h.hpc (nb F.p1), g h.hpn (nb F.p2), g h.hpd (nb F.p3), B', fun x o hx hS => ?_⟩
  · rw [List.mem_singleton]; rintro rfl; exact F.bn hx
  · intro e; exact F.bn (by rw [← e]; simp)
  · obtain ⟨dc, e⟩ := h.ce c hc
    exact ⟨dc, g e (nb (h.cn c hc))⟩
  · refine g (h.fr _ _ hx hS) ?_
    rintro rfl; exact hS (by simp)
theorem Wn.setD (F : Fxd G b d D pc pn pd) (h : Wn a G H b n d D cl val pc pn pd pcs pns kv) (kv' : List (Key × V)) : Wn a G (upd H pd (.dK kv')) b n d D cl val pc pn pd pcs pns kv' := by
  have nb : ∀ {x : Addr}, (∃ o, G x = some o) → x ≠ pd := fun ⟨o, ho⟩ => by rintro rfl; rw [F.p3] at ho; cases ho
  have f : Fr H (upd H pd (.dK kv')) [pd] := fun x o hx hS => by rw [upd_ne (by simpa using hS)]; exact hx
  have g : ∀ {x : Addr} {o : HO}, H x = some o → (∀ k, o ≠ .dK k) → upd H pd (.dK kv') x = some o := fun hx hn => by
    rw [upd_ne (by rintro rfl; rw [h.hpd] at hx; cases hx; exact hn _ rfl)]; exact hx
  obtain ⟨dg, m, k, hb, r⟩ := h.B
  refine ⟨h.dk.fr' f fun x hx => ?_, g h.mv (by intros; simp), fun c hc => ?_, h.cn, g h.hpc (by intros; simp), g h.hpn (by intros; simp), upd_same, ⟨dg, m, k, g hb (by intros; simp), r⟩, fun x o hx hS => ?_⟩
  · rw [List.mem_singleton]
    exact nb (F.g1 x (List.mem_cons_of_mem _ hx))
  · obtain ⟨dc, e⟩ := h.ce c hc
    exact ⟨dc, g e (by intros; simp)⟩
  · rw [upd_ne (nb ⟨_, hx⟩)]; exact h.fr _ _ hx hS
theorem Wn.setP (F : Fxd G b d D pc pn pd) (h : Wn a G H b n d D cl val pc pn pd pcs pns kv) (pcs' : List V) : Wn a G (upd H pc (.lst pcs')) b n d D cl val pc pn pd pcs' pns kv := by
  have nb : ∀ {x : Addr}, (∃ o, G x = some o) → x ≠ pc := fun ⟨o, ho⟩ => by rintro rfl; rw [F.p1] at ho; cases ho
  have f : Fr H (upd H pc (.lst pcs')) [pc] := fun x o hx hS => by rw [upd_ne (by simpa using hS)]; exact hx
  have g : ∀ {x : Addr} {o : HO}, H x = some o → x ≠ pc → upd H pc (.lst pcs') x = some o := fun hx hn => by rw [upd_ne hn]; exact hx
  obtain ⟨dg, m, k, hb, r⟩ := h.B
  refine ⟨h.dk.fr' f fun x hx => ?_, g h.mv (nb (F.g1 _ (by simp))), fun c hc => ?_, h.cn, upd_same, g h.hpn (Ne.symm F.pp), g h.hpd (ne_of h.hpd h.hpc (by intro z; cases z)), ⟨dg, m, k, g hb (nb (F.g1 _ (by simp))), r⟩, fun x o hx hS => ?_⟩
  · rw [List.mem_singleton]
    exact nb (F.g1 x (List.mem_cons_of_mem _ hx))
  · obtain ⟨dc, e⟩ := h.ce c hc
    exact ⟨dc, g e (ne_of e h.hpc (by intro z; cases z))⟩
  · exact g (h.fr _ _ hx hS) (nb ⟨_, hx⟩)
theorem Wn.cell {nm : Str} {c : Addr} {v : Int} (F : Fxd G b d D pc pn pd) (h : Wn a G H b n d D cl val pc pn pd pcs pns kv) (hn : nm ∉ cl.map (·.1)) (dk : DeskAt a H' d D (cl.map (·.1) ++ [nm]) (cl ++ [(nm, c)])) (ce : CellAt a H' d c nm v) (nc : H c = none) (f : Fr H H' [D.un, D.cs, D.rd]) :
    Wn a G H' b n d D (cl ++ [(nm, c)]) (fun s => if s = nm then v else val s) pc pn pd pcs pns kv := by
  obtain ⟨nd1, nd2⟩ := h.dk.nd
  simp only [List.nodup_cons, List.mem_cons, List.not_mem_nil, or_false, not_or] at nd1
  have nb : ∀ {x : Addr}, G x = none → x ∉ [D.un, D.cs, D.rd] := fun {x} hx hS => by
    simp only [List.mem_cons, List.not_mem_nil, or_false] at hS
    have : x ∈ [b, d, D.un, D.cs, D.rd, D.ef, D.lg, D.fr, D.mv] := by simp only [List.mem_cons, List.not_mem_nil, or_false]; walk_at "or"
    obtain ⟨o, ho⟩ := F.g1 x this
    rw [ho] at hx; cases hx
  obtain ⟨dg, m, k, hb, r⟩ := h.B
  have bn := F.bn
  simp only [List.mem_cons, List.not_mem_nil, or_false, not_or] at bn
  refine ⟨by rw [List.map_append]; exact dk, f _ _ h.mv ?_, fun c' hc' => ?_, fun c' hc' => ?_, f _ _ h.hpc (nb F.p1), f _ _ h.hpn (nb F.p2), f _ _ h.hpd (nb F.p3), ⟨dg, m, k, f _ _ hb (by simp [bn]), r⟩, fun x o hx hS => f _ _ (h.fr _ _ hx hS) ?_⟩
  · have e1 := ne_of h.mv h.dk.cs (by intro z; cases z)
    have e2 := ne_of h.mv h.dk.rd (by intro z; cases z)
    have e3 : D.mv ≠ D.un := fun e => nd1.1.2.2.2 e.symm
    simp [e1, e2, e3]
  · rcases List.mem_append.mp hc' with q | q
    · have : c'.1 ≠ nm := fun e => hn (List.mem_map.mpr ⟨c', q, e⟩)
      simp only [if_neg this]
      obtain ⟨dc, e⟩ := h.ce c' q
      exact ⟨dc, f _ _ e (nb (h.cn c' q))⟩
    · rw [List.mem_singleton.mp q]
      simp only [if_true]
      exact ce
  · rcases List.mem_append.mp hc' with q | q
    · exact h.cn c' q
    · rw [List.mem_singleton.mp q]
      exact h.free nc
  · simp only [List.mem_cons, List.not_mem_nil, or_false, not_or] at hS ⊢
    exact ⟨hS.2.2.1, hS.2.2.2.1, hS.2.2.2.2.1⟩
theorem Wn.wb (F : Fxd G b d D pc pn pd) (h : Wn a G H b n d D cl val pc pn pd (cl.map fun c => .ref c.2) (cl.map fun c => .str c.1) (duesK cl val)) (nd : (cl.map (·.1)).Nodup) (n6 : cl.length ≤ 6) (n0 : 0 < cl.length) (ok : ∀ c ∈ cl, NameOk 1000 c.1) : Wb a H b n d D cl val pc pn pd := by
  have nb : ∀ {x y : Addr}, G x = none → (∃ o, G y = some o) → x ≠ y := fun hx ⟨o, ho⟩ => by rintro rfl; rw [ho] at hx; cases hx
  obtain ⟨nd1, nd2⟩ := h.dk.nd
  refine ⟨⟨h.dk, h.mv, h.ce, nd, n6, ok, h.hpc, h.hpn, h.hpd⟩, h.B, ?_, ⟨nb F.p3 (F.g1 _ (by simp)), nb F.p3 (F.g1 _ (by simp))⟩, n0⟩
  have bn := F.bn
  simp only [List.mem_cons, List.not_mem_nil, or_false, not_or] at bn
  have gb := F.g1 b (by simp)
  have gu := F.g1 D.un (by simp)
  have ge := F.g1 D.ef (by simp)
  have gl := F.g1 D.lg (by simp)
  have gf := F.g1 D.fr (by simp)
  have gm := F.g1 D.mv (by simp)
  simp only [List.nodup_cons, List.mem_cons, List.not_mem_nil, or_false, not_or] at nd1 ⊢
  exact ⟨⟨Ne.symm (nb F.p1 gb), Ne.symm (nb F.p2 gb), bn.2.1, bn.2.2.2.2.1, bn.2.2.2.2.2.1, bn.2.2.2.2.2.2.1, bn.2.2.2.2.2.2.2⟩, ⟨F.pp, nb F.p1 gu, nb F.p1 ge, nb F.p1 gl, nb F.p1 gf, nb F.p1 gm⟩, ⟨nb F.p2 gu, nb F.p2 ge, nb F.p2 gl, nb F.p2 gf, nb F.p2 gm⟩, nd1⟩
end
theorem dues_new {nm : Str} {c : Addr} {v : Int} {val : Str → Int} {cl : List (Str × Addr)} (h : nm ∉ cl.map (·.1)) : putK (duesK cl val) (.inr nm) (.int v) = duesK (cl ++ [(nm, c)]) (fun s => if s = nm then v else val s) := by
  have e : (duesK cl val).any (fun kv => decide (kv.1 = (.inr nm : Key))) = false := by
    rw [Bool.eq_false_iff]
    intro q
    obtain ⟨y, hy, hq⟩ := List.any_eq_true.mp q
    obtain ⟨c', hc', rfl⟩ := List.mem_map.mp hy
    have : c'.1 = nm := by have := of_decide_eq_true hq; injection this
    exact h (List.mem_map.mpr ⟨c', hc', this⟩)
  unfold putK
  rw [if_neg (by rw [e]; decide)]
  unfold duesK
  rw [List.map_append]
  congr 1
  · refine List.map_congr_left fun y hy => ?_
    have : y.1 ≠ nm := fun e => h (List.mem_map.mpr ⟨y, hy, e⟩)
    simp [this]
  · simp
theorem gr_mk {H H1 G : Hp} {b d dx d2 dx2 : Addr} {D D2 : DA} (B : BagD H b 0) (nd : H d = none) (ndx : H dx = none) (hne : dx ≠ d)
    (k1 : DeskAt a H1 d D [] []) (m1 : H1 D.mv = some (.lst [])) (f1 : ∀ x o, upd (upd H dx (.own d)) d (.ins (a 3) dx []) x = some o → x ≠ d → H1 x = some o) (nn1 : ∀ x ∈ [D.un, D.cs, D.rd, D.ef, D.lg, D.fr, D.mv], upd (upd H dx (.own d)) d (.ins (a 3) dx []) x = none)
    (nd2 : H1 d2 = none) (ndx2 : H1 dx2 = none) (hne2 : dx2 ≠ d2)
    (k2 : DeskAt a G d2 D2 [] []) (m2 : G D2.mv = some (.lst [])) (f2 : ∀ x o, upd (upd H1 dx2 (.own d2)) d2 (.ins (a 3) dx2 []) x = some o → x ≠ d2 → G x = some o) (nn2 : ∀ x ∈ [D2.un, D2.cs, D2.rd, D2.ef, D2.lg, D2.fr, D2.mv], upd (upd H1 dx2 (.own d2)) d2 (.ins (a 3) dx2 []) x = none) : Gr a H G b d d2 D D2 := by
  have s1 : Same H H1 := fun x o hx => f1 _ _ (by rw [upd_ne (by rintro rfl; rw [nd] at hx; cases hx), upd_ne (by rintro rfl; rw [ndx] at hx; cases hx)]; exact hx) (by rintro rfl; rw [nd] at hx; cases hx)
  have s2 : Same H1 G := fun x o hx => f2 _ _ (by rw [upd_ne (by rintro rfl; rw [nd2] at hx; cases hx), upd_ne (by rintro rfl; rw [ndx2] at hx; cases hx)]; exact hx) (by rintro rfl; rw [nd2] at hx; cases hx)
  have q1 : ∀ x ∈ [d, D.un, D.cs, D.rd, D.ef, D.lg, D.fr, D.mv], H x = none := fun x hx => by
    rcases List.mem_cons.mp hx with rfl | hx
    · exact nd
    · exact (upd_non (upd_non (nn1 x hx)).2).2
  have q2 : ∀ x ∈ [d2, D2.un, D2.cs, D2.rd, D2.ef, D2.lg, D2.fr, D2.mv], H1 x = none := fun x hx => by
    rcases List.mem_cons.mp hx with rfl | hx
    · exact nd2
    · exact (upd_non (upd_non (nn2 x hx)).2).2
  refine ⟨s1.trans s2, k1.same s2, s2 _ _ m1, k2, m2, (B.same s1).same s2, q1, fun x hx hy => ?_, fun x hx => s1.free (q2 x hx)⟩
  have e := q2 x hx
  rcases List.mem_cons.mp hy with rfl | hy
  · obtain ⟨_, _, _, hb, _⟩ := B
    rw [s1 _ _ hb] at e; cases e
  · obtain ⟨o, ho⟩ := desk_some k1 x hy
    rw [ho] at e; cases e
end
end Tr
set_option maxHeartbeats 4000000

namespace Tr
open PySem L2
section
variable {P : Program} {w : World} {K : PySem.W.Frag} {mg : Str → Option Value} {base : Heap} {a : Nat → Addr} {fd : Nat → FuncData} {tk : Nat → Tok}
local macro_rules | `(tactic| walk_at "ne") => `(tactic| first | assumption | (exact Ne.symm (by assumption)) | (refine ne_of_none (by assumption) (by assumption)) | (refine Ne.symm (ne_of_none (by assumption) (by assumption))))
local macro_rules | `(tactic| walk_at "hl") => `(tactic| first | assumption | with_reducible exact upd_same | ((with_reducible refine' Eq.trans (upd_ne ?hne) ?hrest); (case hne => walk_at "ne"); (case hrest => walk_at "hl")) | (refine' get_same ?hs ?hg; (case hs => assumption); (case hg => assumption)))
local macro_rules | `(tactic| walk_at "at") => `(tactic| first | with_reducible exact atI_0 _ _ | with_reducible exact atI_1 _ _ _ | with_reducible exact atI_2 _ _ _ _ | with_reducible exact atI_3 _ _ _ _ _ | assumption)
local macro_rules | `(tactic| walk_at "rd1") => `(tactic| first
  | with_reducible refine s_seq ?_ | with_reducible refine s_next ?_ | with_reducible refine s_if ?_ | with_reducible refine s_ret ?_ | with_reducible refine s_retN ?_ | with_reducible refine s_drop ?_ | with_reducible refine s_asg ?_ | with_reducible refine s_brk ?_ | with_reducible refine s_cont ?_
  | with_reducible refine s_gname ?_ | with_reducible refine s_c ?_ | with_reducible refine s_op ?_ | with_reducible refine s_un ?_ | with_reducible refine s_neg ?_ | with_reducible refine s_test ?_ | with_reducible refine s_tb ?_ | with_reducible refine s_not ?_ | with_reducible refine s_and ?_ | with_reducible refine s_or ?_ | with_reducible refine s_yes ?_
  | ((with_reducible refine' s_var ?hv ?_); (case hv => exact rfl))
  | with_reducible refine s_ifx ?_ | with_reducible refine s_andV ?_ | with_reducible refine s_orV ?_ | with_reducible refine s_notV ?_ | with_reducible refine s_chain ?_ | with_reducible refine s_nil ?_ | with_reducible refine s_cons ?_ | with_reducible refine s_lst ?_ | with_reducible refine s_tup ?_ | with_reducible refine s_cb ?_ | with_reducible refine s_call ?_ | with_reducible refine s_meth ?_ | with_reducible refine s_make ?_
  | with_reducible refine s_dnewK ?_ | with_reducible refine s_sl ?_ | with_reducible refine s_po0 ?_ | with_reducible refine s_po1 ?_ | with_reducible refine s_bm ?_ | with_reducible refine s_bm0 ?_
  | with_reducible refine s_bl ?_ | with_reducible refine s_int ?_ | with_reducible refine s_I0 ?_ | with_reducible refine s_addI ?_ | with_reducible refine s_intI ?_ | with_reducible refine s_intB ?_
  | with_reducible refine s_m1 ?_ | with_reducible refine s_lc ?_ | with_reducible refine s_ilist ?_ | with_reducible refine s_for ?_ | with_reducible refine s_irng ?_ | with_reducible refine s_match ?_ | with_reducible refine s_starT ?_ | with_reducible refine s_isS ?_ | with_reducible refine s_isiSS ?_ | with_reducible refine s_fldU ?_ | with_reducible refine s_sfldU ?_
  | ((with_reducible refine' s_eqS ?hq ?_); (case hq => exact rfl)) | ((with_reducible refine' s_neS ?hq ?_); (case hq => exact rfl))
  | ((with_reducible refine' s_isN ?hq ?_); (case hq => exact rfl)) | ((with_reducible refine' s_notN ?hq ?_); (case hq => exact rfl))
  | ((with_reducible refine' s_eqNil ?h1 ?h2 ?_); (case h1 => walk_at "hl"); (case h2 => walk_at "hl")) | ((with_reducible refine' s_neNil ?h1 ?h2 ?_); (case h1 => walk_at "hl"); (case h2 => walk_at "hl"))
  | ((with_reducible refine' s_ixL ?h1 ?h2 ?_); (case h1 => walk_at "hl"); (case h2 => walk_at "at")) | ((with_reducible refine' s_ixT ?h1 ?h2 ?_); (case h1 => walk_at "hl"); (case h2 => walk_at "at"))
  | ((with_reducible refine' s_inS ?h1 ?_); (case h1 => walk_at "hl")) | ((with_reducible refine' s_ninS ?h1 ?_); (case h1 => walk_at "hl")) | with_reducible refine s_inW ?_
  | ((with_reducible refine' s_lenL ?h1 ?_); (case h1 => walk_at "hl")) | ((with_reducible refine' s_lenT ?h1 ?_); (case h1 => walk_at "hl"))
  | ((with_reducible refine' s_tyL ?h1 ?_); (case h1 => walk_at "hl"))
  | ((with_reducible refine' s_fldM ?h1 ?h2 ?h3 ?_); (case h1 => walk_at "hl"); (case h2 => walk_at "fok"); (case h3 => walk_at "flk"))
  | ((with_reducible refine' s_setM ?h1 ?h2 ?h3 ?h4 ?_); (case h1 => walk_at "hl"); (case h2 => walk_at "fok"); (case h4 => walk_at "put"); (case h3 => exact Nat.le_of_ble_eq_true rfl))
  | ((with_reducible refine' s_starM ?h1 ?_); (case h1 => walk_at "hl"))
  | ((with_reducible refine' s_recv ?h1 ?h2 ?_); (case h1 => walk_at "hl"); (case h2 => exact rfl))
  | ((with_reducible refine' s_sz ?h1 ?_); (case h1 => (simp; done))))
local macro_rules | `(tactic| walk_at "rd") => `(tactic| repeat (walk_at "rd1"))
local macro_rules | `(tactic| walk_at "fok") => `(tactic| assumption)
local macro_rules | `(tactic| walk_at "flk") => `(tactic| rfl)
local macro_rules | `(tactic| walk_at "put") => `(tactic| exact rfl)

local macro_rules | `(tactic| walk_at "fok") => `(tactic| first | assumption | exact Td.ce (by assumption) (by decide) | exact Td.de (by assumption) (by decide))
theorem dp_strs {H : Hp} : ∀ l : List Str, DpAll K H (l.map V.str) (l.map PyData.str)
  | [] => .nil
  | z :: l => .cons (.str z) (dp_strs l)
theorem shaped_strs : ∀ l : List Str, (∀ z ∈ l, PyData.strOk z = true) → PyData.canLayAll0 (l.map PyData.str) = true ∧ PyData.depthAll (l.map PyData.str) ≤ 0
  | [], _ => ⟨rfl, by simp [PyData.depthAll]⟩
  | z :: l, h => by
    obtain ⟨i1, i2⟩ := shaped_strs l fun y hy => h y (List.mem_cons_of_mem _ hy)
    have j1 := h z (by simp)
    exact ⟨by simp [PyData.canLayAll0, PyData.canLay0, i1, j1], by simp only [List.map_cons, PyData.depthAll, PyData.depth]; omega⟩
theorem shaped_s {z : Str} (h : PyData.strOk z = true) : SeqAt.shaped (.str z) = true := by
  unfold SeqAt.shaped
  simp [PyData.canLay0, PyData.depth, h]
theorem shaped_l {l : List Str} (h : ∀ z ∈ l, PyData.strOk z = true) : SeqAt.shaped (.list (l.map PyData.str)) = true ∧ SeqAt.shaped (.tuple (l.map PyData.str)) = true := by
  obtain ⟨i1, i2⟩ := shaped_strs l h
  unfold SeqAt.shaped
  exact ⟨by simp only [PyData.canLay0, PyData.depth, i1]; simp; omega, by simp only [PyData.canLay0, PyData.depth, i1]; simp; omega⟩
/-- the odd values: s0 a text that is no name, t a tuple of one name, q a list of one -/
structure OddAt (H : Hp) (po t q : Addr) (s0 n0 nl : Str) : Prop where
  po : H po = some (.lst [.str s0, .int 0, .bl true, .non, .ref t, .ref q])
  ht : H t = some (.tup [.str n0])
  hq : H q = some (.lst [.str nl])
theorem OddAt.fr {H H' : Hp} {po t q : Addr} {s0 n0 nl : Str} {S : List Addr} (h : OddAt H po t q s0 n0 nl) (f : Fr H H' S) (hS : ∀ x ∈ [po, t, q], x ∉ S) : OddAt H' po t q s0 n0 nl := ⟨f _ _ h.po (hS _ (by simp)), f _ _ h.ht (hS _ (by simp)), f _ _ h.hq (hS _ (by simp))⟩
theorem OddAt.same {H H' : Hp} {po t q : Addr} {s0 n0 nl : Str} (h : OddAt H po t q s0 n0 nl) (f : Same H H') : OddAt H' po t q s0 n0 nl := ⟨f _ _ h.po, f _ _ h.ht, f _ _ h.hq⟩
def oddL (t q : Addr) (s0 : Str) : List V := [.str s0, .int 0, .bl true, .non, .ref t, .ref q]
theorem odd_cases {t q : Addr} {s0 : Str} {x : V} {i : Nat} (h : (oddL t q s0)[i]? = some x) : x = .str s0 ∨ x = .int 0 ∨ x = .bl true ∨ x = .non ∨ x = .ref t ∨ x = .ref q := by
  have := List.mem_of_getElem? h
  simpa [oddL] using this
theorem odd_ne {H : Hp} {po t q : Addr} {s0 n0 nl nm : Str} {x : V} (h : OddAt H po t q s0 n0 nl) (hx : x = .str s0 ∨ x = .int 0 ∨ x = .bl true ∨ x = .non ∨ x = .ref t ∨ x = .ref q) (hn : s0 ≠ nm) (o1 : PyData.strOk nm = true) (o2 : PyData.strOk n0 = true) (o3 : PyData.strOk nl = true) :
    x ≠ .str nm ∧ ∀ {H' : Hp} {Q' : VK}, Same H H' → Q' (.bl false) H' → rEqU K (.str nm) x H' Q' := by
  rcases hx with rfl | rfl | rfl | rfl | rfl | rfl
  · exact ⟨fun e => hn (by injection e), fun s q => s_eqS rfl (by rw [decide_eq_false (fun e => hn (by injection e with e; exact e.symm))]; exact q)⟩
  · exact ⟨(nomatch ·), fun s q => s_eqS rfl (by rw [decide_eq_false (nomatch ·)]; exact q)⟩
  · exact ⟨(nomatch ·), fun s q => s_eqS rfl (by rw [decide_eq_false (nomatch ·)]; exact q)⟩
  · exact ⟨(nomatch ·), fun s q => s_eqS rfl (by rw [decide_eq_false (nomatch ·)]; exact q)⟩
  · refine ⟨(nomatch ·), fun s qq => ?_⟩
    have ht := s _ _ h.ht
    unfold rEqU
    rw [if_neg (by simp [scal])]
    simp only [ht]
    exact ⟨.str nm, .tuple ([n0].map PyData.str), .str _, .tup (SqT.of ht) (dp_strs [n0]), shaped_s o1, (shaped_l (l := [n0]) (by simpa using o2)).2, by simpa [PyData.eqv] using qq⟩
  · refine ⟨(nomatch ·), fun s qq => ?_⟩
    have hq := s _ _ h.hq
    unfold rEqU
    rw [if_neg (by simp [scal])]
    simp only [hq]
    exact ⟨.str nm, .list ([nl].map PyData.str), .str _, .lst (SqL.of hq) (dp_strs [nl]), shaped_s o1, (shaped_l (l := [nl]) (by simpa using o3)).1, by simpa [PyData.eqv] using qq⟩
theorem odd_eq {H : Hp} {po t q : Addr} {s0 n0 nl : Str} {x : V} (h : OddAt H po t q s0 n0 nl) (hx : x = .str s0 ∨ x = .int 0 ∨ x = .bl true ∨ x = .non ∨ x = .ref t ∨ x = .ref q) (o2 : PyData.strOk n0 = true) (o3 : PyData.strOk nl = true) :
    ∀ {H' : Hp} {Q' : VK}, Same H H' → Q' (.bl true) H' → rEqU K x x H' Q' := by
  rcases hx with rfl | rfl | rfl | rfl | rfl | rfl
  · exact fun s q => s_eqS rfl (by rw [decide_eq_true rfl]; exact q)
  · exact fun s q => s_eqS rfl (by rw [decide_eq_true rfl]; exact q)
  · exact fun s q => s_eqS rfl (by rw [decide_eq_true rfl]; exact q)
  · exact fun s q => s_eqS rfl (by rw [decide_eq_true rfl]; exact q)
  · intro H' Q' s qq
    have ht := s _ _ h.ht
    unfold rEqU
    rw [if_neg (by simp [scal])]
    simp only [ht]
    have d1 : Dp K H' (.ref t) (.tuple ([n0].map PyData.str)) := .tup (SqT.of ht) (dp_strs [n0])
    have sh := (shaped_l (l := [n0]) (by simpa using o2)).2
    exact ⟨_, _, d1, d1, sh, sh, by rw [SeqAt.eqv_refl _ (SeqAt.canLay_of_shaped sh)]; exact qq⟩
  · intro H' Q' s qq
    have hq := s _ _ h.hq
    unfold rEqU
    rw [if_neg (by simp [scal])]
    simp only [hq]
    have d1 : Dp K H' (.ref q) (.list ([nl].map PyData.str)) := .lst (SqL.of hq) (dp_strs [nl])
    have sh := (shaped_l (l := [nl]) (by simpa using o3)).1
    exact ⟨_, _, d1, d1, sh, sh, by rw [SeqAt.eqv_refl _ (SeqAt.canLay_of_shaped sh)]; exact qq⟩
theorem inV_flat {x : V} (hx : x = .int 0 ∨ x = .bl true ∨ x = .non) : ∀ l : List Str, inV x (l.map V.str) = false
  | [] => rfl
  | z :: l => by
    have ih := inV_flat hx l
    unfold inV at ih ⊢
    rw [List.map_cons, List.any_cons, ih]
    rcases hx with rfl | rfl | rfl <;> rfl
theorem odd_in {H : Hp} {po t q un : Addr} {s0 n0 nl : Str} {x : V} {l : List Str} (h : OddAt H po t q s0 n0 nl) (hx : x = .str s0 ∨ x = .int 0 ∨ x = .bl true ∨ x = .non ∨ x = .ref t ∨ x = .ref q) (hu : H un = some (.lst (l.map V.str))) (hn : s0 ∉ l) (ok : ∀ z ∈ l, PyData.strOk z = true) (o2 : PyData.strOk n0 = true) (o3 : PyData.strOk nl = true) :
    ∀ {Q' : VK}, Q' (.bl false) H → rInUD K x (.ref un) H Q' := by
  rcases hx with rfl | rfl | rfl | rfl | rfl | rfl
  · exact fun q => .inl (s_inS hu (by rw [show l.contains s0 = false from by simpa using hn]; exact q))
  · exact fun q => .inl (s_inL hu rfl (flat_strs _) (by rw [inV_flat (.inl rfl)]; exact q))
  · exact fun q => .inl (s_inL hu rfl (flat_strs _) (by rw [inV_flat (.inr (.inl rfl))]; exact q))
  · exact fun q => .inl (s_inL hu rfl (flat_strs _) (by rw [inV_flat (.inr (.inr rfl))]; exact q))
  · intro Q' qq
    refine .inr ⟨_, _, .tup (SqT.of h.ht) (dp_strs [n0]), .lst (SqL.of hu) (dp_strs l), (shaped_l (l := [n0]) (by simpa using o2)).2, (shaped_l ok).1, ?_⟩
    have e : ((l.map PyData.str).any fun z => PyData.eqv z (.tuple ([n0].map PyData.str))) = false := by
      rw [List.any_eq_false]
      intro y hy
      obtain ⟨z, _, rfl⟩ := List.mem_map.mp hy
      simp [PyData.eqv]
    rw [e]
    exact qq
  · intro Q' qq
    refine .inr ⟨_, _, .lst (SqL.of h.hq) (dp_strs [nl]), .lst (SqL.of hu) (dp_strs l), (shaped_l (l := [nl]) (by simpa using o3)).1, (shaped_l ok).1, ?_⟩
    have e : ((l.map PyData.str).any fun z => PyData.eqv z (.list ([nl].map PyData.str))) = false := by
      rw [List.any_eq_false]
      intro y hy
      obtain ⟨z, _, rfl⟩ := List.mem_map.mp hy
      simp [PyData.eqv]
    rw [e]
    exact qq
theorem sum_mem : ∀ {l : List Nat} {n : Nat}, n ∈ l → n ≤ l.sum
  | x :: l, n, h => by
    rw [List.sum_cons]
    rcases List.mem_cons.mp h with rfl | h
    · omega
    · have := sum_mem h
      omega
theorem joined_not {l : List Str} : (Txt.join (Str.ofString "") l ++ Str.ofString "x") ∉ l := by
  intro h
  have := sum_mem (List.mem_map.mpr ⟨_, h, rfl⟩ : (Txt.join (Str.ofString "") l ++ Str.ofString "x").length ∈ l.map (·.length))
  rw [len_app, (join_e l).1] at this
  have e : (Str.ofString "x").length = 1 := by decide
  omega
theorem fr_free {G H : Hp} {b x : Addr} {n : Nat} (f : Fr G H [b]) (B : BagD H b n) (hx : H x = none) : G x = none := by
  cases e : G x with
  | none => rfl
  | some o =>
    by_cases hb : x = b
    · obtain ⟨_, _, _, h, _⟩ := B
      rw [hb, h] at hx; cases hx
    · rw [f _ _ e (by simpa using hb)] at hx; cases hx
theorem wn_mk {H G Hb : Hp} {b d d2 pc pn pd : Addr} {D D2 : DA} {n : Nat} {pns : List V} (GR : Gr a H G b d d2 D D2) (bn : b ∉ [d, D.un, D.cs, D.rd, D.ef, D.lg, D.fr, D.mv]) (f : Fr G Hb [b]) (B : BagD Hb b n) (npn : G pn = none) (hpn : Hb pn = some (.lst pns)) (npd : Hb pd = none) (npc : upd Hb pd (.dK []) pc = none) :
    Fxd G b d D pc pn pd ∧ Wn a G (upd (upd Hb pd (.dK [])) pc (.lst [])) b n d D [] (fun _ => 0) pc pn pd [] pns [] := by
  obtain ⟨npc1, npc2⟩ := upd_non npc
  have gd : G pd = none := fr_free f B npd
  have gc : G pc = none := fr_free f B npc2
  have hpc_pn : pc ≠ pn := by rintro rfl; rw [hpn] at npc2; cases npc2
  have s1 : Same Hb (upd (upd Hb pd (.dK [])) pc (.lst [])) := (Same.new npd).trans (Same.new npc)
  refine ⟨⟨bn, fun x hx => ?_, gc, npn, gd, hpc_pn⟩, ⟨?_, s1 _ _ (f _ _ GR.m1 ?_), by simp, by simp, upd_same, s1 _ _ hpn, by rw [upd_ne (Ne.symm npc1)]; exact upd_same, B.same s1, fun x o hx hS => s1 _ _ (f _ _ hx ?_)⟩⟩
  · rcases List.mem_cons.mp hx with rfl | hx
    · obtain ⟨_, _, _, h, _⟩ := GR.B
      exact ⟨_, h⟩
    · exact desk_some GR.k1 x hx
  · refine (GR.k1.fr' f fun x hx => ?_).same s1
    rw [List.mem_singleton]; rintro rfl; exact bn hx
  · rw [List.mem_singleton]; intro e; exact bn (by rw [← e]; simp)
  · rw [List.mem_singleton]; rintro rfl; exact hS (by simp)
theorem dues_any {cl : List (Str × Addr)} {val : Str → Int} {nm : Str} {x y : Addr} : duesK (cl ++ [(nm, x)]) val = duesK (cl ++ [(nm, y)]) val := by simp [duesK]
theorem two_apart {H G H2 G2 : Hp} {b d d2 pc pn pd z : Addr} {D D2 : DA} {n : Nat} {cl : List (Str × Addr)} {val : Str → Int} {pcs pns : List V} {kv : List (Key × V)} (GR : Gr a H G b d d2 D D2) (F : Fxd G b d D pc pn pd) (W : Wn a G H2 b n d D cl val pc pn pd pcs pns kv) (s : Same H2 G2) (hz : z = D.mv ∨ G2 z = none) :
    (∀ y ∈ [d2, D2.un, D2.cs, D2.rd, D2.ef, D2.lg, D2.fr, D2.mv], (∀ x ∈ [d, D.un, D.cs, D.rd, D.ef, D.lg, D.fr, z, pc, pn, pd], x ≠ y) ∧ ∀ c ∈ cl, c.2 ≠ y) ∧ DeskAt a G2 d2 D2 [] [] ∧ G2 D2.mv = some (.lst []) := by
  have out : ∀ x ∈ [d2, D2.un, D2.cs, D2.rd, D2.ef, D2.lg, D2.fr, D2.mv], x ∉ [b, d, D.un, D.cs, D.rd, D.mv] := fun x hx hS => GR.n2 x hx (by
    simp only [List.mem_cons, List.not_mem_nil, or_false] at hS ⊢
    rcases hS with h | h | h | h | h | h <;> simp [h])
  have k2 : DeskAt a G2 d2 D2 [] [] := (GR.k2.fr' W.fr out).same s
  refine ⟨fun y hy => ⟨fun x hx e => ?_, fun c hc e => ?_⟩, k2, s _ _ (W.fr _ _ GR.m2 (out _ (by simp)))⟩
  · subst e
    obtain ⟨o, ho⟩ := desk_some GR.k2 x hy
    obtain ⟨o2, ho2⟩ := desk_some k2 x hy
    have h2 := GR.n2 x hy
    simp only [List.mem_cons, List.not_mem_nil, or_false, not_or] at hx h2
    rcases hx with e | e | e | e | e | e | e | e | e | e | e
    · exact h2.2.1 e
    · exact h2.2.2.1 e
    · exact h2.2.2.2.1 e
    · exact h2.2.2.2.2.1 e
    · exact h2.2.2.2.2.2.1 e
    · exact h2.2.2.2.2.2.2.1 e
    · exact h2.2.2.2.2.2.2.2.1 e
    · rcases hz with hz | hz
      · exact h2.2.2.2.2.2.2.2.2 (e.trans hz)
      · rw [← e, ho2] at hz; cases hz
    · have := F.p1; rw [← e, ho] at this; cases this
    · have := F.p2; rw [← e, ho] at this; cases this
    · have := F.p3; rw [← e, ho] at this; cases this
  · obtain ⟨o, ho⟩ := desk_some GR.k2 y hy
    have := W.cn c hc
    rw [e, ho] at this; cases this
/-- what stood ahead of it all stays -/
theorem ground_fr {H G H2 G2 H7 : Hp} {b d d2 pc pn pd : Addr} {D D2 : DA} {n : Nat} {cl : List (Str × Addr)} {val : Str → Int} {pcs pns : List V} {kv : List (Key × V)} (GR : Gr a H G b d d2 D D2) (F : Fxd G b d D pc pn pd) (W : Wn a G H2 b n d D cl val pc pn pd pcs pns kv) (s : Same H2 G2) (f : Fr G2 H7 (b :: d :: D.mv :: pc :: pd :: cl.map (·.2))) : Fr H H7 [b] := by
  intro x o hx hS
  have xb : x ≠ b := by simpa using hS
  have ne : ∀ y ∈ [d, D.un, D.cs, D.rd, D.ef, D.lg, D.fr, D.mv], x ≠ y := fun y hy e => by have := GR.n1 y hy; rw [← e, hx] at this; cases this
  have gx := GR.s _ _ hx
  have h2 := s _ _ (W.fr _ _ gx (by simp [xb, ne d (by simp), ne D.un (by simp), ne D.cs (by simp), ne D.rd (by simp), ne D.mv (by simp)]))
  refine f _ _ h2 ?_
  simp only [List.mem_cons, not_or]
  refine ⟨xb, ne d (by simp), ne D.mv (by simp), fun e => ?_, fun e => ?_, fun hm => ?_⟩
  · have := F.p1; rw [← e, gx] at this; cases this
  · have := F.p3; rw [← e, gx] at this; cases this
  · obtain ⟨c, hc, rfl⟩ := List.mem_map.mp hm
    have := W.cn c hc
    rw [gx] at this; cases this
theorem atI_last {xs : List V} {v : V} (h0 : 0 < xs.length) (h : xs[xs.length - 1]? = some v) : atI xs (-1) = some v := by
  unfold atI
  rw [ixN_last h0]
  exact h
/-- what the first desk's puts write -/
def s2L (b d : Addr) (D : DA) (pc pd : Addr) (cl : List (Str × Addr)) : List Addr := b :: d :: D.mv :: pc :: pd :: cl.map (·.2)
theorem s2_occ {H : Hp} {b d pc pn pd : Addr} {n : Nat} {D : DA} {cl : List (Str × Addr)} {val : Str → Int} (W : Wb a H b n d D cl val pc pn pd) : ∀ x ∈ s2L b d D pc pd cl, ∃ o, H x = some o := by
  intro x hx
  unfold s2L at hx
  simp only [List.mem_cons] at hx
  rcases hx with rfl | rfl | rfl | rfl | rfl | hx
  · obtain ⟨_, _, _, h, _⟩ := W.B
    exact ⟨_, h⟩
  · exact ⟨_, W.w.dk.ob⟩
  · exact ⟨_, W.w.mv⟩
  · exact ⟨_, W.w.pc⟩
  · exact ⟨_, W.w.pd⟩
  · obtain ⟨c, hc, rfl⟩ := List.mem_map.mp hx
    obtain ⟨dc, e⟩ := W.w.ce c hc
    exact ⟨_, e⟩
theorem s2_two {H G H2 : Hp} {b d d2 pc pn pd : Addr} {D D2 : DA} {n : Nat} {cl : List (Str × Addr)} {val : Str → Int} {pcs pns : List V} {kv : List (Key × V)} (GR : Gr a H G b d d2 D D2) (F : Fxd G b d D pc pn pd) (W : Wn a G H2 b n d D cl val pc pn pd pcs pns kv) : ∀ x ∈ [d2, D2.un, D2.cs, D2.rd, D2.ef, D2.lg, D2.fr, D2.mv], x ∉ s2L b d D pc pd cl := by
  intro x hx hS
  obtain ⟨o, ho⟩ := desk_some GR.k2 x hx
  have h2 := GR.n2 x hx
  unfold s2L at hS
  simp only [List.mem_cons, List.not_mem_nil, or_false, not_or] at hS h2
  rcases hS with e | e | e | rfl | rfl | hS
  · exact h2.1 e
  · exact h2.2.1 e
  · exact h2.2.2.2.2.2.2.2.2 e
  · rw [F.p1] at ho; cases ho
  · rw [F.p3] at ho; cases ho
  · obtain ⟨c, hc, rfl⟩ := List.mem_map.mp hS
    rw [W.cn c hc] at ho; cases ho
end
end Tr
set_option maxHeartbeats 4000000

namespace Tr
open PySem L2
section
variable {P : Program} {w : World} {K : PySem.W.Frag} {mg : Str → Option Value} {base : Heap} {a : Nat → Addr} {fd : Nat → FuncData} {tk : Nat → Tok}
local macro_rules | `(tactic| walk_at "ne") => `(tactic| first | assumption | (exact Ne.symm (by assumption)) | (refine ne_of_none (by assumption) (by assumption)) | (refine Ne.symm (ne_of_none (by assumption) (by assumption))))
local macro_rules | `(tactic| walk_at "hl") => `(tactic| first | assumption | with_reducible exact upd_same | ((with_reducible refine' Eq.trans (upd_ne ?hne) ?hrest); (case hne => walk_at "ne"); (case hrest => walk_at "hl")) | (refine' get_same ?hs ?hg; (case hs => assumption); (case hg => assumption)))
local macro_rules | `(tactic| walk_at "at") => `(tactic| first | with_reducible exact atI_0 _ _ | with_reducible exact atI_1 _ _ _ | with_reducible exact atI_2 _ _ _ _ | with_reducible exact atI_3 _ _ _ _ _ | assumption)
local macro_rules | `(tactic| walk_at "rd1") => `(tactic| first
  | with_reducible refine s_seq ?_ | with_reducible refine s_next ?_ | with_reducible refine s_if ?_ | with_reducible refine s_ret ?_ | with_reducible refine s_retN ?_ | with_reducible refine s_drop ?_ | with_reducible refine s_asg ?_ | with_reducible refine s_brk ?_ | with_reducible refine s_cont ?_
  | with_reducible refine s_gname ?_ | with_reducible refine s_c ?_ | with_reducible refine s_op ?_ | with_reducible refine s_un ?_ | with_reducible refine s_neg ?_ | with_reducible refine s_test ?_ | with_reducible refine s_tb ?_ | with_reducible refine s_not ?_ | with_reducible refine s_and ?_ | with_reducible refine s_or ?_ | with_reducible refine s_yes ?_
  | ((with_reducible refine' s_var ?hv ?_); (case hv => exact rfl))
  | with_reducible refine s_ifx ?_ | with_reducible refine s_andV ?_ | with_reducible refine s_orV ?_ | with_reducible refine s_notV ?_ | with_reducible refine s_chain ?_ | with_reducible refine s_nil ?_ | with_reducible refine s_cons ?_ | with_reducible refine s_lst ?_ | with_reducible refine s_tup ?_ | with_reducible refine s_cb ?_ | with_reducible refine s_call ?_ | with_reducible refine s_meth ?_ | with_reducible refine s_make ?_
  | with_reducible refine s_dnewK ?_ | with_reducible refine s_sl ?_ | with_reducible refine s_po0 ?_ | with_reducible refine s_po1 ?_ | with_reducible refine s_bm ?_ | with_reducible refine s_bm0 ?_
  | with_reducible refine s_bl ?_ | with_reducible refine s_int ?_ | with_reducible refine s_I0 ?_ | with_reducible refine s_addI ?_ | with_reducible refine s_intI ?_ | with_reducible refine s_intB ?_
  | with_reducible refine s_m1 ?_ | with_reducible refine s_lc ?_ | with_reducible refine s_ilist ?_ | with_reducible refine s_for ?_ | with_reducible refine s_irng ?_ | with_reducible refine s_match ?_ | with_reducible refine s_starT ?_ | with_reducible refine s_isS ?_ | with_reducible refine s_isiSS ?_ | with_reducible refine s_fldU ?_ | with_reducible refine s_sfldU ?_
  | ((with_reducible refine' s_eqS ?hq ?_); (case hq => exact rfl)) | ((with_reducible refine' s_neS ?hq ?_); (case hq => exact rfl))
  | ((with_reducible refine' s_isN ?hq ?_); (case hq => exact rfl)) | ((with_reducible refine' s_notN ?hq ?_); (case hq => exact rfl))
  | ((with_reducible refine' s_eqNil ?h1 ?h2 ?_); (case h1 => walk_at "hl"); (case h2 => walk_at "hl")) | ((with_reducible refine' s_neNil ?h1 ?h2 ?_); (case h1 => walk_at "hl"); (case h2 => walk_at "hl"))
  | ((with_reducible refine' s_ixL ?h1 ?h2 ?_); (case h1 => walk_at "hl"); (case h2 => walk_at "at")) | ((with_reducible refine' s_ixT ?h1 ?h2 ?_); (case h1 => walk_at "hl"); (case h2 => walk_at "at"))
  | ((with_reducible refine' s_inS ?h1 ?_); (case h1 => walk_at "hl")) | ((with_reducible refine' s_ninS ?h1 ?_); (case h1 => walk_at "hl")) | with_reducible refine s_inW ?_
  | ((with_reducible refine' s_lenL ?h1 ?_); (case h1 => walk_at "hl")) | ((with_reducible refine' s_lenT ?h1 ?_); (case h1 => walk_at "hl"))
  | ((with_reducible refine' s_tyL ?h1 ?_); (case h1 => walk_at "hl"))
  | ((with_reducible refine' s_fldM ?h1 ?h2 ?h3 ?_); (case h1 => walk_at "hl"); (case h2 => walk_at "fok"); (case h3 => walk_at "flk"))
  | ((with_reducible refine' s_setM ?h1 ?h2 ?h3 ?h4 ?_); (case h1 => walk_at "hl"); (case h2 => walk_at "fok"); (case h4 => walk_at "put"); (case h3 => exact Nat.le_of_ble_eq_true rfl))
  | ((with_reducible refine' s_starM ?h1 ?_); (case h1 => walk_at "hl"))
  | ((with_reducible refine' s_recv ?h1 ?h2 ?_); (case h1 => walk_at "hl"); (case h2 => exact rfl))
  | ((with_reducible refine' s_sz ?h1 ?_); (case h1 => (simp; done))))
local macro_rules | `(tactic| walk_at "rd") => `(tactic| repeat (walk_at "rd1"))
local macro_rules | `(tactic| walk_at "fok") => `(tactic| assumption)
local macro_rules | `(tactic| walk_at "flk") => `(tactic| rfl)
local macro_rules | `(tactic| walk_at "put") => `(tactic| exact rfl)

local macro_rules | `(tactic| walk_at "fok") => `(tactic| first | assumption | exact Td.ce (by assumption) (by decide) | exact Td.de (by assumption) (by decide))
def spRight : Sp := fun vs H Q _ => ∃ (b : Addr), vs = [.ref b] ∧ BagD H b 0 ∧ ∀ H', Fr H H' [b] → Q (.bl true) H'
theorem ok__law_right (T : Tq P K mg a fd tk) : FnOk P w K mg base CX0 8 (a 39) (fd 39) ["_law_bag_here"] spRight := by
  refine T.F__law_right.ok sc__law_right (fun vs H Q E h => ?_) (fun cdv A outer s H vs Q E hr h => ?_)
  · obtain ⟨b, rfl, _⟩ := h
    rfl
  · obtain ⟨b, rfl, B, k⟩ := h
    refine ⟨_, (pss_cons (ps_par (i := 8) (j := 9) (by rfl) sc__law_right.nd rfl rfl (by decide) rfl rfl (pa_cons (pe_make0 T.l.d.mk_Desk (ok_Desk___init__ T.l.d) (hr.mono (by decide)) (by rfl) T.l.d.g_Desk (b_Desk___init__ T.l.d) .nil pass0) (pa_cons (pe_make0 T.l.d.mk_Desk (ok_Desk___init__ T.l.d) (hr.mono (by decide)) (by rfl) T.l.d.g_Desk (b_Desk___init__ T.l.d) .nil pass0) pa_nil)) (by rfl))
  (pss_cons (ps_asg (pe_call (ok__law_names T) (hr.mono (by decide)) (by rfl) T.g__law_names T.F__law_names.kp (b__law_names T) .nil pass0 (pa_cons (pv 0) (pa_cons (pe_op uAdd pe_int (pe_call (ok__law_take T.l) (hr.mono (by decide)) (by rfl) T.l.g__law_take T.l.F__law_take.kp (b__law_take T.l) .nil pass0 (pa_cons (pv 0) (pa_cons pe_int pa_nil)))) pa_nil))) (pg_name (i := 1) sc__law_right.nd rfl (by first | exact Or.inl rfl | exact Or.inr rfl)))
  (pss_cons (ps_asg pe_dnewK (pg_name (i := 2) sc__law_right.nd rfl (by first | exact Or.inl rfl | exact Or.inr rfl)))
  (pss_cons (ps_asg (pe_lst pa_nil) (pg_name (i := 3) sc__law_right.nd rfl (by first | exact Or.inl rfl | exact Or.inr rfl)))
  (pss_cons (ps_for PassesOwn.never rfl (pi_list (pv 1)) (pg_name (i := 4) sc__law_right.nd rfl (by first | exact Or.inl rfl | exact Or.inr rfl))
   (pss_cons (ps_dput (hu_of hr) (pv 2) (pv 4) (pe_call (ok__law_worth T.l) (hr.mono (by decide)) (by rfl) T.l.g__law_worth T.l.F__law_worth.kp (b__law_worth T.l) .nil pass0 (pa_cons (pv 0) pa_nil)) rfl)
  (pss_one (ps_expr (pe_bm PySem.F.plainAttrs_list PySem.F.slot_list_append PySem.F.type_list_append uAppend (pv 3) (pa_cons (pe_meth (pv 8) T.l.d.cl_Desk T.l.d.m_Desk_cell (ok_Desk_cell T.l.d) (hr.mono (by decide)) (b_Desk_cell T.l.d) .nil pass0 (pa_cons (pv 4) (pa_cons (pe_dget (hu_of hr) (pv 2) (pv 4) (fun _ _ => rfl)) pa_nil))) pa_nil))))))
  (pss_cons (ps_asg (pe_lst (pa_cons (pe_op uAdd (pe_join pe_str (pv 1)) pe_str) (pa_cons pe_int (pa_cons pe_bl (pa_cons pe_non (pa_cons (pe_tup (pa_cons (pe_ix uIx (pv 1) pe_int (fun _ _ => rfl)) pa_nil)) (pa_cons (pe_lst (pa_cons (pe_ix uIx (pv 1) (pe_un un_neg pe_int) (fun _ _ => rfl)) pa_nil)) pa_nil))))))) (pg_name (i := 5) sc__law_right.nd rfl (by first | exact Or.inl rfl | exact Or.inr rfl)))
  (pss_cons (ps_if (pt_not (pt_val (pe_call (ok__law_shows T) (hr.mono (by decide)) (by rfl) T.g__law_shows T.F__law_shows.kp (b__law_shows T) .nil pass0 (pa_cons (pv 8) (pa_cons (pv 3) (pa_cons (pv 1) (pa_cons (pv 2) pa_nil))))))) (pss_one (ps_ret pe_bl)) pss_nil)
  (pss_cons (ps_for PassesOwn.never rfl (pi_range1 (by rfl) T.l.d.b_range (pa_cons (pe_op uAdd pe_int (pe_call (ok__law_take T.l) (hr.mono (by decide)) (by rfl) T.l.g__law_take T.l.F__law_take.kp (b__law_take T.l) .nil pass0 (pa_cons (pv 0) (pa_cons pe_int pa_nil)))) pa_nil)) (pg_name (i := 6) sc__law_right.nd rfl (by first | exact Or.inl rfl | exact Or.inr rfl))
   (pss_cons (ps_if (PW.pt (pw_or (pt_not (pt_val (pe_call (ok__law_put T) (hr.mono (by decide)) (by rfl) T.g__law_put T.F__law_put.kp (b__law_put T) .nil pass0 (pa_cons (pv 0) (pa_cons (pv 8) (pa_cons (pv 3) (pa_cons (pv 1) (pa_cons (pv 2) pa_nil)))))))) (pw_or1 (pt_not (pt_val (pe_call (ok__law_shows T) (hr.mono (by decide)) (by rfl) T.g__law_shows T.F__law_shows.kp (b__law_shows T) .nil pass0 (pa_cons (pv 8) (pa_cons (pv 3) (pa_cons (pv 1) (pa_cons (pv 2) pa_nil)))))))))) (pss_one (ps_ret pe_bl)) pss_nil)
  (pss_cons (ps_asg (pe_call (ok__law_of T.l) (hr.mono (by decide)) (by rfl) T.l.g__law_of T.l.F__law_of.kp (b__law_of T.l) .nil pass0 (pa_cons (pv 0) (pa_cons (pv 5) pa_nil))) (pg_name (i := 10) sc__law_right.nd rfl (by first | exact Or.inl rfl | exact Or.inr rfl)))
  (pss_one (ps_if (PW.pt (pw_or (pt_cmpR (op_inO (E := E0) T.l.d.o_Desk___contains__.at_ T.l.d.o_Desk___contains__.fn (ok_Desk___contains__ T.l.d) (hr.mono (by decide)) (b_Desk___contains__ T.l.d) pass0) (pv 10) (pv 8) (by rfl)) (pw_or (pt_not (pt_val (pe_call (ok__law_no_name T) (hr.mono (by decide)) (by rfl) T.g__law_no_name T.F__law_no_name.kp (b__law_no_name T) .nil pass0 (pa_cons (pv 8) (pa_cons (pv 10) (pa_cons (pe_cmpR op_gt (pv 6) pe_int (nomark _)) pa_nil)))))) (pw_or1 (pt_not (pt_val (pe_call (ok__law_shows T) (hr.mono (by decide)) (by rfl) T.g__law_shows T.F__law_shows.kp (b__law_shows T) .nil pass0 (pa_cons (pv 8) (pa_cons (pv 3) (pa_cons (pv 1) (pa_cons (pv 2) pa_nil))))))))))) (pss_one (ps_ret pe_bl)) pss_nil)))))
  (pss_cons (ps_if (PW.pt (pw_or (pt_cmpR (op_inO (E := E0) T.l.d.o_Desk___contains__.at_ T.l.d.o_Desk___contains__.fn (ok_Desk___contains__ T.l.d) (hr.mono (by decide)) (b_Desk___contains__ T.l.d) pass0) (pe_ix uIx (pv 1) pe_int (fun _ _ => rfl)) (pv 9) (by rfl)) (pw_or1 (pt_not (pt_val (pe_call (ok__law_no_name T) (hr.mono (by decide)) (by rfl) T.g__law_no_name T.F__law_no_name.kp (b__law_no_name T) .nil pass0 (pa_cons (pv 9) (pa_cons (pe_ix uIx (pv 1) pe_int (fun _ _ => rfl)) (pa_cons pe_bl pa_nil))))))))) (pss_one (ps_ret pe_bl)) pss_nil)
  (pss_cons (ps_asg (pe_meth (pv 9) T.l.d.cl_Desk T.l.d.m_Desk_cell (ok_Desk_cell T.l.d) (hr.mono (by decide)) (b_Desk_cell T.l.d) .nil pass0 (pa_cons (pe_ix uIx (pv 1) pe_int (fun _ _ => rfl)) (pa_cons pe_int pa_nil))) (pg_name (i := 7) sc__law_right.nd rfl (by first | exact Or.inl rfl | exact Or.inr rfl)))
  (pss_cons (ps_expr (pe_meth (pv 7) T.l.d.cl_Cell T.l.d.m_Cell_put (ok_Cell_put T.l.d) (hr.mono (by decide)) (b_Cell_put T.l.d) .nil pass0 (pa_cons pe_int pa_nil)))
  (pss_one (ps_ret (pe_and (pe_cmpR (uEq K hr.units) (pe_callO0 (E := fun _ => E0) callee_name (pv 7) T.l.d.o_Cell___call__.at_ T.l.d.o_Cell___call__.fn T.l.d.o_Cell___call__.fi (ok_Cell___call__ T.l.d) (hr.mono (by decide)) (b_Cell___call__ T.l.d) (fun _ => passZ0)) pe_int (nomark _)) (pe_and (pe_cmpR (uEq K hr.units) (pe_callB (call_lenO (E := E0) T.l.d.o_Desk___len__.at_ T.l.d.o_Desk___len__.fn (ok_Desk___len__ T.l.d) (hr.in1.mono (by decide)) rfl (b_Desk___len__ T.l.d) pass0) (by rfl) T.l.d.b_len bt_len (pa_cons (pv 8) pa_nil)) pe_int (nomark _)) (pe_and (pe_cmpR (uEq K hr.units) (pe_callTy (call_listIt T.l.d.o_Desk___iter__.at_ T.l.d.o_Desk___iter__.fn T.l.d.o_Desk___len__.at_ T.l.d.o_Desk___len__.fn (ok_Desk___iter__ T.l.d) (b_Desk___iter__ T.l.d) (ok_Desk___len__ T.l.d) (b_Desk___len__ T.l.d) (hr.mono (by decide)) rfl) (by rfl) T.l.d.b_list bt_list (pa_cons (pv 8) pa_nil)) (pe_lst pa_nil) (nomark _)) (pe_one (pe_call (ok__law_shows T) (hr.mono (by decide)) (by rfl) T.g__law_shows T.F__law_shows.kp (b__law_shows T) .nil pass0 (pa_cons (pv 8) (pa_cons (pv 3) (pa_cons (pv 1) (pa_cons (pv 2) pa_nil)))))))))))))))))))))), ?_⟩
    have TD := T.l.d
    walk_at "rd"
    refine s_par ?_
    walk_at "rd"
    intro d dx nd ndx hne
    refine ⟨d, dx, rfl, upd_same, fun D H1 k1 m1 e1 f1 nn1 => ⟨rfl, ?_⟩⟩
    walk_at "rd"
    intro d2 dx2 nd2 ndx2 hne2
    refine ⟨d2, dx2, rfl, upd_same, fun D2 G k2 m2 e2 f2 nn2 => ⟨rfl, ?_⟩⟩
    have GR := gr_mk B nd ndx hne k1 m1 f1 nn1 nd2 ndx2 hne2 k2 m2 f2 nn2
    clear k1 m1 e1 f1 nn1 nd2 ndx2 hne2 k2 m2 e2 f2 nn2 nd ndx hne
    have bn : b ∉ [d, D.un, D.cs, D.rd, D.ef, D.lg, D.fr, D.mv] := fun hb => by
      obtain ⟨_, _, _, e, _⟩ := B
      rw [GR.n1 b hb] at e; cases e
    walk_at "rd"
    refine ⟨_, _, rfl, ?_⟩
    walk_at "rd"
    refine ⟨b, 6, 0, rfl, GR.B, by decide, by decide, by decide, fun d1 Ha d10 d11 Ba fa => ?_⟩
    obtain ⟨m0, rfl⟩ := Int.eq_ofNat_of_zero_le d10
    walk_at "rd"
    have em : (1 : Int) + (m0 : Int) = ((1 + m0 : Nat) : Int) := by push_cast; rfl
    rw [em]
    refine ⟨b, _, 1 + m0, rfl, Ba, by decide, by omega, fun pn l Hb Bb npn hpn ll nd ok fb => ?_⟩
    walk_at "rd"
    intro pd npd
    walk_at "rd"
    intro pc npc
    walk_at "rd"
    have fab : Fr G Hb [b] := fa.tr fb
    obtain ⟨F, W0⟩ := wn_mk GR bn fab Bb (fr_free fa Ba npn) hpn npd npc
    generalize upd (upd Hb pd (.dK [])) pc (.lst []) = H0 at W0 ⊢
    refine s_forL W0.hpn (fun i σ H' => ∃ (cl : List (Str × Addr)) (val : Str → Int) (v4 : Option V), σ = [some (.ref b), some (.ref pn), some (.ref pd), some (.ref pc), v4, none, none, none, some (.ref d), some (.ref d2), none] ∧ cl.map (·.1) = l.take i ∧ Wn a G H' b (25 + 2 * i) d D cl val pc pn pd (cl.map fun c => .ref c.2) (l.map V.str) (duesK cl val))
      ⟨[], fun _ => 0, none, rfl, rfl, W0⟩ ?_ ?_ ?_
    · rintro i σ H' _ ⟨_, _, _, _, _, W'⟩
      exact W'.hpn
    · rintro i y σ H2 hy ⟨cl, val, v4, rfl, hcl, W2⟩
      rw [List.getElem?_map] at hy
      cases ez : l[i]? with
      | none => rw [ez] at hy; cases hy
      | some nm =>
      rw [ez] at hy
      cases hy
      have hil : i < l.length := (List.getElem?_eq_some_iff.mp ez).1
      have hnm : nm ∉ cl.map (·.1) := by
        rw [hcl]
        intro hin
        have e : l = l.take i ++ l.drop i := (List.take_append_drop i l).symm
        have nd' := nd
        rw [e, List.nodup_append] at nd'
        have h0 : (l.drop i)[0]? = some nm := by rw [List.getElem?_drop]; exact ez
        exact nd'.2.2 nm hin nm (List.mem_of_getElem? h0) rfl
      have lcl : cl.length = i := by
        have := congrArg List.length hcl
        rw [List.length_map, List.length_take] at this
        omega
      walk_at "rd"
      refine s_seq (s_dput ?_)
      walk_at "rd"
      refine ⟨b, _, rfl, W2.B, by omega, fun v H3 hv B3 f3 => ?_⟩
      have W3 := W2.bag F B3 f3
      walk_at "rd"
      refine ⟨pd, _, rfl, DPut.k (k := .inr nm) W3.hpd (sz_lt (by unfold duesK; rw [List.length_map]; omega)), ?_⟩
      rw [dues_new (c := 0) hnm]
      have W4 := W3.setD F (duesK (cl ++ [(nm, 0)]) (fun s => if s = nm then v else val s))
      generalize upd H3 pd (.dK (duesK (cl ++ [(nm, 0)]) (fun s => if s = nm then v else val s))) = H4 at W4 ⊢
      have hob4 := W4.dk.ob
      have hpc4 := W4.hpc
      walk_at "rd"
      refine s_dget ?_
      walk_at "rd"
      refine ⟨pd, _, rfl, (show DGet H4 pd (kV (.inr nm)) (some (.int v)) from by
        have := DGet.k (k := .inr nm) W4.hpd
        rw [dues_get (by simp)] at this
        simpa using this), ?_⟩
      walk_at "rd"
      refine ⟨d, D, _, cl, nm, v, rfl, W4.dk, hnm, hnm, by rw [List.length_map]; omega, by omega, fun c H5 dk5 ce5 nc5 f5 => ?_⟩
      have W5 := W4.cell F hnm dk5 ce5 nc5 f5
      walk_at "rd"
      refine s_app W5.hpc (sz_lt (by rw [List.length_map]; omega)) ?_
      have W6 := W5.setP F ((cl.map fun c => V.ref c.2) ++ [.ref c])
      rw [dues_any (y := c)] at W6
      refine ⟨cl ++ [(nm, c)], fun s => if s = nm then v else val s, _, rfl, ?_, ?_⟩
      · rw [List.map_append, hcl, take_snoc' ez]; rfl
      · have e1 : ((cl ++ [(nm, c)]).map fun c => V.ref c.2) = (cl.map fun c => V.ref c.2) ++ [.ref c] := by simp
        rw [e1]
        have e2 : 25 + 2 * (i + 1) = 25 + 2 * i + 2 := by omega
        rw [e2]
        exact W6
    · rintro σ H2 ⟨cl, val, v4, rfl, hcl, W2⟩
      rw [List.length_map, List.take_length] at hcl
      have ecs : l.map V.str = cl.map fun c => V.str c.1 := by rw [← hcl, List.map_map]; rfl
      have sumL := sum_le (n := 1000) l fun z hz => (ok z hz).2
      have lcl : cl.length = l.length := by rw [← hcl, List.length_map]
      walk_at "rd"
      refine ⟨_, pn, l, rfl, rfl, .inl (SqL.of W2.hpn), by rw [show (Str.ofString "").length = 0 from rfl]; omega, ?_⟩
      have j1 := (join_e l).1
      have hs0 := joined_not (l := l)
      walk_at "rd"
      refine s_addS (sz_le (by rw [j1, show (Str.ofString "x").length = 1 from rfl]; omega)) ?_
      generalize Txt.join (Str.ofString "") l ++ Str.ofString "x" = s0 at hs0 ⊢
      obtain ⟨n0, hn0⟩ : ∃ n0, l[0]? = some n0 := ⟨_, List.getElem?_eq_getElem (by omega)⟩
      obtain ⟨nl, hnl⟩ : ∃ nl, l[l.length - 1]? = some nl := ⟨_, List.getElem?_eq_getElem (by omega)⟩
      have hpn2 := W2.hpn
      walk_at "rd"
      refine s_ixL hpn2 (atI_nat (j := 0) (by rw [List.getElem?_map, hn0]; rfl)) ?_
      walk_at "rd"
      intro t nt
      have st := Same.new (o := .tup [.str n0]) nt
      have ht : upd H2 t (.tup [.str n0]) t = some (.tup [.str n0]) := upd_same
      generalize upd H2 t (.tup [.str n0]) = H3 at st ht ⊢
      walk_at "rd"
      refine s_ixL (st _ _ hpn2) (atI_last (by rw [List.length_map]; omega) (by rw [List.length_map, List.getElem?_map, hnl]; rfl)) ?_
      walk_at "rd"
      intro q nq
      have sq := Same.new (o := .lst [.str nl]) nq
      have hq : upd H3 q (.lst [.str nl]) q = some (.lst [.str nl]) := upd_same
      generalize upd H3 q (.lst [.str nl]) = H4 at sq hq ⊢
      walk_at "rd"
      intro po npo
      have sp := Same.new (o := .lst [.str s0, .int 0, .bl true, .non, .ref t, .ref q]) npo
      have O : OddAt (upd H4 po (.lst [.str s0, .int 0, .bl true, .non, .ref t, .ref q])) po t q s0 n0 nl := ⟨upd_same, sp _ _ (sq _ _ ht), sp _ _ hq⟩
      generalize upd H4 po (.lst [.str s0, .int 0, .bl true, .non, .ref t, .ref q]) = G2 at sp O ⊢
      have sG2 : Same H2 G2 := (st.trans sq).trans sp
      rw [ecs] at W2
      have okc : ∀ c ∈ cl, NameOk 1000 c.1 := fun c hc => ok _ (by rw [← hcl]; exact List.mem_map.mpr ⟨c, hc, rfl⟩)
      have WB2 := W2.wb F (by rw [hcl]; exact nd) (by omega) (by omega) okc
      have WG2 := WB2.same sG2
      have lm : (cl.map fun c => V.str c.1).length = cl.length := List.length_map _
      have occ := s2_occ WB2
      have oddS : ∀ x ∈ [po, t, q], x ∉ s2L b d D pc pd cl := fun x hx hS => by
        obtain ⟨o, ho⟩ := occ x hS
        simp only [List.mem_cons, List.not_mem_nil, or_false] at hx
        rcases hx with rfl | rfl | rfl
        · rw [(st.trans sq).free npo] at ho; cases ho
        · rw [nt] at ho; cases ho
        · rw [st.free nq] at ho; cases ho
      have twoS := s2_two GR F W2
      walk_at "rd"
      refine ⟨d, D, cl, val, pc, pn, pd, rfl, WG2.w, fun H5 s5 => ?_⟩
      walk_at "rd"
      refine ifF rfl ?_
      walk_at "rd"
      have WG5 := WG2.same s5
      refine ⟨b, 9, _, rfl, WG5.B, by omega, by decide, by decide, fun d3 H6 d30 d31 B6 f6 => ?_⟩
      have W6 := WG5.bag B6 f6
      have fG6 : Fr G2 H6 (s2L b d D pc pd cl) := fun x o hx hS => f6 _ _ (s5 _ _ hx) (by unfold s2L at hS; simp only [List.mem_cons, not_or] at hS; simpa using hS.1)
      walk_at "rd"
      refine s_forR (by omega) (by omega) (fun i σ H' => ∃ (z : Addr) (val' : Str → Int) (n : Nat) (v6 v10 : Option V), σ = [some (.ref b), some (.ref pn), some (.ref pd), some (.ref pc), v4, some (.ref po), v6, none, some (.ref d), some (.ref d2), v10] ∧
        Wb a H' b n d { D with mv := z } cl val' pc pn pd ∧ n ≤ 1000 + 10 * i ∧ Fr G2 H' (s2L b d D pc pd cl) ∧ (z = D.mv ∨ G2 z = none))
        ⟨D.mv, val, _, none, none, rfl, W6, by omega, fG6, .inl rfl⟩ ?_ ?_
      · rintro i σ H7 hi ⟨z, val', n, v6, v10, rfl, W7, hn7, f7, hz⟩
        have hoL : oddL t q s0 = [.str s0, .int 0, .bl true, .non, .ref t, .ref q] := rfl
        walk_at "rd"
        refine ⟨b, d, n, _, cl, val', pc, pn, pd, rfl, W7, by omega, fun val2 z2 H8 W8 nz2 f8 => ?_⟩
        walk_at "rd"
        refine ifF rfl ?_
        walk_at "rd"
        refine ⟨d, _, cl, val2, pc, pn, pd, rfl, W8.w, fun H9 s9 => ?_⟩
        walk_at "rd"
        refine ifF rfl ?_
        walk_at "rd"
        -- how things stand
        have fG8 : Fr G2 H8 (s2L b d D pc pd cl) := fun x o hx hS => by
          have h7 := f7 _ _ hx hS
          refine f8 _ _ h7 ?_
          have hS' := hS
          unfold s2L at hS'
          simp only [List.mem_cons, not_or] at hS' ⊢
          refine ⟨hS'.1, hS'.2.1, ?_, hS'.2.2.2.1, hS'.2.2.2.2.1, hS'.2.2.2.2.2⟩
          rcases hz with hz | hz
          · intro e; exact hS'.2.2.1 (e.trans hz)
          · intro e; rw [e] at hx; rw [show G2 z = none from hz] at hx; cases hx
        have hz2 : z2 = D.mv ∨ G2 z2 = none := by
          by_cases e : z2 = D.mv
          · exact .inl e
          · refine .inr ?_
            cases eg : G2 z2 with
            | none => rfl
            | some o =>
              exfalso
              by_cases hS : z2 ∈ s2L b d D pc pd cl
              · have := s2_occ W7 z2 (by
                  unfold s2L at hS ⊢
                  simp only [List.mem_cons] at hS ⊢
                  rcases hS with h | h | h | h
                  · exact .inl h
                  · exact .inr (.inl h)
                  · exact absurd h e
                  · exact .inr (.inr (.inr h)))
                obtain ⟨o, ho⟩ := this
                rw [ho] at nz2; cases nz2
              · rw [f7 _ _ eg hS] at nz2; cases nz2
        have W9 := W8.same s9
        have O9 := (O.fr fG8 oddS).same s9
        have pob : po ≠ b := fun e => oddS po (by simp) (by rw [e]; unfold s2L; simp)
        refine ⟨b, po, _, _, rfl, W9.B, by omega, O9.po, pob, by simp, by simp, fun j x H10 hx B10 f10 => ?_⟩
        have W10 := W9.bag B10 f10
        have O10 := O9.fr f10 fun y hy => by rw [List.mem_singleton]; rintro rfl; exact oddS _ hy (by unfold s2L; simp)
        have hx2 := odd_cases (t := t) (q := q) (s0 := s0) (x := x) (i := j) hx
        have ok0 : PyData.strOk n0 = true := (ok _ (List.mem_of_getElem? hn0)).1
        have okl : PyData.strOk nl = true := (ok _ (List.mem_of_getElem? hnl)).1
        have hob10 := W10.w.dk.ob
        walk_at "rd"
        refine ⟨d, D.dd, _, rfl, hob10, d, _, _, cl, x, false, rfl, W10.w.dk, odd_in O10 hx2 W10.w.dk.un (by rw [hcl]; exact hs0) (fun y hy => (ok y (by rw [← hcl]; exact hy)).1) ok0 okl, false, rfl, ?_⟩
        walk_at "rd"
        refine ifF rfl ?_
        walk_at "rd"
        refine ⟨d, _, _, cl, x, _, rfl, W10.w.dk, fun c hc => ⟨_, W10.w.ce c hc⟩, by omega, W10.w.nd, ⟨[], W10.w.mv, by simp⟩, fun c hc => odd_ne O10 hx2 (fun e => hs0 (by rw [e, ← hcl]; exact List.mem_map.mpr ⟨c, hc, rfl⟩)) (okc c hc).1 ok0 okl, odd_eq O10 hx2 ok0 okl, fun H11 s11 => ?_⟩
        have W11 := W10.same s11
        walk_at "rd"
        refine ifF rfl ?_
        walk_at "rd"
        refine ⟨d, _, cl, val2, pc, pn, pd, rfl, W11.w, fun H12 s12 => ?_⟩
        walk_at "rd"
        refine ifF rfl ?_
        walk_at "rd"
        refine ⟨z2, val2, _, _, _, rfl, W11.same s12, by omega, fun y o hy hS => s12 _ _ (s11 _ _ (f10 _ _ (s9 _ _ (fG8 _ _ hy hS)) (by unfold s2L at hS; simp only [List.mem_cons, not_or] at hS; simpa using hS.1))), hz2⟩
      · rintro σ H7 ⟨z, val', n, v6, v10, rfl, W7, hn7, f7, hz⟩
        obtain ⟨ap, k2G, m2G⟩ := two_apart GR F W2 sG2 hz
        have K7 := k2G.fr' f7 twoS
        have M7 := f7 _ _ m2G (twoS _ (by simp))
        have F7 := ground_fr GR F W2 sG2 f7
        have e0 : (cl.map fun c => V.str c.1)[0]? = some (.str n0) := by rw [← ecs, List.getElem?_map, hn0]; rfl
        have hpn7 := W7.w.pn
        walk_at "rd"
        refine s_ixL hpn7 (atI_nat (j := 0) e0) ?_
        walk_at "rd"
        refine ⟨d2, D2.dd, _, rfl, K7.ob, d2, D2, [], [], .str n0, false, rfl, K7, fun {Q'} hq' => .inl (s_inS (l := []) K7.un hq'), false, rfl, ?_⟩
        walk_at "rd"
        refine ifF rfl ?_
        walk_at "rd"
        refine s_ixL hpn7 (atI_nat (j := 0) e0) ?_
        walk_at "rd"
        refine ⟨d2, D2, [], [], .str n0, true, rfl, K7, fun c hc => (by cases hc), by simp, by simp, ⟨[], M7, by simp⟩, fun c hc => (by cases hc), fun {H' Q'} s' qq => s_eqS rfl (by rw [decide_eq_true rfl]; exact qq), fun H8 s8 => ?_⟩
        have K8 := K7.same s8
        have hob8 := K8.ob
        have hpn8 := s8 _ _ hpn7
        walk_at "rd"
        refine ifF rfl ?_
        walk_at "rd"
        refine s_ixL hpn8 (atI_nat (j := 0) e0) ?_
        walk_at "rd"
        refine ⟨d2, D2, [], [], n0, 5, rfl, K8, by simp, by simp, by simp, by simp, fun c H9 K9 C9 nc f9 => ?_⟩
        have C9' := C9
        obtain ⟨dc9, hc9⟩ := C9
        have M9 : H9 D2.mv = some (.lst []) := f9 _ _ (s8 _ _ M7) (by
          have nd2 := K7.nd.1
          simp only [List.nodup_cons, List.mem_cons, List.not_mem_nil, or_false, not_or] at nd2
          have q1 : D2.mv ≠ D2.cs := ne_of M7 K7.cs (by intro z; cases z)
          have q2 : D2.mv ≠ D2.rd := ne_of M7 K7.rd (by intro z; cases z)
          simp [Ne.symm nd2.1.2.2.2, q1, q2])
        walk_at "rd"
        refine ⟨d2, D2, _, _, c, n0, 5, 6, rfl, K9, C9', ⟨[], M9, by simp⟩, cell_desk C9' K9, fun z9 H10 nz9 K10 mz10 C10 f10 => ?_⟩
        have C10' := C10
        obtain ⟨dc10, hc10⟩ := C10
        have W8 := W7.w.same s8
        have W9 : Wd a H9 d { D with mv := z } cl val' pc pn pd := W8.fr' f9 (fun x hx hS => by
          simp only [List.mem_cons, List.not_mem_nil, or_false] at hS
          rcases hS with h | h | h
          · exact (ap D2.un (by simp)).1 x hx h
          · exact (ap D2.cs (by simp)).1 x hx h
          · exact (ap D2.rd (by simp)).1 x hx h) (fun c' hc' hS => by
          simp only [List.mem_cons, List.not_mem_nil, or_false] at hS
          rcases hS with h | h | h
          · exact (ap D2.un (by simp)).2 c' hc' h
          · exact (ap D2.cs (by simp)).2 c' hc' h
          · exact (ap D2.rd (by simp)).2 c' hc' h)
        have nec : ∀ {x : Addr} {o : HO}, H8 x = some o → x ≠ c := fun hx e => by rw [e, nc] at hx; cases hx
        have W10 : Wd a H10 d { D with mv := z } cl val' pc pn pd := W9.fr' f10 (fun x hx hS => by
          have occ8 : ∃ o, H8 x = some o := by
            simp only [List.mem_cons, List.not_mem_nil, or_false] at hx
            rcases hx with rfl | rfl | rfl | rfl | rfl | rfl | rfl | rfl | rfl | rfl | rfl
            · exact ⟨_, W8.dk.ob⟩
            · exact ⟨_, W8.dk.un⟩
            · exact ⟨_, W8.dk.cs⟩
            · exact ⟨_, W8.dk.rd⟩
            · exact ⟨_, W8.dk.ef⟩
            · exact ⟨_, W8.dk.lg⟩
            · exact ⟨_, W8.dk.fr⟩
            · exact ⟨_, W8.mv⟩
            · exact ⟨_, W8.pc⟩
            · exact ⟨_, W8.pn⟩
            · exact ⟨_, W8.pd⟩
          obtain ⟨o8, ho8⟩ := occ8
          simp only [List.mem_cons, List.not_mem_nil, or_false] at hS
          rcases hS with h | h | h
          · exact (ap d2 (by simp)).1 x hx h
          · exact nec ho8 h
          · exact (ap D2.mv (by simp)).1 x hx h) (fun c' hc' hS => by
          obtain ⟨dc', hcc⟩ := W8.ce c' hc'
          simp only [List.mem_cons, List.not_mem_nil, or_false] at hS
          rcases hS with h | h | h
          · exact (ap d2 (by simp)).2 c' hc' h
          · exact nec hcc h
          · exact (ap D2.mv (by simp)).2 c' hc' h)
        have F10 : Fr H H10 [b] := fun x o hx hS => by
          have h7 := F7 _ _ hx hS
          have h8 := s8 _ _ h7
          have n3 : ∀ y ∈ [d2, D2.un, D2.cs, D2.rd, D2.ef, D2.lg, D2.fr, D2.mv], x ≠ y := fun y hy e => by have := GR.n3 y hy; rw [← e, hx] at this; cases this
          have h9 := f9 _ _ h8 (by simp [n3 D2.un (by simp), n3 D2.cs (by simp), n3 D2.rd (by simp)])
          exact f10 _ _ h9 (by simp [n3 d2 (by simp), nec h8, n3 D2.mv (by simp)])
        have hob10 := W10.dk.ob
        walk_at "rd"
        refine s_callO ?_
        walk_at "rd"
        refine ⟨c, dc10, _, rfl, hc10, ?_⟩
        walk_at "rd"
        refine ⟨hc10, d2, _, _, _, c, n0, 6, rfl, K10, C10', ?_⟩
        walk_at "rd"
        refine ifT rfl ?_
        walk_at "rd"
        refine ⟨d, D.dd, _, rfl, hob10, ⟨d, _, _, cl, rfl, W10.dk, ⟨_, rfl, ⟨by decide, by decide⟩, ?_⟩⟩⟩
        walk_at "rd"
        refine ifT rfl ?_
        walk_at "rd"
        refine ⟨d, D.dd, _, rfl, hob10, fun q2 nq2 => ?_⟩
        have sq2 := Same.new (o := .lst []) nq2
        have hq2 : upd H10 q2 (.lst []) q2 = some (.lst []) := upd_same
        generalize upd H10 q2 (.lst []) = H11 at sq2 hq2 ⊢
        have W11 := W10.same sq2
        refine ⟨d, _, _, cl, rfl, W11.dk, fun it nit => ?_⟩
        have sit := Same.new (o := ItO D.lg it 0) nit
        have hit : upd H11 it (ItO D.lg it 0) it = some (ItO D.lg it 0) := upd_same
        have W12 := W11.same sit
        have hlg := W12.dk.lg
        have nql : q2 ≠ D.lg := by rintro rfl; rw [W10.dk.lg] at nq2; cases nq2
        have nqi : q2 ≠ it := by rintro rfl; rw [hq2] at nit; cases nit
        refine ⟨it, D.lg, [], rfl, hit, hlg, sit _ _ hq2, nql, nqi, W12.dk.ob, ⟨d, _, _, cl, rfl, W12.dk, 0, rfl, by decide, rfl⟩, fun H13 h13 hq13 => ?_⟩
        have s13 : Same H10 H13 := fun x o hx => by
          rw [h13 x (ne_of_none hx nq2) (ne_of_none (sq2 _ _ hx) nit)]
          exact sit _ _ (sq2 _ _ hx)
        walk_at "rd"
        intro r nr
        have s14 := s13.trans (Same.new (o := .lst []) nr)
        have hr14 : upd H13 r (.lst []) r = some (.lst []) := upd_same
        have hq14 : upd H13 r (.lst []) q2 = some (.lst []) := (Same.new nr) _ _ hq13
        generalize upd H13 r (.lst []) = H14 at s14 hr14 hq14 ⊢
        refine s_eqNil hq14 hr14 ?_
        walk_at "rd"
        refine ifT rfl ?_
        walk_at "rd"
        refine ⟨d, _, cl, val', pc, pn, pd, rfl, W10.same s14, fun H15 s15 => ?_⟩
        exact k _ fun x o hx hS => s15 _ _ (s14 _ _ (F10 _ _ hx hS))
theorem b__law_right (T : Tq P K mg a fd tk) : Binds K (fd 39) ["_law_bag_here"] [] := T.F__law_right.binds fun _ _ _ _ _ _ us hl => match us, hl with | [_], _ => rfl
end
end Tr
set_option maxHeartbeats 4000000

namespace Tr
open PySem L2
/-- what the top has made -/
structure Tz (P : Program) (K : PySem.W.Frag) (mg : Str → Option Value) (a : Nat → Addr) (fd : Nat → FuncData) (tk : Nat → Tok) : Prop where
  q : Tq P K mg a fd tk
  F_law : Fun K "law" "law" s_law (a 41) (fd 41)
section
variable {P : Program} {w : World} {K : PySem.W.Frag} {mg : Str → Option Value} {base : Heap} {a : Nat → Addr} {fd : Nat → FuncData} {tk : Nat → Tok}
local macro_rules | `(tactic| walk_at "ne") => `(tactic| first | assumption | (exact Ne.symm (by assumption)) | (refine ne_of_none (by assumption) (by assumption)) | (refine Ne.symm (ne_of_none (by assumption) (by assumption))))
local macro_rules | `(tactic| walk_at "hl") => `(tactic| first | assumption | with_reducible exact upd_same | ((with_reducible refine' Eq.trans (upd_ne ?hne) ?hrest); (case hne => walk_at "ne"); (case hrest => walk_at "hl")) | (refine' get_same ?hs ?hg; (case hs => assumption); (case hg => assumption)))
local macro_rules | `(tactic| walk_at "at") => `(tactic| first | with_reducible exact atI_0 _ _ | with_reducible exact atI_1 _ _ _ | with_reducible exact atI_2 _ _ _ _ | with_reducible exact atI_3 _ _ _ _ _ | assumption)
local macro_rules | `(tactic| walk_at "rd1") => `(tactic| first
  | with_reducible refine s_seq ?_ | with_reducible refine s_next ?_ | with_reducible refine s_if ?_ | with_reducible refine s_ret ?_ | with_reducible refine s_retN ?_ | with_reducible refine s_drop ?_ | with_reducible refine s_asg ?_ | with_reducible refine s_brk ?_ | with_reducible refine s_cont ?_
  | with_reducible refine s_gname ?_ | with_reducible refine s_c ?_ | with_reducible refine s_op ?_ | with_reducible refine s_un ?_ | with_reducible refine s_neg ?_ | with_reducible refine s_test ?_ | with_reducible refine s_tb ?_ | with_reducible refine s_not ?_ | with_reducible refine s_and ?_ | with_reducible refine s_or ?_ | with_reducible refine s_yes ?_
  | ((with_reducible refine' s_var ?hv ?_); (case hv => exact rfl))
  | with_reducible refine s_ifx ?_ | with_reducible refine s_andV ?_ | with_reducible refine s_orV ?_ | with_reducible refine s_notV ?_ | with_reducible refine s_chain ?_ | with_reducible refine s_nil ?_ | with_reducible refine s_cons ?_ | with_reducible refine s_lst ?_ | with_reducible refine s_tup ?_ | with_reducible refine s_cb ?_ | with_reducible refine s_call ?_ | with_reducible refine s_meth ?_ | with_reducible refine s_make ?_
  | with_reducible refine s_dnewK ?_ | with_reducible refine s_sl ?_ | with_reducible refine s_po0 ?_ | with_reducible refine s_po1 ?_ | with_reducible refine s_bm ?_ | with_reducible refine s_bm0 ?_
  | with_reducible refine s_bl ?_ | with_reducible refine s_int ?_ | with_reducible refine s_I0 ?_ | with_reducible refine s_addI ?_ | with_reducible refine s_intI ?_ | with_reducible refine s_intB ?_
  | with_reducible refine s_m1 ?_ | with_reducible refine s_lc ?_ | with_reducible refine s_ilist ?_ | with_reducible refine s_for ?_ | with_reducible refine s_irng ?_ | with_reducible refine s_match ?_ | with_reducible refine s_starT ?_ | with_reducible refine s_isS ?_ | with_reducible refine s_isiSS ?_ | with_reducible refine s_fldU ?_ | with_reducible refine s_sfldU ?_
  | ((with_reducible refine' s_eqS ?hq ?_); (case hq => exact rfl)) | ((with_reducible refine' s_neS ?hq ?_); (case hq => exact rfl))
  | ((with_reducible refine' s_isN ?hq ?_); (case hq => exact rfl)) | ((with_reducible refine' s_notN ?hq ?_); (case hq => exact rfl))
  | ((with_reducible refine' s_eqNil ?h1 ?h2 ?_); (case h1 => walk_at "hl"); (case h2 => walk_at "hl")) | ((with_reducible refine' s_neNil ?h1 ?h2 ?_); (case h1 => walk_at "hl"); (case h2 => walk_at "hl"))
  | ((with_reducible refine' s_ixL ?h1 ?h2 ?_); (case h1 => walk_at "hl"); (case h2 => walk_at "at")) | ((with_reducible refine' s_ixT ?h1 ?h2 ?_); (case h1 => walk_at "hl"); (case h2 => walk_at "at"))
  | ((with_reducible refine' s_inS ?h1 ?_); (case h1 => walk_at "hl")) | ((with_reducible refine' s_ninS ?h1 ?_); (case h1 => walk_at "hl")) | with_reducible refine s_inW ?_
  | ((with_reducible refine' s_lenL ?h1 ?_); (case h1 => walk_at "hl")) | ((with_reducible refine' s_lenT ?h1 ?_); (case h1 => walk_at "hl"))
  | ((with_reducible refine' s_tyL ?h1 ?_); (case h1 => walk_at "hl"))
  | ((with_reducible refine' s_fldM ?h1 ?h2 ?h3 ?_); (case h1 => walk_at "hl"); (case h2 => walk_at "fok"); (case h3 => walk_at "flk"))
  | ((with_reducible refine' s_setM ?h1 ?h2 ?h3 ?h4 ?_); (case h1 => walk_at "hl"); (case h2 => walk_at "fok"); (case h4 => walk_at "put"); (case h3 => exact Nat.le_of_ble_eq_true rfl))
  | ((with_reducible refine' s_starM ?h1 ?_); (case h1 => walk_at "hl"))
  | ((with_reducible refine' s_recv ?h1 ?h2 ?_); (case h1 => walk_at "hl"); (case h2 => exact rfl))
  | ((with_reducible refine' s_sz ?h1 ?_); (case h1 => (simp; done))))
local macro_rules | `(tactic| walk_at "rd") => `(tactic| repeat (walk_at "rd1"))
local macro_rules | `(tactic| walk_at "fok") => `(tactic| assumption)
local macro_rules | `(tactic| walk_at "flk") => `(tactic| rfl)
local macro_rules | `(tactic| walk_at "put") => `(tactic| exact rfl)

local macro_rules | `(tactic| walk_at "fok") => `(tactic| first | assumption | exact Td.ce (by assumption) (by decide) | exact Td.de (by assumption) (by decide))
theorem SqL.same {H H' : Hp} {p : Addr} {xs : List V} (h : SqL K H p xs) (s : Same H H') : SqL K H' p xs := h.ext s
def spLaw (K : PySem.W.Frag) : Sp := fun vs H Q _ => ∃ (p : Addr) (xs : List Int), vs = [.ref p] ∧ SqL K H p (xs.map V.int) ∧ xs.length ≤ 63 ∧ ∀ H', Q (.bl true) H'
theorem ok_law (T : Tz P K mg a fd tk) : FnOk P w K mg base CX0 9 (a 41) (fd 41) ["_law_script"] (spLaw K) := by
  refine T.F_law.ok sc_law (fun vs H Q E h => ?_) (fun cdv A outer s H vs Q E hr h => ?_)
  · obtain ⟨p, xs, rfl, _⟩ := h
    rfl
  · obtain ⟨p, xs, rfl, hp, h63, k⟩ := h
    refine ⟨_, (pss_cons (ps_for PassesOwn.never rfl (pi_range1 (by rfl) T.q.l.d.b_range (pa_cons (pe_callB (call_max2 rfl) (by rfl) T.q.b_max bt_max (pa_cons pe_int (pa_cons (pe_callB (call_min2 rfl) (by rfl) T.q.b_min bt_min (pa_cons pe_int (pa_cons (pe_callB call_len_seq (by rfl) T.q.l.d.b_len bt_len (pa_cons (pv 0) pa_nil)) pa_nil))) pa_nil))) pa_nil)) (pg_name (i := 1) sc_law.nd rfl (by first | exact Or.inl rfl | exact Or.inr rfl))
   (pss_one (ps_if (pt_not (pt_val (pe_call (ok__law_right T.q) (hr.mono (by decide)) (by rfl) T.q.g__law_right T.q.F__law_right.kp (b__law_right T.q) .nil pass0 (pa_cons (pe_call (ok__law_bag T.q.l) (hr.mono (by decide)) (by rfl) T.q.l.g__law_bag T.q.l.F__law_bag.kp (b__law_bag T.q.l) .nil pass0 (pa_cons (pv 0) (pa_cons (pv 1) pa_nil))) pa_nil)))) (pss_one (ps_ret pe_bl)) pss_nil)))
  (pss_one (ps_ret pe_bl))), ?_⟩
    walk_at "rd"
    refine ⟨p, _, rfl, .inl hp, ?_⟩
    show ∃ i j, [V.int 4, V.int _] = [.int i, .int j] ∧ _
    refine ⟨_, _, rfl, ?_⟩
    show ∃ i j, [V.int 1, V.int _] = [.int i, .int j] ∧ _
    refine ⟨_, _, rfl, ?_⟩
    have el : (xs.map V.int).length = xs.length := List.length_map _
    rw [el]
    generalize hN : (if (if (xs.length : Int) < 4 then (xs.length : Int) else 4) > 1 then (if (xs.length : Int) < 4 then (xs.length : Int) else 4) else 1) = N
    have n0 : 0 ≤ N ∧ N ≤ 4 := by
      rw [← hN]
      repeat' split
      all_goals omega
    refine s_forR n0.1 (by omega) (fun i σ H' => ∃ v1, σ = [some (.ref p), v1] ∧ Same H H') ⟨none, rfl, .refl _⟩ ?_ ?_
    · rintro i σ H1 hi ⟨v1, rfl, s1⟩
      walk_at "rd"
      refine ⟨p, xs, i, rfl, SqL.same hp s1, h63, by omega, fun b H2 s2 nb B2 => ?_⟩
      walk_at "rd"
      refine ⟨b, rfl, B2, fun H3 f3 => ?_⟩
      walk_at "rd"
      refine ifF rfl ?_
      walk_at "rd"
      exact ⟨_, rfl, fun x o hx => f3 _ _ (s2 _ _ (s1 _ _ hx)) (by
        rw [List.mem_singleton]
        rintro rfl
        rw [s1 _ _ hx] at nb
        cases nb)⟩
    · rintro σ H1 ⟨v1, rfl, s1⟩
      walk_at "rd"
      exact k _
end
end Tr
set_option maxHeartbeats 0
namespace Tr
open PySem PySem.Spec PyProof.Rows L2
def adrP : Nat → PySem.W.Frag → Addr
  | 2 => (pl ("Cell", none))
  | 3 => (pl ("Desk", none))
  | 4 => (pl ("Thing", some "__init__"))
  | 5 => (pl ("Cell", some "__init__"))
  | 6 => (pl ("Cell", some "__call__"))
  | 7 => (pl ("Cell", some "value"))
  | 8 => (plp "Cell" "value")
  | 9 => (pl ("Cell", some "put"))
  | 10 => (pl ("Cell", some "__iadd__"))
  | 11 => (pl ("Desk", some "__init__"))
  | 12 => (pl ("Desk", some "check_placed"))
  | 13 => (pl ("Desk", some "note"))
  | 14 => (pl ("Desk", some "use_name"))
  | 15 => (pl ("Desk", some "cell"))
  | 16 => (pl ("Desk", some "settle"))
  | 17 => (pl ("Desk", some "__getitem__"))
  | 18 => (pl ("Desk", some "__setitem__"))
  | 19 => (pl ("Desk", some "__contains__"))
  | 20 => (pl ("Desk", some "__iter__"))
  | 21 => (pl ("Desk", some "__len__"))
  | 22 => (pl ("NoName", none))
  | 23 => (pl ("NoName", some "__init__"))
  | 24 => (pl ("TrackedError", none))
  | 30 => (pl ("_law_bag", none))
  | 31 => (pl ("_law_take", none))
  | 32 => (pl ("_law_of", none))
  | 33 => (pl ("_law_worth", none))
  | 34 => (pl ("_law_names", none))
  | 35 => (pl ("_law_is_int", none))
  | 36 => (pl ("_law_shows", none))
  | 37 => (pl ("_law_no_name", none))
  | 38 => (pl ("_law_put", none))
  | 39 => (pl ("_law_right", none))
  | 41 => (pl ("law", none))
  | _ => pl ("law", none)
def adr (K : PySem.W.Frag) (n : Nat) : Addr := adrP n K
def fdn (K : PySem.W.Frag) (n : Nat) : FuncData := fdG K (adrP n K)
def tkn (K : PySem.W.Frag) : Nat → Tok
  | 0 => tkC K (He.ga K "Desk") "MOST_RUNS"
  | _ => 0
theorem mkT {P : Program} (hP : P.main.file = PySem.Challenge.pw_trackedreads_k67_cells.main.file) (hT : (P.main.scope.names.lookup ("super" : Str)).isSome = false) {K : PySem.W.Frag} {h : Heap} {mg : Str → Option Value} (X : K.In h) (G : h.Ns mainGlobals mg) (c : obsB fx9 fn9 K = valB fn9) : Tz P K mg (adr K) (fdn K) (tkn K) :=
{ q := (
{ l := (
{ d := (
{ b_len := (fx_free X G (says_fx c 0 rfl)),
  b_iter := (fx_free X G (says_fx c 1 rfl)),
  b_list := (fx_free X G (says_fx c 2 rfl)),
  b_range := (fx_free X G (says_fx c 3 rfl)),
  g_Desk := (fx_glo X G (says_fx c 4 rfl)),
  g_Cell := (fx_glo X G (says_fx c 5 rfl)),
  cl_Cell := (fx_cls (says_fx c 6 rfl)),
  cl_Desk := (fx_cls (says_fx c 7 rfl)),
  f_Cell := (fx_noats (says_fx c 8 rfl)),
  f_Desk := (fx_noats (says_fx c 9 rfl)),
  F_Thing___init__ := (says_fun (p := (pl ("Thing", some "__init__"))) c 0 rfl),
  F_Cell___init__ := (says_funS (p := (pl ("Cell", some "__init__"))) c hP hT (fx_free X G (x := "super") (says_fx c 10 rfl)) 1 rfl),
  sc_Cell := (fx_supc (says_fx c 11 rfl)),
  mk_Cell := (fx_mkr (says_fx c 12 rfl)),
  F_Cell___call__ := (says_fun (p := (pl ("Cell", some "__call__"))) c 2 rfl),
  F_Cell_value := (says_fun (p := (plp "Cell" "value")) c 3 rfl),
  m_Cell_put := (fx_meth (says_fx c 13 rfl)),
  F_Cell_put := (says_fun (p := (pl ("Cell", some "put"))) c 4 rfl),
  F_Cell___iadd__ := (says_fun (p := (pl ("Cell", some "__iadd__"))) c 5 rfl),
  mk_Desk := (fx_mkr (says_fx c 14 rfl)),
  F_Desk___init__ := (says_fun (p := (pl ("Desk", some "__init__"))) c 6 rfl),
  m_Desk_check_placed := (fx_meth (says_fx c 15 rfl)),
  F_Desk_check_placed := (says_fun (p := (pl ("Desk", some "check_placed"))) c 7 rfl),
  m_Desk_note := (fx_meth (says_fx c 16 rfl)),
  F_Desk_note := (says_fun (p := (pl ("Desk", some "note"))) c 8 rfl),
  m_Desk_use_name := (fx_meth (says_fx c 17 rfl)),
  F_Desk_use_name := (says_fun (p := (pl ("Desk", some "use_name"))) c 9 rfl),
  o_Cell___call__ := (fx_own (says_fx c 18 rfl)),
  o_Cell___iadd__ := (fx_own (says_fx c 19 rfl)),
  sf_Cell := (fx_sf (says_fx c 20 rfl)),
  p_Cell_value := (fx_propof (says_fx c 21 rfl)),
  m_Desk_cell := (fx_meth (says_fx c 22 rfl)),
  F_Desk_cell := (says_fun (p := (pl ("Desk", some "cell"))) c 10 rfl),
  m_Desk_settle := (fx_meth (says_fx c 23 rfl)),
  F_Desk_settle := (says_fun (p := (pl ("Desk", some "settle"))) c 11 rfl),
  k_MOST_RUNS := (fx_con (says_fx c 24 rfl)),
  ns_Desk := (fx_nsq (says_fx c 25 rfl)),
  o_Desk___getitem__ := (fx_own (says_fx c 26 rfl)),
  F_Desk___getitem__ := (says_fun (p := (pl ("Desk", some "__getitem__"))) c 12 rfl),
  o_Desk___setitem__ := (fx_own (says_fx c 27 rfl)),
  F_Desk___setitem__ := (says_fun (p := (pl ("Desk", some "__setitem__"))) c 13 rfl),
  o_Desk___contains__ := (fx_own (says_fx c 28 rfl)),
  F_Desk___contains__ := (says_fun (p := (pl ("Desk", some "__contains__"))) c 14 rfl),
  o_Desk___iter__ := (fx_own (says_fx c 29 rfl)),
  F_Desk___iter__ := (says_fun (p := (pl ("Desk", some "__iter__"))) c 15 rfl),
  o_Desk___len__ := (fx_own (says_fx c 30 rfl)),
  F_Desk___len__ := (says_fun (p := (pl ("Desk", some "__len__"))) c 16 rfl),
  g_NoName := (fx_glo X G (says_fx c 31 rfl)),
  ox_NoName := (fx_oex (says_fx c 32 rfl)),
  xf_NoName := (fx_xf (says_fx c 33 rfl)),
  no_NoName := (fx_noats (says_fx c 34 rfl) "name" (by decide +kernel)),
  ini_NoName := (fx_init1 (says_fx c 35 rfl)),
  inf_NoName := (fx_init2 (says_fx c 35 rfl)),
  F_NoName___init__ := (says_fun (p := (pl ("NoName", some "__init__"))) c 17 rfl),
  g_TrackedError := (fx_glo X G (says_fx c 36 rfl)),
  cr_TrackedError := (fx_cread (says_fx c 37 rfl)),
  vi_TrackedError := (fx_cinit (says_fx c 38 rfl)) }),
  b_abs := (fx_free X G (says_fx c 39 rfl)),
  b_int := (fx_free X G (says_fx c 40 rfl)),
  g__law_bag := (fx_glo X G (says_fx c 41 rfl)),
  F__law_bag := (says_fun (p := (pl ("_law_bag", none))) c 18 rfl),
  g__law_take := (fx_glo X G (says_fx c 42 rfl)),
  F__law_take := (says_fun (p := (pl ("_law_take", none))) c 19 rfl),
  g__law_of := (fx_glo X G (says_fx c 43 rfl)),
  F__law_of := (says_fun (p := (pl ("_law_of", none))) c 20 rfl),
  g__law_worth := (fx_glo X G (says_fx c 44 rfl)),
  F__law_worth := (says_fun (p := (pl ("_law_worth", none))) c 21 rfl) }),
  b_max := (fx_free X G (says_fx c 45 rfl)),
  b_min := (fx_free X G (says_fx c 46 rfl)),
  b_zip := (fx_free X G (says_fx c 47 rfl)),
  b_isinstance := (fx_free X G (says_fx c 48 rfl)),
  b_bool := (fx_free X G (says_fx c 49 rfl)),
  b_ValueError := (fx_free X G (says_fx c 50 rfl)),
  g__law_names := (fx_glo X G (says_fx c 51 rfl)),
  F__law_names := (says_fun (p := (pl ("_law_names", none))) c 22 rfl),
  g__law_is_int := (fx_glo X G (says_fx c 52 rfl)),
  F__law_is_int := (says_fun (p := (pl ("_law_is_int", none))) c 23 rfl),
  g__law_shows := (fx_glo X G (says_fx c 53 rfl)),
  F__law_shows := (says_fun (p := (pl ("_law_shows", none))) c 24 rfl),
  g__law_no_name := (fx_glo X G (says_fx c 54 rfl)),
  F__law_no_name := (says_fun (p := (pl ("_law_no_name", none))) c 25 rfl),
  g__law_put := (fx_glo X G (says_fx c 55 rfl)),
  F__law_put := (says_fun (p := (pl ("_law_put", none))) c 26 rfl),
  g__law_right := (fx_glo X G (says_fx c 56 rfl)),
  F__law_right := (says_fun (p := (pl ("_law_right", none))) c 27 rfl),
  ki_Cell := (fx_kit (says_fx c 57 rfl)),
  i1_Cell := (fx_ins1 (says_fx c 58 rfl)),
  i2_Cell := (fx_ins2 (says_fx c 58 rfl)),
  i3_Cell := (fx_ins3 (says_fx c 58 rfl)),
  i4_Cell := (fx_ins4 (says_fx c 58 rfl)),
  ec_NoName := (fx_excc (says_fx c 59 rfl)),
  ki_NoName := (fx_kit (says_fx c 60 rfl)),
  kv_NoName := (fx_kit1 (says_fx c 61 rfl)),
  te_NoName := (fx_exm (says_fx c 62 rfl)) }),
  F_law := (says_fun (p := (pl ("law", none))) c 28 rfl) }
end Tr
set_option maxHeartbeats 0
namespace Tr
open PySem PySem.Spec PyProof.Rows L2
end Tr
set_option maxHeartbeats 0
namespace Tr
open PySem PySem.Spec PyProof.Rows L2
theorem walkF {P : Program} (hP : P.main.file = PySem.Challenge.pw_trackedreads_k67_cells.main.file) (hT : (P.main.scope.names.lookup ("super" : Str)).isSome = false) (w : World) (mg : Str → Option Value) (fa : Addr) (h : Heap) (Y : hk9.says w h) (G : h.Ns mainGlobals mg) (hmg : mg "law" = some (.ref fa)) :
    ∃ (K : PySem.W.Frag) (fd : FuncData) (sp : Sp), K.In h ∧ (∀ (s : Shared) (u : Value), BindsTo s fd ⟨[u], []⟩ [("_law_script", u)]) ∧
      (∀ (H : Hp) (a : Addr) (ns : List Int), ns.length ≤ 63 → Only H → SqL K H a (ns.map V.int) → sp [.ref a] H (fun v _ => v = .bl true) fun _ _ _ => False) ∧
      ∀ base : Heap, K.In base → base.Ns mainGlobals mg → FnOk P w K mg base CX0 9 fa fd ["_law_script"] sp := by
  obtain ⟨K, KX, c⟩ := Y
  have T := mkT hP hT KX G c
  have e0 : mg "law" = some (.ref (adr K 41)) := fx_glo KX G (x := "law") (says_fx c 63 rfl)
  rw [hmg] at e0
  have e' : fa = adr K 41 := by
    injection e0 with e1
    injection e1
  subst e'
  have hb : ∀ (s : Shared) (v : Value), BindsTo s (fdn K 41) ⟨[v], []⟩ [("_law_script", v)] := by
    obtain ⟨_, _, _, _, _, _, _, _, _, e1, _, _⟩ := T.F_law.ex
    intro s v
    rw [e1]
    exact .of_eq rfl
  exact ⟨K, fdn K 41, spLaw K, KX, hb, fun H a ns hl _ hS => ⟨a, ns, rfl, hS, hl, fun _ => rfl⟩, fun base _ _ => ok_law T⟩
end Tr
set_option maxHeartbeats 0
set_option maxHeartbeats 0
theorem PySem.Challenge.cw_trackedreads_k67_cells_holds : PySem.Challenge.rw_trackedreads_k67_cells.Holds := by
  refine Tr.headE ?hc
  case hc =>
    refine L2.walk_ofE (l := PySem.Challenge.rw_trackedreads_k67_cells) (n := 63) (k := 9) (x := "_law_script") (CX := L2.CX0) rfl (by decide) (by kernel_rfl) ⟨rfl, by decide, by decide⟩ ?F (fun _ _ _ _ z => z)
    intro w mg fa h Y G hmg0
    exact Tr.walkF Tr.fileEq Tr.topEq w mg fa h Y G ((congrArg mg Tr.nameEq).symm.trans hmg0)
