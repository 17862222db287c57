import PyProof.Rows.All
import Wide.All
import OpenK.AllK
import Wide.FinOn
import KE.KStateDown
import HandS.ForMost
import HandS.Defaults
import HandS.HeadNt
import HandS.Head2
import HandS.HeadEnd
import PyProof.NeKinds
import PyProof.EqAt
import HandS.Wide
import HandS.IsInst
import HandS.Property
import HandS.ClsMeth
import HandS.Evl
import HandS.Walk
import HandS.Zip
import HandS.Deep
import KE.GoesZip
import KE.KDictZip
import KE.KItemsList
import HandS.ListItems
import HandS.SetBool
import KE.KSuper
import HandS.Nested
import HandS.ExcInit
import HandS.ExcField
import HandS.ExcIs
import HandS.CallSlots
import HandS.TryMany
import KE.KExcIs
import KE.GoesMore
import KE.GoesEnum
import HandS.Star
import HandS.SortRule
import HandS.MethStar
import HandS.More
import KE.KOpsOwn
import HandS.OwnEq
import HandS.Conv
import HandS.Style
import PyProof.InstEq
import PyProof.LongRange
import HandS.FStr
import HandS.Text
import HandS.Strs
import HandS.SetFor
import HandS.Lambda
import HandS.EndTab
import PySem.Challenge.RW_echofold_k80_rows_and_tables_refused
import HandS.TupAny
import HandS.WideMore
import HandS.DictTup
import HandS.TupMul
import KE.KExcInit
import PyProof.ExcBaseAll.OverflowError
import PyProof.ExcBaseAll.IndexError
import PyProof.ExcBaseAll.LookupError
import PyProof.ExcBaseAll.RuntimeError
import PyProof.ExcBaseAll.ValueError
import PyProof.SeqI3
import HandS.DictComp
import HandS.Sort
import HandS.MapSum
import HandS.WideBits
set_option Elab.async false
set_option linter.all false
set_option maxRecDepth 100000
namespace Ech
open PySem PySem.W PySem.Calls PyProof.Rows He He5

abbrev Ft : Type := Frag → Bool
def obsB (fa : List Ft) (fn : List DefA) (K : Frag) : He.AlD := ((fa.all fun f => f K) && fn.all fun d => d.ok K, fn.map fun d => fnA K (d.at_ K))
def SaysB (fa : List Ft) (fn : List DefA) (K : Frag) : Prop := obsB fa fn K = valA fn
section
variable {fa : List Ft} {fn : List DefA} {K : Frag}
theorem SaysB.fact (c : SaysB fa fn K) (i : Nat) {f : Ft} (h : fa[i]? = some f := by rfl) : f K = true := by
  have c1 := (ba (show ((fa.all fun f => f K) && fn.all fun d => d.ok K) = true from congrArg (fun z : He.AlD => z.1) c)).1
  exact List.all_eq_true.mp c1 f (List.mem_of_getElem? h)
theorem SaysB.def_ (c : SaysB fa fn K) (i : Nat) {d : DefA} (h : fn[i]? = some d := by rfl) : ∃ fd, L2.FunD K d.name d.qual d.params d.body d.scope (d.dvs K) (d.kws K) (d.at_ K) fd := by
  have c2 := (ba (show ((fa.all fun f => f K) && fn.all fun d => d.ok K) = true from congrArg (fun z : He.AlD => z.1) c)).2
  have e : fn.map (fun d => fnA K (d.at_ K)) = fn.map DefA.val := congrArg (fun z : He.AlD => z.2) c
  have e2 : (fn.map fun d => fnA K (d.at_ K))[i]? = (fn.map DefA.val)[i]? := by rw [e]
  rw [List.getElem?_map, List.getElem?_map, h] at e2
  exact DefA.funD (Option.some.inj e2) (List.all_eq_true.mp c2 d (List.mem_of_getElem? h))
end
end Ech

set_option maxHeartbeats 1000000
namespace Ech
open PySem PySem.Spec PyProof.Rows L2

section
variable {X : Cx}
/-! ### consequence -/
theorem pe_wk {e : Expr} {t t' : TE} (h : PE X e t) (i : ∀ σ H Q, t' σ H Q → t σ H Q) : PE X e t' := ⟨fun pins s σ H Q I q => h.run pins s σ H Q I (i σ H Q q)⟩
theorem pt_wk {e : Expr} {t t' : TT} (h : PT X e t) (i : ∀ σ H Q, t' σ H Q → t σ H Q) : PT X e t' := ⟨fun pins s σ H Q I q => h.run pins s σ H Q I (i σ H Q q)⟩
theorem ps_wk {st : Stmt} {t t' : TS} (h : PS X st t) (i : ∀ D σ H, t' D σ H → t D σ H) : PS X st t' := ⟨fun pins s σ H D I q => h.run pins s σ H D I (i D σ H q)⟩
theorem op_wk {f : Value → Value → Sem Value} {r r' : R2} (h : OpR X f r) (i : ∀ x y H Q, r' x y H Q → r x y H Q) : OpR X f r' := fun pins s σ H x y v u Q I a b q => h pins s σ H x y v u Q I a b (i x y H Q q)
theorem call_wk {f : Value} {r r' : List V → Hp → VK → Prop} (h : CallR X f r) (i : ∀ xs H Q, r' xs H Q → r xs H Q) : CallR X f r' := fun pins s σ H xs us Q I a q => h pins s σ H xs us Q I a (i xs H Q q)
theorem call_or {f : Value} {r r' : List V → Hp → VK → Prop} (h : CallR X f r) (h' : CallR X f r') : CallR X f (fun xs H Q => r xs H Q ∨ r' xs H Q) := fun pins s σ H xs us Q I a q => q.elim (h pins s σ H xs us Q I a) (h' pins s σ H xs us Q I a)
theorem ix_wk {r r' : R2} (h : IxR X r) (i : ∀ x y H Q, r' x y H Q → r x y H Q) : IxR X r' := fun value slice pins s σ H x y v u Q I a b q => h value slice pins s σ H x y v u Q I a b (i x y H Q q)
theorem pg_wk {e : Expr} {t t' : TG} (h : PG X e t) (i : ∀ v σ H Q, t' v σ H Q → t v σ H Q) : PG X e t' := ⟨fun pins s σ H v u Q I r q => h.run pins s σ H v u Q I r (i v σ H Q q)⟩
theorem sl_wk {r r' : V → Option Int → Option Int → Hp → VK → Prop} (h : SlR X r) (i : ∀ x l u H Q, r' x l u H Q → r x l u H Q) : SlR X r' := fun pins s σ H x v vl vu lo hi sl Q I a b c d q => h pins s σ H x v vl vu lo hi sl Q I a b c d (i x lo hi H Q q)
end

/-! ### two ways by a Bool -/
def bite (c : Bool) (A B : Prop) : Prop := match c with | true => A | false => B
theorem bite_mk {c : Bool} {A B : Prop} (h1 : c = true → A) (h2 : c = false → B) : bite c A B := by
  cases c
  · exact h2 rfl
  · exact h1 rfl
theorem bite_if {c : Bool} {A B : Prop} (h : bite c A B) : if c = true then A else B := by
  cases c
  · exact (if_neg Bool.false_ne_true).mpr h
  · exact (if_pos rfl).mpr h
theorem bite_d {p : Prop} {dp : Decidable p} {A B : Prop} (h1 : p → A) (h2 : ¬ p → B) : bite (decide p) A B := bite_mk (fun h => h1 (of_decide_eq_true h)) (fun h => h2 (of_decide_eq_false h))
theorem bite_nd {p : Prop} {dp : Decidable p} {A B : Prop} (h1 : ¬ p → A) (h2 : p → B) : bite (!decide p) A B := bite_mk (fun h => h1 (of_decide_eq_false (by simpa using h))) (fun h => h2 (of_decide_eq_true (by simpa using h)))

/-! ### new objects, changed objects -/
structure New (H : Hp) (p : Addr) (o : HO) (H1 : Hp) : Prop where
  fresh : H p = none
  eq : H1 = upd H p o
structure Chg (H : Hp) (p : Addr) (o : HO) (H1 : Hp) : Prop where
  eq : H1 = upd H p o
abbrev Ex := Evl.Ex

/-! ### names -/
def slot : L2.St → Nat → Option V
  | [], _ => none
  | x :: _, 0 => x
  | _ :: r, n + 1 => slot r n
theorem slot_ok : ∀ {σ : L2.St} {i : Nat} {v : V}, slot σ i = some v → σ[i]? = some (some v)
  | [], _, _, h => by cases h
  | x :: _, 0, v, h => by
    have e : x = some v := h
    rw [e]
    rfl
  | _ :: r, n + 1, v, h => by
    have e : slot r n = some v := h
    simpa using slot_ok e
def uVar (i : Nat) : TE := fun σ H Q => match slot σ i with | some v => Q v H | none => False
theorem uVar_to {i : Nat} {σ : L2.St} {H : Hp} {Q : VK} (h : uVar i σ H Q) : tVar i σ H Q := by
  unfold uVar at h
  cases e : slot σ i with
  | none => rw [e] at h; exact h.elim
  | some v => rw [e] at h; exact ⟨v, slot_ok e, h⟩
section
variable {X : Cx}
theorem uv (i : Nat) {x : Str} {pos : Pos} (hN : X.N[i]? = some x := by rfl) (hv : Vis X.env.scope x := by first | exact Or.inl rfl | exact Or.inr (Or.inl rfl) | exact Or.inr (Or.inr rfl)) (hd : (x == ("__debug__" : Str)) = false := by decide)
    (hcd : (x == ("__classdict__" : Str)) = false := by decide) : PE X (.Name x pos) (uVar i) := pe_wk (pe_var hN hv hd hcd) fun _ _ _ h => uVar_to h
end

/-! ### operators -/
def CMulU (i j : Int) : Prop := CMul i j ∨ CMulW i j
def rAddU (K : PySem.W.Frag) : R2 := fun x y H Q => match x, y with
  | .int i, .int j => Q (.int (i + j)) H
  | .str a, .str b => a.length + b.length ≤ sizeLine ∧ Q (.str (a ++ b)) H
  | .ref a, .ref b => (∃ xs ys, H a = some (.lst xs) ∧ H b = some (.lst ys) ∧ xs.length + ys.length ≤ sizeLine ∧ ∀ p H1, New H p (.lst (xs ++ ys)) H1 → Q (.ref p) H1) ∨ rCatT K (.ref a) (.ref b) H Q
  | _, _ => False
def rSubU : R2 := fun x y H Q => match x, y with
  | .int i, .int j => Q (.int (i - j)) H
  | _, _ => False
def rMulU : R2 := fun x y H Q => match x, y with
  | .int i, .int j => CMulU i j ∧ Q (.int (i * j)) H
  | .ref l, .int k => ∃ xs, H l = some (.lst xs) ∧ -(2 ^ 63) ≤ k ∧ k < 2 ^ 63 ∧ xs.length * k.toNat ≤ sizeLine ∧ ∀ p H1, New H p (.lst (List.replicate k.toNat xs).flatten) H1 → Q (.ref p) H1
  | _, _ => False
def rModU : R2 := fun x y H Q => match x, y with
  | .int i, .int j => 0 < j ∧ Q (.int (i % j)) H
  | _, _ => False
def rDivU : R2 := fun x y H Q => match x, y with
  | .int i, .int j => (0 < j ∧ j < 2 ^ 1000) ∧ Q (.int (i / j)) H
  | _, _ => False
def rPowU : R2 := fun x y H Q => match x, y with
  | .int i, .int j => (0 ≤ j ∧ j ≤ 1000000 ∧ i.natAbs < 2 ^ 64) ∧ Q (.int (i ^ j.toNat)) H
  | _, _ => False
def rCmpI (f : Int → Int → Bool) : R2 := fun x y H Q => match x, y with
  | .int i, .int j => Q (.bl (f i j)) H
  | _, _ => False
def isNon : V → Bool
  | .non => true
  | _ => false
theorem isNon_eq (x : V) : decide (x = .non) = isNon x := by cases x <;> rfl
def rIsU (neg : Bool) : R2 := fun x y H Q => match y with
  | .non => Q (.bl (if neg then !isNon x else isNon x)) H
  | _ => False
def rLens (K : PySem.W.Frag) (neg : Bool) : R2 := fun x y H Q => ∃ l b xs ys, x = .ref l ∧ y = .ref b ∧ SqL K H l xs ∧ SqL K H b ys ∧ xs.length ≠ ys.length ∧ Q (.bl neg) H
def rEqU (K : PySem.W.Frag) (neg : Bool) : R2 := fun x y H Q => match x, y with
  | .int i, .int j => Q (.bl (if neg then !decide (i = j) else decide (i = j))) H
  | .str i, .str j => Q (.bl (if neg then !decide (i = j) else decide (i = j))) H
  | .bl i, .bl j => Q (.bl (if neg then !decide (i = j) else decide (i = j))) H
  | x, y => ((scal x y = true ∧ Q (.bl (if neg then !decide (x = y) else decide (x = y))) H) ∨ rLens K neg x y H Q) ∨ (∃ d e, Dp K H x d ∧ Dp K H y e ∧ SeqAt.shaped d = true ∧ SeqAt.shaped e = true ∧ Q (.bl (if neg then !PyData.eqv d e else PyData.eqv d e)) H)
section
variable {X : Cx}
theorem o_add : OpR X (binaryOp .Add) (rAddU X.K) := by
  refine op_wk (op_add.or (op_add_str.or (op_cat.or op_catT))) fun x y H Q h => ?_
  unfold rAddU at h
  split at h
  · exact .inl ⟨_, _, rfl, rfl, h⟩
  · exact .inr (.inl ⟨_, _, rfl, rfl, h.1, h.2⟩)
  · rcases h with ⟨xs, ys, h1, h2, h3, h4⟩ | h
    · exact .inr (.inr (.inl ⟨_, _, xs, ys, rfl, rfl, h1, h2, h3, fun p hp => h4 p _ ⟨hp, rfl⟩⟩))
    · exact .inr (.inr (.inr h))
  · exact h.elim
theorem o_sub : OpR X (binaryOp .Sub) rSubU := by
  refine op_wk op_sub fun x y H Q h => ?_
  unfold rSubU at h
  split at h
  · exact ⟨_, _, rfl, rfl, h⟩
  · exact h.elim
theorem o_mul : OpR X (binaryOp .Mult) rMulU := by
  refine op_wk (op_mul.or (op_mulW.or op_rep)) fun x y H Q h => ?_
  unfold rMulU at h
  split at h
  · rcases h with ⟨h | h, q⟩
    · exact .inl ⟨_, _, rfl, rfl, h, q⟩
    · exact .inr (.inl ⟨_, _, rfl, rfl, h, q⟩)
  · obtain ⟨xs, h1, h2, h3, h4, h5⟩ := h
    exact .inr (.inr ⟨_, _, xs, rfl, rfl, h1, h2, h3, h4, fun p hp => h5 p _ ⟨hp, rfl⟩⟩)
  · exact h.elim
theorem o_mod : OpR X (binaryOp .Mod) rModU := by
  refine op_wk op_mod fun x y H Q h => ?_
  unfold rModU at h
  split at h
  · exact ⟨_, _, rfl, rfl, h.1, h.2⟩
  · exact h.elim
theorem div_lt {j : Int} (h1 : 0 < j) (h2 : j < 2 ^ 1000) : j.natAbs < 2 ^ 1000 := by
  have e : (j.natAbs : Int) = j := by omega
  have h3 : (j.natAbs : Int) < ((2 ^ 1000 : Nat) : Int) := by rw [e]; exact_mod_cast h2
  exact_mod_cast h3
theorem o_div : OpR X (binaryOp .FloorDiv) rDivU := by
  refine op_wk op_fdivW fun x y H Q h => ?_
  unfold rDivU at h
  split at h
  · exact ⟨_, _, rfl, rfl, wide_div (b := 1000) h.1.1 (div_lt h.1.1 h.1.2) (by omega) (by omega), h.2⟩
  · exact h.elim
theorem o_pow : OpR X (binaryOp .Pow) rPowU := by
  refine op_wk op_pow fun x y H Q h => ?_
  unfold rPowU at h
  split at h
  · exact ⟨_, _, rfl, rfl, h.1, h.2⟩
  · exact h.elim
theorem o_cmp {op : CmpOp} {f : Int → Int → Bool} (h : OpR X (compareOp op) (rI0 fun i j => .bl (f i j))) : OpR X (compareOp op) (rCmpI f) := by
  refine op_wk h fun x y H Q h => ?_
  unfold rCmpI at h
  split at h
  · exact ⟨_, _, rfl, rfl, h⟩
  · exact h.elim
theorem o_lt : OpR X (compareOp .Lt) (rCmpI fun i j => decide (i < j)) := o_cmp op_lt
theorem o_le : OpR X (compareOp .LtE) (rCmpI fun i j => decide (i ≤ j)) := o_cmp op_le
theorem o_gt : OpR X (compareOp .Gt) (rCmpI fun i j => decide (j < i)) := o_cmp op_gt
theorem o_ge : OpR X (compareOp .GtE) (rCmpI fun i j => decide (j ≤ i)) := o_cmp op_ge
theorem o_is : OpR X (compareOp .Is) (rIsU false) := by
  refine op_wk op_isN fun x y H Q h => ?_
  unfold rIsU at h
  split at h
  · exact ⟨rfl, by rw [isNon_eq]; exact h⟩
  · exact h.elim
theorem o_isnot : OpR X (compareOp .IsNot) (rIsU true) := by
  refine op_wk op_notN fun x y H Q h => ?_
  unfold rIsU at h
  split at h
  · exact ⟨rfl, by rw [isNon_eq]; exact h⟩
  · exact h.elim
theorem o_lens (hu : X.A.units < cLine) : OpR X (compareOp .Eq) (rLens X.K false) := by
  intro pins s σ H x y v u Q I rx ry h
  obtain ⟨l, b, xs, ys, rfl, rfl, hl, hb, hn, q⟩ := h
  cases rx
  cases ry
  obtain ⟨its, r, e, _⟩ := I.list hl
  obtain ⟨its2, r2, e2, _⟩ := I.list hb
  have h1 := r.length
  have h2 := r2.length
  exact PySem.SeqAt.RcAt.lists_lengths e.isList e2.isList (by simp; omega) hu _ _ _ _ ⟨.bl false, H, I, rfl, q⟩
theorem o_lensN (hu : X.A.units < cLine) : OpR X (compareOp .NotEq) (rLens X.K true) := by
  intro pins s σ H x y v u Q I rx ry h
  obtain ⟨l, b, xs, ys, rfl, rfl, hl, hb, hn, q⟩ := h
  cases rx
  cases ry
  obtain ⟨its, r, e, _⟩ := I.list hl
  obtain ⟨its2, r2, e2, _⟩ := I.list hb
  have h1 := r.length
  have h2 := r2.length
  exact PySem.SeqAt.RcNeAt.lists_lengths e.isList e2.isList (by simp; omega) hu _ _ _ _ ⟨.bl true, H, I, rfl, q⟩
theorem o_eq (hu : X.A.units + 64 < cLine) : OpR X (compareOp .Eq) (rEqU X.K false) := by
  refine op_wk ((op_eq.or (op_eqD hu)).or (o_lens (by omega))) fun x y H Q h => ?_
  unfold rEqU at h
  split at h
  · exact .inl (.inl ⟨rfl, by simpa using h⟩)
  · exact .inl (.inl ⟨rfl, by simpa using h⟩)
  · exact .inl (.inl ⟨rfl, by simpa using h⟩)
  · rcases h with (h | h) | ⟨d, e, h1, h2, h3, h4, h5⟩
    · exact .inl (.inl h)
    · exact .inr h
    · exact .inl (.inr ⟨d, e, h1, h2, h3, h4, h5⟩)
theorem o_ne (hu : X.A.units + 64 < cLine) : OpR X (compareOp .NotEq) (rEqU X.K true) := by
  refine op_wk ((op_ne.or (op_neD hu)).or (o_lensN (by omega))) fun x y H Q h => ?_
  unfold rEqU at h
  split at h
  · exact .inl (.inl ⟨rfl, by simpa using h⟩)
  · exact .inl (.inl ⟨rfl, by simpa using h⟩)
  · exact .inl (.inl ⟨rfl, by simpa using h⟩)
  · rcases h with (h | h) | ⟨d, e, h1, h2, h3, h4, h5⟩
    · exact .inl (.inl h)
    · exact .inr h
    · exact .inl (.inr ⟨d, e, h1, h2, h3, h4, h5⟩)
end
end Ech

namespace Ech
open PySem PySem.Spec PyProof.Rows L2

/-! ### defs whose frames know that no repr is under way -/
structure FnG (P : Program) (w : World) (K : PySem.W.Frag) (mg : PySem.Str → Option Value) (base : Heap) (CX : CXT) (k : Nat) (f : Addr) (fd : FuncData) (ps : List PySem.Str) (sp : Sp) : Prop where
  len : ∀ vs H Q E, sp vs H Q E → vs.length = ps.length
  run : ∀ (A : Around) (outer : List Env) (s : Shared) (H : Hp) (args : Args) (us : List Value) (vs : List V) (Q : VK) (E : XK),
    Room k A → A.guards = some [] → Env0 P w K mg base A outer s H → BindsTo s fd args (ps.zip us) → Vals vs us → sp vs H Q E →
    codeAny (model P w) A (.call (.ref f) args) (CR CX outer P w H s Q E) s

section
variable {P : Program} {w : World} {K : PySem.W.Frag} {mg : PySem.Str → Option Value} {base : Heap} {CX : CXT} {k : Nat} {f : Addr} {fd : FuncData} {ps : List PySem.Str} {sp : Sp}
theorem FnG.of (F : FnOk P w K mg base CX k f fd ps sp) : FnG P w K mg base CX k f fd ps sp :=
  ⟨F.len, fun A o s H a us vs Q E hr _ e b v q => F.run A o s H a us vs Q E hr e b v q⟩
theorem FnG.up {j : Nat} (F : FnG P w K mg base CX j f fd ps sp) (h : j ≤ k) : FnG P w K mg base CX k f fd ps sp :=
  ⟨F.len, fun A o s H a us vs Q E hr => F.run A o s H a us vs Q E (hr.mono h)⟩
theorem FnG.imp {sp' : Sp} (F : FnG P w K mg base CX k f fd ps sp) (h : ∀ vs H Q E, sp' vs H Q E → sp vs H Q E) : FnG P w K mg base CX k f fd ps sp' :=
  ⟨fun vs H Q E q => F.len vs H Q E (h vs H Q E q), fun A o s H a us vs Q E hr hg e b v q => F.run A o s H a us vs Q E hr hg e b v (h vs H Q E q)⟩

def CodeAt (K : PySem.W.Frag) (f : Addr) (cdv : Value) : Prop := ∃ oc od d osl, K.lookup f = some ⟨oc, od, .func d, osl⟩ ∧ d.code = cdv
theorem FnG.bodyC {x qual : PySem.Str} {params : Arguments} {body : List Stmt} {scope : Scope} {dvs : List V} {kws : List (PySem.Str × V)} {N : List PySem.Str}
    (F : FunD K x qual params body scope dvs kws f fd) (S : FnScope N ps scope) (len : ∀ vs H Q E, sp vs H Q E → vs.length = ps.length)
    (hbody : ∀ (cdv : Value) (A : Around) (outer : List Env) (s : Shared) (H : Hp) (vs : List V) (Q : VK) (E : XK), CodeAt K f cdv →
      Room k (A.deeper (envOfC qual scope s.heap.objs.size f cdv)) → (A.deeper (envOfC qual scope s.heap.objs.size f cdv)).guards = some [] → sp vs H Q E →
      ∃ t, PSs (cxOf CX P w K mg base N qual scope f cdv A outer s H E) body t ∧ t { nx := fun _ H' => Q .non H', rt := Q } (start N vs) H) :
    FnG P w K mg base CX (k + 1) f fd ps sp := by
  obtain ⟨oc, od, dV, kV, doc, pm, an, cdv, ct, osl, hfd, lk, hcd, _, _⟩ := F.ex
  have known : CodeAt K f cdv := ⟨oc, od, fd, osl, lk, by rw [hfd]⟩
  subst hfd
  refine ⟨len, ?_⟩
  intro A outer s H args us vs Q E room quiet e0 bt rel want
  have inK : K.In s.heap := e0.mod.kin.keeps (fun b o z => (e0.bs b o z).1)
  have nl : s.heap.NoLimit := e0.mod.nolimit.keeps (fun b o z => (e0.bs b o z).1)
  have kinds : ∀ y ∈ ps.zip us, scope.names.lookup y.1 = some .local ∨
      (scope.names.lookup y.1 = some .cell ∧ ((cellsFrom (s.heap.objs.size + 1) scope.names []).lookup y.1).isSome = true) := by
    rintro ⟨n, v⟩ hy
    have hp := (List.of_mem_zip hy).1
    cases S.par n hp with
    | inl q => exact Or.inl q
    | inr q => exact Or.inr ⟨q, PySem.W.cellsFrom_some _ _ _ (Or.inl q)⟩
  have start_at := inK _ _ lk
  have rec_at := PySem.W.codeRec_of inK hcd
  refine codeAny_call_function room.depth start_at rfl S.co S.gen rfl rec_at (bt _ _ _ _ ?_)
  refine wpAny_newFunctionEnv_cells S.kind kinds ?_
  intro env henv s1 entered
  subst henv
  refine ⟨nl.keeps entered.toInCall.keep, codeAny_func ?_⟩
  obtain ⟨t, derive, reading⟩ := hbody cdv A outer s H vs Q E known (room.deeper _) quiet want
  have inv := inv_start (CX := CX) (N := N) (E := E) S room.hd e0 (len _ _ _ _ want) rel entered
  refine wpAny_mono (derive.run [] s1 (start N vs) H _ inv reading) ?_ (fun _ _ z => z)
  intro fl s' ended
  cases fl with
  | ret u =>
    obtain ⟨v, _, H', J, rv, q⟩ := ended
    exact ⟨v, H', J.os, J.bare, J.base, J.hok, rv, q⟩
  | next =>
    obtain ⟨_, H', J, q⟩ := ended
    exact ⟨V.non, H', J.os, J.bare, J.base, J.hok, rfl, q⟩
  | brk => exact (ended.elim fun _ z => z.elim fun _ z => z.2).elim
  | cont => exact (ended.elim fun _ z => z.elim fun _ z => z.2).elim
theorem FnG.body {x qual : PySem.Str} {params : Arguments} {body : List Stmt} {scope : Scope} {dvs : List V} {kws : List (PySem.Str × V)} {N : List PySem.Str}
    (F : FunD K x qual params body scope dvs kws f fd) (S : FnScope N ps scope) (len : ∀ vs H Q E, sp vs H Q E → vs.length = ps.length)
    (hbody : ∀ (cdv : Value) (A : Around) (outer : List Env) (s : Shared) (H : Hp) (vs : List V) (Q : VK) (E : XK),
      Room k (A.deeper (envOfC qual scope s.heap.objs.size f cdv)) → (A.deeper (envOfC qual scope s.heap.objs.size f cdv)).guards = some [] → sp vs H Q E →
      ∃ t, PSs (cxOf CX P w K mg base N qual scope f cdv A outer s H E) body t ∧ t { nx := fun _ H' => Q .non H', rt := Q } (start N vs) H) :
    FnG P w K mg base CX (k + 1) f fd ps sp := by
  exact FnG.bodyC F S len fun cdv A outer s H vs Q E _ => hbody cdv A outer s H vs Q E
end

/-! ### such a def called -/
section
variable {X : Cx} {CX : CXT} {k : Nat} {f : Addr} {fd : FuncData} {ps : List PySem.Str} {sp : Sp} {dvs : List V} {ds : List Value} {E : XK}
theorem runG {pins : List (Addr × Obj)} {σ : L2.St} {H : Hp} {s : Shared} {Q : VK} {us : List Value} {vs : List V} (F : FnG X.prog X.w X.K X.mg X.base CX k f fd ps sp) (room : Room k X.A) (quiet : X.A.guards = some [])
    (hb : Binds X.K fd ps ds) (hd : Vals dvs ds) (hx : Passes CX X E) (I : Inv X pins σ H s) (r : Vals vs us) (h : sp (vs ++ dvs) H Q E) :
    wpAny (model X.prog X.w) X.A (call (.ref f) us) (EP X pins σ Q) X.xe s := by
  have rr : Vals (vs ++ dvs) (us ++ ds) := r.append hd
  have lens : (us ++ ds).length = ps.length := (rr.length.symm.trans (F.len _ _ _ _ h))
  have go := F.run X.A X.stack s H ⟨us, []⟩ (us ++ ds) (vs ++ dvs) Q E room quiet I.env0 (hb s us I.kIn lens) rr h
  refine wpAny_call (codeAny_mono go ?_)
  intro res s' hq
  cases res with
  | error er => exact hx pins σ H s er s' I hq
  | ok fl =>
    cases fl with
    | ret u => exact I.after hq
    | next => exact hq.elim
    | brk => exact hq.elim
    | cont => exact hq.elim
theorem u_callG {x : PySem.Str} {p pos : Pos} {e : Expr} {es : List Expr} {t : TA} (F : FnG X.prog X.w X.K X.mg X.base CX k f fd ps sp) (room : Room k X.A) (quiet : X.A.guards = some [])
    (hg : Gl X x) (hm : X.mg x = some (.ref f)) (hk : PySem.W.keepIn X.K (.ref f) = true) (hb : Binds X.K fd ps ds) (hd : Vals dvs ds) (hx : Passes CX X E) (ha : PA X (e :: es) t)
    (hdb : (x == ("__debug__" : PySem.Str)) = false := by decide) (he : starEach (e :: es) X.env = (false, eval e X.env) :: starEach es X.env := by rfl)
    (hpl : (backTo pos (starEach es X.env)).any (·.1) = false := by rfl) : PE X (.Call (.Name x p) (e :: es) [] pos) (tCall sp dvs E t) := by
  constructor
  intro pins s σ H Q I h
  refine wpAny_Call_Name_kw (ld_glob I hg hm ?_ hdb)
  have args := ha.run pos pins s σ H _ I h
  refine PySem.W.callWith_K (h₀ := X.base) I.ok.mod.kin hk (thn args ?_) he hpl
  rintro us s1 ⟨vs, H1, I1, r, q⟩
  exact ⟨I1.kIn, runG F room quiet hb hd hx I1 r q⟩
end

/-! ### the law's end -/
/-! ### repr -/
section
variable {X : Cx}
def rRepr (K : PySem.W.Frag) : List V → Hp → VK → Prop := fun xs H Q => ∃ x d, xs = [x] ∧ Dp K H x d ∧ d.showable = true ∧ d.hasDict = false ∧ d.depth ≤ 60 ∧ d.shown.length ≤ sizeLine ∧ Q (.str d.shown) H
theorem c_repr (quiet : X.A.guards = some []) (hu : X.A.units + 64 < cLine) : CallR X (.builtin "repr") (rRepr X.K) := by
  intro pins s σ H xs us Q I r h
  obtain ⟨x, d, rfl, hd, sh, nd, dp, sz, q⟩ := h
  obtain ⟨u, rfl, rx⟩ := vals1 r
  cases hd with
  | non =>
    cases rx
    exact PySem.P.repr_of_none ⟨.str _, H, I.tok _, ⟨_, rfl⟩, q⟩
  | bl b =>
    cases rx
    exact PySem.P.repr_of_bool ⟨.str _, H, I.tok _, ⟨_, rfl⟩, q⟩
  | int i =>
    obtain ⟨t, rfl⟩ := rx
    exact PySem.P.repr_of_int (by simpa [PyData.showable] using sh) ⟨.str _, H, I.tok _, ⟨_, rfl⟩, q⟩
  | str y =>
    obtain ⟨t, rfl⟩ := rx
    exact PySem.P.repr_of_str ⟨.str _, H, I.tok _, ⟨_, rfl⟩, q⟩ sz
  | @lst a xs ds h1 h2 =>
    cases rx
    obtain ⟨as, rd⟩ := Dp.reads I _ _ _ (Dp.lst h1 h2) (show RelV (.ref a) (.ref a) from rfl)
    exact repr_of_reads' rd sh (PyData.noDict_hsm nd) quiet (by omega) (fun _ _ e => e) (fun h' u tk hk => ⟨.str _, H, I.kept hk, ⟨_, rfl⟩, q⟩) sz
  | @tup a xs ds h1 h2 =>
    cases rx
    obtain ⟨as, rd⟩ := Dp.reads I _ _ _ (Dp.tup h1 h2) (show RelV (.ref a) (.ref a) from rfl)
    exact repr_of_reads' rd sh (PyData.noDict_hsm nd) quiet (by omega) (fun _ _ e => e) (fun h' u tk hk => ⟨.str _, H, I.kept hk, ⟨_, rfl⟩, q⟩) sz
end
end Ech

namespace Ech
open PySem PySem.Spec PyProof.Rows L2

/-! ### tests -/
def boolOf (z : V) (H : Hp) (Q : Bool → Hp → Prop) : Prop := match z with
  | .bl k => Q k H
  | _ => False
theorem boolOf_to {z : V} {H : Hp} {Q : Bool → Hp → Prop} (h : boolOf z H Q) : ∃ k, z = .bl k ∧ Q k H := by
  cases z with
  | bl k => exact ⟨k, rfl, h⟩
  | _ => exact h.elim
def uTest (t : TE) : TT := fun σ H Q => t σ H fun z H1 => boolOf z H1 Q
def truOf (K : PySem.W.Frag) (x : V) (H : Hp) (Q : Bool → Hp → Prop) : Prop := match x with
  | .bl b => Q b H
  | .non => Q false H
  | .int i => Q (i != 0) H
  | .str y => y.length ≤ sizeLine ∧ Q ((y.length : Int) != 0) H
  | x => ∃ k, TruV K x H k ∧ Q k H
def uTru (K : PySem.W.Frag) (t : TE) : TT := fun σ H Q => t σ H fun z H1 => truOf K z H1 Q
theorem truOf_to {K : PySem.W.Frag} {x : V} {H : Hp} {Q : Bool → Hp → Prop} (h : truOf K x H Q) : ∃ k, TruV K x H k ∧ Q k H := by
  cases x with
  | bl b => exact ⟨b, rfl, h⟩
  | non => exact ⟨false, rfl, h⟩
  | int i => exact ⟨_, rfl, h⟩
  | str y => exact ⟨_, ⟨h.1, rfl⟩, h.2⟩
  | _ => exact h
def uChain (r r' : R2) (ta tb tc : TE) : TE := fun σ H Q => ta σ H fun x H1 => tb σ H1 fun y H2 => r x y H2 fun z H3 => boolOf z H3 fun k H4 => bite k (tc σ H4 fun w H5 => r' y w H5 Q) (Q (.bl false) H4)
def uAnd (t u : TT) : TT := fun σ H Q => t σ H fun c H1 => bite c (u σ H1 Q) (Q false H1)
def uOr (t u : TT) : TT := fun σ H Q => t σ H fun c H1 => bite c (Q true H1) (u σ H1 Q)
def uAndV (ta tb : TE) : TE := fun σ H Q => ta σ H fun x H1 => boolOf x H1 fun c H2 => bite c (tb σ H2 Q) (Q (.bl false) H2)
def uOrV (ta tb : TE) : TE := fun σ H Q => ta σ H fun x H1 => boolOf x H1 fun c H2 => bite c (Q (.bl true) H2) (tb σ H2 Q)
def uNotV (ta : TE) : TE := fun σ H Q => ta σ H fun x H1 => boolOf x H1 fun c H2 => Q (.bl (!c)) H2
def uIf (t : TT) (ta tb : TE) : TE := fun σ H Q => t σ H fun c H1 => bite c (ta σ H1 Q) (tb σ H1 Q)
def uIfS (c : TT) (t u : TS) : TS := fun D σ H => c σ H fun b H1 => bite b (t D σ H1) (u D σ H1)
/-! readings grow with what is wanted -/
section
variable {X : Cx} {a b c e : Expr} {ta tb tc : TE} {tA tB' : TT} {rest : List Expr} {pos : Pos}
theorem u_cmpT {op : CmpOp} {r : R2} (ho : OpR X (compareOp op) r) (ha : PE X a ta) (hb : PE X b tb) (hm : behindInMarks op b = false) : PT X (.Compare a [op] [b] pos) (uTest (tOp r ta tb)) := by
  constructor
  intro pins s σ H Q I h
  have k : ∀ (pins' : List (Addr × Obj)) (s' : Shared) (H' : Hp) (x y : V) (v u : Value), Inv X pins' σ H' s' → RelV x v → RelV y u → r x y H' (fun z H1 => boolOf z H1 Q) →
      wpAny (model X.prog X.w) X.A (compareOp op v u) (EP X pins' σ fun z H1 => ∃ k, z = .bl k ∧ Q k H1) X.xe s' := fun pins' s' H' x y v u I' rx ry q =>
    thn (ho pins' s' σ H' x y v u _ I' rx ry q) fun w s2 ⟨z, H2, I2, r2, q2⟩ => ⟨z, H2, I2, r2, boolOf_to q2⟩
  refine wpAny_isTrue_Compare1 (thn (ha.run pins s σ H _ I h) fun v s1 ⟨x, H1, I1, r1, q1⟩ => thn (hb.run pins s1 σ H1 _ I1 q1) fun u s2 ⟨y, H2, I2, r2, q2⟩ =>
    thn (k pins s2 H2 x y v u I2 r1 r2 q2) fun w s3 ⟨z, H3, I3, r3, kk, e3, q3⟩ => ?_) hm
  subst e3
  cases r3
  exact wpAny_truthy_bool ⟨H3, I3, q3⟩
theorem u_cmp {op : CmpOp} {r : R2} (ho : OpR X (compareOp op) r) (ha : PE X a ta) (hb : PE X b tb) (hm : behindInMarks op b = false) : PE X (.Compare a [op] [b] pos) (tOp r ta tb) := pe_cmpR ho ha hb hm
theorem u_tru (h : PE X e ta) (he : ∀ whole, isTrue e X.env whole = (do let v ← whole; standAt e.pos; holding [v] (truthy v)) := by intro _; rfl) : PT X e (uTru X.K ta) := by
  constructor
  intro pins s σ H Q I hw
  refine isTrue_plain (thn (h.run pins s σ H _ I hw) fun v s1 ⟨x, H1, I1, r1, q1⟩ => ?_) (he _)
  exact tru_ok pins s1 σ H1 x v Q I1 r1 (truOf_to q1)
theorem u_and1 (ha : PT X a tA) : PW X (.BoolOp .And [a] pos) tA := pw_and1 ha
theorem u_or1 (ha : PT X a tA) : PW X (.BoolOp .Or [a] pos) tA := pw_or1 ha
theorem u_andT (ha : PT X a tA) (hb : PW X (.BoolOp .And (b :: rest) pos) tB') : PW X (.BoolOp .And (a :: b :: rest) pos) (uAnd tA tB') := by
  constructor
  intro wh pins s σ H Q I h
  refine isTrue_and (thn (ha.run pins s σ H _ I h) fun c s1 ⟨H1, I1, q1⟩ => ?_)
  cases c with
  | true => exact hb.run wh pins s1 σ H1 Q I1 q1
  | false => exact ⟨H1, I1, q1⟩
theorem u_orT (ha : PT X a tA) (hb : PW X (.BoolOp .Or (b :: rest) pos) tB') : PW X (.BoolOp .Or (a :: b :: rest) pos) (uOr tA tB') := by
  constructor
  intro wh pins s σ H Q I h
  refine isTrue_or (thn (ha.run pins s σ H _ I h) fun c s1 ⟨H1, I1, q1⟩ => ?_)
  cases c with
  | true => exact ⟨H1, I1, q1⟩
  | false => exact hb.run wh pins s1 σ H1 Q I1 q1
theorem u_and (ha : PE X a ta) (hb : PE X (.BoolOp .And (b :: rest) pos) tb) : PE X (.BoolOp .And (a :: b :: rest) pos) (uAndV ta tb) := by
  constructor
  intro pins s σ H Q I h
  refine BoolOp_and (thn (ha.run pins s σ H _ I h) fun v s1 ⟨x, H1, I1, r1, q1⟩ => ?_)
  obtain ⟨c, rfl, q1⟩ := boolOf_to q1
  cases r1
  refine wpAny_truthy_bool ?_
  cases c with
  | true => exact hb.run pins s1 σ H1 Q I1 q1
  | false => exact ⟨.bl false, H1, I1, rfl, q1⟩
theorem u_or (ha : PE X a ta) (hb : PE X (.BoolOp .Or (b :: rest) pos) tb) : PE X (.BoolOp .Or (a :: b :: rest) pos) (uOrV ta tb) := by
  constructor
  intro pins s σ H Q I h
  refine BoolOp_or (thn (ha.run pins s σ H _ I h) fun v s1 ⟨x, H1, I1, r1, q1⟩ => ?_)
  obtain ⟨c, rfl, q1⟩ := boolOf_to q1
  cases r1
  refine wpAny_truthy_bool ?_
  cases c with
  | false => exact hb.run pins s1 σ H1 Q I1 q1
  | true => exact ⟨.bl true, H1, I1, rfl, q1⟩
theorem u_not (ha : PE X a ta) : PE X (.UnaryOp .Not a pos) (uNotV ta) := by
  constructor
  intro pins s σ H Q I h
  refine UnaryOp_ (thn (ha.run pins s σ H _ I h) fun v s1 ⟨x, H1, I1, r1, q1⟩ => ?_)
  obtain ⟨c, rfl, q1⟩ := boolOf_to q1
  cases r1
  exact not_of (wpAny_truthy_bool ⟨.bl (!c), H1, I1, rfl, q1⟩)
theorem u_ifExp (hc : PT X c tA) (ha : PE X a ta) (hb : PE X b tb) : PE X (.IfExp c a b pos) (uIf tA ta tb) := by
  constructor
  intro pins s σ H Q I h
  refine wpAny_IfExp (thn (hc.run pins s σ H _ I h) fun d s1 ⟨H1, I1, q1⟩ => ?_)
  cases d with
  | true => exact ha.run pins s1 σ H1 Q I1 q1
  | false => exact hb.run pins s1 σ H1 Q I1 q1
def uCutE (t : TE) : TE := fun σ H Q => ∃ R : VK, t σ H R ∧ ∀ v H', R v H' → Q v H'
theorem u_cutE {t : TE} (h : PE X a t) : PE X a (uCutE t) := by
  constructor
  intro pins s σ H Q I ⟨R, q, i⟩
  exact thn (h.run pins s σ H R I q) fun v s1 ⟨x, H1, I1, r1, q1⟩ => ⟨x, H1, I1, r1, i _ _ q1⟩
theorem u_if {p q : List Stmt} {t u : TS} (hc : PT X c tA) (ha : PSs X p t) (hb : PSs X q u) : PS X (.If c p q pos) (uIfS tA t u) := by
  constructor
  intro pins s σ H D I h
  refine wpAny_If (thn (hc.run pins s σ H _ I h) fun d s1 ⟨H1, I1, q1⟩ => ?_)
  cases d with
  | true => exact ha.run pins s1 σ H1 D I1 q1
  | false => exact hb.run pins s1 σ H1 D I1 q1
end

/-! ### displays -/
def uTup (t : TA) : TE := fun σ H Q => t σ H fun xs H1 => xs.length ≤ sizeLine ∧ ∀ p H2, New H1 p (.tup xs) H2 → Q (.ref p) H2
def uLst (t : TA) : TE := fun σ H Q => t σ H fun xs H1 => xs.length ≤ sizeLine ∧ ∀ p H2, New H1 p (.lst xs) H2 → Q (.ref p) H2
section
variable {X : Cx} {es : List Expr} {t : TA} {pos : Pos}
def clA (t : TA) : TA := fun σ H Q => ∃ R : List V → Hp → Prop, t σ H R ∧ ∀ v H', R v H' → Q v H'
def clE (t : TE) : TE := fun σ H Q => ∃ R : VK, t σ H R ∧ ∀ v H', R v H' → Q v H'
theorem pa_cl (h : PA X es t) : PA X es (clA t) := ⟨fun p pins s σ H Q I ⟨R, q, i⟩ => thn (h.run p pins s σ H R I q) fun _ _ ⟨vs, H1, I1, r1, q1⟩ => ⟨vs, H1, I1, r1, i _ _ q1⟩⟩
theorem pe_cl {e : Expr} {te : TE} (h : PE X e te) : PE X e (clE te) := ⟨fun pins s σ H Q I ⟨R, q, i⟩ => thn (h.run pins s σ H R I q) fun _ _ ⟨v, H1, I1, r1, q1⟩ => ⟨v, H1, I1, r1, i _ _ q1⟩⟩
theorem u_tup {x1} (h : PA X es t) : PE X (.Tuple es x1 pos) (uTup t) :=
  pe_wk (pe_tup (pa_cl h)) fun σ H Q q => ⟨_, q, fun xs H1 q1 => ⟨q1.1, fun p hp => q1.2 p _ ⟨hp, rfl⟩⟩⟩
theorem u_lst (h : PA X es t) : PE X (.List es pos) (uLst t) :=
  pe_wk (pe_lst (pa_cl h)) fun σ H Q q => ⟨_, q, fun xs H1 q1 => ⟨q1.1, fun p hp => q1.2 p _ ⟨hp, rfl⟩⟩⟩
end
end Ech

namespace Ech
open PySem PySem.W PySem.Calls PyProof.Rows
open PySem (Draws)

theorem loop_list {α β : Type} {M : Model} {A : Around} {body : α → β → Sem (ForInStep β)} {Q : β → Shared → Prop} {E : Value → Shared → Prop} (I : List α → β → Shared → Prop)
    (step : ∀ x rest b s, I (x :: rest) b s → wpAny M A (body x b) (fun r s' => match r with | .yield b' => I rest b' s' | .done b' => Q b' s') E s)
    (fin : ∀ b s, I [] b s → Q b s) : ∀ (l : List α) (b : β) (s : Shared), I l b s → wpAny M A (forIn l b body) Q E s
  | [], b, s, h => by
    simp only [List.forIn_nil]
    exact wpAny_pure (fin b s h)
  | x :: l, b, s, h => by
    simp only [List.forIn_cons]
    refine wpAny_bind (wpAny_mono (step x l b s h) (fun r s' q => ?_) (fun _ _ z => z))
    cases r with
    | done b' => exact wpAny_pure q
    | yield b' => exact loop_list I step fin l b' s' q

structure Src (prog : Program) (w : World) (A : Around) where
  it : Addr
  fp : List Addr
  n : Nat
  P : Nat → Value → Prop
  St : Nat → Heap → Prop
  D : Draws prog w A it fp n P St

def ZipF (h : Heap) (z : Addr) (f0 f1 : Value) (TI TO : Addr) : Prop := h.get? z = some { cls := .type "zip", dict := none, data := .fields #[f0, f1, .bool false, .ref TI, .ref TO], slots := #[] }
def TupF (h : Heap) (t : Addr) (vs : List Value) : Prop := h.get? t = some { cls := .type "tuple", data := .seq vs.toArray }

structure SepZ {prog : Program} {w : World} {A : Around} (ss : List (Src prog w A)) (z TI TO : Addr) : Prop where
  TIz : TI ≠ z
  TOz : TO ≠ z
  TITO : TI ≠ TO
  mem : ∀ s ∈ ss, s.it ∈ s.fp
  zf : ∀ s ∈ ss, z ∉ s.fp
  If : ∀ s ∈ ss, TI ∉ s.fp
  Of : ∀ s ∈ ss, TO ∉ s.fp
  pw : ss.Pairwise fun a b => a.it ∉ b.fp ∧ b.it ∉ a.fp

section
variable {prog : Program} {w : World} {A : Around} {E : Value → Shared → Prop} {s : Shared} {ss : List (Src prog w A)} {z TI TO : Addr} {i : Nat}

theorem Src.keep (a : Src prog w A) {i : Nat} {h h' : Heap} {x : Addr} (st : a.St i h) (hs : Heap.SameBut x h h') (hx : x ∉ a.fp) : a.St i h' :=
  a.D.frame i h h' st fun b hb o e => hs.extBut b o (fun q => hx (q ▸ hb)) e

theorem paired_snoc {α β : Type} {F : α → β → Prop} : ∀ {xs : List α} {ys : List β} {x : α} {y : β}, Paired F xs ys → F x y → Paired F (xs ++ [x]) (ys ++ [y])
  | _, _, _, _, .nil, h => .cons h .nil
  | _, _, _, _, .cons r t, h => .cons r (paired_snoc t h)

theorem zip_held {T : Addr} {f : Bool} {oT : Obj} {Q : Value → Shared → Prop} (S : SepZ ss z TI TO) (ne : ss ≠ []) (hz : ZipF s.heap z (rawInt T) (.bool f) TI TO) (hT : s.heap.get? T = some oT)
    (hTI : TupF s.heap TI (ss.map fun a => .ref a.it)) (st : ∀ a ∈ ss, a.St i s.heap) (lt : ∀ a ∈ ss, i < a.n) (small : ss.length ≤ sizeLine)
    (hQ : ∀ xs h' tk, Paired (fun (a : Src prog w A) x => a.P i x) ss xs → ZipF h' z (rawInt T) (.bool true) TI TO → (∀ a ∈ ss, a.St (i + 1) h') → TupF h' s.heap.objs.size xs → h'.objs.size = s.heap.objs.size + 1 →
      (∀ c o, c ≠ z → (∀ a ∈ ss, c ≠ a.it) → s.heap.get? c = some o → h'.get? c = some o) → Q (.ref s.heap.objs.size) { s with heap := h', toks := tk }) :
    wpAny (model prog w) A (Builtin.«zip.__next__» ⟨[.ref z], []⟩) (fun fin s' => ∃ v, fin = .done (.ret v) ∧ Q v s') E s := by
  obtain ⟨hp, g, d, tk0, os⟩ := s
  show wpAny _ _ (field (.ref z) 2 >>= _) _ _ _
  refine wpAny_bind (wpAny_field hz rfl (x := .bool false) rfl ?_)
  show wpAny _ _ (field (.ref z) 3 >>= _) _ _ _
  refine wpAny_bind (wpAny_field hz rfl (x := .ref TI) rfl ?_)
  refine wpAny_bind (wpAny_seqItems hTI rfl ?_)
  have hne : ((ss.map fun a => Value.ref a.it).toArray.isEmpty) = false := by
    cases ss with
    | nil => exact absurd rfl ne
    | cons a r => rfl
  dsimp only
  rw [hne]
  simp only [Bool.false_eq_true, if_false]
  refine wpAny_bind (wpAny_tupleHeld_zip hz hT fun h1 hz1 hs1 => ?_)
  simp only [Bool.false_eq_true, if_false]
  refine wpAny_bind ?_
  rw [← Array.forIn_toList]
  have hs1' : Heap.SameBut z hp h1 := hs1
  refine loop_list (fun l b s' => ∃ (ts us : List (Src prog w A)) (xs : List Value) (h' : Heap) (tk' : Nat), ss = ts ++ us ∧ l = us.map (fun a => Value.ref a.it) ∧ b = (none, xs.toArray) ∧ s' = ⟨h', g, d, tk', os⟩ ∧
      Paired (fun (a : Src prog w A) x => a.P i x) ts xs ∧ ZipF h' z (rawInt T) (.bool true) TI TO ∧ (∀ a ∈ ts, a.St (i + 1) h') ∧ (∀ a ∈ us, a.St i h') ∧ h'.objs.size = hp.objs.size ∧
      (∀ c o, c ≠ z → (∀ a ∈ ss, c ≠ a.it) → hp.get? c = some o → h'.get? c = some o)) ?_ ?_ _ _ _ ?_
  · rintro x rest b s' ⟨ts, us, xs, h', tk', e1, e2, rfl, rfl, pr, hz', st1, st2, sz, kp⟩
    cases us with
    | nil => cases e2
    | cons a us =>
      have ex : x = .ref a.it := (List.cons.inj e2).1
      have er : rest = us.map (fun a => Value.ref a.it) := (List.cons.inj e2).2
      subst ex
      have am : a ∈ ss := by rw [e1]; simp
      refine wpAny_bind (wpAny_holding ?_)
      show wpAny _ _ (Builtin.SmallTypes.nextOf (.ref a.it) >>= _) _ _ _
      refine wpAny_bind (a.D.item i _ _ _ (lt a am) (st2 a List.mem_cons_self) fun x h2 tk2 px stn hs2 => wpAny_pure ?_)
      have hs2' : Heap.SameBut a.it h' h2 := hs2
      have pw := S.pw
      rw [e1] at pw
      have pw2 := List.pairwise_append.mp pw
      refine wpAny_pure ⟨ts ++ [a], us, xs ++ [x], h2, tk2, by rw [e1]; simp, er, by simp, rfl, paired_snoc pr px, hs2'.extBut _ _ (fun q => S.zf a am (q ▸ S.mem a am)) hz', ?_, ?_, by rw [hs2'.1, sz], ?_⟩
      · intro b hb
        rcases List.mem_append.mp hb with hb | hb
        · exact b.keep (st1 b hb) hs2' (pw2.2.2 b hb a List.mem_cons_self).2
        · rw [List.mem_singleton.mp hb]
          exact stn
      · intro b hb
        exact b.keep (st2 b (List.mem_cons_of_mem _ hb)) hs2' ((List.pairwise_cons.mp pw2.2.1).1 b hb).1
      · intro c o hc hs e
        exact hs2'.extBut _ _ (hs a am) (kp c o hc hs e)
  · rintro b s' ⟨ts, us, xs, h', tk', e1, e2, rfl, rfl, pr, hz', st1, st2, sz, kp⟩
    cases us with
    | cons a us => cases e2
    | nil =>
      rw [List.append_nil] at e1
      subst e1
      have lx : xs.length = ss.length := (Paired.length pr).symm
      refine wpAny_bind (wpAny_newTuple ?_ (by simpa [lx] using small))
      refine wpAny_pure ⟨_, rfl, ?_⟩
      show Q (.ref h'.objs.size) _
      have hp2 : TupF (h'.push { cls := .type "tuple", data := .seq xs.toArray }) h'.objs.size xs := Heap.get?_push_size _ rfl
      have sz2 : (h'.push { cls := .type "tuple", data := .seq xs.toArray }).objs.size = h'.objs.size + 1 := Heap.size_push ..
      rw [sz] at hp2 sz2 ⊢
      exact hQ xs _ tk' pr (Heap.get?_push_of_some _ hz') (fun a ha => a.D.frame _ _ _ (st1 a ha) fun b _ o e => Heap.get?_push_of_some _ e) hp2 sz2 (fun c o hc hs e => Heap.get?_push_of_some _ (kp c o hc hs e))
  · exact ⟨[], ss, [], h1, tk0, rfl, by simp, rfl, rfl, .nil, hz1, fun _ h => absurd h List.not_mem_nil, fun a ha => a.keep (st a ha) hs1' (S.zf a ha), hs1'.1, fun c o hc _ e => hs1'.extBut _ _ hc e⟩
theorem zip_held_end {T : Addr} {f : Bool} {oT : Obj} {Q : Fin → Shared → Prop} (S : SepZ ss z TI TO) (ne : ss ≠ []) (hz : ZipF s.heap z (rawInt T) (.bool f) TI TO) (hT : s.heap.get? T = some oT)
    (hTI : TupF s.heap TI (ss.map fun a => .ref a.it)) (st : ∀ a ∈ ss, a.St i s.heap) (le : ∀ a ∈ ss, i ≤ a.n) (some_end : ∃ a ∈ ss, i = a.n)
    (hE : ∀ h' tk e, (∀ c o, c ≠ z → (∀ a ∈ ss, c ≠ a.it) → s.heap.get? c = some o → h'.get? c = some o) → (∃ o, h'.get? e = some o ∧ o.cls = .type "StopIteration") → E (.ref e) { s with heap := h', toks := tk }) :
    wpAny (model prog w) A (Builtin.«zip.__next__» ⟨[.ref z], []⟩) Q E s := by
  obtain ⟨hp, g, d, tk0, os⟩ := s
  show wpAny _ _ (field (.ref z) 2 >>= _) _ _ _
  refine wpAny_bind (wpAny_field hz rfl (x := .bool false) rfl ?_)
  show wpAny _ _ (field (.ref z) 3 >>= _) _ _ _
  refine wpAny_bind (wpAny_field hz rfl (x := .ref TI) rfl ?_)
  refine wpAny_bind (wpAny_seqItems hTI rfl ?_)
  have hne : ((ss.map fun a => Value.ref a.it).toArray.isEmpty) = false := by
    cases ss with
    | nil => exact absurd rfl ne
    | cons a r => rfl
  dsimp only
  rw [hne]
  simp only [Bool.false_eq_true, if_false]
  refine wpAny_bind (wpAny_tupleHeld_zip hz hT fun h1 hz1 hs1 => ?_)
  simp only [Bool.false_eq_true, if_false]
  refine wpAny_bind ?_
  rw [← Array.forIn_toList]
  have hs1' : Heap.SameBut z hp h1 := hs1
  refine loop_list (fun l b s' => ∃ (ts us : List (Src prog w A)) (h' : Heap) (tk' : Nat), ss = ts ++ us ∧ l = us.map (fun a => Value.ref a.it) ∧ s' = ⟨h', g, d, tk', os⟩ ∧
      (∀ a ∈ us, a.St i h') ∧ (∃ a ∈ us, i = a.n) ∧
      (∀ c o, c ≠ z → (∀ a ∈ ss, c ≠ a.it) → hp.get? c = some o → h'.get? c = some o)) ?_ ?_ _ _ _ ?_
  · rintro x rest b s' ⟨ts, us, h', tk', e1, e2, rfl, st2, se, kp⟩
    cases us with
    | nil => cases e2
    | cons a us =>
      have ex : x = .ref a.it := (List.cons.inj e2).1
      have er : rest = us.map (fun a => Value.ref a.it) := (List.cons.inj e2).2
      subst ex
      have am : a ∈ ss := by rw [e1]; simp
      have pw := S.pw
      rw [e1] at pw
      have pw2 := List.pairwise_append.mp pw
      refine wpAny_bind (wpAny_holding ?_)
      show wpAny _ _ (Builtin.SmallTypes.nextOf (.ref a.it) >>= _) _ _ _
      by_cases hi : i = a.n
      · refine wpAny_bind (a.D.done _ _ _ (by rw [← hi]; exact st2 a List.mem_cons_self) fun h2 e hs2 he => ?_)
        exact hE h2 tk' e (fun c o hc hs q => hs2 _ _ (hs a am) (kp c o hc hs q)) he
      · have lt : i < a.n := Nat.lt_of_le_of_ne (le a am) hi
        refine wpAny_bind (a.D.item i _ _ _ lt (st2 a List.mem_cons_self) fun x h2 tk2 px stn hs2 => wpAny_pure ?_)
        have hs2' : Heap.SameBut a.it h' h2 := hs2
        refine wpAny_pure ⟨ts ++ [a], us, h2, tk2, by rw [e1]; simp, er, rfl, ?_, ?_, ?_⟩
        · intro b hb
          exact b.keep (st2 b (List.mem_cons_of_mem _ hb)) hs2' ((List.pairwise_cons.mp pw2.2.1).1 b hb).1
        · obtain ⟨b, hb, q⟩ := se
          rcases List.mem_cons.mp hb with hb | hb
          · subst hb
            exact absurd q hi
          · exact ⟨b, hb, q⟩
        · intro c o hc hs e
          exact hs2'.extBut _ _ (hs a am) (kp c o hc hs e)
  · rintro b s' ⟨ts, us, h', tk', e1, e2, rfl, st2, ⟨a, ha, _⟩, kp⟩
    cases us with
    | cons a us => cases e2
    | nil => cases ha
  · exact ⟨[], ss, h1, tk0, rfl, by simp, rfl, fun a ha => a.keep (st a ha) hs1' (S.zf a ha), some_end, fun c o hc _ e => hs1'.extBut _ _ hc e⟩

theorem TupF.upd {t : Addr} {vs : List Value} {k : Nat} {x : Value} {Q : Unit → Shared → Prop} (hT : TupF s.heap t vs) (hz : vs.length ≤ sizeLine)
    (h : ∀ h', TupF h' t (vs.set k x) → Heap.SameBut t s.heap h' → Q () { s with heap := h' }) : wpAny (model prog w) A (updateSeq t (·.setIfInBounds k x)) Q E s := by
  refine wpAny_updateSeq hT rfl (h _ ?_ (Heap.SameBut.update ..)) (by simp; omega) (by simp; omega)
  unfold TupF
  rw [Heap.get?_update_self _ hT rfl]
  simp [Obj.mapSeq]

theorem dead_alive {a : Addr} {Q : Option Obj → Shared → Prop} (ho : s.heap.get? a = none) (h : Q none s) : wpAny (model prog w) A (loadIfAlive a) Q E s := by
  have h' : Q (s.heap.get? a) s := by rw [ho]; exact h
  exact fun _ _ _ => h'
def Freed (h : Heap) (f0 : Value) : Prop := f0 = .none ∨ ∃ T : Addr, f0 = rawInt T ∧ h.get? T = none
theorem owned_free {f0 f1 : Value} {Q : Bool → Shared → Prop} (hz : ZipF s.heap z f0 f1 TI TO) (hf : Freed s.heap f0) (h : Q true s) : wpAny (model prog w) A (Builtin.SmallTypes.ownedTupleIsFree (.ref z)) Q E s := by
  unfold Builtin.SmallTypes.ownedTupleIsFree
  rcases hf with rfl | ⟨T, rfl, hT⟩
  · exact wpAny_bind (wpAny_field hz rfl (x := .none) rfl (wpAny_pure h))
  · refine wpAny_bind (wpAny_field hz rfl (x := rawInt T) rfl ?_)
    show wpAny _ _ (loadIfAlive ((T : Int).toNat) >>= _) _ _ _
    rw [Int.toNat_natCast]
    refine wpAny_bind (dead_alive hT ?_)
    simp only [Option.isNone_none, if_true]
    exact wpAny_pure h
theorem zip_free {Q : Value → Shared → Prop} {nn : List Value} {f0 f1 : Value} (S : SepZ ss z TI TO) (ne : ss ≠ []) (hz : ZipF s.heap z f0 f1 TI TO) (hf : Freed s.heap f0)
    (hTI : TupF s.heap TI (ss.map fun a => .ref a.it)) (hTO : TupF s.heap TO nn) (hnn : nn.length = ss.length) (st : ∀ a ∈ ss, a.St i s.heap) (lt : ∀ a ∈ ss, i < a.n) (small : ss.length ≤ sizeLine)
    (hQ : ∀ xs h' tk, Paired (fun (a : Src prog w A) x => a.P i x) ss xs → ZipF h' z (rawInt s.heap.objs.size) (.bool false) TI TO → (∀ a ∈ ss, a.St (i + 1) h') → TupF h' s.heap.objs.size xs → TupF h' TO xs → h'.objs.size = s.heap.objs.size + 1 →
      (∀ c o, c ≠ z → c ≠ TO → (∀ a ∈ ss, c ≠ a.it) → s.heap.get? c = some o → h'.get? c = some o) → Q (.ref s.heap.objs.size) { s with heap := h', toks := tk }) :
    wpAny (model prog w) A (Builtin.«zip.__next__» ⟨[.ref z], []⟩) (fun fin s' => ∃ v, fin = .done (.ret v) ∧ Q v s') E s := by
  obtain ⟨hp, g, d, tk0, os⟩ := s
  show wpAny _ _ (field (.ref z) 2 >>= _) _ _ _
  refine wpAny_bind (wpAny_field hz rfl (x := .bool false) rfl ?_)
  show wpAny _ _ (field (.ref z) 3 >>= _) _ _ _
  refine wpAny_bind (wpAny_field hz rfl (x := .ref TI) rfl ?_)
  refine wpAny_bind (wpAny_seqItems hTI rfl ?_)
  have hne : ((ss.map fun a => Value.ref a.it).toArray.isEmpty) = false := by
    cases ss with
    | nil => exact absurd rfl ne
    | cons a r => rfl
  dsimp only
  rw [hne]
  simp only [Bool.false_eq_true, if_false]
  refine wpAny_bind ?_
  refine owned_free hz hf ?_
  simp only [if_true]
  refine wpAny_bind (wpAny_rule ?_)
  refine wpAny_bind (wpAny_field hz rfl (x := .ref TO) rfl ?_)
  refine wpAny_bind (wpAny_setField_rec hz (by simp) fun g0 hz0 hs0 => ?_)
  replace hz0 : ZipF g0 z .ellipsis f1 TI TO := hz0
  replace hs0 : Heap.SameBut z hp g0 := hs0
  refine wpAny_bind ?_
  refine loop_list (fun l b s' => ∃ (ts us : List (Src prog w A)) (xs ys : List Value) (h' : Heap) (tk' : Nat), ss = ts ++ us ∧ l = (us.map (fun a => Value.ref a.it)).zipIdx ts.length ∧ b = (none, ()) ∧ s' = ⟨h', g, d, tk', os⟩ ∧
      Paired (fun (a : Src prog w A) x => a.P i x) ts xs ∧ ys.length = us.length ∧ TupF h' TO (xs ++ ys) ∧ ZipF h' z .ellipsis f1 TI TO ∧ (∀ a ∈ ts, a.St (i + 1) h') ∧ (∀ a ∈ us, a.St i h') ∧ h'.objs.size = hp.objs.size ∧
      (∀ c o, c ≠ z → c ≠ TO → (∀ a ∈ ss, c ≠ a.it) → hp.get? c = some o → h'.get? c = some o)) ?_ ?_ _ _ _ ?_
  · rintro x rest b s' ⟨ts, us, xs, ys, h', tk', e1, e2, rfl, rfl, pr, ly, hO, hz', st1, st2, sz, kp⟩
    cases us with
    | nil => cases e2
    | cons a us =>
      simp only [List.map_cons, List.zipIdx_cons] at e2
      have ex : x = (Value.ref a.it, ts.length) := (List.cons.inj e2).1
      have er := (List.cons.inj e2).2
      subst ex
      have am : a ∈ ss := by rw [e1]; simp
      have pw := S.pw
      rw [e1] at pw
      have pw2 := List.pairwise_append.mp pw
      have lx : xs.length = ts.length := (Paired.length pr).symm
      cases ys with
      | nil => cases ly
      | cons y ys =>
      refine wpAny_bind (wpAny_onRaise ?_)
      show wpAny _ _ (Builtin.SmallTypes.nextOf (.ref a.it) >>= _) _ _ _
      refine wpAny_bind (a.D.item i _ _ _ (lt a am) (st2 a List.mem_cons_self) fun x h2 tk2 px stn hs2 => wpAny_pure ?_)
      have hs2' : Heap.SameBut a.it h' h2 := hs2
      have TOi : TO ≠ a.it := fun q => S.Of a am (q ▸ S.mem a am)
      have zi : z ≠ a.it := fun q => S.zf a am (q ▸ S.mem a am)
      have hO2 : TupF h2 TO (xs ++ y :: ys) := hs2'.extBut _ _ TOi hO
      refine wpAny_bind (wpAny_seqItems (s := ⟨h2, g, d, tk2, os⟩) hO2 rfl ?_)
      have tot : (xs ++ y :: ys).length ≤ sizeLine := by
        have e3 := congrArg List.length e1
        simp only [List.length_append, List.length_cons] at e3 ly ⊢
        omega
      refine wpAny_bind (TupF.upd (s := ⟨h2, g, d, tk2, os⟩) hO2 tot fun h3 hO3 hs3 => ?_)
      have hs3' : Heap.SameBut TO h2 h3 := hs3
      have hset : (xs ++ y :: ys).set ts.length x = (xs ++ [x]) ++ ys := by
        rw [← lx, List.set_append_right _ _ (Nat.le_refl _)]
        simp
      rw [hset] at hO3
      refine wpAny_bind (wpAny_letGo (wpAny_pure ?_))
      refine ⟨ts ++ [a], us, xs ++ [x], ys, h3, tk2, by rw [e1]; simp, by rw [List.length_append]; exact er, rfl, rfl, paired_snoc pr px, by simpa using ly, hO3, hs3'.extBut _ _ (fun q => S.TOz q.symm) (hs2'.extBut _ _ zi hz'), ?_, ?_, by rw [hs3'.1, hs2'.1, sz], ?_⟩
      · intro b hb
        have hbs : b ∈ ss := by
          rw [e1]
          rcases List.mem_append.mp hb with hb | hb
          · exact List.mem_append_left _ hb
          · rw [List.mem_singleton.mp hb]; simp
        refine b.keep ?_ hs3' (S.Of b hbs)
        rcases List.mem_append.mp hb with hb | hb
        · exact b.keep (st1 b hb) hs2' (pw2.2.2 b hb a List.mem_cons_self).2
        · rw [List.mem_singleton.mp hb]
          exact stn
      · intro b hb
        have hbs : b ∈ ss := by rw [e1]; simp [hb]
        exact b.keep (b.keep (st2 b (List.mem_cons_of_mem _ hb)) hs2' ((List.pairwise_cons.mp pw2.2.1).1 b hb).1) hs3' (S.Of b hbs)
      · intro c o hc hcO hs e
        exact hs3'.extBut _ _ hcO (hs2'.extBut _ _ (hs a am) (kp c o hc hcO hs e))
  · rintro b s' ⟨ts, us, xs, ys, h', tk', e1, e2, rfl, rfl, pr, ly, hO, hz', st1, st2, sz, kp⟩
    cases us with
    | cons a us => simp at e2
    | nil =>
      rw [List.append_nil] at e1
      subst e1
      have hy : ys = [] := List.length_eq_zero_iff.mp ly
      subst hy
      rw [List.append_nil] at hO
      have lx : xs.length = ss.length := (Paired.length pr).symm
      refine wpAny_bind (wpAny_seqItems (s := ⟨h', g, d, tk', os⟩) hO rfl ?_)
      refine wpAny_bind (wpAny_newTuple ?_ (by simpa [lx] using small))
      have hzlt : z < h'.objs.size := Heap.lt_size hz'
      show wpAny _ _ (Builtin.SmallTypes.ownedTupleHandOut (.ref z) (.ref h'.objs.size) >>= _) _ _ ⟨h'.push { cls := .type "tuple", data := .seq xs.toArray }, g, d, tk', os⟩
      refine wpAny_bind ?_
      unfold Builtin.SmallTypes.ownedTupleHandOut
      have hz6 : ZipF (h'.push { cls := .type "tuple", data := .seq xs.toArray }) z .ellipsis f1 TI TO := Heap.get?_push_of_some _ hz'
      refine wpAny_bind (wpAny_setField_rec hz6 (by simp) fun h7 hz7 hs7 => ?_)
      replace hz7 : ZipF h7 z (rawInt h'.objs.size) f1 TI TO := hz7
      refine wpAny_setField_rec hz7 (by simp) fun h8 hz8 hs8 => ?_
      replace hz8 : ZipF h8 z (rawInt h'.objs.size) (.bool false) TI TO := hz8
      replace hs7 : Heap.SameBut z (h'.push { cls := .type "tuple", data := .seq xs.toArray }) h7 := hs7
      replace hs8 : Heap.SameBut z h7 h8 := hs8
      have up : ∀ c o, c ≠ z → h'.get? c = some o → h8.get? c = some o := fun c o c1 e => hs8.extBut _ _ c1 (hs7.extBut _ _ c1 (Heap.get?_push_of_some _ e))
      have hT8 : TupF h8 h'.objs.size xs := hs8.extBut _ _ (Nat.ne_of_gt hzlt) (hs7.extBut _ _ (Nat.ne_of_gt hzlt) (Heap.get?_push_size _ rfl))
      have s8 : h8.objs.size = h'.objs.size + 1 := by rw [hs8.1, hs7.1, Heap.size_push]
      refine wpAny_pure ⟨_, rfl, ?_⟩
      show Q (.ref h'.objs.size) ⟨h8, g, d, tk', os⟩
      rw [sz] at hz8 hT8 s8 ⊢
      exact hQ xs h8 tk' pr hz8 (fun a ha => a.D.frame _ _ _ (st1 a ha) fun b hb o e => up b o (fun q => S.zf a ha (q ▸ hb)) e) hT8 (up TO _ S.TOz hO) s8 (fun c o hc hcO hs e => up c o hc (kp c o hc hcO hs e))
  · exact ⟨[], ss, [], nn, g0, tk0, rfl, by simp, rfl, rfl, .nil, hnn, hs0.extBut _ _ S.TOz hTO, hz0, fun _ h => absurd h List.not_mem_nil, fun a ha => a.keep (st a ha) hs0 (S.zf a ha), hs0.1, fun c o hc _ _ e => hs0.extBut _ _ hc e⟩
theorem zip_free_end {Q : Fin → Shared → Prop} {nn : List Value} {f0 f1 : Value} (S : SepZ ss z TI TO) (ne : ss ≠ []) (hz : ZipF s.heap z f0 f1 TI TO) (hf : Freed s.heap f0)
    (hTI : TupF s.heap TI (ss.map fun a => .ref a.it)) (hTO : TupF s.heap TO nn) (hnn : nn.length = ss.length) (st : ∀ a ∈ ss, a.St i s.heap) (le : ∀ a ∈ ss, i ≤ a.n) (some_end : ∃ a ∈ ss, i = a.n) (small : ss.length ≤ sizeLine)
    (hE : ∀ h' tk e, (∀ c o, c ≠ z → c ≠ TO → (∀ a ∈ ss, c ≠ a.it) → s.heap.get? c = some o → h'.get? c = some o) → (∃ o, h'.get? e = some o ∧ o.cls = .type "StopIteration") → E (.ref e) { s with heap := h', toks := tk }) :
    wpAny (model prog w) A (Builtin.«zip.__next__» ⟨[.ref z], []⟩) Q E s := by
  obtain ⟨hp, g, d, tk0, os⟩ := s
  show wpAny _ _ (field (.ref z) 2 >>= _) _ _ _
  refine wpAny_bind (wpAny_field hz rfl (x := .bool false) rfl ?_)
  show wpAny _ _ (field (.ref z) 3 >>= _) _ _ _
  refine wpAny_bind (wpAny_field hz rfl (x := .ref TI) rfl ?_)
  refine wpAny_bind (wpAny_seqItems hTI rfl ?_)
  have hne : ((ss.map fun a => Value.ref a.it).toArray.isEmpty) = false := by
    cases ss with
    | nil => exact absurd rfl ne
    | cons a r => rfl
  dsimp only
  rw [hne]
  simp only [Bool.false_eq_true, if_false]
  refine wpAny_bind ?_
  refine owned_free hz hf ?_
  simp only [if_true]
  refine wpAny_bind (wpAny_rule ?_)
  refine wpAny_bind (wpAny_field hz rfl (x := .ref TO) rfl ?_)
  refine wpAny_bind (wpAny_setField_rec hz (by simp) fun g0 hz0 hs0 => ?_)
  replace hz0 : ZipF g0 z .ellipsis f1 TI TO := hz0
  replace hs0 : Heap.SameBut z hp g0 := hs0
  refine wpAny_bind ?_
  refine loop_list (fun l b s' => ∃ (ts us : List (Src prog w A)) (ys : List Value) (h' : Heap) (tk' : Nat), ss = ts ++ us ∧ l = (us.map (fun a => Value.ref a.it)).zipIdx ts.length ∧ s' = ⟨h', g, d, tk', os⟩ ∧
      ys.length = ss.length ∧ TupF h' TO ys ∧ ZipF h' z .ellipsis f1 TI TO ∧ (∀ a ∈ us, a.St i h') ∧ (∃ a ∈ us, i = a.n) ∧
      (∀ c o, c ≠ z → c ≠ TO → (∀ a ∈ ss, c ≠ a.it) → hp.get? c = some o → h'.get? c = some o)) ?_ ?_ _ _ _ ?_
  · rintro x rest b s' ⟨ts, us, ys, h', tk', e1, e2, rfl, ly, hO, hz', st2, se, kp⟩
    cases us with
    | nil => cases e2
    | cons a us =>
      simp only [List.map_cons, List.zipIdx_cons] at e2
      have ex : x = (Value.ref a.it, ts.length) := (List.cons.inj e2).1
      have er := (List.cons.inj e2).2
      subst ex
      have am : a ∈ ss := by rw [e1]; simp
      have pw := S.pw
      rw [e1] at pw
      have pw2 := List.pairwise_append.mp pw
      have TOi : TO ≠ a.it := fun q => S.Of a am (q ▸ S.mem a am)
      have zi : z ≠ a.it := fun q => S.zf a am (q ▸ S.mem a am)
      refine wpAny_bind (wpAny_onRaise ?_)
      show wpAny _ _ (Builtin.SmallTypes.nextOf (.ref a.it) >>= _) _ _ _
      by_cases hi : i = a.n
      · refine wpAny_bind (a.D.done _ _ _ (by rw [← hi]; exact st2 a List.mem_cons_self) fun h2 e hs2 he => ?_)
        have hz2 : ZipF h2 z .ellipsis f1 TI TO := hs2 _ _ zi hz'
        refine wpAny_setField_rec (s := ⟨h2, g, d, tk', os⟩) hz2 (by simp) fun h3 hz3 hs3 => ?_
        replace hs3 : Heap.SameBut z h2 h3 := hs3
        obtain ⟨oe, ho, hc⟩ := he
        refine hE h3 tk' e (fun c o hc hcO hs q => hs3.extBut _ _ hc (hs2 _ _ (hs a am) (kp c o hc hcO hs q))) ⟨oe, hs3.extBut _ _ ?_ ho, hc⟩
        intro q
        rw [q, hz2] at ho
        cases ho
        have hc2 : Value.type "zip" = Value.type "StopIteration" := hc
        exact absurd hc2 (by decide)
      · have lt : i < a.n := Nat.lt_of_le_of_ne (le a am) hi
        refine wpAny_bind (a.D.item i _ _ _ lt (st2 a List.mem_cons_self) fun x h2 tk2 px stn hs2 => wpAny_pure ?_)
        have hs2' : Heap.SameBut a.it h' h2 := hs2
        have hO2 : TupF h2 TO ys := hs2'.extBut _ _ TOi hO
        refine wpAny_bind (wpAny_seqItems (s := ⟨h2, g, d, tk2, os⟩) hO2 rfl ?_)
        refine wpAny_bind (TupF.upd (s := ⟨h2, g, d, tk2, os⟩) hO2 (by omega) fun h3 hO3 hs3 => ?_)
        have hs3' : Heap.SameBut TO h2 h3 := hs3
        refine wpAny_bind (wpAny_letGo (wpAny_pure ?_))
        refine ⟨ts ++ [a], us, _, h3, tk2, by rw [e1]; simp, by rw [List.length_append]; exact er, rfl, by rw [List.length_set]; exact ly, hO3, hs3'.extBut _ _ (fun q => S.TOz q.symm) (hs2'.extBut _ _ zi hz'), ?_, ?_, ?_⟩
        · intro b hb
          have hbs : b ∈ ss := by rw [e1]; simp [hb]
          exact b.keep (b.keep (st2 b (List.mem_cons_of_mem _ hb)) hs2' ((List.pairwise_cons.mp pw2.2.1).1 b hb).1) hs3' (S.Of b hbs)
        · obtain ⟨b, hb, q⟩ := se
          rcases List.mem_cons.mp hb with hb | hb
          · subst hb
            exact absurd q hi
          · exact ⟨b, hb, q⟩
        · intro c o hc hcO hs e
          exact hs3'.extBut _ _ hcO (hs2'.extBut _ _ (hs a am) (kp c o hc hcO hs e))
  · rintro b s' ⟨ts, us, ys, h', tk', e1, e2, rfl, ly, hO, hz', st2, ⟨a, ha, _⟩, kp⟩
    cases us with
    | cons a us => simp at e2
    | nil => cases ha
  · exact ⟨[], ss, nn, g0, tk0, rfl, by simp, rfl, hnn, hs0.extBut _ _ S.TOz hTO, hz0, fun a ha => a.keep (st a ha) hs0 (S.zf a ha), some_end, fun c o hc _ _ e => hs0.extBut _ _ hc e⟩
end

/-! ### any stream gathered into a list -/
structure Stream (prog : Program) (w : World) (A : Around) (I S : Addr) (n : Nat) (J : Nat → List Value → Heap → Prop) : Prop where
  item : ∀ k acc (s : Shared) (Q : Option Value → Shared → Prop) (E : Value → Shared → Prop), k < n → J k acc s.heap →
    (∀ v h' tk, J (k + 1) (acc ++ [v]) h' → (∀ o, s.heap.get? S = some o → h'.get? S = some o) → Q (some v) { s with heap := h', toks := tk }) → wpAny (model prog w) A (pyNext (.ref I)) Q E s
  done : ∀ acc (s : Shared) (Q : Option Value → Shared → Prop) (E : Value → Shared → Prop), J n acc s.heap →
    (∀ h' tk, J (n + 1) acc h' → (∀ o, s.heap.get? S = some o → h'.get? S = some o) → Q none { s with heap := h', toks := tk }) → wpAny (model prog w) A (pyNext (.ref I)) Q E s
  len : ∀ k acc h, k ≤ n → J k acc h → acc.length = k
  off : ∀ k acc h f o, J k acc h → h.get? S = some o → J k acc (h.update S f)

section
variable {prog : Program} {w : World} {A : Around} {R : Result → Shared → Prop} {s : Shared} {S I : Addr} {n : Nat} {J : Nat → List Value → Heap → Prop}
theorem gather_loop (K : Stream prog w A.in1 I S n J) (hn : n ≤ sizeLine) (res : Value)
    (hR : ∀ h' tk acc c, J (n + 1) acc h' → acc.length = n → h'.get? S = some { cls := .type "list", dict := none, data := .seq acc.toArray c, slots := #[] } → R (.ok (.ret res)) { s with heap := h', toks := tk }) :
    ∀ (m k : Nat) (h : Heap) (tk c : Nat) (acc : List Value), n - k = m → k ≤ n → J k acc h → h.get? S = some { cls := .type "list", dict := none, data := .seq acc.toArray c, slots := #[] } →
      codeAny (model prog w) A (.builtin "list.extend.loop" ⟨[.ref S, .ref I, res], []⟩) R { s with heap := h, toks := tk } := by
  intro m
  induction m with
  | zero =>
    intro k h tk c acc hm hk hJ hS
    have hkn : k = n := by omega
    subst hkn
    refine codeAny_builtin PySem.F.entry_extend_loop ?_
    rw [Around.under_plainId PySem.F.plain_extend_loop _]
    show wpAny _ A.in1 (pyNext (.ref I) >>= _) _ _ _
    refine wpAny_bind (K.done acc { s with heap := h, toks := tk } _ _ hJ fun h' tk' hJ' kS => ?_)
    exact wpAny_pure (hR h' tk' acc c hJ' (K.len _ _ _ (Nat.le_refl _) hJ) (kS _ hS))
  | succ m ih =>
    intro k h tk c acc hm hk hJ hS
    have hlt : k < n := by omega
    have la := K.len _ _ _ hk hJ
    refine codeAny_builtin PySem.F.entry_extend_loop ?_
    rw [Around.under_plainId PySem.F.plain_extend_loop _]
    show wpAny _ A.in1 (pyNext (.ref I) >>= _) _ _ _
    refine wpAny_bind (K.item k acc { s with heap := h, toks := tk } _ _ hlt hJ fun v h' tk' hJ' kS => ?_)
    have hS' := kS _ hS
    show wpAny _ A.in1 (updateSeq S (·.push v) >>= _) _ _ _
    refine wpAny_bind (wpAny_updateSeq hS' rfl (wpAny_pure ⟨plainId_quiet PySem.F.plain_extend_loop _, ?_⟩) (by simp; omega) (by simp; omega))
    have e := Heap.get?_update_self (Obj.mapSeq (·.push v)) hS' rfl
    have ea : acc.toArray.push v = (acc ++ [v]).toArray := by simp
    obtain ⟨c2, e2⟩ : ∃ c2, (h'.update S (Obj.mapSeq (·.push v))).get? S = some { cls := .type "list", dict := none, data := .seq (acc ++ [v]).toArray c2, slots := #[] } := by
      rw [← ea]
      exact ⟨_, e⟩
    exact ih (k + 1) _ tk' c2 (acc ++ [v]) (by omega) hlt (K.off _ _ _ _ _ hJ' hS') e2
end
end Ech

namespace Ech
open PySem PySem.W PySem.Calls PyProof.Rows
open PySem (Draws)

theorem zip_len_none : typeLookup (.type "zip") "__len__" = pure none := am_miss_of_fast (by decide +kernel)
theorem zip_hint_none : typeLookup (.type "zip") "__length_hint__" = pure none := am_miss_of_fast (by decide +kernel)

section
variable {prog : Program} {w : World} {A : Around} {E : Value → Shared → Prop} {s : Shared} {z TI TO : Addr}
theorem zip_hint {Q : Bool → Shared → Prop} (hT : s.TypeIs (.ref z) "zip") (h : Q true s) : wpAny (model prog w) A (Builtin.List.listLengthHint (.ref z)) Q E s := by
  unfold Builtin.List.listLengthHint
  refine wpAny_bind (wpAny_specialOf hT zip_len_none ?_)
  show wpAny _ _ (specialOf (.ref z) "__length_hint__" >>= _) _ _ _
  refine wpAny_bind (wpAny_specialOf hT zip_hint_none ?_)
  exact wpAny_pure h

theorem gather_ext {R : Result → Shared → Prop} {n : Nat} {J : Nat → List Value → Heap → Prop} {f0 f1 : Value} (S : Addr) (K : Stream prog w A.in1 z S n J) (hn : n ≤ sizeLine) (hz : ZipF s.heap z f0 f1 TI TO) (hSz : S ≠ z) (res : Value) (c0 : Nat)
    (hS : s.heap.get? S = some { cls := .type "list", data := .seq #[] c0 }) (hJ : J 0 [] s.heap)
    (hR : ∀ h' tk acc c, J (n + 1) acc h' → acc.length = n → h'.get? S = some { cls := .type "list", dict := none, data := .seq acc.toArray c, slots := #[] } → R (.ok (.ret res)) { s with heap := h', toks := tk }) :
    wpAny (model prog w) A.in1 (Builtin.List.listExtendWith (.ref S) (.ref z) res)
      (fun fin s' => match fin with | .done f => R (.ok f) s' | .again c' => c'.quiet = true ∧ codeAny (model prog w) A c' R s') (fun e s' => R (.error e) s') s := by
  have hT : s.TypeIs (.ref z) "zip" := ⟨_, hz, rfl⟩
  unfold Builtin.List.listExtendWith
  refine wpAny_bind (wpAny_typeOf (T := "zip") hT ?_)
  have h1 : Builtin.List.listSameRef (.ref S) (.ref z) = false := by simp [Builtin.List.listSameRef, hSz]
  have h2 : (Value.type "zip" == Value.type "list") = false := by decide
  have h3 : (Value.type "zip" == Value.type "tuple") = false := by decide
  simp only [h1, h2, h3, Bool.or_false, Bool.false_eq_true, if_false]
  have iter : ∀ {Q : Value → Shared → Prop}, Q (.ref z) s → wpAny (model prog w) A.in1 (pyIter (.ref z)) Q (fun e s' => R (.error e) s') s := fun {Q} q => by
    refine wpAny_pyIter_slot hT PySem.F.slot_zip_iter (wpAny_call_entry PySem.F.slot_zip_iter hT PySem.F.entry_zip_iter ?_ (PySem.F.args_zip_iter_1 _))
    show wpAny _ _ (ret (.ref z)) _ _ s
    exact wpAny_pure ⟨_, rfl, "zip", _, hT, PySem.F.slot_zip_next.lookup, q⟩
  refine wpAny_bind (iter ?_)
  refine wpAny_bind (wpAny_holding (zip_hint hT ?_))
  simp only [Bool.true_or, if_true]
  refine wpAny_bind (wpAny_rule ?_)
  refine wpAny_bind ?_
  show wpAny _ _ (updateSeq S (·.push .none) >>= fun _ => updateSeq S (·.pop)) _ _ _
  refine wpAny_bind (wpAny_updateSeq hS rfl ?_)
  have hS2 := Heap.get?_update_self (Obj.mapSeq (·.push Value.none)) hS rfl
  refine wpAny_updateSeq (hz := by seq_fits) hS2 rfl ?_
  have hS3 := Heap.get?_update_self (Obj.mapSeq (·.pop)) hS2 rfl
  refine wpAny_pure ⟨plainId_quiet PySem.F.plain_extend_loop _, ?_⟩
  exact gather_loop (s := s) K hn res hR n 0 _ s.toks _ [] (by omega) (Nat.zero_le _) (K.off _ _ _ _ _ (K.off _ _ _ _ _ hJ hS) hS2) hS3
theorem gather_list {Q : Value → Shared → Prop} {n : Nat} {J : Nat → List Value → Heap → Prop} {f0 f1 : Value} (K : Stream prog w A.in1.in1 z s.heap.objs.size n J) (hn : n ≤ sizeLine) (hz : ZipF s.heap z f0 f1 TI TO)
    (hJ : J 0 [] (s.heap.push { cls := .type "list", data := .seq #[] }))
    (hQ : ∀ h' tk acc c, J (n + 1) acc h' → acc.length = n → h'.get? s.heap.objs.size = some { cls := .type "list", dict := none, data := .seq acc.toArray c, slots := #[] } → Q (.ref s.heap.objs.size) { s with heap := h', toks := tk }) :
    wpAny (model prog w) A (call (.type "list") [.ref z]) Q E s := by
  refine callType_codes (Q₁ := fun obj s1 => obj = .ref s.heap.objs.size ∧ s1 = { s with heap := s.heap.push { cls := .type "list", data := .seq #[] } }) PySem.F.called_list (PySem.F.typeCall_list_1 _) PySem.F.entry_list_init
    (code_list_new _ ⟨rfl, rfl⟩) ?_
  rintro obj s1 ⟨rfl, rfl⟩
  have hS : (s.heap.push { cls := .type "list", data := .seq #[] }).get? s.heap.objs.size = some { cls := .type "list", data := .seq #[] } := Heap.get?_push_size _ rfl
  have hzl : z < s.heap.objs.size := Heap.lt_size hz
  have hz1 : ZipF (s.heap.push { cls := .type "list", data := .seq #[] }) z f0 f1 TI TO := Heap.get?_push_of_some _ hz
  refine ⟨⟨_, hS, rfl⟩, PySem.F.args_list_init_2 _ _, ?_⟩
  show wpAny _ _ (do let old ← Builtin.List.listItems (.ref s.heap.objs.size); Builtin.List.listUpdate (.ref s.heap.objs.size) (fun _ => #[]); letGo old.toList.reverse; Builtin.List.listExtendWith (.ref s.heap.objs.size) (.ref z) .none) _ _ _
  refine wpAny_bind ?_
  unfold Builtin.List.listItems
  refine wpAny_bind (wpAny_seqItems hS rfl (wpAny_pure ?_))
  show wpAny _ _ (updateSeq s.heap.objs.size (fun _ => #[]) >>= fun _ => letGo (#[] : Array Value).toList.reverse >>= fun _ => Builtin.List.listExtendWith (.ref s.heap.objs.size) (.ref z) .none) _ _ _
  refine wpAny_bind (wpAny_updateSeq hS rfl ?_)
  have hS2 := Heap.get?_update_self (Obj.mapSeq (fun _ => (#[] : Array Value))) hS rfl
  have hz2 : ZipF ((s.heap.push { cls := .type "list", data := .seq #[] }).update s.heap.objs.size (Obj.mapSeq (fun _ => (#[] : Array Value)))) z f0 f1 TI TO := (Heap.get?_update_other _ _ (Nat.ne_of_gt hzl)).trans hz1
  refine wpAny_bind (wpAny_letGo ?_)
  refine gather_ext (A := A.in1) (TI := TI) (TO := TO) s.heap.objs.size K hn hz2 (Nat.ne_of_gt hzl) .none _ hS2 (K.off _ _ _ _ _ hJ hS) ?_
  intro h' tk acc c a b d
  exact ⟨rfl, hQ h' tk acc c a b d⟩
end
end Ech

namespace Ech
open PySem PySem.W PySem.Calls PyProof.Rows
open PySem (Draws)

theorem paired_mem {α β : Type} {F : α → β → Prop} : ∀ {xs : List α} {ys : List β}, Paired F xs ys → ∀ x ∈ xs, ∃ y ∈ ys, F x y
  | _, _, .cons r t, x, hx => by
    rcases List.mem_cons.mp hx with e | hx
    · rw [e]; exact ⟨_, List.mem_cons_self, r⟩
    · obtain ⟨y, hy, q⟩ := paired_mem t x hx
      exact ⟨y, List.mem_cons_of_mem _ hy, q⟩
theorem paired_imp {α β : Type} {F G : α → β → Prop} : ∀ {xs : List α} {ys : List β}, Paired F xs ys → (∀ x ∈ xs, ∀ y, F x y → G x y) → Paired G xs ys
  | _, _, .nil, _ => .nil
  | _, _, .cons r t, f => .cons (f _ List.mem_cons_self _ r) (paired_imp t fun x hx => f x (List.mem_cons_of_mem _ hx))

section
variable {prog : Program} {w : World} {A : Around}
structure ZJ (ss : List (Src prog w A)) (z TI TO S : Addr) (hb : Heap) (n k : Nat) (acc : List Value) (h : Heap) : Prop where
  ex : ∃ (as : List Addr) (rows : List (List Value)), acc = as.map Value.ref ∧ Paired (TupF h) as rows ∧ (∀ j row, rows[j]? = some row → Paired (fun (a : Src prog w A) x => a.P j x) ss row) ∧ (∀ a ∈ as, S < a ∧ a < h.objs.size) ∧ as.Pairwise (· < ·) ∧
    (k ≤ n → as.length = k) ∧ (k ≤ n → (k = 0 ∧ ZipF h z .none (.bool false) TI TO ∧ ∃ nn, TupF h TO nn ∧ nn.length = ss.length) ∨ (∃ T f, T ∈ as ∧ ZipF h z (rawInt T) (.bool f) TI TO))
  old : ∀ c o, c ≠ S → c ≠ z → c ≠ TO → (∀ a ∈ ss, c ≠ a.it) → hb.get? c = some o → h.get? c = some o
  big : k ≤ n → S < h.objs.size
  ti : k ≤ n → TupF h TI (ss.map fun a => .ref a.it)
  st : k ≤ n → ∀ a ∈ ss, a.St k h
structure SepL (ss : List (Src prog w A)) (z TI TO S : Addr) (n : Nat) : Prop extends SepZ ss z TI TO where
  zS : z < S
  IS : TI < S
  OS : TO < S
  iS : ∀ a ∈ ss, a.it < S
  fS : ∀ a ∈ ss, S ∉ a.fp
  ne : ss ≠ []
  small : ss.length ≤ sizeLine
  le : ∀ a ∈ ss, n ≤ a.n
  eq : ∃ a ∈ ss, n = a.n
  Ii : ∀ a ∈ ss, TI ≠ a.it

theorem SepL.far {ss : List (Src prog w A)} {z TI TO S : Addr} {n : Nat} (L : SepL ss z TI TO S n) {c : Addr} (h : S ≤ c) : c ≠ z ∧ c ≠ TO ∧ ∀ a ∈ ss, c ≠ a.it :=
  ⟨Nat.ne_of_gt (Nat.lt_of_lt_of_le L.zS h), Nat.ne_of_gt (Nat.lt_of_lt_of_le L.OS h), fun a ha => Nat.ne_of_gt (Nat.lt_of_lt_of_le (L.iS a ha) h)⟩
theorem zip_stream {A : Around} {ss : List (Src prog w A.in1)} {z TI TO S : Addr} {hb : Heap} {n : Nat} (L : SepL ss z TI TO S n) : Stream prog w A z S n (ZJ ss z TI TO S hb n) where
  item := by
    intro k acc s Q E hk J hQ
    obtain ⟨⟨as, rows, e1, pr, pp, bd, rise, len, zz⟩, old, big, ti, st⟩ := J
    have hk' : k ≤ n := Nat.le_of_lt hk
    have lk := len hk'
    have lt : ∀ a ∈ ss, k < a.n := fun a ha => Nat.lt_of_lt_of_le hk (L.le a ha)
    have fin : ∀ (xs : List Value) (h' : Heap) (tk : Nat) (T : Addr) (f : Bool), T ∈ as ++ [s.heap.objs.size] → Paired (fun (a : Src prog w A.in1) x => a.P k x) ss xs → ZipF h' z (rawInt T) (.bool f) TI TO → (∀ a ∈ ss, a.St (k + 1) h') → TupF h' s.heap.objs.size xs → h'.objs.size = s.heap.objs.size + 1 →
        (∀ c o, c ≠ z → c ≠ TO → (∀ a ∈ ss, c ≠ a.it) → s.heap.get? c = some o → h'.get? c = some o) → Q (some (.ref s.heap.objs.size)) { s with heap := h', toks := tk } := by
      intro xs h' tk T f hT px hz' st' ht sz kp
      refine hQ (.ref s.heap.objs.size) h' tk ⟨⟨as ++ [s.heap.objs.size], rows ++ [xs], by rw [e1]; simp, ?_, ?_, ?_, ?_, fun _ => by rw [List.length_append, lk]; rfl, fun _ => Or.inr ⟨T, f, hT, hz'⟩⟩, ?_, fun _ => by rw [sz]; exact Nat.lt_succ_of_lt (big hk'), ?_, fun _ => st'⟩ ?_
      · refine paired_snoc (paired_imp pr fun a ha row hr => ?_) ht
        have b1 := (bd a ha).1
        exact (let q := L.far (Nat.le_of_lt b1); kp a _ q.1 q.2.1 q.2.2 hr)
      · intro j row hj
        have lr : rows.length = k := by rw [← lk]; exact (Paired.length pr).symm
        rcases Nat.lt_trichotomy j rows.length with q | q | q
        · rw [List.getElem?_append_left q] at hj
          exact pp j row hj
        · subst q
          have e : xs = row := by simpa using hj
          rw [← e, lr]
          exact px
        · rw [List.getElem?_eq_none (by rw [List.length_append, List.length_singleton]; omega)] at hj
          cases hj
      · intro a ha
        rcases List.mem_append.mp ha with ha | ha
        · have := bd a ha
          exact ⟨this.1, by rw [sz]; exact Nat.lt_succ_of_lt this.2⟩
        · rw [List.mem_singleton.mp ha]
          exact ⟨big hk', by rw [sz]; exact Nat.lt_succ_self _⟩
      · refine List.pairwise_append.mpr ⟨rise, List.pairwise_singleton _ _, fun a ha b hb => ?_⟩
        rw [List.mem_singleton.mp hb]
        exact (bd a ha).2
      · intro c o c1 c2 c3 c4 e
        exact kp c o c2 c3 c4 (old c o c1 c2 c3 c4 e)
      · intro _
        exact kp TI _ L.TIz L.TITO L.Ii (ti hk')
      · intro o e
        exact (let q := L.far (Nat.le_refl S); kp S o q.1 q.2.1 q.2.2 e)
    rcases zz hk' with ⟨k0, hz, nn, hO, hnn⟩ | ⟨T, f, hT, hz⟩
    · have hTy : s.TypeIs (.ref z) "zip" := ⟨_, hz, rfl⟩
      unfold pyNext
      refine wpAny_bind (wpAny_attempt (wpAny_callSpecial?_slot (name := Str.ofString "__next__") hTy PySem.F.slot_zip_next
        (wpAny_call_entry PySem.F.slot_zip_next hTy PySem.F.entry_zip_next
          (zip_free (i := k) L.toSepZ L.ne hz (.inl rfl) (ti hk') hO hnn (st hk') lt L.small fun xs h' tk px hz' st' ht _ sz kp => wpAny_pure (fin xs h' tk _ false (by simp) px hz' st' ht sz kp)) (PySem.F.args_zip_next_1 _))))
    · obtain ⟨row, hrow, hTr⟩ := paired_mem pr T hT
      have hTy : s.TypeIs (.ref z) "zip" := ⟨_, hz, rfl⟩
      unfold pyNext
      refine wpAny_bind (wpAny_attempt (wpAny_callSpecial?_slot (name := Str.ofString "__next__") hTy PySem.F.slot_zip_next
        (wpAny_call_entry PySem.F.slot_zip_next hTy PySem.F.entry_zip_next
          (zip_held (i := k) L.toSepZ L.ne hz hTr (ti hk') (st hk') lt L.small fun xs h' tk px hz' st' ht sz kp => wpAny_pure (fin xs h' tk T true (List.mem_append_left _ hT) px hz' st' ht sz fun c o c1 _ c3 e => kp c o c1 c3 e)) (PySem.F.args_zip_next_1 _))))
  done := by
    intro acc s Q E J hQ
    obtain ⟨⟨as, rows, e1, pr, pp, bd, rise, len, zz⟩, old, big, ti, st⟩ := J
    have fin : ∀ (h' : Heap) (tk : Nat) (e : Addr), (∀ c o, c ≠ z → c ≠ TO → (∀ a ∈ ss, c ≠ a.it) → s.heap.get? c = some o → h'.get? c = some o) → Q none { s with heap := h', toks := tk } := by
      intro h' tk e kp
      have grow : ∀ c o, s.heap.get? c = some o → c < s.heap.objs.size := fun c o q => Heap.lt_size q
      have keepS : ∀ o, s.heap.get? S = some o → h'.get? S = some o := fun o e => let q := L.far (Nat.le_refl S); kp S o q.1 q.2.1 q.2.2 e
      refine hQ h' tk ⟨⟨as, rows, e1, paired_imp pr fun a ha row hr => ?_, pp, ?_, rise, fun q => absurd q (by omega), fun q => absurd q (by omega)⟩, fun c o c1 c2 c3 c4 q => kp c o c2 c3 c4 (old c o c1 c2 c3 c4 q), fun q => absurd q (by omega), fun q => absurd q (by omega), fun q => absurd q (by omega)⟩ keepS
      · have b1 := (bd a ha).1
        exact (let q := L.far (Nat.le_of_lt b1); kp a _ q.1 q.2.1 q.2.2 hr)
      · intro a ha
        obtain ⟨row, _, hr⟩ := paired_mem pr a ha
        have b1 := (bd a ha).1
        exact ⟨b1, Heap.lt_size (let q := L.far (Nat.le_of_lt b1); kp a _ q.1 q.2.1 q.2.2 hr)⟩
    have stop : ∀ (h' : Heap) (tk : Nat) (e : Addr), (∀ c o, c ≠ z → c ≠ TO → (∀ a ∈ ss, c ≠ a.it) → s.heap.get? c = some o → h'.get? c = some o) → (∃ o, h'.get? e = some o ∧ o.cls = .type "StopIteration") →
        wpAny (model prog w) A (isInstance (.ref e) (.type "StopIteration")) (fun b s' => b = true ∧ s' = { s with heap := h', toks := tk }) E { s with heap := h', toks := tk } := by
      intro h' tk e _ he
      obtain ⟨o, ho, hc⟩ := he
      exact wpAny_isInstance (T := "StopIteration") (b := true) ⟨o, ho, hc⟩ isSubtype_stop ⟨rfl, rfl⟩
    rcases zz (Nat.le_refl n) with ⟨k0, hz, nn, hO, hnn⟩ | ⟨T, f, hT, hz⟩
    · have hTy : s.TypeIs (.ref z) "zip" := ⟨_, hz, rfl⟩
      unfold pyNext
      refine wpAny_bind (wpAny_attempt (wpAny_callSpecial?_slot (name := Str.ofString "__next__") hTy PySem.F.slot_zip_next
        (wpAny_call_entry PySem.F.slot_zip_next hTy PySem.F.entry_zip_next
          (zip_free_end (i := n) L.toSepZ L.ne hz (.inl rfl) (ti (Nat.le_refl n)) hO hnn (st (Nat.le_refl n)) L.le L.eq L.small fun h' tk e kp he => ?_) (PySem.F.args_zip_next_1 _))))
      obtain ⟨o, ho, hc⟩ := he
      refine wpAny_bind (wpAny_isInstance (T := "StopIteration") (b := true) ⟨o, ho, hc⟩ isSubtype_stop ?_)
      exact wpAny_pure (fin h' tk e kp)
    · obtain ⟨row, hrow, hTr⟩ := paired_mem pr T hT
      have hTy : s.TypeIs (.ref z) "zip" := ⟨_, hz, rfl⟩
      unfold pyNext
      refine wpAny_bind (wpAny_attempt (wpAny_callSpecial?_slot (name := Str.ofString "__next__") hTy PySem.F.slot_zip_next
        (wpAny_call_entry PySem.F.slot_zip_next hTy PySem.F.entry_zip_next
          (zip_held_end (i := n) L.toSepZ L.ne hz hTr (ti (Nat.le_refl n)) (st (Nat.le_refl n)) L.le L.eq fun h' tk e kp he => ?_) (PySem.F.args_zip_next_1 _))))
      obtain ⟨o, ho, hc⟩ := he
      refine wpAny_bind (wpAny_isInstance (T := "StopIteration") (b := true) ⟨o, ho, hc⟩ isSubtype_stop ?_)
      exact wpAny_pure (fin h' tk e fun c o c1 _ c3 q => kp c o c1 c3 q)
  len := by
    intro k acc h hk J
    obtain ⟨⟨as, rows, e1, pr, pp, bd, rise, len, zz⟩, _⟩ := J
    rw [e1, List.length_map]
    exact len hk
  off := by
    intro k acc h f o J hS
    obtain ⟨⟨as, rows, e1, pr, pp, bd, rise, len, zz⟩, old, big, ti, st⟩ := J
    have oth : ∀ c q, c ≠ S → h.get? c = some q → (h.update S f).get? c = some q := fun c q hc e => (Heap.get?_update_other _ _ (Ne.symm hc)).trans e
    have sz : (h.update S f).objs.size = h.objs.size := Heap.size_update ..
    have nS : ∀ {c : Addr}, c < S → c ≠ S := fun q => Nat.ne_of_lt q
    refine ⟨⟨as, rows, e1, paired_imp pr fun a ha row hr => oth a _ (Nat.ne_of_gt (bd a ha).1) hr, pp, fun a ha => by rw [sz]; exact bd a ha, rise, len, fun q => ?_⟩, fun c o c1 c2 c3 c4 e => oth c _ c1 (old c o c1 c2 c3 c4 e), fun q => by rw [sz]; exact big q, fun q => oth TI _ (nS L.IS) (ti q), fun q a ha => ?_⟩
    · rcases zz q with ⟨k0, hz, nn, hO, hnn⟩ | ⟨T, g, hT, hz⟩
      · exact Or.inl ⟨k0, oth z _ (nS L.zS) hz, nn, oth TO _ (nS L.OS) hO, hnn⟩
      · exact Or.inr ⟨T, g, hT, oth z _ (nS L.zS) hz⟩
    · exact a.D.frame k h _ (st q a ha) fun b hb o e => oth b o (fun z => L.fS a ha (z ▸ hb)) e
end
end Ech

namespace Ech
open PySem PySem.W PySem.Calls PyProof.Rows
open PySem (Draws)

section
variable {prog : Program} {w : World} {A : Around} {E : Value → Shared → Prop} {s : Shared}
theorem zip_cls (us : List Value) : Builtin.SmallTypes.newClass "zip" ⟨.type "zip" :: us, []⟩ = pure (.type "zip", us) := by
  unfold Builtin.SmallTypes.newClass
  show (isType (.type "zip") >>= _) = _
  rw [show isType (.type "zip") = pure true from rfl]
  simp only [pure_bind, Bool.not_true, Bool.false_eq_true, if_false, PySem.sub_zip]
theorem zip_new {us : List Value} {Q : Fin → Shared → Prop} (h : wpAny (model prog w) A (Builtin.SmallTypes.iterAll us) (fun its s1 => its.length ≤ sizeLine ∧ ∀ h', h' = ((s1.heap.push { cls := .type "tuple", data := .seq its.toArray }).push { cls := .type "tuple", data := .seq (its.map fun _ => Value.none).toArray }).push
      { cls := .type "zip", data := .fields #[.none, .bool false, .bool false, .ref s1.heap.objs.size, .ref (s1.heap.push { cls := .type "tuple", data := .seq its.toArray }).objs.size] } →
      Q (.done (.ret (.ref ((s1.heap.push { cls := .type "tuple", data := .seq its.toArray }).push { cls := .type "tuple", data := .seq (its.map fun _ => Value.none).toArray }).objs.size))) { s1 with heap := h' }) E s) :
    wpAny (model prog w) A (Builtin.«zip.__new__» ⟨.type "zip" :: us, []⟩) Q E s := by
  unfold Builtin.«zip.__new__»
  rw [zip_cls]
  refine wpAny_bind (wpAny_pure ?_)
  show wpAny _ _ (Builtin.SmallTypes.iterAll us >>= _) _ _ _
  refine wpAny_bind (wpAny_mono h (fun its s1 q => ?_) fun _ _ z => z)
  obtain ⟨sz, q⟩ := q
  refine wpAny_bind (wpAny_newTuple ?_ (by simpa using sz))
  refine wpAny_bind (wpAny_newTuple ?_ (by simpa using sz))
  refine wpAny_bind ?_
  unfold Builtin.SmallTypes.newRecord
  refine wpAny_newObj_type ?_ (by show (5 : Nat) ≤ _; decide)
  exact wpAny_pure (q _ rfl)

inductive SrcIs (h : Heap) (l : Addr) (vs : List Value) : Prop
  | lst : h.IsList l vs.toArray → SrcIs h l vs
  | tup : h.IsTuple l vs.toArray → SrcIs h l vs
theorem SrcIs.lt {h : Heap} {l : Addr} {vs : List Value} (x : SrcIs h l vs) : l < h.objs.size := by
  cases x with
  | lst q => obtain ⟨o, e, _⟩ := q; exact Heap.lt_size e
  | tup q => obtain ⟨o, e, _⟩ := q; exact Heap.lt_size e
theorem SrcIs.at {h h' : Heap} {l : Addr} {vs : List Value} (x : SrcIs h l vs) (k : ∀ o, h.get? l = some o → h'.get? l = some o) : SrcIs h' l vs := by
  cases x with
  | lst q => exact .lst (q.at k)
  | tup q => obtain ⟨o, e, r⟩ := q; exact .tup ⟨o, k _ e, r⟩
inductive ItIs (h : Heap) (i l : Addr) (vs : List Value) (k : Nat) : Prop
  | lst : h.IsListIter i l k → h.IsList l vs.toArray → ItIs h i l vs k
  | tup : h.IsTupleIter i l k → h.IsTuple l vs.toArray → ItIs h i l vs k
theorem ItIs.at {h h' : Heap} {i l : Addr} {vs : List Value} {k : Nat} (x : ItIs h i l vs k) (a : ∀ o, h.get? i = some o → h'.get? i = some o) (b : ∀ o, h.get? l = some o → h'.get? l = some o) : ItIs h' i l vs k := by
  cases x with
  | lst p q => exact .lst (p.at a) (q.at b)
  | tup p q => obtain ⟨o, e, r⟩ := q; exact .tup (p.at a) ⟨o, b _ e, r⟩
theorem draws_it {A : Around} (hh : A.handled = none) (i l : Addr) (hne : l ≠ i) (vs : List Value) : Draws prog w A i [i, l] vs.length (fun k v => vs[k]? = some v) (fun k h => ItIs h i l vs k) where
  live := fun _ h st => by
    cases st with
    | lst p q => obtain ⟨o, ho, _⟩ := p; exact ⟨o, ho⟩
    | tup p q => obtain ⟨o, ho, _⟩ := p; exact ⟨o, ho⟩
  frame := fun k h h' st hk => st.at (fun o e => hk i (by simp) o e) (fun o e => hk l (by simp) o e)
  item := fun k s Q E hi st hQ => by
    cases st with
    | lst p q =>
      refine wpAny_nextOf_list_item p q (x := vs[k]) (by simp [hi]) fun h' p' hs => ?_
      exact hQ _ h' s.toks (by simp [hi]) (.lst p' (q.extBut hs.extBut hne)) hs
    | tup p q =>
      refine RZ.nextOf_tuple_item p q (x := vs[k]) (by simp [hi]) fun h' p' hs => ?_
      obtain ⟨o, e, r⟩ := q
      exact hQ _ h' s.toks (by simp [hi]) (.tup p' ⟨o, hs.extBut _ _ hne e, r⟩) hs
  done := fun s Q E st hE => by
    cases st with
    | lst p q => exact wpAny_nextOf_list_end hh p q (by simp) hE
    | tup p q => exact RZ.nextOf_tuple_end hh p q (by simp) hE
end
end Ech

namespace Ech
open PySem PySem.W PySem.Calls PyProof.Rows
open PySem (Draws)

section
variable {prog : Program} {w : World} {A : Around} {E : Value → Shared → Prop} {s : Shared}
theorem SrcIs.iter {l : Addr} {vs : List Value} {Q : Value → Shared → Prop} (x : SrcIs s.heap l vs)
    (h : ∀ h', ItIs h' s.heap.objs.size l vs 0 → h'.objs.size = s.heap.objs.size + 1 → (∀ c o, s.heap.get? c = some o → h'.get? c = some o) → Q (.ref s.heap.objs.size) { s with heap := h' }) : wpAny (model prog w) A (pyIter (.ref l)) Q E s := by
  cases x with
  | lst q =>
    refine wpAny_pyIter_list q (h _ (.lst ⟨_, Heap.get?_push_size _ rfl, rfl, rfl⟩ (q.push _)) (Heap.size_push ..) fun c o e => Heap.get?_push_of_some _ e)
  | tup q =>
    refine wpAny_pyIter_tuple q (h _ (.tup ⟨_, Heap.get?_push_size _ rfl, rfl, rfl⟩ (q.push _)) (Heap.size_push ..) fun c o e => Heap.get?_push_of_some _ e)

theorem iter_all {ls : List (Addr × List Value)} {Q : List Value → Shared → Prop} (hs : ∀ p ∈ ls, SrcIs s.heap p.1 p.2)
    (h : ∀ (is : List Addr) h', Paired (fun i (p : Addr × List Value) => ItIs h' i p.1 p.2 0) is ls → (∀ i ∈ is, s.heap.objs.size ≤ i ∧ i < h'.objs.size) → is.Pairwise (· < ·) → s.heap.objs.size ≤ h'.objs.size →
      (∀ c o, s.heap.get? c = some o → h'.get? c = some o) → Q (is.map Value.ref) { s with heap := h' }) :
    wpAny (model prog w) A (Builtin.SmallTypes.iterAll (ls.map fun p => .ref p.1)) Q E s := by
  obtain ⟨hp, g, d, tk0, os⟩ := s
  unfold Builtin.SmallTypes.iterAll
  refine wpAny_bind ?_
  refine loop_list (fun l b s' => ∃ (ts us : List (Addr × List Value)) (is : List Addr) (h' : Heap), ls = ts ++ us ∧ l = us.map (fun p => Value.ref p.1) ∧ b = (is.map Value.ref).toArray ∧ s' = ⟨h', g, d, tk0, os⟩ ∧
      Paired (fun i (p : Addr × List Value) => ItIs h' i p.1 p.2 0) is ts ∧ (∀ i ∈ is, hp.objs.size ≤ i ∧ i < h'.objs.size) ∧ is.Pairwise (· < ·) ∧ hp.objs.size ≤ h'.objs.size ∧
      (∀ c o, hp.get? c = some o → h'.get? c = some o)) ?_ ?_ _ _ _ ?_
  · rintro x rest b s' ⟨ts, us, is, h', e1, e2, rfl, rfl, pr, bd, rise, sz, kp⟩
    cases us with
    | nil => cases e2
    | cons p us =>
      have ex : x = .ref p.1 := (List.cons.inj e2).1
      have er : rest = us.map (fun p => Value.ref p.1) := (List.cons.inj e2).2
      subst ex
      have pm : p ∈ ls := by rw [e1]; simp
      have src : SrcIs h' p.1 p.2 := (hs p pm).at fun o e => kp p.1 o e
      refine wpAny_bind (wpAny_holding (SrcIs.iter (s := ⟨h', g, d, tk0, os⟩) src fun h2 it sz2 kp2 => ?_))
      replace sz2 : h2.objs.size = h'.objs.size + 1 := sz2
      refine wpAny_pure ⟨ts ++ [p], us, is ++ [h'.objs.size], h2, by rw [e1]; simp, er, by simp, rfl, paired_snoc (paired_imp pr fun i hi q hq => hq.at (fun o e => kp2 i o e) fun o e => kp2 q.1 o e) it, ?_, ?_, ?_, fun c o e => kp2 c o (kp c o e)⟩
      · intro i hi
        rcases List.mem_append.mp hi with hi | hi
        · have := bd i hi
          exact ⟨this.1, by rw [sz2]; exact Nat.lt_succ_of_lt this.2⟩
        · rw [List.mem_singleton.mp hi]
          exact ⟨sz, by rw [sz2]; exact Nat.lt_succ_self _⟩
      · refine List.pairwise_append.mpr ⟨rise, List.pairwise_singleton _ _, fun a ha b hb => ?_⟩
        rw [List.mem_singleton.mp hb]
        exact (bd a ha).2
      · rw [sz2]
        exact Nat.le_succ_of_le sz
  · rintro b s' ⟨ts, us, is, h', e1, e2, rfl, rfl, pr, bd, rise, sz, kp⟩
    cases us with
    | cons p us => cases e2
    | nil =>
      rw [List.append_nil] at e1
      subst e1
      exact wpAny_pure (by simpa using h is h' pr bd rise sz kp)
  · exact ⟨[], ls, [], hp, rfl, rfl, rfl, rfl, .nil, fun _ h => absurd h List.not_mem_nil, List.Pairwise.nil, Nat.le_refl _, fun _ _ e => e⟩
end

/-! zip(..) of one to five -/
theorem zip_tc : ∀ (us : List Value), 0 < us.length → us.length ≤ 5 → checkTypeCall "zip" ⟨us, []⟩ = pure ()
  | [_], _, _ => by kernel_rfl
  | [_, _], _, _ => by kernel_rfl
  | [_, _, _], _, _ => by kernel_rfl
  | [_, _, _, _], _, _ => by kernel_rfl
  | [_, _, _, _, _], _, _ => by kernel_rfl
  | [], h, _ => absurd h (by decide)
  | _ :: _ :: _ :: _ :: _ :: _ :: r, _, h => absurd h (by simp only [List.length_cons]; omega)
theorem zip_nc : ∀ (us : List Value), 0 < us.length → us.length ≤ 5 → checkBuiltinCall "zip.__new__" ⟨.type "zip" :: us, []⟩ = pure ()
  | [_], _, _ => by kernel_rfl
  | [_, _], _, _ => by kernel_rfl
  | [_, _, _], _, _ => by kernel_rfl
  | [_, _, _, _], _, _ => by kernel_rfl
  | [_, _, _, _, _], _, _ => by kernel_rfl
  | [], h, _ => absurd h (by decide)
  | _ :: _ :: _ :: _ :: _ :: _ :: r, _, h => absurd h (by simp only [List.length_cons]; omega)
theorem zip_oi (obj : Value) : ∀ (us : List Value), 0 < us.length → us.length ≤ 5 → argsOk "object.__init__" ⟨obj :: us, []⟩ := by
  intro us h1 h2
  unfold argsOk
  rw [signature?_of (id := "object.__init__") (n := ['_', '_', 't', 'i', 'n', 'i', '_', '_']) (o := ['t', 'c', 'e', 'j', 'b', 'o']) (by kernel_rfl) PySem.F.owner_object]
  match us, h1, h2 with
  | [_], _, _ => kernel_rfl
  | [_, _], _, _ => kernel_rfl
  | [_, _, _], _, _ => kernel_rfl
  | [_, _, _, _], _, _ => kernel_rfl
  | [_, _, _, _, _], _, _ => kernel_rfl
  | [], h, _ => exact absurd h (by decide)
  | _ :: _ :: _ :: _ :: _ :: _ :: r, _, h => exact absurd h (by simp only [List.length_cons]; omega)

section
variable {prog : Program} {w : World} {A : Around} {E : Value → Shared → Prop} {s : Shared}
theorem zip_call {ls : List (Addr × List Value)} {Q : Value → Shared → Prop} (h0 : 0 < ls.length) (h5 : ls.length ≤ 5) (hs : ∀ p ∈ ls, SrcIs s.heap p.1 p.2)
    (h : ∀ (is : List Addr) h' TI, Paired (fun i (p : Addr × List Value) => ItIs h' i p.1 p.2 0) is ls → (∀ i ∈ is, s.heap.objs.size ≤ i ∧ i < TI) → is.Pairwise (· < ·) → s.heap.objs.size ≤ TI → h'.objs.size = TI + 3 →
      ZipF h' (TI + 2) .none (.bool false) TI (TI + 1) → TupF h' TI (is.map Value.ref) → TupF h' (TI + 1) (is.map fun _ => Value.none) → (∀ c o, s.heap.get? c = some o → h'.get? c = some o) → Q (.ref (TI + 2)) { s with heap := h' }) :
    wpAny (model prog w) A (call (.type "zip") (ls.map fun p => .ref p.1)) Q E s := by
  have lu : (ls.map fun p => Value.ref p.1).length = ls.length := List.length_map ..
  have meets : Meets (Builtin.«zip.__new__» ⟨.type "zip" :: (ls.map fun p => Value.ref p.1), []⟩) (fun _ R s => (∀ p ∈ ls, SrcIs s.heap p.1 p.2) ∧
      ∀ (is : List Addr) h' TI, Paired (fun i (p : Addr × List Value) => ItIs h' i p.1 p.2 0) is ls → (∀ i ∈ is, s.heap.objs.size ≤ i ∧ i < TI) → is.Pairwise (· < ·) → s.heap.objs.size ≤ TI → h'.objs.size = TI + 3 →
      ZipF h' (TI + 2) .none (.bool false) TI (TI + 1) → TupF h' TI (is.map Value.ref) → TupF h' (TI + 1) (is.map fun _ => Value.none) → (∀ c o, s.heap.get? c = some o → h'.get? c = some o) → R (.ok (.ret (.ref (TI + 2)))) { s with heap := h' }) := by
    intro prog w A R s ⟨hs, h⟩
    refine zip_new (iter_all hs fun is h' pr bd rise sz kp => ⟨?_, fun h2 e => ?_⟩)
    · rw [List.length_map, Paired.length pr]
      exact Nat.le_trans h5 (by decide)
    · have s1 : (h'.push { cls := .type "tuple", data := .seq (is.map Value.ref).toArray }).objs.size = h'.objs.size + 1 := Heap.size_push ..
      have s2 : ((h'.push { cls := .type "tuple", data := .seq (is.map Value.ref).toArray }).push { cls := .type "tuple", data := .seq ((is.map Value.ref).map fun _ => Value.none).toArray }).objs.size = h'.objs.size + 2 := by rw [Heap.size_push, s1]
      have key := h is h2 h'.objs.size ?_ bd rise sz ?_ ?_ ?_ ?_ ?_
      · dsimp only at s1 s2 ⊢
        rw [s2]
        exact key
      · subst e
        exact paired_imp pr fun i hi p hq => hq.at (fun o q => Heap.get?_push_of_some _ (Heap.get?_push_of_some _ (Heap.get?_push_of_some _ q))) fun o q => Heap.get?_push_of_some _ (Heap.get?_push_of_some _ (Heap.get?_push_of_some _ q))
      · subst e
        rw [Heap.size_push, s2]
      · subst e
        have q := Heap.get?_push_size ((h'.push { cls := .type "tuple", data := .seq (is.map Value.ref).toArray }).push { cls := .type "tuple", data := .seq ((is.map Value.ref).map fun _ => Value.none).toArray }) (o := { cls := .type "zip", data := .fields #[.none, .bool false, .bool false, .ref h'.objs.size, .ref (h'.push { cls := .type "tuple", data := .seq (is.map Value.ref).toArray }).objs.size] }) rfl
        rw [s2] at q
        unfold ZipF
        rw [show (Value.ref (h'.objs.size + 1)) = Value.ref (h'.push { cls := .type "tuple", data := .seq (is.map Value.ref).toArray }).objs.size from by rw [s1]]
        exact q
      · subst e
        exact Heap.get?_push_of_some _ (Heap.get?_push_of_some _ (Heap.get?_push_size _ rfl))
      · subst e
        have q := Heap.get?_push_size (h'.push { cls := .type "tuple", data := .seq (is.map Value.ref).toArray }) (o := { cls := .type "tuple", data := .seq ((is.map Value.ref).map fun _ => Value.none).toArray }) rfl
        rw [s1] at q
        unfold TupF
        rw [show (is.map fun _ => Value.none) = (is.map Value.ref).map fun _ => Value.none from by simp]
        exact Heap.get?_push_of_some _ q
      · subst e
        intro c o q
        exact Heap.get?_push_of_some _ (Heap.get?_push_of_some _ (Heap.get?_push_of_some _ (kp c o q)))
  refine callType_new PySem.F.called_zip (by decide) (zip_tc _ (by omega) (by omega)) (zip_nc _ (by omega) (by omega)) (fun obj => zip_oi obj _ (by omega) (by omega)) PySem.F.entry_zip_new meets ⟨hs, ?_⟩
  intro is h' TI pr bd rise sz sz2 hz hI hO kp
  exact ⟨⟨_, hz, rfl⟩, h is h' TI pr bd rise sz sz2 hz hI hO kp⟩
end
end Ech

namespace Ech
open PySem PySem.W PySem.Calls PyProof.Rows
open PySem (Draws)
open L2 (V Hp HO Cx Inv PE PA TE TA VK RelV Vals upd SqL SqT EP AP thn)

def minLen : List (List V) → Nat
  | [] => 0
  | [l] => l.length
  | l :: r => min l.length (minLen r)
theorem minLen_le : ∀ {ls : List (List V)} {l : List V}, l ∈ ls → minLen ls ≤ l.length
  | [_], _, h => by rw [List.mem_singleton.mp h]; exact Nat.le_refl _
  | a :: b :: r, l, h => by
    rcases List.mem_cons.mp h with e | h
    · rw [e]; exact Nat.min_le_left _ _
    · exact Nat.le_trans (Nat.min_le_right _ _) (minLen_le h)
theorem minLen_eq : ∀ {ls : List (List V)}, ls ≠ [] → ∃ l ∈ ls, minLen ls = l.length
  | [l], _ => ⟨l, List.mem_cons_self, rfl⟩
  | a :: b :: r, _ => by
    obtain ⟨l, hl, e⟩ := minLen_eq (ls := b :: r) (by simp)
    by_cases h : a.length ≤ minLen (b :: r)
    · exact ⟨a, List.mem_cons_self, Nat.min_eq_left h⟩
    · exact ⟨l, List.mem_cons_of_mem _ hl, by show min a.length (minLen (b :: r)) = _; rw [Nat.min_eq_right (by omega), e]⟩
def zipRow (ls : List (List V)) (j : Nat) : List V := ls.map fun l => l.getD j .non
def zipV (ls : List (List V)) : List (List V) := (List.range (minLen ls)).map (zipRow ls)

def uLZ (K : PySem.W.Frag) (t : TA) : TE := fun σ H Q => t σ H fun vs H1 => ∃ srcs : List (Addr × List V), vs = srcs.map (fun p => .ref p.1) ∧ 0 < srcs.length ∧ srcs.length ≤ 5 ∧ (∀ p ∈ srcs, SqL K H1 p.1 p.2 ∨ SqT K H1 p.1 p.2) ∧
  ∀ H2 p ts, Ex H1 H2 → H1 p = none → (∀ t ∈ ts, H1 t = none) → p ∉ ts → H2 p = some (.lst (ts.map V.ref)) → Paired (fun t row => H2 t = some (.tup row)) ts (zipV (srcs.map (·.2))) → Q (.ref p) H2

def putTs : Hp → List Addr → List (List V) → Hp
  | H, a :: as, p :: ps => putTs (upd H a (.tup p)) as ps
  | H, _, _ => H
theorem putTs_off {b : Addr} : ∀ (as : List Addr) (ps : List (List V)) (H : Hp), b ∉ as → putTs H as ps b = H b
  | [], _, _, _ => rfl
  | _ :: _, [], _, _ => rfl
  | a :: as, p :: ps, H, h => by
    show putTs (upd H a (.tup p)) as ps b = H b
    rw [putTs_off as ps _ (fun z => h (List.mem_cons_of_mem _ z)), L2.upd_ne (fun z => h (by rw [z]; exact List.mem_cons_self))]
theorem putTs_at : ∀ (as : List Addr) (ps : List (List V)) (H : Hp), as.length = ps.length → as.Nodup → Paired (fun t p => putTs H as ps t = some (.tup p)) as ps
  | [], [], _, _, _ => .nil
  | [], _ :: _, _, h, _ => by cases h
  | _ :: _, [], _, h, _ => by cases h
  | a :: as, p :: ps, H, h, hn => by
    have hn' := List.nodup_cons.mp hn
    refine .cons ?_ (putTs_at as ps (upd H a (.tup p)) (Nat.succ.inj h) hn'.2)
    show putTs (upd H a (.tup p)) as ps a = some (.tup p)
    rw [putTs_off as ps _ hn'.1, L2.upd_same]
theorem refs_vals (as : List Addr) : Vals (as.map V.ref) (as.map Value.ref) := by
  induction as with
  | nil => exact .nil
  | cons a r ih => exact .cons rfl ih
theorem paired_ix {α β : Type} {F : α → β → Prop} : ∀ {xs : List α} {ys : List β}, Paired F xs ys → ∀ {j : Nat} {x : α}, xs[j]? = some x → ∃ y, ys[j]? = some y ∧ F x y := by
  intro xs ys h
  induction h with
  | nil => intro j x e; simp at e
  | cons r t ih =>
    intro j x e
    cases j with
    | zero => simp at e; subst e; exact ⟨_, by simp, r⟩
    | succ j => simpa using ih (by simpa using e)

section
variable {X : Cx}
theorem track {pins : List (Addr × Obj)} {σ : L2.St} {H H' : Hp} {s : Shared} {h' : Heap} {tk : Nat} (I : Inv X pins σ H s) (grown : ∀ b o, s.heap.get? b = some o → h'.get? b = some o) (more : Ex H H')
    (apart : ∀ b o, s.heap.get? b = some o → H b = none → H' b = none) (new : ∀ b u, H' b = some u → H b = none → L2.ObjOk X.prog X.w H' h' b u) : Inv X pins σ H' { s with heap := h', toks := tk } := by
  have un : L2.Un (L2.frs X.stack) [] H H' s.heap h' := {
    keep := fun b o q _ _ _ => grown b o q
    slot := fun b o q _ _ _ => ⟨o.slots, grown b o q⟩
    free := fun b o q n _ => apart b o q n
    there := fun b o q _ => ⟨o, grown b o q⟩
    tups := fun b xs q => more b _ q
    frzs := fun b o u q => more b _ q
    tbls := fun b ps q => ⟨#[], by rw [more b _ q]; simp⟩ }
  have ok : L2.HOk X.prog X.w H' h' := by
    intro b u q
    cases e : H b with
    | none => exact new b u q e
    | some v =>
      have same : v = u := Option.some.inj ((more b v e).symm.trans q)
      subst same
      exact (I.hok b v e).stay (fun c o _ z => grown c o z) (fun c z => more c _ z) (fun c xs z => more c _ z)
  exact I.call (h' := h') (g' := s.gens) (d' := s.drawn) (t' := tk) (ch := []) un ok I.bare (fun b z => absurd z List.not_mem_nil)

theorem rows_in {pins : List (Addr × Obj)} {σ : L2.St} {H : Hp} {s : Shared} {h' : Heap} {tk S : Nat} {as : List Addr} {rows : List (List Value)} {vrows : List (List V)} {c : Nat} (I : Inv X pins σ H s) (hS0 : s.heap.objs.size ≤ S)
    (grown : ∀ b o, s.heap.get? b = some o → h'.get? b = some o) (hS : h'.get? S = some { cls := .type "list", dict := none, data := .seq (as.map Value.ref).toArray c, slots := #[] }) (small : as.length ≤ sizeLine)
    (bd : ∀ a ∈ as, S < a) (rise : as.Pairwise (· < ·)) (pr : Paired (TupF h') as rows) (rel : Paired Vals vrows rows) (wide : ∀ r ∈ vrows, r.length ≤ sizeLine) :
    ∃ H' : Hp, Ex H H' ∧ H S = none ∧ (∀ t ∈ as, H t = none) ∧ S ∉ as ∧ H' S = some (.lst (as.map V.ref)) ∧ Paired (fun t row => H' t = some (.tup row)) as vrows ∧ Inv X pins σ H' { s with heap := h', toks := tk } := by
  have lens : as.length = vrows.length := by rw [Paired.length pr, Paired.length rel]
  have offS : S ∉ as := fun z => absurd (bd S z) (Nat.lt_irrefl S)
  have nodup : as.Nodup := rise.imp fun q => Nat.ne_of_lt q
  have nS : H S = none := I.hok.fresh hS0
  have nA : ∀ t ∈ as, H t = none := fun t ht => I.hok.fresh (Nat.le_trans hS0 (Nat.le_of_lt (bd t ht)))
  let H1 : Hp := upd H S (.lst (as.map V.ref))
  have tups := putTs_at as vrows H1 lens nodup
  have list_at : putTs H1 as vrows S = some (.lst (as.map V.ref)) := (putTs_off as vrows H1 offS).trans L2.upd_same
  have else_ : ∀ b, b ∉ as → b ≠ S → putTs H1 as vrows b = H b := fun b q1 q2 => (putTs_off as vrows H1 q1).trans (L2.upd_ne q2)
  have more : Ex H (putTs H1 as vrows) := by
    intro b u e
    have b1 : b ∉ as := fun z => by rw [nA b z] at e; cases e
    have b2 : b ≠ S := fun z => by rw [z, nS] at e; cases e
    rw [else_ b b1 b2]
    exact e
  refine ⟨putTs H1 as vrows, more, nS, nA, offS, list_at, tups, track I grown more ?_ ?_⟩
  · intro b o e n
    have lt := Nat.lt_of_lt_of_le (Heap.lt_size e) hS0
    rw [else_ b (fun z => absurd (Nat.lt_trans lt (bd b z)) (Nat.lt_irrefl b)) (Nat.ne_of_lt lt)]
    exact n
  · intro b u e n
    by_cases hb : b ∈ as
    · obtain ⟨j, hj⟩ := List.getElem?_of_mem hb
      obtain ⟨vr, e1, e2⟩ := paired_ix tups hj
      obtain ⟨r, e3, e4⟩ := paired_ix pr hj
      obtain ⟨r', e5, e6⟩ := paired_ix rel e1
      have er : r' = r := Option.some.inj (e5.symm.trans e3)
      subst er
      have eu : u = .tup vr := Option.some.inj (e.symm.trans e2)
      subst eu
      exact ⟨wide vr (List.mem_of_getElem? e1), r', e6, ⟨_, e4, rfl, _, rfl⟩⟩
    · by_cases hb2 : b = S
      · subst hb2
        have eu : u = .lst (as.map V.ref) := Option.some.inj (e.symm.trans list_at)
        subst eu
        exact ⟨by rw [List.length_map]; exact small, as.map Value.ref, c, refs_vals as, hS⟩
      · rw [else_ b hb hb2, n] at e
        cases e
end
end Ech

namespace Ech
open PySem PySem.W PySem.Calls PyProof.Rows
open PySem (Draws)
open L2 (V Hp HO Cx Inv PE PA TE TA VK RelV Vals upd SqL SqT EP AP thn Gl ld_blt)

section
variable {X : Cx}
theorem src_of {pins : List (Addr × Obj)} {σ : L2.St} {H : Hp} {s : Shared} {a : Addr} {xs : List V} (I : Inv X pins σ H s) (h : SqL X.K H a xs ∨ SqT X.K H a xs) : ∃ its : List Value, Vals xs its ∧ SrcIs s.heap a its ∧ xs.length ≤ sizeLine := by
  rcases h with h | h
  · obtain ⟨its, r, p, z⟩ := I.list h
    exact ⟨its, r, .lst p.isList, z⟩
  · obtain ⟨its, r, p, z⟩ := I.tuple h
    exact ⟨its, r, .tup (show s.heap.IsTuple a its.toArray from p), z⟩
theorem srcs_of {pins : List (Addr × Obj)} {σ : L2.St} {H : Hp} {s : Shared} (I : Inv X pins σ H s) : ∀ (srcs : List (Addr × List V)), (∀ p ∈ srcs, SqL X.K H p.1 p.2 ∨ SqT X.K H p.1 p.2) →
    ∃ ls : List (Addr × List Value), Paired (fun (p : Addr × List V) (q : Addr × List Value) => p.1 = q.1 ∧ Vals p.2 q.2 ∧ p.2.length ≤ sizeLine) srcs ls ∧ ∀ q ∈ ls, SrcIs s.heap q.1 q.2
  | [], _ => ⟨[], .nil, fun _ h => absurd h List.not_mem_nil⟩
  | p :: r, h => by
    obtain ⟨ls, h1, h2⟩ := srcs_of I r fun q hq => h q (List.mem_cons_of_mem _ hq)
    obtain ⟨its, r1, r2, r3⟩ := src_of I (h p List.mem_cons_self)
    refine ⟨(p.1, its) :: ls, .cons ⟨rfl, r1, r3⟩ h1, fun q hq => ?_⟩
    rcases List.mem_cons.mp hq with e | hq
    · rw [e]; exact r2
    · exact h2 q hq
theorem vals_src : ∀ {srcs : List (Addr × List V)} {ls : List (Addr × List Value)} {us : List Value}, Paired (fun (p : Addr × List V) (q : Addr × List Value) => p.1 = q.1 ∧ Vals p.2 q.2 ∧ p.2.length ≤ sizeLine) srcs ls → Vals (srcs.map fun p => V.ref p.1) us → us = ls.map fun q => Value.ref q.1
  | _, _, _, .nil, .nil => rfl
  | _, _, _, .cons r t, .cons q u => by
    have e : _ = Value.ref _ := q
    rw [List.map_cons, e, r.1, vals_src t u]
theorem row_vals : ∀ {srcs : List (Addr × List V)} {ls : List (Addr × List Value)} {j : Nat} {row : List Value}, Paired (fun (p : Addr × List V) (q : Addr × List Value) => p.1 = q.1 ∧ Vals p.2 q.2 ∧ p.2.length ≤ sizeLine) srcs ls →
    (∀ p ∈ srcs, j < p.2.length) → Paired (fun (q : Addr × List Value) x => q.2[j]? = some x) ls row → Vals (zipRow (srcs.map (·.2)) j) row
  | _, _, _, _, .nil, _, .nil => .nil
  | p :: srcs, q :: ls, j, x :: row, .cons r t, lt, .cons u v => by
    have lj := lt p List.mem_cons_self
    have rest := row_vals t (fun p hp => lt p (List.mem_cons_of_mem _ hp)) v
    obtain ⟨w, e1, e2⟩ := Vals.get r.2.1 (i := j) (List.getElem?_eq_getElem lj)
    rw [u] at e1
    cases e1
    refine .cons ?_ rest
    show RelV (p.2.getD j .non) x
    rw [List.getD_eq_getElem?_getD, List.getElem?_eq_getElem lj]
    exact e2

end
structure SrcAt {prog : Program} {w : World} {A : Around} (a : Src prog w A) (p : Addr × List Value) : Prop where
  fp : a.fp = [a.it, p.1]
  n : a.n = p.2.length
  P : ∀ k x, a.P k x ↔ p.2[k]? = some x
  St : ∀ k h, a.St k h ↔ ItIs h a.it p.1 p.2 k
theorem mk_srcs {prog : Program} {w : World} {A : Around} (hh : A.handled = none) {h' : Heap} {B : Nat} : ∀ {is : List Addr} {ls : List (Addr × List Value)}, Paired (fun i (p : Addr × List Value) => ItIs h' i p.1 p.2 0) is ls → (∀ i ∈ is, B ≤ i) → (∀ p ∈ ls, p.1 < B) →
    ∃ ss : List (Src prog w A), ss.map (·.it) = is ∧ Paired SrcAt ss ls
  | _, _, .nil, _, _ => ⟨[], rfl, .nil⟩
  | i :: is, p :: ls, .cons r t, h1, h2 => by
    obtain ⟨ss, e, q⟩ := mk_srcs (prog := prog) (w := w) hh t (fun i hi => h1 i (List.mem_cons_of_mem _ hi)) (fun p hp => h2 p (List.mem_cons_of_mem _ hp))
    have ne : p.1 ≠ i := Nat.ne_of_lt (Nat.lt_of_lt_of_le (h2 p List.mem_cons_self) (h1 i List.mem_cons_self))
    exact ⟨⟨i, [i, p.1], p.2.length, _, _, draws_it hh i p.1 ne p.2⟩ :: ss, by rw [List.map_cons, e], .cons ⟨rfl, rfl, fun _ _ => Iff.rfl, fun _ _ => Iff.rfl⟩ q⟩
theorem paired_flip {α β : Type} {F : α → β → Prop} : ∀ {xs : List α} {ys : List β}, Paired F xs ys → Paired (fun y x => F x y) ys xs
  | _, _, .nil => .nil
  | _, _, .cons r t => .cons r (paired_flip t)
theorem paired_trans {α β γ : Type} {F : α → β → Prop} {G : β → γ → Prop} : ∀ {xs : List α} {ys : List β} {zs : List γ}, Paired F xs ys → Paired G ys zs → Paired (fun x z => ∃ y, F x y ∧ G y z) xs zs
  | _, _, _, .nil, .nil => .nil
  | _, _, _, .cons r t, .cons r' t' => .cons ⟨_, r, r'⟩ (paired_trans t t')

section
variable {X : Cx} {e : Expr} {es : List Expr} {t : TA} {p p2 pos pos2 : Pos}
def ZCall (X : Cx) (as : List Expr) (pos2 : Pos) (t : TA) : Prop := ∀ (pins : List (Addr × Obj)) (s : Shared) (σ : L2.St) (H : Hp) (P : List V → Hp → Prop) (R : Value → Shared → Prop), Inv X pins σ H s → t σ H P →
  (∀ us s1, (∃ vs H1, Inv X pins σ H1 s1 ∧ Vals vs us ∧ P vs H1) → wpAny (model X.prog X.w) X.A (call (.type "zip") us []) R X.xe s1) → wpAny (model X.prog X.w) X.A (callWith pos2 (.type "zip") [] (backTo pos2 (starEach as X.env)) []) R X.xe s
theorem zcall_plain (ha : PA X (e :: es) t)
    (hs2 : starEach (e :: es) X.env = (false, eval e X.env) :: starEach es X.env := by rfl) (hpl : (backTo pos2 (starEach es X.env)).any (·.1) = false := by rfl) : ZCall X (e :: es) pos2 t :=
  fun pins s σ H P R I h k => callWith_type1 (thn (ha.run pos2 pins s σ H P I h) fun us s1 z => k us s1 z) hs2 hpl
theorem u_lz_of {as : List Expr} (hc : X.calm = true) (hg : Gl X "list") (hm : X.mg "list" = none) (hg2 : Gl X "zip") (hm2 : X.mg "zip" = none) (hz : ZCall X as pos2 t)
    (hs : starEach [.Call (.Name "zip" p2) as [] pos2] X.env = (false, eval (.Call (.Name "zip" p2) as [] pos2) X.env) :: starEach [] X.env := by rfl) :
    PE X (.Call (.Name "list" p) [.Call (.Name "zip" p2) as [] pos2] [] pos) (uLZ X.K t) := by
  constructor
  intro pins s σ H Q I h
  refine wpAny_Call_Name_kw (ld_blt I hg hm (by decide +kernel : bootBuiltins "list" = some (.type "list")) ?_)
  refine callWith_type1 ?_ hs rfl
  rw [hs]
  show wpAny _ _ (spliced ((false, eval (.Call (.Name "zip" p2) as [] pos2) X.env) :: backTo pos (starEach [] X.env))) _ _ s
  refine spliced_cons ?_
  refine Call_ (ld_blt I hg2 hm2 boot_zip (hz pins s σ H _ _ I h ?_))
  rintro us s1 ⟨vs, H1, I1, r1, srcs, ev, n0, n5, hsrc, q⟩
  subst ev
  obtain ⟨ls, pr, src⟩ := srcs_of I1 srcs hsrc
  have eu := vals_src pr r1
  subst eu
  have ln : srcs.length = ls.length := Paired.length pr
  refine zip_call (by omega) (by omega) src ?_
  intro is h' TI prI bd rise szT sz2 hz hI hO kp
  refine spliced_nil ?_
  have hh : X.A.handled = none := I1.ok.hd hc
  have low : ∀ q ∈ ls, q.1 < s1.heap.objs.size := fun q hq => (src q hq).lt
  obtain ⟨ss, eit, at_⟩ := mk_srcs (prog := X.prog) (w := X.w) (A := X.A.in1.in1.in1) hh prI (fun i hi => (bd i hi).1) low
  have lss : ss.length = ls.length := Paired.length at_
  have src_at : ∀ a ∈ ss, ∃ q ∈ ls, SrcAt a q := fun a ha => paired_mem at_ a ha
  have it_in : ∀ a ∈ ss, a.it ∈ is := fun a ha => by rw [← eit]; exact List.mem_map_of_mem ha
  have hTIlt : TI < h'.objs.size := by rw [sz2]; exact Nat.lt_succ_of_le (Nat.le_succ_of_le (Nat.le_succ TI))
  have nlen : minLen (srcs.map (·.2)) ≤ sizeLine := by
    obtain ⟨l, hl, e2⟩ := minLen_eq (ls := srcs.map (·.2)) (by intro z; have := congrArg List.length z; simp at this; rw [this] at n0; exact absurd n0 (by decide))
    obtain ⟨p, hp, e3⟩ := List.mem_map.mp hl
    obtain ⟨q, hq, e4⟩ := paired_mem pr p hp
    rw [e2, ← e3]
    exact e4.2.2
  have L : SepL ss (TI + 2) TI (TI + 1) h'.objs.size (minLen (srcs.map (·.2))) := by
    have far : ∀ a ∈ ss, ∀ c ∈ a.fp, c < TI := by
      intro a ha c hc'
      obtain ⟨q, hq, sa⟩ := src_at a ha
      rw [sa.fp] at hc'
      rcases List.mem_cons.mp hc' with e | hc'
      · rw [e]; exact (bd _ (it_in a ha)).2
      · rw [List.mem_singleton.mp hc']; exact Nat.lt_of_lt_of_le (low q hq) szT
    have lens : ∀ a ∈ ss, ∃ p ∈ srcs, a.n = p.2.length := by
      intro a ha
      obtain ⟨q, hq, sa⟩ := src_at a ha
      obtain ⟨p, hp, e2⟩ := paired_mem (paired_flip pr) q hq
      exact ⟨p, hp, by rw [sa.n]; exact e2.2.1.length.symm⟩
    have inP : ∀ a ∈ ss, a.it ∈ a.fp := fun a ha => by
      obtain ⟨q, hq, sa⟩ := src_at a ha
      rw [sa.fp]
      exact List.mem_cons_self
    have c1 : TI ≠ TI + 2 := Nat.ne_of_lt (Nat.lt_succ_of_lt (Nat.lt_succ_self TI))
    have c2 : TI + 1 ≠ TI + 2 := Nat.ne_of_lt (Nat.lt_succ_self (TI + 1))
    have c3 : TI ≠ TI + 1 := Nat.ne_of_lt (Nat.lt_succ_self TI)
    have f1 : ∀ a ∈ ss, TI + 2 ∉ a.fp := fun a ha z => absurd (far a ha _ z) (Nat.not_lt.mpr (Nat.le_succ_of_le (Nat.le_succ TI)))
    have f2 : ∀ a ∈ ss, TI ∉ a.fp := fun a ha z => absurd (far a ha _ z) (Nat.lt_irrefl TI)
    have f3 : ∀ a ∈ ss, TI + 1 ∉ a.fp := fun a ha z => absurd (far a ha _ z) (Nat.not_lt.mpr (Nat.le_succ TI))
    have f4 : ∀ a ∈ ss, h'.objs.size ∉ a.fp := fun a ha z => absurd (Nat.lt_trans (far a ha _ z) hTIlt) (Nat.lt_irrefl _)
    have f5 : ∀ a ∈ ss, a.it < h'.objs.size := fun a ha => Nat.lt_trans (bd _ (it_in a ha)).2 hTIlt
    have f6 : ∀ a ∈ ss, TI ≠ a.it := fun a ha => Ne.symm (Nat.ne_of_lt (bd _ (it_in a ha)).2)
    refine ⟨⟨c1, c2, c3, inP, f1, f2, f3, ?_⟩, ?_, hTIlt, ?_, f5, f4, ?_, ?_, ?_, ?_, f6⟩
    · have rise2 := rise
      rw [← eit, List.pairwise_map] at rise2
      refine rise2.imp_of_mem ?_
      intro a b ha hb hab
      have na : ∀ (c d : Src X.prog X.w X.A.in1.in1.in1), c ∈ ss → d ∈ ss → c.it ≠ d.it → c.it ∉ d.fp := by
        intro c d hc' hd ne z
        obtain ⟨q, hq, sd⟩ := src_at d hd
        rw [sd.fp] at z
        rcases List.mem_cons.mp z with z | z
        · exact ne z
        · have e3 := List.mem_singleton.mp z
          have h1 := (bd _ (it_in c hc')).1
          rw [e3] at h1
          exact absurd (Nat.lt_of_lt_of_le (low q hq) h1) (Nat.lt_irrefl _)
      exact ⟨na a b ha hb (Nat.ne_of_lt hab), na b a hb ha (Nat.ne_of_gt hab)⟩
    · rw [sz2]; exact Nat.lt_succ_self _
    · rw [sz2]; exact Nat.lt_succ_of_lt (Nat.lt_succ_self _)
    · intro z
      rw [z] at lss
      have : ls.length = 0 := lss.symm
      omega
    · exact Nat.le_trans (by omega) (by decide : 5 ≤ sizeLine)
    · intro a ha
      obtain ⟨p, hp, e2⟩ := lens a ha
      rw [e2]
      exact minLen_le (List.mem_map_of_mem hp)
    · obtain ⟨l, hl, e2⟩ := minLen_eq (ls := srcs.map (·.2)) (by intro z; have := congrArg List.length z; simp at this; rw [this] at n0; exact absurd n0 (by decide))
      obtain ⟨p, hp, e3⟩ := List.mem_map.mp hl
      obtain ⟨q, hq, e4⟩ := paired_mem pr p hp
      obtain ⟨a, ha, sa⟩ := paired_mem (paired_flip at_) q hq
      exact ⟨a, ha, by rw [sa.n, e2, ← e3]; exact e4.2.1.length⟩
  have eits : ss.map (fun a => Value.ref a.it) = is.map Value.ref := by rw [← eit, List.map_map]; rfl
  refine gather_list (n := minLen (srcs.map (·.2))) (J := ZJ ss (TI + 2) TI (TI + 1) h'.objs.size h' (minLen (srcs.map (·.2)))) (zip_stream L) nlen hz ?_ ?_
  · have up : ∀ c o, h'.get? c = some o → (h'.push { cls := .type "list", data := .seq #[] }).get? c = some o := fun c o q => Heap.get?_push_of_some _ q
    refine ⟨⟨[], [], rfl, .nil, fun j row hj => by simp at hj, fun a ha => absurd ha List.not_mem_nil, List.Pairwise.nil, fun _ => rfl, fun _ => Or.inl ⟨rfl, up _ _ hz, _, up _ _ hO, ?_⟩⟩, fun c o _ _ _ _ q => up c o q, fun _ => ?_, fun _ => ?_, fun _ a ha => ?_⟩
    · rw [List.length_map, ← eit, List.length_map]
    · show h'.objs.size < (h'.push _).objs.size
      rw [Heap.size_push]
      exact Nat.lt_succ_self _
    · rw [eits]
      exact up _ _ hI
    · obtain ⟨j, hj⟩ := List.getElem?_of_mem ha
      obtain ⟨qs, hq, sa⟩ := paired_ix at_ hj
      have hi : is[j]? = some a.it := by rw [← eit, List.getElem?_map, hj]; rfl
      obtain ⟨q2, hq2, itis⟩ := paired_ix prI hi
      rw [hq] at hq2
      cases hq2
      exact (sa.St 0 _).mpr (itis.at (fun o z => up _ o z) fun o z => up _ o z)
  · rintro h2 tk acc c ⟨⟨as, rows, e1, prR, pp, bdA, riseA, _, _⟩, old, _, _, _⟩ hlen hS
    have kp2 : ∀ b o, s1.heap.get? b = some o → h2.get? b = some o := by
      intro b o z
      have lt : b < s1.heap.objs.size := Heap.lt_size z
      have ltT : b < TI := Nat.lt_of_lt_of_le lt szT
      exact old b o (Nat.ne_of_lt (Nat.lt_trans ltT hTIlt)) (Nat.ne_of_lt (Nat.lt_succ_of_lt (Nat.lt_succ_of_lt ltT))) (Nat.ne_of_lt (Nat.lt_succ_of_lt ltT)) (fun a ha => Nat.ne_of_lt (Nat.lt_of_lt_of_le lt (bd _ (it_in a ha)).1)) (kp b o z)
    have la : as.length = minLen (srcs.map (·.2)) := by rw [← hlen, e1, List.length_map]
    have lr : rows.length = minLen (srcs.map (·.2)) := by rw [← la]; exact (Paired.length prR).symm
    have rel : Paired Vals (zipV (srcs.map (·.2))) rows := by
      have go : ∀ (m : Nat) (rs : List (List Value)), rs.length + m = minLen (srcs.map (·.2)) → (∀ j row, rs[j]? = some row → Vals (zipRow (srcs.map (·.2)) (m + j)) row) → Paired Vals ((List.range' m rs.length).map (zipRow (srcs.map (·.2)))) rs := by
        intro m rs
        induction rs generalizing m with
        | nil => intro _ _; exact .nil
        | cons r rs ih =>
          intro hl hv
          refine .cons (by simpa using hv 0 r rfl) (ih (m + 1) (by simp only [List.length_cons] at hl; omega) fun j row hj => ?_)
          have := hv (j + 1) row (by simpa using hj)
          rw [show m + 1 + j = m + (j + 1) by omega]
          exact this
      have full := go 0 rows (by omega) (fun j row hj => by
        have hj2 : j < minLen (srcs.map (·.2)) := by rw [← lr]; exact (List.getElem?_eq_some_iff.mp hj).1
        rw [Nat.zero_add]
        refine row_vals pr (fun p hp => Nat.lt_of_lt_of_le hj2 (minLen_le (List.mem_map_of_mem hp))) ?_
        have pj := pp j row hj
        have tr := paired_trans (paired_flip at_) pj
        exact paired_imp tr fun q hq x ⟨a, sa, hx⟩ => (sa.P j x).mp hx)
      unfold zipV
      rw [List.range_eq_range', ← lr]
      exact full
    have wide : ∀ r ∈ zipV (srcs.map (·.2)), r.length ≤ sizeLine := by
      intro r hr
      obtain ⟨j, _, e2⟩ := List.mem_map.mp hr
      rw [← e2]
      unfold zipRow
      rw [List.length_map, List.length_map]
      exact Nat.le_trans n5 (by decide)
    have hS0 : s1.heap.objs.size ≤ h'.objs.size := Nat.le_of_lt (Nat.lt_of_le_of_lt szT hTIlt)
    rw [e1] at hS
    obtain ⟨H2, x1, x2, x3, x4, x5, x6, J2⟩ := rows_in (tk := tk) I1 hS0 kp2 hS (by rw [la]; exact nlen) (fun a ha => (bdA a ha).1) riseA prR rel wide
    exact ⟨.ref h'.objs.size, H2, J2, rfl, q H2 _ as x1 x2 x3 x4 x5 x6⟩
theorem u_lz (hc : X.calm = true) (hg : Gl X "list") (hm : X.mg "list" = none) (hg2 : Gl X "zip") (hm2 : X.mg "zip" = none) (ha : PA X (e :: es) t)
    (hs : starEach [.Call (.Name "zip" p2) (e :: es) [] pos2] X.env = (false, eval (.Call (.Name "zip" p2) (e :: es) [] pos2) X.env) :: starEach [] X.env := by rfl)
    (hs2 : starEach (e :: es) X.env = (false, eval e X.env) :: starEach es X.env := by rfl) (hpl : (backTo pos2 (starEach es X.env)).any (·.1) = false := by rfl) :
    PE X (.Call (.Name "list" p) [.Call (.Name "zip" p2) (e :: es) [] pos2] [] pos) (uLZ X.K t) := u_lz_of hc hg hm hg2 hm2 (zcall_plain ha hs2 hpl) hs
end
end Ech

/-! dicts whose keys are truth values -/
namespace Ech
open PySem PySem.Spec PyProof.Rows L2
/-! ### a dict whose keys are truth values -/
abbrev BKV (kvs : List (Bool × V)) (es : List DictEntry) : Prop := Paired (fun (p : Bool × V) (e : DictEntry) => e.key = .bool p.1 ∧ RelV p.2 e.val) kvs es
def BdD (a : Addr) (kvs : List (Bool × V)) : HO := .ext fun h => (a == sysModules) = false ∧ ∃ o es ep, h.get? a = some o ∧ o.ExactDict ∧ o.data = .dict es ep ∧ BKV kvs es.toList
theorem bd_ok {P : Program} {w : World} {H : Hp} {h : Heap} {a : Addr} {kvs : List (Bool × V)} (h1 : (a == sysModules) = false) {o : Obj} {es : Array DictEntry} {ep : Nat} (ho : h.get? a = some o) (ex : o.ExactDict) (hd : o.data = .dict es ep) (r : BKV kvs es.toList) : ObjOk P w H h a (BdD a kvs) :=
  ⟨⟨h1, o, es, ep, ho, ex, hd, r⟩, ⟨o, ho⟩, fun _ _ z k => z.elim fun z1 z2 => ⟨z1, z2.elim fun o z3 => z3.elim fun es z4 => z4.elim fun ep z5 => ⟨o, es, ep, k o z5.1, z5.2⟩⟩⟩
section
variable {X : Cx} {pins : List (Addr × Obj)} {σ : L2.St} {H : Hp} {s : Shared} {a : Addr}
theorem bd_at {kvs : List (Bool × V)} (I : Inv X pins σ H s) (x : H a = some (BdD a kvs)) : (a == sysModules) = false ∧ ∃ o es ep, s.heap.get? a = some o ∧ o.ExactDict ∧ o.data = .dict es ep ∧ BKV kvs es.toList :=
  (show ObjOk X.prog X.w H s.heap a (BdD a kvs) from I.hok a _ x).1
end
/-! isinstance of them -/
def rIsiY (K : PySem.W.Frag) : List V → Hp → VK → Prop := fun xs H Q => ∃ (a : Addr) (kvs : List (Bool × V)) (c : V) (u : Value) (b : Bool), xs = [.ref a, c] ∧ ClsV c u ∧ H a = some (BdD a kvs) ∧ PySem.W.kitOne K (.type "dict") u = some b ∧ Q (.bl b) H
def rIsiYT (K : PySem.W.Frag) : List V → Hp → VK → Prop := fun xs H Q => ∃ (a tp : Addr) (kvs : List (Bool × V)) (cs : List V) (us : List Value) (b : Bool), xs = [.ref a, .ref tp] ∧ H tp = some (.tup cs) ∧ Paired ClsV cs us ∧ H a = some (BdD a kvs) ∧ PySem.W.kitAny K (.type "dict") us = some b ∧ Q (.bl b) H
section
variable {X : Cx}
theorem call_isiY : CallR X (.builtin "isinstance") (rIsiY X.K) := by
  intro pins s σ H xs us Q I r h
  obtain ⟨a, kvs, c, u, b, rfl, k, hd, e, q⟩ := h
  obtain ⟨u1, u2, rfl, r1, r2⟩ := vals2 r
  have e2 := k.eq r2
  subst e2
  cases (show u1 = Value.ref a from r1)
  obtain ⟨_, o, es, ep, ho, ex, _⟩ := bd_at I hd
  exact PySem.W.kia_one PySem.W.kitx_dict I.kIn ⟨o, ho, ex.1⟩ e (fun z => nomatch z) fun tk => ⟨.bl b, H, I.tok tk, rfl, q⟩
theorem call_isiYT : CallR X (.builtin "isinstance") (rIsiYT X.K) := by
  intro pins s σ H xs us Q I r h
  obtain ⟨a, tp, kvs, cs, ws, b, rfl, hT, k, hd, e, q⟩ := h
  obtain ⟨u1, u2, rfl, r1, r2⟩ := vals2 r
  cases (show u1 = Value.ref a from r1)
  cases (show u2 = Value.ref tp from r2)
  obtain ⟨_, o, es, ep, ho, ex, _⟩ := bd_at I hd
  obtain ⟨_, its, rv, ⟨oc, od, dt, sl⟩, h1, h2, n, h3⟩ := (show ObjOk X.prog X.w H s.heap tp (.tup cs) from I.hok tp _ hT)
  have e3 := ClsV.all k rv
  subst e3
  simp only at h2 h3
  subst h2 h3
  exact PySem.W.kia_tup PySem.W.kitx_dict I.kIn ⟨o, ho, ex.1⟩ h1 e (fun z => nomatch z) fun tk => ⟨.bl b, H, I.tok tk, rfl, q⟩
end
end Ech

namespace Ech
open PySem PySem.Spec PyProof.Rows L2

/-! ### chains, while -/
section
variable {X : Cx} {a b c : Expr} {ta tb tc : TE} {pos : Pos}
theorem op_cl {f : Value → Value → Sem Value} {r : R2} (h : OpR X f r) : OpR X f (fun x y H Q => ∃ R : VK, r x y H R ∧ ∀ v H', R v H' → Q v H') :=
  fun pins s σ H x y v u Q I rx ry ⟨R, q, i⟩ => thn (h pins s σ H x y v u R I rx ry q) fun _ _ ⟨z, H1, I1, r1, q1⟩ => ⟨z, H1, I1, r1, i _ _ q1⟩
theorem u_chain {op op' : CmpOp} {r r' : R2} (ho : OpR X (compareOp op) r) (ho' : OpR X (compareOp op') r') (ha : PE X a ta) (hb : PE X b tb) (hc : PE X c tc)
    (hm : lastMarks [op, op'] [b, c] = false := by with_unfolding_all rfl) : PE X (.Compare a [op, op'] [b, c] pos) (uChain r r' ta tb tc) := by
  refine pe_wk (pe_chain (op_cl ho) ho' (pe_cl ha) (pe_cl hb) hc hm) fun σ H Q q => ?_
  refine ⟨_, q, fun x H1 q1 => ⟨_, q1, fun y H2 q2 => ⟨_, q2, fun z H3 q3 => ?_⟩⟩⟩
  obtain ⟨k, e, q4⟩ := boolOf_to q3
  exact ⟨k, e, bite_if q4⟩
theorem u_chainT {op op' : CmpOp} {r r' : R2} (ho : OpR X (compareOp op) r) (ho' : OpR X (compareOp op') r') (ha : PE X a ta) (hb : PE X b tb) (hc : PE X c tc)
    (hm : lastMarks [op, op'] [b, c] = false := by with_unfolding_all rfl) : PT X (.Compare a [op, op'] [b, c] pos) (uTest (uChain r r' ta tb tc)) := by
  refine pt_wk (pt_chain (op_cl ho) (op_cl ho') (pe_cl ha) (pe_cl hb) (pe_cl hc) hm) fun σ H Q q => ?_
  refine ⟨_, q, fun x H1 q1 => ⟨_, q1, fun y H2 q2 => ⟨_, q2, fun z H3 q3 => ?_⟩⟩⟩
  obtain ⟨k, e, q4⟩ := boolOf_to q3
  refine ⟨k, e, ?_⟩
  cases k with
  | true => exact (if_pos rfl).mpr ⟨_, q4, fun w H4 q5 => ⟨_, q5, fun v H5 q6 => boolOf_to q6⟩⟩
  | false => exact (if_neg Bool.false_ne_true).mpr ⟨false, rfl, q4⟩
end

/-! ### fields, objects -/
def uFld (C : Addr) (ta : TE) (f : PySem.Str) : TE := fun σ H Q => ta σ H fun x H1 => match x with
  | .ref a => ∃ dx fs v, H1 a = some (.ins C dx fs) ∧ fs.lookup f = some v ∧ Q v H1
  | _ => False
def uSetFld (C : Addr) (ta tv : TE) (f : PySem.Str) : TS := fun D σ H => tv σ H fun y H1 => ta σ H1 fun x H2 => match x with
  | .ref a => ∃ dx fs, H2 a = some (.ins C dx fs) ∧ fs.length < 1000 ∧ ∀ H3, Chg H2 a (.ins C dx (putF f y fs)) H3 → D.nx σ H3
  | _ => False
structure Made (H : Hp) (x dx C : Addr) (H1 : Hp) : Prop where
  nx : H x = none
  ndx : H dx = none
  ne : dx ≠ x
  eq : H1 = upd (upd H dx (.own x)) x (.ins C dx [])
def uMake (C : Addr) (sp : Sp) (dvs : List V) (E : XK) (t : TA) : TE := fun σ H Q => t σ H fun vs H1 => ∀ x dx H2, Made H1 x dx C H2 → sp (.ref x :: (vs ++ dvs)) H2 (fun v H3 => v = .non ∧ Q (.ref x) H3) E
def uProp (C : Addr) (sp : Sp) (E : XK) (ta : TE) : TE := fun σ H Q => ta σ H fun x H1 => match x with
  | .ref a => ∃ dx fs, H1 a = some (.ins C dx fs) ∧ sp [.ref a] H1 Q E
  | _ => False
section
variable {X : Cx} {e o value : Expr} {es : List Expr} {ta tv : TE} {t : TA} {pos pos' p apos : Pos} {C f : Addr} {n m x : PySem.Str} {CX : CXT} {k : Nat} {fd : FuncData} {ps : List PySem.Str} {sp : Sp} {dvs : List V} {ds : List Value} {E : XK}
theorem u_fld (c : Cls X.K C) (na : NoAttr X.K C n) (he : PE X e ta) (hb : attributeBase e n X.env (eval e X.env) = eval e X.env := by rfl) : PE X (.Attribute e n pos) (uFld C ta n) := by
  refine pe_wk (pe_fld (pe_cl he) hb) fun σ H Q q => ⟨_, q, fun v H1 q1 => ?_⟩
  cases v with
  | ref a =>
    obtain ⟨dx, fs, v, h1, h2, h3⟩ := q1
    exact ⟨a, C, dx, fs, v, rfl, h1, c, na, h2, h3⟩
  | _ => exact q1.elim
theorem u_setFld (c : Cls X.K C) (na : NoAttr X.K C n) (ha : PE X o ta) (hv : PE X value tv) (hs : swapsWith value (some (.Attribute o n pos')) pos.line X.env = pure false := by rfl) : PS X (.Assign [.Attribute o n pos'] value pos) (uSetFld C ta tv n) := by
  refine ps_wk (ps_fld (pe_cl ha) (pe_cl hv) hs) fun D σ H q => ⟨_, q, fun y H1 q1 => ⟨_, q1, fun v H2 q2 => ?_⟩⟩
  cases v with
  | ref a =>
    obtain ⟨dx, fs, h1, h2, h3⟩ := q2
    exact ⟨a, C, dx, fs, rfl, h1, c, na, h2, h3 _ ⟨rfl⟩⟩
  | _ => exact q2.elim
theorem u_make (M : Mk X.K C f) (F : FnOk X.prog X.w X.K X.mg X.base CX k f fd ps sp) (hr : Room (k + 1) X.A) (hg : Gl X x) (hm : X.mg x = some (.ref C)) (hb : Binds X.K fd ps ds) (hd : Vals dvs ds) (hx : Passes CX X E) (ha : PA X (e :: es) t)
    (hdb : (x == ("__debug__" : PySem.Str)) = false := by decide) (he : starEach (e :: es) X.env = (false, eval e X.env) :: starEach es X.env := by rfl) (hpl : (backTo pos (starEach es X.env)).any (·.1) = false := by rfl) :
    PE X (.Call (.Name x p) (e :: es) [] pos) (uMake C sp dvs E t) :=
  pe_wk (pe_make M F hr hg hm hb hd hx (pa_cl ha) hdb he hpl) fun σ H Q q => ⟨_, q, fun vs H1 q1 a dx h1 h2 h3 => q1 a dx _ ⟨h1, h2, h3, rfl⟩⟩
theorem u_prop {pp g : Addr} (he : PE X e ta) (c : Cls X.K C) (hp : PropOf X.K C n pp g) (F : FnOk X.prog X.w X.K X.mg X.base CX k g fd ps sp) (hr : Room (k + 1) X.A) (hb : Binds X.K fd ps []) (hx : Passes CX X.nox E)
    (hab : attributeBase e n X.env (eval e X.env) = eval e X.env := by rfl) : PE X (.Attribute e n pos) (uProp C sp E ta) := by
  refine pe_wk (pe_prop (pe_cl he) c hp F hr hb .nil hx hab) fun σ H Q q => ⟨_, q, fun v H1 q1 => ?_⟩
  cases v with
  | ref a =>
    obtain ⟨dx, fs, h1, h2⟩ := q1
    exact ⟨a, dx, fs, rfl, h1, h2⟩
  | _ => exact q1.elim
end

/-! ### calls of built-in things -/
def rLenU (K : PySem.W.Frag) : List V → Hp → VK → Prop := fun xs H Q => match xs with
  | [.str y] => y.length ≤ sizeLine ∧ Q (.int y.length) H
  | [.ref p] => ∃ ys, (SqL K H p ys ∨ SqT K H p ys) ∧ Q (.int ys.length) H
  | _ => False
def rIntU : List V → Hp → VK → Prop := fun xs H Q => match xs with
  | [.int i] => Q (.int i) H
  | [.bl k] => Q (.int (if k then 1 else 0)) H
  | [.str a] => ∃ n, PySem.intText? a = some n ∧ a.length ≤ 640 ∧ Q (.int n) H
  | _ => False
def rAbsU : List V → Hp → VK → Prop := fun xs H Q => match xs with
  | [.int i] => Q (.int i.natAbs) H
  | _ => False
def rMinU : List V → Hp → VK → Prop := fun xs H Q => match xs with
  | [.int i, .int j] => Q (.int (min i j)) H
  | _ => False
def rTupleU (K : PySem.W.Frag) : List V → Hp → VK → Prop := fun xs H Q => match xs with
  | [.ref p] => ∃ ys, (SqL K H p ys ∧ ∀ l H1, New H l (.tup ys) H1 → Q (.ref l) H1) ∨ (SqT K H p ys ∧ Q (.ref p) H)
  | _ => False
def rListU (K : PySem.W.Frag) : List V → Hp → VK → Prop := fun xs H Q => match xs with
  | [.ref p] => ∃ ys, (SqL K H p ys ∨ SqT K H p ys) ∧ ∀ l H1, New H l (.lst ys) H1 → Q (.ref l) H1
  | _ => False
def rAllU (K : PySem.W.Frag) : List V → Hp → VK → Prop := fun xs H Q => match xs with
  | [.ref p] => ∃ bs : List Bool, SqL K H p (bs.map V.bl) ∧ Q (.bl (bs.all id)) H
  | _ => False
def rIsiU (K : PySem.W.Frag) : List V → Hp → VK → Prop := fun xs H Q => rIsi K xs H Q ∨ (rIsiT K xs H Q ∨ (rIsiY K xs H Q ∨ rIsiYT K xs H Q))
section
variable {X : Cx}
theorem c_len : CallR X (.builtin "len") (rLenU X.K) := by
  refine call_wk call_len fun xs H Q h => ?_
  unfold rLenU at h
  split at h
  · exact ⟨_, _, rfl, ⟨h.1, rfl⟩, h.2⟩
  · obtain ⟨ys, h1 | h1, q⟩ := h
    · exact ⟨_, _, rfl, Or.inl ⟨ys, h1, rfl⟩, q⟩
    · exact ⟨_, _, rfl, Or.inr ⟨ys, h1, rfl⟩, q⟩
  · exact h.elim
theorem c_int : CallR X (.type "int") rIntU := by
  refine call_wk (call_or call_int1 call_int_str) fun xs H Q h => ?_
  unfold rIntU at h
  split at h
  · exact .inl (.inl ⟨_, rfl, h⟩)
  · exact .inl (.inr ⟨_, rfl, h⟩)
  · obtain ⟨n, h1, h2, h3⟩ := h
    exact .inr ⟨_, n, rfl, h1, h2, h3⟩
  · exact h.elim
theorem c_abs : CallR X (.builtin "abs") rAbsU := by
  refine call_wk call_abs fun xs H Q h => ?_
  unfold rAbsU at h
  split at h
  · rename_i i
    refine ⟨i, rfl, ?_⟩
    have e : (if i < 0 then -i else i) = (i.natAbs : Int) := by split <;> omega
    rw [e]
    exact h
  · exact h.elim
theorem c_min (hc : X.calm = true) : CallR X (.builtin "min") rMinU := by
  refine call_wk (call_min2 hc) fun xs H Q h => ?_
  unfold rMinU at h
  split at h
  · rename_i i j
    refine ⟨i, j, rfl, ?_⟩
    have e : (if j < i then j else i) = min i j := by split <;> omega
    rw [e]
    exact h
  · exact h.elim
theorem c_tuple : CallR X (.type "tuple") (rTupleU X.K) := by
  refine call_wk call_tuple_of fun xs H Q h => ?_
  unfold rTupleU at h
  split at h
  · obtain ⟨ys, ⟨h1, h2⟩ | ⟨h1, h2⟩⟩ := h
    · exact ⟨_, ys, rfl, .inl ⟨h1, fun l hl => h2 l _ ⟨hl, rfl⟩⟩⟩
    · exact ⟨_, ys, rfl, .inr ⟨h1, h2⟩⟩
  · exact h.elim
theorem c_list : CallR X (.type "list") (rListU X.K) := by
  refine call_wk call_list_of fun xs H Q h => ?_
  unfold rListU at h
  split at h
  · obtain ⟨ys, h1, h2⟩ := h
    exact ⟨_, ys, rfl, h1, fun l hl => h2 l _ ⟨hl, rfl⟩⟩
  · exact h.elim
theorem c_all (hc : X.calm = true) : CallR X (.builtin "all") (rAllU X.K) := by
  refine call_wk (cr_all hc) fun xs H Q h => ?_
  unfold rAllU at h
  split at h
  · obtain ⟨bs, h1, h2⟩ := h
    exact ⟨_, bs, rfl, h1, h2⟩
  · exact h.elim
theorem c_isi : CallR X (.builtin "isinstance") (rIsiU X.K) := call_or call_isi (call_or call_isiT (call_or call_isiY call_isiYT))
end

/-! ### subscripts, slices, stores -/
def rIxU (K : PySem.W.Frag) : R2 := fun x y H Q => match x, y with
  | .ref p, .int i => ∃ xs v, (SqL K H p xs ∨ SqT K H p xs) ∧ atI xs i = some v ∧ Q v H
  | .str z, .int i => ∃ c, z.length ≤ sizeLine ∧ atI z.cps.toList i = some c ∧ Q (.str ⟨#[c]⟩) H
  | _, _ => False
def rSlU (K : PySem.W.Frag) : V → Option Int → Option Int → Hp → VK → Prop := fun x lo hi H Q => match x with
  | .ref a => ∃ xs, (SqL K H a xs ∧ ∀ p H1, New H p (.lst (cutV xs lo hi)) H1 → Q (.ref p) H1) ∨
      (SqT K H a xs ∧ ¬ (HT.sIx xs.length 0 lo = 0 ∧ HT.sIx xs.length xs.length hi = xs.length) ∧ ∀ p H1, New H p (.tup (cutV xs lo hi)) H1 → Q (.ref p) H1)
  | _ => False
def uDGet (td ty : TE) : TE := fun σ H Q => td σ H fun x H1 => ty σ H1 fun y H2 => match x with
  | .ref a => ∃ v, DGet H2 a y (some v) ∧ Q v H2
  | _ => False
def uDPut (td ty tv : TE) : TS := fun D σ H => tv σ H fun v H1 => td σ H1 fun x H2 => ty σ H2 fun y H3 => match x with
  | .ref a => ∃ H4, DPut H3 a y v H4 ∧ D.nx σ H4
  | _ => False
end Ech

namespace Ech
open PySem PySem.Spec PyProof.Rows L2

section
variable {X : Cx} {a b o i value e : Expr} {es : List Expr} {ta tb td ty tv te to : TE} {t : TA} {pos pos' apos cpos : Pos}
theorem ix_u : IxR X (rIxU X.K) := by
  refine ix_wk ix_seq fun x y H Q h => ?_
  unfold rIxU at h
  split at h
  · obtain ⟨xs, v, h1 | h1, h2, h3⟩ := h
    · exact .inl ⟨_, xs, _, v, rfl, rfl, h1, h2, h3⟩
    · exact .inr (.inl ⟨_, xs, _, v, rfl, rfl, h1, h2, h3⟩)
  · obtain ⟨c, h1, h2, h3⟩ := h
    exact .inr (.inr ⟨_, _, c, rfl, rfl, h1, h2, h3⟩)
  · exact h.elim
theorem sl_u : SlR X (rSlU X.K) := by
  refine sl_wk (sl_list.or sl_tup) fun x lo hi H Q h => ?_
  unfold rSlU at h
  split at h
  · obtain ⟨xs, ⟨h1, h2⟩ | ⟨h1, h2, h3⟩⟩ := h
    · exact .inl ⟨_, xs, rfl, h1, fun p hp => h2 p _ ⟨hp, rfl⟩⟩
    · exact .inr ⟨_, xs, rfl, h1, h2, fun p hp => h3 p _ ⟨hp, rfl⟩⟩
  · exact h.elim
theorem u_dget (hu : X.A.units + 1 < cLine) (ho : PE X o td) (hi : PE X i ty) (hs : NoSl i := by exact fun _ _ => rfl) : PE X (.Subscript o i pos) (uDGet td ty) := by
  refine pe_wk (pe_dget hu (pe_cl ho) (pe_cl hi) hs) fun σ H Q q => ⟨_, q, fun x H1 q1 => ⟨_, q1, fun y H2 q2 => ?_⟩⟩
  cases x with
  | ref d =>
    obtain ⟨v, h1, h2⟩ := q2
    exact ⟨d, v, rfl, h1, h2⟩
  | _ => exact q2.elim
theorem u_dput (hu : X.A.units + 1 < cLine) (ho : PE X o td) (hi : PE X i ty) (hv : PE X value tv) (hs : swapsWith value (some (.Subscript o i pos')) pos.line X.env = pure false := by rfl) : PS X (.Assign [.Subscript o i pos'] value pos) (uDPut td ty tv) := by
  refine ps_wk (ps_dput hu (pe_cl ho) (pe_cl hi) (pe_cl hv) hs) fun D σ H q => ⟨_, q, fun v H1 q1 => ⟨_, q1, fun x H2 q2 => ⟨_, q2, fun y H3 q3 => ?_⟩⟩⟩
  cases x with
  | ref d =>
    obtain ⟨H4, h1, h2⟩ := q3
    exact ⟨d, H4, rfl, h1, h2⟩
  | _ => exact q3.elim
end

/-! ### methods of lists -/
def uMut (K : PySem.W.Frag) (to : TE) (t : TA) (r : Addr → List V → List V → Hp → (List V → Prop) → Prop) : TE := fun σ H Q => to σ H fun x H1 => match x with
  | .ref l => (∃ xs, SqL K H1 l xs) ∧ t σ H1 fun ys H2 => ∃ xs, H2 l = some (.lst xs) ∧ r l xs ys H2 fun zs => ∀ H3, Chg H2 l (.lst zs) H3 → Q .non H3
  | _ => False
def mApp : Addr → List V → List V → Hp → (List V → Prop) → Prop := fun _ xs ys _ k => match ys with
  | [y] => xs.length < sizeLine ∧ k (xs ++ [y])
  | _ => False
section
variable {X : Cx} {o e : Expr} {es : List Expr} {to : TE} {t : TA} {apos cpos : Pos}
theorem u_append (ho : PE X o to) (ha : PA X (e :: es) t) (hb : attributeBase o "append" X.env (eval o X.env) = eval o X.env := by rfl)
    (hfew : methodCallForm (e :: es).length (backTo cpos (starEach (e :: es) X.env)) (backToKw cpos (keywordEach [] X.env)) = true := by rfl) (hl : (apos.endLine == cpos.line) = true := by rfl)
    (hs : starEach (e :: es) X.env = (false, eval e X.env) :: starEach es X.env := by rfl) (hpl : (backTo cpos (starEach es X.env)).any (·.1) = false := by rfl) :
    PE X (.Call (.Attribute o "append" apos) (e :: es) [] cpos) (uMut X.K to t mApp) := by
  refine pe_wk (pe_bm PySem.F.plainAttrs_list PySem.F.slot_list_append PySem.F.type_list_append mt_append (pe_cl ho) (pa_cl ha) hb hfew hl hs hpl) fun σ H Q q => ⟨_, q, fun x H1 q1 => ?_⟩
  cases x with
  | ref l =>
    obtain ⟨⟨xs, hx⟩, q2⟩ := q1
    refine ⟨Or.inl ⟨rfl, xs, hx⟩, _, q2, fun ys H2 ⟨xs, h1, h2⟩ => ?_⟩
    unfold mApp at h2
    split at h2
    · exact ⟨l, xs, _, rfl, rfl, h1, h2.1, h2.2 _ ⟨rfl⟩⟩
    · exact h2.elim
  | _ => exact q1.elim
end

/-! ### what is walked -/
abbrev WC := Nat → (Hp → Prop) → (Nat → Hp → V → Hp → Prop) → Hp → Prop
abbrev TW := L2.St → Hp → WC → Prop
structure PIU (X : Cx) (tg iter : Expr) (w : TW) : Prop where
  run : ∀ (pins : List (Addr × Obj)) (s : Shared) (σ : L2.St) (H : Hp) (C : WC), Inv X pins σ H s → w σ H C →
    wpAny (model X.prog X.w) X.A (eval iter X.env) (fun v s1 => wpAny (model X.prog X.w) X.A (pyIter v) (PIE X pins σ tg fun J H1 => ∃ n G Y, Walk J n G Y ∧ C n G Y H1) X.xe s1) X.xe s
def Sq (b : Bool) (K : PySem.W.Frag) (H : Hp) (a : Addr) (xs : List V) : Prop := match b with
  | true => SqL K H a xs
  | false => SqT K H a xs
def wSeq (K : PySem.W.Frag) (tl : TE) : TW := fun σ H C => tl σ H fun x H1 => match x with
  | .ref a => ∃ b xs, Sq b K H1 a xs ∧ C xs.length (fun H => Sq b K H a xs) (YAt xs) H1
  | _ => False
def wRange1 (t : TA) : TW := fun σ H C => t σ H fun vs H1 => match vs with
  | [.int j] => (-(2 ^ 62) ≤ j ∧ j < 2 ^ 62) ∧ C j.toNat (fun _ => True) (YFn fun i => .int (0 + i)) H1
  | _ => False
def wRange2 (t : TA) : TW := fun σ H C => t σ H fun vs H1 => match vs with
  | [.int i, .int j] => (-(2 ^ 62) ≤ i ∧ i < 2 ^ 62 ∧ -(2 ^ 62) ≤ j ∧ j < 2 ^ 62) ∧ C (j - i).toNat (fun _ => True) (YFn fun k => .int (i + k)) H1
  | _ => False
section
variable {X : Cx} {tg e e2 : Expr} {tl : TE} {t : TA} {p pos tpos : Pos}
theorem pie_mono {pins : List (Addr × Obj)} {σ : L2.St} {R R' : It → Hp → Prop} {v : Value} {s : Shared} (h : PIE X pins σ tg R v s) (i : ∀ J H, R J H → R' J H) : PIE X pins σ tg R' v s := by
  obtain ⟨it, fp, tn, J, H', e, I, T, st, f, r⟩ := h
  exact ⟨it, fp, tn, J, H', e, I, T, st, f, i J H' r⟩
theorem piu_of {wi : TI} {w : TW} (h : PI X tg e wi) (i : ∀ σ H C, w σ H C → wi σ H fun J H1 => ∃ n G Y, Walk J n G Y ∧ C n G Y H1) : PIU X tg e w :=
  ⟨fun pins s σ H C I q => h.run pins s σ H _ I (i σ H C q)⟩
theorem piu_seq (hl : PE X e tl) : PIU X tg e (wSeq X.K tl) := by
  constructor
  intro pins s σ H C I h
  refine thn (hl.run pins s σ H _ I h) ?_
  rintro v s1 ⟨x, H1, I1, r1, q1⟩
  cases x with
  | ref a =>
    obtain ⟨b, xs, hq, q⟩ := q1
    cases r1
    have fresh : ∀ c ∈ [s1.heap.objs.size], FpOk X pins H1 c := fun c hc => by
      rw [List.mem_singleton.mp hc]
      exact I1.fpOk (Nat.le_refl _) (I1.hok.fresh (Nat.le_refl _))
    cases b with
    | true =>
      obtain ⟨its, rv, pl, hz⟩ := I1.list hq
      refine wpAny_pyIter_list pl.isList ?_
      have I2 := I1.kept (h' := s1.heap.push { cls := .type "list_iterator", data := .fields #[.ref a, .int 0 0] }) (t' := s1.toks) fun b o z => Heap.get?_push_of_some _ z
      exact ⟨_, _, _, _, H1, rfl, I2, turn_list a _, ⟨_, Heap.get?_push_size _ rfl, rfl, rfl⟩, fresh, _, _, _, walk_list, q⟩
    | false =>
      obtain ⟨its, rv, pl, hz⟩ := I1.tuple hq
      refine wpAny_pyIter_tuple (show s1.heap.IsTuple a its.toArray from pl) ?_
      have I2 := I1.kept (h' := s1.heap.push { cls := .type "tuple_iterator", data := .fields #[.ref a, .int 0 0] }) (t' := s1.toks) fun b o z => Heap.get?_push_of_some _ z
      exact ⟨_, _, _, _, H1, rfl, I2, turn_tuple a _, ⟨_, Heap.get?_push_size _ rfl, rfl, rfl⟩, fresh, _, _, _, walk_tup, q⟩
  | _ => exact q1.elim
theorem piu_range1 (hg : Gl X "range") (hm : X.mg "range" = none) (ha : PA X [e] t) (hs : starEach [e] X.env = [(false, eval e X.env)] := by rfl) : PIU X tg (.Call (.Name "range" p) [e] [] pos) (wRange1 t) := by
  refine piu_of (pi_range1 hg hm (pa_cl ha) hs) fun σ H C q => ⟨_, q, fun vs H1 q1 => ?_⟩
  split at q1
  · exact ⟨_, rfl, q1.1.1, q1.1.2, _, _, _, walk_range, q1.2⟩
  · exact q1.elim
theorem piu_range2 (hg : Gl X "range") (hm : X.mg "range" = none) (ha : PA X [e, e2] t) (hs : starEach [e, e2] X.env = [(false, eval e X.env), (false, eval e2 X.env)] := by rfl) (hs2 : starEach [e2] X.env = [(false, eval e2 X.env)] := by rfl) :
    PIU X tg (.Call (.Name "range" p) [e, e2] [] pos) (wRange2 t) := by
  refine piu_of (pi_range2 hg hm (pa_cl ha) hs hs2) fun σ H C q => ⟨_, q, fun vs H1 q1 => ?_⟩
  split at q1
  · exact ⟨_, _, rfl, q1.1, _, _, _, walk_range, q1.2⟩
  · exact q1.elim
end

/-! ### for, comprehensions -/
def uFor (w : TW) (g : TG) (tb : TS) : TS := fun D σ H => w σ H fun n G Y H1 => ∃ Pv : Nat → L2.St → Hp → Prop, Pv 0 σ H1 ∧ (∀ i σ H, i ≤ n → Pv i σ H → G H) ∧
  (∀ i x σ H H', i < n → Pv i σ H → Y i H x H' → g x σ H' fun σ2 H2 => tb { D with nx := Pv (i + 1), ct := Pv (i + 1), bk := D.nx } σ2 H2) ∧ ∀ σ H, Pv n σ H → D.nx σ H
def lcGo (g : TG) (tt : TT) (te : TE) (vs : List Nat) (σ : L2.St) (Q : VK) (n : Nat) (G : Hp → Prop) (Y : Nat → Hp → V → Hp → Prop) (H1 : Hp) : Prop := ∀ D H2, New H1 D (.lst []) H2 → ∃ Pv : Nat → Hp → Prop, Pv 0 H2 ∧ (∀ i H, i ≤ n → Pv i H → G H) ∧
  (∀ i x H H', i < n → Pv i H → Y i H x H' → g x (wipe σ vs) H' fun σ2 H3 => wipe σ2 vs = wipe σ vs ∧ tt σ2 H3 fun c H4 =>
    bite c (te σ2 H4 fun y H5 => ∃ acc, H5 D = some (.lst acc) ∧ acc.length < sizeLine ∧ ∀ H6, Chg H5 D (.lst (acc ++ [y])) H6 → Pv (i + 1) H6) (Pv (i + 1) H4)) ∧ ∀ H, Pv n H → Q (.ref D) H
def uLc (w : TW) (g : TG) (tt : TT) (te : TE) (vs : List Nat) : TE := fun σ H Q => w σ H (lcGo g tt te vs σ Q)
section
variable {X : Cx} {tg iter elt : Expr} {w : TW} {g : TG} {pos py spos : Pos}
theorem PIU.pi (h : PIU X tg iter w) : PI X tg iter (fun σ H R => ∃ C : WC, w σ H C ∧ ∀ J n G Y H1, Walk J n G Y → C n G Y H1 → R J H1) :=
  ⟨fun pins s σ H R I ⟨C, q, i⟩ => thn (h.run pins s σ H C I q) fun _ _ z => thn z fun _ _ y => pie_mono y fun J H1 ⟨n, G, Y, a, b⟩ => i J n G Y H1 a b⟩
theorem pg_cl (h : PG X tg g) : PG X tg (fun v σ H Q => ∃ R : L2.St → Hp → Prop, g v σ H R ∧ ∀ σ' H', R σ' H' → Q σ' H') :=
  ⟨fun pins s σ H v u Q I r ⟨R, q, i⟩ => thn (h.run pins s σ H v u R I r q) fun _ _ ⟨σ', H', I', z⟩ => ⟨σ', H', I', i _ _ z⟩⟩
theorem u_for {body : List Stmt} {tb : TS} (hp : PassesOwn (model X.prog X.w) X.A X.env X.xe) (hc : X.calm = true) (hi : PIU X tg iter w) (hg : PG X tg g) (hb : PSs X body tb)
    (hs : ∀ x, foldedSetIterable iter X.env x = pure x := by intro _; rfl) : PS X (.For tg iter body [] pos) (uFor w g tb) := by
  refine ps_wk (ps_for hp hc hi.pi hg hb hs) fun D σ H q => ⟨_, q, fun J n G Y H1 wk ⟨Pv, h0, hG, hstep, hd⟩ => ?_⟩
  exact for_it wk Pv h0 hG hstep hd
variable {ifs : List Expr} {scope : Scope} {own : List (PySem.Str × Nat)} {tt : TT} {te : TE}
theorem lc_cl {wi : TI} {vs : List Nat} {σ : L2.St} {H : Hp} {Q : VK} (h : uLc w g tt te vs σ H Q) :
    tLc (fun σ H R => ∃ C : WC, w σ H C ∧ ∀ J n G Y H1, Walk J n G Y → C n G Y H1 → R J H1) (fun v σ H Q => ∃ R : L2.St → Hp → Prop, g v σ H R ∧ ∀ σ' H', R σ' H' → Q σ' H')
      (fun σ H Q => ∃ R : Bool → Hp → Prop, tt σ H R ∧ ∀ b H', R b H' → Q b H') (clE te) vs σ H Q := by
  refine ⟨_, h, fun J n G Y H1 wk q D hD => ?_⟩
  obtain ⟨Pv, h0, hG, hstep, hd⟩ := q D _ ⟨hD, rfl⟩
  refine lc_it (g := fun v σ H Q => ∃ R : L2.St → Hp → Prop, g v σ H R ∧ ∀ σ' H', R σ' H' → Q σ' H') (tt := fun σ H Q => ∃ R : Bool → Hp → Prop, tt σ H R ∧ ∀ b H', R b H' → Q b H') (te := clE te) (vs := vs) (σ := σ) wk Pv h0 hG (fun i x H2 H' hi p y => ⟨_, hstep i x H2 H' hi p y, fun σ2 H3 ⟨e1, q1⟩ => ⟨e1, _, q1, fun c H4 q2 => bite_if ?_⟩⟩) hd
  cases c with
  | false => exact q2
  | true => exact ⟨_, q2, fun v H5 ⟨acc, a1, a2, a3⟩ => ⟨acc, a1, a2, a3 _ ⟨rfl⟩⟩⟩
theorem pts_cl {X : Cx} {ifs : List Expr} {tt : TT} (h : PTs X ifs tt) : PTs X ifs (fun σ H Q => ∃ R : Bool → Hp → Prop, tt σ H R ∧ ∀ b H', R b H' → Q b H') :=
  ⟨fun pins s σ H Q I ⟨R, q, i⟩ => thn (h.run pins s σ H R I q) fun _ _ ⟨H1, I1, q1⟩ => ⟨H1, I1, i _ _ q1⟩⟩
theorem u_lc (hc : X.calm = true) (hN : X.N.Nodup) (hi : PIU X tg iter w) (ok : BlkOk X.N X.env.scope scope own)
    (hg : ∀ (s : Shared) (H : Hp) (C : Addr) (cl : List (PySem.Str × Addr)) (fp : List Addr), PG (X.blk s H scope (compEnvC scope cl C X.env) fp) tg g) (ht : ∀ (s : Shared) (H : Hp) (C : Addr) (cl : List (PySem.Str × Addr)) (fp : List Addr), PTs (X.blk s H scope (compEnvC scope cl C X.env) fp) ifs tt)
    (he : ∀ (s : Shared) (H : Hp) (C : Addr) (cl : List (PySem.Str × Addr)) (fp : List Addr), PE (X.blk s H scope (compEnvC scope cl C X.env) fp) elt te) (hs : ∀ x, foldedSetIterable iter X.env x = pure x := by intro _; rfl) :
    PE X (.ListComp elt [⟨tg, iter, ifs, 0⟩] scope pos) (uLc w g tt te (own.map (·.2))) :=
  pe_wk (pe_lc hc hN hi.pi ok (fun s H C cl fp => pg_cl (hg s H C cl fp)) (fun s H C cl fp => pts_cl (ht s H C cl fp)) (fun s H C cl fp => pe_cl (he s H C cl fp)) hs) fun σ H Q q => lc_cl (wi := fun _ _ _ => True) q
end
end Ech

namespace Ech
open PySem PySem.Spec PyProof.Rows L2
open He (ga ma)
open He5 (wf wrapB)

/-! ### the written part's defs by their addresses -/
def fdA (K : PySem.W.Frag) (f : Addr) : FuncData := match K.lookup f with
  | some ⟨_, _, .func fd, _⟩ => fd
  | _ => PySem.W.fnOf "" "" ⟨[], [], none, [], [], none, []⟩ [] ⟨.function, [], false, false, []⟩ .none .none .none .none none .none .none
theorem fdA_eq {K : PySem.W.Frag} {x qual : PySem.Str} {params : Arguments} {body : List Stmt} {scope : Scope} {dvs : List V} {kws : List (PySem.Str × V)} {f : Addr} {fd : FuncData} (F : FunD K x qual params body scope dvs kws f fd) : FunD K x qual params body scope dvs kws f (fdA K f) := by
  obtain ⟨oc, od, dV, kV, doc, pm, an, cdv, ct, osl, e1, lk, _⟩ := F.ex
  have e : fdA K f = fd := by unfold fdA; rw [lk]
  rw [e]
  exact F
structure EnvOf (fa : List Ft) (fn : List He5.DefA) (K : PySem.W.Frag) (mg : PySem.Str → Option Value) : Prop where
  says : SaysB fa fn K
  ns : ∃ h, K.In h ∧ h.Ns mainGlobals mg
section
variable {fa : List Ft} {fn : List He5.DefA} {K : PySem.W.Frag} {mg : PySem.Str → Option Value}
theorem EnvOf.glo (e : EnvOf fa fn K mg) (i : Nat) {x : PySem.Str} (h : fa[i]? = some (fun K => (He.Fa.glo x).ok K) := by rfl) : mg x = some (.ref (ga K x)) := e.ns.elim fun _ q => He.glo_ok q.1 q.2 (e.says.fact i h)
theorem EnvOf.free (e : EnvOf fa fn K mg) (i : Nat) {x : PySem.Str} (h : fa[i]? = some (fun K => (He.Fa.free x).ok K) := by rfl) : mg x = none := e.ns.elim fun _ q => He.free_ok q.1 q.2 (e.says.fact i h)
theorem EnvOf.int (e : EnvOf fa fn K mg) (i : Nat) {x : PySem.Str} {n : Int} (h : fa[i]? = some (fun K => (He.Fa.int x n).ok K) := by rfl) : ∃ t, mg x = some (.int n t) := e.ns.elim fun _ q => He.int_ok q.1 q.2 (e.says.fact i h)
theorem EnvOf.str (e : EnvOf fa fn K mg) (i : Nat) {x z : PySem.Str} (h : fa[i]? = some (fun K => (He.Fa.str x z).ok K) := by rfl) : ∃ t, mg x = some (.str z t) := e.ns.elim fun _ q => He.str_ok q.1 q.2 (e.says.fact i h)
theorem EnvOf.cls (e : EnvOf fa fn K mg) (i : Nat) {x : PySem.Str} (h : fa[i]? = some (fun K => (He.Fa.cls x).ok K) := by rfl) : Cls K (ga K x) := He.cls_ok (e.says.fact i h)
theorem EnvOf.noat (e : EnvOf fa fn K mg) (i : Nat) {x f : PySem.Str} (h : fa[i]? = some (fun K => (He.Fa.noat x f).ok K) := by rfl) : NoAttr K (ga K x) f := He.noat_ok (e.says.fact i h)
theorem EnvOf.meth (e : EnvOf fa fn K mg) (i : Nat) {x f : PySem.Str} (h : fa[i]? = some (fun K => (He.Fa.meth x f).ok K) := by rfl) : Meth K (ga K x) f (ma K (ga K x) f) := He.meth_ok (e.says.fact i h)
theorem EnvOf.mkr (e : EnvOf fa fn K mg) (i : Nat) {x : PySem.Str} (h : fa[i]? = some (fun K => (He.Fa.mkr x).ok K) := by rfl) : Mk K (ga K x) (ma K (ga K x) "__init__") := He.mkr_ok (e.says.fact i h)
theorem EnvOf.fun_ (e : EnvOf fa fn K mg) (i : Nat) {d : He5.DefA} (h : fn[i]? = some d := by rfl) : FunD K d.name d.qual d.params d.body d.scope (d.dvs K) (d.kws K) (d.at_ K) (fdA K (d.at_ K)) := (e.says.def_ i h).elim fun _ q => fdA_eq q
end
def insB (K : PySem.W.Frag) (C : Addr) : Bool := He.eqO (PySem.W.findIn K (.ref C) "__class__") (some (some (.builtin "object.__class__"))) && (He.eqO (PySem.W.specialIn K (.builtin "object.__class__") "__get__") (some (some (.builtin "getset_descriptor.__get__"))) &&
  (decide (PySem.W.takesIn K (.builtin "object.__class__") = some true) && decide (PySem.W.mroIn K C (.type "object") = some true)))
theorem insB_ok {K : PySem.W.Frag} {C : Addr} (h : insB K C = true) (c : Cls K C) {H : Hp} {a dx : Addr} {fs : List (PySem.Str × V)} (e : H a = some (.ins C dx fs)) : TyX K H (.ref a) (.ref C) := by
  obtain ⟨h1, h⟩ := He.ba h
  obtain ⟨h2, h⟩ := He.ba h
  obtain ⟨h3, h4⟩ := He.ba h
  exact .base (.ins e c (He.eqO_ok h1) (He.eqO_ok h2) (of_decide_eq_true h3) (of_decide_eq_true h4))
theorem isi_own {K : PySem.W.Frag} {C : Addr} {H : Hp} {a : Addr} {Q : VK} (h : TyX K H (.ref a) (.ref C)) (q : Q (.bl true) H) : rIsiU K [.ref a, .ref C] H Q :=
  Or.inl ⟨.ref a, .ref C, .ref C, .ref C, true, rfl, .own C, h, by unfold PySem.W.kitOne; rw [if_pos (by simp)], q⟩
def propB (K : PySem.W.Frag) (C : Addr) (f : PySem.Str) : Bool := He.eqO (PySem.W.findIn K (.ref C) f) (some (some (.ref (ma K C f)))) && (He.eqO (PySem.W.specialIn K (.ref (ma K C f)) "__get__") (some (some (.builtin "property.__get__"))) &&
  (decide (PySem.W.takesIn K (.ref (ma K C f)) = some true) && (match PySem.W.recIn K (ma K C f) "property" with
    | some (.ref _ :: _) => true
    | _ => false)))
theorem propB_ok {K : PySem.W.Frag} {C : Addr} {f : PySem.Str} (h : propB K C f = true) : PropOf K C f (ma K C f) (wf K C "property" f) := by
  obtain ⟨h1, h⟩ := He.ba h
  obtain ⟨h2, h⟩ := He.ba h
  obtain ⟨h3, h4⟩ := He.ba h
  refine ⟨He.eqO_ok h1, He.eqO_ok h2, of_decide_eq_true h3, ?_⟩
  unfold He5.wf
  cases e : PySem.W.recIn K (ma K C f) "property" with
  | none => rw [e] at h4; cases h4
  | some l =>
    rw [e] at h4
    cases l with
    | nil => cases h4
    | cons v r =>
      cases v with
      | ref a => exact ⟨r, rfl⟩
      | _ => cases h4

section
variable {X : Cx}
/-! ### names of the module -/
theorem u_gint {x : PySem.Str} {n : Int} {pos : Pos} (hg : Gl X x) (hm : ∃ t, X.mg x = some (.int n t)) (hd : (x == ("__debug__" : PySem.Str)) = false := by decide) : PE X (.Name x pos) (tC (.int n)) := hm.elim fun t e => pe_glob hg e ⟨t, rfl⟩ hd
theorem u_ty {x : PySem.Str} {n : String} {pos : Pos} (hg : Gl X x) (hm : X.mg x = none) (hv : bootBuiltins x = some (.type n)) (hn : x ≠ "__name__" := by decide) (hd : (x == ("__debug__" : PySem.Str)) = false := by decide) : PE X (.Name x pos) (tC (.ty n)) := pe_bltn hg hm hv rfl hn hd
/-! ### calls of defs, the defaults known to be somewhere -/
def Bnd (K : PySem.W.Frag) (f : Addr) (ps : List PySem.Str) (dvs : List V) : Prop := ∃ ds, Vals dvs ds ∧ Binds K (fdA K f) ps ds
variable {CX : CXT} {k : Nat} {f : Addr} {ps : List PySem.Str} {sp : Sp} {dvs : List V} {E : XK} {x : PySem.Str} {p pos : Pos} {e : Expr} {es : List Expr} {t : TA}
theorem u_call (F : FnOk X.prog X.w X.K X.mg X.base CX k f (fdA X.K f) ps sp) (hr : Room k X.A) (hg : Gl X x) (hm : X.mg x = some (.ref f)) (hk : PySem.W.keepIn X.K (.ref f) = true) (hb : Bnd X.K f ps dvs) (hx : Passes CX X E)
    (ha : PA X (e :: es) t) (hdb : (x == ("__debug__" : PySem.Str)) = false := by decide) (he : starEach (e :: es) X.env = (false, eval e X.env) :: starEach es X.env := by rfl) (hpl : (backTo pos (starEach es X.env)).any (·.1) = false := by rfl) :
    PE X (.Call (.Name x p) (e :: es) [] pos) (tCall sp dvs E t) := hb.elim fun ds q => pe_call F hr hg hm hk q.2 q.1 hx ha hdb he hpl
theorem u_callQ (F : FnG X.prog X.w X.K X.mg X.base CX k f (fdA X.K f) ps sp) (hr : Room k X.A) (quiet : X.A.guards = some []) (hg : Gl X x) (hm : X.mg x = some (.ref f)) (hk : PySem.W.keepIn X.K (.ref f) = true) (hb : Bnd X.K f ps dvs) (hx : Passes CX X E)
    (ha : PA X (e :: es) t) (hdb : (x == ("__debug__" : PySem.Str)) = false := by decide) (he : starEach (e :: es) X.env = (false, eval e X.env) :: starEach es X.env := by rfl) (hpl : (backTo pos (starEach es X.env)).any (·.1) = false := by rfl) :
    PE X (.Call (.Name x p) (e :: es) [] pos) (tCall sp dvs E t) := hb.elim fun ds q => u_callG F hr quiet hg hm hk q.2 q.1 hx ha hdb he hpl
/-! ### targets that are tuples -/
def seqG : List TG → List V → L2.St → Hp → (L2.St → Hp → Prop) → Prop
  | [], [], σ, H, Q => Q σ H
  | g :: gs, x :: xs, σ, H, Q => g x σ H fun σ' H' => seqG gs xs σ' H' Q
  | _, _, _, _, _ => False
inductive PGL (X : Cx) : List Expr → List TG → Prop
  | nil : PGL X [] []
  | cons {e : Expr} {es : List Expr} {g : TG} {gs : List TG} : PG X e g → PGL X es gs → ((assignEach (e :: es) X.env).map (·.2) = assign e X.env :: (assignEach es X.env).map (·.2)) → PGL X (e :: es) (g :: gs)
theorem PGL.pgs {es : List Expr} {gs : List TG} (h : PGL X es gs) : PGs X es (fun vs σ H Q => vs.length = gs.length ∧ ∃ R : L2.St → Hp → Prop, seqG gs vs σ H R ∧ ∀ σ' H', R σ' H' → Q σ' H') := by
  induction h with
  | nil =>
    constructor
    rintro pins s σ H vs us Q I r ⟨l, R, q, i⟩
    cases vs with
    | nil => exact pgs_nil.run pins s σ H [] us Q I r ⟨rfl, i _ _ q⟩
    | cons v vs => cases l
  | cons h1 h2 hs ih =>
    constructor
    rintro pins s σ H vs us Q I r ⟨l, R, q, i⟩
    cases vs with
    | nil => cases l
    | cons v vs => exact (pgs_cons (pg_cl h1) ih hs).run pins s σ H (v :: vs) us Q I r ⟨v, vs, rfl, _, q, fun σ' H' q' => ⟨Nat.succ.inj l, R, q', i⟩⟩
def gTupL (K : PySem.W.Frag) (gs : List TG) : TG := fun v σ H Q => match v with
  | .ref a => ∃ xs, SqT K H a xs ∧ xs.length = gs.length ∧ seqG gs xs σ H Q
  | _ => False
theorem u_pgtup {es : List Expr} {kk : Nat} {gs : List TG} {K : PySem.W.Frag} (hK : X.K = K) (hc : X.calm = true) (h : PGL X es gs) (hn : (assignEach es X.env).length = gs.length := by rfl) (hst : (assignEach es X.env).findIdx? (·.1) = none := by rfl) :
    PG X (.Tuple es kk pos) (gTupL K gs) := by
  subst hK
  refine pg_wk (pg_tup (n := gs.length) hc h.pgs hn hst) fun v σ H Q q => ?_
  cases v with
  | ref a =>
    obtain ⟨xs, h1, h2, h3⟩ := q
    exact ⟨a, xs, rfl, h1, h2, h2, _, h3, fun _ _ z => z⟩
  | _ => exact q.elim
/-! ### others -/
def rNegU : V → Hp → VK → Prop := fun x H Q => match x with
  | .int i => Q (.int (-i)) H
  | _ => False
theorem o_neg : UnR X (unaryOp .USub) rNegU := by
  intro pins s σ H x v Q I rx h
  refine un_neg pins s σ H x v Q I rx ?_
  cases x with
  | int i => exact ⟨i, rfl, h⟩
  | _ => exact h.elim
def uPart (te : TE) : TO := fun σ H Q => te σ H fun x H1 => match x with
  | .int i => Q (some i) H1
  | _ => False
theorem u_part {te : TE} (h : PE X e te) : PO X (some e) (uPart te) := by
  constructor
  intro pins s σ H Q I hw
  refine (po_some (pe_cl h)).run pins s σ H Q I ⟨_, hw, fun v H1 q => ?_⟩
  cases v with
  | int i => exact ⟨i, rfl, q⟩
  | _ => exact q.elim
def uPar (i j : Nat) (ta : TA) : TS := fun D σ H => ta σ H fun vs H1 => match vs with
  | [v, w] => D.nx ((σ.set i (some v)).set j (some w)) H1
  | _ => False
theorem u_par {i j : Nat} {x y : PySem.Str} {a b : Expr} {ta : TA} {px py pt : Pos} {kt k2 pt2} (hc : X.calm = true) (hN : X.N.Nodup) (hi : X.N[i]? = some x) (hj : X.N[j]? = some y) (hij : i ≠ j)
    (hx : X.env.scope.names.lookup x = some .local) (hy : X.env.scope.names.lookup y = some .local) (ha : PA X [a, b] ta)
    (hw : swappedStores [.Tuple [.Name x px, .Name y py] kt pt] (.Tuple [a, b] k2 pt2) X.env = pure (some [x, y]))
    (hs : swapsWithSole [.Tuple [.Name x px, .Name y py] kt pt] (.Tuple [a, b] k2 pt2) pos.line X.env = pure false := by rfl) :
    PS X (.Assign [.Tuple [.Name x px, .Name y py] kt pt] (.Tuple [a, b] k2 pt2) pos) (uPar i j ta) := by
  refine ps_wk (ps_par hc hN hi hj hij hx hy (pa_cl ha) hw hs) fun D σ H q => ⟨_, q, fun vs H1 q1 => ?_⟩
  split at q1
  · exact ⟨_, _, rfl, q1⟩
  · exact q1.elim
/-! ### the same with the written part by a name of its own -/
section
variable {K : PySem.W.Frag} (hK : X.K = K) {a b o e e2 : Expr} {es : List Expr} {ta tb te to tl : TE} {t : TA} {pos p tpos apos cpos p2 pos2 : Pos} {tg : Expr}
include hK
theorem ix_k : IxR X (rIxU K) := by subst hK; exact ix_u
theorem sl_k : SlR X (rSlU K) := by subst hK; exact sl_u
theorem k_len : CallR X (.builtin "len") (rLenU K) := by subst hK; exact c_len
theorem k_tuple : CallR X (.type "tuple") (rTupleU K) := by subst hK; exact c_tuple
theorem k_list : CallR X (.type "list") (rListU K) := by subst hK; exact c_list
theorem k_all (hc : X.calm = true) : CallR X (.builtin "all") (rAllU K) := by subst hK; exact c_all hc
theorem k_isi : CallR X (.builtin "isinstance") (rIsiU K) := by subst hK; exact c_isi
theorem k_add : OpR X (binaryOp .Add) (rAddU K) := by subst hK; exact o_add
theorem k_eq (hu : X.A.units + 64 < cLine) : OpR X (compareOp .Eq) (rEqU K false) := by subst hK; exact o_eq hu
theorem k_ne (hu : X.A.units + 64 < cLine) : OpR X (compareOp .NotEq) (rEqU K true) := by subst hK; exact o_ne hu
theorem k_tru (h : PE X e ta) (he : ∀ whole, isTrue e X.env whole = (do let v ← whole; standAt e.pos; holding [v] (truthy v)) := by intro _; rfl) : PT X e (uTru K ta) := by subst hK; exact u_tru h he
theorem k_seq (hl : PE X e tl) : PIU X tg e (wSeq K tl) := by subst hK; exact piu_seq hl
theorem k_append (ho : PE X o to) (ha : PA X (e :: es) t) (hb : attributeBase o "append" X.env (eval o X.env) = eval o X.env := by rfl)
    (hfew : methodCallForm (e :: es).length (backTo cpos (starEach (e :: es) X.env)) (backToKw cpos (keywordEach [] X.env)) = true := by rfl) (hl : (apos.endLine == cpos.line) = true := by rfl)
    (hs : starEach (e :: es) X.env = (false, eval e X.env) :: starEach es X.env := by rfl) (hpl : (backTo cpos (starEach es X.env)).any (·.1) = false := by rfl) :
    PE X (.Call (.Attribute o "append" apos) (e :: es) [] cpos) (uMut K to t mApp) := by subst hK; exact u_append ho ha hb hfew hl hs hpl
theorem k_lz (hc : X.calm = true) (hg : Gl X "list") (hm : X.mg "list" = none) (hg2 : Gl X "zip") (hm2 : X.mg "zip" = none) (ha : PA X (e :: es) t)
    (hs : starEach [.Call (.Name "zip" p2) (e :: es) [] pos2] X.env = (false, eval (.Call (.Name "zip" p2) (e :: es) [] pos2) X.env) :: starEach [] X.env := by rfl)
    (hs2 : starEach (e :: es) X.env = (false, eval e X.env) :: starEach es X.env := by rfl) (hpl : (backTo pos2 (starEach es X.env)).any (·.1) = false := by rfl) :
    PE X (.Call (.Name "list" p) [.Call (.Name "zip" p2) (e :: es) [] pos2] [] pos) (uLZ K t) := by subst hK; exact u_lz hc hg hm hg2 hm2 ha hs hs2 hpl
end
end
end Ech

namespace Ech
open PySem PySem.Spec PyProof.Rows L2
open He (ga ma)
/-! ### tests over the written part that the head makes -/
def conB (K : PySem.W.Frag) (C : Addr) (f : PySem.Str) (n : Int) : Bool := match PySem.W.findIn K (.ref C) f with
  | some (some (.int i t)) => decide (i = n) && (He.eqO (PySem.W.specialIn K (.int i t) "__get__") (some none) && !PySem.W.copiedNames.contains f)
  | _ => false
def crdB (K : PySem.W.Frag) (C : Addr) : Bool := PySem.W.readsIn K C (.type "type") && He.eqO (PySem.W.specialIn K (.ref C) "__getattribute__") (some (some (.builtin "type.__getattribute__")))
theorem crdB_ok {K : PySem.W.Frag} {C : Addr} (h : crdB K C = true) : ClX.CRead K C (.type "type") := by
  obtain ⟨h1, h2⟩ := He.ba h
  exact ⟨h1, He.eqO_ok h2⟩
/-! ### the facts over a written list of places -/
open PySem.W He5 in
def obsCG (as : List Addr) (fa : List Ft) (fn : List He5.DefA) (g : Addr → Option Obj) : He.AlD := obsB fa fn (He.frG g as)
end Ech

set_option maxHeartbeats 4000000
/-! what the head tests: small, so that its own run can stand far ahead -/
namespace Ech
open PySem PySem.Spec PyProof.Rows L2
open He (ga ma)
open PySem.W (ksFn ksEnv)
/-! ### what the head tells of such a method -/
def exoB (K : PySem.W.Frag) (C : Addr) : Bool := match K.lookup C with
  | some ⟨.type "type", _, .cls cd, sl⟩ => (match cd.mro, sl.toList with
    | .ref C' :: bm, [_, _, _, _, some (.builtin n), _] => C' == C && n == "ValueError.__new__" && !cd.hasDel && cd.hasDict && PySem.HandSPX.refsVE bm
    | _, _ => false)
  | _ => false
def oexB (K : PySem.W.Frag) (C : Addr) : Bool := exoB K C && (He.eqO (PySem.W.findIn K (.ref C) "__setattr__") (some (some (.builtin "object.__setattr__"))) && (decide (PySem.W.subIn K (.ref C) (.type "BaseException") = some true) && (decide (PySem.W.typeIn K (.ref C) = some (.type "type")) && PySem.W.keepIn K (.ref C))))
def exfB (K : PySem.W.Frag) (C : Addr) : Bool := He.eqO (PySem.W.findIn K (.ref C) "__getattribute__") (some (some (.builtin "BaseException.__getattribute__"))) && (decide (PySem.W.findIn K (.ref C) "__getattr__" = some none) && (decide (PySem.W.subIn K (.ref C) (.type "BaseException") = some true) && (PySem.W.hasDictIn K C &&
  (He.eqO (PySem.W.findIn K (.ref C) "__class__") (some (some (.builtin "object.__class__"))) && (He.eqO (PySem.W.specialIn K (.builtin "object.__class__") "__get__") (some (some (.builtin "getset_descriptor.__get__"))) && (decide (PySem.W.takesIn K (.builtin "object.__class__") = some true) && decide (PySem.W.mroIn K C (.type "object") = some true)))))))
def initB (K : PySem.W.Frag) : Bool := match PySem.W.findCls K (.type "ValueError") (.type "type") "__init__" with
  | some (.val (.builtin n)) => n == "ValueError.__init__"
  | _ => false
def errB (K : PySem.W.Frag) (C : Addr) (f : PySem.Str) : Bool := oexB K C && (exfB K C && (He.eqO (PySem.W.findIn K (.ref C) "__init__") (some (some (.ref (ma K C "__init__")))) && (decide (PySem.W.typeIn K (.ref (ma K C "__init__")) = some (.type "function")) && (decide (PySem.W.findIn K (.ref C) f = some none) &&
  (decide (PySem.W.exmOne K (.ref C) (.ref C) = some true) && (decide (PySem.W.kitOne K (.ref C) (.type "ValueError") = some true) && initB K))))))
/-! ### the head's run in parts: each sees a part of the facts -/
end Ech

set_option maxHeartbeats 1000000
namespace Ech
open PySem PySem.Spec PyProof.Rows L2

theorem szr {n : Nat} (h : Nat.ble n sizeLine = true) : n ≤ sizeLine := Nat.le_of_ble_eq_true h

/-! ### heaps that grow: G what never changes, H all -/
structure Gr (G H G' H' : Hp) : Prop where
  hh : Ex H H'
  gg : Ex G G'
  gh : Ex G' H'
  fix : ∀ a, H a ≠ none → G' a = G a
theorem Gr.refl {G H : Hp} (h : Ex G H) : Gr G H G H := ⟨fun _ _ e => e, fun _ _ e => e, h, fun _ _ => rfl⟩
theorem Gr.trans {G H G1 H1 G2 H2 : Hp} (a : Gr G H G1 H1) (b : Gr G1 H1 G2 H2) : Gr G H G2 H2 :=
  ⟨fun x o e => b.hh x o (a.hh x o e), fun x o e => b.gg x o (a.gg x o e), b.gh, fun x hx => (b.fix x (by
    cases e : H x with
    | none => exact absurd e hx
    | some o => rw [a.hh x o e]; intro z; cases z)).trans (a.fix x hx)⟩
theorem New.at {H H1 : Hp} {p : Addr} {o : HO} (n : New H p o H1) : H1 p = some o := by rw [n.eq]; exact upd_same
theorem New.ex {H H1 : Hp} {p : Addr} {o : HO} (n : New H p o H1) : Ex H H1 := fun a u e => by rw [n.eq, upd_ne (ne_of_none e n.fresh)]; exact e
theorem New.gr {G H H1 : Hp} {p : Addr} {o : HO} (n : New H p o H1) (h : Ex G H) : Gr G H (upd G p o) H1 := by
  have np : G p = none := by
    cases e : G p with
    | none => rfl
    | some u => have := h p u e; rw [n.fresh] at this; cases this
  refine ⟨n.ex, fun a u e => by rw [upd_ne (ne_of_none e np)]; exact e, fun a u e => ?_, fun a ha => upd_ne (fun z => ha (z ▸ n.fresh))⟩
  by_cases hp : a = p
  · subst hp; rw [upd_same] at e; rw [n.at]; exact e
  · rw [upd_ne hp] at e; exact n.ex a u (h a u e)
theorem New.gr0 {G H H1 : Hp} {p : Addr} {o : HO} (n : New H p o H1) (h : Ex G H) : Gr G H G H1 := ⟨n.ex, fun _ _ e => e, fun a u e => n.ex a u (h a u e), fun _ _ => rfl⟩
theorem New.gnone {G H H1 : Hp} {p : Addr} {o : HO} (n : New H p o H1) (h : Ex G H) : G p = none := by
  cases e : G p with
  | none => rfl
  | some u => have := h p u e; rw [n.fresh] at this; cases this

/-! ### data in a heap, kept while it grows -/
theorem Sq.up {b : Bool} {K : PySem.W.Frag} {H H' : Hp} {a : Addr} {xs : List V} (h : Ex H H') (q : Sq b K H a xs) : Sq b K H' a xs := by
  cases b with
  | true => exact Evl.ex_l h q
  | false => exact Evl.ex_t h q
mutual
theorem dp_up {K : PySem.W.Frag} {H H' : Hp} (h : Ex H H') : ∀ {v : V} {d : PyData}, Dp K H v d → Dp K H' v d
  | _, _, .non => .non
  | _, _, .bl b => .bl b
  | _, _, .int i => .int i
  | _, _, .str x => .str x
  | _, _, .lst a b => .lst (Evl.ex_l h a) (dpAll_up h b)
  | _, _, .tup a b => .tup (Evl.ex_t h a) (dpAll_up h b)
theorem dpAll_up {K : PySem.W.Frag} {H H' : Hp} (h : Ex H H') : ∀ {vs : List V} {ds : List PyData}, DpAll K H vs ds → DpAll K H' vs ds
  | _, _, .nil => .nil
  | _, _, .cons a b => .cons (dp_up h a) (dpAll_up h b)
end

/-! ### isinstance -/
def IsiOk (K : PySem.W.Frag) (H : Hp) (v : V) (n : String) (b : Bool) : Prop := (∃ t, TyX K H v t ∧ PySem.W.kitOne K t (.type n) = some b) ∨ ∃ a kvs, v = .ref a ∧ H a = some (BdD a kvs) ∧ PySem.W.kitOne K (.type "dict") (.type n) = some b
theorem isi_go {K : PySem.W.Frag} {H : Hp} {v : V} {n : String} {b : Bool} {Q : VK} (h : IsiOk K H v n b) (q : Q (.bl b) H) : rIsiU K [v, .ty n] H Q := by
  rcases h with ⟨t, h1, h2⟩ | ⟨a, kvs, rfl, h1, h2⟩
  · exact Or.inl ⟨v, .ty n, t, .type n, b, rfl, .ty n, h1, h2, q⟩
  · exact Or.inr (Or.inr (Or.inl ⟨a, kvs, .ty n, .type n, b, rfl, .ty n, h1, h2, q⟩))
theorem isi_int_int {K : PySem.W.Frag} {H : Hp} {i : Int} : IsiOk K H (.int i) "int" true := .inl ⟨_, .base (.int i), kit_ty (by decide +kernel)⟩
theorem isi_int_bool {K : PySem.W.Frag} {H : Hp} {i : Int} : IsiOk K H (.int i) "bool" false := .inl ⟨_, .base (.int i), kit_ty (by decide +kernel)⟩
theorem isi_bl_int {K : PySem.W.Frag} {H : Hp} {b : Bool} : IsiOk K H (.bl b) "int" true := .inl ⟨_, .base (.bl b), kit_ty (by decide +kernel)⟩
theorem isi_bl_bool {K : PySem.W.Frag} {H : Hp} {b : Bool} : IsiOk K H (.bl b) "bool" true := .inl ⟨_, .base (.bl b), kit_ty (by decide +kernel)⟩
theorem isi_non_int {K : PySem.W.Frag} {H : Hp} : IsiOk K H .non "int" false := .inl ⟨_, .base .non, kit_ty (by decide +kernel)⟩
theorem isi_non_bool {K : PySem.W.Frag} {H : Hp} : IsiOk K H .non "bool" false := .inl ⟨_, .base .non, kit_ty (by decide +kernel)⟩

theorem isi_tupX {K : PySem.W.Frag} {H : Hp} {a : Addr} {xs : List V} {n : String} {b : Bool} (h : SqT K H a xs) (k : kitB "tuple" n = some b) : ∃ t, TyX K H (.ref a) t ∧ PySem.W.kitOne K t (.type n) = some b := by
  refine ⟨.type "tuple", ?_, kit_ty k⟩
  rcases h with (h | ⟨o, h⟩) | ⟨o, its, m, h, hc, _⟩
  · exact .base (.tup h)
  · exact .fTuple h
  · exact .kTuple h hc
theorem isi_lstX {K : PySem.W.Frag} {H : Hp} {a : Addr} {xs : List V} {n : String} {b : Bool} (h : SqL K H a xs) (k : kitB "list" n = some b) : ∃ t, TyX K H (.ref a) t ∧ PySem.W.kitOne K t (.type n) = some b := by
  refine ⟨.type "list", ?_, kit_ty k⟩
  rcases h with (h | ⟨o, h⟩) | ⟨o, its, m, h, hc, _⟩
  · exact .base (.lst h)
  · exact .base (.frz h)
  · exact .kList h hc
theorem isi_tup {K : PySem.W.Frag} {H : Hp} {a : Addr} {xs : List V} {n : String} {b : Bool} (h : SqT K H a xs) (k : kitB "tuple" n = some b) : IsiOk K H (.ref a) n b := .inl (isi_tupX h k)
theorem isi_lst {K : PySem.W.Frag} {H : Hp} {a : Addr} {xs : List V} {n : String} {b : Bool} (h : SqL K H a xs) (k : kitB "list" n = some b) : IsiOk K H (.ref a) n b := .inl (isi_lstX h k)

/-! ### growth beside one object that changes -/
structure GrM (p : Addr) (G H G' H' : Hp) : Prop where
  hh : ∀ a o, a ≠ p → H a = some o → H' a = some o
  gg : Ex G G'
  gh : Ex G' H'
  fix : ∀ a, H a ≠ none → G' a = G a
  there : H p ≠ none → H' p ≠ none
theorem Gr.m {G H G' H' : Hp} (g : Gr G H G' H') (p : Addr) : GrM p G H G' H' := ⟨fun a o _ e => g.hh a o e, g.gg, g.gh, g.fix, fun h => by
  cases e : H p with
  | none => exact absurd e h
  | some o => rw [g.hh p o e]; intro z; cases z⟩
theorem GrM.trans {p : Addr} {G H G1 H1 G2 H2 : Hp} (a : GrM p G H G1 H1) (b : GrM p G1 H1 G2 H2) : GrM p G H G2 H2 := by
  have keep : ∀ x, H x ≠ none → H1 x ≠ none := fun x hx => by
    by_cases hp : x = p
    · subst hp; exact a.there hx
    · cases e : H x with
      | none => exact absurd e hx
      | some o => rw [a.hh x o hp e]; intro z; cases z
  exact ⟨fun x o hp e => b.hh x o hp (a.hh x o hp e), fun x o e => b.gg x o (a.gg x o e), b.gh, fun x hx => (b.fix x (keep x hx)).trans (a.fix x hx), fun h => b.there (a.there h)⟩
theorem GrM.refl {p : Addr} {G H : Hp} (h : Ex G H) : GrM p G H G H := (Gr.refl h).m p

/-! ### the law's pen -/
structure Pen (K : PySem.W.Frag) (ku kr : PySem.Str) (G H : Hp) (p : Addr) (b : Nat) : Prop where
  ex : ∃ (kvs : List (Key × V)) (c : Addr) (ns : List Int) (u r : Int), H p = some (.dK kvs) ∧ kvs.length ≤ 3 ∧ valV kvs (.inr "cells") = some (.ref c) ∧ SqL K G c (ns.map V.int) ∧ ns.length ≤ 63 ∧
    valV kvs (.inr ku) = some (.int u) ∧ 0 ≤ u ∧ u ≤ b ∧ valV kvs (.inr kr) = some (.int r) ∧ 0 ≤ r
  un : G p = none
theorem Pen.up {K : PySem.W.Frag} {ku kr : PySem.Str} {G H : Hp} {p : Addr} {b b' : Nat} (h : Pen K ku kr G H p b) (le : b ≤ b') : Pen K ku kr G H p b' := by
  obtain ⟨⟨kvs, c, ns, u, r, h1, h2, h3, h4, h5, h6, h7, h8, h9, h10⟩, un⟩ := h
  exact ⟨⟨kvs, c, ns, u, r, h1, h2, h3, h4, h5, h6, h7, by omega, h9, h10⟩, un⟩
theorem Pen.gr {K : PySem.W.Frag} {ku kr : PySem.Str} {G H G' H' : Hp} {p : Addr} {b : Nat} (h : Pen K ku kr G H p b) (g : Gr G H G' H') : Pen K ku kr G' H' p b := by
  obtain ⟨⟨kvs, c, ns, u, r, h1, h2, h3, h4, h5, h6, h7, h8, h9, h10⟩, un⟩ := h
  exact ⟨⟨kvs, c, ns, u, r, g.hh _ _ h1, h2, h3, Evl.ex_l g.gg h4, h5, h6, h7, h8, h9, h10⟩, by rw [g.fix p (by rw [h1]; intro z; cases z)]; exact un⟩
theorem Pen.mut {K : PySem.W.Frag} {ku kr : PySem.Str} {G H H' : Hp} {p l : Addr} {o : HO} {b : Nat} (h : Pen K ku kr G H p b) (g : Chg H l o H') (hl : p ≠ l) : Pen K ku kr G H' p b := by
  obtain ⟨⟨kvs, c, ns, u, r, h1, h⟩, un⟩ := h
  exact ⟨⟨kvs, c, ns, u, r, by rw [g.eq, upd_ne hl]; exact h1, h⟩, un⟩
theorem length_putK_some {kvs : List (Key × V)} {k : Key} {x v : V} (h : valV kvs k = some x) : (putK kvs k v).length = kvs.length := by
  unfold putK
  rw [valV_any, h]
  simp
theorem Chg.at {H H1 : Hp} {p : Addr} {o : HO} (n : Chg H p o H1) : H1 p = some o := by rw [n.eq]; exact upd_same
theorem Chg.off {H H1 : Hp} {p a : Addr} {o : HO} (n : Chg H p o H1) (h : a ≠ p) : H1 a = H a := by rw [n.eq]; exact upd_ne h
theorem Chg.grm {G H H1 : Hp} {p : Addr} {o : HO} (n : Chg H p o H1) (h : Ex G H) (hp : G p = none) : GrM p G H G H1 :=
  ⟨fun a u ha e => by rw [n.off ha]; exact e, fun _ _ e => e, fun a u e => by rw [n.off (fun z => by rw [z, hp] at e; cases e)]; exact h a u e, fun _ _ => rfl, fun _ => by rw [n.at]; intro z; cases z⟩
theorem dget_of {H : Hp} {a : Addr} {kvs : List (Key × V)} {x : PySem.Str} {v : V} (e : H a = some (.dK kvs)) (h : valV kvs (.inr x) = some v) : DGet H a (.str x) (some v) := by
  have q := DGet.k (k := .inr x) e
  rw [h] at q
  exact q
theorem dput_of {H : Hp} {a : Addr} {kvs : List (Key × V)} {x : PySem.Str} {v : V} (e : H a = some (.dK kvs)) (h : kvs.length ≤ 3) : DPut H a (.str x) v (upd H a (.dK (putK kvs (.inr x) v))) := DPut.k (k := .inr x) e (Nat.lt_of_le_of_lt h (by decide))
end Ech

namespace Ech
open PySem PySem.Spec PyProof.Rows L2

theorem Gr.loc {G0 H0 G H : Hp} {l : Addr} {o : HO} (g : Gr G0 H0 G H) (h0 : H0 l = none) (hl : G l = none) : Gr G0 H0 G (upd H l o) :=
  ⟨fun a u e => by rw [upd_ne (fun z => by rw [z, h0] at e; cases e)]; exact g.hh a u e, g.gg, fun a u e => by rw [upd_ne (fun z => by rw [z, hl] at e; cases e)]; exact g.gh a u e, g.fix⟩
theorem Gr.frz {G0 H0 G H : Hp} {l : Addr} {o : HO} (g : Gr G0 H0 G H) (h0 : H0 l = none) (hl : G l = none) (hh : H l = some o) : Gr G0 H0 (upd G l o) H :=
  ⟨g.hh, fun a u e => by rw [upd_ne (fun z => by have := g.gg a u e; rw [z, hl] at this; cases this)]; exact g.gg a u e, fun a u e => by
    by_cases z : a = l
    · subst z; rw [upd_same] at e; rw [hh]; exact e
    · rw [upd_ne z] at e; exact g.gh a u e, fun a ha => by rw [upd_ne (fun z : a = l => ha (by rw [z]; exact h0))]; exact g.fix a ha⟩
theorem GrM.loc {p : Addr} {G0 H0 G H : Hp} {l : Addr} {o : HO} (g : GrM p G0 H0 G H) (h0 : H0 l = none) (hl : G l = none) : GrM p G0 H0 G (upd H l o) :=
  ⟨fun a u ha e => by rw [upd_ne (fun z => by rw [z, h0] at e; cases e)]; exact g.hh a u ha e, g.gg, fun a u e => by rw [upd_ne (fun z => by rw [z, hl] at e; cases e)]; exact g.gh a u e, g.fix, fun h => by
    rw [upd_ne (fun z : p = l => h (by rw [z]; exact h0))]; exact g.there h⟩
theorem GrM.frz {p : Addr} {G0 H0 G H : Hp} {l : Addr} {o : HO} (g : GrM p G0 H0 G H) (h0 : H0 l = none) (hl : G l = none) (hh : H l = some o) : GrM p G0 H0 (upd G l o) H :=
  ⟨g.hh, fun a u e => by rw [upd_ne (fun z => by have := g.gg a u e; rw [z, hl] at this; cases this)]; exact g.gg a u e, fun a u e => by
    by_cases z : a = l
    · subst z; rw [upd_same] at e; rw [hh]; exact e
    · rw [upd_ne z] at e; exact g.gh a u e, fun a ha => by rw [upd_ne (fun z : a = l => ha (by rw [z]; exact h0))]; exact g.fix a ha, g.there⟩
theorem Gr.free {G0 H0 G H : Hp} {l : Addr} (g : Gr G0 H0 G H) (h : H0 l ≠ none) (hl : G0 l = none) : G l = none := (g.fix l h).trans hl
theorem GrM.free {p : Addr} {G0 H0 G H : Hp} {l : Addr} (g : GrM p G0 H0 G H) (h : H0 l ≠ none) (hl : G0 l = none) : G l = none := (g.fix l h).trans hl
theorem some_ne {H : Hp} {l : Addr} {o : HO} (h : H l = some o) : H l ≠ none := by rw [h]; intro z; cases z
theorem Gr.new {G0 H0 G H : Hp} {l : Addr} (g : Gr G0 H0 G H) (h : H l = none) : H0 l = none := by
  cases e : H0 l with
  | none => rfl
  | some o => have := g.hh l o e; rw [h] at this; cases this
theorem GrM.new {p : Addr} {G0 H0 G H : Hp} {l : Addr} (g : GrM p G0 H0 G H) (h : H l = none) : H0 l = none := by
  cases e : H0 l with
  | none => rfl
  | some o =>
    by_cases z : l = p
    · subst z; exact absurd h (g.there (some_ne e))
    · have := g.hh l o z e; rw [h] at this; cases this
theorem ex_none {G H : Hp} {l : Addr} (h : Ex G H) (e : H l = none) : G l = none := by
  cases z : G l with
  | none => rfl
  | some o => have := h l o z; rw [e] at this; cases this
theorem Pen.loc {K : PySem.W.Frag} {ku kr : PySem.Str} {G H : Hp} {p l : Addr} {o : HO} {b : Nat} (h : Pen K ku kr G H p b) (hl : p ≠ l) : Pen K ku kr G (upd H l o) p b := h.mut ⟨rfl⟩ hl
theorem Pen.frz {K : PySem.W.Frag} {ku kr : PySem.Str} {G H : Hp} {p l : Addr} {o : HO} {b : Nat} (h : Pen K ku kr G H p b) (hl : p ≠ l) (hg : G l = none) : Pen K ku kr (upd G l o) H p b := by
  obtain ⟨⟨kvs, c, ns, u, r, h1, h2, h3, h4, h⟩, un⟩ := h
  exact ⟨⟨kvs, c, ns, u, r, h1, h2, h3, Evl.ex_l (Evl.Ex.new hg) h4, h⟩, by rw [upd_ne hl]; exact un⟩
theorem Pen.there {K : PySem.W.Frag} {ku kr : PySem.Str} {G H : Hp} {p : Addr} {b : Nat} (h : Pen K ku kr G H p b) : H p ≠ none := by
  obtain ⟨⟨kvs, c, ns, u, r, h1, _⟩, un⟩ := h
  exact some_ne h1
theorem Pen.off {K : PySem.W.Frag} {ku kr : PySem.Str} {G H : Hp} {p l : Addr} {b : Nat} (h : Pen K ku kr G H p b) (hl : H l = none) : p ≠ l := fun z => h.there (by rw [z]; exact hl)

theorem cutV_from {xs : List V} {d : Nat} (h : d ≤ xs.length) : cutV xs (some (d : Int)) none = xs.drop d := by
  have h1 : HT.sIx xs.length 0 (some (d : Int)) = d := by rw [HT.sIx_nat]; omega
  have h2 : HT.sIx xs.length xs.length none = xs.length := HT.sIx_none _ _
  unfold cutV
  rw [h1, h2, List.take_of_length_le]
  rw [List.length_drop]
  exact Nat.le_refl _
theorem paired_imp2 {α β : Type} {R S : α → β → Prop} : ∀ {as : List α} {bs : List β}, Paired R as bs → (∀ a b, a ∈ as → R a b → S a b) → Paired S as bs
  | _, _, .nil, _ => .nil
  | _, _, .cons h t, i => .cons (i _ _ (List.mem_cons_self ..) h) (paired_imp2 t fun a b m => i a b (List.mem_cons_of_mem _ m))
def frzAll (G H H2 : Hp) : Hp := fun a => match H a with
  | none => H2 a
  | some _ => G a
theorem frz_new {G H H2 : Hp} {a : Addr} (h : H a = none) : frzAll G H H2 a = H2 a := by unfold frzAll; rw [h]
theorem Gr_all {G H H2 : Hp} (hx : Ex G H) (h2 : Ex H H2) : Gr G H (frzAll G H H2) H2 := by
  refine ⟨h2, fun a o e => ?_, fun a o e => ?_, fun a ha => ?_⟩
  · unfold frzAll; rw [hx a o e]; exact e
  · unfold frzAll at e
    cases z : H a with
    | none => rw [z] at e; exact e
    | some u => rw [z] at e; exact h2 a o (hx a o e)
  · unfold frzAll
    cases z : H a with
    | none => exact absurd z ha
    | some u => rfl
/-! ### comprehensions that leave what was -/
section
variable {n : Nat} {GG : Hp → Prop} {Y : Nat → Hp → V → Hp → Prop} {g : TG} {tt : TT} {te : TE} {vs : List Nat} {σ : L2.St} {H1 G0 : Hp} {Q : VK}
theorem lc_pure (hx : Ex G0 H1) (E : Nat → Hp → List V → Prop) (hn : n ≤ sizeLine) (hE0 : E 0 G0 []) (hlen : ∀ i G acc, E i G acc → acc.length ≤ i) (hG : ∀ G H, Gr G0 H1 G H → GG H)
    (step : ∀ i x G H H' acc, i < n → Gr G0 H1 G H → E i G acc → Y i H x H' → ∀ (R : V → Hp → Prop) (R0 : Hp → Prop), (∀ y G5 H5, Gr G H G5 H5 → E (i + 1) G5 (acc ++ [y]) → R y H5) → (∀ G5 H4, Gr G H G5 H4 → E (i + 1) G5 acc → R0 H4) →
      g x (wipe σ vs) H' fun σ2 H3 => wipe σ2 vs = wipe σ vs ∧ tt σ2 H3 fun c H4 => bite c (te σ2 H4 R) (R0 H4))
    (fin : ∀ D G H acc, Gr G0 H1 G H → H1 D = none → G D = none → H D = some (.lst acc) → E n G acc → Q (.ref D) H) :
    lcGo g tt te vs σ Q n GG Y H1 := by
  intro D H2 nw
  refine ⟨fun i H => ∃ G acc, Gr G0 H1 G H ∧ G D = none ∧ H D = some (.lst acc) ∧ E i G acc, ?_, ?_, ?_, ?_⟩
  · exact ⟨G0, [], nw.gr0 hx, nw.gnone hx, nw.at, hE0⟩
  · rintro i H _ ⟨G, acc, h1, _⟩
    exact hG G H h1
  · rintro i x H H' hi ⟨G, acc, h1, h2, h3, h4⟩ y
    refine step i x G H H' acc hi h1 h4 y _ _ (fun v G5 H5 h5 h6 => ⟨acc, h5.hh _ _ h3, Nat.lt_of_le_of_lt (hlen i G acc h4) (Nat.lt_of_lt_of_le hi hn), fun H6 ch => ?_⟩) (fun G5 H4 h5 h6 => ?_)
    · have n5 : G5 D = none := h5.free (some_ne h3) h2
      rw [ch.eq]
      exact ⟨G5, acc ++ [v], (h1.trans h5).loc nw.fresh n5, n5, upd_same, h6⟩
    · exact ⟨G5, acc, h1.trans h5, h5.free (some_ne h3) h2, h5.hh _ _ h3, h6⟩
  · rintro H ⟨G, acc, h1, h2, h3, h4⟩
    exact fin D G H acc h1 nw.fresh h2 h3 h4
theorem lc_pen {K : PySem.W.Frag} {ku kr : PySem.Str} {p : Addr} {b : Nat} (c : Nat) (hp : Pen K ku kr G0 H1 p b) (hx : Ex G0 H1) (E : Nat → Hp → List V → Prop) (hn : n ≤ sizeLine) (hE0 : E 0 G0 []) (hlen : ∀ i G acc, E i G acc → acc.length ≤ i) (hG : ∀ G H, GrM p G0 H1 G H → GG H)
    (step : ∀ i x G H H' acc, i < n → GrM p G0 H1 G H → Pen K ku kr G H p (b + i * c) → E i G acc → Y i H x H' → ∀ (R : V → Hp → Prop) (R0 : Hp → Prop), (∀ y G5 H5, GrM p G H G5 H5 → Pen K ku kr G5 H5 p (b + i * c + c) → E (i + 1) G5 (acc ++ [y]) → R y H5) → (∀ G5 H4, GrM p G H G5 H4 → Pen K ku kr G5 H4 p (b + i * c + c) → E (i + 1) G5 acc → R0 H4) →
      g x (wipe σ vs) H' fun σ2 H3 => wipe σ2 vs = wipe σ vs ∧ tt σ2 H3 fun c H4 => bite c (te σ2 H4 R) (R0 H4))
    (fin : ∀ D G H acc, GrM p G0 H1 G H → Pen K ku kr G H p (b + n * c) → p ≠ D → H1 D = none → G D = none → H D = some (.lst acc) → E n G acc → Q (.ref D) H) :
    lcGo g tt te vs σ Q n GG Y H1 := by
  intro D H2 nw
  have hd : p ≠ D := hp.off nw.fresh
  have ar : ∀ i, b + i * c + c = b + (i + 1) * c := fun i => by rw [Nat.succ_mul, Nat.add_assoc]
  refine ⟨fun i H => ∃ G acc, GrM p G0 H1 G H ∧ Pen K ku kr G H p (b + i * c) ∧ G D = none ∧ H D = some (.lst acc) ∧ E i G acc, ?_, ?_, ?_, ?_⟩
  · exact ⟨G0, [], (nw.gr0 hx).m p, (hp.gr (nw.gr0 hx)).up (Nat.le_add_right _ _), nw.gnone hx, nw.at, hE0⟩
  · rintro i H _ ⟨G, acc, h1, _⟩
    exact hG G H h1
  · rintro i x H H' hi ⟨G, acc, h1, hp', h2, h3, h4⟩ y
    refine step i x G H H' acc hi h1 hp' h4 y _ _ (fun v G5 H5 h5 hp5 h6 => ⟨acc, h5.hh _ _ hd.symm h3, Nat.lt_of_le_of_lt (hlen i G acc h4) (Nat.lt_of_lt_of_le hi hn), fun H6 ch => ?_⟩) (fun G5 H4 h5 hp5 h6 => ?_)
    · have n5 : G5 D = none := h5.free (some_ne h3) h2
      rw [ch.eq]
      exact ⟨G5, acc ++ [v], (h1.trans h5).loc nw.fresh n5, (ar i ▸ hp5).loc hd, n5, upd_same, h6⟩
    · exact ⟨G5, acc, h1.trans h5, ar i ▸ hp5, h5.free (some_ne h3) h2, h5.hh _ _ hd.symm h3, h6⟩
  · rintro H ⟨G, acc, h1, hp', h2, h3, h4⟩
    exact fin D G H acc h1 hp' hd nw.fresh h2 h3 h4
end
end Ech

namespace Ech
open PySem PySem.Spec PyProof.Rows L2
open He (ga ma)

/-! ### tables as data -/
def pV : Option Int → V
  | none => .non
  | some i => .int i
def pD : Option Int → PyData
  | none => .none
  | some i => .int i
def rowD (r : List (Option Int)) : PyData := .tuple (r.map pD)
def tabD (rows : List (List (Option Int))) : PyData := .tuple (rows.map rowD)
def TabAt (K : PySem.W.Frag) (G : Hp) (a : Addr) (rows : List (List (Option Int))) : Prop := ∃ dx ent, G a = some (.ins (ga K "Table") dx [("entries", ent)]) ∧ Dp K G ent (tabD rows)
theorem look_entries (v : V) : ([("entries", v)] : List (PySem.Str × V)).lookup ("entries" : PySem.Str) = some v := by rfl
theorem TabAt.up {K : PySem.W.Frag} {G G' : Hp} {a : Addr} {rows : List (List (Option Int))} (h : TabAt K G a rows) (x : Ex G G') : TabAt K G' a rows :=
  h.elim fun dx h => h.elim fun ent h => ⟨dx, ent, x _ _ h.1, dp_up x h.2⟩
theorem dpAll_len {K : PySem.W.Frag} {H : Hp} : ∀ {vs : List V} {ds : List PyData}, DpAll K H vs ds → vs.length = ds.length
  | _, _, .nil => rfl
  | _, _, .cons _ t => congrArg Nat.succ (dpAll_len t)
theorem dpAll_get {K : PySem.W.Frag} {H : Hp} : ∀ {vs : List V} {ds : List PyData} {i : Nat} {d : PyData}, DpAll K H vs ds → ds[i]? = some d → ∃ v, vs[i]? = some v ∧ Dp K H v d
  | _, _, 0, _, .cons h _, e => ⟨_, rfl, by cases e; exact h⟩
  | _, _, i + 1, _, .cons _ t, e => dpAll_get (i := i) t e
  | _, _, 0, _, .nil, e => by cases e
  | _, _, _ + 1, _, .nil, e => by cases e
theorem dpAll_snoc {K : PySem.W.Frag} {H : Hp} : ∀ {vs : List V} {ds : List PyData} {v : V} {d : PyData}, DpAll K H vs ds → Dp K H v d → DpAll K H (vs ++ [v]) (ds ++ [d])
  | _, _, _, _, .nil, h => .cons h .nil
  | _, _, _, _, .cons a t, h => .cons a (dpAll_snoc t h)
theorem dp_pD {K : PySem.W.Frag} {H : Hp} {v : V} {x : Option Int} (h : Dp K H v (pD x)) : v = pV x := by
  cases x with
  | none => cases h; rfl
  | some i => cases h; rfl
theorem dp_pV {K : PySem.W.Frag} {H : Hp} : ∀ x : Option Int, Dp K H (pV x) (pD x)
  | none => .non
  | some i => .int i
theorem dpAll_pV {K : PySem.W.Frag} {H : Hp} : ∀ r : List (Option Int), DpAll K H (r.map pV) (r.map pD)
  | [] => .nil
  | x :: r => .cons (dp_pV x) (dpAll_pV r)
theorem dpAll_pD {K : PySem.W.Frag} {H : Hp} : ∀ {vs : List V} {r : List (Option Int)}, DpAll K H vs (r.map pD) → vs = r.map pV
  | [], [], _ => rfl
  | v :: vs, x :: r, .cons a t => by rw [dp_pD a, dpAll_pD t]; rfl
theorem dpAll_int {K : PySem.W.Frag} {H : Hp} : ∀ r : List Int, DpAll K H (r.map V.int) (r.map PyData.int)
  | [] => .nil
  | x :: r => .cons (.int x) (dpAll_int r)
theorem atI_pos {α : Type} {xs : List α} {i : Int} {v : α} (h0 : 0 ≤ i) (h : xs[i.toNat]? = some v) : atI xs i = some v := by
  have e : ((i.toNat : Nat) : Int) = i := Int.toNat_of_nonneg h0
  rw [← e]
  exact atI_nat h
theorem tab_ix {K : PySem.W.Frag} {G H : Hp} {v : V} {rows : List (List (Option Int))} {i : Int} {Q : VK} (hg : Ex G H) (h : Dp K G v (tabD rows)) (h0 : 0 ≤ i) (h1 : i < rows.length) (q : ∀ w, Dp K G w (rowD (rows.getD i.toNat [])) → Q w H) : rIxU K v (.int i) H Q := by
  cases h with
  | tup hs hd =>
    have hl : i.toNat < rows.length := by omega
    have e : (rows.map rowD)[i.toNat]? = some (rowD (rows.getD i.toNat [])) := by
      rw [List.getElem?_map, List.getD_eq_getElem?_getD, List.getElem?_eq_getElem hl]
      rfl
    obtain ⟨w, hw, dw⟩ := dpAll_get hd e
    exact ⟨_, w, Or.inr (Evl.ex_t hg hs), atI_pos h0 hw, q w dw⟩
theorem row_ix {K : PySem.W.Frag} {G H : Hp} {v : V} {r : List (Option Int)} {i : Int} {Q : VK} (hg : Ex G H) (h : Dp K G v (rowD r)) (h0 : 0 ≤ i) (h1 : i < r.length) (q : Q (pV (r.getD i.toNat none)) H) : rIxU K v (.int i) H Q := by
  cases h with
  | tup hs hd =>
    have hl : i.toNat < r.length := by omega
    have e : (r.map pD)[i.toNat]? = some (pD (r.getD i.toNat none)) := by
      rw [List.getElem?_map, List.getD_eq_getElem?_getD, List.getElem?_eq_getElem hl]
      rfl
    obtain ⟨w, hw, dw⟩ := dpAll_get hd e
    have dw' := dp_pD dw
    subst dw'
    exact ⟨_, _, Or.inr (Evl.ex_t hg hs), atI_pos h0 hw, q⟩
def SqR (rows : List (List (Option Int))) : Prop := ∀ r ∈ rows, r.length = rows.length
theorem SqR.at {rows : List (List (Option Int))} (h : SqR rows) {i : Nat} (hi : i < rows.length) : (rows.getD i []).length = rows.length := by
  rw [List.getD_eq_getElem?_getD, List.getElem?_eq_getElem hi]
  exact h _ (List.getElem_mem hi)
def entry (rows : List (List (Option Int))) (i j : Int) : Option Int := (rows.getD i.toNat []).getD j.toNat none
theorem ent_ix {K : PySem.W.Frag} {G H : Hp} {v : V} {rows : List (List (Option Int))} {i j : Int} {Q : VK} (hg : Ex G H) (hq : SqR rows) (h : Dp K G v (tabD rows)) (h0 : 0 ≤ i) (h1 : i < rows.length) (h2 : 0 ≤ j) (h3 : j < rows.length)
    (q : Q (pV (entry rows i j)) H) : rIxU K v (.int i) H fun w H1 => rIxU K w (.int j) H1 Q :=
  tab_ix hg h h0 h1 fun w dw => row_ix hg dw h2 (by rw [hq.at (by omega)]; exact h3) q
theorem isNon_pV (x : Option Int) : isNon (pV x) = !x.isSome := by cases x <;> rfl
theorem int_ix {K : PySem.W.Frag} {H : Hp} {a : Addr} {ns : List Int} {i : Int} {Q : VK} (hs : SqL K H a (ns.map V.int) ∨ SqT K H a (ns.map V.int)) (h0 : 0 ≤ i) (h1 : i < ns.length) (q : Q (.int (ns.getD i.toNat 0)) H) : rIxU K (.ref a) (.int i) H Q := by
  refine ⟨_, _, hs, atI_pos h0 ?_, q⟩
  rw [List.getElem?_map, List.getD_eq_getElem?_getD, List.getElem?_eq_getElem (by omega)]
  rfl
theorem tab_at {K : PySem.W.Frag} {G : Hp} {v : V} {rows : List (List (Option Int))} (h : Dp K G v (tabD rows)) : ∃ a xs, v = .ref a ∧ SqT K G a xs ∧ ∀ i : Int, 0 ≤ i → i < rows.length → ∃ b, atI xs i = some (.ref b) ∧ SqT K G b ((rows.getD i.toNat []).map pV) := by
  cases h with
  | tup hs hd =>
    refine ⟨_, _, rfl, hs, fun i h0 h1 => ?_⟩
    have hl : i.toNat < rows.length := by omega
    have e : (rows.map rowD)[i.toNat]? = some (rowD (rows.getD i.toNat [])) := by
      rw [List.getElem?_map, List.getD_eq_getElem?_getD, List.getElem?_eq_getElem hl]
      rfl
    obtain ⟨w, hw, dw⟩ := dpAll_get hd e
    cases dw with
    | tup hs2 hd2 => exact ⟨_, atI_pos h0 hw, by rw [← dpAll_pD hd2]; exact hs2⟩
theorem getD_mem {ns : List Int} {k : Nat} (h : k < ns.length) : ns.getD k 0 ∈ ns := by
  rw [List.getD_eq_getElem?_getD, List.getElem?_eq_getElem h]
  exact List.getElem_mem h

/-! ### rows in lists or tuples -/
def RowsAt (K : PySem.W.Frag) (G : Hp) (v : V) (rows : List (List (Option Int))) : Prop := ∃ (a : Addr) (f : Bool) (vs : List V), v = .ref a ∧ Sq f K G a vs ∧ Paired (fun w r => ∃ (b : Addr) (g : Bool), w = V.ref b ∧ Sq g K G b (List.map pV r)) vs rows
theorem paired_at {α β : Type} {R : α → β → Prop} : ∀ {as : List α} {bs : List β} {i : Nat} {a : α}, Paired R as bs → as[i]? = some a → ∃ b, bs[i]? = some b ∧ R a b
  | _, _, 0, _, .cons h _, e => ⟨_, rfl, by cases e; exact h⟩
  | _, _, i + 1, _, .cons _ t, e => paired_at (i := i) t e
  | _, _, 0, _, .nil, e => by cases e
  | _, _, _ + 1, _, .nil, e => by cases e
theorem paired_len {α β : Type} {R : α → β → Prop} : ∀ {as : List α} {bs : List β}, Paired R as bs → as.length = bs.length
  | _, _, .nil => rfl
  | _, _, .cons _ t => congrArg Nat.succ (paired_len t)
theorem rows_of {K : PySem.W.Frag} {G : Hp} : ∀ {vs : List V} {rows : List (List (Option Int))}, DpAll K G vs (rows.map rowD) → Paired (fun w r => ∃ (b : Addr) (g : Bool), w = V.ref b ∧ Sq g K G b (List.map pV r)) vs rows
  | [], [], _ => .nil
  | v :: vs, r :: rows, .cons a t => .cons (by
      cases a with
      | tup hs hd => exact ⟨_, false, rfl, by rw [← dpAll_pD hd]; exact hs⟩) (rows_of t)
theorem RowsAt.of {K : PySem.W.Frag} {G : Hp} {v : V} {rows : List (List (Option Int))} (h : Dp K G v (tabD rows)) : RowsAt K G v rows := by
  cases h with
  | tup hs hd => exact ⟨_, false, _, rfl, hs, rows_of hd⟩
theorem Sq.or {b : Bool} {K : PySem.W.Frag} {H : Hp} {a : Addr} {xs : List V} (q : Sq b K H a xs) : SqL K H a xs ∨ SqT K H a xs := by
  cases b with
  | true => exact Or.inl q
  | false => exact Or.inr q
theorem isi_seq {K : PySem.W.Frag} {H : Hp} {a tp : Addr} {b : Bool} {xs : List V} {Q : VK} (h : Sq b K H a xs) (ht : H tp = some (.tup [.ty "list", .ty "tuple"])) (q : Q (.bl true) H) : rIsiU K [.ref a, .ref tp] H Q := by
  cases b with
  | true =>
    obtain ⟨t, h1, h2⟩ := isi_lstX (n := "list") (b := true) h (by decide +kernel)
    exact Or.inr (Or.inl ⟨_, tp, _, t, [.type "list", .type "tuple"], true, rfl, ht, .cons (.ty _) (.cons (.ty _) .nil), h1, kitAny_cons h2 (fun z => by cases z) (fun _ => rfl), q⟩)
  | false =>
    obtain ⟨t, h1, h2⟩ := isi_tupX (n := "tuple") (b := true) h (by decide +kernel)
    have e : t = .type "tuple" ∨ True := Or.inr trivial
    have h3 : ∃ t, TyX K H (.ref a) t ∧ PySem.W.kitAny K t [.type "list", .type "tuple"] = some true := by
      have k1 : PySem.W.kitOne K (.type "tuple") (.type "list") = some false := kit_ty (by decide +kernel)
      have k2 : PySem.W.kitOne K (.type "tuple") (.type "tuple") = some true := kit_ty (by decide +kernel)
      refine ⟨.type "tuple", ?_, kitAny_cons k1 (fun _ => kitAny_cons k2 (fun z => by cases z) (fun _ => rfl)) (fun z => by cases z)⟩
      rcases h with (h | ⟨o, h⟩) | ⟨o, its, m, h, hc, _⟩
      · exact .base (.tup h)
      · exact .fTuple h
      · exact .kTuple h hc
    obtain ⟨t, h1, h2⟩ := h3
    exact Or.inr (Or.inl ⟨_, tp, _, t, [.type "list", .type "tuple"], true, rfl, ht, .cons (.ty _) (.cons (.ty _) .nil), h1, h2, q⟩)
theorem made_gr {G H1 H2 G' H' : Hp} {x dx C : Addr} {o : HO} (m : Made H1 x dx C H2) (hg : Ex G H1) (g : GrM x G H2 G' H') (hx : H' x = some o) : Gr G H1 (upd G' x o) H' := by
  have e2 : ∀ a, a ≠ x → a ≠ dx → H2 a = H1 a := fun a h1 h2 => by rw [m.eq, upd_ne h1, upd_ne h2]
  have hx2 : H2 x ≠ none := by rw [m.eq, upd_same]; intro z; cases z
  have gx : G' x = none := (g.fix x hx2).trans (ex_none hg m.nx)
  have off : ∀ a u, H1 a = some u → H2 a = some u := fun a u e => by
    rw [e2 a (fun z => by rw [z, m.nx] at e; cases e) (fun z => by rw [z, m.ndx] at e; cases e)]
    exact e
  refine ⟨fun a u e => g.hh a u (fun z => by rw [z, m.nx] at e; cases e) (off a u e), fun a u e => ?_, fun a u e => ?_, fun a ha => ?_⟩
  · have := g.gg a u e
    rw [upd_ne (fun z => by rw [z, gx] at this; cases this)]
    exact this
  · by_cases z : a = x
    · subst z; rw [upd_same] at e; rw [hx]; exact e
    · rw [upd_ne z] at e; exact g.gh a u e
  · rw [upd_ne (fun z : a = x => ha (by rw [z]; exact m.nx))]
    refine g.fix a ?_
    cases e : H1 a with
    | none => exact absurd e ha
    | some u => exact some_ne (off a u e)
theorem Made.ex {H1 H2 : Hp} {x dx C : Addr} (m : Made H1 x dx C H2) : Ex H1 H2 := fun a u e => by
  rw [m.eq, upd_ne (fun z => by rw [z, m.nx] at e; cases e), upd_ne (fun z => by rw [z, m.ndx] at e; cases e)]
  exact e
theorem Made.at {H1 H2 : Hp} {x dx C : Addr} (m : Made H1 x dx C H2) : H2 x = some (.ins C dx []) := by rw [m.eq, upd_same]

/-! ### delays -/
def okD (rows : List (List (Option Int))) (ns : List Int) (d : Nat) : Bool := ((List.range (ns.length - d)).map fun k => (entry rows (ns.getD k 0) (ns.getD (k + d) 0)).isSome).all id
def delaysTo (rows : List (List (Option Int))) (ns : List Int) (m : Nat) : List Int := ((List.range m).filter fun j => okD rows ns (1 + j)).map fun (j : Nat) => (1 + (j : Int))
theorem delays_t {rows : List (List (Option Int))} {ns : List Int} {m : Nat} (h : okD rows ns (1 + m) = true) : delaysTo rows ns (m + 1) = delaysTo rows ns m ++ [1 + (m : Int)] := by
  unfold delaysTo
  rw [List.range_succ, List.filter_append, List.map_append]
  simp [h]
theorem delays_f {rows : List (List (Option Int))} {ns : List Int} {m : Nat} (h : okD rows ns (1 + m) = false) : delaysTo rows ns (m + 1) = delaysTo rows ns m := by
  unfold delaysTo
  rw [List.range_succ, List.filter_append, List.map_append]
  simp [h]
theorem delays_len (rows : List (List (Option Int))) (ns : List Int) (m : Nat) : (delaysTo rows ns m).length ≤ m := by
  unfold delaysTo
  rw [List.length_map]
  exact Nat.le_trans (List.length_filter_le _ _) (by rw [List.length_range]; exact Nat.le_refl _)
end Ech

namespace Ech
open PySem PySem.Spec PyProof.Rows L2

/-! ### the pen's cells -/
def PenX (K : PySem.W.Frag) (ku kr : PySem.Str) (G H : Hp) (p : Addr) (b : Nat) (kvs : List (Key × V)) (c : Addr) (ns : List Int) (u r : Int) : Prop := H p = some (.dK kvs) ∧ kvs.length ≤ 3 ∧ valV kvs (.inr "cells") = some (.ref c) ∧ SqL K G c (ns.map V.int) ∧ ns.length ≤ 63 ∧
    valV kvs (.inr ku) = some (.int u) ∧ 0 ≤ u ∧ u ≤ b ∧ valV kvs (.inr kr) = some (.int r) ∧ 0 ≤ r
structure KeysOk (ku kr : PySem.Str) : Prop where
  cu : ¬ ((Sum.inr ("cells" : PySem.Str) : Key) = Sum.inr ku)
  cr : ¬ ((Sum.inr ("cells" : PySem.Str) : Key) = Sum.inr kr)
  ur : ¬ ((Sum.inr ku : Key) = Sum.inr kr)
section
variable {K : PySem.W.Frag} {ku kr : PySem.Str} {G H : Hp} {p c : Addr} {b : Nat} {kvs : List (Key × V)} {ns : List Int} {u r : Int}
theorem PenX.putR (ko : KeysOk ku kr) (h : PenX K ku kr G H p b kvs c ns u r) {r' : Int} (hr : 0 ≤ r') : PenX K ku kr G (upd H p (.dK (putK kvs (.inr kr) (.int r')))) p b (putK kvs (.inr kr) (.int r')) c ns u r' := by
  obtain ⟨h1, h2, h3, h4, h5, h6, h7, h8, h9, h10⟩ := h
  refine ⟨upd_same, by rw [length_putK_some h9]; exact h2, ?_, h4, h5, ?_, h7, h8, ?_, hr⟩
  · rw [valV_put, if_neg ko.cr]; exact h3
  · rw [valV_put, if_neg ko.ur]; exact h6
  · rw [valV_put, if_pos rfl]
theorem PenX.putU (ko : KeysOk ku kr) (h : PenX K ku kr G H p b kvs c ns u r) {u' : Int} {b' : Nat} (h0 : 0 ≤ u') (hb : u' ≤ b') : PenX K ku kr G (upd H p (.dK (putK kvs (.inr ku) (.int u')))) p b' (putK kvs (.inr ku) (.int u')) c ns u' r := by
  obtain ⟨h1, h2, h3, h4, h5, h6, h7, h8, h9, h10⟩ := h
  refine ⟨upd_same, by rw [length_putK_some h6]; exact h2, ?_, h4, h5, ?_, h0, hb, ?_, h10⟩
  · rw [valV_put, if_neg ko.cu]; exact h3
  · rw [valV_put, if_pos rfl]
  · rw [valV_put, if_neg (fun z => ko.ur z.symm)]; exact h9
theorem PenX.pen (h : PenX K ku kr G H p b kvs c ns u r) (un : G p = none) : Pen K ku kr G H p b := ⟨⟨kvs, c, ns, u, r, h⟩, un⟩
theorem PenX.gr {G' H' : Hp} (h : PenX K ku kr G H p b kvs c ns u r) (g : Gr G H G' H') : PenX K ku kr G' H' p b kvs c ns u r := by
  obtain ⟨h1, h2, h3, h4, h5, h6⟩ := h
  exact ⟨g.hh _ _ h1, h2, h3, Evl.ex_l g.gg h4, h5, h6⟩
theorem PenX.rest (h : PenX K ku kr G H p b kvs c ns u r) : DGet H p (.str kr) (some (.int r)) := dget_of h.1 h.2.2.2.2.2.2.2.2.1
theorem PenX.used (h : PenX K ku kr G H p b kvs c ns u r) : DGet H p (.str ku) (some (.int u)) := dget_of h.1 h.2.2.2.2.2.1
theorem PenX.cells (h : PenX K ku kr G H p b kvs c ns u r) : DGet H p (.str "cells") (some (.ref c)) := dget_of h.1 h.2.2.1
theorem PenX.dput (h : PenX K ku kr G H p b kvs c ns u r) (k : PySem.Str) (v : V) : DPut H p (.str k) v (upd H p (.dK (putK kvs (.inr k) v))) := dput_of h.1 h.2.1
theorem upd_grm {o : HO} (h : Ex G H) (hp : G p = none) : GrM p G H G (upd H p o) := Chg.grm ⟨rfl⟩ h hp
end

/-! ### data of ints -/
theorem ints_lay : ∀ ns : List Int, PyData.canLayAll0 (ns.map PyData.int) = true
  | [] => by simp [PyData.canLayAll0]
  | z :: zs => by simp [PyData.canLayAll0, PyData.canLay0, ints_lay zs]
theorem ints_depth : ∀ ns : List Int, PyData.depthAll (ns.map PyData.int) ≤ 2
  | [] => by simp [PyData.depthAll]
  | z :: zs => by
    have h1 := ints_depth zs
    simp only [List.map_cons, PyData.depthAll, PyData.depth]
    omega
theorem ints_shaped (ns : List Int) : SeqAt.shaped (.list (ns.map PyData.int)) = true := by
  have h1 := ints_depth ns
  have h2 : PyData.depth (.list (ns.map PyData.int)) ≤ 64 := by
    simp only [PyData.depth]
    omega
  show (PyData.canLay0 (.list (ns.map PyData.int)) && decide (PyData.depth (.list (ns.map PyData.int)) ≤ 64)) = true
  rw [Bool.and_eq_true]
  exact ⟨by simp only [PyData.canLay0]; exact ints_lay ns, decide_eq_true h2⟩
theorem ints_eqv : ∀ ns ms : List Int, PyData.eqvAll (ns.map PyData.int) (ms.map PyData.int) = decide (ns = ms)
  | [], [] => rfl
  | [], _ :: _ => rfl
  | _ :: _, [] => rfl
  | n :: ns, m :: ms => by
    show (PyData.eqv (.int n) (.int m) && PyData.eqvAll (ns.map PyData.int) (ms.map PyData.int)) = _
    rw [ints_eqv ns ms]
    show ((n == m) && _) = _
    by_cases h : n = m
    · subst h; simp
    · simp [h]
theorem ints_cmp {K : PySem.W.Frag} {H : Hp} {a c : Addr} {ns ms : List Int} {Q : VK} {neg : Bool} (h1 : SqL K H a (ns.map V.int)) (h2 : SqL K H c (ms.map V.int)) (q : Q (.bl (if neg then !decide (ns = ms) else decide (ns = ms))) H) : rEqU K neg (.ref a) (.ref c) H Q := by
  refine Or.inr ⟨.list (ns.map PyData.int), .list (ms.map PyData.int), .lst h1 (dpAll_int ns), .lst h2 (dpAll_int ms), ints_shaped ns, ints_shaped ms, ?_⟩
  rw [show PyData.eqv (.list (ns.map PyData.int)) (.list (ms.map PyData.int)) = PyData.eqvAll (ns.map PyData.int) (ms.map PyData.int) by simp only [PyData.eqv], ints_eqv]
  exact q
def rModZ : R2 := fun x y H Q => match x, y with
  | .int i, .int j => 0 < j ∧ ∀ z, 0 ≤ z → z < j → z = i % j → Q (.int z) H
  | _, _ => False
theorem o_modz {X : Cx} : OpR X (binaryOp .Mod) rModZ := by
  refine op_wk o_mod fun x y H Q h => ?_
  unfold rModZ at h
  split at h
  · exact ⟨h.1, h.2 _ (Int.emod_nonneg _ (Int.ne_of_gt h.1)) (Int.emod_lt_of_pos _ h.1) rfl⟩
  · exact h.elim
def rDivZ : R2 := fun x y H Q => match x, y with
  | .int i, .int j => (0 < j ∧ j < 2 ^ 1000) ∧ ∀ z, z = i / j → Q (.int z) H
  | _, _ => False
theorem o_divz {X : Cx} : OpR X (binaryOp .FloorDiv) rDivZ := by
  refine op_wk o_div fun x y H Q h => ?_
  unfold rDivZ at h
  split at h
  · exact ⟨h.1, h.2 _ rfl⟩
  · exact h.elim
theorem mulOk {i j : Int} (h : -(2 ^ 64) < i ∧ i < 2 ^ 64) : CMulU i j := Or.inl (Or.inl h)
theorem mulOkR {i j : Int} (h : -(2 ^ 64) < j ∧ j < 2 ^ 64) : CMulU i j := Or.inl (Or.inr h)

/-! ### repr of ints in a list -/
structure Shows (d : PyData) : Prop where
  a : d.showable = true
  b : d.hasDict = false
  c : d.depth ≤ 60
  d : d.shown.length ≤ sizeLine
end Ech

namespace Ech
open PySem PySem.Spec PyProof.Rows L2

/-! ### enumerate(tuple) -/
section
variable {prog : Program} {w : World} {A : Around} {E : Value → Shared → Prop} {s : Shared}
end
end Ech

namespace Ech
open PySem PySem.Spec PyProof.Rows L2

/-! ### defs with a starred last name -/
def starSp (n : Nat) (sp : Sp) : Sp := fun vs H Q E => ∃ ws rest, vs = ws ++ rest ∧ ws.length = n ∧ rest.length ≤ sizeLine ∧ ∀ p H1, New H p (.tup rest) H1 → sp (ws ++ [V.ref p]) H1 Q E
section
variable {P : Program} {w : World} {K : PySem.W.Frag} {mg : PySem.Str → Option Value} {base : Heap} {x qual pv : PySem.Str} {params : Arguments} {body : List Stmt} {scope : Scope} {kws : List (PySem.Str × V)} {f : Addr} {fd : FuncData} {N ps : List PySem.Str} {k : Nat} {sp : Sp}
theorem star_ok (F : FunD K x qual params body scope [] kws f fd) (S : FnScope N (ps ++ [pv]) scope)
    (hb : ∀ (kV doc pm : Value) (an : Option Addr) (cdv ct : Value) (us rest : List Value), us.length = ps.length → bindArgs (PySem.W.fnOf x qual params body scope .none kV doc pm an cdv ct) ⟨us ++ rest, []⟩ = (newTuple rest >>= fun t => pure (ps.zip us ++ [(pv, t)])))
    (hbody : ∀ (cdv : Value) (A : Around) (outer : List Env) (s : Shared) (H : Hp) (vs : List V) (Q : VK) (E : XK), Room k (A.deeper (envOfC qual scope s.heap.objs.size f cdv)) → sp vs H Q E →
      ∃ t, PSs (cxOf CX0 P w K mg base N qual scope f cdv A outer s H E) body t ∧ t { nx := fun _ H' => Q .non H', rt := Q } (start N vs) H) : FnR P w K mg base CX0 (k + 1) f (starSp ps.length sp) := by
  obtain ⟨oc, od, dV, kV, doc, pm, an, cdv, ct, osl, rfl, lk, hcd, hD, _⟩ := F.ex
  rcases hD with ⟨_, rfl⟩ | ⟨e, _⟩
  · refine (StX.fn_star lk hcd S StX.cxUp_none (fun us rest h => hb kV doc pm an cdv ct us rest h) fun A outer s H vs Q E hr hsp => hbody cdv A outer s H vs Q E hr hsp).imp ?_
    rintro vs H Q E ⟨ws, rest, h1, h2, h3, h4⟩
    exact ⟨ws, rest, h1, h2, h3, fun p hp => h4 p _ ⟨hp, rfl⟩⟩
  · exact absurd rfl e
end
end Ech

namespace Ech
open PySem PySem.Spec PyProof.Rows L2
open He (ga ma)

/-! ### songs as data -/
abbrev Ec : Type := Int × Addr × List (List (Option Int))
def EchoAt (K : PySem.W.Frag) (G : Hp) (v : V) (e : Ec) : Prop := ∃ b, v = .ref b ∧ SqT K G b [.int e.1, .ref e.2.1] ∧ TabAt K G e.2.1 e.2.2
def SongAt (K : PySem.W.Frag) (G : Hp) (a : Addr) (L n : Int) (es : List Ec) : Prop := ∃ dx vo vs, G a = some (.ins (ga K "Song") dx [("alphabet", .int L), ("size", .int n), ("voices", .ref vo)]) ∧ SqT K G vo vs ∧ Paired (EchoAt K G) vs es
theorem EchoAt.up {K : PySem.W.Frag} {G G' : Hp} {v : V} {e : Ec} (x : Ex G G') (h : EchoAt K G v e) : EchoAt K G' v e := by
  obtain ⟨b, h1, h2, h3⟩ := h
  exact ⟨b, h1, Evl.ex_t x h2, h3.up x⟩
theorem echoes_up {K : PySem.W.Frag} {G G' : Hp} {vs : List V} {es : List Ec} (x : Ex G G') (h : Paired (EchoAt K G) vs es) : Paired (EchoAt K G') vs es := paired_imp2 h fun _ _ _ z => z.up x
theorem SongAt.up {K : PySem.W.Frag} {G G' : Hp} {a : Addr} {L n : Int} {es : List Ec} (h : SongAt K G a L n es) (x : Ex G G') : SongAt K G' a L n es := by
  obtain ⟨dx, vo, vs, h1, h2, h3⟩ := h
  exact ⟨dx, vo, vs, x _ _ h1, Evl.ex_t x h2, echoes_up x h3⟩
theorem ex_refl (H : Hp) : Ex H H := fun _ _ e => e
theorem ex_trans {G H I : Hp} (a : Ex G H) (b : Ex H I) : Ex G I := fun x o e => b x o (a x o e)

/-! ### scores: what a law draws ahead of a song -/
abbrev Lot : Type := Int × List (List (Option Int))
def LotAt (K : PySem.W.Frag) (G : Hp) (w : V) (e : Lot) : Prop := ∃ b r, w = .ref b ∧ SqT K G b [.int e.1, r] ∧ RowsAt K G r e.2
def ScoreAt (K : PySem.W.Frag) (G : Hp) (v : V) (L n : Int) (es : List Lot) : Prop := ∃ a kvs le ws, v = .ref a ∧ G a = some (.dK kvs) ∧ valV kvs (.inr "letters") = some (.int L) ∧ valV kvs (.inr "length") = some (.int n) ∧ valV kvs (.inr "echoes") = some (.ref le) ∧ SqL K G le ws ∧ Paired (LotAt K G) ws es
def lotSum (es : List Lot) : Int := (es.map (·.1)).sum
structure ScoreOk (L n : Int) (es : List Lot) : Prop where
  l1 : 1 ≤ L
  l5 : L ≤ 5
  n1 : 1 ≤ n
  n30 : n ≤ 10 ^ 30
  few : es.length ≤ 2
  each : ∀ e ∈ es, 1 ≤ e.1 ∧ e.1 ≤ 10 ^ 30 ∧ (e.2.length : Int) = L ∧ SqR e.2 ∧ ∀ r ∈ e.2, ∀ x ∈ r, ∀ i, x = some i → 0 ≤ i
  sum : es.length = 2 → n ≤ lotSum es
theorem RowsAt.up {K : PySem.W.Frag} {G G' : Hp} {v : V} {rows : List (List (Option Int))} (x : Ex G G') (h : RowsAt K G v rows) : RowsAt K G' v rows := by
  obtain ⟨a, f, vs, h1, h2, h3⟩ := h
  exact ⟨a, f, vs, h1, Sq.up x h2, paired_imp2 h3 fun w r _ ⟨b, g, k1, k2⟩ => ⟨b, g, k1, Sq.up x k2⟩⟩
theorem LotAt.up {K : PySem.W.Frag} {G G' : Hp} {w : V} {e : Lot} (x : Ex G G') (h : LotAt K G w e) : LotAt K G' w e := by
  obtain ⟨b, r, h1, h2, h3⟩ := h
  exact ⟨b, r, h1, Evl.ex_t x h2, h3.up x⟩
theorem ScoreAt.up {K : PySem.W.Frag} {G G' : Hp} {v : V} {L n : Int} {es : List Lot} (x : Ex G G') (h : ScoreAt K G v L n es) : ScoreAt K G' v L n es := by
  obtain ⟨a, kvs, le, ws, h1, h2, h3, h4, h5, h6, h7⟩ := h
  exact ⟨a, kvs, le, ws, h1, x _ _ h2, h3, h4, h5, Evl.ex_l x h6, paired_imp2 h7 fun _ _ _ z => z.up x⟩
end Ech

namespace Ech
open PySem PySem.Spec PyProof.Rows L2
open He (ga ma)

/-! ### data small enough to be shown and compared -/
structure Sm (k n : Nat) (d : PyData) : Prop where
  lay : d.canLay0 = true
  sh : d.showable = true
  nd : d.hasDict = false
  dp : d.depth ≤ k
  lv : d.leavesShort 91 = true
  w : d.weight ≤ n
theorem Sm.up {k n k' n' : Nat} {d : PyData} (h : Sm k n d) (hk : k ≤ k') (hn : n ≤ n') : Sm k' n' d := ⟨h.lay, h.sh, h.nd, Nat.le_trans h.dp hk, h.lv, Nat.le_trans h.w hn⟩
theorem sm_non : Sm 0 0 .none := ⟨rfl, rfl, rfl, Nat.le_refl _, rfl, Nat.le_refl _⟩
theorem sm_bl (b : Bool) : Sm 0 0 (.bool b) := ⟨rfl, rfl, rfl, Nat.le_refl _, rfl, Nat.le_refl _⟩
theorem sm_int {i : Int} (h : i.natAbs < 10 ^ 90) : Sm 0 300 (.int i) := by
  have lg : i.natAbs.log2 ≤ 299 := by
    by_cases z : i.natAbs = 0
    · rw [z]; decide
    · exact Nat.le_of_lt_succ ((Nat.log2_lt z).mpr (Nat.lt_of_lt_of_le h (by decide +kernel)))
  refine ⟨by simp only [PyData.canLay0], ?_, by simp only [PyData.hasDict], by simp only [PyData.depth]; exact Nat.le_refl _, ?_, ?_⟩
  · simp only [PyData.showable]
    exact decide_eq_true (by omega)
  · simp only [PyData.leavesShort]
    refine decide_eq_true ?_
    have e := int_text_length_le10 (k := 90) (by decide) h
    show (Str.ofString (toString i)).length ≤ 91
    rw [PySem.ofString_length]
    exact e
  · simp only [PyData.weight]
    split
    · omega
    · omega
section
variable {k n : Nat}
theorem sm_all : ∀ {ds : List PyData}, (∀ d ∈ ds, Sm k n d) → PyData.canLayAll0 ds = true ∧ PyData.showableAll ds = true ∧ PyData.hasDictAll ds = false ∧ PyData.depthAll ds ≤ k ∧ PyData.leavesShortAll 91 ds = true ∧ PyData.weightAll ds ≤ ds.length * (n + 1)
  | [], _ => ⟨by simp [PyData.canLayAll0], by simp [PyData.showableAll], by simp [PyData.hasDictAll], by simp [PyData.depthAll], by simp [PyData.leavesShortAll], by simp [PyData.weightAll]⟩
  | d :: ds, h => by
    obtain ⟨a, b, c, e, f, g⟩ := sm_all (ds := ds) fun x hx => h x (List.mem_cons_of_mem _ hx)
    have q := h d (List.mem_cons_self ..)
    refine ⟨by simp [PyData.canLayAll0, a, q.lay], by simp [PyData.showableAll, b, q.sh], by simp [PyData.hasDictAll, c, q.nd], ?_, by simp [PyData.leavesShortAll, f, q.lv], ?_⟩
    · simp only [PyData.depthAll]
      have := q.dp
      omega
    · simp only [PyData.weightAll, List.length_cons]
      have := q.w
      rw [Nat.succ_mul]
      omega
theorem sm_lst {ds : List PyData} (m : Nat) (hm : ds.length ≤ m) (h : ∀ d ∈ ds, Sm k n d) : Sm (k + 1) (m * (n + 1)) (.list ds) := by
  obtain ⟨a, b, c, e, f, g⟩ := sm_all h
  exact ⟨by simpa [PyData.canLay0] using a, by simpa [PyData.showable] using b, by simpa [PyData.hasDict] using c, by simp only [PyData.depth]; omega, by simpa [PyData.leavesShort] using f, by
    simp only [PyData.weight]; exact Nat.le_trans g (Nat.mul_le_mul_right _ hm)⟩
theorem sm_tup {ds : List PyData} (m : Nat) (hm : ds.length ≤ m) (h : ∀ d ∈ ds, Sm k n d) : Sm (k + 1) (m * (n + 1)) (.tuple ds) := by
  obtain ⟨a, b, c, e, f, g⟩ := sm_all h
  exact ⟨by simpa [PyData.canLay0] using a, by simpa [PyData.showable] using b, by simpa [PyData.hasDict] using c, by simp only [PyData.depth]; omega, by simpa [PyData.leavesShort] using f, by
    simp only [PyData.weight]; exact Nat.le_trans g (Nat.mul_le_mul_right _ hm)⟩
theorem Sm.shaped {d : PyData} (h : Sm k n d) (hk : k ≤ 64) : SeqAt.shaped d = true := by
  show (PyData.canLay0 d && decide (PyData.depth d ≤ 64)) = true
  rw [Bool.and_eq_true]
  exact ⟨h.lay, decide_eq_true (Nat.le_trans h.dp hk)⟩
end
theorem sm_pD {x : Option Int} (h : ∀ i, x = some i → i.natAbs < 10 ^ 90) : Sm 0 300 (pD x) := by
  cases x with
  | none => exact sm_non.up (by omega) (by omega)
  | some i => exact sm_int (h i rfl)

/-! ### repr, told -/
/-! ### scores, done -/
end Ech

set_option maxHeartbeats 4000000
/-! ### tuples of ints in their order -/
namespace EchS
open PySem PyProof.Rows Srt SrtO
def lexLe (a b : List Int) : Bool := !HT.lexLt b a
def isort (ds : List (List Int)) : List (List Int) := ds.mergeSort lexLe
section
variable {prog : Program} {w : World} {A : Around} {E : Value → Shared → Prop} {s : Shared}
def IsInts (h : Heap) (v : Value) (ns : List Int) : Prop := ∃ a o its n, v = .ref a ∧ h.get? a = some o ∧ o.cls = .type "tuple" ∧ o.data = .seq its n ∧ IntsAre its.toList ns
theorem IsInts.keeps {h h' : Heap} {v : Value} {ns : List Int} (p : IsInts h v ns) (k : ∀ b o, h.get? b = some o → o.cls = .type "tuple" → h'.get? b = some o) : IsInts h' v ns := by
  obtain ⟨a, o, its, n, e, ho, hc, hd, hi⟩ := p
  exact ⟨a, o, its, n, e, k _ _ ho hc, hc, hd, hi⟩
end
end EchS
namespace Ech
open PySem PySem.Spec PyProof.Rows L2
open EchS (isort IsInts)
end Ech

namespace Ech
open PySem PySem.Spec PyProof.Rows L2
open He (ga ma)

/-! ### methods of own classes -/
section
variable {X : Cx} {o e : Expr} {es : List Expr} {ta : TE} {t : TA} {pos apos : Pos} {C f : Addr} {m x : PySem.Str} {CX : CXT} {k : Nat} {ps : List PySem.Str} {sp : Sp} {dvs : List V} {E : XK} {pl : Sem Bool}
end

/-! ### a class's int, read through an instance -/
/-! ### calls with a star -/
def uCMethS (K : PySem.W.Frag) (C : Addr) (sp : Sp) (E : XK) (t1 t2 : TE) : TE := fun σ H Q => t1 σ H fun y1 H2 => t2 σ H2 fun y2 H3 => match y2 with
  | .ref b => ∃ vs, (SqT K H3 b vs ∨ SqL K H3 b vs) ∧ sp (.ref C :: y1 :: vs) H3 Q E
  | _ => False
theorem u_cmethS {X : Cx} {K : PySem.W.Frag} {CX : CXT} {k : Nat} {C p g : Addr} {mc : Value} {x m : PySem.Str} {sp : Sp} {E : XK} {e1 e2 : Expr} {t1 t2 : TE} {sp_ np apos pos : Pos} (hK : X.K = K) (hg : Gl X x) (hm : X.mg x = some (.ref C)) (r : ClX.CRead X.K C mc) (c : ClX.CMet X.K C mc m p g) (F : FnR X.prog X.w X.K X.mg X.base CX k g sp) (hr : Room k X.A)
    (hx : Passes CX X E) (h1 : PE X e1 t1) (h2 : PE X e2 t2) (hd : (x == ("__debug__" : PySem.Str)) = false := by decide) (hbase : attributeBase (.Name x np) m X.env (eval (.Name x np) X.env) = eval (.Name x np) X.env := by rfl)
    (hst : starEach [e1, .Starred e2 sp_] X.env = [(false, eval e1 X.env), (true, eval e2 X.env)] := by rfl) : PE X (.Call (.Attribute (.Name x np) m apos) [e1, .Starred e2 sp_] [] pos) (uCMethS K C sp E t1 t2) := by
  subst hK
  refine ⟨fun pins s σ H Q I h => ?_⟩
  refine starcall2_of hbase hst (thn ((pe_glob (v := .ref C) hg hm rfl hd).run pins s σ H (fun v H1 => v = .ref C ∧ H1 = H) I ⟨rfl, rfl⟩) fun u s1 ⟨y, H1, I1, rx, ex, eh⟩ => ?_)
  subst ex
  subst eh
  obtain rfl : u = Value.ref C := rx
  refine ClX.getcmet_ok I1 r c fun s2 I2 => ?_
  refine PySem.W.ks_call (P := PySem.W.MethP X.K s1.heap.objs.size g (.ref C)) rfl (PySem.W.keeps_M c.fi) (Calls.evalArgs_plain (Calls.spliced_cons (thn (h1.run _ s2 σ _ _ I2 h) fun v1 s3 ⟨y1, H2, I3, ry1, q2⟩ =>
    PySem.W.ks_spliced (thn (h2.run _ s3 σ H2 _ I3 q2) fun v2 s4 ⟨y2, H3, I4, ry2, q3⟩ => ?_))))
  cases y2 with
  | ref t =>
    obtain ⟨vs, ht, hsp⟩ := q3
    obtain rfl : v2 = Value.ref t := ry2
    refine StX.star_any I4 ht fun us s5 I5 rv => Calls.spliced_nil ?_
    show PySem.W.MethP X.K s1.heap.objs.size g (.ref C) s5.heap ∧ wpAny (model X.prog X.w) X.A (call (.ref s1.heap.objs.size) (v1 :: (us ++ [])) []) (EP X pins σ Q) X.xe s5
    rw [List.append_nil]
    exact ⟨⟨ClX.pin_at I5, I5.kIn⟩, ClX.run_cm (vs := y1 :: vs) F hr hx I5 (.cons ry1 rv) hsp⟩
  | _ => exact q3.elim
def uMakeL (i : Nat) (C : Addr) (sp : Sp) (dvs : List V) (E : XK) (t : TA) : TE := fun σ H Q => match slot σ i with
  | some (.ref D) => D = C ∧ t σ H fun vs H1 => ∀ x dx H2, Made H1 x dx C H2 → sp (.ref x :: (vs ++ dvs)) H2 (fun v H3 => v = .non ∧ Q (.ref x) H3) E
  | _ => False
theorem u_makeL {X : Cx} {CX : CXT} {k i : Nat} {C f : Addr} {fd : FuncData} {ps : List PySem.Str} {x : PySem.Str} {sp : Sp} {dvs : List V} {ds : List Value} {E : XK} {e : Expr} {es : List Expr} {t : TA} {p pos : Pos} (M : Mk X.K C f) (F : FnOk X.prog X.w X.K X.mg X.base CX k f fd ps sp) (hr : Room (k + 1) X.A) (hN : X.N[i]? = some x) (hv : Vis X.env.scope x)
    (hb : Binds X.K fd ps ds) (hd : Vals dvs ds) (hx : Passes CX X E) (ha : PA X (e :: es) t) (hdb : (x == ("__debug__" : PySem.Str)) = false := by decide) (hcd : (x == ("__classdict__" : PySem.Str)) = false := by decide)
    (he : starEach (e :: es) X.env = (false, eval e X.env) :: starEach es X.env := by rfl) (hpl : (backTo pos (starEach es X.env)).any (·.1) = false := by rfl) : PE X (.Call (.Name x p) (e :: es) [] pos) (uMakeL i C sp dvs E t) := by
  refine ⟨fun pins s σ H Q I h => ?_⟩
  unfold uMakeL at h
  split at h
  case h_2 => exact h.elim
  rename_i D eD
  obtain ⟨rfl, ht⟩ := h
  refine wpAny_Call_Name_kw (thn ((pe_var (pos := p) hN hv hdb hcd).run pins s σ H (fun v H1 => v = .ref D ∧ H1 = H) I ⟨.ref D, slot_ok eD, rfl, rfl⟩) fun u s1 ⟨v, H1, I1, r1, q1⟩ => ?_)
  obtain ⟨rfl, rfl⟩ := q1
  cases r1
  refine PySem.W.callWith_K (h₀ := X.base) I.ok.mod.kin M.kp (thn (ha.run pos pins s1 σ _ _ I1 ht) fun us s2 ⟨vs, H2, I2, r, q⟩ => ⟨I2.kIn, ?_⟩) he hpl
  exact run_make M F hr hb hd hx I2 r fun a dx h1 h2 h3 => q a dx _ ⟨h1, h2, h3, rfl⟩

/-! ### in -/
def rInU (K : PySem.W.Frag) (neg : Bool) : R2 := fun x y H Q => match y with
  | .ref p => (∃ d ds, Dp K H x d ∧ (Dp K H (.ref p) (.list ds) ∧ SeqAt.shaped (.list ds) = true ∨ Dp K H (.ref p) (.tuple ds) ∧ SeqAt.shaped (.tuple ds) = true) ∧ SeqAt.shaped d = true ∧ Q (.bl (if neg then !(ds.any fun z => PyData.eqv z d) else ds.any fun z => PyData.eqv z d)) H) ∨
      ∃ ov, DGet H p x ov ∧ Q (.bl (if neg then !ov.isSome else ov.isSome)) H
  | _ => False
theorem room65 {k : Nat} {A : Around} (r : Room k A) : A.units + 65 < cLine := by have := r.un; omega
section
variable {X : Cx} {K : PySem.W.Frag}
theorem k_in (hK : X.K = K) (hu2 : X.A.units + 65 < cLine) : OpR X (compareOp .In) (rInU K false) := by
  subst hK
  intro pins s σ H x y v u Q I rx ry h
  unfold rInU at h
  split at h
  · rename_i p
    rcases h with ⟨d, ds, hd, hc, sd, q⟩ | ⟨ov, g, q⟩
    · obtain ⟨as, r1⟩ := Dp.reads I d x v hd rx
      rcases hc with ⟨he, se⟩ | ⟨he, se⟩
      · obtain ⟨bs, r2⟩ := Dp.reads I (.list ds) _ u he ry
        exact SeqAt.in_list_reads r2 r1 (SeqAt.canLay_of_shaped se) (SeqAt.canLay_of_shaped sd) (room_in_shaped sd hu2) ⟨.bl _, H, I, rfl, q⟩
      · obtain ⟨bs, r2⟩ := Dp.reads I (.tuple ds) _ u he ry
        exact SeqAt.in_tuple_reads r2 r1 (SeqAt.canLay_of_shaped se) (SeqAt.canLay_of_shaped sd) (room_in_shaped sd hu2) ⟨.bl _, H, I, rfl, q⟩
    · obtain rfl : u = Value.ref p := ry
      exact d_in (by omega) I g rx fun s3 I3 => ⟨.bl ov.isSome, H, I3, rfl, q⟩
  · exact h.elim
end

/-! ### dicts: copies, walks over keys -/
/-! ### more methods of lists -/
section
variable {X : Cx} {K : PySem.W.Frag} {o e : Expr} {es : List Expr} {to : TE} {t : TA} {apos cpos : Pos}
end
end Ech

set_option maxHeartbeats 1000000
namespace Ech
open PySem PySem.Spec PyProof.Rows L2
open He (ga ma)

/-! ### tuples of ints -/
def TupAt (K : PySem.W.Frag) (G : Hp) (v : V) (d : List Int) : Prop := ∃ t, v = .ref t ∧ SqT K G t (d.map V.int)
theorem TupAt.up {K : PySem.W.Frag} {G G' : Hp} {v : V} {d : List Int} (x : Ex G G') (h : TupAt K G v d) : TupAt K G' v d := by
  obtain ⟨t, h1, h2⟩ := h
  exact ⟨t, h1, Evl.ex_t x h2⟩
theorem tups_up {K : PySem.W.Frag} {G G' : Hp} {vs : List V} {ds : List (List Int)} (x : Ex G G') (h : Paired (TupAt K G) vs ds) : Paired (TupAt K G') vs ds := paired_imp2 h fun _ _ _ z => z.up x
theorem paired_app {α β : Type} {R : α → β → Prop} : ∀ {as cs : List α} {bs ds : List β}, Paired R as bs → Paired R cs ds → Paired R (as ++ cs) (bs ++ ds)
  | _, _, _, _, .nil, h => h
  | _, _, _, _, .cons x t, h => .cons x (paired_app t h)
theorem paired_one {α β : Type} {R : α → β → Prop} {as : List α} {bs : List β} {a : α} {b : β} (h : Paired R as bs) (r : R a b) : Paired R (as ++ [a]) (bs ++ [b]) := paired_app h (.cons r .nil)
theorem dp_tup {K : PySem.W.Frag} {G : Hp} {v : V} {d : List Int} (h : TupAt K G v d) : Dp K G v (.tuple (d.map PyData.int)) := by
  obtain ⟨t, rfl, h⟩ := h
  exact .tup h (dpAll_int d)
theorem dpAll_tups {K : PySem.W.Frag} {G : Hp} : ∀ {vs : List V} {ds : List (List Int)}, Paired (TupAt K G) vs ds → DpAll K G vs (ds.map fun d => .tuple (d.map PyData.int))
  | _, _, .nil => .nil
  | _, _, .cons h t => .cons (dp_tup h) (dpAll_tups t)
theorem sm_ints {d : List Int} {m : Nat} (hm : d.length ≤ m) (h : ∀ i ∈ d, i.natAbs < 10 ^ 90) : Sm 1 (m * 301) (.tuple (d.map PyData.int)) := by
  refine sm_tup m (by rw [List.length_map]; exact hm) fun x hx => ?_
  obtain ⟨i, hi, rfl⟩ := List.mem_map.mp hx
  exact sm_int (h i hi)

/-! ### links -/
/-! ### prices -/
/-! ### wishes -/
abbrev Wish : Type := Int × List (Option Int)
def WishKV (K : PySem.W.Frag) (G : Hp) (kv : Key × V) (w : Wish) : Prop := kv.1 = .inl w.1 ∧ ∃ t, kv.2 = .ref t ∧ SqT K G t (w.2.map pV)
theorem WishKV.up {K : PySem.W.Frag} {G G' : Hp} {kv : Key × V} {w : Wish} (x : Ex G G') (h : WishKV K G kv w) : WishKV K G' kv w := by
  obtain ⟨h1, t, h2, h3⟩ := h
  exact ⟨h1, t, h2, Evl.ex_t x h3⟩
/-! ### tables of pairs -/
def pairRow (L : Nat) (ds : List (List Int)) (a : Nat) : List (Option Int) := (List.range L).map fun b : Nat => if [(a : Int), (b : Int)] ∈ ds then some 0 else none
def pairRows (L : Nat) (ds : List (List Int)) : List (List (Option Int)) := (List.range L).map (pairRow L ds)
theorem pairRow_len (L : Nat) (ds : List (List Int)) (a : Nat) : (pairRow L ds a).length = L := by unfold pairRow; rw [List.length_map, List.length_range]
theorem pairRows_len (L : Nat) (ds : List (List Int)) : (pairRows L ds).length = L := by unfold pairRows; rw [List.length_map, List.length_range]
theorem pairRows_sq (L : Nat) (ds : List (List Int)) : SqR (pairRows L ds) := by
  intro r hr
  obtain ⟨a, _, rfl⟩ := List.mem_map.mp hr
  rw [pairRow_len, pairRows_len]
theorem pairRows_ok (L : Nat) (ds : List (List Int)) : ∀ r ∈ pairRows L ds, ∀ x ∈ r, ∀ i, x = some i → i = 0 := by
  intro r hr x hx i e
  obtain ⟨a, _, rfl⟩ := List.mem_map.mp hr
  obtain ⟨b, _, rfl⟩ := List.mem_map.mp hx
  by_cases h : [(a : Int), (b : Int)] ∈ ds
  · rw [if_pos h] at e
    cases e
    rfl
  · rw [if_neg h] at e
    cases e
theorem tup_eqv (d e : List Int) : PyData.eqv (.tuple (d.map PyData.int)) (.tuple (e.map PyData.int)) = decide (d = e) := by
  rw [show PyData.eqv (.tuple (d.map PyData.int)) (.tuple (e.map PyData.int)) = PyData.eqvAll (d.map PyData.int) (e.map PyData.int) by simp only [PyData.eqv], ints_eqv]
theorem any_tup (ds : List (List Int)) (e : List Int) : (ds.map fun d => PyData.tuple (d.map PyData.int)).any (fun z => PyData.eqv z (.tuple (e.map PyData.int))) = decide (e ∈ ds) := by
  induction ds with
  | nil => rfl
  | cons d ds ih =>
    rw [List.map_cons, List.any_cons, ih, tup_eqv]
    by_cases h : d = e
    · subst h
      simp
    · by_cases h2 : e ∈ ds
      · simp [h, h2]
      · simp [h, h2]
        exact fun z => h z.symm
theorem tups_shaped {ds : List (List Int)} {m k : Nat} (hm : ds.length ≤ m) (hk : ∀ d ∈ ds, d.length ≤ k) (h : ∀ d ∈ ds, ∀ i ∈ d, i.natAbs < 10 ^ 90) : Sm 2 (m * (k * 301 + 1)) (.tuple (ds.map fun d => .tuple (d.map PyData.int))) ∧ Sm 2 (m * (k * 301 + 1)) (.list (ds.map fun d => .tuple (d.map PyData.int))) := by
  have e : ∀ x ∈ ds.map (fun d => PyData.tuple (d.map PyData.int)), Sm 1 (k * 301) x := fun x hx => by
    obtain ⟨d, hd, rfl⟩ := List.mem_map.mp hx
    exact sm_ints (hk d hd) (h d hd)
  exact ⟨sm_tup m (by rw [List.length_map]; exact hm) e, sm_lst m (by rw [List.length_map]; exact hm) e⟩
def metAt (ns : List Int) (d : Nat) : List (List Int) := (List.range (ns.length - d)).map fun k => [ns.getD k 0, ns.getD (k + d) 0]
/-! ### a dict under lock -/
end Ech

namespace Ech
open PySem PySem.Spec PyProof.Rows L2
open He (ga ma)

/-! ### operators of own classes -/
section
variable {X : Cx} {C f : Addr} {CX : CXT} {k : Nat} {ps : List PySem.Str} {sp : Sp} {E : XK}
end

/-! ### rows of tables in tuples -/
def RowT (K : PySem.W.Frag) (G : Hp) (w : V) (r : List (Option Int)) : Prop := ∃ t, w = V.ref t ∧ SqT K G t (r.map pV)
theorem RowT.up {K : PySem.W.Frag} {G G' : Hp} {w : V} {r : List (Option Int)} (x : Ex G G') (h : RowT K G w r) : RowT K G' w r := by
  obtain ⟨t, h1, h2⟩ := h
  exact ⟨t, h1, Evl.ex_t x h2⟩
/-! ### sums of tables -/
end Ech

namespace Ech
open PySem PySem.Spec PyProof.Rows L2
open He (ga ma)

/-! ### list(range(n)) -/
/-! ### repr of wishes -/
/-! ### lists of options, of texts -/
end Ech

namespace Ech
open PySem PySem.Spec PySem.Calls PyProof.Rows L2
open PySem (Draws)

/-! ### list(zip(*xs)) -/
section
variable {X : Cx} {K : PySem.W.Frag} {e : Expr} {te : TE} {sp_ p p2 pos pos2 : Pos}
end

/-! ### for x in zip(a, b), two tuples: each item a tuple of its own -/
def ZN (z TI TO i1 i2 a b : Addr) (i : Nat) (h : Heap) : Prop := (∃ f0 f1, ZipF h z f0 f1 TI TO ∧ (f0 = .none ∨ ∃ (T : Addr) (f : Bool), f0 = rawInt T ∧ f1 = .bool f)) ∧ IsPair h TI (.ref i1) (.ref i2) ∧ (∃ x y, IsPair h TO x y) ∧ h.IsTupleIter i1 a i ∧ h.IsTupleIter i2 b i
theorem ZN.type {z TI TO i1 i2 a b : Addr} {i : Nat} {s : Shared} (h : ZN z TI TO i1 i2 a b i s.heap) : s.TypeIs (.ref z) "zip" := by
  obtain ⟨⟨f0, f1, hz, _⟩, _⟩ := h
  exact ⟨_, hz, rfl⟩
end Ech

namespace Ech
open PySem PySem.Spec PySem.Calls PyProof.Rows L2 HT

/-! ### t[::-1], a tuple -/
section
variable {prog : Program} {w : World} {A : Around} {E : Value → Shared → Prop} {s : Shared}
end
end Ech

namespace Ech
open PySem PySem.Spec PyProof.Rows L2

/-! ### least prices -/
def lessO : Option Int → Option Int → Bool
  | none, _ => false
  | some _, none => true
  | some a, some b => decide (a < b)
def minO (f p : Option Int) : Option Int := if lessO p f then p else f
def leastO (xs : List (Option Int)) : Option Int := xs.foldl minO none
theorem minO_ok {f p : Option Int} (h1 : ∀ i, f = some i → 0 ≤ i) (h2 : ∀ i, p = some i → 0 ≤ i) : ∀ i, minO f p = some i → 0 ≤ i := by
  intro i e
  unfold minO at e
  split at e
  · exact h2 i e
  · exact h1 i e
theorem foldl_ok : ∀ (xs : List (Option Int)) (f : Option Int), (∀ i, f = some i → 0 ≤ i) → (∀ x ∈ xs, ∀ i, x = some i → 0 ≤ i) → ∀ i, xs.foldl minO f = some i → 0 ≤ i
  | [], _, h, _ => h
  | x :: xs, f, h, hx => foldl_ok xs _ (minO_ok h (hx x List.mem_cons_self)) fun y hy => hx y (List.mem_cons_of_mem _ hy)
theorem leastO_ok {xs : List (Option Int)} (h : ∀ x ∈ xs, ∀ i, x = some i → 0 ≤ i) : ∀ i, leastO xs = some i → 0 ≤ i := foldl_ok xs none (fun _ e => by cases e) h
/-! ### the lesser of two tables -/
def or2 (a b : Option Int) : Option Int := leastO [a, b]
def orRow (r s : List (Option Int)) : List (Option Int) := List.zipWith or2 r s
def orRows (A B : List (List (Option Int))) : List (List (Option Int)) := List.zipWith orRow A B
theorem orRow_len {r s : List (Option Int)} (h : r.length = s.length) : (orRow r s).length = r.length := by unfold orRow; rw [List.length_zipWith, h, Nat.min_self]
theorem orRows_len {A B : List (List (Option Int))} (h : A.length = B.length) : (orRows A B).length = A.length := by unfold orRows; rw [List.length_zipWith, h, Nat.min_self]
theorem zw_mem {α β γ : Type} {f : α → β → γ} {as : List α} {bs : List β} {c : γ} (h : c ∈ List.zipWith f as bs) : ∃ a ∈ as, ∃ b ∈ bs, c = f a b := by
  obtain ⟨i, hi, rfl⟩ := List.mem_iff_getElem.mp h
  rw [List.length_zipWith] at hi
  rw [List.getElem_zipWith]
  exact ⟨_, List.getElem_mem (by omega), _, List.getElem_mem (by omega), rfl⟩
theorem orRows_sq {A B : List (List (Option Int))} (h : A.length = B.length) (hA : SqR A) (hB : SqR B) : SqR (orRows A B) := by
  intro r hr
  obtain ⟨a, ha, b, hb, rfl⟩ := zw_mem hr
  rw [orRows_len h, orRow_len (by rw [hA a ha, hB b hb]; exact h), hA a ha]
theorem orRows_ok {A B : List (List (Option Int))} (hA : ∀ r ∈ A, ∀ x ∈ r, ∀ i, x = some i → 0 ≤ i) (hB : ∀ r ∈ B, ∀ x ∈ r, ∀ i, x = some i → 0 ≤ i) : ∀ r ∈ orRows A B, ∀ x ∈ r, ∀ i, x = some i → 0 ≤ i := by
  intro r hr x hx i e
  obtain ⟨a, ha, b, hb, rfl⟩ := zw_mem hr
  obtain ⟨y, hy, z, hz, rfl⟩ := zw_mem hx
  refine leastO_ok (xs := [y, z]) (fun w hw => ?_) i e
  rcases List.mem_cons.mp hw with rfl | hw
  · exact hA a ha _ hy
  · rw [List.mem_singleton.mp hw]
    exact hB b hb _ hz
/-! ### turned tables -/
def turnRows (A : List (List (Option Int))) : List (List (Option Int)) := (List.range A.length).map fun j => A.map fun r => r.getD j none
theorem turnRows_len (A : List (List (Option Int))) : (turnRows A).length = A.length := by unfold turnRows; rw [List.length_map, List.length_range]
theorem turnRows_sq (A : List (List (Option Int))) : SqR (turnRows A) := by
  intro r hr
  obtain ⟨j, hj, rfl⟩ := List.mem_map.mp hr
  rw [List.length_map, turnRows_len]
theorem turnRows_ok {A : List (List (Option Int))} (hA : ∀ r ∈ A, ∀ x ∈ r, ∀ i, x = some i → 0 ≤ i) : ∀ r ∈ turnRows A, ∀ x ∈ r, ∀ i, x = some i → 0 ≤ i := by
  intro r hr x hx i e
  obtain ⟨j, hj, rfl⟩ := List.mem_map.mp hr
  obtain ⟨q, hq, rfl⟩ := List.mem_map.mp hx
  rw [List.getD_eq_getElem?_getD] at e
  cases h : q[j]? with
  | none => rw [h] at e; cases e
  | some y =>
    rw [h] at e
    exact hA q hq y (List.mem_of_getElem? h) i e
/-! ### tables composed -/
end Ech

namespace Ech
open PySem PySem.Spec PyProof.Rows L2
/-! entries -/
/-! prices of a song -/
end Ech

namespace Ech
open PySem PySem.Spec PyProof.Rows L2
open He (ga ma)

/-! ### x != y, where the class tells == alone -/
section
variable {prog : Program} {w : World} {A : Around} {E : Value → Shared → Prop} {s : Shared} {K : PySem.W.Frag} {x C L f : Addr} {h₀ : Heap} {m : PySem.Str → Option Value} {ox : Obj} {od : Option Obj} {b : Value}
end
section
variable {X : Cx} {C f : Addr} {CX : CXT} {k : Nat} {ps : List PySem.Str} {sp : Sp} {E : XK}
end
/-! ### C.m(e, ..), m a classmethod -/
end Ech

namespace Ech
open PySem PySem.Spec PyProof.Rows L2

/-! ### prices below a number tell a price -/
def below (a : Option Int) (z : Int) : Prop := ∃ i, a = some i ∧ i ≤ z
/-! ### entries of tables -/
def en (A : List (List (Option Int))) (i j : Nat) : Option Int := (A.getD i []).getD j none
structure Tn (n : Nat) (A : List (List (Option Int))) : Prop where
  len : A.length = n
  sq : SqR A
theorem Tn.or {n : Nat} {A B : List (List (Option Int))} (hA : Tn n A) (hB : Tn n B) : Tn n (orRows A B) := ⟨by rw [orRows_len (hA.len.trans hB.len.symm)]; exact hA.len, orRows_sq (hA.len.trans hB.len.symm) hA.sq hB.sq⟩
theorem Tn.turn {n : Nat} {A : List (List (Option Int))} (hA : Tn n A) : Tn n (turnRows A) := ⟨by rw [turnRows_len]; exact hA.len, turnRows_sq A⟩
def zeroRows (n : Nat) : List (List (Option Int)) := List.replicate n (List.replicate n (some 0))
theorem zeroRows_len (n : Nat) : (zeroRows n).length = n := by unfold zeroRows; rw [List.length_replicate]
theorem Tn.zero (n : Nat) : Tn n (zeroRows n) := by
  refine ⟨zeroRows_len n, fun r hr => ?_⟩
  unfold zeroRows at hr
  rw [(List.mem_replicate.mp hr).2, List.length_replicate, zeroRows_len]
/-! ### what is asked of sums of tables -/
section
variable {n : Nat} {A B C : List (List (Option Int))} (hA : Tn n A) (hB : Tn n B) (hC : Tn n C)
end
/-! ### tables as data, told apart -/
/-! ### bounds -/
def AllE (P : Int → Prop) (A : List (List (Option Int))) : Prop := ∀ r ∈ A, ∀ x ∈ r, ∀ i, x = some i → P i
theorem AllE.turn {P : Int → Prop} {A : List (List (Option Int))} (hA : AllE P A) : AllE P (turnRows A) := by
  intro r hr x hx i e
  obtain ⟨j, hj, rfl⟩ := List.mem_map.mp hr
  obtain ⟨q, hq, rfl⟩ := List.mem_map.mp hx
  rw [List.getD_eq_getElem?_getD] at e
  cases h : q[j]? with
  | none => rw [h] at e; cases e
  | some y =>
    rw [h] at e
    exact hA q hq y (List.mem_of_getElem? h) i e
theorem tab_sm {A : List (List (Option Int))} {n : Nat} (hT : Tn n A) (hn : n ≤ 5) (h0 : AllE (0 ≤ ·) A) (h1 : AllE (· < 10 ^ 80) A) : Sm 2 (5 * (5 * 301 + 1)) (tabD A) := by
  refine sm_tup 5 (by rw [List.length_map, hT.len]; exact hn) fun d hd => ?_
  obtain ⟨r, hr, rfl⟩ := List.mem_map.mp hd
  refine sm_tup 5 (by rw [List.length_map, hT.sq r hr, hT.len]; exact hn) fun d hd => ?_
  obtain ⟨x, hx, rfl⟩ := List.mem_map.mp hd
  refine sm_pD fun i e => ?_
  have a : 0 ≤ i := h0 r hr x hx i e
  have b : i < 10 ^ 80 := h1 r hr x hx i e
  omega
/-! ### rows in lists, by their entries -/
/-! ### tables of n letters in a heap -/
structure TbN (K : PySem.W.Frag) (G : Hp) (n : Nat) (a : Addr) (A : List (List (Option Int))) : Prop where
  t : TabAt K G a A
  n : Tn n A
  ok : ∀ r ∈ A, ∀ x ∈ r, ∀ i, x = some i → 0 ≤ i
theorem TbN.up {K : PySem.W.Frag} {G G' : Hp} {n : Nat} {a : Addr} {A : List (List (Option Int))} (h : TbN K G n a A) (x : Ex G G') : TbN K G' n a A := ⟨h.t.up x, h.n, h.ok⟩
theorem TbN.ins {K : PySem.W.Frag} {G : Hp} {n : Nat} {a : Addr} {A : List (List (Option Int))} (h : TbN K G n a A) : G a = some (.ins (He.ga K "Table") h.t.choose [("entries", h.t.choose_spec.choose)]) := h.t.choose_spec.choose_spec.1
theorem TbN.or {K : PySem.W.Frag} {G G' : Hp} {n : Nat} {a b x : Addr} {A B : List (List (Option Int))} (hA : TbN K G n a A) (hB : TbN K G n b B) (h : TabAt K G' x (orRows A B)) : TbN K G' n x (orRows A B) := ⟨h, hA.n.or hB.n, orRows_ok hA.ok hB.ok⟩
theorem TbN.neg {K : PySem.W.Frag} {G G' : Hp} {n : Nat} {a x : Addr} {A : List (List (Option Int))} (hA : TbN K G n a A) (h : TabAt K G' x (turnRows A)) : TbN K G' n x (turnRows A) := ⟨h, hA.n.turn, turnRows_ok hA.ok⟩
end Ech

namespace Ech
open PySem PySem.Spec PyProof.Rows L2
open He (ga ma)

/-! ### ranges that end far below 0 -/
section
variable {X : Cx} {tg : Expr}
end
/-! ### texts -/
def istr (i : Int) : PySem.Str := toString i
section
variable {X : Cx} {o e : Expr} {to te : TE} {pos apos : Pos}
end
/-! ### texts of tables and songs -/
def pS : Option Int → PySem.Str
  | none => "-"
  | some i => istr i
def rowS (r : List (Option Int)) : PySem.Str := PySem.Txt.join " " (r.map pS)
def tabS (A : List (List (Option Int))) : PySem.Str := PySem.Txt.join " / " (A.map rowS)
def echoS (e : Lot) : PySem.Str := ((("echo " : PySem.Str) ++ istr e.1) ++ " ") ++ tabS e.2
def headS (L n : Int) : PySem.Str := ((("song " : PySem.Str) ++ istr L) ++ " ") ++ istr n
theorem join_len (sep : PySem.Str) (ys : List PySem.Str) : (PySem.Txt.join sep ys).length ≤ (ys.map (·.length)).sum + ys.length * sep.length := by
  have e : PySem.Txt.join sep ys = PySem.Str.join sep ys := PySem.StrLaws.glued_eq_join sep ys
  rw [e]
  exact PySem.StrLaws.join_length_le sep ys
theorem istr_len {i : Int} (h : i.natAbs < 10 ^ 40) : (istr i).length ≤ 41 := by
  have := PySem.int_text_length_le10 (k := 40) (by decide) h
  unfold istr
  rw [PySem.ofString_length]
  exact this
theorem sumN_le {α : Type} {f : α → Nat} {b : Nat} : ∀ {xs : List α}, (∀ x ∈ xs, f x ≤ b) → (xs.map f).sum ≤ xs.length * b
  | [], _ => by simp
  | x :: xs, h => by
    have h1 := h x List.mem_cons_self
    have h2 := sumN_le (xs := xs) fun y hy => h y (List.mem_cons_of_mem _ hy)
    rw [List.map_cons, List.sum_cons, List.length_cons, Nat.succ_mul]
    omega
theorem lens_le {ys : List PySem.Str} {b : Nat} (h : ∀ y ∈ ys, y.length ≤ b) : (ys.map (·.length)).sum ≤ ys.length * b := sumN_le h
def Low40 (A : List (List (Option Int))) : Prop := ∀ r ∈ A, ∀ x ∈ r, ∀ i, x = some i → i.natAbs < 10 ^ 40
theorem pS_len {x : Option Int} (h : ∀ i, x = some i → i.natAbs < 10 ^ 40) : (pS x).length ≤ 41 := by
  cases x with
  | none => decide
  | some i => exact istr_len (h i rfl)
theorem rowS_len {r : List (Option Int)} (h : ∀ x ∈ r, ∀ i, x = some i → i.natAbs < 10 ^ 40) (h5 : r.length ≤ 5) : (r.map pS |>.map (·.length)).sum + (r.map pS).length * (" " : PySem.Str).length ≤ 300 ∧ (rowS r).length ≤ 300 := by
  have h1 : ((r.map pS).map (·.length)).sum ≤ (r.map pS).length * 41 := lens_le fun y hy => by
    obtain ⟨x, hx, rfl⟩ := List.mem_map.mp hy
    exact pS_len (h x hx)
  have l1 : (r.map pS).length = r.length := List.length_map _
  have l2 : (" " : PySem.Str).length = 1 := by decide
  have h2 := join_len " " (r.map pS)
  rw [l2] at h2 ⊢
  rw [l1] at h1 h2 ⊢
  have h3 : ((r.map pS).map (·.length)).sum + r.length * 1 ≤ 300 := by omega
  exact ⟨h3, Nat.le_trans h2 h3⟩
theorem tabS_len {A : List (List (Option Int))} (h : Low40 A) (h5 : A.length ≤ 5) (hr : ∀ r ∈ A, r.length ≤ 5) : (A.map rowS |>.map (·.length)).sum + (A.map rowS).length * (" / " : PySem.Str).length ≤ 1600 ∧ (tabS A).length ≤ 1600 := by
  have h1 : ((A.map rowS).map (·.length)).sum ≤ (A.map rowS).length * 300 := lens_le fun y hy => by
    obtain ⟨r, hr', rfl⟩ := List.mem_map.mp hy
    exact (rowS_len (h r hr') (hr r hr')).2
  have l1 : (A.map rowS).length = A.length := List.length_map _
  have l2 : (" / " : PySem.Str).length = 3 := by decide
  have h2 := join_len " / " (A.map rowS)
  rw [l2] at h2 ⊢
  rw [l1] at h1 h2 ⊢
  have h3 : ((A.map rowS).map (·.length)).sum + A.length * 3 ≤ 1600 := by omega
  exact ⟨h3, Nat.le_trans h2 h3⟩
theorem echoS_len {e : Lot} (h0 : e.1.natAbs < 10 ^ 40) (h : Low40 e.2) (h5 : e.2.length ≤ 5) (hr : ∀ r ∈ e.2, r.length ≤ 5) : (echoS e).length ≤ 1700 := by
  have h1 := (tabS_len h h5 hr).2
  have h2 := istr_len h0
  have l1 : ("echo " : PySem.Str).length = 5 := by decide
  have l2 : (" " : PySem.Str).length = 1 := by decide
  unfold echoS
  rw [PySem.Str.length_append, PySem.Str.length_append, PySem.Str.length_append, l1, l2]
  omega
theorem headS_len {L n : Int} (hL : L.natAbs < 10 ^ 40) (hn : n.natAbs < 10 ^ 40) : (headS L n).length ≤ 100 := by
  have h1 := istr_len hL
  have h2 := istr_len hn
  have l1 : ("song " : PySem.Str).length = 5 := by decide
  have l2 : (" " : PySem.Str).length = 1 := by decide
  unfold headS
  rw [PySem.Str.length_append, PySem.Str.length_append, PySem.Str.length_append, l1, l2]
  omega
theorem songS_len {L n : Int} {es : List Lot} (hL : L.natAbs < 10 ^ 40) (hn : n.natAbs < 10 ^ 40) (h2 : es.length ≤ 2) (h : ∀ e ∈ es, (echoS e).length ≤ 1700) : ((headS L n :: es.map echoS).map (·.length)).sum + (headS L n :: es.map echoS).length * ("\n" : PySem.Str).length ≤ 5000 := by
  have h1 : ((es.map echoS).map (·.length)).sum ≤ (es.map echoS).length * 1700 := lens_le fun y hy => by
    obtain ⟨e, he, rfl⟩ := List.mem_map.mp hy
    exact h e he
  have l1 : (es.map echoS).length = es.length := List.length_map _
  have l2 : ("\n" : PySem.Str).length = 1 := by decide
  have h3 := headS_len hL hn
  rw [l2, List.map_cons, List.sum_cons, List.length_cons, l1]
  rw [l1] at h1
  omega
/-! ### songs that are equal -/
section
variable {X : Cx} {k : Nat} {K : PySem.W.Frag} {CX : CXT} {f : Addr} {ps : List PySem.Str} {E : XK}
end
/-! ### plain songs: tuples of letters, length and lots -/
def lotOf (e : Ec) : Lot := (e.1, e.2.2)
def turnLots (es : List Lot) : List Lot := es.map fun e => (e.1, turnRows e.2)
def PlainAt (K : PySem.W.Frag) (G : Hp) (v : V) (L n : Int) (es : List Lot) : Prop := ∃ a b ws, v = .ref a ∧ SqT K G a [.int L, .int n, .ref b] ∧ SqT K G b ws ∧ Paired (LotAt K G) ws es
theorem PlainAt.up {K : PySem.W.Frag} {G G' : Hp} {v : V} {L n : Int} {es : List Lot} (x : Ex G G') (h : PlainAt K G v L n es) : PlainAt K G' v L n es := by
  obtain ⟨a, b, ws, h1, h2, h3, h4⟩ := h
  exact ⟨a, b, ws, h1, Evl.ex_t x h2, Evl.ex_t x h3, paired_imp2 h4 fun _ _ _ z => z.up x⟩
structure TextOk (L n : Int) (es : List Lot) : Prop where
  l : L.natAbs < 10 ^ 40
  n : n.natAbs < 10 ^ 40
  few : es.length ≤ 2
  each : ∀ e ∈ es, e.1.natAbs < 10 ^ 40 ∧ Low40 e.2 ∧ e.2.length ≤ 5 ∧ ∀ r ∈ e.2, r.length ≤ 5
theorem TextOk.len {L n : Int} {es : List Lot} (h : TextOk L n es) : ((headS L n :: es.map echoS).map (·.length)).sum + (headS L n :: es.map echoS).length * ("\n" : PySem.Str).length ≤ 5000 :=
  songS_len h.l h.n h.few fun e he => echoS_len (h.each e he).1 (h.each e he).2.1 (h.each e he).2.2.1 (h.each e he).2.2.2
theorem ex_gr {G H H' : Hp} (hg : Ex G H) (x : Ex H H') : Gr G H G H' := ⟨x, ex_refl _, ex_trans hg x, fun _ _ => rfl⟩
theorem Low40.turn {A : List (List (Option Int))} (h : Low40 A) : Low40 (turnRows A) := AllE.turn (P := fun i => i.natAbs < 10 ^ 40) h
theorem ScoreOk.turn {L n : Int} {es : List Lot} (h : ScoreOk L n es) : ScoreOk L n (turnLots es) := by
  refine ⟨h.l1, h.l5, h.n1, h.n30, by unfold turnLots; rw [List.length_map]; exact h.few, fun e he => ?_, fun h2 => ?_⟩
  · obtain ⟨e0, he0, rfl⟩ := List.mem_map.mp he
    have := h.each e0 he0
    exact ⟨this.1, this.2.1, by show ((turnRows e0.2).length : Int) = L; rw [turnRows_len]; exact this.2.2.1, turnRows_sq _, turnRows_ok this.2.2.2.2⟩
  · unfold turnLots at h2
    rw [List.length_map] at h2
    have := h.sum h2
    unfold lotSum turnLots
    rw [List.map_map]
    exact this
/-! ### links with the rows of their tables -/
abbrev LinkC : Type := Int × Int × List (List (Option Int))
def LinkAt (K : PySem.W.Frag) (G : Hp) (w : V) (t : LinkC) : Prop := ∃ b r, w = .ref b ∧ SqT K G b [.int t.1, .int t.2.1, r] ∧ RowsAt K G r t.2.2
theorem LinkAt.up {K : PySem.W.Frag} {G G' : Hp} {w : V} {t : LinkC} (x : Ex G G') (h : LinkAt K G w t) : LinkAt K G' w t := by
  obtain ⟨b, r, h1, h2, h3⟩ := h
  exact ⟨b, r, h1, Evl.ex_t x h2, h3.up x⟩
end Ech

namespace Ech
open PySem PySem.Spec PyProof.Rows L2

/-! ### t.index(i) of ints in a tuple -/
section
variable {X : Cx} {o e : Expr} {to te : TE} {apos pos cpos : Pos}
end
/-! ### tuples of which it is known that they have no dict -/
def TupN (H : Hp) (a : Addr) (xs : List V) : Prop := ∃ o : Obj, o.dict = none ∧ H a = some (.frz o (.tup xs))
theorem TupN.sq {K : PySem.W.Frag} {H : Hp} {a : Addr} {xs : List V} (h : TupN H a xs) : SqT K H a xs := h.elim fun o z => Or.inl (Or.inr ⟨o, z.2⟩)
theorem TupN.up {H H' : Hp} {a : Addr} {xs : List V} (x : Ex H H') (h : TupN H a xs) : TupN H' a xs := h.elim fun o z => ⟨o, z.1, x _ _ z.2⟩
section
variable {X : Cx} {o e : Expr} {to te : TE} {apos pos cpos : Pos}
end
/-! ### len(set(t)) of different ints in a tuple -/
/-! ### new names of letters -/
def ixOf : List Int → Int → Nat
  | [], _ => 0
  | a :: l, z => if a = z then 0 else ixOf l z + 1
theorem ix_ok : ∀ {ns : List Int} {z : Int}, z ∈ ns → ns[ixOf ns z]? = some z ∧ ∀ m, m < ixOf ns z → ns[m]? ≠ some z
  | a :: l, z, h => by
    unfold ixOf
    by_cases e : a = z
    · rw [if_pos e]
      exact ⟨by rw [e]; rfl, fun m hm => absurd hm (Nat.not_lt_zero _)⟩
    · rw [if_neg e]
      have hz : z ∈ l := (List.mem_cons.mp h).resolve_left fun w => e w.symm
      obtain ⟨h1, h2⟩ := ix_ok hz
      refine ⟨h1, fun m hm => ?_⟩
      cases m with
      | zero =>
        intro w
        exact e (Option.some.inj w)
      | succ m => exact h2 m (by omega)
theorem ix_uniq {ns : List Int} {z : Int} {j : Nat} (nd : ns.Nodup) (h : ns[j]? = some z) : ixOf ns z = j := by
  have hz := List.mem_of_getElem? h
  have h1 := (ix_ok hz).1
  obtain ⟨hj, ej⟩ := List.getElem?_eq_some_iff.mp h
  obtain ⟨hi, ei⟩ := List.getElem?_eq_some_iff.mp h1
  have pw := List.pairwise_iff_getElem.mp nd
  rcases Nat.lt_trichotomy (ixOf ns z) j with lt | eq | gt
  · exact absurd (ei.trans ej.symm) (pw _ _ hi hj lt)
  · exact eq
  · exact absurd (ej.trans ei.symm) (pw _ _ hj hi gt)
structure Nm (L : Nat) (ns : List Int) : Prop where
  len : ns.length = L
  nd : ns.Nodup
  lt : ∀ x ∈ ns, 0 ≤ x ∧ x < L
  on : ∀ c : Nat, c < L → (c : Int) ∈ ns
theorem Nm.ix {L : Nat} {ns : List Int} (h : Nm L ns) {c : Nat} (hc : c < L) : ixOf ns c < L := by
  have := (List.getElem?_eq_some_iff.mp (ix_ok (h.on c hc)).1).1
  rw [h.len] at this
  exact this
theorem Nm.at {L : Nat} {ns : List Int} (h : Nm L ns) {i : Nat} (hi : i < L) : ∃ c : Nat, c < L ∧ ns[i]? = some (c : Int) ∧ ns.getD i 0 = c ∧ ixOf ns c = i := by
  have hi' : i < ns.length := by rw [h.len]; exact hi
  have hx := h.lt _ (List.getElem_mem hi')
  refine ⟨ns[i].toNat, by omega, ?_, ?_, ?_⟩
  · rw [List.getElem?_eq_getElem hi', Int.toNat_of_nonneg hx.1]
  · rw [List.getD_eq_getElem?_getD, List.getElem?_eq_getElem hi', Int.toNat_of_nonneg hx.1]
    rfl
  · exact ix_uniq h.nd (by rw [List.getElem?_eq_getElem hi', Int.toNat_of_nonneg hx.1])
def invL (L : Nat) (ns : List Int) : List Int := (List.range L).map fun c : Nat => ((ixOf ns c : Nat) : Int)
theorem invL_len (L : Nat) (ns : List Int) : (invL L ns).length = L := by unfold invL; rw [List.length_map, List.length_range]
theorem Nm.inv {L : Nat} {ns : List Int} (h : Nm L ns) : Nm L (invL L ns) := by
  refine ⟨invL_len L ns, ?_, fun x hx => ?_, fun c hc => ?_⟩
  · unfold invL
    rw [List.nodup_iff_pairwise_ne, List.pairwise_map]
    refine List.Pairwise.imp_of_mem (fun {a b} ha hb hab e => hab ?_) (List.nodup_iff_pairwise_ne.mp List.nodup_range)
    have e' : ixOf ns a = ixOf ns b := by exact_mod_cast e
    have h1 := (ix_ok (h.on a (List.mem_range.mp ha))).1
    have h2 := (ix_ok (h.on b (List.mem_range.mp hb))).1
    rw [e', h2] at h1
    exact_mod_cast (Option.some.inj h1).symm
  · unfold invL at hx
    obtain ⟨c, hc, rfl⟩ := List.mem_map.mp hx
    have := h.ix (List.mem_range.mp hc)
    omega
  · obtain ⟨d, hd, _, _, e⟩ := h.at hc
    unfold invL
    exact List.mem_map.mpr ⟨d, List.mem_range.mpr hd, by rw [e]⟩
def nameRow (ns : List Int) (A : List (List (Option Int))) (c : Nat) : List (Option Int) := (List.range A.length).map fun d : Nat => en A (ixOf ns c) (ixOf ns d)
def nameRows (ns : List Int) (A : List (List (Option Int))) : List (List (Option Int)) := (List.range A.length).map (nameRow ns A)
theorem nameRow_len (ns : List Int) (A : List (List (Option Int))) (c : Nat) : (nameRow ns A c).length = A.length := by unfold nameRow; rw [List.length_map, List.length_range]
theorem nameRows_len (ns : List Int) (A : List (List (Option Int))) : (nameRows ns A).length = A.length := by unfold nameRows; rw [List.length_map, List.length_range]
theorem nameRows_sq (ns : List Int) (A : List (List (Option Int))) : SqR (nameRows ns A) := by
  intro r hr
  obtain ⟨c, _, rfl⟩ := List.mem_map.mp hr
  rw [nameRow_len, nameRows_len]
theorem en_mem {A : List (List (Option Int))} {i j : Nat} {v : Int} (h : en A i j = some v) : ∃ r ∈ A, some v ∈ r := by
  unfold en at h
  rw [List.getD_eq_getElem?_getD] at h
  cases z : (A.getD i [])[j]? with
  | none => rw [z] at h; cases h
  | some y =>
    rw [z] at h
    have h' : y = some v := h
    have hy := List.mem_of_getElem? z
    rw [List.getD_eq_getElem?_getD] at hy
    cases z2 : A[i]? with
    | none => rw [z2] at hy; cases hy
    | some r =>
      rw [z2] at hy
      exact ⟨r, List.mem_of_getElem? z2, h' ▸ hy⟩
theorem AllE.name {P : Int → Prop} {ns : List Int} {A : List (List (Option Int))} (h : AllE P A) : AllE P (nameRows ns A) := by
  intro r hr x hx i e
  obtain ⟨c, _, rfl⟩ := List.mem_map.mp hr
  obtain ⟨d, _, rfl⟩ := List.mem_map.mp hx
  obtain ⟨r, h1, h2⟩ := en_mem e
  exact h r h1 _ h2 i rfl
def nameLots (ns : List Int) (es : List Lot) : List Lot := es.map fun e => (e.1, nameRows ns e.2)
theorem ScoreOk.name {L n : Int} {es : List Lot} {ns : List Int} (h : ScoreOk L n es) : ScoreOk L n (nameLots ns es) := by
  refine ⟨h.l1, h.l5, h.n1, h.n30, by unfold nameLots; rw [List.length_map]; exact h.few, fun e he => ?_, fun h2 => ?_⟩
  · obtain ⟨e0, he0, rfl⟩ := List.mem_map.mp he
    have := h.each e0 he0
    exact ⟨this.1, this.2.1, by show ((nameRows ns e0.2).length : Int) = L; rw [nameRows_len]; exact this.2.2.1, nameRows_sq _ _, AllE.name (P := (0 ≤ ·)) this.2.2.2.2⟩
  · unfold nameLots at h2
    rw [List.length_map] at h2
    have := h.sum h2
    unfold lotSum nameLots
    rw [List.map_map]
    exact this
end Ech

namespace Ech
open PySem PySem.Spec PyProof.Rows L2
open He (ga ma)

/-! ### own error classes over ValueError: what the written part says, as a test -/
theorem oexB_ok {K : PySem.W.Frag} {C : Addr} (h : oexB K C = true) : OexC K C := by
  obtain ⟨h1, h⟩ := He.ba h
  obtain ⟨h2, h⟩ := He.ba h
  obtain ⟨h3, h⟩ := He.ba h
  obtain ⟨h4, h5⟩ := He.ba h
  refine ⟨?_, He.eqO_ok h2, of_decide_eq_true h3, of_decide_eq_true h4, h5⟩
  unfold exoB at h1
  split at h1
  · rename_i dd cd sl hl
    split at h1
    · rename_i C' bm k0 k1 k2 k3 n k5 hm hsl
      obtain ⟨h1, r⟩ := He.ba h1
      obtain ⟨h1, hd⟩ := He.ba h1
      obtain ⟨h1, nd⟩ := He.ba h1
      obtain ⟨e1, e2⟩ := He.ba h1
      obtain ⟨nm, bs, mro, nsp, qn, hasD, sn, sub, ab, col, del⟩ := cd
      have e1' : C' = C := eq_of_beq e1
      have e2' : n = "ValueError.__new__" := eq_of_beq e2
      have hm' : mro = .ref C' :: bm := hm
      have hd' : hasD = true := hd
      have nd' : del = false := by
        have : (!del) = true := nd
        simpa using this
      have hsl' : sl = #[k0, k1, k2, k3, some (.builtin n), k5] := Array.toList_inj.mp hsl
      subst e1' e2' hm' hd' nd' hsl'
      exact ⟨nm, qn, nsp, bs, bm, sn, sub, ab, col, dd, k0, k1, k2, k3, k5, hl, r⟩
    · cases h1
  · cases h1
/-! ### a caught error as an object of the heap -/
def ExH (a : Addr) (cls : Value) (d : Option Addr) : HO := .ext fun h => ∃ oe vs, h.get? a = some oe ∧ Zc cls d oe ∧ oe.data = .fields vs
theorem exh_ok {P : Program} {w : World} {H : Hp} {h : Heap} {a : Addr} {cls : Value} {d : Option Addr} {oe : Obj} {vs : Array Value} (h1 : h.get? a = some oe) (h2 : Zc cls d oe) (h3 : oe.data = .fields vs) : ObjOk P w H h a (ExH a cls d) :=
  ⟨⟨oe, vs, h1, h2, h3⟩, ⟨oe, h1⟩, fun g1 g2 ⟨o, v, k1, k2, k3⟩ st => ⟨o, v, st o k1, k2, k3⟩⟩
section
variable {X : Cx} {pins : List (Addr × Obj)} {σ : L2.St} {H : Hp} {s : Shared} {a : Addr} {oe : Obj} {vs : Array Value} {cls : Value} {d : Option Addr}
theorem exh_at (I : Inv X pins σ H s) (h : H a = some (ExH a cls d)) : ∃ oe vs, s.heap.get? a = some oe ∧ Zc cls d oe ∧ oe.data = .fields vs := by
  have x : ObjOk X.prog X.w H s.heap a (.ext fun h => ∃ oe vs, h.get? a = some oe ∧ Zc cls d oe ∧ oe.data = .fields vs) := I.hok a _ h
  exact x.1
theorem inv_adopt (I : Inv X pins σ H s) (ha : s.heap.get? a = some oe) (hz : Zc cls d oe) (hd : oe.data = .fields vs) (na : H a = none) (nL : a ≠ X.env.locals) (n0 : X.s_0.heap.get? a = none) (np : ∀ p ∈ X.pn ++ pins, p.1 ≠ a) : Inv X pins σ (upd H a (ExH a cls d)) s := by
  have ne : ∀ b u, H b = some u → b ≠ a := fun b u e z => by rw [z, na] at e; cases e
  refine ⟨I.ok, I.os, I.bare, ⟨I.base.keep, I.base.slot, fun b o e n hx => ?_, I.base.there, fun b xs e => ?_, fun b o u e => ?_, fun b ps e => ?_⟩, I.loc, I.cell, ?_, fun y c e => ?_, fun p hp => ?_, fun b o e => ?_, I.len⟩
  · rw [upd_ne (fun z => by rw [z, n0] at e; cases e)]
    exact I.base.free b o e n hx
  · have := I.base.tups b xs e
    rw [upd_ne (ne _ _ this)]
    exact this
  · have := I.base.frzs b o u e
    rw [upd_ne (ne _ _ this)]
    exact this
  · obtain ⟨more, this⟩ := I.base.tbls b ps e
    exact ⟨more, by rw [upd_ne (ne _ _ this)]; exact this⟩
  · rw [upd_ne nL.symm]
    exact I.free
  · rw [upd_ne (fun z => ?_)]
    · exact I.freeC y c e
    · obtain ⟨v, o, ho, hc⟩ := I.cell y c e
      rw [z, ha] at ho
      cases ho
      rw [hd] at hc
      cases hc
  · obtain ⟨p1, p2, p3, p4, p5⟩ := I.pin p hp
    exact ⟨p1, by rw [upd_ne (np p hp)]; exact p2, p3, p4, p5⟩
  · by_cases hb : b = a
    · subst hb
      rw [upd_same] at e
      cases e
      exact exh_ok ha hz hd
    · rw [upd_ne hb] at e
      exact (I.hok b o e).stay (fun _ _ _ z => z) (fun c hc => by rw [upd_ne (ne _ _ hc)]; exact hc) fun c xs hc => by rw [upd_ne (ne _ _ hc)]; exact hc
end
def wTake (K : PySem.W.Frag) (c : Value) (i : Nat) (ts : TS) (Wout : WX) (D : Ends) : WX := fun cls d σ H =>
  ∃ b, PySem.W.exmOne K cls c = some b ∧ (b = true → ∀ a, H a = none → ts { nx := fun σ' H' => D.nx (σ'.set i none) H', rt := D.rt, bk := fun σ' H' => D.bk (σ'.set i none) H', ct := fun σ' H' => D.ct (σ'.set i none) H' } (σ.set i (some (.ref a))) (upd H a (ExH a cls d))) ∧
    (b = false → Wout cls d σ H)
section
variable {X : Cx} {x n : PySem.Str} {c : Value} {i : Nat} {body suite : List Stmt} {b₀ : Stmt} {np pos pos' : Pos} {tb : WX → TS} {ts : TS} {Wout : WX}
end
/-! ### fields of such an error, isinstance -/
theorem exfB_ok {K : PySem.W.Frag} {C : Addr} (h : exfB K C = true) : ExcC K C := by
  obtain ⟨h1, h⟩ := He.ba h
  obtain ⟨h2, h⟩ := He.ba h
  obtain ⟨h3, h⟩ := He.ba h
  obtain ⟨h4, h⟩ := He.ba h
  obtain ⟨h5, h⟩ := He.ba h
  obtain ⟨h6, h⟩ := He.ba h
  obtain ⟨h7, h8⟩ := He.ba h
  exact ⟨He.eqO_ok h1, of_decide_eq_true h2, of_decide_eq_true h3, h4, He.eqO_ok h5, He.eqO_ok h6, of_decide_eq_true h7, of_decide_eq_true h8⟩
def uXf (C : Addr) (n : PySem.Str) (te : TE) : TE := fun σ H Q => te σ H fun x H1 => match x with
  | .ref a => ∃ d fs v, H1 a = some (ExH a (.ref C) (some d)) ∧ H1 d = some (.xd fs) ∧ fs.lookup n = some v ∧ Q v H1
  | _ => False
theorem u_xf {X : Cx} {C : Addr} {e : Expr} {te : TE} {pos : Pos} {n : PySem.Str} (T : ExcC X.K C) (hno : PySem.W.findIn X.K (.ref C) n = some none) (he : PE X e te) (hb : attributeBase e n X.env (eval e X.env) = eval e X.env := by rfl) : PE X (.Attribute e n pos) (uXf C n te) := by
  refine ⟨fun pins s σ H Q I h => ?_⟩
  refine attr_of hb (thn (he.run pins s σ H _ I h) fun u s1 ⟨x, H1, I1, rx, q1⟩ => ?_)
  cases x with
  | ref a =>
    obtain ⟨dd, fs, v, ha, hd, hv, q⟩ := q1
    cases rx
    obtain ⟨oe, vs, g1, g2, g3⟩ := exh_at I1 ha
    have hx : ObjOk X.prog X.w H1 s1.heap dd (.xd fs) := I1.hok dd _ hd
    obtain ⟨mA, hns, hr⟩ := hx
    obtain ⟨od, ho, hl⟩ := lookIn_ns hns
    obtain ⟨u, hu, ru⟩ := RelO.some_of (v := v) (o := mA n) (by rw [← hv]; exact hr n)
    have J : PySem.W.InstAt s1.heap a oe C (some od) := ⟨g1, g2.1, by unfold PySem.W.notCls; rw [g3] <;> rfl, by rw [g2.2]; exact ho⟩
    exact HandSPX.exc_get I1.kIn J T.hg T.hk T.hs (PySem.W.findObj_own T.hd hno rfl (by rw [hl, hu])) (handed_of ru) ⟨v, H1, I1.tok _, ru, q⟩
  | _ => exact q1.elim
def rIsH (K : PySem.W.Frag) (C : Addr) : List V → Hp → VK → Prop := fun xs H Q => match xs with
  | [.ref a, c] => ∃ d fs cv b, H a = some (ExH a (.ref C) (some d)) ∧ H d = some (.xd fs) ∧ (∀ u, RelV c u → u = cv) ∧ PySem.W.kitOne K (.ref C) cv = some b ∧ Q (.bl b) H
  | _ => False
theorem c_isH {X : Cx} {C : Addr} {K : PySem.W.Frag} (hK : X.K = K) (T : ExcC K C) : CallR X (.builtin "isinstance") (rIsH K C) := by
  subst hK
  intro pins s σ H xs us Q I r h
  unfold rIsH at h
  split at h
  · rename_i a c
    obtain ⟨dd, fs, cv, b, ha, hd, hcv, e, q⟩ := h
    cases r with
    | cons rx rr =>
      cases rr with
      | cons rt rr =>
        cases rr
        cases rx
        have ec := hcv _ rt
        subst ec
        obtain ⟨oe, vs, g1, g2, g3⟩ := exh_at I ha
        have hx : ObjOk X.prog X.w H s.heap dd (.xd fs) := I.hok dd _ hd
        obtain ⟨mA, hns, hr⟩ := hx
        obtain ⟨od, ho, hl⟩ := lookIn_ns hns
        have J : PySem.W.InstAt s.heap a oe C (some od) := ⟨g1, g2.1, by unfold PySem.W.notCls; rw [g3] <;> rfl, by rw [g2.2]; exact ho⟩
        have hcl : (PySem.W.clsIn X.K C).isSome = true := by
          obtain ⟨cd, hc, _⟩ := PySem.W.any_some T.hd
          rw [hc]
          rfl
        exact PySem.W.kia_one (PySem.W.kitx_exc hcl T.hg T.hk T.hs T.ha T.hn T.ht T.hm) I.kIn J e (fun z => nomatch z) fun tk => ⟨.bl b, H, I.kept (t' := tk) fun _ _ z => z, rfl, q⟩
  · exact h.elim

/-! ### raise C(e) -/
def spErr (K : PySem.W.Frag) (C : Addr) (f : PySem.Str) : Sp := fun vs H Q _ => ∃ a v, vs = [.ref a, v] ∧ H a = some (exo a C none) ∧ ∀ dx, H dx = none → dx ≠ a → Q .non (upd (upd H dx (exd dx [(f, v)])) a (exo a C (some dx)))
def uRaise (C : Addr) (f : PySem.Str) (W : WX) (te : TA) : TS := fun _ σ H => te σ H fun vs H1 => match vs with
  | [v] => ∀ d H2, New H1 d (.xd [(f, v)]) H2 → W (.ref C) (some d) σ H2
  | _ => False
theorem u_raise {X : Cx} {W : WX} {C fI : Addr} {f x : PySem.Str} {k : Nat} {fd : FuncData} {ps : List PySem.Str} {CX : CXT} {e : Expr} {te : TA} {p pos pos2 : Pos} (hc : X.calm = true) (tk : Takes X W) (T : OexC X.K C) (iC : PySem.W.findIn X.K (.ref C) "__init__" = some (some (.ref fI))) (tI : PySem.W.typeIn X.K (.ref fI) = some (.type "function"))
    (F1 : FnOk X.prog X.w X.K X.mg X.base CX k fI fd ps (spErr X.K C f)) (hr : Room (k + 1) X.A) (hb : Binds X.K fd ps []) (hx : Passes CX X (fun _ _ _ => False)) (hg : Gl X x) (hm : X.mg x = some (.ref C)) (ha : PA X [e] te)
    (hdb : (x == ("__debug__" : PySem.Str)) = false := by decide) (he : starEach [e] X.env = (false, eval e X.env) :: starEach [] X.env := by rfl) (hpl : (backTo pos (starEach [] X.env)).any (·.1) = false := by rfl) :
    PS X (.Raise (some (.Call (.Name x p) [e] [] pos)) none pos2) (uRaise C f W te) := by
  refine ps_wk (ps_raise hc tk (pmk_oex T iC tI F1 hr hb .nil hx hg hm (pa_cl ha) hdb he hpl)) fun D σ H q => ⟨_, q, fun vs H1 q1 => ?_⟩
  split at q1
  · rename_i v
    refine ⟨by show 1 ≤ 1000; decide, fun a ha1 => ⟨a, v, rfl, upd_same, fun dx hdx ne => ⟨rfl, dx, [(f, v)], upd_same, by rw [upd_ne ne, upd_same], ?_, q1 dx _ ⟨?_, ?_⟩⟩⟩⟩
    · rw [upd_ne ne] at hdx
      exact hdx
    · rw [upd_ne ne] at hdx
      exact hdx
    · funext b
      by_cases hb : b = dx
      · rw [hb, upd_same, upd_same]
      · rw [upd_ne hb, upd_ne hb]
        by_cases hba : b = a
        · rw [hba, del_same, ha1]
        · rw [del_ne hba, upd_ne hba, upd_ne hb, upd_ne hba]
  · exact q1.elim
/-! ### calls of defs that raise -/
theorem takesF {X : Cx} : Takes X (fun _ _ _ _ => False) := fun _ _ ⟨_, _, _, _, _, _, _, _, _, _, _, _, _, _, _, _, w⟩ => w.elim
theorem passF {X : Cx} : Passes (L2.CX X.prog X.w) X (fun _ _ _ => False) := fun _ σ _ _ e s' I c => takesF (X := X) e s' (XE.of_call (W := fun _ _ _ _ => False) I (fun _ _ _ h => h) c)
def uCallT (sp : Sp) (dvs : List V) (W : WX) (t : TA) : TE := fun σ H Q => t σ H fun vs H1 => sp (vs ++ dvs) H1 Q fun cls d H2 => W cls d σ H2
section
variable {X : Cx} {W : WX} {k : Nat} {f : Addr} {ps : List PySem.Str} {sp : Sp} {dvs : List V} {x : PySem.Str} {p pos : Pos} {e : Expr} {es : List Expr} {t : TA}
theorem u_callT (tk : Takes X W) (F : FnOk X.prog X.w X.K X.mg X.base (L2.CX X.prog X.w) k f (fdA X.K f) ps sp) (hr : Room k X.A) (hg : Gl X x) (hm : X.mg x = some (.ref f)) (hk : PySem.W.keepIn X.K (.ref f) = true) (hb : Bnd X.K f ps dvs) (ha : PA X (e :: es) t)
    (hdb : (x == ("__debug__" : PySem.Str)) = false := by decide) (he : starEach (e :: es) X.env = (false, eval e X.env) :: starEach es X.env := by rfl) (hpl : (backTo pos (starEach es X.env)).any (·.1) = false := by rfl) :
    PE X (.Call (.Name x p) (e :: es) [] pos) (uCallT sp dvs W t) := hb.elim fun _ q => pe_callSD (E := WE W) F hr hg hm hk q.2 q.1 (fun σ => passAt tk σ) ha hdb he hpl
end
/-! ### all that is asked of an own error with one field -/
structure ErrC (K : PySem.W.Frag) (C : Addr) (f : PySem.Str) : Prop where
  oex : OexC K C
  exc : ExcC K C
  ini : PySem.W.findIn K (.ref C) "__init__" = some (some (.ref (ma K C "__init__")))
  fun_ : PySem.W.typeIn K (.ref (ma K C "__init__")) = some (.type "function")
  none_ : PySem.W.findIn K (.ref C) f = some none
  met : PySem.W.exmOne K (.ref C) (.ref C) = some true
  isV : PySem.W.kitOne K (.ref C) (.type "ValueError") = some true
  vei : PySem.W.findCls K (.type "ValueError") (.type "type") "__init__" = some (.val (.builtin "ValueError.__init__"))
theorem errB_ok {K : PySem.W.Frag} {C : Addr} {f : PySem.Str} (h : errB K C f = true) : ErrC K C f := by
  obtain ⟨h1, h⟩ := He.ba h
  obtain ⟨h2, h⟩ := He.ba h
  obtain ⟨h3, h⟩ := He.ba h
  obtain ⟨h4, h⟩ := He.ba h
  obtain ⟨h5, h⟩ := He.ba h
  obtain ⟨h6, h⟩ := He.ba h
  obtain ⟨h7, h8⟩ := He.ba h
  refine ⟨oexB_ok h1, exfB_ok h2, He.eqO_ok h3, of_decide_eq_true h4, of_decide_eq_true h5, of_decide_eq_true h6, of_decide_eq_true h7, ?_⟩
  unfold initB at h8
  split at h8
  · rename_i n e
    rw [e, eq_of_beq h8]
  · cases h8
/-! ### any -/
end Ech

namespace Ech
open PySem PySem.Spec PySem.SeqAt
open AutoSeq1 (wpAny_loadPart')
open MeetsSeq MeetsSeq2 MeetsSeq3 SeqRoads2
section
variable {prog : Program} {w : World} {A : Around} {R : Result → Shared → Prop}
end
open PyProof.Rows L2
open He (ga ma)
/-! ### [x] != [y], x and y songs that are equal -/
/-! ### a statement's end by a condition that is named -/
def uCut (t : TS) : TS := fun D σ H => ∃ R : L2.St → Hp → Prop, t { D with nx := R } σ H ∧ ∀ σ' H', R σ' H' → D.nx σ' H'
theorem ps_cut {X : Cx} {st : Stmt} {t : TS} (h : PS X st t) : PS X st (uCut t) := by
  refine ⟨fun pins s σ H D I ⟨R, q, i⟩ => ?_⟩
  refine wpAny_mono (h.run pins s σ H _ I q) (fun f s1 hsp => ?_) fun _ _ x => x
  cases f with
  | next =>
    obtain ⟨σ', H', J, z⟩ := hsp
    exact ⟨σ', H', J, i _ _ z⟩
  | brk => exact hsp
  | cont => exact hsp
  | ret u => exact hsp
/-! ### plain lots as data -/
/-! ### the signs of texts -/
end Ech

namespace Ech
open PySem PySem.Spec PyProof.Rows L2
open He (ga ma)
open LamX (Tabs TabS TabB CodeO ExtN LamS lamEnv lamCx lam_start2 run_ofS)

/-! ### a lambda is made: all but its maker's table of code objects stays -/
section
variable {X : Cx} {pins : List (Addr × Obj)} {σ : L2.St} {H : Hp} {s : Shared}
theorem lam_new {T : List (Addr × PySem.Str)} {c P : Addr} {params : Arguments} {body : Expr} {scope : Scope} {pos : Pos} {E : Value → Shared → Prop} {Q : Value → Shared → Prop} (I : Inv X pins σ H s) (TB : TabB X.base X.mg c P) (code_is : X.env.code = .ref c)
    (inT : (P, X.env.qual ++ "<lambda>") ∈ T) (oneT : ∀ p ∈ T, p.1 = P → p.2 = X.env.qual ++ "<lambda>") (tabs : Tabs T H) (hdef : defaultsOf params X.env = ([], [])) (hfree : ∀ y ∈ scope.names, y.2 = .free → ∃ c, X.env.cells.lookup y.1 = some c)
    (then_ : ∀ (f c' : Addr) (pm ctv : Value) (H1 : Hp) (s' : Shared), Inv X pins σ H1 s' → (∀ b o, b ≠ P → H b = some o → H1 b = some o) → Tabs T H1 →
      s'.heap.get? f = some (PySem.W.kla_obj "<lambda>" (X.env.qual ++ "<lambda>") params body scope (cloFrom X.env.cells scope.names []) pm c' ctv) → H1 f = none → f ∉ frs X.stack → H1 c' = some (CodeO c' (X.env.qual ++ "<lambda>")) → Q (.ref f) s') :
    wpAny (model X.prog X.w) X.A (eval (.Lambda params body scope pos) X.env) Q E s := by
  obtain ⟨ps, atP, three, each⟩ := tabs _ inT
  refine PySem.W.kla_eval hdef ?_
  have builtP : s.heap.BuiltinsAt X.mg P := TB.bm.keeps I.bk
  have objP : s.heap.get? P = some { cls := .none, data := .fields ps } := I.hok P _ atP
  have away : ∀ f, s.heap.objs.size ≤ f → f ∉ frs X.stack := by
    intro f hf z
    rcases List.mem_cons.mp (I.stkSub _ z) with e | e
    · have lt := I.lt
      rw [← e] at lt
      exact absurd (Nat.lt_of_lt_of_le lt hf) (Nat.lt_irrefl _)
    · exact I.nofs hf e
  cases found : codeAmong pos ps.toList with
  | some cv =>
    obtain ⟨c', rfl, code_at⟩ := each pos cv found
    refine PySem.W.kla_makeFunctionHit (mg := X.mg) (c := c) (P := P) (ps := ps) (closure_ok hfree) I.ok.glob (I.mod.glob.keeps I.bk) code_is (TB.code.keeps I.bk) objP three found builtP ?_
    intro ctv h' tk keep size
    have J : Inv X pins σ H { s with heap := h'.push (PySem.W.kla_obj "<lambda>" (X.env.qual ++ "<lambda>") params body scope (cloFrom X.env.cells scope.names []) ((X.mg "__name__").getD .none) c' ctv), toks := tk } := I.kept (fun b o e => Heap.get?_push_of_some _ (keep b o e))
    exact then_ h'.objs.size c' ((X.mg "__name__").getD .none) ctv H _ J (fun _ _ _ e => e) tabs (Heap.get?_push_size _ rfl) (I.hok.fresh size) (away _ size) code_at
  | none =>
    refine PySem.W.kla_makeFunction (mg := X.mg) (c := c) (P := P) (ps := ps) (closure_ok hfree) I.ok.glob (I.mod.glob.keeps I.bk) code_is (TB.code.keeps I.bk) objP three found TB.gP builtP ?_
    intro c' ctv h' tk keep ge lt rec_ tab
    obtain ⟨c2, oc, vs, t, e2, oc_at, oc_data, oc_name⟩ := rec_
    cases e2
    have size : s.heap.objs.size ≤ h'.objs.size := by omega
    have none_c : H c' = none := I.hok.fresh ge
    have J := LamX.inv_table (t' := tk) (more := #[rawInt pos.line, rawInt pos.col, .ref c']) (h' := h'.push (PySem.W.kla_obj "<lambda>" (X.env.qual ++ "<lambda>") params body scope (cloFrom X.env.cells scope.names []) ((X.mg "__name__").getD .none) c' ctv)) I atP
      (fun b o nb e => Heap.get?_push_of_some _ (keep b o nb e)) (Heap.get?_push_of_some _ tab) ge ⟨oc, vs, t, Heap.get?_push_of_some _ oc_at, oc_data, oc_name⟩
    have stays : ∀ b o, b ≠ P → H b = some o → upd (upd H P (.tbl (ps ++ #[rawInt pos.line, rawInt pos.col, .ref c']))) c' (CodeO c' (X.env.qual ++ "<lambda>")) b = some o := by
      intro b o nb e
      rw [upd_ne (ne_of_none e none_c), upd_ne nb]
      exact e
    have longer : (ps ++ #[rawInt pos.line, rawInt pos.col, .ref c']).toList = ps.toList ++ [rawInt pos.line, rawInt pos.col, .ref c'] := by simp
    have code_ne : ∀ {b q}, H b = some (CodeO b q) → b ≠ P := by
      intro b q e z
      rw [z, atP] at e
      exact LamX.codeO_ne ps (Option.some.inj e).symm
    refine then_ h'.objs.size c' ((X.mg "__name__").getD .none) ctv _ _ J stays ?_ (Heap.get?_push_size _ rfl) ?_ (away _ size) upd_same
    · intro p hp
      by_cases same : p.1 = P
      · rw [oneT p hp same, same]
        refine ⟨_, by rw [upd_ne (ne_of_none atP none_c), upd_same], by rw [longer]; exact PySem.TriplesOk_snoc _ _ _ _ three, ?_⟩
        intro p' cv among
        rw [longer] at among
        rcases LamX.among_app _ three among with z | z
        · obtain ⟨c0, e1, e2⟩ := each p' cv z
          exact ⟨c0, e1, stays _ _ (code_ne e2) e2⟩
        · exact ⟨c', z, upd_same⟩
      · obtain ⟨ps', k1, k2, k3⟩ := tabs p hp
        refine ⟨ps', stays _ _ same k1, k2, ?_⟩
        intro p' cv among
        obtain ⟨c0, e1, e2⟩ := k3 p' cv among
        exact ⟨c0, e1, stays _ _ (code_ne e2) e2⟩
    · have n1 : h'.objs.size ≠ c' := by omega
      have n2 : h'.objs.size ≠ P := Nat.ne_of_gt (Nat.lt_of_lt_of_le (Heap.lt_size objP) size)
      rw [upd_ne n1, upd_ne n2]
      exact I.hok.fresh size
end
/-! ### a lambda without parameters, handed to a def that calls it -/
abbrev inZ (X : Cx) (Ng : List PySem.Str) (x : PySem.Str) (sg : Scope) (g : Addr) (cdg : Value) (s : Shared) (H : Hp) : Cx := cxOf C8.CX0 X.prog X.w X.K X.mg X.base Ng x sg g cdg X.A X.stack s H C8.E0
def uHand (f c' : Addr) (q : PySem.Str) (tl : XK → Hp → VK → Prop) (W : WX) : TE := fun σZ HZ Q => ∃ (E : XK) (R : VK), (∀ cls d H', E cls d H' → W cls d σZ H') ∧ (∀ v H', R v H' → Q v H') ∧ slot σZ 0 = some (.ref f) ∧ HZ c' = some (CodeO c' q) ∧ tl E HZ R
section
variable {X : Cx} {pins : List (Addr × Obj)} {σ : L2.St} {H : Hp} {s : Shared}
theorem hand_ok {Ng : List PySem.Str} {x : PySem.Str} {sg : Scope} {g f c' : Addr} {cdg pm ctv : Value} {params : Arguments} {body : Expr} {scope : Scope} {k : Nat} {a : PySem.Str} {pn : List (Addr × Obj)} {xe : Value → Shared → Prop} {W : WX} {t : XK → TE} {p1 p2 : Pos}
    (I : Inv X pins σ H s) (L : LamS X.env.scope scope) (quiet : X.A.guards = some [])
    (at_f : s.heap.get? f = some (PySem.W.kla_obj "<lambda>" (X.env.qual ++ "<lambda>") params body scope (cloFrom X.env.cells scope.names []) pm c' ctv)) (fresh : H f = none) (away : f ∉ frs X.stack)
    (none_bound : bindArgs (PySem.W.kla_fn "<lambda>" (X.env.qual ++ "<lambda>") params body scope (cloFrom X.env.cells scope.names []) pm (.ref c') ctv) ⟨[], []⟩ = pure [])
    (tk : Takes ((inZ X Ng x sg g cdg s H).tr pn xe) W) (room : Room (k + 1) (X.A.deeper (envOfC x sg s.heap.objs.size g cdg)))
    (hbody : ∀ (A : Around) (outer : List Env) (s : Shared) (H : Hp) (E : XK), Room k (A.deeper (lamEnv X scope s.heap.objs.size f c')) → (A.deeper (lamEnv X scope s.heap.objs.size f c')).guards = some [] → PE (lamCx X A outer s H E scope f c') body (t E))
    (hN : Ng[0]? = some a) (hv : Vis sg a) (hd : (a == ("__debug__" : PySem.Str)) = false := by decide) (hcd : (a == ("__classdict__" : PySem.Str)) = false := by decide) :
    PE ((inZ X Ng x sg g cdg s H).tr pn xe) (.Call (.Name a p1) [] [] p2) (uHand f c' (X.env.qual ++ "<lambda>") (fun E H' Q' => t E σ H' Q') W) := by
  constructor
  intro pinsZ sZ σZ HZ Q IZ ⟨E, R, okE, okR, slot0, code_at, reading⟩
  have name := (pe_var (pos := p1) (i := 0) hN hv hd hcd).run pinsZ sZ σZ HZ (fun v H1 => v = .ref f ∧ H1 = HZ) IZ ⟨.ref f, slot_ok slot0, rfl, rfl⟩
  refine wpAny_Call_Name_kw (thn name ?_)
  rintro u s1 ⟨v, H1, I1, rel, rfl, rfl⟩
  cases rel
  have here := I1.base.keep f _ at_f fresh away (fun z => nomatch (show f ∈ ([] : List Addr) from z))
  refine PySem.W.callWith_F0 ⟨_, _, _, _, here⟩ ?_
  have code := I1.hok c' _ code_at
  obtain ⟨⟨oc, vs, tq, oc_at, oc_data, oc_name⟩, _, _⟩ := code
  have grown : Un (frs X.stack) [] H H1 s.heap s1.heap := I1.base
  have runs : codeAny (model X.prog X.w) (X.A.deeper (envOfC x sg s.heap.objs.size g cdg)) (.call (.ref f) ⟨[], []⟩) (CR (L2.CX X.prog X.w) (envOfC x sg s.heap.objs.size g cdg :: X.stack) X.prog X.w H1 s1 R E) s1 := by
    refine PySem.W.kla_callFunE room.depth here rfl L.co L.gen rfl ⟨c', oc, vs, tq, rfl, oc_at, oc_data, oc_name⟩ ?_
    rw [none_bound]
    refine wpAny_pure (wpAny_newFunctionEnv (fun y hy => (L.own y hy).2) (fun y hy => absurd hy (by simp)) ?_ L.kind)
    intro h1 hns hsb
    refine ⟨I1.nolimit.fresh _ hsb, ?_⟩
    show codeAny _ _ (.expr body (lamEnv X scope s1.heap.objs.size f c')) _ _
    have stays : ∀ b o, s1.heap.get? b = some o → h1.get? b = some o := by
      intro b o e
      exact hsb.extBut b o (Nat.ne_of_lt (Heap.lt_size e)) (Heap.get?_push_of_some _ e)
    have J := lam_start2 (E := E) (f := f) (c' := c') (tk := s1.toks + ([] : List (PySem.Str × Value)).length) I L I1.env0 room.hd grown hns stays
    have quietL : ((X.A.deeper (envOfC x sg s.heap.objs.size g cdg)).deeper (lamEnv X scope s1.heap.objs.size f c')).guards = some [] := quiet
    refine PySem.W.kla_codeExpr (wpAny_mono ((hbody _ _ s1 H1 E (room.deeper _) quietL).run [] _ _ H1 R J reading) ?_ (fun _ _ z => z))
    rintro v s' ⟨w', H', J', rv, q⟩
    exact ⟨w', H', J'.os, J'.bare, J'.base, J'.hok, rv, q⟩
  refine wpAny_call (codeAny_mono runs ?_)
  intro r s' ended
  cases r with
  | error e => exact tk e s' (XE.of_call I1 okE ended)
  | ok fl =>
    cases fl with
    | ret u =>
      obtain ⟨v, H2, I2, r2, q2⟩ := I1.after ended
      exact ⟨v, H2, I2, r2, okR _ _ q2⟩
    | next => exact ended.elim
    | brk => exact ended.elim
    | cont => exact ended.elim
end
def GivesW (X : Cx) (Ng : List PySem.Str) (x : PySem.Str) (sg : Scope) (g : Addr) (cdg : Value) (bg : List Stmt) (a : PySem.Str) (q : PySem.Str) (TT : (XK → Hp → VK → Prop) → Hp → VK → Prop) : Prop :=
  ∀ (f c' : Addr) (s : Shared) (H : Hp) (Q : VK) (tl : XK → Hp → VK → Prop),
    (∀ (W : WX) (pn : List (Addr × Obj)) (xe : Value → Shared → Prop) (p1 p2 : Pos), Takes ((inZ X Ng x sg g cdg s H).tr pn xe) W → PE ((inZ X Ng x sg g cdg s H).tr pn xe) (.Call (.Name a p1) [] [] p2) (uHand f c' q tl W)) →
    H c' = some (CodeO c' q) → TT tl H Q → ∃ t, PSs (inZ X Ng x sg g cdg s H).nox bg t ∧ t { nx := fun _ H' => Q .non H', rt := Q } (L2.start Ng [.ref f]) H
def uLam (T : List (Addr × PySem.Str)) (P : Addr) (TT : (XK → Hp → VK → Prop) → Hp → VK → Prop) (t : XK → TE) : TE := fun σ H Q => Tabs T H ∧ ∀ H1, (∀ b o, b ≠ P → H b = some o → H1 b = some o) → Tabs T H1 → TT (fun E H' Q' => t E σ H' Q') H1 Q
section
variable {X : Cx}
theorem u_lam {T : List (Addr × PySem.Str)} {TT : (XK → Hp → VK → Prop) → Hp → VK → Prop} {x a : PySem.Str} {g c P : Addr} {k : Nat} {pg : Arguments} {bg : List Stmt} {sg : Scope} {Ng : List PySem.Str}
    {params : Arguments} {body : Expr} {scope : Scope} {t : XK → TE} {p lpos pos : Pos} (quiet : X.A.guards = some []) (hg : Gl X x) (hm : X.mg x = some (.ref g)) (hk : PySem.W.keepIn X.K (.ref g) = true)
    (F : FunD X.K x x pg bg sg [] [] g (fdA X.K g)) (hb : Binds X.K (fdA X.K g) [a] []) (Sg : FnScope Ng [a] sg) (hNg : Ng[0]? = some a) (hva : Vis sg a)
    (give : ∀ cdg, GivesW X Ng x sg g cdg bg a (X.env.qual ++ "<lambda>") TT)
    (TB : TabB X.base X.mg c P) (hcode : X.env.code = .ref c) (hmT : (P, X.env.qual ++ "<lambda>") ∈ T) (hu : ∀ p ∈ T, p.1 = P → p.2 = X.env.qual ++ "<lambda>") (room : Room (k + 2) X.A) (L : LamS X.env.scope scope) (hdef : defaultsOf params X.env = ([], []))
    (hbind : ∀ (q : PySem.Str) (cl : List (PySem.Str × Addr)) (pm cv ctv : Value), bindArgs (PySem.W.kla_fn "<lambda>" q params body scope cl pm cv ctv) ⟨[], []⟩ = pure [])
    (hbody : ∀ (A : Around) (outer : List Env) (s : Shared) (H : Hp) (E : XK) (f c' : Addr), Room k (A.deeper (lamEnv X scope s.heap.objs.size f c')) → (A.deeper (lamEnv X scope s.heap.objs.size f c')).guards = some [] → PE (lamCx X A outer s H E scope f c') body (t E))
    (hdb : (x == ("__debug__" : PySem.Str)) = false := by decide) (hd : (a == ("__debug__" : PySem.Str)) = false := by decide) (hcd : (a == ("__classdict__" : PySem.Str)) = false := by decide) :
    PE X (.Call (.Name x p) [.Lambda params body scope lpos] [] pos) (uLam T P TT t) := by
  obtain ⟨oc, od, dV, kV, doc, pm, an, cdv, ct, osl, hfd, lk, hcg, _, _⟩ := F.ex
  rw [hfd] at hb lk
  constructor
  rintro pins s σ H Q I ⟨tabs, reading⟩
  refine wpAny_Call_Name_kw (ld_glob I hg hm ?_ hdb)
  refine PySem.W.callWith_K (h₀ := X.base) I.ok.mod.kin hk ?_ (by rfl) (by rfl)
  show wpAny _ _ (spliced ((false, eval (.Lambda params body scope lpos) X.env) :: backTo pos (starEach [] X.env))) _ _ s
  refine Calls.spliced_cons (lam_new I TB hcode hmT hu tabs hdef (L.has I.ok) ?_)
  intro f c' pm' ctv H1 s' I1 eN T1 at_f fresh away code_at
  refine Calls.spliced_nil ⟨I1.kIn, ?_⟩
  have runs : codeAny (model X.prog X.w) X.A (.call (.ref g) ⟨[.ref f], []⟩) (CR C8.CX0 X.stack X.prog X.w H1 s' Q C8.E0) s' := by
    refine run_ofS (N := Ng) (ps := [a]) (us := [.ref f]) (vs := [.ref f]) lk hcg Sg room I1.env0 (hb s' [.ref f] I1.kIn rfl) (.cons rfl .nil) rfl ?_
    intro roomG
    obtain ⟨t', derive, got⟩ := give cdv f c' s' H1 Q (fun E H' Q' => t E σ H' Q') (fun W pn xe p1 p2 tk => hand_ok I1 L quiet at_f fresh away (hbind _ _ _ _ _) tk roomG (fun A outer s H E hr hq => hbody A outer s H E f c' hr hq) hNg hva hd hcd) code_at (reading H1 eN T1)
    exact ⟨t', derive.nox, got⟩
  refine wpAny_call (codeAny_mono runs ?_)
  intro r s2 ended
  cases r with
  | error e => exact (show False from ended).elim
  | ok fl =>
    cases fl with
    | ret u => exact I1.after ended
    | next => exact ended.elim
    | brk => exact ended.elim
    | cont => exact ended.elim
end
/-! ### the tables through growth -/
structure Tb (T : List (Addr × PySem.Str)) (G H : Hp) : Prop where
  tabs : Tabs T H
  un : ∀ p ∈ T, G p.1 = none
theorem Tb.gr {T : List (Addr × PySem.Str)} {G H G' H' : Hp} (h : Tb T G H) (g : Gr G H G' H') : Tb T G' H' :=
  ⟨h.tabs.ext g.hh, fun p hp => by
    obtain ⟨ps, e, _⟩ := h.tabs p hp
    rw [g.fix p.1 (some_ne e)]
    exact h.un p hp⟩
theorem Tb.grm {T : List (Addr × PySem.Str)} {G H G' H' : Hp} {p : Addr} {kvs : List (Key × V)} (h : Tb T G H) (g : GrM p G H G' H') (hp : H p = some (.dK kvs)) : Tb T G' H' := by
  refine ⟨fun t ht => ?_, fun t ht => ?_⟩
  · obtain ⟨ps, e, e2, e3⟩ := h.tabs t ht
    refine ⟨ps, g.hh _ _ (fun z => by rw [z, hp] at e; cases e) e, e2, fun pos cv hc => ?_⟩
    obtain ⟨c, q1, q2⟩ := e3 pos cv hc
    refine ⟨c, q1, g.hh _ _ (fun z => ?_) q2⟩
    rw [z, hp] at q2
    unfold LamX.CodeO at q2
    cases q2
  · obtain ⟨ps, e, _⟩ := h.tabs t ht
    rw [g.fix t.1 (some_ne e)]
    exact h.un t ht
theorem Tb.pen {T : List (Addr × PySem.Str)} {K : PySem.W.Frag} {ku kr : PySem.Str} {G H G' H' : Hp} {p : Addr} {b : Nat} (h : Tb T G H) (pn : Pen K ku kr G H p b) (g : GrM p G H G' H') : Tb T G' H' := by
  obtain ⟨⟨kvs, _, _, _, _, e, _⟩, _⟩ := pn
  exact h.grm g e
theorem Tb.lam {T : List (Addr × PySem.Str)} {G H H1 : Hp} {P : Addr} (h : Tb T G H) (hP : ∃ q, (P, q) ∈ T) (k : ∀ b o, b ≠ P → H b = some o → H1 b = some o) (t : Tabs T H1) (x : Ex G H) : GrM P G H G H1 ∧ Tb T G H1 := by
  obtain ⟨q, hP⟩ := hP
  have nP : G P = none := h.un _ hP
  refine ⟨⟨fun a o na e => k a o na e, ex_refl _, fun a o e => k a o (fun z => by rw [z, nP] at e; cases e) (x a o e), fun _ _ => rfl, fun _ => ?_⟩, ⟨t, h.un⟩⟩
  obtain ⟨ps, e, _⟩ := t _ hP
  exact some_ne e
theorem Pen.tab {K : PySem.W.Frag} {ku kr : PySem.Str} {T : List (Addr × PySem.Str)} {G H G' H' : Hp} {p P : Addr} {b : Nat} (pn : Pen K ku kr G H p b) (h : Tb T G H) (hP : ∃ q, (P, q) ∈ T) (g : GrM P G H G' H') : Pen K ku kr G' H' p b := by
  obtain ⟨q, hP⟩ := hP
  obtain ⟨ps, e, _⟩ := h.tabs _ hP
  obtain ⟨⟨kvs, c, ns, u, r, h1, h2, h3, h4, h5⟩, un⟩ := pn
  have ne : p ≠ P := fun z => by rw [z, e] at h1; cases h1
  exact ⟨⟨kvs, c, ns, u, r, g.hh _ _ ne h1, h2, h3, Evl.ex_l g.gg h4, h5⟩, by rw [g.fix p (some_ne h1)]; exact un⟩
/-! ### a def's code object and its table -/
def codeB (K : PySem.W.Frag) (f c : Addr) : Bool := match K.lookup f with
  | some ⟨_, _, .func d, _⟩ => (match d.code with | .ref c' => c' == c | _ => false)
  | _ => false
theorem codeB_ok {K : PySem.W.Frag} {f c : Addr} {cdv : Value} (h : codeB K f c = true) (a : CodeAt K f cdv) : cdv = .ref c := by
  obtain ⟨oc, od, d, osl, lk, rfl⟩ := a
  unfold codeB at h
  rw [lk] at h
  cases e : d.code with
  | ref c' =>
    simp only [e] at h
    rw [eq_of_beq h]
  | _ => simp [e] at h
def codeHdB (K : PySem.W.Frag) (c P : Addr) : Bool := match K.lookup c with
  | some ⟨cl, _, .fields vs, _⟩ => (match cl with | .type t => t == "code" | _ => false) && ((match (vs[11]? : Option Value) with | some (.ref p) => p == P | _ => false) && ((match vs.getD 11 .none with | .ref p => p == P | _ => false) &&
      ((match vs.getD 18 .none with | .str _ _ => true | _ => false) && ((match vs.getD 7 .none with | .int _ _ => true | _ => false) && ((match vs.getD 9 .none with | .bool _ => true | _ => false) && ((match vs.getD 10 .none with | .int _ _ => true | _ => false) && !(c == P)))))))
  | _ => false
theorem codeHdB_ok {K : PySem.W.Frag} {c P : Addr} {h : Heap} (X : K.In h) (z : codeHdB K c P = true) : PySem.W.CodeHd h c P := by
  unfold codeHdB at z
  split at z
  · rename_i cl dd vs sl lk
    obtain ⟨z1, z⟩ := He.ba z
    obtain ⟨z2, z⟩ := He.ba z
    obtain ⟨z3, z⟩ := He.ba z
    obtain ⟨z4, z⟩ := He.ba z
    obtain ⟨z5, z⟩ := He.ba z
    obtain ⟨z6, z⟩ := He.ba z
    obtain ⟨z7, z8⟩ := He.ba z
    have e1 : cl = .type "code" := by
      split at z1
      · rw [eq_of_beq z1]
      · cases z1
    have e2 : vs[11]? = some (.ref P) := by
      split at z2
      · rename_i q; rw [q, eq_of_beq z2]
      · cases z2
    have e3 : vs.getD 11 .none = .ref P := by
      split at z3
      · rename_i q; rw [q, eq_of_beq z3]
      · cases z3
    have e4 : ∃ x t, vs.getD 18 .none = .str x t := by
      split at z4
      · rename_i q; exact ⟨_, _, q⟩
      · cases z4
    have e5 : ∃ x t, vs.getD 7 .none = .int x t := by
      split at z5
      · rename_i q; exact ⟨_, _, q⟩
      · cases z5
    have e6 : ∃ x, vs.getD 9 .none = .bool x := by
      split at z6
      · rename_i q; exact ⟨_, q⟩
      · cases z6
    have e7 : ∃ x t, vs.getD 10 .none = .int x t := by
      split at z7
      · rename_i q; exact ⟨_, _, q⟩
      · cases z7
    obtain ⟨a1, a2, e4⟩ := e4
    obtain ⟨b1, b2, e5⟩ := e5
    obtain ⟨c1, e6⟩ := e6
    obtain ⟨d1, d2, e7⟩ := e7
    refine ⟨_, vs, a1, a2, b1, b2, c1, d1, d2, X _ _ lk, e1, rfl, e2, e3, e4, e5, e6, e7, ?_⟩
    intro q
    subst q
    simp at z8
  · cases z
/-! ### the head with tables of code objects -/
def tabOB (o : Option Obj) : Bool := match o with
  | some ⟨.none, none, .fields vs, sl⟩ => vs.size == 0 && sl.size == 0
  | _ => false
theorem tabOB_ok {o : Option Obj} (h : tabOB o = true) : o = some { cls := .none, data := .fields #[] } := by
  unfold tabOB at h
  split at h
  · rename_i vs sl
    obtain ⟨h1, h2⟩ := He.ba h
    have e1 : vs = #[] := Array.eq_empty_of_size_eq_zero (eq_of_beq h1)
    have e2 : sl = #[] := Array.eq_empty_of_size_eq_zero (eq_of_beq h2)
    rw [e1, e2]
  · cases h
open PySem.W He5 in
def obsTG (ts as : List Addr) (fa : List Ft) (fn : List He5.DefA) (g : Addr → Option Obj) : He.AlD := ((obsCG as fa fn g).1 && ts.all fun t => tabOB (g t), (obsCG as fa fn g).2)
def SaysT (ts : List Addr) (fa : List Ft) (fn : List He5.DefA) (h : Heap) : Prop := ∃ K : PySem.W.Frag, K.In h ∧ SaysB fa fn K ∧ ∀ t ∈ ts, h.get? t = some { cls := .none, data := .fields #[] }
open PySem.W He5 in
def hookT (ts as : List Addr) (fa : List Ft) (fn : List He5.DefA) : PySem.W.Hook where
  α := He.AlD
  obs := fun s => obsTG ts as fa fn s.heap.get?
  val := fun _ => He5.valA fn
  says := fun _ h => SaysT ts fa fn h
  of := fun _ s e => by
    have e1 : ((obsCG as fa fn s.heap.get?).1 && ts.all fun t => tabOB (s.heap.get? t)) = true := congrArg (fun z : He.AlD => z.1) e
    have e2 : (obsTG ts as fa fn s.heap.get?).2 = (He5.valA fn).2 := congrArg (fun z : He.AlD => z.2) e
    obtain ⟨h1, h2⟩ := He.ba e1
    refine ⟨He.frG s.heap.get? as, He.frG_in, ?_, fun t ht => tabOB_ok (List.all_eq_true.mp h2 t ht)⟩
    exact Prod.ext h1 e2
  keeps := fun _ _ _ ⟨K, hK, c, t⟩ k => ⟨K, PySem.W.Frag.In.keeps hK k, c, fun a ha => k _ _ (t a ha)⟩
theorem obsTG_eq {ts as : List Addr} {fa : List Ft} {fn : List He5.DefA} {g : Addr → Option Obj} {s : Shared} (h : ∀ a, g a = s.heap.get? a) : obsTG ts as fa fn g = (hookT ts as fa fn).obs s := by
  have e : g = s.heap.get? := funext h
  rw [e] <;> rfl
/-! ### the end of a law whose def holds lambdas -/
abbrev EmptyT (cs : List (Addr × Addr)) (H : Hp) : Prop := ∀ c ∈ cs, H c.2 = some (.tbl #[])
theorem law_endT {l : PySem.W.OpenLaw} {n k : Nat} {q : Program} {loose : List PySem.Str} {XP : (PySem.Str → Option Value) → Heap → Prop} {YP : World → Heap → Prop} {d : DefRec} {x : PySem.Str}
    (hn : l.most = some n) (hn2 : n ≤ sizeLine) (hdf : d.params.defaults = []) (room : Room k callerA)
    (F : ∀ (w : World) (mg : PySem.Str → Option Value) (fa : Addr) (h : Heap), YP w h → h.Ns mainGlobals mg → mg d.name = some (.ref fa) →
      ∃ (K : PySem.W.Frag) (fd : FuncData) (sp : Sp) (cs : List (Addr × Addr)), K.In h ∧ (∀ c ∈ cs, h.get? c.2 = some { cls := .none, data := .fields #[] } ∧ K.lookup c.2 = none ∧ PySem.W.CodeHd h c.1 c.2) ∧ (∀ (s : Shared) (u : Value), BindsTo s fd ⟨[u], []⟩ [(x, u)]) ∧
        (∀ (H : Hp) (a : Addr) (ns : List Int), ns.length ≤ n → EmptyT cs H → SqL K H a (ns.map V.int) → sp [.ref a] H (fun v _ => v = .bl true) fun _ _ _ => False) ∧
        ∀ base : Heap, K.In base → base.Ns mainGlobals mg → (∀ c ∈ cs, TabB base mg c.1 c.2) → FnG l.prog w K mg base CX0 k fa fd [x] sp) :
    PySem.W.WalkO q loose XP YP l.row.toRowW d [] (fun f vs => PySem.call f vs) := by
  refine Att.attach_call hn hdf ?_
  intro w s0 s1 mg mb fa o pm cd doc a vs ns G Y ho hd hcd hmg hobj hints hlen hgens
  obtain ⟨K, fd, sp, cs, inK, tabs, hbind, hsp, hF⟩ := F w mg fa _ Y G.T.g hmg
  have rv : Vals (ns.map V.int) vs := vals_ints hints
  have lenV := hints.length
  have small : ns.length ≤ sizeLine := Nat.le_trans hlen hn2
  let isTab : Addr → Prop := fun b => ∃ c ∈ cs, c.2 = b
  have tab_at : ∀ b, isTab b → s1.heap.get? b = some { cls := .none, data := .fields #[] } := by
    rintro b ⟨c, hc, rfl⟩
    exact (tabs c hc).1
  have script_no : ¬ isTab a := by
    intro z
    have e := tab_at a z
    rw [hobj] at e
    have e2 := congrArg Obj.data (Option.some.inj e)
    cases e2
  have main : ∀ H : Hp, EmptyT cs H → (∀ b, H b = none ∨ isTab b ∨ ∃ o xs, H b = some (.frz o (.lst xs))) → SqL K H a (ns.map V.int) → HOk l.prog w H s1.heap → (∀ b, H b ≠ none → b = a ∨ isTab b) → (H a ≠ none → K.lookup a = none) →
      codeAny (model l.prog w) callerA (.call (.ref fa) ⟨[.ref a], []⟩) (fun r s' => r = .ok (.ret (.bool true)) ∧ OldK s1.heap s'.heap ∧ s'.os = s1.os ∧ AllBare s'.gens) s1 := by
    intro H empty only hS hok only_a not_K
    have other : ∀ {b : Addr} {ob : Obj}, s1.heap.get? b = some ob → (∀ us n, ob.data ≠ .seq us n) → ob.data ≠ .fields #[] → H b = none := by
      intro b ob z d1 d2
      cases e : H b with
      | none => rfl
      | some u =>
        rcases only_a b (by rw [e]; intro y; cases y) with rfl | ht
        · rw [hobj] at z
          cases z
          exact absurd rfl (d1 _ _)
        · rw [tab_at b ht] at z
          cases z
          exact absurd rfl d2
    have see : ∀ {b : Addr} {ob : Obj}, s1.heap.get? b = some ob → H b = none → (hidT s1.heap H).get? b = some ob := fun z n => hidT_get z n
    have ns_in : ∀ {b : Addr} {m : PySem.Str → Option Value}, s1.heap.Ns b m → (hidT s1.heap H).Ns b m := by
      rintro b m ⟨ob, es, ep, z, dd, rest⟩
      refine ⟨ob, es, ep, see z (other z ?_ ?_), dd, rest⟩
      · intro us n y
        rw [dd] at y
        cases y
      · intro y
        rw [dd] at y
        cases y
    have K_in : K.In (hidT s1.heap H) := by
      intro b ob z
      refine see (inK b ob z) ?_
      cases e : H b with
      | none => rfl
      | some u =>
        rcases only_a b (by rw [e]; intro y; cases y) with rfl | ⟨c, hc, rfl⟩
        · rw [not_K (by rw [e]; intro y; cases y)] at z
          cases z
        · rw [(tabs c hc).2.1] at z
          cases z
    have modu : Mod K mg (hidT s1.heap H) := by
      obtain ⟨mc, c1, c2⟩ := G.T.nolimit
      exact ⟨K_in, ns_in G.T.g, ⟨mb, ns_in G.T.b, G.T.builtins⟩, ⟨mc, ns_in c1, c2⟩⟩
    have code_in : ∀ c ∈ cs, TabB (hidT s1.heap H) mg c.1 c.2 := by
      intro c hc
      obtain ⟨t1, t2, t3⟩ := tabs c hc
      refine ⟨?_, ?_, ?_⟩
      · obtain ⟨ob, us, file, tf, flags, tg, inF, text, tt, e1, e2, e3, e4, rest⟩ := t3
        refine ⟨ob, us, file, tf, flags, tg, inF, text, tt, see e1 (other e1 ?_ ?_), e2, e3, e4, rest⟩
        · intro vs n y
          rw [e3] at y
          cases y
        · intro y
          rw [e3] at y
          cases y
          simp at e4
      · obtain ⟨bm, ob, b1, b2, b3, b4, b5, b6⟩ := G.T.bmain
        refine ⟨bm, ob, b1, b2, ?_, ?_, see b3 (other b3 ?_ ?_), b4, b5, b6⟩
        · rintro rfl
          obtain ⟨og, es, ep, e, hdg, _⟩ := G.T.g
          rw [e] at b3
          cases b3
          rw [hdg] at b6
          cases b6
        · intro y
          rw [y, t1] at b3
          cases b3
          cases b6
        · intro us n y
          rw [b6] at y
          cases y
        · intro y
          rw [b6] at y
          cases y
      · intro y
        obtain ⟨og, es, ep, e, hdg, _⟩ := G.T.g
        rw [y, t1] at e
        cases e
        cases hdg
    have env : Env0 l.prog w K mg (hidT s1.heap H) callerA [] s1 H :=
      ⟨rfl, modu, fun b ob z => of_hidT z, Nat.le_of_eq (hidT_size _ _), trivial, fun b z => absurd z List.not_mem_nil, hok, .of_eq hgens⟩
    have go := (hF _ K_in (ns_in G.T.g) code_in).run callerA [] s1 H ⟨[.ref a], []⟩ [.ref a] [.ref a] _ _ room rfl env (hbind s1 (.ref a)) (.cons rfl .nil) (hsp H a ns hlen empty hS)
    refine codeAny_mono go ?_
    intro res s' h
    cases res with
    | error e => exact h.elim
    | ok fl =>
      cases fl with
      | next => exact h.elim
      | brk => exact h.elim
      | cont => exact h.elim
      | ret u =>
        obtain ⟨v, H', os, bare, un, hok', rel, isTrue⟩ := h
        have isTrue : v = .bl true := isTrue
        subst isTrue
        have hu : u = Value.bool true := rel
        subst hu
        have kept : ∀ b ob, ¬ isTab b → s1.heap.get? b = some ob → s'.heap.get? b = some ob := by
          intro b ob nt z
          rcases only b with n0 | ht | ⟨o2, xs, fz⟩
          · exact un.keep b ob z n0 List.not_mem_nil List.not_mem_nil
          · exact absurd ht nt
          · have after := un.frzs b o2 _ fz
            have h1 := (hok b _ fz).1
            have h2 := (hok' b _ after).1
            rw [z] at h1
            cases h1
            exact h2
        have longer : ∀ c ∈ cs, ∃ more : Array Value, s'.heap.get? c.2 = some { cls := .none, data := .fields more } := by
          intro c hc
          obtain ⟨more, z⟩ := un.tbls c.2 #[] (empty c hc)
          exact ⟨_, hok' c.2 _ z⟩
        refine ⟨rfl, ⟨?_, ?_⟩, os, bare⟩
        · intro b ob z
          by_cases ht : isTab b
          · obtain ⟨c, hc, rfl⟩ := ht
            obtain ⟨more, hm⟩ := longer c hc
            have t := tabs c hc
            rw [t.1] at z
            cases z
            refine .inr (.inl ⟨(t.2.2.tab t.1).isCodeTable, rfl, #[], more, rfl, ?_⟩)
            rw [Array.empty_append]
            exact hm
          · exact .inl (kept b ob ht z)
        · intro b ob z
          by_cases ht : isTab b
          · obtain ⟨c, hc, rfl⟩ := ht
            obtain ⟨more, hm⟩ := longer c hc
            exact ⟨_, hm⟩
          · exact ⟨ob, kept b ob ht z⟩
  haveI dec : DecidablePred isTab := fun b => Classical.propDecidable _
  by_cases hK : ∃ ok, K.lookup a = some ok
  · obtain ⟨ok, hk⟩ := hK
    have e := inK a ok hk
    rw [hobj] at e
    cases e
    let H0 : Hp := fun b => if isTab b then some (.tbl #[]) else none
    have on : ∀ {b}, isTab b → H0 b = some (.tbl #[]) := fun hb => if_pos hb
    have off : ∀ {b}, ¬ isTab b → H0 b = none := fun hb => if_neg hb
    refine main H0 (fun c hc => on ⟨c, hc, rfl⟩) (fun b => ?_) (Or.inr ⟨_, vs.toArray, _, hk, rfl, rfl, rfl, ?_, ?_⟩) (fun b u z => ?_) (fun b z => ?_) (fun z => absurd (off script_no) z)
    · by_cases hb : isTab b
      · exact .inr (.inl hb)
      · exact .inl (off hb)
    · rw [List.size_toArray, lenV]
      exact small
    · simpa using rv
    · by_cases hb : isTab b
      · rw [on hb] at z
        cases z
        exact tab_at b hb
      · rw [off hb] at z
        cases z
    · by_cases hb : isTab b
      · exact .inr hb
      · exact absurd (off hb) z
  · have hk : K.lookup a = none := by
      cases e : K.lookup a with
      | none => rfl
      | some ok => exact absurd ⟨ok, e⟩ hK
    let ob : Obj := { cls := .type "list", data := .seq vs.toArray }
    let H0 : Hp := fun b => if b = a then some (.frz ob (.lst (ns.map V.int))) else if isTab b then some (.tbl #[]) else none
    have at_a : H0 a = some (.frz ob (.lst (ns.map V.int))) := if_pos rfl
    have on : ∀ {b}, isTab b → H0 b = some (.tbl #[]) := by
      intro b hb
      have ne : ¬ b = a := by rintro rfl; exact script_no hb
      exact (if_neg ne).trans (if_pos hb)
    have off : ∀ {b}, b ≠ a → ¬ isTab b → H0 b = none := fun h1 h2 => (if_neg h1).trans (if_neg h2)
    refine main H0 (fun c hc => on ⟨c, hc, rfl⟩) (fun b => ?_) (Or.inl (Or.inr ⟨ob, at_a⟩)) (fun b u z => ?_) (fun b z => ?_) (fun _ => hk)
    · by_cases hb : b = a
      · exact .inr (.inr ⟨ob, _, by rw [hb]; exact at_a⟩)
      · by_cases ht : isTab b
        · exact .inr (.inl ht)
        · exact .inl (off hb ht)
    · by_cases hb : b = a
      · subst hb
        rw [at_a] at z
        cases z
        exact ⟨hobj, by rw [List.length_map]; exact small, vs, _, rv, hobj⟩
      · by_cases ht : isTab b
        · rw [on ht] at z
          cases z
          exact tab_at b ht
        · rw [off hb ht] at z
          cases z
    · by_cases hb : b = a
      · exact .inl hb
      · by_cases ht : isTab b
        · exact .inr ht
        · exact absurd (off hb ht) z
end Ech

set_option maxHeartbeats 0
namespace k80
open PySem PySem.Spec PyProof.Rows L2 Ech
open He (ga ma)
open He5 (wf wrapB)
def topS (i : Nat) : Stmt := PySem.Challenge.pw_echofold_k80_rows_and_tables_refused.main.body.getD i (.Pass ⟨0, 0, 0, 0⟩)
abbrev s_is_integer : Stmt := topS 6
abbrev s_is_list : Stmt := topS 7
abbrev s_is_price : Stmt := topS 8
abbrev s_sum_two : Stmt := topS 9
abbrev s_is_less : Stmt := topS 10
abbrev s_least_of : Stmt := topS 11
abbrev s_number_in : Stmt := topS 12
abbrev s_is_row_of : Stmt := topS 13
abbrev s_InvalidTable_init : Stmt := inClass (topS 15) 0
abbrev s_InvalidRow_init : Stmt := inClass (topS 16) 0
abbrev s_InvalidNumber_init : Stmt := inClass (topS 17) 0
abbrev s_InvalidText_init : Stmt := inClass (topS 18) 0
abbrev s_OtherLetters_init : Stmt := inClass (topS 19) 0
abbrev s_are_rows : Stmt := topS 23
abbrev s_need_letters : Stmt := topS 24
abbrev s_need_like : Stmt := topS 25
abbrev s_price_in : Stmt := topS 26
abbrev s_Table_init : Stmt := inClass (topS 27) 2
abbrev s_Table_pairs : Stmt := inClass (topS 27) 5
abbrev s_Table_read : Stmt := inClass (topS 27) 6
abbrev s_Table_rows : Stmt := inClass (topS 27) 7
abbrev s_Table_letters : Stmt := inClass (topS 27) 8
abbrev s_Table_text : Stmt := inClass (topS 27) 9
abbrev s_Table_price : Stmt := inClass (topS 27) 10
abbrev s_Table_eq : Stmt := inClass (topS 27) 12
abbrev s_Table_mul : Stmt := inClass (topS 27) 13
abbrev s_Table_add : Stmt := inClass (topS 27) 14
abbrev s_Table_or : Stmt := inClass (topS 27) 15
abbrev s_Table_neg : Stmt := inClass (topS 27) 16
abbrev s_need_short_row : Stmt := topS 30
abbrev s_pairs_at : Stmt := topS 31
abbrev s_own_delays : Stmt := topS 32
abbrev s_own_table : Stmt := topS 33
abbrev s__law_pen : Stmt := topS 35
abbrev s__law_draw : Stmt := topS 36
abbrev s__law_pick : Stmt := topS 37
abbrev s__law_rows : Stmt := topS 38
abbrev s__law_is_integer : Stmt := topS 39
abbrev s__law_odd : Stmt := topS 40
abbrev s__law_met : Stmt := topS 41
abbrev s__law_is_some_row : Stmt := topS 42
abbrev s_law : Stmt := topS 43
def d_is_integer : He5.DefA := ⟨fun K => ga K "is_integer", "is_integer", "is_integer", defArgs s_is_integer, defBody s_is_integer, defScope s_is_integer, [.non, .non], []⟩
def d_is_list : He5.DefA := ⟨fun K => ga K "is_list", "is_list", "is_list", defArgs s_is_list, defBody s_is_list, defScope s_is_list, [], []⟩
def d_is_price : He5.DefA := ⟨fun K => ga K "is_price", "is_price", "is_price", defArgs s_is_price, defBody s_is_price, defScope s_is_price, [], []⟩
def d_sum_two : He5.DefA := ⟨fun K => ga K "sum_two", "sum_two", "sum_two", defArgs s_sum_two, defBody s_sum_two, defScope s_sum_two, [], []⟩
def d_is_less : He5.DefA := ⟨fun K => ga K "is_less", "is_less", "is_less", defArgs s_is_less, defBody s_is_less, defScope s_is_less, [], []⟩
def d_least_of : He5.DefA := ⟨fun K => ga K "least_of", "least_of", "least_of", defArgs s_least_of, defBody s_least_of, defScope s_least_of, [], []⟩
def d_number_in : He5.DefA := ⟨fun K => ga K "number_in", "number_in", "number_in", defArgs s_number_in, defBody s_number_in, defScope s_number_in, [], []⟩
def d_is_row_of : He5.DefA := ⟨fun K => ga K "is_row_of", "is_row_of", "is_row_of", defArgs s_is_row_of, defBody s_is_row_of, defScope s_is_row_of, [], []⟩
def d_InvalidTable_init : He5.DefA := ⟨fun K => ma K (ga K "InvalidTable") "__init__", "__init__", "InvalidTable.__init__", defArgs s_InvalidTable_init, defBody s_InvalidTable_init, defScope s_InvalidTable_init, [], []⟩
def d_InvalidRow_init : He5.DefA := ⟨fun K => ma K (ga K "InvalidRow") "__init__", "__init__", "InvalidRow.__init__", defArgs s_InvalidRow_init, defBody s_InvalidRow_init, defScope s_InvalidRow_init, [], []⟩
def d_InvalidNumber_init : He5.DefA := ⟨fun K => ma K (ga K "InvalidNumber") "__init__", "__init__", "InvalidNumber.__init__", defArgs s_InvalidNumber_init, defBody s_InvalidNumber_init, defScope s_InvalidNumber_init, [], []⟩
def d_InvalidText_init : He5.DefA := ⟨fun K => ma K (ga K "InvalidText") "__init__", "__init__", "InvalidText.__init__", defArgs s_InvalidText_init, defBody s_InvalidText_init, defScope s_InvalidText_init, [], []⟩
def d_OtherLetters_init : He5.DefA := ⟨fun K => ma K (ga K "OtherLetters") "__init__", "__init__", "OtherLetters.__init__", defArgs s_OtherLetters_init, defBody s_OtherLetters_init, defScope s_OtherLetters_init, [], []⟩
def d_are_rows : He5.DefA := ⟨fun K => ga K "are_rows", "are_rows", "are_rows", defArgs s_are_rows, defBody s_are_rows, defScope s_are_rows, [], []⟩
def d_need_letters : He5.DefA := ⟨fun K => ga K "need_letters", "need_letters", "need_letters", defArgs s_need_letters, defBody s_need_letters, defScope s_need_letters, [], []⟩
def d_need_like : He5.DefA := ⟨fun K => ga K "need_like", "need_like", "need_like", defArgs s_need_like, defBody s_need_like, defScope s_need_like, [], []⟩
def d_price_in : He5.DefA := ⟨fun K => ga K "price_in", "price_in", "price_in", defArgs s_price_in, defBody s_price_in, defScope s_price_in, [], []⟩
def d_Table_init : He5.DefA := ⟨fun K => ma K (ga K "Table") "__init__", "__init__", "Table.__init__", defArgs s_Table_init, defBody s_Table_init, defScope s_Table_init, [], []⟩
def d_Table_pairs : He5.DefA := ⟨fun K => wf K (ga K "Table") "classmethod" "pairs", "pairs", "Table.pairs", defArgs s_Table_pairs, defBody s_Table_pairs, defScope s_Table_pairs, [], []⟩
def d_Table_read : He5.DefA := ⟨fun K => wf K (ga K "Table") "staticmethod" "read", "read", "Table.read", defArgs s_Table_read, defBody s_Table_read, defScope s_Table_read, [], []⟩
def d_Table_rows : He5.DefA := ⟨fun K => wf K (ga K "Table") "property" "rows", "rows", "Table.rows", defArgs s_Table_rows, defBody s_Table_rows, defScope s_Table_rows, [], []⟩
def d_Table_letters : He5.DefA := ⟨fun K => wf K (ga K "Table") "property" "letters", "letters", "Table.letters", defArgs s_Table_letters, defBody s_Table_letters, defScope s_Table_letters, [], []⟩
def d_Table_text : He5.DefA := ⟨fun K => wf K (ga K "Table") "property" "text", "text", "Table.text", defArgs s_Table_text, defBody s_Table_text, defScope s_Table_text, [], []⟩
def d_Table_price : He5.DefA := ⟨fun K => ma K (ga K "Table") "price", "price", "Table.price", defArgs s_Table_price, defBody s_Table_price, defScope s_Table_price, [], []⟩
def d_Table_eq : He5.DefA := ⟨fun K => ma K (ga K "Table") "__eq__", "__eq__", "Table.__eq__", defArgs s_Table_eq, defBody s_Table_eq, defScope s_Table_eq, [], []⟩
def d_Table_mul : He5.DefA := ⟨fun K => ma K (ga K "Table") "__mul__", "__mul__", "Table.__mul__", defArgs s_Table_mul, defBody s_Table_mul, defScope s_Table_mul, [], []⟩
def d_Table_add : He5.DefA := ⟨fun K => ma K (ga K "Table") "__add__", "__add__", "Table.__add__", defArgs s_Table_add, defBody s_Table_add, defScope s_Table_add, [], []⟩
def d_Table_or : He5.DefA := ⟨fun K => ma K (ga K "Table") "__or__", "__or__", "Table.__or__", defArgs s_Table_or, defBody s_Table_or, defScope s_Table_or, [], []⟩
def d_Table_neg : He5.DefA := ⟨fun K => ma K (ga K "Table") "__neg__", "__neg__", "Table.__neg__", defArgs s_Table_neg, defBody s_Table_neg, defScope s_Table_neg, [], []⟩
def d_need_short_row : He5.DefA := ⟨fun K => ga K "need_short_row", "need_short_row", "need_short_row", defArgs s_need_short_row, defBody s_need_short_row, defScope s_need_short_row, [], []⟩
def d_pairs_at : He5.DefA := ⟨fun K => ga K "pairs_at", "pairs_at", "pairs_at", defArgs s_pairs_at, defBody s_pairs_at, defScope s_pairs_at, [], []⟩
def d_own_delays : He5.DefA := ⟨fun K => ga K "own_delays", "own_delays", "own_delays", defArgs s_own_delays, defBody s_own_delays, defScope s_own_delays, [], []⟩
def d_own_table : He5.DefA := ⟨fun K => ga K "own_table", "own_table", "own_table", defArgs s_own_table, defBody s_own_table, defScope s_own_table, [], []⟩
def d__law_pen : He5.DefA := ⟨fun K => ga K "_law_pen", "_law_pen", "_law_pen", defArgs s__law_pen, defBody s__law_pen, defScope s__law_pen, [], []⟩
def d__law_draw : He5.DefA := ⟨fun K => ga K "_law_draw", "_law_draw", "_law_draw", defArgs s__law_draw, defBody s__law_draw, defScope s__law_draw, [], []⟩
def d__law_pick : He5.DefA := ⟨fun K => ga K "_law_pick", "_law_pick", "_law_pick", defArgs s__law_pick, defBody s__law_pick, defScope s__law_pick, [], []⟩
def d__law_rows : He5.DefA := ⟨fun K => ga K "_law_rows", "_law_rows", "_law_rows", defArgs s__law_rows, defBody s__law_rows, defScope s__law_rows, [], []⟩
def d__law_is_integer : He5.DefA := ⟨fun K => ga K "_law_is_integer", "_law_is_integer", "_law_is_integer", defArgs s__law_is_integer, defBody s__law_is_integer, defScope s__law_is_integer, [], []⟩
def d__law_odd : He5.DefA := ⟨fun K => ga K "_law_odd", "_law_odd", "_law_odd", defArgs s__law_odd, defBody s__law_odd, defScope s__law_odd, [], []⟩
def d__law_met : He5.DefA := ⟨fun K => ga K "_law_met", "_law_met", "_law_met", defArgs s__law_met, defBody s__law_met, defScope s__law_met, [], []⟩
def d__law_is_some_row : He5.DefA := ⟨fun K => ga K "_law_is_some_row", "_law_is_some_row", "_law_is_some_row", defArgs s__law_is_some_row, defBody s__law_is_some_row, defScope s__law_is_some_row, [], []⟩
def d_law : He5.DefA := ⟨fun K => ga K "law", "law", "law", defArgs s_law, defBody s_law, defScope s_law, [], []⟩
def fa0 : List Ft := [fun K => (He.Fa.glo "_wall").ok K,
  fun K => (He.Fa.glo "is_integer").ok K,
  fun K => (He.Fa.glo "is_list").ok K,
  fun K => (He.Fa.glo "is_price").ok K,
  fun K => (He.Fa.glo "sum_two").ok K,
  fun K => (He.Fa.glo "is_less").ok K,
  fun K => (He.Fa.glo "least_of").ok K,
  fun K => (He.Fa.glo "number_in").ok K,
  fun K => (He.Fa.glo "is_row_of").ok K,
  fun K => (He.Fa.glo "are_rows").ok K,
  fun K => (He.Fa.glo "need_letters").ok K,
  fun K => (He.Fa.glo "need_like").ok K,
  fun K => (He.Fa.glo "price_in").ok K,
  fun K => (He.Fa.glo "need_short_row").ok K,
  fun K => (He.Fa.glo "pairs_at").ok K,
  fun K => (He.Fa.glo "own_delays").ok K,
  fun K => (He.Fa.glo "own_table").ok K,
  fun K => (He.Fa.glo "_law_pen").ok K,
  fun K => (He.Fa.glo "_law_draw").ok K,
  fun K => (He.Fa.glo "_law_pick").ok K,
  fun K => (He.Fa.glo "_law_rows").ok K,
  fun K => (He.Fa.glo "_law_is_integer").ok K,
  fun K => (He.Fa.glo "_law_odd").ok K,
  fun K => (He.Fa.glo "_law_met").ok K,
  fun K => (He.Fa.glo "_law_is_some_row").ok K,
  fun K => (He.Fa.glo "law").ok K,
  fun K => (He.Fa.glo "InvalidTable").ok K,
  fun K => (He.Fa.glo "InvalidRow").ok K,
  fun K => (He.Fa.glo "InvalidNumber").ok K,
  fun K => (He.Fa.glo "InvalidText").ok K]
def fa1 : List Ft := [fun K => (He.Fa.glo "OtherLetters").ok K,
  fun K => (He.Fa.glo "Table").ok K,
  fun K => (He.Fa.int "MAX_LETTERS" 5).ok K,
  fun K => (He.Fa.int "FARTHEST" (10 ^ 30)).ok K,
  fun K => (He.Fa.int "MAX_DIGITS" 60).ok K,
  fun K => (He.Fa.str "DIGITS" "0123456789").ok K,
  fun K => (He.Fa.str "BETWEEN_ROWS" " / ").ok K,
  fun K => (He.Fa.str "BARRED" "-").ok K,
  fun K => (He.Fa.int "LONGEST_ROW" 40).ok K,
  fun K => (He.Fa.free "isinstance").ok K,
  fun K => (He.Fa.free "int").ok K,
  fun K => (He.Fa.free "bool").ok K,
  fun K => (He.Fa.free "list").ok K,
  fun K => (He.Fa.free "tuple").ok K,
  fun K => (He.Fa.free "str").ok K,
  fun K => (He.Fa.free "len").ok K,
  fun K => (He.Fa.free "all").ok K,
  fun K => (He.Fa.free "range").ok K,
  fun K => (He.Fa.free "zip").ok K,
  fun K => (He.Fa.free "min").ok K,
  fun K => (He.Fa.free "abs").ok K,
  fun K => (He.Fa.free "repr").ok K,
  fun K => (He.Fa.free "ValueError").ok K,
  fun K => (He.Fa.free "property").ok K,
  fun K => (He.Fa.free "classmethod").ok K,
  fun K => (He.Fa.free "staticmethod").ok K,
  fun K => (He.Fa.cls "Table").ok K,
  fun K => (He.Fa.mkr "Table").ok K,
  fun K => Ech.insB K (ga K "Table"),
  fun K => (He.Fa.noat "Table" "entries").ok K]
def fa2 : List Ft := [fun K => PySem.W.selfFirst K (ga K "Table"),
  fun K => crdB K (ga K "Table"),
  fun K => conB K (ga K "Table") "MOST_LETTERS" 5,
  fun K => conB K (ga K "Table") "MOST_TIMES" 1000000000000000000000000000000,
  fun K => (He.Fa.meth "Table" "__init__").ok K,
  fun K => PySem.W.fnIn K (wf K (ga K "Table") "classmethod" "likeness"),
  fun K => wrapB K (ga K "Table") "classmethod" "classmethod.__get__" "likeness",
  fun K => PySem.W.fnIn K (wf K (ga K "Table") "classmethod" "silence"),
  fun K => wrapB K (ga K "Table") "classmethod" "classmethod.__get__" "silence",
  fun K => PySem.W.fnIn K (wf K (ga K "Table") "classmethod" "pairs"),
  fun K => wrapB K (ga K "Table") "classmethod" "classmethod.__get__" "pairs",
  fun K => wrapB K (ga K "Table") "staticmethod" "staticmethod.__get__" "read",
  fun K => Ech.propB K (ga K "Table") "rows",
  fun K => Ech.propB K (ga K "Table") "letters",
  fun K => Ech.propB K (ga K "Table") "text",
  fun K => (He.Fa.meth "Table" "price").ok K,
  fun K => (He.Fa.meth "Table" "again").ok K,
  fun K => (He.Fa.meth "Table" "__eq__").ok K,
  fun K => (He.Fa.meth "Table" "__mul__").ok K,
  fun K => (He.Fa.meth "Table" "__add__").ok K,
  fun K => (He.Fa.meth "Table" "__or__").ok K,
  fun K => (He.Fa.meth "Table" "__neg__").ok K,
  fun K => errB K (ga K "InvalidTable") "value",
  fun K => errB K (ga K "InvalidRow") "value",
  fun K => errB K (ga K "InvalidNumber") "value",
  fun K => decide (PySem.W.kitOne K (.type "NoneType") (.ref (ga K "Table")) = some false),
  fun K => decide (PySem.W.kitOne K (.type "bool") (.ref (ga K "Table")) = some false),
  fun K => decide (PySem.W.kitOne K (.type "int") (.ref (ga K "Table")) = some false),
  fun K => decide (PySem.W.kitOne K (.type "str") (.ref (ga K "Table")) = some false),
  fun K => decide (PySem.W.kitOne K (.type "list") (.ref (ga K "Table")) = some false)]
def fa3 : List Ft := [fun K => decide (PySem.W.kitOne K (.type "tuple") (.ref (ga K "Table")) = some false),
  fun K => decide (PySem.W.kitOne K (.type "dict") (.ref (ga K "Table")) = some false),
  fun K => decide (PySem.W.exmOne K (.ref (ga K "InvalidNumber")) (.ref (ga K "InvalidTable")) = some false),
  fun K => decide (PySem.W.exmOne K (.ref (ga K "InvalidNumber")) (.ref (ga K "InvalidRow")) = some false),
  fun K => decide (PySem.W.exmOne K (.ref (ga K "InvalidRow")) (.ref (ga K "InvalidTable")) = some false),
  fun K => decide (PySem.W.exmOne K (.ref (ga K "InvalidRow")) (.ref (ga K "InvalidNumber")) = some false),
  fun K => decide (PySem.W.exmOne K (.ref (ga K "InvalidTable")) (.ref (ga K "InvalidRow")) = some false),
  fun K => decide (PySem.W.exmOne K (.ref (ga K "InvalidTable")) (.ref (ga K "InvalidNumber")) = some false),
  fun K => codeB K (ga K "law") 404,
  fun K => codeHdB K 404 402,
  fun K => (K.lookup 402).isNone]
def fa : List Ft := fa0 ++ fa1 ++ fa2 ++ fa3
def fn0 : List He5.DefA := [d_is_integer, d_is_list, d_is_price, d_sum_two, d_is_less, d_least_of, d_number_in, d_is_row_of, d_InvalidTable_init, d_InvalidRow_init, d_InvalidNumber_init, d_InvalidText_init, d_OtherLetters_init, d_are_rows, d_need_letters, d_need_like, d_price_in, d_Table_init, d_Table_pairs, d_Table_read, d_Table_rows, d_Table_letters, d_Table_text, d_Table_price, d_Table_eq, d_Table_mul, d_Table_add, d_Table_or, d_Table_neg, d_need_short_row]
def fn1 : List He5.DefA := [d_pairs_at, d_own_delays, d_own_table, d__law_pen, d__law_draw, d__law_pick, d__law_rows, d__law_is_integer, d__law_odd, d__law_met, d__law_is_some_row, d_law]
def fn : List He5.DefA := fn0 ++ fn1
def lo0 : List PySem.Str := ["_wall", "MAX_LETTERS", "FARTHEST", "MAX_DIGITS", "DIGITS", "is_integer", "is_list", "is_price", "sum_two", "is_less", "least_of", "number_in", "is_row_of", "InvalidTable", "InvalidRow", "InvalidNumber", "InvalidText", "OtherLetters", "BETWEEN_ROWS", "BARRED", "are_rows", "need_letters", "need_like", "price_in", "Table", "LONGEST_ROW", "need_short_row", "pairs_at", "own_delays", "own_table"]
def lo1 : List PySem.Str := ["_law_pen", "_law_draw", "_law_pick", "_law_rows", "_law_is_integer", "_law_odd", "_law_met", "_law_is_some_row"]
def lo : List PySem.Str := lo0 ++ lo1
abbrev R : PySem.W.OpenRow := PySem.W.OpenLaw.row PySem.Challenge.rw_echofold_k80_rows_and_tables_refused
def as0 : List Addr := [3, 6, 4, 21, 29, 36, 43, 50, 57, 64, 69, 74, 91, 111, 131, 151, 171, 179, 186, 193, 200, 316, 327, 334, 339, 346, 353, 360, 367, 374, 381, 388, 395, 400, 405, 0, 20, 28, 22, 35, 42, 49, 56, 63, 68, 73, 90, 110, 130, 150, 170, 178, 185, 192, 199, 315, 326, 333, 338, 345]
def as1 : List Addr := [352, 359, 366, 373, 380, 387, 394, 399, 404, 15, 16, 17, 18, 19, 23, 24, 25, 26, 27, 30, 31, 32, 33, 34, 37, 38, 39, 40, 41, 44, 45, 46, 47, 48, 51, 52, 53, 54, 55, 58, 59, 60, 61, 62, 65, 66, 67, 70, 71, 72, 88, 89, 92, 108, 109, 112, 128, 129, 132, 148]
def as2 : List Addr := [149, 152, 168, 169, 172, 175, 176, 177, 180, 181, 182, 183, 184, 187, 188, 189, 190, 191, 194, 195, 196, 197, 198, 212, 221, 231, 239, 247, 256, 264, 270, 277, 284, 291, 296, 301, 306, 313, 314, 317, 318, 321, 322, 323, 324, 325, 328, 329, 330, 331, 332, 335, 336, 337, 340, 341, 342, 343, 344, 347]
def as3 : List Addr := [348, 349, 350, 351, 354, 355, 356, 357, 358, 361, 362, 363, 364, 365, 368, 369, 370, 371, 372, 375, 376, 377, 378, 379, 382, 383, 384, 385, 386, 389, 390, 391, 392, 393, 396, 397, 398, 401, 403, 87, 107, 127, 147, 167, 211, 219, 220, 229, 230, 237, 238, 245, 246, 255, 263, 269, 276, 283, 290, 295]
def as4 : List Addr := [300, 305, 312, 82, 83, 84, 85, 86, 102, 103, 104, 105, 106, 122, 123, 124, 125, 126, 142, 143, 144, 145, 146, 162, 163, 164, 165, 166, 208, 209, 210, 218, 222, 228, 232, 236, 240, 244, 248, 254, 262, 268, 271, 272, 273, 274, 275, 278, 279, 280, 281, 282, 285, 286, 287, 288, 289, 292, 293, 294]
def as5 : List Addr := [297, 298, 299, 302, 303, 304, 307, 308, 309, 310, 311, 213, 214, 215, 216, 217, 223, 224, 225, 226, 227, 233, 234, 235, 241, 242, 243, 249, 250, 251, 252, 253, 257, 258, 259, 260, 261, 265, 266, 267, 2]
def as_ : List Addr := as0 ++ (as1 ++ (as2 ++ (as3 ++ (as4 ++ (as5)))))
def ts_ : List Addr := [402]
abbrev hk : PySem.W.Hook := hookT ts_ as_ fa fn
def ob (s : PySem.W.SharedT) : He.AlD := obsTG ts_ as_ fa fn (HandSHeadRun.getT s)
theorem ob_eq (s : PySem.W.SharedT) : ob s = hk.obs s.abs := obsTG_eq (HandSHeadRun.getT_eq s)
theorem run (w : World) : HandSHeadRun.RunEq R (PySem.W.view R.prog [43]) hk ob 20000 lo w := by
  intro os
  kernel_rfl
end k80

set_option maxHeartbeats 4000000
namespace Ech
open PySem PySem.Spec PyProof.Rows L2
open He (ga ma)
def rAddT (K : PySem.W.Frag) : R2 := fun x y H Q => match x, y with
  | .ref a, .ref b => ∃ xs ys, SqT K H a xs ∧ SqT K H b ys ∧ xs.length + ys.length ≤ sizeLine ∧ (xs = [] → Q (.ref b) H) ∧ (xs ≠ [] → ys = [] → Q (.ref a) H) ∧ (xs ≠ [] → ys ≠ [] → ∀ p H1, New H p (.tup (xs ++ ys)) H1 → Q (.ref p) H1)
  | _, _ => False
theorem k_addT {X : Cx} {K : PySem.W.Frag} (hK : X.K = K) : OpR X (binaryOp .Add) (rAddT K) := by
  subst hK
  refine op_wk op_catA fun x y H Q h => ?_
  unfold rAddT at h
  split at h
  · obtain ⟨xs, ys, h1, h2, h3, h4, h5, h6⟩ := h
    exact ⟨_, _, xs, ys, rfl, rfl, h1, h2, h3, h4, h5, fun a b p hp => h6 a b p _ ⟨hp, rfl⟩⟩
  · exact h.elim
end Ech

set_option maxHeartbeats 1000000
namespace Ech
open PySem PySem.Spec PyProof.Rows L2
open He (ga ma)

/-! ### what never changes, without the tables -/
def dropT (G : Hp) : Hp := fun b => match G b with
  | some (.tbl _) => none
  | o => o
theorem dropT_of {G : Hp} {b : Addr} {o : HO} (h : G b = some o) (n : ∀ ps, o ≠ .tbl ps) : dropT G b = some o := by
  unfold dropT
  rw [h]
  cases o with
  | tbl ps => exact absurd rfl (n ps)
  | _ => rfl
theorem dropT_ex {G : Hp} : Ex (dropT G) G := fun b o e => by
  unfold dropT at e
  cases h : G b with
  | none => rw [h] at e; cases e
  | some u =>
    rw [h] at e
    cases u with
    | tbl ps => cases e
    | _ => exact e
theorem dropT_sql {K : PySem.W.Frag} {G : Hp} {a : Addr} {xs : List V} (h : SqL K G a xs) : SqL K (dropT G) a xs := by
  rcases h with (h | ⟨o, h⟩) | h
  · exact .inl (.inl (dropT_of h (fun _ z => by cases z)))
  · exact .inl (.inr ⟨o, dropT_of h (fun _ z => by cases z)⟩)
  · exact .inr h
theorem Pen.dropT {K : PySem.W.Frag} {ku kr : PySem.Str} {G H : Hp} {p : Addr} {b : Nat} (h : Pen K ku kr G H p b) : Pen K ku kr (dropT G) H p b := by
  obtain ⟨⟨kvs, c, ns, u, r, h1, h2, h3, h4, h5⟩, un⟩ := h
  exact ⟨⟨kvs, c, ns, u, r, h1, h2, h3, dropT_sql h4, h5⟩, by unfold Ech.dropT; rw [un]⟩
theorem Tb.start {T : List (Addr × PySem.Str)} {G H H0 : Hp} (h : ∀ p ∈ T, H0 p.1 = some (.tbl #[])) (x : Ex H0 H) (g : Ex G H) : Tb T (dropT G) H := by
  refine ⟨fun p hp => LamX.TabS.nil (x _ _ (h p hp)), fun p hp => ?_⟩
  cases e : dropT G p.1 with
  | none => rfl
  | some o =>
    have e1 := g _ _ (dropT_ex _ _ e)
    rw [x _ _ (h p hp)] at e1
    cases e1
    unfold dropT at e
    split at e
    · cases e
    · rename_i n
      exact absurd e (fun e => n _ e)
/-! repr of a dict of ints -/
def IntKV (kv : Key × V) (w : Int × Int) : Prop := kv.1 = .inl w.1 ∧ kv.2 = .int w.2
def intD (ws : List (Int × Int)) : PyData := .dict (ws.map fun w => (PyData.int w.1, PyData.int w.2))
structure IntSm (ws : List (Int × Int)) : Prop where
  few : ws.length ≤ 60
  each : ∀ w ∈ ws, w.1.natAbs < 10 ^ 90 ∧ w.2.natAbs < 10 ^ 90
/-! ### values of any kind, with the text that repr makes of them -/
inductive AnyV (K : PySem.W.Frag) (H : Hp) : V → PySem.Str → Prop where
  | dat {v : V} {d : PyData} (h : Dp K H v d) (s : Shows d) : AnyV K H v d.shown
  | dct {a : Addr} (h : H a = some (.dK [])) : AnyV K H (.ref a) "{}"
  | dci {a : Addr} {kvs : List (Key × V)} {ws : List (Int × Int)} (h : H a = some (.dK kvs)) (p : Paired IntKV kvs ws) (m : IntSm ws) : AnyV K H (.ref a) (intD ws).shown
theorem AnyV.up {K : PySem.W.Frag} {H H' : Hp} {v : V} {s : PySem.Str} (x : Ex H H') (h : AnyV K H v s) : AnyV K H' v s := by
  cases h with
  | dat h s => exact .dat (dp_up x h) s
  | dct h => exact .dct (x _ _ h)
  | dci h p m => exact .dci (x _ _ h) p m
theorem isi_str {K : PySem.W.Frag} {H : Hp} {x : PySem.Str} {n : String} {b : Bool} (k : kitB "str" n = some b) : IsiOk K H (.str x) n b := .inl ⟨_, .base (.str x), kit_ty k⟩
theorem isi_dK {K : PySem.W.Frag} {H : Hp} {a : Addr} {kvs : List (Key × V)} {n : String} {b : Bool} (h : H a = some (.dK kvs)) (k : kitB "dict" n = some b) : IsiOk K H (.ref a) n b := .inl ⟨_, .base (.dK h), kit_ty k⟩
def isIv : V → Bool
  | .int _ => true
  | .bl _ => true
  | _ => false
def isBv : V → Bool
  | .bl _ => true
  | _ => false
theorem AnyV.isi {K : PySem.W.Frag} {H : Hp} {v : V} {s : PySem.Str} (h : AnyV K H v s) : IsiOk K H v "int" (isIv v) ∧ IsiOk K H v "bool" (isBv v) := by
  cases h with
  | dct h => exact ⟨isi_dK h (b := false) (by decide +kernel), isi_dK h (b := false) (by decide +kernel)⟩
  | dci h p m => exact ⟨isi_dK h (b := false) (by decide +kernel), isi_dK h (b := false) (by decide +kernel)⟩
  | dat h s =>
    cases h with
    | non => exact ⟨isi_non_int, isi_non_bool⟩
    | bl b => exact ⟨isi_bl_int, isi_bl_bool⟩
    | int i => exact ⟨isi_int_int, isi_int_bool⟩
    | str x => exact ⟨isi_str (b := false) (by decide +kernel), isi_str (b := false) (by decide +kernel)⟩
    | lst h _ => exact ⟨isi_lst h (b := false) (by decide +kernel), isi_lst h (b := false) (by decide +kernel)⟩
    | tup h _ => exact ⟨isi_tup h (b := false) (by decide +kernel), isi_tup h (b := false) (by decide +kernel)⟩
/-! ### x //= y -/
/-! ### a table composed of itself -/
/-! ### o.m(k = v, ..) -/
section
variable {X : Cx} {CX : CXT} {k : Nat} {f C : Addr} {fd : FuncData} {ps ks : List PySem.Str} {sp : Sp} {E : XK} {m : PySem.Str} {pos apos : Pos} {o : Expr} {kws : List Keyword} {ta : TE} {tk : TA} {is : List Nat}
end
end Ech

/-! values of any kind are no objects of an own class -/
namespace Ech
open PySem PySem.Spec PyProof.Rows L2
structure NoKin (K : PySem.W.Frag) (C : Addr) : Prop where
  none : PySem.W.kitOne K (.type "NoneType") (.ref C) = some false
  bool : PySem.W.kitOne K (.type "bool") (.ref C) = some false
  int : PySem.W.kitOne K (.type "int") (.ref C) = some false
  str : PySem.W.kitOne K (.type "str") (.ref C) = some false
  list : PySem.W.kitOne K (.type "list") (.ref C) = some false
  tuple : PySem.W.kitOne K (.type "tuple") (.ref C) = some false
  dict : PySem.W.kitOne K (.type "dict") (.ref C) = some false
theorem ty_tup {K : PySem.W.Frag} {H : Hp} {a : Addr} {xs : List V} (h : SqT K H a xs) : TyX K H (.ref a) (.type "tuple") := by
  rcases h with (h | ⟨o, h⟩) | ⟨o, its, m, h, hc, _⟩
  · exact .base (.tup h)
  · exact .fTuple h
  · exact .kTuple h hc
theorem ty_lst {K : PySem.W.Frag} {H : Hp} {a : Addr} {xs : List V} (h : SqL K H a xs) : TyX K H (.ref a) (.type "list") := by
  rcases h with (h | ⟨o, h⟩) | ⟨o, its, m, h, hc, _⟩
  · exact .base (.lst h)
  · exact .base (.frz h)
  · exact .kList h hc
theorem AnyV.own {K : PySem.W.Frag} {H : Hp} {v : V} {s : PySem.Str} (h : AnyV K H v s) {C : Addr} (k : NoKin K C) : ∃ t, TyX K H v t ∧ PySem.W.kitOne K t (.ref C) = some false := by
  cases h with
  | dct h => exact ⟨_, .base (.dK h), k.dict⟩
  | dci h _ _ => exact ⟨_, .base (.dK h), k.dict⟩
  | dat h s =>
    cases h with
    | non => exact ⟨_, .base .non, k.none⟩
    | bl b => exact ⟨_, .base (.bl b), k.bool⟩
    | int i => exact ⟨_, .base (.int i), k.int⟩
    | str x => exact ⟨_, .base (.str x), k.str⟩
    | lst h _ => exact ⟨_, ty_lst h, k.list⟩
    | tup h _ => exact ⟨_, ty_tup h, k.tuple⟩
theorem AnyV.not_own {K : PySem.W.Frag} {H : Hp} {v : V} {s : PySem.Str} {Q : VK} (h : AnyV K H v s) {C : Addr} (k : NoKin K C) (q : Q (.bl false) H) : rIsiU K [v, .ref C] H Q := by
  obtain ⟨t, h1, h2⟩ := h.own k
  exact Or.inl ⟨v, .ref C, t, .ref C, false, rfl, .own C, h1, h2, q⟩
end Ech

/-! values of any kind: dicts with keys of several kinds, lists and tuples of them; what repr and isinstance tell of them -/
namespace Ech
open PySem PySem.Spec PyProof.Rows L2
open He (ga ma)
section
variable {X : Cx} {pos : Pos} {keys : List (Option Expr)} {values : List Expr} {trs : List (TE × TE)}
def uDispB (trs : List (TE × TE)) : TE := fun σ H Q => ∀ p, H p = none → tPairs trs σ (upd H p (.dK [])) fun ps H2 => H2 p = some (.dK []) ∧ ∃ (b : Bool) (v : V), ps = [(.bl b, v)] ∧ Q (.ref p) (upd H2 p (BdD p [(b, v)]))
theorem pe_dispB (h : PPs X pos keys values trs) (hall : keys.all (·.isSome) = true) (hl : keys.length = values.length) (h0 : keys ≠ []) (h15 : keys.length ≤ 15) : PE X (.Dict keys values pos) (uDispB trs) := by
  refine ⟨fun pins s σ H Q I q => ?_⟩
  have hn := I.hok.fresh (Nat.le_refl s.heap.objs.size)
  have I1 := I.laid (a := s.heap.objs.size) (o := .dK []) (h' := s.heap.push { cls := .type "dict", data := .dict #[] }) (t' := s.toks) (fun _ _ q => Heap.get?_push_of_some _ q) (Nat.le_refl _) (dk_empty s.heap I.big)
  refine wpAny_Dict_walk (knd := PpSet.boolK X.prog X.w) hall hl h0 h15 (thn (h.run pins _ σ _ _ I1 (q _ hn)) fun ws s2 ⟨ps, H2, I2, rel, e, b, v, ep, q2⟩ => ?_)
  subst ep
  cases rel with
  | @cons pq uw _ ws' r t =>
    cases t
    obtain ⟨ra, rb⟩ := r
    obtain ⟨z, hd, vs0, r0, dd⟩ := dk_of I2.hok e
    cases r0
    obtain ⟨o, es, epn, ho, ex, hdat, ko, prs, nd⟩ := dd
    have e0 : es.toList = [] := List.length_eq_zero_iff.mp (Pairs.length prs)
    have dd' : s2.heap.DictOf (PpSet.boolK X.prog X.w) s.heap.objs.size [] := ⟨o, es, epn, ho, ex, hdat, (fun en he => by rw [← Array.mem_toList_iff, e0] at he; cases he), (by rw [e0]; exact .nil), List.nodup_nil⟩
    have ra' : uw.1 = Value.bool b := ra
    refine ⟨[(b, uw.2)], ⟨by rw [ra']; exact PpSet.boolK_is _ _ _, rfl, True.intro⟩, dd', fun h' dd2 hs => ⟨.ref s.heap.objs.size, _, ?_, rfl, q2⟩⟩
    obtain ⟨o2, es2, ep2, ho2, ex2, hdat2, ko2, prs2, nd2⟩ := dd2
    refine d_write I2 (by rw [e]; exact True.intro) hs ⟨o2, ho2⟩ (bd_ok hd ho2 ex2 hdat2 ?_)
    have prs3 : PySem.Pairs (PpSet.boolK X.prog X.w) es2.toList [(b, uw.2)] := prs2
    generalize es2.toList = l at prs3
    cases prs3 with
    | cons k1 k2 k3 =>
      cases k3
      exact .cons ⟨PpSet.isB_shape k1, by rw [k2]; exact rb⟩ .nil
end
section
variable {prog : Program} {w : World} {A : Around} {E : Value → Shared → Prop} {s : Shared}
theorem sub_one {pairs : List (Sem Value × Sem Value)} {Q : Addr → Shared → Prop} (hlen : pairs.length ≤ 15)
    (h : wpAny (model prog w) A (evalPairs pairs) (fun vs s₁ => ∃ k v, vs = [(k, v)] ∧ wpAny (model prog w) A (dictSet s.heap.objs.size k v) (fun _ s2 => Q s.heap.objs.size s2) E s₁) E
      { s with heap := s.heap.push { cls := .type "dict", data := .dict #[] } }) : wpAny (model prog w) A (subDict pairs) Q E s := by
  unfold subDict
  refine wpAny_bind (wpAny_alloc ?_)
  refine wpAny_bind (wpAny_holding ?_)
  rw [if_pos hlen]
  refine wpAny_bind (wpAny_mono h (fun vs s₁ h₁ => ?_) fun _ _ e => e)
  obtain ⟨k, v, rfl, h2⟩ := h₁
  refine wpAny_holding ?_
  rw [List.forIn_cons]
  refine wpAny_bind (wpAny_bind (wpAny_bind (wpAny_mono h2 (fun _ s2 q => wpAny_pure ?_) fun _ _ e => e)))
  show wpAny _ _ (forIn [] _ _) _ _ _
  rw [List.forIn_nil]
  exact wpAny_pure (wpAny_pure (wpAny_pure q))
theorem dict_one {env : Env} {keys : List (Option Expr)} {values : List Expr} {pos : Pos} {Q : Value → Shared → Prop} (hall : keys.all (·.isSome) = true) (hl : keys.length = values.length) (h0 : keys ≠ []) (h15 : keys.length ≤ 15)
    (h : wpAny (model prog w) A (evalPairs (pairTrees keys values env pos)) (fun vs s₁ => ∃ k v, vs = [(k, v)] ∧ wpAny (model prog w) A (dictSet s.heap.objs.size k v) (fun _ s2 => Q (.ref s.heap.objs.size) s2) E s₁) E
      { s with heap := s.heap.push { cls := .type "dict", data := .dict #[] } }) : wpAny (model prog w) A (eval (.Dict keys values pos) env) Q E s := by
  have hn := pairTrees_length keys values env pos hall hl
  have hne : pairTrees keys values env pos ≠ [] := fun he => by
    rw [he] at hn
    exact h0 (List.length_eq_zero_iff.mp hn.symm)
  rw [arm_eval_Dict, zip_pairTrees keys values env pos hall hl, dictDisplay_pairs _ hne (by omega)]
  refine wpAny_bind (wpAny_standAt (wpAny_bind (sub_one (Q := fun d s' => wpAny (model prog w) A (pure (Value.ref d)) Q E s') (by omega) (wpAny_mono h (fun vs s₁ h₁ => ?_) fun _ _ e => e))))
  obtain ⟨k, v, e1, h2⟩ := h₁
  exact ⟨k, v, e1, wpAny_mono h2 (fun _ s2 q => wpAny_pure q) fun _ _ e => e⟩
end
section
variable {X : Cx} {pos : Pos} {keys : List (Option Expr)} {values : List Expr} {trs : List (TE × TE)}
def uDispT (trs : List (TE × TE)) : TE := fun σ H Q => ∀ p, H p = none → tPairs trs σ (upd H p (.dT [])) fun ps H2 => H2 p = some (.dT []) ∧ ∃ (b : Addr) (k : List Key) (v : V), ps = [(.ref b, v)] ∧ H2 b = some (.tup (k.map kV)) ∧ Q (.ref p) (upd H2 p (.dT [(k, v)]))
theorem pe_dispT (hu : X.A.units + 1 < cLine) (h : PPs X pos keys values trs) (hall : keys.all (·.isSome) = true) (hl : keys.length = values.length) (h0 : keys ≠ []) (h15 : keys.length ≤ 15) : PE X (.Dict keys values pos) (uDispT trs) := by
  refine ⟨fun pins s σ H Q I q => ?_⟩
  have hn := I.hok.fresh (Nat.le_refl s.heap.objs.size)
  have I1 := I.laid (a := s.heap.objs.size) (o := .dT []) (h' := s.heap.push { cls := .type "dict", data := .dict #[] }) (t' := s.toks) (fun _ _ q => Heap.get?_push_of_some _ q) (Nat.le_refl _) (dt_empty s.heap I.big)
  refine dict_one hall hl h0 h15 (thn (h.run pins _ σ _ _ I1 (q _ hn)) fun ws s2 ⟨ps, H2, I2, rel, e, b, k, v, ep, eb, q2⟩ => ?_)
  subst ep
  cases rel with
  | @cons pq uw _ ws' r t =>
    cases t
    obtain ⟨ra, rb⟩ := r
    have ra' : uw.1 = Value.ref b := ra
    obtain ⟨z, hd, xs, rel, dd⟩ := dt_of I2.hok e
    cases rel
    refine ⟨uw.1, uw.2, rfl, ?_⟩
    rw [ra']
    refine wpAny_dictSet_heap (hsz := Nat.zero_le _) (show X.A.units < cLine by omega) (key_of I2.hok eb) dd fun h' dd' hs => ⟨.ref s.heap.objs.size, upd H2 s.heap.objs.size (.dT [(k, v)]), ?_, rfl, q2⟩
    obtain ⟨o2, es, epn, ho2, h2, h3, h4, _, h5⟩ := dd'
    refine d_write I2 (by rw [e]; exact True.intro) hs ⟨o2, ho2⟩ ⟨(by show 1 ≤ sizeLine; decide +kernel), hd, _, .cons ⟨rfl, ?_, rb⟩ .nil, o2, es, epn, ho2, h2, h3, h4, h5⟩
    rw [upd_ne (ne_of eb e (fun z => nomatch z))]
    exact eb
end
/-! ### values as data -/
def keyD : Key → PyData
  | .inl i => .int i
  | .inr x => .str x
mutual
/-- a value and what it tells as data; f: its lists are known to be none of the interpreter's own -/
inductive Dq (K : PySem.W.Frag) (H : Hp) (f : Bool) : V → PyData → Prop
  | non : Dq K H f .non .none
  | bl (b : Bool) : Dq K H f (.bl b) (.bool b)
  | int (i : Int) : Dq K H f (.int i) (.int i)
  | str (x : PySem.Str) : Dq K H f (.str x) (.str x)
  | lst {a : Addr} {xs : List V} {ds : List PyData} : SqL K H a xs → (f = true → (a == sysModules) = false) → DqAll K H f xs ds → Dq K H f (.ref a) (.list ds)
  | tup {a : Addr} {xs : List V} {ds : List PyData} : SqT K H a xs → DqAll K H f xs ds → Dq K H f (.ref a) (.tuple ds)
  | dct {a : Addr} {kvs : List (Key × V)} {ds : List PyData} : H a = some (.dK kvs) → DqAll K H f (kvs.map (·.2)) ds → Dq K H f (.ref a) (.dict ((kvs.map fun p => keyD p.1).zip ds))
  | dtu {a : Addr} {kvs : List (List Key × V)} {ds : List PyData} : H a = some (.dT kvs) → DqAll K H f (kvs.map (·.2)) ds → Dq K H f (.ref a) (.dict ((kvs.map fun p => PyData.tuple (p.1.map keyD)).zip ds))
  | dbo {a : Addr} {kvs : List (Bool × V)} {ds : List PyData} : H a = some (BdD a kvs) → DqAll K H f (kvs.map (·.2)) ds → Dq K H f (.ref a) (.dict ((kvs.map fun p => PyData.bool p.1).zip ds))
inductive DqAll (K : PySem.W.Frag) (H : Hp) (f : Bool) : List V → List PyData → Prop
  | nil : DqAll K H f [] []
  | cons {v : V} {vs : List V} {d : PyData} {ds : List PyData} : Dq K H f v d → DqAll K H f vs ds → DqAll K H f (v :: vs) (d :: ds)
end
mutual
theorem Dq.up {K : PySem.W.Frag} {H H' : Hp} {f : Bool} (x : Ex H H') : ∀ {v : V} {d : PyData}, Dq K H f v d → Dq K H' f v d
  | _, _, .non => .non
  | _, _, .bl b => .bl b
  | _, _, .int i => .int i
  | _, _, .str y => .str y
  | _, _, .lst h z a => .lst (Evl.ex_l x h) z (DqAll.up x a)
  | _, _, .tup h a => .tup (Evl.ex_t x h) (DqAll.up x a)
  | _, _, .dct h a => .dct (x _ _ h) (DqAll.up x a)
  | _, _, .dtu h a => .dtu (x _ _ h) (DqAll.up x a)
  | _, _, .dbo h a => .dbo (x _ _ h) (DqAll.up x a)
theorem DqAll.up {K : PySem.W.Frag} {H H' : Hp} {f : Bool} (x : Ex H H') : ∀ {vs : List V} {ds : List PyData}, DqAll K H f vs ds → DqAll K H' f vs ds
  | _, _, .nil => .nil
  | _, _, .cons h t => .cons (Dq.up x h) (DqAll.up x t)
end
mutual
theorem Dq.weak {K : PySem.W.Frag} {H : Hp} {f : Bool} : ∀ {v : V} {d : PyData}, Dq K H f v d → Dq K H false v d
  | _, _, .non => .non
  | _, _, .bl b => .bl b
  | _, _, .int i => .int i
  | _, _, .str y => .str y
  | _, _, .lst h _ a => .lst h (fun z => nomatch z) (DqAll.weak a)
  | _, _, .tup h a => .tup h (DqAll.weak a)
  | _, _, .dct h a => .dct h (DqAll.weak a)
  | _, _, .dtu h a => .dtu h (DqAll.weak a)
  | _, _, .dbo h a => .dbo h (DqAll.weak a)
theorem DqAll.weak {K : PySem.W.Frag} {H : Hp} {f : Bool} : ∀ {vs : List V} {ds : List PyData}, DqAll K H f vs ds → DqAll K H false vs ds
  | _, _, .nil => .nil
  | _, _, .cons h t => .cons (Dq.weak h) (DqAll.weak t)
end
mutual
theorem Dq.ofDp {K : PySem.W.Frag} {H : Hp} : ∀ {v : V} {d : PyData}, Dp K H v d → Dq K H false v d
  | _, _, .non => .non
  | _, _, .bl b => .bl b
  | _, _, .int i => .int i
  | _, _, .str y => .str y
  | _, _, .lst h a => .lst h (fun z => nomatch z) (DqAll.ofDp a)
  | _, _, .tup h a => .tup h (DqAll.ofDp a)
theorem DqAll.ofDp {K : PySem.W.Frag} {H : Hp} : ∀ {vs : List V} {ds : List PyData}, DpAll K H vs ds → DqAll K H false vs ds
  | _, _, .nil => .nil
  | _, _, .cons h t => .cons (Dq.ofDp h) (DqAll.ofDp t)
end
theorem dqAll_len {K : PySem.W.Frag} {H : Hp} {f : Bool} : ∀ {vs : List V} {ds : List PyData}, DqAll K H f vs ds → vs.length = ds.length
  | _, _, .nil => rfl
  | _, _, .cons _ t => by rw [List.length_cons, List.length_cons, dqAll_len t]
theorem dqAll_at {K : PySem.W.Frag} {H : Hp} {f : Bool} : ∀ {vs : List V} {ds : List PyData} {i : Nat} {v : V}, DqAll K H f vs ds → vs[i]? = some v → ∃ d, ds[i]? = some d ∧ Dq K H f v d
  | _, _, _, _, .nil, h => by cases h
  | _, _, 0, _, .cons a _, h => by cases h; exact ⟨_, rfl, a⟩
  | _, _, i + 1, _, .cons _ t, h => dqAll_at (i := i) t h
theorem dqAll_snoc {K : PySem.W.Frag} {H : Hp} {f : Bool} {v : V} {d : PyData} : ∀ {vs : List V} {ds : List PyData}, DqAll K H f vs ds → Dq K H f v d → DqAll K H f (vs ++ [v]) (ds ++ [d])
  | _, _, .nil, h => .cons h .nil
  | _, _, .cons a t, h => .cons a (dqAll_snoc t h)
/-! ### reading them -/
section
variable {X : Cx} {pins : List (Addr × Obj)} {σ : L2.St} {H : Hp} {s : Shared} {f : Bool}
theorem key_reads {h : Heap} {k : Key} {v : Value} (r : keyIs k v = true) : Reads h v (keyD k) [] := by
  rcases keyIs_shape r with ⟨i, t, rfl, rfl⟩ | ⟨x, t, rfl, rfl⟩
  · exact .int _ _
  · exact .str _ _
theorem keys_reads {h : Heap} : ∀ {kvs : List (Key × V)} {vs : List (Key × Value)} {es : List DictEntry}, KV kvs vs → PySem.Pairs (mixKind X.prog X.w) es vs →
    ReadsAll h (es.map (·.key)) (kvs.map fun p => keyD p.1) [] ∧ Vals (kvs.map (·.2)) (es.map (·.val))
  | _, _, _, .nil, .nil => ⟨.nil, .nil⟩
  | _, _, _, .cons k kt, .cons e1 e2 et => by
    obtain ⟨ih1, ih2⟩ := keys_reads (h := h) kt et
    rename_i kv w _ _ de _
    refine ⟨.cons (as := []) (bs := []) ?_ ih1, .cons ?_ ih2⟩
    · have e1 : keyIs w.1 de.key = true := e1
      rw [← k.1] at e1
      exact key_reads e1
    · show RelV kv.2 de.val
      rw [e2]
      exact k.2
theorem tup_reads {h : Heap} (hok : HOk X.prog X.w H h) {b : Addr} {ks : List Key} (e : H b = some (.tup (ks.map kV))) : Reads h (.ref b) (.tuple (ks.map keyD)) [] := by
  obtain ⟨_, its, r, o, h1, h2, n, h3⟩ := (show ObjOk X.prog X.w H h b (.tup (ks.map kV)) from hok b _ e)
  refine .tuple h1 h2 h3 ?_
  have key : ∀ {ks : List Key} {us : List Value}, Vals (ks.map kV) us → ReadsAll h us (ks.map keyD) [] := by
    intro ks
    induction ks with
    | nil => intro us r; cases r; exact .nil
    | cons k ks ih =>
      intro us r
      cases r with
      | @cons _ u _ us' r1 r2 =>
        refine .cons (as := []) (bs := []) ?_ (ih r2)
        cases k with
        | inl i => obtain ⟨t, rfl⟩ := (show ∃ t, u = Value.int i t from r1); exact .int _ _
        | inr x => obtain ⟨t, rfl⟩ := (show ∃ t, u = Value.str x t from r1); exact .str _ _
  have := key r
  simpa using this
theorem tkeys_reads {h : Heap} (hok : HOk X.prog X.w H h) : ∀ {kvs : List (List Key × V)} {xs : List (List Key × Addr × Value)}, Paired (fun (p : List Key × V) (q : List Key × Addr × Value) => p.1 = q.1 ∧ H q.2.1 = some (.tup (p.1.map kV)) ∧ RelV p.2 q.2.2) kvs xs →
    ReadsAll h ((xs.map (entryOfKey (tupleKind (mixKind X.prog X.w)))).map (·.key)) (kvs.map fun p => PyData.tuple (p.1.map keyD)) [] ∧ Vals (kvs.map (·.2)) ((xs.map (entryOfKey (tupleKind (mixKind X.prog X.w)))).map (·.val))
  | _, _, .nil => ⟨.nil, .nil⟩
  | _, _, .cons k kt => by
    obtain ⟨ih1, ih2⟩ := tkeys_reads hok kt
    exact ⟨.cons (as := []) (bs := []) (tup_reads hok k.2.1) ih1, .cons k.2.2 ih2⟩
theorem bkeys_reads {h : Heap} : ∀ {kvs : List (Bool × V)} {es : List DictEntry}, BKV kvs es → ReadsAll h (es.map (·.key)) (kvs.map fun p => PyData.bool p.1) [] ∧ Vals (kvs.map (·.2)) (es.map (·.val))
  | _, _, .nil => ⟨.nil, .nil⟩
  | _, _, .cons k kt => by
    obtain ⟨ih1, ih2⟩ := bkeys_reads (h := h) kt
    rename_i p de _ _
    refine ⟨.cons (as := []) (bs := []) ?_ ih1, .cons k.2 ih2⟩
    show Reads h de.key (.bool p.1) []
    rw [k.1]
    exact .bool _
theorem zip_fst {ks ds : List PyData} (h : ks.length = ds.length) : (ks.zip ds).map (·.1) = ks := List.map_fst_zip (Nat.le_of_eq h)
theorem zip_snd {ks ds : List PyData} (h : ks.length = ds.length) : (ks.zip ds).map (·.2) = ds := List.map_snd_zip (Nat.le_of_eq h.symm)
mutual
theorem Dq.reads (I : Inv X pins σ H s) : ∀ {v : V} {d : PyData}, Dq X.K H f v d → ∀ {u : Value}, RelV v u → ∃ as, Reads s.heap u d as ∧ (f = true → sysModules ∉ as)
  | _, _, .non, u, r => by cases r; exact ⟨_, .none, fun _ h => nomatch h⟩
  | _, _, .bl b, u, r => by cases r; exact ⟨_, .bool b, fun _ h => nomatch h⟩
  | _, _, .int i, u, r => by obtain ⟨t, rfl⟩ := r; exact ⟨_, .int i t, fun _ h => nomatch h⟩
  | _, _, .str x, u, r => by obtain ⟨t, rfl⟩ := r; exact ⟨_, .str x t, fun _ h => nomatch h⟩
  | _, _, .lst hs z ha, u, r => by
    cases r
    obtain ⟨its, rv, ⟨o, n, ho, hc, _, hd⟩, _⟩ := I.list hs
    obtain ⟨as, hr, hn⟩ := DqAll.reads I ha rv
    refine ⟨_, .list ho hc hd hr, fun hf h => ?_⟩
    rcases List.mem_cons.mp h with e | h
    · have := z hf
      rw [← e] at this
      exact absurd this (by decide)
    · exact hn hf h
  | _, _, .tup hs ha, u, r => by
    cases r
    obtain ⟨its, rv, ⟨o, ho, hc, n, hd⟩, _⟩ := I.tuple hs
    obtain ⟨as, hr, hn⟩ := DqAll.reads I ha rv
    exact ⟨_, .tuple ho hc hd hr, hn⟩
  | _, _, .dct (a := a) h ha, u, r => by
    cases r
    obtain ⟨_, nsys, vs, kv, o, es, ep, ho, ex, hdat, _, prs, _⟩ := dk_of I.hok h
    obtain ⟨r1, r2⟩ := keys_reads (h := s.heap) kv prs
    obtain ⟨as, hr, hn⟩ := DqAll.reads I ha r2
    have l := dqAll_len ha
    rw [List.length_map] at l
    refine ⟨_, .dict (as := []) (bs := as) ho ex.1 hdat (by rw [zip_fst (by rw [List.length_map]; exact l)]; exact r1) (by rw [zip_snd (by rw [List.length_map]; exact l)]; exact hr), fun hf h => ?_⟩
    rcases List.mem_cons.mp h with e | h
    · rw [← e] at nsys
      exact absurd nsys (by decide)
    · exact hn hf h
  | _, _, .dtu (a := a) h ha, u, r => by
    cases r
    obtain ⟨_, nsys, xs, kt, o, es, ep, ho, ex, hdat, he, _⟩ := (show ObjOk X.prog X.w H s.heap a _ from I.hok a _ h)
    obtain ⟨r1, r2⟩ := tkeys_reads (X := X) I.hok kt
    rw [← he] at r1 r2
    obtain ⟨as, hr, hn⟩ := DqAll.reads I ha r2
    have l := dqAll_len ha
    rw [List.length_map] at l
    refine ⟨_, .dict (as := []) (bs := as) ho ex.1 hdat (by rw [zip_fst (by rw [List.length_map]; exact l)]; exact r1) (by rw [zip_snd (by rw [List.length_map]; exact l)]; exact hr), fun hf h => ?_⟩
    rcases List.mem_cons.mp h with e | h
    · rw [← e] at nsys
      exact absurd nsys (by decide)
    · exact hn hf h
  | _, _, .dbo (a := a) h ha, u, r => by
    cases r
    obtain ⟨nsys, o, es, ep, ho, ex, hdat, kb⟩ := bd_at I h
    obtain ⟨r1, r2⟩ := bkeys_reads (h := s.heap) kb
    obtain ⟨as, hr, hn⟩ := DqAll.reads I ha r2
    have l := dqAll_len ha
    rw [List.length_map] at l
    refine ⟨_, .dict (as := []) (bs := as) ho ex.1 hdat (by rw [zip_fst (by rw [List.length_map]; exact l)]; exact r1) (by rw [zip_snd (by rw [List.length_map]; exact l)]; exact hr), fun hf h => ?_⟩
    rcases List.mem_cons.mp h with e | h
    · rw [← e] at nsys
      exact absurd nsys (by decide)
    · exact hn hf h
theorem DqAll.reads (I : Inv X pins σ H s) : ∀ {vs : List V} {ds : List PyData}, DqAll X.K H f vs ds → ∀ {us : List Value}, Vals vs us → ∃ as, ReadsAll s.heap us ds as ∧ (f = true → sysModules ∉ as)
  | _, _, .nil, us, r => by cases r; exact ⟨_, .nil, fun _ h => nomatch h⟩
  | _, _, .cons h t, us, r => by
    cases r with
    | cons r1 r2 =>
      obtain ⟨as, q1, n1⟩ := Dq.reads I h r1
      obtain ⟨bs, q2, n2⟩ := DqAll.reads I t r2
      refine ⟨_, .cons q1 q2, fun hf h => ?_⟩
      rcases List.mem_append.mp h with h | h
      · exact n1 hf h
      · exact n2 hf h
end
end
/-! ### small enough to be told -/
structure SmQ (k n : Nat) (d : PyData) : Prop where
  sh : d.showable = true
  dp : d.depth ≤ k
  lv : d.leavesShort 91 = true
  w : d.weight ≤ n
theorem SmQ.up {k n k' n' : Nat} {d : PyData} (h : SmQ k n d) (hk : k ≤ k') (hn : n ≤ n') : SmQ k' n' d := ⟨h.sh, Nat.le_trans h.dp hk, h.lv, Nat.le_trans h.w hn⟩
theorem SmQ.ofSm {k n : Nat} {d : PyData} (h : Sm k n d) : SmQ k n d := ⟨h.sh, h.dp, h.lv, h.w⟩
theorem smq_all {k n : Nat} : ∀ {ds : List PyData}, (∀ d ∈ ds, SmQ k n d) → PyData.showableAll ds = true ∧ PyData.depthAll ds ≤ k ∧ PyData.leavesShortAll 91 ds = true ∧ PyData.weightAll ds ≤ ds.length * (n + 1)
  | [], _ => ⟨by simp [PyData.showableAll], by simp [PyData.depthAll], by simp [PyData.leavesShortAll], by simp [PyData.weightAll]⟩
  | d :: ds, h => by
    obtain ⟨a, b, c, e⟩ := smq_all (ds := ds) fun x hx => h x (List.mem_cons_of_mem _ hx)
    obtain ⟨p, q, r, t⟩ := h d (List.mem_cons_self ..)
    refine ⟨by simp [PyData.showableAll, a, p], ?_, by simp [PyData.leavesShortAll, c, r], ?_⟩
    · simp only [PyData.depthAll]; omega
    · simp only [PyData.weightAll, List.length_cons]
      rw [Nat.succ_mul]
      omega
theorem smq_tup {k n : Nat} {ds : List PyData} (m : Nat) (hm : ds.length ≤ m) (h : ∀ d ∈ ds, SmQ k n d) : SmQ (k + 1) (m * (n + 1)) (.tuple ds) := by
  obtain ⟨a, b, c, e⟩ := smq_all h
  exact ⟨by simpa [PyData.showable] using a, by simp only [PyData.depth]; omega, by simpa [PyData.leavesShort] using c, by
    simp only [PyData.weight]; exact Nat.le_trans e (Nat.mul_le_mul_right _ hm)⟩
structure AnyQ (K : PySem.W.Frag) (H : Hp) (f : Bool) (k n : Nat) (v : V) (d : PyData) : Prop where
  dq : Dq K H f v d
  fd : d.hasDict = true → f = true
  sm : SmQ k n d
theorem AnyQ.up {K : PySem.W.Frag} {H H' : Hp} {f : Bool} {k n : Nat} {v : V} {d : PyData} (x : Ex H H') (h : AnyQ K H f k n v d) : AnyQ K H' f k n v d := ⟨Dq.up x h.dq, h.fd, h.sm⟩
theorem AnyQ.ofSm {K : PySem.W.Frag} {H : Hp} {k n : Nat} {v : V} {d : PyData} (h : Dp K H v d) (s : Sm k n d) : AnyQ K H false k n v d := ⟨Dq.ofDp h, fun z => (by rw [s.nd] at z; cases z), .ofSm s⟩
theorem AnyQ.told {K : PySem.W.Frag} {H : Hp} {f : Bool} {k n : Nat} {v : V} {d : PyData} (h : AnyQ K H f k n v d) {a : Addr} {x : PySem.Str} {b : Bool} (ha : SqT K H a [.str x, v, .bl b]) (sx : SmQ k n (.str x)) : AnyQ K H f (k + 1) (3 * (n + 1)) (.ref a) (.tuple [.str x, d, .bool b]) :=
  ⟨.tup ha (.cons (.str x) (.cons h.dq (.cons (.bl b) .nil))), fun z => h.fd (by simpa [PyData.hasDict, PyData.hasDictAll] using z), smq_tup 3 (Nat.le_refl _) fun e he => by
    simp only [List.mem_cons, List.not_mem_nil, or_false] at he
    rcases he with rfl | rfl | rfl
    · exact sx
    · exact h.sm
    · exact (SmQ.ofSm (sm_bl b)).up (Nat.zero_le _) (Nat.zero_le _)⟩
/-! ### repr -/
def rReprQ (K : PySem.W.Frag) : List V → Hp → VK → Prop := fun xs H Q => match xs with
  | [v] => ∃ f k n d, AnyQ K H f k n v d ∧ k ≤ 40 ∧ n ≤ 150000 ∧ Q (.str d.shown) H
  | _ => False
theorem k_reprQ {X : Cx} {K : PySem.W.Frag} (hK : X.K = K) (quiet : X.A.guards = some []) (hu : X.A.units + 64 < cLine) : CallR X (.builtin "repr") (rReprQ K) := by
  subst hK
  intro pins s σ H xs us Q I r h
  unfold rReprQ at h
  split at h
  case h_2 => exact h.elim
  rename_i v
  obtain ⟨f, k, n, d, hv, hk, hn, q⟩ := h
  have hsz : d.shown.length ≤ sizeLine := by
    have e := PyData.shown_le 91 (by decide) d hv.sm.lv
    have w := hv.sm.w
    have e2 : sizeLine = 16777216 := by decide +kernel
    rw [e2]
    have : (91 + 2) * d.weight ≤ 93 * 150000 := Nat.mul_le_mul (by omega) (by omega)
    omega
  have hdp := hv.sm.dp
  have flat : Dp X.K H v d → d.hasDict = false → _ := fun h1 h2 => c_repr quiet hu pins s σ H [v] us Q I r ⟨v, d, rfl, h1, hv.sm.sh, h2, by omega, hsz, q⟩
  have big : ∀ a, v = .ref a → wpAny (model X.prog X.w) X.A (call (Value.builtin "repr") us) (EP X pins σ Q) X.xe s := fun a ea => by
    subst ea
    obtain ⟨u, rfl, ru⟩ := vals1 r
    cases (show u = Value.ref a from ru)
    obtain ⟨as, rd, ns⟩ := Dq.reads I hv.dq (u := .ref a) rfl
    exact repr_of_reads' rd hv.sm.sh (fun z => ns (hv.fd z)) quiet (by omega) (fun _ _ e => e) (fun h' u tk hk => ⟨.str _, H, I.kept hk, ⟨_, rfl⟩, q⟩) hsz
  cases hv.dq with
  | non => exact flat .non rfl
  | bl b => exact flat (.bl b) rfl
  | int i => exact flat (.int i) rfl
  | str x => exact flat (.str x) rfl
  | lst _ _ _ => exact big _ rfl
  | tup _ _ => exact big _ rfl
  | dct _ _ => exact big _ rfl
  | dtu _ _ => exact big _ rfl
  | dbo _ _ => exact big _ rfl
/-! ### isinstance -/
def tyD : PyData → String
  | .none => "NoneType"
  | .bool _ => "bool"
  | .int _ => "int"
  | .str _ => "str"
  | .list _ => "list"
  | .tuple _ => "tuple"
  | .dict _ => "dict"
theorem isi_dT {K : PySem.W.Frag} {H : Hp} {a : Addr} {kvs : List (List Key × V)} {n : String} {b : Bool} (h : H a = some (.dT kvs)) (k : kitB "dict" n = some b) : IsiOk K H (.ref a) n b := .inl ⟨_, .base (.dT h), kit_ty k⟩
theorem Dq.isi {K : PySem.W.Frag} {H : Hp} {f : Bool} {v : V} {d : PyData} (h : Dq K H f v d) {n : String} {b : Bool} (k : kitB (tyD d) n = some b) : IsiOk K H v n b := by
  cases h with
  | non => exact .inl ⟨_, .base .non, kit_ty k⟩
  | bl b => exact .inl ⟨_, .base (.bl b), kit_ty k⟩
  | int i => exact .inl ⟨_, .base (.int i), kit_ty k⟩
  | str x => exact .inl ⟨_, .base (.str x), kit_ty k⟩
  | lst h _ _ => exact isi_lst h k
  | tup h _ => exact isi_tup h k
  | dct h _ => exact isi_dK h k
  | dtu h _ => exact isi_dT h k
  | dbo h _ => exact .inr ⟨_, _, rfl, h, kit_ty k⟩
theorem Dq.not_own {K : PySem.W.Frag} {H : Hp} {f : Bool} {v : V} {d : PyData} {Q : VK} (h : Dq K H f v d) {C : Addr} (k : NoKin K C) (q : Q (.bl false) H) : rIsiU K [v, .ref C] H Q := by
  have go : ∀ t, TyX K H v t → PySem.W.kitOne K t (.ref C) = some false → rIsiU K [v, .ref C] H Q := fun t h1 h2 => Or.inl ⟨v, .ref C, t, .ref C, false, rfl, .own C, h1, h2, q⟩
  cases h with
  | non => exact go _ (.base .non) k.none
  | bl b => exact go _ (.base (.bl b)) k.bool
  | int i => exact go _ (.base (.int i)) k.int
  | str x => exact go _ (.base (.str x)) k.str
  | lst h _ _ => exact go _ (ty_lst h) k.list
  | tup h _ => exact go _ (ty_tup h) k.tuple
  | dct h _ => exact go _ (.base (.dK h)) k.dict
  | dtu h _ => exact go _ (.base (.dT h)) k.dict
  | dbo h _ => exact Or.inr (Or.inr (Or.inl ⟨_, _, .ref C, .ref C, false, rfl, .own C, h, k.dict, q⟩))
def isIntD (lo hi : Int) : PyData → Bool
  | .int i => decide (lo ≤ i) && decide (i ≤ hi)
  | _ => false
/-! ### lists that are none of the interpreter's own -/
def uLstQ (t : TA) : TE := fun σ H Q => t σ H fun xs H1 => xs.length ≤ sizeLine ∧ ∀ p H2, New H1 p (.lst xs) H2 → (p == sysModules) = false → Q (.ref p) H2
theorem u_lstQ {X : Cx} {es : List Expr} {t : TA} {pos : Pos} (h : PA X es t) : PE X (.List es pos) (uLstQ t) := by
  refine ⟨fun pins s σ H Q I hq => ?_⟩
  refine wpAny_List_spliced (thn ((pa_cl h).run pos pins s σ H _ I ⟨_, hq, fun _ _ z => z⟩) fun us s1 ⟨xs, H1, I1, r, z, q⟩ => ⟨by rw [← r.length]; exact z, ?_⟩)
  have hf : H1 s1.heap.objs.size = none := I1.hok.fresh (Nat.le_refl _)
  have hs : (s1.heap.objs.size == sysModules) = false := beq_eq_false_iff_ne.mpr (Nat.ne_of_gt I1.big)
  refine ⟨.ref s1.heap.objs.size, upd H1 s1.heap.objs.size (.lst xs), I1.laid (t' := s1.toks) (fun b u e => Heap.get?_push_of_some _ e) (Nat.le_refl _) ?_, rfl, q _ _ ⟨hf, rfl⟩ hs⟩
  exact ⟨z, us, 0, r, Heap.get?_push_size _ rfl⟩
def shortD (L : Int) : PyData → Bool
  | .tuple ds => (decide (1 ≤ ds.length) && decide (ds.length ≤ 40)) && ds.all (isIntD 0 (L - 1))
  | _ => false
theorem shortD_tup {L : Int} {ds : List PyData} : shortD L (.tuple ds) = ((decide (1 ≤ ds.length) && decide (ds.length ≤ 40)) && ds.all (isIntD 0 (L - 1))) := rfl
theorem ints_of {K : PySem.W.Frag} {H : Hp} {f : Bool} {L : Int} : ∀ {xs : List V} {ds : List PyData}, DqAll K H f xs ds → ds.all (isIntD 0 L) = true → ∃ ns : List Int, xs = ns.map V.int ∧ ds = ns.map PyData.int ∧ ∀ i ∈ ns, 0 ≤ i ∧ i ≤ L
  | _, _, .nil, _ => ⟨[], rfl, rfl, fun i hi => by cases hi⟩
  | _, _, .cons (d := d) h t, a => by
    rw [List.all_cons, Bool.and_eq_true] at a
    obtain ⟨ns, e1, e2, e3⟩ := ints_of t a.2
    have a1 := a.1
    cases h with
    | int i =>
      have a1 : (decide (0 ≤ i) && decide (i ≤ L)) = true := a1
      rw [Bool.and_eq_true, decide_eq_true_eq, decide_eq_true_eq] at a1
      refine ⟨i :: ns, by rw [e1]; rfl, by rw [e2]; rfl, fun j hj => ?_⟩
      rcases List.mem_cons.mp hj with rfl | hj
      · exact a1
      · exact e3 j hj
    | _ => exact absurd a1 Bool.false_ne_true
theorem short_ints {K : PySem.W.Frag} {H : Hp} {f : Bool} {L : Int} {v : V} {d : PyData} (h : Dq K H f v d) (s : shortD L d = true) : ∃ (a : Addr) (ns : List Int), v = .ref a ∧ SqT K H a (ns.map V.int) ∧ 1 ≤ ns.length ∧ ns.length ≤ 40 ∧ ∀ i ∈ ns, 0 ≤ i ∧ i ≤ L - 1 := by
  cases h with
  | tup h1 h2 =>
    unfold shortD at s
    rw [Bool.and_eq_true, Bool.and_eq_true, decide_eq_true_eq, decide_eq_true_eq] at s
    obtain ⟨ns, e1, e2, e3⟩ := ints_of h2 s.2
    rw [e2, List.length_map] at s
    exact ⟨_, ns, rfl, e1 ▸ h1, s.1.1, s.1.2, e3⟩
  | _ => exact absurd s Bool.false_ne_true
theorem int_of {K : PySem.W.Frag} {H : Hp} {f : Bool} {lo hi : Int} {v : V} {d : PyData} (h : Dq K H f v d) (s : isIntD lo hi d = true) : ∃ i, v = .int i ∧ d = .int i ∧ lo ≤ i ∧ i ≤ hi := by
  cases h with
  | int i =>
    have s : (decide (lo ≤ i) && decide (i ≤ hi)) = true := s
    rw [Bool.and_eq_true, decide_eq_true_eq, decide_eq_true_eq] at s
    exact ⟨i, rfl, rfl, s.1, s.2⟩
  | _ => exact absurd s Bool.false_ne_true
theorem Dq.isiV {K : PySem.W.Frag} {H : Hp} {f : Bool} {v : V} {d : PyData} (h : Dq K H f v d) : IsiOk K H v "int" (isIv v) ∧ IsiOk K H v "bool" (isBv v) := by
  have k1 : ∀ {n : String} {b : Bool}, kitB (tyD d) n = some b → IsiOk K H v n b := fun k => h.isi k
  cases h with
  | non => exact ⟨k1 (by decide +kernel), k1 (by decide +kernel)⟩
  | bl b => exact ⟨k1 (by show kitB "bool" "int" = some true; decide +kernel), k1 (by show kitB "bool" "bool" = some true; decide +kernel)⟩
  | int i => exact ⟨k1 (by show kitB "int" "int" = some true; decide +kernel), k1 (by show kitB "int" "bool" = some false; decide +kernel)⟩
  | str x => exact ⟨k1 (by show kitB "str" "int" = some false; decide +kernel), k1 (by show kitB "str" "bool" = some false; decide +kernel)⟩
  | lst _ _ _ => exact ⟨k1 (by show kitB "list" "int" = some false; decide +kernel), k1 (by show kitB "list" "bool" = some false; decide +kernel)⟩
  | tup _ _ => exact ⟨k1 (by show kitB "tuple" "int" = some false; decide +kernel), k1 (by show kitB "tuple" "bool" = some false; decide +kernel)⟩
  | dct _ _ => exact ⟨k1 (by show kitB "dict" "int" = some false; decide +kernel), k1 (by show kitB "dict" "bool" = some false; decide +kernel)⟩
  | dtu _ _ => exact ⟨k1 (by show kitB "dict" "int" = some false; decide +kernel), k1 (by show kitB "dict" "bool" = some false; decide +kernel)⟩
  | dbo _ _ => exact ⟨k1 (by show kitB "dict" "int" = some false; decide +kernel), k1 (by show kitB "dict" "bool" = some false; decide +kernel)⟩
def RaisesQ (K : PySem.W.Frag) (C : PySem.Str) (x : V) (H : Hp) (E : XK) : Prop := ∀ d H1 H2, Ex H H1 → New H1 d (.xd [("value", x)]) H2 → E (.ref (ga K C)) (some d) H2
theorem RaisesQ.up {K : PySem.W.Frag} {C : PySem.Str} {x : V} {H H' : Hp} {E : XK} (h : RaisesQ K C x H E) (y : Ex H H') : RaisesQ K C x H' E := fun d H1 H2 x1 n => h d H1 H2 (ex_trans y x1) n
end Ech

set_option maxHeartbeats 4000000
namespace Ech
open PySem PySem.Spec PyProof.Rows L2
open He (ga ma)
/-! ### a tuple times an int -/
theorem tuple_mul1 (l : Addr) (items : Array Value) (n : Nat) (dd : Option Addr) (sl : Array (Option Value)) (u : Tok) :
    Meets (Builtin.«tuple.__mul__» ⟨[.ref l, .int 1 u], []⟩) (fun _ R s => s.heap.get? l = some { cls := .type "tuple", dict := dd, data := .seq items n, slots := sl } ∧ R (.ok (.ret (.ref l))) s) :=
  .of_wp fun prog w A R s h => by
    obtain ⟨hp, g, d, tk, os⟩ := s
    obtain ⟨hl, h⟩ := h
    have idx := AutoSeq1.idx_int
    wp_walk using wpAny_loadPart' hl
    exact ⟨_, rfl, h⟩
def rRep1 (K : PySem.W.Frag) : R2 := fun x y H Q => ∃ l xs, x = .ref l ∧ y = .int 1 ∧ SqT K H l xs ∧ Q (.ref l) H
theorem op_rep1 {X : Cx} : OpR X (binaryOp .Mult) (rRep1 X.K) := by
  intro pins s σ H x y v u Q I rx ry h
  obtain ⟨l, xs, rfl, rfl, hT, q⟩ := h
  cases rx
  obtain ⟨t, rfl⟩ := ry
  obtain ⟨its, r, ⟨⟨cls, dd, data, sl⟩, ho, hc, n, hd⟩, _⟩ := I.tuple hT
  simp only at hc hd
  subst hc hd
  refine wpAny_binaryOp_repeat_ref (T := "tuple") (U := "int") (by decide) ⟨_, ho, rfl⟩ (fun s' => typeIs_int s' 1 t) noFill_tuple_mul F.fills_int_mul F.slot_int_rmul repeat_tuple F.slot_int_index.lookup ?_
  refine call_meets F.slot_int_rmul (typeIs_int s 1 t) F.entry_int_rmul (F.args_int_rmul_2 _ _) (int_rmul_tuple 1 t l its.toArray n dd sl) ⟨ho, rfl, ⟨_, ho, rfl⟩, ?_⟩
  exact call_meets F.slot_tuple_mul ⟨_, ho, rfl⟩ F.entry_tuple_mul (F.args_tuple_mul_2 _ _) (tuple_mul1 l its.toArray n dd sl t) ⟨ho, ⟨.ref l, H, I, rfl, q⟩⟩
/-! ### C.f, a number of the class -/
/-! ### C.m(..), m a classmethod with *rest, or by keywords -/
/-! ### defs with *rest that raise -/
section
variable {P : Program} {w : World} {K : PySem.W.Frag} {mg : PySem.Str → Option Value} {base : Heap} {x qual pv : PySem.Str} {params : Arguments} {body : List Stmt} {scope : Scope} {kws : List (PySem.Str × V)} {f : Addr} {fd : FuncData} {N ps : List PySem.Str} {k : Nat} {sp : Sp}
end
end Ech

set_option maxHeartbeats 1000000
namespace Ech
open PySem PySem.Spec PyProof.Rows L2
open He (ga ma)

/-! ### x(e, ..), x a def of the module with *rest alone -/
/-! ### == of the echoes of two songs -/
/-! ### t == (), t a tuple of anything -/
/-! ### max(xs), xs a list of ints -/
/-! ### weaving -/
def PieceAt (K : PySem.W.Frag) (G : Hp) (L : Int) (es : List Lot) (v : V) (n : Int) : Prop := ∃ x ec, v = .ref x ∧ SongAt K G x L n ec ∧ ec.map lotOf = es
theorem PieceAt.up {K : PySem.W.Frag} {G G' : Hp} {L n : Int} {es : List Lot} {v : V} (x : Ex G G') (h : PieceAt K G L es v n) : PieceAt K G' L es v n := by
  obtain ⟨a, ec, h1, h2, h3⟩ := h
  exact ⟨a, ec, h1, h2.up x, h3⟩
end Ech

set_option maxHeartbeats 4000000
namespace Ech
open PySem PySem.Spec PyProof.Rows L2
open He (ga ma)

/-! ### own error classes right below one of Python's errors -/
section
open Builtin Builtin.ObjectAttr PySem.HandSPX
variable {prog : Program} {w : World} {A : Around} {R : Result → Shared → Prop} {hp : Heap} {g : Array GenState} {d : Drawn} {t : Nat} {os : OsState} {B N I : String} {tl : List Value}
end

section
variable {X : Cx} {pins : List (Addr × Obj)} {σ : L2.St} {H : Hp} {s : Shared} {a C : Addr} {f : PySem.Str} {y : V} {u : Value} {A : Around} {B N I : String} {tl : List Value} {E : Value → Shared → Prop}
end
section
variable {X : Cx} {o e : Expr} {es : List Expr} {to te : TE} {ta : TA} {f : PySem.Str} {p p' p1 p2 pos : Pos} {B N I : String} {tl : List Value} {C : Addr}
end
/-! ### raise C(e) and raise C() -/
section
variable {X : Cx} {e : Expr} {es : List Expr} {ta : TA} {p pos : Pos} {B N I : String} {tl : List Value} {C fI : Addr} {CX : CXT} {x : PySem.Str} {k : Nat} {fd : FuncData} {ps : List PySem.Str} {sp : Sp}
end
section
variable {X : Cx} {W : WX} {C fI : Addr} {f x : PySem.Str} {k : Nat} {fd : FuncData} {ps : List PySem.Str} {CX : CXT} {e : Expr} {te : TA} {p pos pos2 : Pos} {B N I : String} {tl : List Value}
end
/-! ### what the head tells of such a class -/
/-! ### several except clauses, each with a name for the error -/
def wTakes (K : PySem.W.Frag) (Wout : WX) (D : Ends) : List (Value × Nat × TS) → WX
  | [] => Wout
  | (c, i, ts) :: r => wTake K c i ts (wTakes K Wout D r) D
inductive HdsT (X : Cx) : List ExceptHandler → List (Value × Nat × TS) → Prop
  | nil : HdsT X [] []
  | cons {x n : PySem.Str} {c : Value} {i : Nat} {ts : TS} {b₀ : Stmt} {suite : List Stmt} {np pos' : Pos} {hds : List ExceptHandler} {l : List (Value × Nat × TS)} (hi : X.N[i]? = some n) (hln : X.env.kindOf n = some .local) (hc : Names X x c)
      (hsu : ∀ (a : Addr) (pn : List (Addr × Obj)), PSs (X.suite a pn) (b₀ :: suite) ts) (r : HdsT X hds l) : HdsT X (.ExceptHandler (some (.Name x np)) (some n) (b₀ :: suite) pos' :: hds) ((c, i, ts) :: l)
section
variable {X : Cx} {body : List Stmt} {h₀ : ExceptHandler} {hds : List ExceptHandler} {l : List (Value × Nat × TS)} {pos : Pos} {tb : WX → TS} {Wout : WX}
theorem ps_try_takes (hs : X.stack = X.env :: X.outer) (hf : X.env.frame = some X.env.locals) (hex : X.ex = []) (hN : X.N.Nodup) (tk : Takes X Wout)
    (hb : ∀ (W : WX) (pn : List (Addr × Obj)) (xe : Value → Shared → Prop), Takes (X.tr pn xe) W → PassesOwn (model X.prog X.w) X.A X.env xe → PSs (X.tr pn xe) body (tb W))
    (hh : HdsT X (h₀ :: hds) l) : PS X (.Try body (h₀ :: hds) [] [] pos) (fun D σ H => tb (wTakes X.K Wout D l) D σ H) := by
  refine ⟨fun pins s σ H D J0 h => ?_⟩
  have ok := J0.ok
  have hfr : X.A.frames = some (X.env :: X.outer) := by rw [ok.frames, hs]
  refine wpAny_Try_except ?_
  refine wpAny_mono ((hb (wTakes X.K Wout D l) (X.pn ++ pins) (fun e s₁ => wpAny (model X.prog X.w) X.A (noteFrame e X.env) (fun _ s₂ => wpAny (model X.prog X.w) X.A (setFlight e none) (fun _ s₃ =>
    wpAny (model X.prog X.w) X.A (handleBy e X.env (h₀ :: hds)) (SP X pins D) X.xe s₃) X.xe s₂) X.xe s₁) (fun u s' xx => ?_) PassesOwn.looking).run [] s σ H D (J0.toTry _) h) (fun f s1 hsp => ?_) (fun e s1 he => he)
  · obtain ⟨a, B, sI, pins', σ', H', cls, d, rfl, J', nb, up, sky, na, os, ag, w⟩ := xx
    have J : Inv X pins σ' H' sI := J'.ofTry ok
    have air : Sky B (X.env :: X.outer) a (Zc cls d) X.env.locals s'.heap := by rw [← hs]; exact sky
    refine Sky.land Zc.steady hfr hf air fun h3 fl3 up3 => ?_
    have J3 : Inv X pins σ' H' { s' with heap := h3 } := J.landed nb fl3.1 (up.trans up3) os ag
    obtain ⟨oe3, vs3, he3, hz3, hd3⟩ := fl3.there
    have nfr : a ∉ frs (X.env :: X.outer) := fun hm => by
      obtain ⟨_, o', e', hnf⟩ := fl3.2.2.1.mem hm
      rw [he3] at e'
      cases e'
      exact hnf _ hd3
    have nL : a ≠ X.env.locals := fun z => nfr (List.mem_filterMap.mpr ⟨X.env, List.mem_cons_self, by rw [hf, z]⟩)
    have nF : a ∉ X.fs := fun hm => by
      obtain ⟨e, he, q⟩ := List.mem_filterMap.mp hm
      exact nfr (List.mem_filterMap.mpr ⟨e, List.mem_cons_of_mem _ he, q⟩)
    have nB : B.get? a = none := fl3.2.1
    have nI : sI.heap.get? a = none := by
      cases z : sI.heap.get? a with
      | none => rfl
      | some o =>
        have := nb a o z (by rw [hs]; exact nfr)
        rw [nB] at this
        cases this
    have n0 : X.s_0.heap.get? a = none := by
      cases z : X.s_0.heap.get? a with
      | none => rfl
      | some o =>
        obtain ⟨o', e'⟩ := J.base.there a o z (by rw [hex]; exact List.not_mem_nil)
        rw [nI] at e'
        cases e'
    have npn : ∀ p ∈ X.pn ++ pins, p.1 ≠ a := fun p hp z => by
      have := (J.pin p hp).1
      rw [z, nI] at this
      cases this
    have S3 := J3.suite he3 hd3 na nL nF
    have go : ∀ {hds' : List ExceptHandler} {l' : List (Value × Nat × TS)}, HdsT X hds' l' → wTakes X.K Wout D l' cls d σ' H' →
        wpAny (model X.prog X.w) X.A (handleBy (.ref a) X.env hds') (SP X pins D) X.xe { s' with heap := h3 } := by
      intro hds' l' hk
      induction hk with
      | nil =>
        intro w
        refine wpAny_handleBy_nil ?_
        obtain ⟨k1, k2, k3, oe, vs, T, oT, ts', he, hz, hd, h1, hr⟩ := id fl3
        unfold PySem.passOn
        refine wpAny_bind (wpAny_field he hd h1 ?_)
        rw [if_neg (show ¬ ((Value.ref T == Value.none) = true) from by simp)]
        have fin : wpAny (model X.prog X.w) X.A (setFlight (.ref a) X.env.frame) (fun _ s4 => wpAny (model X.prog X.w) X.A (throw (.ref a) : Sem Flow) (SP X pins D) X.xe s4) X.xe { s' with heap := h3 } := by
          rw [hf]
          refine HandSPX.setFlight_upZ fl3 fun h4 hh4 up4 => wpAny_throw (tk _ _ ?_)
          exact ⟨a, B, sI, pins, σ', H', cls, d, rfl, J, nb, (up.trans up3).trans up4, .inr (.inr (by rw [hs]; exact hh4)), na, os, ag, w⟩
        first
          | exact wpAny_bind (wpAny_pure (wpAny_bind fin))
          | exact wpAny_bind fin
      | @cons x n c i ts b₀ suite np pos' hds2 l2 hi hln hc hsu r ih =>
        intro w
        obtain ⟨b, hb1, hyes, hno⟩ := w
        refine wpAny_handleBy_cons (codeAny_handlers_test ?_) (by intro q; cases q)
        have LT : PySem.W.Looks (model X.prog X.w) h3 (typeOf (.ref a)) cls := fun A Q E s k q => wpAny_typeOf_ref (k _ _ he3) (by rw [hz3.1]; exact q)
        have LM := PySem.W.exm_one (M := model X.prog X.w) (J3.kIn) LT hb1
        have test : ∀ {Q : Value → Shared → Prop} {E : Value → Shared → Prop}, Q c { s' with heap := h3 } → wpAny (model X.prog X.w) (X.A.mark (some (.ref a))) (eval (.Name x np) X.env) Q E { s' with heap := h3 } := fun {Q E} q => by
          obtain ⟨hg, hdbg, hm | ⟨hm, hv, hnn⟩⟩ := hc
          · exact ld_glob (X := X.suite a ((a, oe3) :: (X.pn ++ pins))) S3 hg hm q hdbg
          · exact ld_blt (X := X.suite a ((a, oe3) :: (X.pn ++ pins))) S3 hg hm hv q hnn hdbg
        refine test (LM.here ?_)
        cases b with
        | true =>
          refine codeAny_handlers_suite_as ?_
          refine HandSPX.lands_againZ fl3 fun h4 fl4 up4 => ?_
          have J4 : Inv X pins σ' H' { s' with heap := h4 } := J.landed nb fl4.1 ((up.trans up3).trans up4) os ag
          obtain ⟨oe4, vs4, he4, hz4, hd4⟩ := fl4.there
          have K4 := inv_adopt J4 he4 hz4 hd4 na nL n0 npn
          have S4 : Inv (X.suite a (X.pn ++ pins)) [] σ' (upd H' a (ExH a cls d)) { s' with heap := h4 } :=
            ⟨K4.ok.suite _ _, K4.os, K4.bare, K4.base, K4.loc, K4.cell, K4.free, K4.freeC, fun p hp => K4.pin p (by rw [List.append_nil] at hp; exact hp), K4.hok, K4.len⟩
          refine store_ok (X := X.suite a (X.pn ++ pins)) (v := .ref a) S4 hN hi (.inl hln) rfl (fun s5 S5 => ?_) (.inr hln)
          refine wpAny_mono ((hsu a (X.pn ++ pins)).run [] s5 _ _ _ S5 (hyes rfl a na)) (fun f s6 hsp => ?_) (fun _ _ z => False.elim z)
          have end_ : ∀ {σ6 : L2.St} {H6 : Hp} {Q : Shared → Prop}, Inv (X.suite a (X.pn ++ pins)) [] σ6 H6 s6 → (∀ s7, Inv X pins (σ6.set i none) H6 s7 → Q s7) →
              wpAny (model X.prog X.w) X.A (do bindName X.env n .none; unbindBehindTheSuite X.env n pos') (fun _ s7 => Q s7) X.xe s6 := fun {σ6 H6 Q} S6 hq =>
            gone_ok (X := X) (pins := pins) ⟨ok, S6.os, S6.bare, S6.base, S6.loc, S6.cell, S6.free, S6.freeC, fun p hp => S6.pin p (List.mem_append_left _ hp), S6.hok, S6.len⟩ hN hi hln hq
          cases f with
          | next =>
            obtain ⟨σ6, H6, S6, q6⟩ := hsp
            exact end_ S6 fun s7 J7 => ⟨_, _, J7, q6⟩
          | brk =>
            obtain ⟨σ6, H6, S6, q6⟩ := hsp
            exact end_ S6 fun s7 J7 => ⟨_, _, J7, q6⟩
          | cont =>
            obtain ⟨σ6, H6, S6, q6⟩ := hsp
            exact end_ S6 fun s7 J7 => ⟨_, _, J7, q6⟩
          | ret u =>
            obtain ⟨v6, σ6, H6, S6, r6, q6⟩ := hsp
            exact end_ S6 fun s7 J7 => ⟨_, _, _, J7, r6, q6⟩
        | false =>
          show wpAny _ X.A (handleBy (.ref a) X.env hds2) _ _ _
          exact ih (hno rfl)
    exact go hh w
  · cases f with
    | next =>
      obtain ⟨σ', H', J', q⟩ := hsp
      exact wpAny_execs_nil ⟨σ', H', J'.ofTry ok, q⟩
    | brk =>
      obtain ⟨σ', H', J', q⟩ := hsp
      exact ⟨σ', H', J'.ofTry ok, q⟩
    | cont =>
      obtain ⟨σ', H', J', q⟩ := hsp
      exact ⟨σ', H', J'.ofTry ok, q⟩
    | ret u =>
      obtain ⟨v, σ', H', J', r, q⟩ := hsp
      exact ⟨v, σ', H', J'.ofTry ok, r, q⟩
end
end Ech

/-! orbits of a partial injection of the places below n: lines and rings -/
namespace Ech
def PathF (f : Int → Option Int) (P : List Int) : Prop := ∀ i a b, P[i]? = some a → P[i + 1]? = some b → f a = some b
structure Orb (n : Int) (f : Int → Option Int) (s : Int) (P : List Int) : Prop where
  hd : ∃ l, P = s :: l
  path : PathF f P
  nd : P.Nodup
  ins : ∀ x ∈ P, 0 ≤ x ∧ x < n
  fin : ∀ x, P.getLast? = some x → f x = none ∨ f x = some s
section
variable {n : Int} {f g : Int → Option Int} {s : Int} {P : List Int}
theorem Orb.last (o : Orb n f s P) : ∃ x, P.getLast? = some x ∧ x ∈ P := by
  obtain ⟨l, hP⟩ := o.hd
  have hne : P ≠ [] := by rw [hP]; exact List.cons_ne_nil _ _
  exact ⟨P.getLast hne, List.getLast?_eq_some_getLast hne, List.getLast_mem hne⟩
end
/-! ### the strand of a place -/
/-! ### all strands -/
/-! ### hops -/
def hopsD (f : Int → Option Int) (P : List Int) : List (Int × Int) := P.filterMap fun p => (f p).map fun q => (p, q)
end Ech

/-! the least of a list of ints; strands of a song as objects; their hops against its links -/
namespace Ech
open PySem PySem.Spec PyProof.Rows L2
open He (ga ma)
/-! ### the plain law of the hops -/
/-! ### strands as objects -/
def HopAt (K : PySem.W.Frag) (G : Hp) (es : List Ec) (v : V) (h : Int × Int) : Prop := ∃ b t, v = .ref b ∧ SqT K G b [.int h.1, .int h.2, .ref t] ∧
  ∃ i ec, i = (if h.2 < h.1 then 1 else 0) ∧ es[i]? = some ec ∧ TabAt K G t (if h.2 < h.1 then turnRows ec.2.2 else ec.2.2)
theorem HopAt.up {K : PySem.W.Frag} {G G' : Hp} {es : List Ec} {v : V} {h : Int × Int} (a : HopAt K G es v h) (x : Ex G G') : HopAt K G' es v h := by
  obtain ⟨b, t, h1, h2, i, ec, h3, h4, h5⟩ := a
  exact ⟨b, t, h1, Evl.ex_t x h2, i, ec, h3, h4, h5.up x⟩
theorem hops_up {K : PySem.W.Frag} {G G' : Hp} {es : List Ec} {vs : List V} {hs : List (Int × Int)} (a : Paired (HopAt K G es) vs hs) (x : Ex G G') : Paired (HopAt K G' es) vs hs := paired_imp2 a fun _ _ _ h => h.up x
def kindN (b : Bool) : PySem.Str := if b then "Ring" else "Line"
def StrandAt (K : PySem.W.Frag) (G : Hp) (es : List Ec) (f : Int → Option Int) (d : Bool × List Int) (a : Addr) : Prop :=
  ∃ dx tp th v ws, G a = some (.ins (ga K (kindN d.1)) dx [("row_of_places", .ref tp), ("row_of_hops", .ref th), ("last_hop", v)]) ∧ SqT K G tp (d.2.map V.int) ∧ SqT K G th ws ∧ Paired (HopAt K G es) ws (hopsD f d.2)
theorem StrandAt.up {K : PySem.W.Frag} {G G' : Hp} {es : List Ec} {f : Int → Option Int} {d : Bool × List Int} {a : Addr} (h : StrandAt K G es f d a) (x : Ex G G') : StrandAt K G' es f d a := by
  obtain ⟨dx, tp, th, v, ws, h1, h2, h3, h4⟩ := h
  exact ⟨dx, tp, th, v, ws, x _ _ h1, Evl.ex_t x h2, Evl.ex_t x h3, hops_up h4 x⟩
/-! ### the hops of a strand -/
end Ech

/-! dict comprehensions; the sum of a dict's values; a *= b -/
namespace Ech
open PySem PySem.Spec PyProof.Rows L2
section
variable {X : Cx} {tg iter kx vx : Expr} {w : TW} {g : TG} {pos : Pos} {ifs : List Expr} {scope : Scope} {own : List (PySem.Str × Nat)} {tt : TT} {tk tv : TE}
/-! ### sum(d.values()) -/
variable {o : Expr} {p apos mpos : Pos} {td : TE}
end
end Ech

/-! counts of rows, strand by strand: what is counted -/
namespace Ech
open PySem PySem.Spec PyProof.Rows L2
open He (ga ma)
/-! ### ways along the hops -/
end Ech

/-! the strands as a law lists them: the lines by their first places, then the rings by their least places -/
namespace Ech
/-! ### as the law goes -/
/-! ### in the heap -/
section
open PySem PySem.Spec PyProof.Rows L2
open He (ga ma)
def AheadAt (R : Addr → Int → Int → Prop) (kvs : List (Key × V)) (hs : List (Int × Int)) : Prop := Paired (fun kv h => kv.1 = (Sum.inl h.1 : Key) ∧ ∃ t, kv.2 = V.ref t ∧ R t h.1 h.2) kvs hs
theorem AheadAt.imp {R R' : Addr → Int → Int → Prop} {kvs : List (Key × V)} {hs : List (Int × Int)} (h : AheadAt R kvs hs) (i : ∀ t p q, R t p q → R' t p q) : AheadAt R' kvs hs :=
  paired_imp2 h fun _ _ _ ⟨z, t, e, r⟩ => ⟨z, t, e, i _ _ _ r⟩
/-! ### how great counts are -/
end
end Ech

/-! rows told one by one, and strand by strand: plain counting -/
namespace Ech
section
variable {ops : Int → List Int} {F F' : (Int → Int) → Int}
end
/-! ### along a strand -/
section
variable {tabs : List (List (List (Option Int)))} {ops : Int → List Int}
end
section
variable {tabs : List (List (List (Option Int)))} {ops : Int → List Int} {opsL : List (List Int)} {n : Int} {f g : Int → Option Int}
end
/-! ### all rows -/
/-! ### fixed letters -/
/-! ### links and hops -/
end Ech

/-! all rows one by one: what the laws need of tuples and of dicts of fixed letters -/
namespace Ech
open PySem PySem.Spec PyProof.Rows L2
open He (ga ma)
/-! repr of fixed letters -/
/-! how many rows there are -/
end Ech

namespace k80
open PySem PySem.Spec PyProof.Rows L2 Ech
open He (ga ma)
open He5 (wf)
abbrev Ev (K : PySem.W.Frag) (mg : PySem.Str → Option Value) : Prop := EnvOf fa fn K mg
section
variable {K : PySem.W.Frag} {mg : PySem.Str → Option Value}
theorem gl_is_integer (e : Ev K mg) : mg "is_integer" = some (.ref (ga K "is_integer")) := e.glo 1
theorem gl_is_list (e : Ev K mg) : mg "is_list" = some (.ref (ga K "is_list")) := e.glo 2
theorem gl_is_price (e : Ev K mg) : mg "is_price" = some (.ref (ga K "is_price")) := e.glo 3
theorem gl_is_row_of (e : Ev K mg) : mg "is_row_of" = some (.ref (ga K "is_row_of")) := e.glo 8
theorem gl_are_rows (e : Ev K mg) : mg "are_rows" = some (.ref (ga K "are_rows")) := e.glo 9
theorem gl_need_letters (e : Ev K mg) : mg "need_letters" = some (.ref (ga K "need_letters")) := e.glo 10
theorem gl_need_short_row (e : Ev K mg) : mg "need_short_row" = some (.ref (ga K "need_short_row")) := e.glo 13
theorem gl_pairs_at (e : Ev K mg) : mg "pairs_at" = some (.ref (ga K "pairs_at")) := e.glo 14
theorem gl_own_delays (e : Ev K mg) : mg "own_delays" = some (.ref (ga K "own_delays")) := e.glo 15
theorem gl_own_table (e : Ev K mg) : mg "own_table" = some (.ref (ga K "own_table")) := e.glo 16
theorem gl__law_pen (e : Ev K mg) : mg "_law_pen" = some (.ref (ga K "_law_pen")) := e.glo 17
theorem gl__law_draw (e : Ev K mg) : mg "_law_draw" = some (.ref (ga K "_law_draw")) := e.glo 18
theorem gl__law_pick (e : Ev K mg) : mg "_law_pick" = some (.ref (ga K "_law_pick")) := e.glo 19
theorem gl__law_rows (e : Ev K mg) : mg "_law_rows" = some (.ref (ga K "_law_rows")) := e.glo 20
theorem gl__law_is_integer (e : Ev K mg) : mg "_law_is_integer" = some (.ref (ga K "_law_is_integer")) := e.glo 21
theorem gl__law_odd (e : Ev K mg) : mg "_law_odd" = some (.ref (ga K "_law_odd")) := e.glo 22
theorem gl__law_met (e : Ev K mg) : mg "_law_met" = some (.ref (ga K "_law_met")) := e.glo 23
theorem gl__law_is_some_row (e : Ev K mg) : mg "_law_is_some_row" = some (.ref (ga K "_law_is_some_row")) := e.glo 24
theorem gl_law (e : Ev K mg) : mg "law" = some (.ref (ga K "law")) := e.glo 25
theorem gl_InvalidTable (e : Ev K mg) : mg "InvalidTable" = some (.ref (ga K "InvalidTable")) := e.glo 26
theorem gl_InvalidRow (e : Ev K mg) : mg "InvalidRow" = some (.ref (ga K "InvalidRow")) := e.glo 27
theorem gl_InvalidNumber (e : Ev K mg) : mg "InvalidNumber" = some (.ref (ga K "InvalidNumber")) := e.glo 28
theorem gl_Table (e : Ev K mg) : mg "Table" = some (.ref (ga K "Table")) := e.glo 31
theorem con_MAX_LETTERS (e : Ev K mg) : ∃ t, mg "MAX_LETTERS" = some (.int 5 t) := e.int 32
theorem con_FARTHEST (e : Ev K mg) : ∃ t, mg "FARTHEST" = some (.int (10 ^ 30) t) := e.int 33
theorem con_LONGEST_ROW (e : Ev K mg) : ∃ t, mg "LONGEST_ROW" = some (.int 40 t) := e.int 38
theorem fr_isinstance (e : Ev K mg) : mg "isinstance" = none := e.free 39
theorem fr_int (e : Ev K mg) : mg "int" = none := e.free 40
theorem fr_bool (e : Ev K mg) : mg "bool" = none := e.free 41
theorem fr_list (e : Ev K mg) : mg "list" = none := e.free 42
theorem fr_tuple (e : Ev K mg) : mg "tuple" = none := e.free 43
theorem fr_len (e : Ev K mg) : mg "len" = none := e.free 45
theorem fr_all (e : Ev K mg) : mg "all" = none := e.free 46
theorem fr_range (e : Ev K mg) : mg "range" = none := e.free 47
theorem fr_zip (e : Ev K mg) : mg "zip" = none := e.free 48
theorem fr_min (e : Ev K mg) : mg "min" = none := e.free 49
theorem fr_abs (e : Ev K mg) : mg "abs" = none := e.free 50
theorem fr_repr (e : Ev K mg) : mg "repr" = none := e.free 51
theorem fr_ValueError (e : Ev K mg) : mg "ValueError" = none := e.free 52
theorem cl_Table (e : Ev K mg) : Cls K (ga K "Table") := e.cls 56
theorem mk_Table (e : Ev K mg) : Mk K (ga K "Table") (ma K (ga K "Table") "__init__") := e.mkr 57
theorem in_Table (e : Ev K mg) {H : Hp} {a dx : Addr} {fs : List (PySem.Str × V)} (h : H a = some (.ins (ga K "Table") dx fs)) : TyX K H (.ref a) (.ref (ga K "Table")) := insB_ok (e.says.fact 58 rfl) (cl_Table e) h
theorem na_Table_entries (e : Ev K mg) : NoAttr K (ga K "Table") "entries" := e.noat 59
theorem cr_Table (e : Ev K mg) : ClX.CRead K (ga K "Table") (.type "type") := crdB_ok (e.says.fact 61 rfl)
theorem cm_Table_pairs (e : Ev K mg) : ClX.CMet K (ga K "Table") (.type "type") "pairs" (ma K (ga K "Table") "pairs") (wf K (ga K "Table") "classmethod" "pairs") := He5.cmet_of (e.says.fact 70 rfl) (e.says.fact 69 rfl)
theorem pr_Table_rows (e : Ev K mg) : PropOf K (ga K "Table") "rows" (ma K (ga K "Table") "rows") (wf K (ga K "Table") "property" "rows") := propB_ok (e.says.fact 72 rfl)
theorem pr_Table_letters (e : Ev K mg) : PropOf K (ga K "Table") "letters" (ma K (ga K "Table") "letters") (wf K (ga K "Table") "property" "letters") := propB_ok (e.says.fact 73 rfl)
theorem er_InvalidTable (e : Ev K mg) : ErrC K (ga K "InvalidTable") "value" := errB_ok (e.says.fact 82 rfl)
theorem er_InvalidRow (e : Ev K mg) : ErrC K (ga K "InvalidRow") "value" := errB_ok (e.says.fact 83 rfl)
theorem er_InvalidNumber (e : Ev K mg) : ErrC K (ga K "InvalidNumber") "value" := errB_ok (e.says.fact 84 rfl)
theorem kin_Table_NoneType (e : Ev K mg) : PySem.W.kitOne K (.type "NoneType") (.ref (ga K "Table")) = some false := of_decide_eq_true (e.says.fact 85 rfl)
theorem kin_Table_bool (e : Ev K mg) : PySem.W.kitOne K (.type "bool") (.ref (ga K "Table")) = some false := of_decide_eq_true (e.says.fact 86 rfl)
theorem kin_Table_int (e : Ev K mg) : PySem.W.kitOne K (.type "int") (.ref (ga K "Table")) = some false := of_decide_eq_true (e.says.fact 87 rfl)
theorem kin_Table_str (e : Ev K mg) : PySem.W.kitOne K (.type "str") (.ref (ga K "Table")) = some false := of_decide_eq_true (e.says.fact 88 rfl)
theorem kin_Table_list (e : Ev K mg) : PySem.W.kitOne K (.type "list") (.ref (ga K "Table")) = some false := of_decide_eq_true (e.says.fact 89 rfl)
theorem kin_Table_tuple (e : Ev K mg) : PySem.W.kitOne K (.type "tuple") (.ref (ga K "Table")) = some false := of_decide_eq_true (e.says.fact 90 rfl)
theorem kin_Table_dict (e : Ev K mg) : PySem.W.kitOne K (.type "dict") (.ref (ga K "Table")) = some false := of_decide_eq_true (e.says.fact 91 rfl)
theorem exm_InvalidNumber_InvalidTable (e : Ev K mg) : PySem.W.exmOne K (.ref (ga K "InvalidNumber")) (.ref (ga K "InvalidTable")) = some false := of_decide_eq_true (e.says.fact 92 rfl)
theorem exm_InvalidNumber_InvalidRow (e : Ev K mg) : PySem.W.exmOne K (.ref (ga K "InvalidNumber")) (.ref (ga K "InvalidRow")) = some false := of_decide_eq_true (e.says.fact 93 rfl)
theorem exm_InvalidRow_InvalidTable (e : Ev K mg) : PySem.W.exmOne K (.ref (ga K "InvalidRow")) (.ref (ga K "InvalidTable")) = some false := of_decide_eq_true (e.says.fact 94 rfl)
theorem cd_law (e : Ev K mg) : codeB K (ga K "law") 404 = true := e.says.fact 98 rfl
theorem chd_law (e : Ev K mg) : codeHdB K 404 402 = true := e.says.fact 99 rfl
theorem nt_law (e : Ev K mg) : (K.lookup 402).isNone = true := e.says.fact 100 rfl
end
def T_ : List (Addr × PySem.Str) := [(402, (envOfC "law" (defScope s_law) 0 0 .none).qual ++ "<lambda>")]
def cs_ : List (Addr × Addr) := [(404, 402)]
abbrev TBs (base : Heap) (mg : PySem.Str → Option Value) : Prop := ∀ c ∈ cs_, LamX.TabB base mg c.1 c.2
theorem mem_law : ((404, 402) : Addr × Addr) ∈ cs_ := by simp [cs_]
theorem inT_law : ((402, (envOfC "law" (defScope s_law) 0 0 .none).qual ++ "<lambda>") : Addr × PySem.Str) ∈ T_ := by simp [T_]
theorem oneT_law : ∀ p ∈ T_, p.1 = 402 → p.2 = (envOfC "law" (defScope s_law) 0 0 .none).qual ++ "<lambda>" := by
  intro p hp h
  simp only [T_, List.mem_cons, List.not_mem_nil, or_false] at hp
  rcases hp with rfl <;> first | rfl | exact absurd h (by decide)
end k80

namespace k80
open PySem PySem.Spec PyProof.Rows L2 Ech
open He (ga ma)
open He5 (wf)
/-! ### _law_pen -/
theorem sc__law_pen : FnScope ["_law_script"] ["_law_script"] (defScope s__law_pen) := ⟨rfl, rfl, rfl, by decide +kernel, rfl, by decide +kernel, by decide +kernel⟩
section
variable {P : Program} {w : World} {K : PySem.W.Frag} {mg : PySem.Str → Option Value} {base : Heap}
theorem F__law_pen (e : Ev K mg) : FunD K "_law_pen" "_law_pen" (defArgs s__law_pen) (defBody s__law_pen) (defScope s__law_pen) [] [] (ga K "_law_pen") (fdA K (ga K "_law_pen")) := e.fun_ 33 (d := d__law_pen)
theorem kp__law_pen (e : Ev K mg) : PySem.W.keepIn K (.ref (ga K "_law_pen")) = true := (F__law_pen e).kp
theorem b__law_pen (e : Ev K mg) : Binds K (fdA K (ga K "_law_pen")) ["_law_script"] [] := (F__law_pen e).bindsN fun _ _ _ _ _ _ us hl => match us, hl with | [_], _ => rfl
theorem bn__law_pen_1 (e : Ev K mg) : Bnd K (ga K "_law_pen") ["_law_script"] [] := ⟨[], .nil, b__law_pen e⟩
def sp__law_pen (K : PySem.W.Frag) : Sp := fun vs H Q _ => ∃ (a : Addr) (ns : List Int), vs = [.ref a] ∧ SqL K H a (ns.map V.int) ∧ ns.length ≤ 63 ∧
  ∀ G' H' p, Ex H G' → Ex G' H' → Ex H H' → Pen K ("used" : PySem.Str) ("rest" : PySem.Str) G' H' p 0 → Q (.ref p) H'
theorem penk1 : ¬ ((Sum.inr ("cells" : PySem.Str) : Key) = Sum.inr ("used" : PySem.Str)) := by decide +kernel
theorem penk2 : ¬ ((Sum.inr ("cells" : PySem.Str) : Key) = Sum.inr ("rest" : PySem.Str)) := by decide +kernel
theorem penk3 : ¬ ((Sum.inr ("used" : PySem.Str) : Key) = Sum.inr ("rest" : PySem.Str)) := by decide +kernel
theorem pen_merge (x y z : V) : mergeK [] [(Sum.inr ("cells" : PySem.Str), x), (Sum.inr ("used" : PySem.Str), y), (Sum.inr ("rest" : PySem.Str), z)] = putK (putK (putK [] (Sum.inr ("cells" : PySem.Str) : Key) x) (Sum.inr ("used" : PySem.Str)) y) (Sum.inr ("rest" : PySem.Str)) z := rfl
theorem ok__law_pen (e : Ev K mg) : FnG P w K mg base CX0 1 (ga K "_law_pen") (fdA K (ga K "_law_pen")) ["_law_script"] (sp__law_pen K) := by
  refine FnG.body (F__law_pen e) sc__law_pen (fun vs H Q E h => ?_) (fun cdv A outer s H vs Q E hr hq h => ?_)
  · obtain ⟨a, ns, rfl, _⟩ := h
    rfl
  · obtain ⟨a, ns, rfl, hS, hl, q⟩ := h
    refine ⟨_, PSs.nox (pss_one (ps_ret (pe_disp (pps_cons pe_str (pe_callTy (T := "list") (k_list (K := K) rfl) (by rfl) (fr_list e) (by decide +kernel) (pa_cons (pe_slice (sl_k (K := K) rfl) (uv 0) po_none (u_part pe_int)) pa_nil)) (pps_cons pe_str pe_int (pps_cons pe_str pe_int pps_nil))) (by rfl) (by rfl) (fun z => by cases z) (by decide)))), ?_⟩
    intro p hp
    have x1 : Ex H (upd H p (.dK [])) := Evl.Ex.new hp
    refine ⟨ns.map V.int, Or.inl ⟨Evl.ex_l x1 hS, fun q1 H2 n2 => ?_⟩⟩
    refine ⟨_, Or.inl (SqL.of n2.at), fun c H3 n3 => ?_⟩
    have p2 : H2 p = some (.dK []) := n2.ex _ _ upd_same
    have p3 : H3 p = some (.dK []) := n3.ex _ _ p2
    have npc : p ≠ c := ne_of_none p2 n3.fresh
    refine ⟨p3, [(Sum.inr ("cells" : PySem.Str), .ref c), (Sum.inr ("used" : PySem.Str), .int 0), (Sum.inr ("rest" : PySem.Str), .int 0)], rfl, (by show 3 ≤ 15; decide), ?_⟩
    have x3 : Ex H H3 := fun b o e => n3.ex _ _ (n2.ex _ _ (x1 _ _ e))
    have hc : H c = none := by
      cases e : H c with
      | none => rfl
      | some o => have := n2.ex _ _ (x1 _ _ e); rw [n3.fresh] at this; cases this
    have cut : cutV (ns.map V.int) none (some 63) = (((ns.drop (HT.sIx (ns.map V.int).length 0 none)).take (HT.sIx (ns.map V.int).length (ns.map V.int).length (some 63) - HT.sIx (ns.map V.int).length 0 none))).map V.int := by
      unfold cutV
      rw [← List.map_drop, ← List.map_take]
    generalize hms : ((ns.drop (HT.sIx (ns.map V.int).length 0 none)).take (HT.sIx (ns.map V.int).length (ns.map V.int).length (some 63) - HT.sIx (ns.map V.int).length 0 none)) = ms at cut
    have lms : ms.length ≤ 63 := by
      rw [← hms]
      rw [List.length_take, List.length_drop]; omega
    have x4 : Ex H (upd H3 p (.dK (mergeK [] [(Sum.inr ("cells" : PySem.Str), .ref c), (Sum.inr ("used" : PySem.Str), .int 0), (Sum.inr ("rest" : PySem.Str), .int 0)]))) := Evl.Ex.mut x3 hp
    refine q (upd H c (.lst (ms.map V.int))) _ p (Evl.Ex.new hc) ?_ x4 ?_
    · intro b o e
      by_cases hb : b = c
      · subst hb
        rw [upd_same] at e
        rw [upd_ne npc.symm, n3.at, cut]
        exact e
      · rw [upd_ne hb] at e
        exact x4 b o e
    · refine ⟨⟨_, c, ms, 0, 0, upd_same, length_mergeK _ _, ?_, SqL.of upd_same, lms, ?_, Int.le_refl 0, by omega, ?_, Int.le_refl 0⟩, by rw [upd_ne npc]; exact hp⟩
      · rw [pen_merge, valV_put, if_neg penk2, valV_put, if_neg penk1, valV_put, if_pos rfl]
      · rw [pen_merge, valV_put, if_neg penk3, valV_put, if_pos rfl]
      · rw [pen_merge, valV_put, if_pos rfl]
end
end k80

namespace k80
open PySem PySem.Spec PyProof.Rows L2 Ech
open He (ga ma)
open He5 (wf)
/-! ### _law_draw -/
theorem sc__law_draw : FnScope ["_law_pen_here", "_law_many", "_law_digit", "_law_used", "_law_cell", "_law_mixed"] ["_law_pen_here", "_law_many"] (defScope s__law_draw) := ⟨rfl, rfl, rfl, by decide +kernel, rfl, by decide +kernel, by decide +kernel⟩
section
variable {P : Program} {w : World} {K : PySem.W.Frag} {mg : PySem.Str → Option Value} {base : Heap}
theorem F__law_draw (e : Ev K mg) : FunD K "_law_draw" "_law_draw" (defArgs s__law_draw) (defBody s__law_draw) (defScope s__law_draw) [] [] (ga K "_law_draw") (fdA K (ga K "_law_draw")) := e.fun_ 34 (d := d__law_draw)
theorem kp__law_draw (e : Ev K mg) : PySem.W.keepIn K (.ref (ga K "_law_draw")) = true := (F__law_draw e).kp
theorem b__law_draw (e : Ev K mg) : Binds K (fdA K (ga K "_law_draw")) ["_law_pen_here", "_law_many"] [] := (F__law_draw e).bindsN fun _ _ _ _ _ _ us hl => match us, hl with | [_, _], _ => rfl
theorem bn__law_draw_2 (e : Ev K mg) : Bnd K (ga K "_law_draw") ["_law_pen_here", "_law_many"] [] := ⟨[], .nil, b__law_draw e⟩
theorem keysOk : KeysOk ("used" : PySem.Str) ("rest" : PySem.Str) := ⟨by decide +kernel, by decide +kernel, by decide +kernel⟩
def sp__law_draw (K : PySem.W.Frag) : Sp := fun vs H Q _ => ∃ (G : Hp) (p : Addr) (b : Nat) (m : Int), vs = [.ref p, .int m] ∧ Ex G H ∧ Pen K ("used" : PySem.Str) ("rest" : PySem.Str) G H p b ∧ b < 2 ^ 60 ∧ 0 < m ∧ m < 2 ^ 60 ∧
  ∀ v G' H', GrM p G H G' H' → Pen K ("used" : PySem.Str) ("rest" : PySem.Str) G' H' p (b + 1) → 0 ≤ v → v < m → Q (.int v) H'
theorem ok__law_draw (e : Ev K mg) : FnG P w K mg base CX0 1 (ga K "_law_draw") (fdA K (ga K "_law_draw")) ["_law_pen_here", "_law_many"] (sp__law_draw K) := by
  refine FnG.body (F__law_draw e) sc__law_draw (fun vs H Q E h => ?_) (fun cdv A outer s H vs Q E hr hq h => ?_)
  · obtain ⟨G, p, b, m, rfl, _⟩ := h
    rfl
  · obtain ⟨G, p, b, m, rfl, hg, ⟨⟨kvs, c, ns, u, r, hx⟩, un⟩, hb, m1, m2, q⟩ := h
    have X : PenX K ("used" : PySem.Str) ("rest" : PySem.Str) G H p b kvs c ns u r := hx
    have m3 : m < 2 ^ 1000 := Int.lt_of_lt_of_le m2 (by decide +kernel)
    obtain ⟨_, _, _, _, l63, _, u0, ub, _, r0⟩ := id hx
    refine ⟨_, PSs.nox (pss_cons (u_if (u_cmpT o_gt (u_dget (hu_of hr) (uv 0) pe_str) pe_int (nomark _)) (pss_cons (ps_set (i := 2) sc__law_draw.nd (by rfl) (Or.inl rfl) (pe_op o_modz (pe_callTy (T := "int") c_int (by rfl) (fr_int e) (by decide +kernel) (pa_cons (u_dget (hu_of hr) (uv 0) pe_str) pa_nil)) (uv 1)))
            (pss_cons (u_dput (hu_of hr) (uv 0) pe_str (pe_op o_divz (u_dget (hu_of hr) (uv 0) pe_str) (uv 1)))
            (pss_one (ps_ret (uv 2))))) pss_nil)
            (pss_cons (ps_set (i := 3) sc__law_draw.nd (by rfl) (Or.inl rfl) (u_dget (hu_of hr) (uv 0) pe_str))
            (pss_cons (u_dput (hu_of hr) (uv 0) pe_str (pe_op (k_add (K := K) rfl) (uv 3) pe_int))
            (pss_cons (ps_set (i := 4) sc__law_draw.nd (by rfl) (Or.inl rfl) (pe_op (k_add (K := K) rfl) (pe_op o_mul pe_int (uv 3)) pe_int))
            (pss_cons (u_if (u_cmpT (k_ne (K := K) rfl hr.units) (u_dget (hu_of hr) (uv 0) pe_str) (u_lst pa_nil) (nomark _)) (pss_one (ps_set (i := 4) sc__law_draw.nd (by rfl) (Or.inl rfl) (pe_ix (ix_k (K := K) rfl) (u_dget (hu_of hr) (uv 0) pe_str) (pe_op o_modz (pe_callTy (T := "int") c_int (by rfl) (fr_int e) (by decide +kernel) (pa_cons (uv 3) pa_nil)) (pe_callB (id := "len") (k_len (K := K) rfl) (by rfl) (fr_len e) (by decide +kernel) (pa_cons (u_dget (hu_of hr) (uv 0) pe_str) pa_nil))) (fun _ _ => rfl)))) pss_nil)
            (pss_cons (u_if (PW.pt (u_andT (u_cmpT o_lt (uv 3) (pe_callB (id := "len") (k_len (K := K) rfl) (by rfl) (fr_len e) (by decide +kernel) (pa_cons (u_dget (hu_of hr) (uv 0) pe_str) pa_nil)) (nomark _)) (u_and1 (u_cmpT o_ge (pe_callB (id := "abs") c_abs (by rfl) (fr_abs e) (by decide +kernel) (pa_cons (uv 4) pa_nil)) (pe_op o_pow pe_int pe_int) (nomark _))))) (pss_cons (u_dput (hu_of hr) (uv 0) pe_str (pe_op o_divz (pe_op o_sub (pe_callB (id := "abs") c_abs (by rfl) (fr_abs e) (by decide +kernel) (pa_cons (uv 4) pa_nil)) (pe_op o_pow pe_int pe_int)) (uv 1)))
            (pss_one (ps_ret (pe_op o_modz (pe_op o_sub (pe_callB (id := "abs") c_abs (by rfl) (fr_abs e) (by decide +kernel) (pa_cons (uv 4) pa_nil)) (pe_op o_pow pe_int pe_int)) (uv 1))))) pss_nil)
            (pss_cons (ps_set (i := 5) sc__law_draw.nd (by rfl) (Or.inl rfl) (pe_op (k_add (K := K) rfl) (pe_op (k_add (K := K) rfl) (pe_op o_mul (pe_op o_modz (pe_callTy (T := "int") c_int (by rfl) (fr_int e) (by decide +kernel) (pa_cons (uv 4) pa_nil)) pe_int) pe_int) (pe_op o_mul (pe_op o_mul pe_int (uv 3)) (uv 3))) pe_int))
            (pss_cons (ps_set (i := 5) sc__law_draw.nd (by rfl) (Or.inl rfl) (pe_op o_modz (pe_callTy (T := "int") c_int (by rfl) (fr_int e) (by decide +kernel) (pa_cons (uv 5) pa_nil)) pe_int))
            (pss_cons (ps_set (i := 5) sc__law_draw.nd (by rfl) (Or.inl rfl) (pe_op o_modz (pe_callTy (T := "int") c_int (by rfl) (fr_int e) (by decide +kernel) (pa_cons (pe_op (k_add (K := K) rfl) (pe_op (k_add (K := K) rfl) (pe_op (k_add (K := K) rfl) (pe_op o_mul (uv 5) (uv 5)) (pe_op o_mul pe_int (uv 5))) (pe_op o_mul pe_int (uv 3))) pe_int) pa_nil)) pe_int))
            (pss_one (ps_ret (pe_op o_modz (pe_callTy (T := "int") c_int (by rfl) (fr_int e) (by decide +kernel) (pa_cons (pe_op o_divz (pe_op o_modz (pe_callTy (T := "int") c_int (by rfl) (fr_int e) (by decide +kernel) (pa_cons (pe_op o_mul (uv 5) (pe_op (k_add (K := K) rfl) (uv 5) pe_int)) pa_nil)) pe_int) pe_int) pa_nil)) (uv 1))))))))))))), ?_⟩
    refine ⟨_, X.rest, ?_⟩
    refine bite_d (fun hc => ?_) (fun hc => ?_)
    · refine ⟨_, X.rest, ?_⟩
      refine ⟨m1, fun z1 a1 b1 _ => ?_⟩
      refine ⟨_, X.rest, ?_⟩
      refine ⟨⟨m1, m3⟩, fun z2 e2 => ?_⟩
      refine ⟨_, X.dput _ _, ?_⟩
      exact q z1 G _ (upd_grm hg un) (((X.putR keysOk (e2 ▸ Int.ediv_nonneg r0 (Int.le_of_lt m1))).pen un).up (Nat.le_succ _)) a1 b1
    · refine ⟨_, X.used, ?_⟩
      refine ⟨_, X.dput _ _, ?_⟩
      have X2 := X.putU keysOk (u' := u + 1) (b' := b + 1) (by omega) (by omega)
      have g2 : GrM p G H G _ := upd_grm (o := .dK (putK kvs (Sum.inr ("used" : PySem.Str)) (.int (u + 1)))) hg un
      generalize upd H p (.dK (putK kvs (Sum.inr ("used" : PySem.Str)) (.int (u + 1)))) = H2 at X2 g2
      refine ⟨mulOk (by decide), ?_⟩
      refine ⟨_, X2.cells, ?_⟩
      refine ⟨by decide +kernel, fun z H3 nw => ?_⟩
      have X3 := X2.gr (nw.gr0 g2.gh)
      have g3 : GrM p G H G H3 := g2.trans ((nw.gr0 g2.gh).m p)
      have sc : SqL K H3 c (ns.map V.int) := Evl.ex_l g3.gh X3.2.2.2.1
      refine ints_cmp (ms := []) sc (SqL.of nw.at) ?_
      refine bite_nd (fun hc2 => ?A) (fun hc2 => ?B)
      case' A =>
        refine ⟨_, X3.cells, ?_⟩
        refine ⟨_, X3.cells, ?_⟩
        refine ⟨_, Or.inl sc, ?_⟩
        have ln : (ns.map V.int).length = ns.length := List.length_map _
        rw [ln]
        have pos : 0 < ns.length := List.length_pos_iff.mpr hc2
        refine ⟨by omega, fun z0 a0 b0 _ => ?_⟩
        refine int_ix (Or.inl sc) a0 b0 ?_
        generalize ns.getD z0.toNat 0 = cell
      all_goals
        refine ⟨_, X3.cells, ?_⟩
        refine ⟨_, Or.inl sc, ?_⟩
        refine bite_d (fun hc3 => ?_) (fun hc3 => ?_)
        case' refine_1 =>
          refine ⟨⟨by decide, by decide, by decide⟩, ?_⟩
          refine bite_d (fun hc4 => ?_) (fun hc4 => ?_)
          case' refine_1 =>
            refine ⟨⟨by decide, by decide, by decide⟩, ?_⟩
            refine ⟨⟨m1, m3⟩, fun z1 e1 => ?_⟩
            refine ⟨_, X3.dput _ _, ?_⟩
            refine ⟨⟨by decide, by decide, by decide⟩, ?_⟩
            refine ⟨m1, fun z2 a2 b2 _ => ?_⟩
            exact q z2 G _ (g3.trans (upd_grm g3.gh un)) ((X3.putR keysOk (e1 ▸ Int.ediv_nonneg (Int.sub_nonneg_of_le hc4) (Int.le_of_lt m1))).pen un) a2 b2
        all_goals
          repeat (first
            | refine ⟨by decide, fun z a b _ => ?_⟩
            | refine ⟨mulOk (by decide), ?_⟩
            | refine ⟨mulOkR (by decide), ?_⟩
            | refine ⟨mulOk ⟨by omega, by omega⟩, ?_⟩
            | refine ⟨mulOkR ⟨by omega, by omega⟩, ?_⟩
            | refine ⟨⟨by decide, by decide +kernel⟩, fun z _ => ?_⟩
            | refine ⟨m1, fun z a b _ => ?_⟩)
          exact q _ G _ g3 (X3.pen un) (by assumption) (by assumption)
end
end k80

namespace k80
open PySem PySem.Spec PyProof.Rows L2 Ech
open He (ga ma)
open He5 (wf)
/-! ### _law_pick -/
theorem sc__law_pick : FnScope ["_law_pen_here", "_law_options"] ["_law_pen_here", "_law_options"] (defScope s__law_pick) := ⟨rfl, rfl, rfl, by decide +kernel, rfl, by decide +kernel, by decide +kernel⟩
section
variable {P : Program} {w : World} {K : PySem.W.Frag} {mg : PySem.Str → Option Value} {base : Heap}
theorem F__law_pick (e : Ev K mg) : FunD K "_law_pick" "_law_pick" (defArgs s__law_pick) (defBody s__law_pick) (defScope s__law_pick) [] [] (ga K "_law_pick") (fdA K (ga K "_law_pick")) := e.fun_ 35 (d := d__law_pick)
theorem kp__law_pick (e : Ev K mg) : PySem.W.keepIn K (.ref (ga K "_law_pick")) = true := (F__law_pick e).kp
theorem b__law_pick (e : Ev K mg) : Binds K (fdA K (ga K "_law_pick")) ["_law_pen_here", "_law_options"] [] := (F__law_pick e).bindsN fun _ _ _ _ _ _ us hl => match us, hl with | [_, _], _ => rfl
theorem bn__law_pick_2 (e : Ev K mg) : Bnd K (ga K "_law_pick") ["_law_pen_here", "_law_options"] [] := ⟨[], .nil, b__law_pick e⟩
def sp__law_pick (K : PySem.W.Frag) : Sp := fun vs H Q _ => ∃ (G : Hp) (p o : Addr) (b : Nat) (xs : List V), vs = [.ref p, .ref o] ∧ Ex G H ∧ SqL K G o xs ∧ Pen K ("used" : PySem.Str) ("rest" : PySem.Str) G H p b ∧ b < 2 ^ 60 ∧ 0 < xs.length ∧ xs.length < 2000 ∧
  ∀ v G' H', v ∈ xs → GrM p G H G' H' → Pen K ("used" : PySem.Str) ("rest" : PySem.Str) G' H' p (b + 1) → Q v H'
theorem ok__law_pick (e : Ev K mg) : FnG P w K mg base CX0 2 (ga K "_law_pick") (fdA K (ga K "_law_pick")) ["_law_pen_here", "_law_options"] (sp__law_pick K) := by
  refine FnG.body (F__law_pick e) sc__law_pick (fun vs H Q E h => ?_) (fun cdv A outer s H vs Q E hr hq h => ?_)
  · obtain ⟨G, p, o, b, xs, rfl, _⟩ := h
    rfl
  · obtain ⟨G, p, o, b, xs, rfl, hg, hs, hp, hb, x0, x1, q⟩ := h
    refine ⟨_, PSs.nox (pss_one (ps_ret (pe_ix (ix_k (K := K) rfl) (uv 1) (u_callQ (ok__law_draw e) (hr.mono (by decide)) hq (by rfl) (gl__law_draw e) (kp__law_draw e) (bn__law_draw_2 e) pass0 (pa_cons (uv 0) (pa_cons (pe_callB (id := "len") (k_len (K := K) rfl) (by rfl) (fr_len e) (by decide +kernel) (pa_cons (uv 1) pa_nil)) pa_nil))) (fun _ _ => rfl)))), ?_⟩
    refine ⟨_, Or.inl (Evl.ex_l hg hs), ?_⟩
    refine ⟨G, p, b, _, rfl, hg, hp, hb, by omega, by omega, fun v G' H' g pn v0 v1 => ?_⟩
    have hv : v.toNat < xs.length := by omega
    refine ⟨xs, xs[v.toNat], Or.inl (Evl.ex_l g.gh (Evl.ex_l g.gg hs)), atI_pos v0 (List.getElem?_eq_getElem hv), ?_⟩
    exact q _ G' H' (List.getElem_mem hv) g pn
end
end k80

namespace k80
open PySem PySem.Spec PyProof.Rows L2 Ech
open He (ga ma)
open He5 (wf)
/-! ### is_list -/
theorem sc_is_list : FnScope ["value"] ["value"] (defScope s_is_list) := ⟨rfl, rfl, rfl, by decide +kernel, rfl, by decide +kernel, by decide +kernel⟩
section
variable {P : Program} {w : World} {K : PySem.W.Frag} {mg : PySem.Str → Option Value} {base : Heap}
theorem F_is_list (e : Ev K mg) : FunD K "is_list" "is_list" (defArgs s_is_list) (defBody s_is_list) (defScope s_is_list) [] [] (ga K "is_list") (fdA K (ga K "is_list")) := e.fun_ 1 (d := d_is_list)
theorem kp_is_list (e : Ev K mg) : PySem.W.keepIn K (.ref (ga K "is_list")) = true := (F_is_list e).kp
theorem b_is_list (e : Ev K mg) : Binds K (fdA K (ga K "is_list")) ["value"] [] := (F_is_list e).bindsN fun _ _ _ _ _ _ us hl => match us, hl with | [_], _ => rfl
theorem bn_is_list_1 (e : Ev K mg) : Bnd K (ga K "is_list") ["value"] [] := ⟨[], .nil, b_is_list e⟩
def sp_is_list (K : PySem.W.Frag) : Sp := fun vs H Q _ => ∃ (a : Addr) (f : Bool) (xs : List V), vs = [.ref a] ∧ Sq f K H a xs ∧ ∀ H', Ex H H' → Q (.bl true) H'
theorem ok_is_list (e : Ev K mg) : FnOk P w K mg base CX0 1 (ga K "is_list") (fdA K (ga K "is_list")) ["value"] (sp_is_list K) := by
  refine (F_is_list e).ok sc_is_list (fun vs H Q E h => ?_) (fun cdv A outer s H vs Q E hr h => ?_)
  · obtain ⟨a, f, xs, rfl, _⟩ := h
    rfl
  · obtain ⟨a, f, xs, rfl, hs, q⟩ := h
    refine ⟨_, PSs.nox (pss_one (ps_ret (pe_callB (id := "isinstance") (k_isi (K := K) rfl) (by rfl) (fr_isinstance e) (by decide +kernel) (pa_cons (uv 0) (pa_cons (u_tup (pa_cons (u_ty (n := "list") (by rfl) (fr_list e) (by decide +kernel)) (pa_cons (u_ty (n := "tuple") (by rfl) (fr_tuple e) (by decide +kernel)) pa_nil))) pa_nil))))), ?_⟩
    refine ⟨szr (n := 2) (by decide +kernel), fun tp H1 nw => ?_⟩
    refine isi_seq (Sq.up nw.ex hs) nw.at ?_
    exact q H1 nw.ex
end
end k80

namespace k80
open PySem PySem.Spec PyProof.Rows L2 Ech
open He (ga ma)
open He5 (wf)
/-! ### is_integer -/
theorem sc_is_integer : FnScope ["value", "least", "most"] ["value", "least", "most"] (defScope s_is_integer) := ⟨rfl, rfl, rfl, by decide +kernel, rfl, by decide +kernel, by decide +kernel⟩
section
variable {P : Program} {w : World} {K : PySem.W.Frag} {mg : PySem.Str → Option Value} {base : Heap}
theorem F_is_integer (e : Ev K mg) : FunD K "is_integer" "is_integer" (defArgs s_is_integer) (defBody s_is_integer) (defScope s_is_integer) [.non, .non] [] (ga K "is_integer") (fdA K (ga K "is_integer")) := e.fun_ 0 (d := d_is_integer)
theorem kp_is_integer (e : Ev K mg) : PySem.W.keepIn K (.ref (ga K "is_integer")) = true := (F_is_integer e).kp
theorem bn_is_integer_2 (e : Ev K mg) : Bnd K (ga K "is_integer") ["value", "least", "most"] [.non] := (F_is_integer e).binds1 2 1 (by simp) (by decide) fun _ _ _ _ _ _ _ us its h1 h2 => match us, h1, its, h2 with | [_, _], _, [_, _], _ => ⟨_, rfl, rfl⟩
theorem bn_is_integer_3 (e : Ev K mg) : Bnd K (ga K "is_integer") ["value", "least", "most"] [] := (F_is_integer e).binds1 3 2 (by simp) (by decide) fun _ _ _ _ _ _ _ us its h1 h2 => match us, h1, its, h2 with | [_, _, _], _, [_, _], _ => ⟨_, rfl, rfl⟩
def loOk : V → Int → Bool
  | .int l, i => decide (l ≤ i)
  | _, _ => true
def hiOk : V → Int → Bool
  | .int l, i => decide (i ≤ l)
  | _, _ => true
def isIntV : V → V → V → Bool
  | .int i, lo, hi => loOk lo i && hiOk hi i
  | _, _, _ => false
abbrev isI : V → Bool := isIv
abbrev isB : V → Bool := isBv
def sp_is_integer (K : PySem.W.Frag) : Sp := fun vs H Q _ => ∃ v lo hi, vs = [v, lo, hi] ∧ IsiOk K H v "int" (isI v) ∧ IsiOk K H v "bool" (isB v) ∧ (lo = .non ∨ ∃ l, lo = .int l) ∧ (hi = .non ∨ ∃ l, hi = .int l) ∧ Q (.bl (isIntV v lo hi)) H
theorem intV_D {K : PySem.W.Frag} {H : Hp} {f : Bool} {v : V} {d : PyData} {lo hi : Int} (h : Dq K H f v d) : isIntV v (.int lo) (.int hi) = isIntD lo hi d := by
  cases h <;> rfl
theorem ok_is_integer (e : Ev K mg) : FnOk P w K mg base CX0 1 (ga K "is_integer") (fdA K (ga K "is_integer")) ["value", "least", "most"] (sp_is_integer K) := by
  refine (F_is_integer e).ok sc_is_integer (fun vs H Q E h => ?_) (fun cdv A outer s H vs Q E hr h => ?_)
  · obtain ⟨v, lo, hi, rfl, _⟩ := h
    rfl
  · obtain ⟨v, lo, hi, rfl, h1, h2, h3, h4, q⟩ := h
    refine ⟨_, PSs.nox (pss_cons (u_if (PW.pt (u_orT (pt_not (k_tru (K := K) rfl (pe_callB (id := "isinstance") (k_isi (K := K) rfl) (by rfl) (fr_isinstance e) (by decide +kernel) (pa_cons (uv 0) (pa_cons (u_ty (n := "int") (by rfl) (fr_int e) (by decide +kernel)) pa_nil))))) (u_or1 (k_tru (K := K) rfl (pe_callB (id := "isinstance") (k_isi (K := K) rfl) (by rfl) (fr_isinstance e) (by decide +kernel) (pa_cons (uv 0) (pa_cons (u_ty (n := "bool") (by rfl) (fr_bool e) (by decide +kernel)) pa_nil))))))) (pss_one (ps_ret pe_bl)) pss_nil)
            (pss_one (ps_ret (u_and (u_or (u_cmp o_is (uv 1) pe_non (nomark _)) (pe_one (u_cmp o_ge (uv 0) (uv 1) (nomark _)))) (pe_one (u_or (u_cmp o_is (uv 2) pe_non (nomark _)) (pe_one (u_cmp o_le (uv 0) (uv 2) (nomark _))))))))), ?_⟩
    cases v with
    | int i =>
      refine isi_go h1 ?_
      refine isi_go h2 ?_
      rcases h3 with rfl | ⟨l, rfl⟩
      · rcases h4 with rfl | ⟨m, rfl⟩
        · exact q
        · exact q
      · refine bite_d (fun hc => ?_) (fun hc => ?_)
        · have q' : Q (.bl (decide (l ≤ i) && hiOk hi i)) H := q
          rw [decide_eq_true hc] at q'
          rcases h4 with rfl | ⟨m, rfl⟩
          · exact q'
          · exact q'
        · have q' : Q (.bl (decide (l ≤ i) && hiOk hi i)) H := q
          rw [decide_eq_false hc] at q'
          exact q'
    | bl b =>
      refine isi_go h1 ?_
      refine isi_go h2 ?_
      exact q
    | _ =>
      refine isi_go h1 ?_
      exact q
end
end k80

namespace k80
open PySem PySem.Spec PyProof.Rows L2 Ech
open He (ga ma)
open He5 (wf)
/-! ### is_price -/
theorem sc_is_price : FnScope ["value"] ["value"] (defScope s_is_price) := ⟨rfl, rfl, rfl, by decide +kernel, rfl, by decide +kernel, by decide +kernel⟩
section
variable {P : Program} {w : World} {K : PySem.W.Frag} {mg : PySem.Str → Option Value} {base : Heap}
theorem F_is_price (e : Ev K mg) : FunD K "is_price" "is_price" (defArgs s_is_price) (defBody s_is_price) (defScope s_is_price) [] [] (ga K "is_price") (fdA K (ga K "is_price")) := e.fun_ 2 (d := d_is_price)
theorem kp_is_price (e : Ev K mg) : PySem.W.keepIn K (.ref (ga K "is_price")) = true := (F_is_price e).kp
theorem b_is_price (e : Ev K mg) : Binds K (fdA K (ga K "is_price")) ["value"] [] := (F_is_price e).bindsN fun _ _ _ _ _ _ us hl => match us, hl with | [_], _ => rfl
theorem bn_is_price_1 (e : Ev K mg) : Bnd K (ga K "is_price") ["value"] [] := ⟨[], .nil, b_is_price e⟩
def sp_is_price (K : PySem.W.Frag) : Sp := fun vs H Q _ => ∃ (x : Option Int), vs = [pV x] ∧ (∀ i, x = some i → 0 ≤ i) ∧ Q (.bl true) H
theorem ok_is_price (e : Ev K mg) : FnOk P w K mg base CX0 2 (ga K "is_price") (fdA K (ga K "is_price")) ["value"] (sp_is_price K) := by
  refine (F_is_price e).ok sc_is_price (fun vs H Q E h => ?_) (fun cdv A outer s H vs Q E hr h => ?_)
  · obtain ⟨x, rfl, _⟩ := h
    rfl
  · obtain ⟨x, rfl, hx, q⟩ := h
    refine ⟨_, PSs.nox (pss_one (ps_ret (u_or (u_cmp o_is (uv 0) pe_non (nomark _)) (pe_one (u_call (ok_is_integer e) (hr.mono (by decide)) (by rfl) (gl_is_integer e) (kp_is_integer e) (bn_is_integer_2 e) pass0 (pa_cons (uv 0) (pa_cons pe_int pa_nil))))))), ?_⟩
    cases x with
    | none => exact q
    | some i =>
      refine ⟨_, _, _, rfl, isi_int_int, isi_int_bool, Or.inr ⟨_, rfl⟩, Or.inl rfl, ?_⟩
      have e : isIntV (pV (some i)) (.int 0) .non = true := by
        show (decide (0 ≤ i) && true) = true
        rw [decide_eq_true (hx i rfl)]
        rfl
      rw [e]
      exact q
end
end k80

namespace k80
open PySem PySem.Spec PyProof.Rows L2 Ech
open He (ga ma)
open He5 (wf)
/-! ### are_rows -/
theorem sc_are_rows : FnScope ["value", "row", "price"] ["value"] (defScope s_are_rows) := ⟨rfl, rfl, rfl, by decide +kernel, rfl, by decide +kernel, by decide +kernel⟩
section
variable {P : Program} {w : World} {K : PySem.W.Frag} {mg : PySem.Str → Option Value} {base : Heap}
theorem F_are_rows (e : Ev K mg) : FunD K "are_rows" "are_rows" (defArgs s_are_rows) (defBody s_are_rows) (defScope s_are_rows) [] [] (ga K "are_rows") (fdA K (ga K "are_rows")) := e.fun_ 13 (d := d_are_rows)
theorem kp_are_rows (e : Ev K mg) : PySem.W.keepIn K (.ref (ga K "are_rows")) = true := (F_are_rows e).kp
theorem b_are_rows (e : Ev K mg) : Binds K (fdA K (ga K "are_rows")) ["value"] [] := (F_are_rows e).bindsN fun _ _ _ _ _ _ us hl => match us, hl with | [_], _ => rfl
theorem bn_are_rows_1 (e : Ev K mg) : Bnd K (ga K "are_rows") ["value"] [] := ⟨[], .nil, b_are_rows e⟩
def sp_are_rows (K : PySem.W.Frag) : Sp := fun vs H Q _ => ∃ (G : Hp) (v : V) (rows : List (List (Option Int))), vs = [v] ∧ Ex G H ∧ RowsAt K G v rows ∧ SqR rows ∧ 1 ≤ rows.length ∧ rows.length ≤ 5 ∧ (∀ r ∈ rows, ∀ x ∈ r, ∀ i, x = some i → 0 ≤ i) ∧ ∀ H', Ex H H' → Q (.bl true) H'
theorem all_true2 (n : Nat) : (List.replicate n true).all id = true := by
  rw [List.all_replicate]
  split <;> rfl
theorem ok_are_rows (e : Ev K mg) : FnOk P w K mg base CX0 3 (ga K "are_rows") (fdA K (ga K "are_rows")) ["value"] (sp_are_rows K) := by
  refine (F_are_rows e).ok sc_are_rows (fun vs H Q E h => ?_) (fun cdv A outer s H vs Q E hr h => ?_)
  · obtain ⟨G, v, rows, rfl, _⟩ := h
    rfl
  · obtain ⟨G, v, rows, rfl, hg, ⟨a, f, vs, rfl, hs, hp⟩, hq, h1, h5, hn, q⟩ := h
    refine ⟨_, PSs.nox (pss_cons (u_if (PW.pt (u_orT (pt_not (k_tru (K := K) rfl (u_call (ok_is_list e) (hr.mono (by decide)) (by rfl) (gl_is_list e) (kp_is_list e) (bn_is_list_1 e) pass0 (pa_cons (uv 0) pa_nil)))) (u_or1 (pt_not (u_chainT o_le o_le pe_int (pe_callB (id := "len") (k_len (K := K) rfl) (by rfl) (fr_len e) (by decide +kernel) (pa_cons (uv 0) pa_nil)) (u_gint (by rfl) (con_MAX_LETTERS e))))))) (pss_one (ps_ret pe_bl)) pss_nil)
            (pss_cons (u_for PassesOwn.never (by rfl) (k_seq (K := K) rfl (uv 0)) (pg_name (i := 1) sc_are_rows.nd (by rfl) (by first | exact Or.inl rfl | exact Or.inr rfl)) (pss_one (u_if (PW.pt (u_orT (pt_not (k_tru (K := K) rfl (u_call (ok_is_list e) (hr.mono (by decide)) (by rfl) (gl_is_list e) (kp_is_list e) (bn_is_list_1 e) pass0 (pa_cons (uv 1) pa_nil)))) (u_orT (u_cmpT (k_ne (K := K) rfl hr.units) (pe_callB (id := "len") (k_len (K := K) rfl) (by rfl) (fr_len e) (by decide +kernel) (pa_cons (uv 1) pa_nil)) (pe_callB (id := "len") (k_len (K := K) rfl) (by rfl) (fr_len e) (by decide +kernel) (pa_cons (uv 0) pa_nil)) (nomark _)) (u_or1 (pt_not (k_tru (K := K) rfl (pe_callB (id := "all") (k_all (K := K) rfl (by rfl)) (by rfl) (fr_all e) (by decide +kernel) (pa_cons (u_lc (own := [("price", 2)]) (by rfl) sc_are_rows.nd (k_seq (K := K) rfl (uv 1)) (blkOk_by (by kernel_rfl)) (fun _ _ _ _ _ => (pg_name (i := 2) sc_are_rows.nd (by rfl) (by first | exact Or.inl rfl | exact Or.inr rfl))) (fun _ _ _ _ _ => pts_nil) (fun _ _ _ _ _ => (u_call (ok_is_price e) (hr.mono (by decide)) (by rfl) (gl_is_price e) (kp_is_price e) (bn_is_price_1 e) pass0 (pa_cons (uv 2) pa_nil)))) pa_nil)))))))) (pss_one (ps_ret pe_bl)) pss_nil)))
            (pss_one (ps_ret pe_bl)))), ?_⟩
    have lv : vs.length = rows.length := paired_len hp
    refine ⟨a, f, vs, rfl, Sq.up hg hs, fun H1 x1 => ?_⟩
    have hg1 : Ex G H1 := fun a o e => x1 a o (hg a o e)
    refine ⟨_, (Sq.up hg1 hs).or, ?_⟩
    rw [lv]
    refine bite_d (fun hc => ?_) (fun hc => absurd (by omega) hc)
    refine bite_nd (fun hc => absurd (by omega) hc) (fun hc => ?_)
    refine ⟨f, vs, Sq.up hg1 hs, ?_⟩
    refine ⟨fun i σ H' => ∃ (y z : Option V), Ex H H' ∧ σ = [some (.ref a), y, z], ?_, ?_, ?_, ?_⟩
    · exact ⟨none, none, x1, rfl⟩
    · rintro i σ H' _ ⟨y, z, x2, _⟩
      exact Sq.up (fun a o e => x2 a o (hg a o e)) hs
    · rintro i x σ H2 H' hi ⟨y, z, x2, rfl⟩ ⟨rfl, hx⟩
      have hg2 : Ex G H' := fun a o e => x2 a o (hg a o e)
      obtain ⟨r, e1, b, g, rfl, sb⟩ := paired_at hp hx
      have mr : r ∈ rows := List.mem_of_getElem? e1
      refine ⟨b, g, _, rfl, Sq.up hg2 sb, fun H3 x3 => ?_⟩
      have x3' : Ex H H3 := fun a o e => x3 a o (x2 a o e)
      have hg3 : Ex G H3 := fun a o e => x3' a o (hg a o e)
      refine ⟨_, (Sq.up hg3 sb).or, ?_⟩
      refine ⟨_, (Sq.up hg3 hs).or, ?_⟩
      have lr : (List.map pV r).length = rows.length := by rw [List.length_map]; exact hq r mr
      rw [lr, lv]
      refine bite_nd (fun hc => absurd rfl hc) (fun hc => ?_)
      refine ⟨g, _, Sq.up hg3 sb, ?_⟩
      refine lc_pure hg3 (fun j _ acc => acc = (List.replicate j true).map V.bl) ?_ rfl ?_ ?_ ?_ ?_
      · show (List.map pV r).length ≤ sizeLine
        rw [lr]
        exact Nat.le_trans h5 (szr (by decide +kernel))
      · rintro i _ acc rfl
        rw [List.length_map, List.length_replicate]
        exact Nat.le_refl _
      · intro G4 H4 g4
        exact Sq.up (fun a o e => g4.gh a o (g4.gg a o e)) sb
      · rintro j x G4 H4 H5 acc hj g4 rfl ⟨rfl, hx⟩ R R0 r1 r2
        rw [List.getElem?_map] at hx
        cases ez : r[j]? with
        | none => rw [ez] at hx; cases hx
        | some pr =>
          rw [ez] at hx
          obtain rfl := Option.some.inj hx
          refine ⟨rfl, ?_⟩
          refine ⟨pr, rfl, hn r mr pr (List.mem_of_getElem? ez), ?_⟩
          refine r1 _ G4 _ (Gr.refl g4.gh) ?_
          rw [List.replicate_succ']
          simp
      · rintro D G4 H4 acc g4 hD _ h3 rfl
        refine ⟨_, SqL.of h3, ?_⟩
        rw [all_true2]
        exact ⟨_, _, fun a o e => g4.hh a o (x3' a o e), rfl⟩
    · rintro σ H2 ⟨y, z, x2, rfl⟩
      exact q H2 x2
end
end k80

namespace k80
open PySem PySem.Spec PyProof.Rows L2 Ech
open He (ga ma)
open He5 (wf)
/-! ### Table.__init__ -/
theorem sc_Table_init : FnScope ["self", "rows", "row"] ["self", "rows"] (defScope s_Table_init) := ⟨rfl, rfl, rfl, by decide +kernel, rfl, by decide +kernel, by decide +kernel⟩
section
variable {P : Program} {w : World} {K : PySem.W.Frag} {mg : PySem.Str → Option Value} {base : Heap}
theorem F_Table_init (e : Ev K mg) : FunD K "__init__" "Table.__init__" (defArgs s_Table_init) (defBody s_Table_init) (defScope s_Table_init) [] [] (ma K (ga K "Table") "__init__") (fdA K (ma K (ga K "Table") "__init__")) := e.fun_ 17 (d := d_Table_init)
theorem b_Table_init (e : Ev K mg) : Binds K (fdA K (ma K (ga K "Table") "__init__")) ["self", "rows"] [] := (F_Table_init e).bindsN fun _ _ _ _ _ _ us hl => match us, hl with | [_, _], _ => rfl
def sp_Table_init (K : PySem.W.Frag) : Sp := fun vs H Q _ => ∃ (G : Hp) (x dx : Addr) (v : V) (rows : List (List (Option Int))), vs = [.ref x, v] ∧ Ex G H ∧ G x = none ∧ H x = some (.ins (ga K "Table") dx []) ∧ RowsAt K G v rows ∧ SqR rows ∧ 1 ≤ rows.length ∧ rows.length ≤ 5 ∧ (∀ r ∈ rows, ∀ x ∈ r, ∀ i, x = some i → 0 ≤ i) ∧
  ∀ ent G' H', GrM x G H G' H' → H' x = some (.ins (ga K "Table") dx [("entries", ent)]) → Dp K G' ent (tabD rows) → Q .non H'
theorem ok_Table_init (e : Ev K mg) : FnOk P w K mg base CX0 4 (ma K (ga K "Table") "__init__") (fdA K (ma K (ga K "Table") "__init__")) ["self", "rows"] (sp_Table_init K) := by
  refine (F_Table_init e).ok sc_Table_init (fun vs H Q E h => ?_) (fun cdv A outer s H vs Q E hr h => ?_)
  · obtain ⟨G, x, dx, v, rows, rfl, _⟩ := h
    rfl
  · obtain ⟨G, x, dx, v, rows, rfl, hg, gx, hx, hR, hq, h1, h5, hn, q⟩ := h
    refine ⟨_, PSs.nox (pss_cons (u_if (pt_not (k_tru (K := K) rfl (u_call (ok_are_rows e) (hr.mono (by decide)) (by rfl) (gl_are_rows e) (kp_are_rows e) (bn_are_rows_1 e) pass0 (pa_cons (uv 1) pa_nil)))) (pss_one ps_never) pss_nil)
            (pss_one (u_setFld (cl_Table e) (na_Table_entries e) (uv 0) (pe_callTy (T := "tuple") (k_tuple (K := K) rfl) (by rfl) (fr_tuple e) (by decide +kernel) (pa_cons (u_lc (own := [("row", 2)]) (by rfl) sc_Table_init.nd (k_seq (K := K) rfl (uv 1)) (blkOk_by (by kernel_rfl)) (fun _ _ _ _ _ => (pg_name (i := 2) sc_Table_init.nd (by rfl) (by first | exact Or.inl rfl | exact Or.inr rfl))) (fun _ _ _ _ _ => pts_nil) (fun _ _ _ _ _ => (pe_callTy (T := "tuple") (k_tuple (K := K) rfl) (by rfl) (fr_tuple e) (by decide +kernel) (pa_cons (uv 2) pa_nil)))) pa_nil))))), ?_⟩
    obtain ⟨a, f, vs, rfl, hs, hp⟩ := id hR
    refine ⟨G, _, rows, rfl, hg, hR, hq, h1, h5, hn, fun H1 x1 => ?_⟩
    have g1 : Gr G H G H1 := ⟨x1, fun _ _ e => e, fun a o e => x1 a o (hg a o e), fun _ _ => rfl⟩
    have lv : vs.length = rows.length := paired_len hp
    refine ⟨f, vs, Sq.up g1.gh hs, ?_⟩
    refine lc_pure g1.gh (fun i G acc => DpAll K G acc ((rows.take i).map rowD)) ?_ ?_ ?_ ?_ ?_ ?_
    · show vs.length ≤ sizeLine
      rw [lv]
      exact Nat.le_trans h5 (szr (by decide +kernel))
    · exact .nil
    · intro i G2 acc hd
      rw [dpAll_len hd, List.length_map, List.length_take]
      exact Nat.min_le_left _ _
    · intro G2 H2 g2
      exact Sq.up (fun a o e => g2.gh a o (g2.gg a o e)) hs
    · rintro i w G2 H2 H3 acc hi g2 hd ⟨rfl, hw⟩ R R0 r1 r2
      obtain ⟨r, e1, b, g, rfl, sb⟩ := paired_at hp hw
      have tk : (rows.take (i + 1)).map rowD = (rows.take i).map rowD ++ [rowD r] := by
        rw [List.take_add_one, e1, List.map_append]
        rfl
      refine ⟨rfl, ?_⟩
      have sb2 := Sq.up g2.gg sb
      cases g with
      | true =>
        refine ⟨_, Or.inl ⟨Evl.ex_l g2.gh sb2, fun l H4 nw => ?_⟩⟩
        have g4 := nw.gr g2.gh
        refine r1 _ _ _ g4 ?_
        rw [tk]
        exact dpAll_snoc (dpAll_up g4.gg hd) (.tup (SqT.of upd_same) (dpAll_pV r))
      | false =>
        refine ⟨_, Or.inr ⟨Evl.ex_t g2.gh sb2, ?_⟩⟩
        refine r1 _ _ _ (Gr.refl g2.gh) ?_
        rw [tk]
        exact dpAll_snoc hd (.tup sb2 (dpAll_pV r))
    · intro D G2 H2 acc g2 hD hG h3 hd
      refine ⟨_, Or.inl ⟨SqL.of h3, fun l H4 nw => ?_⟩⟩
      have g4 := nw.gr g2.gh
      have gs : Gr G H _ H4 := g1.trans (g2.trans g4)
      refine ⟨dx, [], gs.hh _ _ hx, (by decide), fun H5 ch => ?_⟩
      have lr : (rows.take vs.length).map rowD = rows.map rowD := by rw [lv, List.take_length]
      rw [lr] at hd
      have gx4 := gs.free (some_ne hx) gx
      refine q _ _ H5 ((gs.m x).trans (ch.grm gs.gh gx4)) (by rw [ch.at]; rfl) (.tup (SqT.of upd_same) (dpAll_up g4.gg hd))
end
end k80

namespace k80
open PySem PySem.Spec PyProof.Rows L2 Ech
open He (ga ma)
open He5 (wf)
/-! ### _law_is_integer -/
theorem sc__law_is_integer : FnScope ["_law_value", "_law_low", "_law_high"] ["_law_value", "_law_low", "_law_high"] (defScope s__law_is_integer) := ⟨rfl, rfl, rfl, by decide +kernel, rfl, by decide +kernel, by decide +kernel⟩
section
variable {P : Program} {w : World} {K : PySem.W.Frag} {mg : PySem.Str → Option Value} {base : Heap}
theorem F__law_is_integer (e : Ev K mg) : FunD K "_law_is_integer" "_law_is_integer" (defArgs s__law_is_integer) (defBody s__law_is_integer) (defScope s__law_is_integer) [] [] (ga K "_law_is_integer") (fdA K (ga K "_law_is_integer")) := e.fun_ 37 (d := d__law_is_integer)
theorem kp__law_is_integer (e : Ev K mg) : PySem.W.keepIn K (.ref (ga K "_law_is_integer")) = true := (F__law_is_integer e).kp
theorem b__law_is_integer (e : Ev K mg) : Binds K (fdA K (ga K "_law_is_integer")) ["_law_value", "_law_low", "_law_high"] [] := (F__law_is_integer e).bindsN fun _ _ _ _ _ _ us hl => match us, hl with | [_, _, _], _ => rfl
theorem bn__law_is_integer_3 (e : Ev K mg) : Bnd K (ga K "_law_is_integer") ["_law_value", "_law_low", "_law_high"] [] := ⟨[], .nil, b__law_is_integer e⟩
def sp__law_is_integer (K : PySem.W.Frag) : Sp := fun vs H Q _ => ∃ (v : V) (lo hi : Int) (f : Bool) (d : PyData), vs = [v, .int lo, .int hi] ∧ Dq K H f v d ∧ Q (.bl (isIntD lo hi d)) H
theorem ok__law_is_integer (e : Ev K mg) : FnG P w K mg base CX0 1 (ga K "_law_is_integer") (fdA K (ga K "_law_is_integer")) ["_law_value", "_law_low", "_law_high"] (sp__law_is_integer K) := by
  refine FnG.body (F__law_is_integer e) sc__law_is_integer (fun vs H Q E h => ?_) (fun cdv A outer s H vs Q E hr hq h => ?_)
  · obtain ⟨v, lo, hi, f, d, rfl, _⟩ := h
    rfl
  · obtain ⟨v, lo, hi, f, d, rfl, dv, q⟩ := h
    refine ⟨_, PSs.nox (pss_one (ps_ret (u_and (pe_callB (id := "isinstance") (k_isi (K := K) rfl) (by rfl) (fr_isinstance e) (by decide +kernel) (pa_cons (uv 0) (pa_cons (u_ty (n := "int") (by rfl) (fr_int e) (by decide +kernel)) pa_nil))) (u_and (u_not (pe_callB (id := "isinstance") (k_isi (K := K) rfl) (by rfl) (fr_isinstance e) (by decide +kernel) (pa_cons (uv 0) (pa_cons (u_ty (n := "bool") (by rfl) (fr_bool e) (by decide +kernel)) pa_nil)))) (pe_one (u_chain o_le o_le (uv 1) (uv 0) (uv 2))))))), ?_⟩
    have h1 := dv.isiV.1
    have h2 := dv.isiV.2
    cases dv with
    | int i =>
      refine isi_go h1 ?_
      refine isi_go h2 ?_
      have q : Q (.bl (decide (lo ≤ i) && decide (i ≤ hi))) H := q
      refine bite_d (fun hc => ?_) (fun hc => ?_)
      · rw [decide_eq_true hc] at q
        exact q
      · rw [decide_eq_false hc] at q
        exact q
    | bl b =>
      refine isi_go h1 ?_
      refine isi_go h2 ?_
      exact q
    | _ =>
      refine isi_go h1 ?_
      exact q
end
end k80

namespace k80
open PySem PySem.Spec PyProof.Rows L2 Ech
open He (ga ma)
open He5 (wf)
/-! ### _law_rows -/
theorem sc__law_rows : FnScope ["_law_pen_here", "_law_letters", "_law_top", "_law_share", "_law_found", "_law_one", "_law_row", "_law_other", "_law_amount"] ["_law_pen_here", "_law_letters", "_law_top"] (defScope s__law_rows) := ⟨rfl, rfl, rfl, by decide +kernel, rfl, by decide +kernel, by decide +kernel⟩
section
variable {P : Program} {w : World} {K : PySem.W.Frag} {mg : PySem.Str → Option Value} {base : Heap}
theorem F__law_rows (e : Ev K mg) : FunD K "_law_rows" "_law_rows" (defArgs s__law_rows) (defBody s__law_rows) (defScope s__law_rows) [] [] (ga K "_law_rows") (fdA K (ga K "_law_rows")) := e.fun_ 36 (d := d__law_rows)
theorem kp__law_rows (e : Ev K mg) : PySem.W.keepIn K (.ref (ga K "_law_rows")) = true := (F__law_rows e).kp
theorem b__law_rows (e : Ev K mg) : Binds K (fdA K (ga K "_law_rows")) ["_law_pen_here", "_law_letters", "_law_top"] [] := (F__law_rows e).bindsN fun _ _ _ _ _ _ us hl => match us, hl with | [_, _, _], _ => rfl
theorem bn__law_rows_3 (e : Ev K mg) : Bnd K (ga K "_law_rows") ["_law_pen_here", "_law_letters", "_law_top"] [] := ⟨[], .nil, b__law_rows e⟩
def goodR (top : Int) (r : List (Option Int)) : Prop := ∀ x ∈ r, ∀ i, x = some i → 0 ≤ i ∧ i ≤ top
def sp__law_rows (K : PySem.W.Frag) : Sp := fun vs H Q _ => ∃ (G : Hp) (p : Addr) (b L : Nat) (top : Int), vs = [.ref p, .int L, .int top] ∧ Ex G H ∧ Pen K ("used" : PySem.Str) ("rest" : PySem.Str) G H p b ∧ b + 200 < 2 ^ 60 ∧ L ≤ 5 ∧ 0 ≤ top ∧ top < 2 ^ 50 ∧
  ∀ v rows G' H', Dp K G' v (tabD rows) → rows.length = L → SqR rows → (∀ r ∈ rows, goodR top r) → GrM p G H G' H' → Pen K ("used" : PySem.Str) ("rest" : PySem.Str) G' H' p (b + 200) → Q v H'
theorem goodR_snoc {top : Int} {r : List (Option Int)} {x : Option Int} (h : goodR top r) (hx : ∀ i, x = some i → 0 ≤ i ∧ i ≤ top) : goodR top (r ++ [x]) := by
  intro y hy
  rcases List.mem_append.mp hy with hy | hy
  · exact h y hy
  · rw [List.mem_singleton.mp hy]
    exact hx
theorem ok__law_rows (e : Ev K mg) : FnG P w K mg base CX0 3 (ga K "_law_rows") (fdA K (ga K "_law_rows")) ["_law_pen_here", "_law_letters", "_law_top"] (sp__law_rows K) := by
  refine FnG.body (F__law_rows e) sc__law_rows (fun vs H Q E h => ?_) (fun cdv A outer s H vs Q E hr hq h => ?_)
  · obtain ⟨G, p, b, L, top, rfl, _⟩ := h
    rfl
  · obtain ⟨G, p, b, L, top, rfl, hg, hp, hb, hL, t0, t1, q⟩ := h
    refine ⟨_, PSs.nox (pss_cons (u_par (i := 3) (j := 4) (by rfl) sc__law_rows.nd (by rfl) (by rfl) (by decide) (by rfl) (by rfl) (pa_cons (u_callQ (ok__law_pick e) (hr.mono (by decide)) hq (by rfl) (gl__law_pick e) (kp__law_pick e) (bn__law_pick_2 e) pass0 (pa_cons (uv 0) (pa_cons (u_lst (pa_cons pe_int (pa_cons pe_int (pa_cons pe_int (pa_cons pe_int pa_nil))))) pa_nil))) (pa_cons (u_lst pa_nil) pa_nil)) (by rfl))
            (pss_cons (u_for PassesOwn.never (by rfl) (piu_range1 (by rfl) (fr_range e) (pa_cons (uv 1) pa_nil)) (pg_name (i := 5) sc__law_rows.nd (by rfl) (by first | exact Or.inl rfl | exact Or.inr rfl)) (pss_cons (ps_set (i := 6) sc__law_rows.nd (by rfl) (Or.inl rfl) (u_lst pa_nil))
            (pss_cons (u_for PassesOwn.never (by rfl) (piu_range1 (by rfl) (fr_range e) (pa_cons (uv 1) pa_nil)) (pg_name (i := 7) sc__law_rows.nd (by rfl) (by first | exact Or.inl rfl | exact Or.inr rfl)) (pss_cons (ps_set (i := 8) sc__law_rows.nd (by rfl) (Or.inl rfl) (u_callQ (ok__law_pick e) (hr.mono (by decide)) hq (by rfl) (gl__law_pick e) (kp__law_pick e) (bn__law_pick_2 e) pass0 (pa_cons (uv 0) (pa_cons (u_lst (pa_cons pe_int (pa_cons (u_callQ (ok__law_draw e) (hr.mono (by decide)) hq (by rfl) (gl__law_draw e) (kp__law_draw e) (bn__law_draw_2 e) pass0 (pa_cons (uv 0) (pa_cons (pe_op (k_add (K := K) rfl) (uv 2) pe_int) pa_nil))) (pa_cons (u_callQ (ok__law_draw e) (hr.mono (by decide)) hq (by rfl) (gl__law_draw e) (kp__law_draw e) (bn__law_draw_2 e) pass0 (pa_cons (uv 0) (pa_cons (pe_op (k_add (K := K) rfl) (uv 2) pe_int) pa_nil))) pa_nil)))) pa_nil))))
            (pss_one (ps_expr (k_append (K := K) rfl (uv 6) (pa_cons (u_ifExp (u_cmpT (k_eq (K := K) rfl hr.units) (u_callQ (ok__law_draw e) (hr.mono (by decide)) hq (by rfl) (gl__law_draw e) (kp__law_draw e) (bn__law_draw_2 e) pass0 (pa_cons (uv 0) (pa_cons (uv 3) pa_nil))) pe_int (nomark _)) pe_non (uv 8)) pa_nil))))))
            (pss_one (ps_expr (k_append (K := K) rfl (uv 4) (pa_cons (pe_callTy (T := "tuple") (k_tuple (K := K) rfl) (by rfl) (fr_tuple e) (by decide +kernel) (pa_cons (uv 6) pa_nil)) pa_nil)))))))
            (pss_one (ps_ret (pe_callTy (T := "tuple") (k_tuple (K := K) rfl) (by rfl) (fr_tuple e) (by decide +kernel) (pa_cons (uv 4) pa_nil)))))), ?_⟩
    refine ⟨by decide +kernel, fun o H1 nw1 => ?_⟩
    have g1 := nw1.gr hg
    refine ⟨_, p, o, b, _, rfl, g1.gh, SqL.of upd_same, hp.gr g1, by omega, (by show 0 < 4; decide), (by show 4 < 2000; decide), fun v G2 H2 hv g2 pn2 => ?_⟩
    have gs2 : GrM p G H G2 H2 := (g1.m p).trans g2
    have hsh : ∃ sh : Int, v = .int sh ∧ 0 < sh ∧ sh < 1000 := by
      simp only [List.mem_cons, List.not_mem_nil, or_false] at hv
      rcases hv with rfl | rfl | rfl | rfl
      · exact ⟨2, rfl, by decide, by decide⟩
      · exact ⟨4, rfl, by decide, by decide⟩
      · exact ⟨9, rfl, by decide, by decide⟩
      · exact ⟨60, rfl, by decide, by decide⟩
    obtain ⟨sh, rfl, sh0, sh1⟩ := hsh
    refine ⟨by decide +kernel, fun l H3 nw3 => ?_⟩
    have gs3 : GrM p G H G2 H3 := gs2.trans ((nw3.gr0 gs2.gh).m p)
    have pn3 : Pen K ("used" : PySem.Str) ("rest" : PySem.Str) G2 H3 p (b + 1) := pn2.gr (nw3.gr0 gs2.gh)
    have hl : H l = none := gs2.new nw3.fresh
    have pl : p ≠ l := pn2.off nw3.fresh
    refine ⟨⟨by omega, by omega⟩, ?_⟩
    rw [show ((L : Int)).toNat = L from Int.toNat_natCast L]
    refine ⟨fun i σ H' => ∃ (G1 : Hp) (rows : List (List (Option Int))) (vs : List V) (y5 y6 y7 y8 : Option V), GrM p G H G1 H' ∧ Pen K ("used" : PySem.Str) ("rest" : PySem.Str) G1 H' p (b + 1 + 20 * i) ∧ σ = [some (.ref p), some (.int L), some (.int top), some (.int sh), some (.ref l), y5, y6, y7, y8] ∧ G1 l = none ∧ H' l = some (.lst vs) ∧ DpAll K G1 vs (rows.map rowD) ∧ rows.length = i ∧ (∀ r ∈ rows, r.length = L ∧ goodR top r), ?_, ?_, ?_, ?_⟩
    · exact ⟨G2, [], [], none, none, none, none, gs3, pn3, rfl, nw3.gnone gs2.gh, nw3.at, .nil, rfl, fun r hr => by cases hr⟩
    · intro _ _ _ _ _
      trivial
    · rintro i x σ H4 H' hi ⟨G4, rows, vs, y5, y6, y7, y8, g4, pn4, rfl, u1, u2, u3, u4, u5⟩ ⟨rfl, rfl⟩
      refine ⟨by decide +kernel, fun l2 H5 nw5 => ?_⟩
      have g5 : GrM p G H G4 H5 := g4.trans ((nw5.gr0 g4.gh).m p)
      have pn5 : Pen K ("used" : PySem.Str) ("rest" : PySem.Str) G4 H5 p (b + 1 + 20 * i) := pn4.gr (nw5.gr0 g4.gh)
      have hl2 : H l2 = none := g4.new nw5.fresh
      have pl2 : p ≠ l2 := pn4.off nw5.fresh
      have ll2 : l ≠ l2 := ne_of_none u2 nw5.fresh
      refine ⟨⟨by omega, by omega⟩, ?_⟩
      rw [show ((L : Int)).toNat = L from Int.toNat_natCast L]
      refine ⟨fun j σ H' => ∃ (G1 : Hp) (r : List (Option Int)) (y7 y8 : Option V), GrM p G H G1 H' ∧ Ex G4 G1 ∧ Pen K ("used" : PySem.Str) ("rest" : PySem.Str) G1 H' p (b + 1 + 20 * i + 4 * j) ∧ σ = [some (.ref p), some (.int L), some (.int top), some (.int sh), some (.ref l), some (.int (0 + i)), some (.ref l2), y7, y8] ∧ G1 l = none ∧ H' l = some (.lst vs) ∧ G1 l2 = none ∧ H' l2 = some (.lst (r.map pV)) ∧ r.length = j ∧ goodR top r, ?_, ?_, ?_, ?_⟩
      · exact ⟨G4, [], y7, y8, g5, fun _ _ e => e, pn5, rfl, u1, nw5.ex _ _ u2, nw5.gnone g4.gh, nw5.at, rfl, fun x hx => by cases hx⟩
      · intro _ _ _ _ _
        trivial
      · rintro j x σ H6 H' hj ⟨G6, r, z7, z8, g6, e6, pn6, rfl, w1, w2, w3, w4, w5, w6⟩ ⟨rfl, rfl⟩
        refine ⟨G6, p, _, _, rfl, g6.gh, pn6, by omega, by omega, by omega, fun a1 G7 H7 g7 pn7 a10 a11 => ?_⟩
        refine ⟨G7, p, _, _, rfl, g7.gh, pn7, by omega, by omega, by omega, fun a2 G8 H8 g8 pn8 a20 a21 => ?_⟩
        refine ⟨szr (n := 3) (by decide +kernel), fun o H9 nw9 => ?_⟩
        have g9 := nw9.gr g8.gh
        refine ⟨_, p, o, _, _, rfl, g9.gh, SqL.of upd_same, pn8.gr g9, by omega, (by show 0 < 3; decide), (by show 3 < 2000; decide), fun v G10 H10 hv g10 pn10 => ?_⟩
        have ham : ∃ am : Int, v = .int am ∧ 0 ≤ am ∧ am ≤ top := by
          simp only [List.mem_cons, List.not_mem_nil, or_false] at hv
          rcases hv with rfl | rfl | rfl
          · exact ⟨0, rfl, by decide, t0⟩
          · exact ⟨a1, rfl, a10, by omega⟩
          · exact ⟨a2, rfl, a20, by omega⟩
        obtain ⟨am, rfl, am0, am1⟩ := ham
        have s10 : GrM p G6 H' G10 H10 := (g7.trans g8).trans ((g9.m p).trans g10)
        refine ⟨⟨_, SqL.of (s10.hh _ _ pl2.symm w4)⟩, ?_⟩
        refine ⟨G10, p, _, _, rfl, s10.gh, pn10, by omega, sh0, by omega, fun a3 G11 H11 g11 pn11 a30 a31 => ?_⟩
        have s11 : GrM p G6 H' G11 H11 := s10.trans g11
        have v2 : H11 l2 = some (.lst (r.map pV)) := s11.hh _ _ pl2.symm w4
        have v3 : G11 l2 = none := s11.free (some_ne w4) w3
        have v1 : H11 l = some (.lst vs) := s11.hh _ _ pl.symm w2
        have v0 : G11 l = none := s11.free (some_ne w2) w1
        have fin : ∀ x : Option Int, (∀ i, x = some i → 0 ≤ i ∧ i ≤ top) → ∃ xs, H11 l2 = some (.lst xs) ∧ mApp l2 xs [pV x] H11 fun zs => ∀ H3, Chg H11 l2 (.lst zs) H3 → ∃ (G1 : Hp) (r' : List (Option Int)) (y7 y8 : Option V), GrM p G H G1 H3 ∧ Ex G4 G1 ∧ Pen K ("used" : PySem.Str) ("rest" : PySem.Str) G1 H3 p (b + 1 + 20 * i + 4 * (j + 1)) ∧ ([some (.ref p), some (.int L), some (.int top), some (.int sh), some (.ref l), some (.int (0 + i)), some (.ref l2), some (.int (0 + j)), some (.int am)] : L2.St) = [some (.ref p), some (.int L), some (.int top), some (.int sh), some (.ref l), some (.int (0 + i)), some (.ref l2), y7, y8] ∧ G1 l = none ∧ H3 l = some (.lst vs) ∧ G1 l2 = none ∧ H3 l2 = some (.lst (r'.map pV)) ∧ r'.length = j + 1 ∧ goodR top r' := by
          intro x hx
          refine ⟨_, v2, ?_, fun H3 ch => ?_⟩
          · rw [List.length_map, w5]
            exact Nat.lt_of_lt_of_le (by omega : j < 6) (szr (by decide +kernel))
          · rw [ch.eq]
            refine ⟨G11, r ++ [x], _, _, (g6.trans s11).loc hl2 v3, fun a o e => s11.gg a o (e6 a o e), (pn11.up (by omega)).loc pl2, rfl, v0, by rw [upd_ne ll2]; exact v1, v3, by rw [upd_same]; simp, by simp [w5], goodR_snoc w6 hx⟩
        refine bite_d (fun hc => ?_) (fun hc => ?_)
        · exact fin none (fun i e => by cases e)
        · exact fin (some am) (fun i e => by cases e; exact ⟨am0, am1⟩)
      · rintro σ H6 ⟨G6, r, z7, z8, g6, e6, pn6, rfl, w1, w2, w3, w4, w5, w6⟩
        refine ⟨⟨_, SqL.of w2⟩, ?_⟩
        refine ⟨_, Or.inl ⟨SqL.of w4, fun t H7 nw7 => ?_⟩⟩
        have g7 := nw7.gr g6.gh
        have v1 : H7 l = some (.lst vs) := nw7.ex _ _ w2
        have v0 : upd G6 t (.tup (r.map pV)) l = none := g7.free (some_ne w2) w1
        refine ⟨_, v1, ?_, fun H8 ch => ?_⟩
        · rw [dpAll_len u3, List.length_map, u4]
          exact Nat.lt_of_lt_of_le (by omega : i < 6) (szr (by decide +kernel))
        · rw [ch.eq]
          refine ⟨_, rows ++ [r], _, _, _, _, _, (g6.trans (g7.m p)).loc hl v0, ((pn6.gr g7).up (by omega)).loc pl, rfl, v0, upd_same, ?_, by simp [u4], ?_⟩
          · rw [List.map_append]
            refine dpAll_snoc (dpAll_up (fun a o e => g7.gg a o (e6 a o e)) u3) ?_
            exact .tup (SqT.of upd_same) (dpAll_pV r)
          · intro r' hr'
            rcases List.mem_append.mp hr' with hr' | hr'
            · exact u5 r' hr'
            · rw [List.mem_singleton.mp hr']
              exact ⟨w5, w6⟩
    · rintro σ H4 ⟨G4, rows, vs, y5, y6, y7, y8, g4, pn4, rfl, u1, u2, u3, u4, u5⟩
      refine ⟨_, Or.inl ⟨SqL.of u2, fun t H7 nw7 => ?_⟩⟩
      have g7 := nw7.gr g4.gh
      refine q _ rows _ H7 (.tup (SqT.of upd_same) (dpAll_up g7.gg u3)) u4 ?_ (fun r hr => (u5 r hr).2) (g4.trans (g7.m p)) ((pn4.gr g7).up (by omega))
      intro r hr
      rw [u4]
      exact (u5 r hr).1
end
end k80

namespace k80
open PySem PySem.Spec PyProof.Rows L2 Ech
open He (ga ma)
open He5 (wf)
/-! ### Table.rows -/
theorem sc_Table_rows : FnScope ["self"] ["self"] (defScope s_Table_rows) := ⟨rfl, rfl, rfl, by decide +kernel, rfl, by decide +kernel, by decide +kernel⟩
section
variable {P : Program} {w : World} {K : PySem.W.Frag} {mg : PySem.Str → Option Value} {base : Heap}
theorem F_Table_rows (e : Ev K mg) : FunD K "rows" "Table.rows" (defArgs s_Table_rows) (defBody s_Table_rows) (defScope s_Table_rows) [] [] (wf K (ga K "Table") "property" "rows") (fdA K (wf K (ga K "Table") "property" "rows")) := e.fun_ 20 (d := d_Table_rows)
theorem b_Table_rows (e : Ev K mg) : Binds K (fdA K (wf K (ga K "Table") "property" "rows")) ["self"] [] := (F_Table_rows e).bindsN fun _ _ _ _ _ _ us hl => match us, hl with | [_], _ => rfl
def sp_Table_rows (K : PySem.W.Frag) : Sp := fun vs H Q _ => ∃ (G : Hp) (a : Addr) (rows : List (List (Option Int))), vs = [.ref a] ∧ Ex G H ∧ TabAt K G a rows ∧ ∀ v, Dp K G v (tabD rows) → Q v H
theorem ok_Table_rows (e : Ev K mg) : FnOk P w K mg base CX0 1 (wf K (ga K "Table") "property" "rows") (fdA K (wf K (ga K "Table") "property" "rows")) ["self"] (sp_Table_rows K) := by
  refine (F_Table_rows e).ok sc_Table_rows (fun vs H Q E h => ?_) (fun cdv A outer s H vs Q E hr h => ?_)
  · obtain ⟨G, a, rows, rfl, _⟩ := h
    rfl
  · obtain ⟨G, a, rows, rfl, hg, ⟨dx, ent, h1, h2⟩, q⟩ := h
    refine ⟨_, PSs.nox (pss_one (ps_ret (u_fld (cl_Table e) (na_Table_entries e) (uv 0)))), ?_⟩
    exact ⟨dx, _, ent, hg _ _ h1, look_entries ent, q ent h2⟩
end
end k80

namespace k80
open PySem PySem.Spec PyProof.Rows L2 Ech
open He (ga ma)
open He5 (wf)
/-! ### _law_odd -/
theorem sc__law_odd : FnScope ["_law_pen_here", "_law_near", "_law_some"] ["_law_pen_here", "_law_near"] (defScope s__law_odd) := ⟨rfl, rfl, rfl, by decide +kernel, rfl, by decide +kernel, by decide +kernel⟩
section
variable {P : Program} {w : World} {K : PySem.W.Frag} {mg : PySem.Str → Option Value} {base : Heap}
theorem F__law_odd (e : Ev K mg) : FunD K "_law_odd" "_law_odd" (defArgs s__law_odd) (defBody s__law_odd) (defScope s__law_odd) [] [] (ga K "_law_odd") (fdA K (ga K "_law_odd")) := e.fun_ 38 (d := d__law_odd)
theorem kp__law_odd (e : Ev K mg) : PySem.W.keepIn K (.ref (ga K "_law_odd")) = true := (F__law_odd e).kp
theorem b__law_odd (e : Ev K mg) : Binds K (fdA K (ga K "_law_odd")) ["_law_pen_here", "_law_near"] [] := (F__law_odd e).bindsN fun _ _ _ _ _ _ us hl => match us, hl with | [_, _], _ => rfl
theorem bn__law_odd_2 (e : Ev K mg) : Bnd K (ga K "_law_odd") ["_law_pen_here", "_law_near"] [] := ⟨[], .nil, b__law_odd e⟩
def sp__law_odd (K : PySem.W.Frag) : Sp := fun vs H Q _ => ∃ (G : Hp) (p : Addr) (b : Nat) (vn : V) (dn : PyData), vs = [.ref p, vn] ∧ Ex G H ∧ Pen K ("used" : PySem.Str) ("rest" : PySem.Str) G H p b ∧ b < 2 ^ 60 ∧ AnyQ K G true 6 4000 vn dn ∧
  ∀ v d G' H', AnyQ K G' true 6 4000 v d → GrM p G H G' H' → Pen K ("used" : PySem.Str) ("rest" : PySem.Str) G' H' p (b + 1) → Q v H'
theorem frz_at {G H H' : Hp} {a : Addr} {o : HO} (f : H a = none) (e : H' a = some o) : frzAll G H H' a = some o := by
  unfold frzAll
  rw [f]
  exact e
theorem disp_ex {K K1 K2 : Hp} {a : Addr} {o o' : HO} (f : K a = none) (e : K1 = upd K a o) (x : Ex K1 K2) : Ex K (upd K2 a o') := fun b u eb => by
  have ne : b ≠ a := ne_of_none eb f
  rw [upd_ne ne]
  exact x _ _ (by rw [e, upd_ne ne]; exact eb)
theorem ok__law_odd (e : Ev K mg) : FnG P w K mg base CX0 3 (ga K "_law_odd") (fdA K (ga K "_law_odd")) ["_law_pen_here", "_law_near"] (sp__law_odd K) := by
  refine FnG.body (F__law_odd e) sc__law_odd (fun vs H Q E h => ?_) (fun cdv A outer s H vs Q E hr hq h => ?_)
  · obtain ⟨G, p, b, vn, dn, rfl, _⟩ := h
    rfl
  · obtain ⟨G, p, b, vn, dn, rfl, hg, pn, hb, hn, q⟩ := h
    refine ⟨_, PSs.nox (pss_cons (ps_set (i := 2) sc__law_odd.nd (by rfl) (Or.inl rfl) (u_lst (pa_cons pe_non (pa_cons pe_bl (pa_cons pe_bl (pa_cons pe_int (pa_cons pe_int (pa_cons (pe_un o_neg pe_int) (pa_cons pe_int (pa_cons pe_int (pa_cons pe_int (pa_cons pe_int (pa_cons pe_int (pa_cons (pe_op o_pow pe_int pe_int) (pa_cons (pe_op o_pow pe_int pe_int) (pa_cons pe_str (pa_cons pe_str (pa_cons pe_str (pa_cons (u_tup pa_nil) (pa_cons (u_lstQ pa_nil) (pa_cons pe_dnewK (pa_cons (u_tup (pa_cons pe_int pa_nil)) pa_nil))))))))))))))))))))))
            (pss_cons (ps_set (i := 2) sc__law_odd.nd (by rfl) (Or.inl rfl) (pe_op (k_add (K := K) rfl) (uv 2) (u_lst (pa_cons (u_lstQ (pa_cons pe_int pa_nil)) (pa_cons (pe_disp (pps_cons pe_int pe_int pps_nil) (by rfl) (by rfl) (fun z => by cases z) (by decide)) (pa_cons (pe_dispB (pps_cons pe_bl pe_int pps_nil) (by rfl) (by rfl) (fun z => by cases z) (by decide)) (pa_cons (pe_disp (pps_cons pe_int pe_bl pps_nil) (by rfl) (by rfl) (fun z => by cases z) (by decide)) (pa_cons (pe_disp (pps_cons pe_int pe_non pps_nil) (by rfl) (by rfl) (fun z => by cases z) (by decide)) (pa_cons (pe_disp (pps_cons pe_int (u_tup (pa_cons pe_int pa_nil)) pps_nil) (by rfl) (by rfl) (fun z => by cases z) (by decide)) (pa_cons (pe_disp (pps_cons pe_int (u_lstQ (pa_cons pe_int (pa_cons pe_int pa_nil))) pps_nil) (by rfl) (by rfl) (fun z => by cases z) (by decide)) (pa_cons (pe_disp (pps_cons pe_int (u_tup (pa_cons pe_int (pa_cons pe_int pa_nil))) pps_nil) (by rfl) (by rfl) (fun z => by cases z) (by decide)) (pa_cons (pe_disp (pps_cons (pe_un o_neg pe_int) pe_int pps_nil) (by rfl) (by rfl) (fun z => by cases z) (by decide)) pa_nil))))))))))))
            (pss_cons (ps_set (i := 2) sc__law_odd.nd (by rfl) (Or.inl rfl) (pe_op (k_add (K := K) rfl) (uv 2) (u_lst (pa_cons (pe_disp (pps_cons pe_str pe_int pps_nil) (by rfl) (by rfl) (fun z => by cases z) (by decide)) (pa_cons (pe_disp (pps_cons pe_int pe_int pps_nil) (by rfl) (by rfl) (fun z => by cases z) (by decide)) (pa_cons (u_tup (pa_cons pe_int (pa_cons pe_int pa_nil))) (pa_cons (u_tup (pa_cons pe_bl (pa_cons pe_int pa_nil))) (pa_cons (u_tup (pa_cons pe_int (pa_cons pe_non pa_nil))) (pa_cons (u_lstQ (pa_cons pe_int (pa_cons pe_int pa_nil))) (pa_cons (u_tup (pa_cons (u_tup (pa_cons pe_int pa_nil)) pa_nil)) (pa_cons (pe_dispT (hu_of hr) (pps_cons (u_tup (pa_cons pe_int (pa_cons pe_int pa_nil))) pe_int pps_nil) (by rfl) (by rfl) (fun z => by cases z) (by decide)) pa_nil)))))))))))
            (pss_one (ps_ret (u_callQ (ok__law_pick e) (hr.mono (by decide)) hq (by rfl) (gl__law_pick e) (kp__law_pick e) (bn__law_pick_2 e) pass0 (pa_cons (uv 0) (pa_cons (pe_op (k_add (K := K) rfl) (uv 2) (u_lst (pa_cons (pe_disp (pps_cons pe_int (u_tup (pa_cons pe_bl (pa_cons pe_int pa_nil))) pps_nil) (by rfl) (by rfl) (fun z => by cases z) (by decide)) (pa_cons (pe_disp (pps_cons pe_int (u_tup (pa_cons (pe_un o_neg pe_int) (pa_cons pe_int pa_nil))) pps_nil) (by rfl) (by rfl) (fun z => by cases z) (by decide)) (pa_cons (uv 1) (pa_cons (uv 1) (pa_cons (uv 1) pa_nil))))))) pa_nil)))))))), ?_⟩
    refine ⟨⟨by decide, by decide, by decide⟩, ?_⟩
    refine ⟨⟨by decide, by decide, by decide⟩, ?_⟩
    refine ⟨szr (n := 0) (by decide +kernel), fun a1 K1 n1 => ?_⟩
    refine ⟨szr (n := 0) (by decide +kernel), fun a2 K2 n2 z2 => ?_⟩
    refine fun a3 f3 => ?_
    obtain ⟨K3, e3⟩ : ∃ K, K = upd K2 a3 (.dK []) := ⟨_, rfl⟩
    rw [← e3]
    have n3 : New K2 a3 (.dK []) K3 := ⟨f3, e3⟩
    clear e3
    refine ⟨szr (n := 1) (by decide +kernel), fun a4 K4 n4 => ?_⟩
    refine ⟨szr (n := 20) (by decide +kernel), fun a5 K5 n5 => ?_⟩
    refine ⟨szr (n := 1) (by decide +kernel), fun a6 K6 n6 z6 => ?_⟩
    refine fun a7 f7 => ?_
    obtain ⟨K7, e7⟩ : ∃ K, K = upd K6 a7 (.dK []) := ⟨_, rfl⟩
    rw [← e7]
    have n7 : New K6 a7 (.dK []) K7 := ⟨f7, e7⟩
    refine ⟨n7.at, [(.inl 0, .int 0)], rfl, (show 1 ≤ 15 by decide), ?_⟩
    obtain ⟨K8, e8⟩ : ∃ K, K = upd K7 a7 (.dK (mergeK [] [(.inl 0, .int 0)])) := ⟨_, rfl⟩
    rw [← e8]
    have c8 : K8 a7 = some (.dK [(.inl 0, .int 0)]) := by rw [e8]; exact upd_same
    have x8 : Ex K6 K8 := by rw [e8]; exact disp_ex f7 e7 (ex_refl _)
    clear e7 e8
    refine fun a9 f9 => ?_
    obtain ⟨K9, e9⟩ : ∃ K, K = upd K8 a9 (.dK []) := ⟨_, rfl⟩
    rw [← e9]
    have n9 : New K8 a9 (.dK []) K9 := ⟨f9, e9⟩
    refine ⟨n9.at, true, .int 0, rfl, ?_⟩
    obtain ⟨K10, e10⟩ : ∃ K, K = upd K9 a9 (BdD a9 [(true, .int 0)]) := ⟨_, rfl⟩
    rw [← e10]
    have c10 : K10 a9 = some (BdD a9 [(true, .int 0)]) := by rw [e10]; exact upd_same
    have x10 : Ex K8 K10 := by rw [e10]; exact disp_ex f9 e9 (ex_refl _)
    clear e9 e10
    refine fun a11 f11 => ?_
    obtain ⟨K11, e11⟩ : ∃ K, K = upd K10 a11 (.dK []) := ⟨_, rfl⟩
    rw [← e11]
    have n11 : New K10 a11 (.dK []) K11 := ⟨f11, e11⟩
    refine ⟨n11.at, [(.inl 0, .bl true)], rfl, (show 1 ≤ 15 by decide), ?_⟩
    obtain ⟨K12, e12⟩ : ∃ K, K = upd K11 a11 (.dK (mergeK [] [(.inl 0, .bl true)])) := ⟨_, rfl⟩
    rw [← e12]
    have c12 : K12 a11 = some (.dK [(.inl 0, .bl true)]) := by rw [e12]; exact upd_same
    have x12 : Ex K10 K12 := by rw [e12]; exact disp_ex f11 e11 (ex_refl _)
    clear e11 e12
    refine fun a13 f13 => ?_
    obtain ⟨K13, e13⟩ : ∃ K, K = upd K12 a13 (.dK []) := ⟨_, rfl⟩
    rw [← e13]
    have n13 : New K12 a13 (.dK []) K13 := ⟨f13, e13⟩
    refine ⟨n13.at, [(.inl 0, .non)], rfl, (show 1 ≤ 15 by decide), ?_⟩
    obtain ⟨K14, e14⟩ : ∃ K, K = upd K13 a13 (.dK (mergeK [] [(.inl 0, .non)])) := ⟨_, rfl⟩
    rw [← e14]
    have c14 : K14 a13 = some (.dK [(.inl 0, .non)]) := by rw [e14]; exact upd_same
    have x14 : Ex K12 K14 := by rw [e14]; exact disp_ex f13 e13 (ex_refl _)
    clear e13 e14
    refine fun a15 f15 => ?_
    obtain ⟨K15, e15⟩ : ∃ K, K = upd K14 a15 (.dK []) := ⟨_, rfl⟩
    rw [← e15]
    have n15 : New K14 a15 (.dK []) K15 := ⟨f15, e15⟩
    refine ⟨szr (n := 1) (by decide +kernel), fun a16 K16 n16 => ?_⟩
    refine ⟨(n16.ex) _ _ n15.at, [(.inl 0, .ref a16)], rfl, (show 1 ≤ 15 by decide), ?_⟩
    obtain ⟨K17, e17⟩ : ∃ K, K = upd K16 a15 (.dK (mergeK [] [(.inl 0, .ref a16)])) := ⟨_, rfl⟩
    rw [← e17]
    have c17 : K17 a15 = some (.dK [(.inl 0, .ref a16)]) := by rw [e17]; exact upd_same
    have x17 : Ex K14 K17 := by rw [e17]; exact disp_ex f15 e15 (n16.ex)
    have c16 : K17 a16 = some (.tup [.int 0]) := by rw [e17, upd_ne (ne_of_none n15.at n16.fresh).symm]; exact n16.at
    clear e15 e17
    refine fun a18 f18 => ?_
    obtain ⟨K18, e18⟩ : ∃ K, K = upd K17 a18 (.dK []) := ⟨_, rfl⟩
    rw [← e18]
    have n18 : New K17 a18 (.dK []) K18 := ⟨f18, e18⟩
    refine ⟨szr (n := 2) (by decide +kernel), fun a19 K19 n19 z19 => ?_⟩
    refine ⟨(n19.ex) _ _ n18.at, [(.inl 0, .ref a19)], rfl, (show 1 ≤ 15 by decide), ?_⟩
    obtain ⟨K20, e20⟩ : ∃ K, K = upd K19 a18 (.dK (mergeK [] [(.inl 0, .ref a19)])) := ⟨_, rfl⟩
    rw [← e20]
    have c20 : K20 a18 = some (.dK [(.inl 0, .ref a19)]) := by rw [e20]; exact upd_same
    have x20 : Ex K17 K20 := by rw [e20]; exact disp_ex f18 e18 (n19.ex)
    have c19 : K20 a19 = some (.lst [.int 0, .int 0]) := by rw [e20, upd_ne (ne_of_none n18.at n19.fresh).symm]; exact n19.at
    clear e18 e20
    refine fun a21 f21 => ?_
    obtain ⟨K21, e21⟩ : ∃ K, K = upd K20 a21 (.dK []) := ⟨_, rfl⟩
    rw [← e21]
    have n21 : New K20 a21 (.dK []) K21 := ⟨f21, e21⟩
    refine ⟨szr (n := 2) (by decide +kernel), fun a22 K22 n22 => ?_⟩
    refine ⟨(n22.ex) _ _ n21.at, [(.inl 0, .ref a22)], rfl, (show 1 ≤ 15 by decide), ?_⟩
    obtain ⟨K23, e23⟩ : ∃ K, K = upd K22 a21 (.dK (mergeK [] [(.inl 0, .ref a22)])) := ⟨_, rfl⟩
    rw [← e23]
    have c23 : K23 a21 = some (.dK [(.inl 0, .ref a22)]) := by rw [e23]; exact upd_same
    have x23 : Ex K20 K23 := by rw [e23]; exact disp_ex f21 e21 (n22.ex)
    have c22 : K23 a22 = some (.tup [.int 0, .int 0]) := by rw [e23, upd_ne (ne_of_none n21.at n22.fresh).symm]; exact n22.at
    clear e21 e23
    refine fun a24 f24 => ?_
    obtain ⟨K24, e24⟩ : ∃ K, K = upd K23 a24 (.dK []) := ⟨_, rfl⟩
    rw [← e24]
    have n24 : New K23 a24 (.dK []) K24 := ⟨f24, e24⟩
    refine ⟨n24.at, [(.inl (-1), .int 0)], rfl, (show 1 ≤ 15 by decide), ?_⟩
    obtain ⟨K25, e25⟩ : ∃ K, K = upd K24 a24 (.dK (mergeK [] [(.inl (-1), .int 0)])) := ⟨_, rfl⟩
    rw [← e25]
    have c25 : K25 a24 = some (.dK [(.inl (-1), .int 0)]) := by rw [e25]; exact upd_same
    have x25 : Ex K23 K25 := by rw [e25]; exact disp_ex f24 e24 (ex_refl _)
    clear e24 e25
    refine ⟨szr (n := 9) (by decide +kernel), fun a26 K26 n26 => ?_⟩
    refine Or.inl ⟨_, _, (ex_trans n6.ex (ex_trans x8 (ex_trans x10 (ex_trans x12 (ex_trans x14 (ex_trans x17 (ex_trans x20 (ex_trans x23 (ex_trans x25 n26.ex))))))))) _ _ n5.at, n26.at, szr (n := 29) (by decide +kernel), fun a27 K27 n27 => ?_⟩
    refine fun a28 f28 => ?_
    obtain ⟨K28, e28⟩ : ∃ K, K = upd K27 a28 (.dK []) := ⟨_, rfl⟩
    rw [← e28]
    have n28 : New K27 a28 (.dK []) K28 := ⟨f28, e28⟩
    refine ⟨n28.at, [(.inr "0", .int 0)], rfl, (show 1 ≤ 15 by decide), ?_⟩
    obtain ⟨K29, e29⟩ : ∃ K, K = upd K28 a28 (.dK (mergeK [] [(.inr "0", .int 0)])) := ⟨_, rfl⟩
    rw [← e29]
    have c29 : K29 a28 = some (.dK [(.inr "0", .int 0)]) := by rw [e29]; exact upd_same
    have x29 : Ex K27 K29 := by rw [e29]; exact disp_ex f28 e28 (ex_refl _)
    clear e28 e29
    refine fun a30 f30 => ?_
    obtain ⟨K30, e30⟩ : ∃ K, K = upd K29 a30 (.dK []) := ⟨_, rfl⟩
    rw [← e30]
    have n30 : New K29 a30 (.dK []) K30 := ⟨f30, e30⟩
    refine ⟨n30.at, [(.inl 40, .int 0)], rfl, (show 1 ≤ 15 by decide), ?_⟩
    obtain ⟨K31, e31⟩ : ∃ K, K = upd K30 a30 (.dK (mergeK [] [(.inl 40, .int 0)])) := ⟨_, rfl⟩
    rw [← e31]
    have c31 : K31 a30 = some (.dK [(.inl 40, .int 0)]) := by rw [e31]; exact upd_same
    have x31 : Ex K29 K31 := by rw [e31]; exact disp_ex f30 e30 (ex_refl _)
    clear e30 e31
    refine ⟨szr (n := 2) (by decide +kernel), fun a32 K32 n32 => ?_⟩
    refine ⟨szr (n := 2) (by decide +kernel), fun a33 K33 n33 => ?_⟩
    refine ⟨szr (n := 2) (by decide +kernel), fun a34 K34 n34 => ?_⟩
    refine ⟨szr (n := 2) (by decide +kernel), fun a35 K35 n35 z35 => ?_⟩
    refine ⟨szr (n := 1) (by decide +kernel), fun a36 K36 n36 => ?_⟩
    refine ⟨szr (n := 1) (by decide +kernel), fun a37 K37 n37 => ?_⟩
    refine fun a38 f38 => ?_
    obtain ⟨K38, e38⟩ : ∃ K, K = upd K37 a38 (.dT []) := ⟨_, rfl⟩
    rw [← e38]
    have n38 : New K37 a38 (.dT []) K38 := ⟨f38, e38⟩
    refine ⟨szr (n := 2) (by decide +kernel), fun a39 K39 n39 => ?_⟩
    refine ⟨(n39.ex) _ _ n38.at, a39, [.inl 0, .inl 0], .int 0, rfl, n39.at, ?_⟩
    obtain ⟨K40, e40⟩ : ∃ K, K = upd K39 a38 (.dT [([.inl 0, .inl 0], .int 0)]) := ⟨_, rfl⟩
    rw [← e40]
    have c40 : K40 a38 = some (.dT [([.inl 0, .inl 0], .int 0)]) := by rw [e40]; exact upd_same
    have x40 : Ex K37 K40 := by rw [e40]; exact disp_ex f38 e38 (n39.ex)
    have c39 : K40 a39 = some (.tup [.int 0, .int 0]) := by rw [e40, upd_ne (ne_of_none n38.at n39.fresh).symm]; exact n39.at
    clear e38 e40
    refine ⟨szr (n := 8) (by decide +kernel), fun a41 K41 n41 => ?_⟩
    refine Or.inl ⟨_, _, (ex_trans x29 (ex_trans x31 (ex_trans n32.ex (ex_trans n33.ex (ex_trans n34.ex (ex_trans n35.ex (ex_trans n36.ex (ex_trans n37.ex (ex_trans x40 n41.ex))))))))) _ _ n27.at, n41.at, szr (n := 37) (by decide +kernel), fun a42 K42 n42 => ?_⟩
    refine fun a43 f43 => ?_
    obtain ⟨K43, e43⟩ : ∃ K, K = upd K42 a43 (.dK []) := ⟨_, rfl⟩
    rw [← e43]
    have n43 : New K42 a43 (.dK []) K43 := ⟨f43, e43⟩
    refine ⟨szr (n := 2) (by decide +kernel), fun a44 K44 n44 => ?_⟩
    refine ⟨(n44.ex) _ _ n43.at, [(.inl 0, .ref a44)], rfl, (show 1 ≤ 15 by decide), ?_⟩
    obtain ⟨K45, e45⟩ : ∃ K, K = upd K44 a43 (.dK (mergeK [] [(.inl 0, .ref a44)])) := ⟨_, rfl⟩
    rw [← e45]
    have c45 : K45 a43 = some (.dK [(.inl 0, .ref a44)]) := by rw [e45]; exact upd_same
    have x45 : Ex K42 K45 := by rw [e45]; exact disp_ex f43 e43 (n44.ex)
    have c44 : K45 a44 = some (.tup [.bl true, .int 1]) := by rw [e45, upd_ne (ne_of_none n43.at n44.fresh).symm]; exact n44.at
    clear e43 e45
    refine fun a46 f46 => ?_
    obtain ⟨K46, e46⟩ : ∃ K, K = upd K45 a46 (.dK []) := ⟨_, rfl⟩
    rw [← e46]
    have n46 : New K45 a46 (.dK []) K46 := ⟨f46, e46⟩
    refine ⟨szr (n := 2) (by decide +kernel), fun a47 K47 n47 => ?_⟩
    refine ⟨(n47.ex) _ _ n46.at, [(.inl 0, .ref a47)], rfl, (show 1 ≤ 15 by decide), ?_⟩
    obtain ⟨K48, e48⟩ : ∃ K, K = upd K47 a46 (.dK (mergeK [] [(.inl 0, .ref a47)])) := ⟨_, rfl⟩
    rw [← e48]
    have c48 : K48 a46 = some (.dK [(.inl 0, .ref a47)]) := by rw [e48]; exact upd_same
    have x48 : Ex K45 K48 := by rw [e48]; exact disp_ex f46 e46 (n47.ex)
    have c47 : K48 a47 = some (.tup [.int (-1), .int 0]) := by rw [e48, upd_ne (ne_of_none n46.at n47.fresh).symm]; exact n47.at
    clear e46 e48
    refine ⟨szr (n := 5) (by decide +kernel), fun a49 K49 n49 => ?_⟩
    refine Or.inl ⟨_, _, (ex_trans x45 (ex_trans x48 n49.ex)) _ _ n42.at, n49.at, szr (n := 42) (by decide +kernel), fun a50 K50 n50 => ?_⟩
    have X30 := ex_refl K50
    have X29 := ex_trans n50.ex X30
    have X28 := ex_trans n49.ex X29
    have X27 := ex_trans x48 X28
    have X26 := ex_trans x45 X27
    have X25 := ex_trans n42.ex X26
    have X24 := ex_trans n41.ex X25
    have X23 := ex_trans x40 X24
    have X22 := ex_trans n37.ex X23
    have X21 := ex_trans n36.ex X22
    have X20 := ex_trans n35.ex X21
    have X19 := ex_trans n34.ex X20
    have X18 := ex_trans n33.ex X19
    have X17 := ex_trans n32.ex X18
    have X16 := ex_trans x31 X17
    have X15 := ex_trans x29 X16
    have X14 := ex_trans n27.ex X15
    have X13 := ex_trans n26.ex X14
    have X12 := ex_trans x25 X13
    have X11 := ex_trans x23 X12
    have X10 := ex_trans x20 X11
    have X9 := ex_trans x17 X10
    have X8 := ex_trans x14 X9
    have X7 := ex_trans x12 X8
    have X6 := ex_trans x10 X7
    have X5 := ex_trans x8 X6
    have X4 := ex_trans n6.ex X5
    have X3 := ex_trans n5.ex X4
    have X2 := ex_trans n4.ex X3
    have X1 := ex_trans n3.ex X2
    have X0 := ex_trans n2.ex X1
    have Y0 := ex_refl H
    have Y1 := ex_trans Y0 n1.ex
    have Y2 := ex_trans Y1 n2.ex
    have Y3 := ex_trans Y2 n3.ex
    have Y4 := ex_trans Y3 n4.ex
    have Y5 := ex_trans Y4 n5.ex
    have Y6 := ex_trans Y5 n6.ex
    have Y7 := ex_trans Y6 x8
    have Y8 := ex_trans Y7 x10
    have Y9 := ex_trans Y8 x12
    have Y10 := ex_trans Y9 x14
    have Y11 := ex_trans Y10 x17
    have Y12 := ex_trans Y11 x20
    have Y13 := ex_trans Y12 x23
    have Y14 := ex_trans Y13 x25
    have Y15 := ex_trans Y14 n26.ex
    have Y16 := ex_trans Y15 n27.ex
    have Y17 := ex_trans Y16 x29
    have Y18 := ex_trans Y17 x31
    have Y19 := ex_trans Y18 n32.ex
    have Y20 := ex_trans Y19 n33.ex
    have Y21 := ex_trans Y20 n34.ex
    have Y22 := ex_trans Y21 n35.ex
    have Y23 := ex_trans Y22 n36.ex
    have Y24 := ex_trans Y23 n37.ex
    have Y25 := ex_trans Y24 x40
    have Y26 := ex_trans Y25 n41.ex
    have Y27 := ex_trans Y26 n42.ex
    have Y28 := ex_trans Y27 x45
    have Y29 := ex_trans Y28 x48
    have Y30 := ex_trans Y29 n49.ex
    have Y31 := ex_trans Y30 n50.ex
    have gg := Gr_all hg Y31
    have q1 := frz_at (G := G) (ex_none Y0 n1.fresh) (X0 _ _ n1.at)
    have q2 := frz_at (G := G) (ex_none Y1 n2.fresh) (X1 _ _ n2.at)
    have q3 := frz_at (G := G) (ex_none Y2 n3.fresh) (X2 _ _ n3.at)
    have q4 := frz_at (G := G) (ex_none Y3 n4.fresh) (X3 _ _ n4.at)
    have q6 := frz_at (G := G) (ex_none Y5 n6.fresh) (X5 _ _ n6.at)
    have q7 := frz_at (G := G) (ex_none Y6 f7) (X6 _ _ c8)
    have q9 := frz_at (G := G) (ex_none Y7 f9) (X7 _ _ c10)
    have q11 := frz_at (G := G) (ex_none Y8 f11) (X8 _ _ c12)
    have q13 := frz_at (G := G) (ex_none Y9 f13) (X9 _ _ c14)
    have q15 := frz_at (G := G) (ex_none Y10 f15) (X10 _ _ c17)
    have q16 := frz_at (G := G) (ex_none Y10 (ex_none n15.ex n16.fresh)) (X10 _ _ c16)
    have q18 := frz_at (G := G) (ex_none Y11 f18) (X11 _ _ c20)
    have q19 := frz_at (G := G) (ex_none Y11 (ex_none n18.ex n19.fresh)) (X11 _ _ c19)
    have q21 := frz_at (G := G) (ex_none Y12 f21) (X12 _ _ c23)
    have q22 := frz_at (G := G) (ex_none Y12 (ex_none n21.ex n22.fresh)) (X12 _ _ c22)
    have q24 := frz_at (G := G) (ex_none Y13 f24) (X13 _ _ c25)
    have q28 := frz_at (G := G) (ex_none Y16 f28) (X16 _ _ c29)
    have q30 := frz_at (G := G) (ex_none Y17 f30) (X17 _ _ c31)
    have q32 := frz_at (G := G) (ex_none Y18 n32.fresh) (X18 _ _ n32.at)
    have q33 := frz_at (G := G) (ex_none Y19 n33.fresh) (X19 _ _ n33.at)
    have q34 := frz_at (G := G) (ex_none Y20 n34.fresh) (X20 _ _ n34.at)
    have q35 := frz_at (G := G) (ex_none Y21 n35.fresh) (X21 _ _ n35.at)
    have q36 := frz_at (G := G) (ex_none Y22 n36.fresh) (X22 _ _ n36.at)
    have q37 := frz_at (G := G) (ex_none Y23 n37.fresh) (X23 _ _ n37.at)
    have q38 := frz_at (G := G) (ex_none Y24 f38) (X24 _ _ c40)
    have q39 := frz_at (G := G) (ex_none Y24 (ex_none n38.ex n39.fresh)) (X24 _ _ c39)
    have q43 := frz_at (G := G) (ex_none Y27 f43) (X27 _ _ c45)
    have q44 := frz_at (G := G) (ex_none Y27 (ex_none n43.ex n44.fresh)) (X27 _ _ c44)
    have q46 := frz_at (G := G) (ex_none Y28 f46) (X28 _ _ c48)
    have q47 := frz_at (G := G) (ex_none Y28 (ex_none n46.ex n47.fresh)) (X28 _ _ c47)
    have ql := frz_at (G := G) (ex_none Y30 n50.fresh) (X30 _ _ n50.at)
    have pl := pn.gr gg
    have hn := hn.up gg.gg
    have all : ∀ v, (v = V.non ∨ v = V.bl true ∨ v = V.bl false ∨ v = V.int 0 ∨ v = V.int 1 ∨ v = V.int (-1) ∨ v = V.int 39 ∨ v = V.int 40 ∨ v = V.int 41 ∨ v = V.int 60 ∨ v = V.int 61 ∨ v = V.int (10 ^ (30 : Int).toNat) ∨ v = V.int (10 ^ (59 : Int).toNat) ∨ v = V.str "" ∨ v = V.str "0" ∨ v = V.str "a" ∨ v = V.ref a1 ∨ v = V.ref a2 ∨ v = V.ref a3 ∨ v = V.ref a4 ∨ v = V.ref a6 ∨ v = V.ref a7 ∨ v = V.ref a9 ∨ v = V.ref a11 ∨ v = V.ref a13 ∨ v = V.ref a15 ∨ v = V.ref a18 ∨ v = V.ref a21 ∨ v = V.ref a24 ∨ v = V.ref a28 ∨ v = V.ref a30 ∨ v = V.ref a32 ∨ v = V.ref a33 ∨ v = V.ref a34 ∨ v = V.ref a35 ∨ v = V.ref a37 ∨ v = V.ref a38 ∨ v = V.ref a43 ∨ v = V.ref a46 ∨ v = vn ∨ v = vn ∨ v = vn) → ∃ d, AnyQ K (frzAll G H K50) true 6 4000 v d := by
      rintro v (rfl | rfl | rfl | rfl | rfl | rfl | rfl | rfl | rfl | rfl | rfl | rfl | rfl | rfl | rfl | rfl | rfl | rfl | rfl | rfl | rfl | rfl | rfl | rfl | rfl | rfl | rfl | rfl | rfl | rfl | rfl | rfl | rfl | rfl | rfl | rfl | rfl | rfl | rfl | rfl | rfl | rfl)
      · exact ⟨PyData.none, .non, fun _ => rfl, ⟨by decide +kernel, by decide +kernel, by decide +kernel, by decide +kernel⟩⟩
      · exact ⟨PyData.bool true, (.bl _), fun _ => rfl, ⟨by decide +kernel, by decide +kernel, by decide +kernel, by decide +kernel⟩⟩
      · exact ⟨PyData.bool false, (.bl _), fun _ => rfl, ⟨by decide +kernel, by decide +kernel, by decide +kernel, by decide +kernel⟩⟩
      · exact ⟨PyData.int 0, (.int _), fun _ => rfl, ⟨by decide +kernel, by decide +kernel, by decide +kernel, by decide +kernel⟩⟩
      · exact ⟨PyData.int 1, (.int _), fun _ => rfl, ⟨by decide +kernel, by decide +kernel, by decide +kernel, by decide +kernel⟩⟩
      · exact ⟨PyData.int (-1), (.int _), fun _ => rfl, ⟨by decide +kernel, by decide +kernel, by decide +kernel, by decide +kernel⟩⟩
      · exact ⟨PyData.int 39, (.int _), fun _ => rfl, ⟨by decide +kernel, by decide +kernel, by decide +kernel, by decide +kernel⟩⟩
      · exact ⟨PyData.int 40, (.int _), fun _ => rfl, ⟨by decide +kernel, by decide +kernel, by decide +kernel, by decide +kernel⟩⟩
      · exact ⟨PyData.int 41, (.int _), fun _ => rfl, ⟨by decide +kernel, by decide +kernel, by decide +kernel, by decide +kernel⟩⟩
      · exact ⟨PyData.int 60, (.int _), fun _ => rfl, ⟨by decide +kernel, by decide +kernel, by decide +kernel, by decide +kernel⟩⟩
      · exact ⟨PyData.int 61, (.int _), fun _ => rfl, ⟨by decide +kernel, by decide +kernel, by decide +kernel, by decide +kernel⟩⟩
      · exact ⟨PyData.int (10 ^ (30 : Int).toNat), (.int _), fun _ => rfl, ⟨by decide +kernel, by decide +kernel, by decide +kernel, by decide +kernel⟩⟩
      · exact ⟨PyData.int (10 ^ (59 : Int).toNat), (.int _), fun _ => rfl, ⟨by decide +kernel, by decide +kernel, by decide +kernel, by decide +kernel⟩⟩
      · exact ⟨PyData.str "", (.str _), fun _ => rfl, ⟨by decide +kernel, by decide +kernel, by decide +kernel, by decide +kernel⟩⟩
      · exact ⟨PyData.str "0", (.str _), fun _ => rfl, ⟨by decide +kernel, by decide +kernel, by decide +kernel, by decide +kernel⟩⟩
      · exact ⟨PyData.str "a", (.str _), fun _ => rfl, ⟨by decide +kernel, by decide +kernel, by decide +kernel, by decide +kernel⟩⟩
      · exact ⟨PyData.tuple [], (.tup (SqT.of q1) .nil), fun _ => rfl, ⟨by decide +kernel, by decide +kernel, by decide +kernel, by decide +kernel⟩⟩
      · exact ⟨PyData.list [], (.lst (SqL.of q2) (fun _ => z2) .nil), fun _ => rfl, ⟨by decide +kernel, by decide +kernel, by decide +kernel, by decide +kernel⟩⟩
      · exact ⟨PyData.dict [], (.dct (kvs := []) q3 .nil), fun _ => rfl, ⟨by decide +kernel, by decide +kernel, by decide +kernel, by decide +kernel⟩⟩
      · exact ⟨PyData.tuple [.int 0], (.tup (SqT.of q4) (.cons (.int _) .nil)), fun _ => rfl, ⟨by decide +kernel, by decide +kernel, by decide +kernel, by decide +kernel⟩⟩
      · exact ⟨PyData.list [.int 0], (.lst (SqL.of q6) (fun _ => z6) (.cons (.int _) .nil)), fun _ => rfl, ⟨by decide +kernel, by decide +kernel, by decide +kernel, by decide +kernel⟩⟩
      · exact ⟨PyData.dict [(.int 0, .int 0)], (.dct (kvs := [(.inl 0, .int 0)]) q7 (.cons (.int _) .nil)), fun _ => rfl, ⟨by decide +kernel, by decide +kernel, by decide +kernel, by decide +kernel⟩⟩
      · exact ⟨PyData.dict [(.bool true, .int 0)], (.dbo (kvs := [(true, .int 0)]) q9 (.cons (.int _) .nil)), fun _ => rfl, ⟨by decide +kernel, by decide +kernel, by decide +kernel, by decide +kernel⟩⟩
      · exact ⟨PyData.dict [(.int 0, .bool true)], (.dct (kvs := [(.inl 0, .bl true)]) q11 (.cons (.bl _) .nil)), fun _ => rfl, ⟨by decide +kernel, by decide +kernel, by decide +kernel, by decide +kernel⟩⟩
      · exact ⟨PyData.dict [(.int 0, .none)], (.dct (kvs := [(.inl 0, .non)]) q13 (.cons .non .nil)), fun _ => rfl, ⟨by decide +kernel, by decide +kernel, by decide +kernel, by decide +kernel⟩⟩
      · exact ⟨PyData.dict [(.int 0, .tuple [.int 0])], (.dct (kvs := [(.inl 0, .ref a16)]) q15 (.cons (.tup (SqT.of q16) (.cons (.int _) .nil)) .nil)), fun _ => rfl, ⟨by decide +kernel, by decide +kernel, by decide +kernel, by decide +kernel⟩⟩
      · exact ⟨PyData.dict [(.int 0, .list [.int 0, .int 0])], (.dct (kvs := [(.inl 0, .ref a19)]) q18 (.cons (.lst (SqL.of q19) (fun _ => z19) (.cons (.int _) (.cons (.int _) .nil))) .nil)), fun _ => rfl, ⟨by decide +kernel, by decide +kernel, by decide +kernel, by decide +kernel⟩⟩
      · exact ⟨PyData.dict [(.int 0, .tuple [.int 0, .int 0])], (.dct (kvs := [(.inl 0, .ref a22)]) q21 (.cons (.tup (SqT.of q22) (.cons (.int _) (.cons (.int _) .nil))) .nil)), fun _ => rfl, ⟨by decide +kernel, by decide +kernel, by decide +kernel, by decide +kernel⟩⟩
      · exact ⟨PyData.dict [(.int (-1), .int 0)], (.dct (kvs := [(.inl (-1), .int 0)]) q24 (.cons (.int _) .nil)), fun _ => rfl, ⟨by decide +kernel, by decide +kernel, by decide +kernel, by decide +kernel⟩⟩
      · exact ⟨PyData.dict [(.str "0", .int 0)], (.dct (kvs := [(.inr "0", .int 0)]) q28 (.cons (.int _) .nil)), fun _ => rfl, ⟨by decide +kernel, by decide +kernel, by decide +kernel, by decide +kernel⟩⟩
      · exact ⟨PyData.dict [(.int 40, .int 0)], (.dct (kvs := [(.inl 40, .int 0)]) q30 (.cons (.int _) .nil)), fun _ => rfl, ⟨by decide +kernel, by decide +kernel, by decide +kernel, by decide +kernel⟩⟩
      · exact ⟨PyData.tuple [.int 0, .int 0], (.tup (SqT.of q32) (.cons (.int _) (.cons (.int _) .nil))), fun _ => rfl, ⟨by decide +kernel, by decide +kernel, by decide +kernel, by decide +kernel⟩⟩
      · exact ⟨PyData.tuple [.bool true, .int 0], (.tup (SqT.of q33) (.cons (.bl _) (.cons (.int _) .nil))), fun _ => rfl, ⟨by decide +kernel, by decide +kernel, by decide +kernel, by decide +kernel⟩⟩
      · exact ⟨PyData.tuple [.int 0, .none], (.tup (SqT.of q34) (.cons (.int _) (.cons .non .nil))), fun _ => rfl, ⟨by decide +kernel, by decide +kernel, by decide +kernel, by decide +kernel⟩⟩
      · exact ⟨PyData.list [.int 0, .int 1], (.lst (SqL.of q35) (fun _ => z35) (.cons (.int _) (.cons (.int _) .nil))), fun _ => rfl, ⟨by decide +kernel, by decide +kernel, by decide +kernel, by decide +kernel⟩⟩
      · exact ⟨PyData.tuple [.tuple [.int 0]], (.tup (SqT.of q37) (.cons (.tup (SqT.of q36) (.cons (.int _) .nil)) .nil)), fun _ => rfl, ⟨by decide +kernel, by decide +kernel, by decide +kernel, by decide +kernel⟩⟩
      · exact ⟨PyData.dict [(.tuple [.int 0, .int 0], .int 0)], (.dtu (kvs := [([.inl 0, .inl 0], .int 0)]) q38 (.cons (.int _) .nil)), fun _ => rfl, ⟨by decide +kernel, by decide +kernel, by decide +kernel, by decide +kernel⟩⟩
      · exact ⟨PyData.dict [(.int 0, .tuple [.bool true, .int 1])], (.dct (kvs := [(.inl 0, .ref a44)]) q43 (.cons (.tup (SqT.of q44) (.cons (.bl _) (.cons (.int _) .nil))) .nil)), fun _ => rfl, ⟨by decide +kernel, by decide +kernel, by decide +kernel, by decide +kernel⟩⟩
      · exact ⟨PyData.dict [(.int 0, .tuple [.int (-1), .int 0])], (.dct (kvs := [(.inl 0, .ref a47)]) q46 (.cons (.tup (SqT.of q47) (.cons (.int _) (.cons (.int _) .nil))) .nil)), fun _ => rfl, ⟨by decide +kernel, by decide +kernel, by decide +kernel, by decide +kernel⟩⟩
      · exact ⟨_, hn⟩
      · exact ⟨_, hn⟩
      · exact ⟨_, hn⟩
    refine ⟨_, p, a50, b, _, rfl, gg.gh, SqL.of ql, pl, hb, (show 0 < 42 by decide), (show 42 < 2000 by decide), fun v G9 H9 hv g9 pn9 => ?_⟩
    obtain ⟨d, av⟩ := all v (by simpa only [List.cons_append, List.nil_append, List.append_assoc, List.mem_cons, List.not_mem_nil, or_false] using hv)
    exact q v d G9 H9 (av.up g9.gg) ((gg.m p).trans g9) pn9
end
end k80

namespace k80
open PySem PySem.Spec PyProof.Rows L2 Ech
open He (ga ma)
open He5 (wf)
/-! ### _law_is_some_row -/
theorem sc__law_is_some_row : FnScope ["_law_value", "_law_letters", "_law_letter"] ["_law_value", "_law_letters"] (defScope s__law_is_some_row) := ⟨rfl, rfl, rfl, by decide +kernel, rfl, by decide +kernel, by decide +kernel⟩
section
variable {P : Program} {w : World} {K : PySem.W.Frag} {mg : PySem.Str → Option Value} {base : Heap}
theorem F__law_is_some_row (e : Ev K mg) : FunD K "_law_is_some_row" "_law_is_some_row" (defArgs s__law_is_some_row) (defBody s__law_is_some_row) (defScope s__law_is_some_row) [] [] (ga K "_law_is_some_row") (fdA K (ga K "_law_is_some_row")) := e.fun_ 40 (d := d__law_is_some_row)
theorem kp__law_is_some_row (e : Ev K mg) : PySem.W.keepIn K (.ref (ga K "_law_is_some_row")) = true := (F__law_is_some_row e).kp
theorem b__law_is_some_row (e : Ev K mg) : Binds K (fdA K (ga K "_law_is_some_row")) ["_law_value", "_law_letters"] [] := (F__law_is_some_row e).bindsN fun _ _ _ _ _ _ us hl => match us, hl with | [_, _], _ => rfl
theorem bn__law_is_some_row_2 (e : Ev K mg) : Bnd K (ga K "_law_is_some_row") ["_law_value", "_law_letters"] [] := ⟨[], .nil, b__law_is_some_row e⟩
def sp__law_is_some_row (K : PySem.W.Frag) : Sp := fun vs H Q _ => ∃ (G : Hp) (v : V) (L : Int) (f : Bool) (d : PyData), vs = [v, .int L] ∧ Ex G H ∧ Dq K G f v d ∧ ∀ H', Ex H H' → Q (.bl (shortD L d)) H'
theorem ok__law_is_some_row (e : Ev K mg) : FnG P w K mg base CX0 2 (ga K "_law_is_some_row") (fdA K (ga K "_law_is_some_row")) ["_law_value", "_law_letters"] (sp__law_is_some_row K) := by
  refine FnG.body (F__law_is_some_row e) sc__law_is_some_row (fun vs H Q E h => ?_) (fun cdv A outer s H vs Q E hr hq h => ?_)
  · obtain ⟨G, v, L, f, d, rfl, _⟩ := h
    rfl
  · obtain ⟨G, v, L, f, d, rfl, hg, dv, q⟩ := h
    refine ⟨_, PSs.nox (pss_cons (u_if (PW.pt (u_orT (pt_not (k_tru (K := K) rfl (pe_callB (id := "isinstance") (k_isi (K := K) rfl) (by rfl) (fr_isinstance e) (by decide +kernel) (pa_cons (uv 0) (pa_cons (u_ty (n := "tuple") (by rfl) (fr_tuple e) (by decide +kernel)) pa_nil))))) (u_or1 (pt_not (u_chainT o_le o_le pe_int (pe_callB (id := "len") (k_len (K := K) rfl) (by rfl) (fr_len e) (by decide +kernel) (pa_cons (uv 0) pa_nil)) pe_int))))) (pss_one (ps_ret pe_bl)) pss_nil)
            (pss_one (ps_ret (u_cmp (k_eq (K := K) rfl hr.units) (u_lc (own := [("_law_letter", 2)]) (by rfl) sc__law_is_some_row.nd (k_seq (K := K) rfl (uv 0)) (blkOk_by (by kernel_rfl)) (fun _ _ _ _ _ => (pg_name (i := 2) sc__law_is_some_row.nd (by rfl) (by first | exact Or.inl rfl | exact Or.inr rfl))) (fun _ _ _ _ _ => (pts_one (pt_not (k_tru (K := K) rfl (u_callQ (ok__law_is_integer e) (hr.mono (by decide)) hq (by rfl) (gl__law_is_integer e) (kp__law_is_integer e) (bn__law_is_integer_3 e) pass0 (pa_cons (uv 2) (pa_cons pe_int (pa_cons (pe_op o_sub (uv 1) pe_int) pa_nil)))))))) (fun _ _ _ _ _ => (uv 2))) (u_lst pa_nil) (nomark _))))), ?_⟩
    have dh := dv.up hg
    cases dv with
    | tup hs ha =>
      rename_i a xs ds
      have hs' := Evl.ex_t hg hs
      have ll := dqAll_len ha
      have q' : ∀ b, shortD L (.tuple ds) = b → ∀ H', Ex H H' → Q (.bl b) H' := fun b hb => hb ▸ q
      refine isi_go (isi_tup (b := true) hs' (by decide +kernel)) ?_
      refine ⟨_, Or.inr hs', ?_⟩
      refine bite_d (fun hc => ?_) (fun hc => ?_)
      · refine bite_nd (fun hc2 => ?_) (fun hc2 => ?_)
        · exact q' false (by
            rw [shortD_tup]
            rw [decide_eq_false (show ¬ ds.length ≤ 40 by omega), Bool.and_false, Bool.false_and]) H (ex_refl _)
        · refine ⟨false, xs, hs', ?_⟩
          refine lc_pure hg (fun i G1 acc => ∃ es, DqAll K G1 f acc es ∧ es = (ds.take i).filter (fun d => !isIntD 0 (L - 1) d)) ?_ ⟨[], .nil, rfl⟩ ?_ ?_ ?_ ?_
          · exact Nat.le_trans (show xs.length ≤ 40 by omega) (szr (n := 40) (by decide +kernel))
          · rintro i _ acc ⟨es, h1, rfl⟩
            rw [dqAll_len h1]
            refine Nat.le_trans (List.length_filter_le _ _) ?_
            rw [List.length_take]
            exact Nat.min_le_left _ _
          · intro G1 H1 g
            exact Evl.ex_t (ex_trans g.gg g.gh) hs
          · rintro i x G1 H1 H' acc hi g ⟨es, h1, rfl⟩ ⟨rfl, hx⟩ R R0 r1 r2
            obtain ⟨d, ed, dx⟩ := dqAll_at ha hx
            have tk : ds.take (i + 1) = ds.take i ++ [d] := by rw [List.take_add_one, ed]; rfl
            refine ⟨rfl, ?_⟩
            refine ⟨_, _, _, f, d, rfl, dx.up (ex_trans g.gg g.gh), ?_⟩
            cases hz : isIntD 0 (L - 1) d with
            | true =>
              refine r2 G1 _ (Gr.refl g.gh) ⟨_, h1, ?_⟩
              rw [tk, List.filter_append]
              simp [hz]
            | false =>
              refine r1 _ G1 _ (Gr.refl g.gh) ⟨_, dqAll_snoc h1 (dx.up g.gg), ?_⟩
              rw [tk, List.filter_append]
              simp [hz]
          · rintro D G1 H1 acc g hD _ h3 ⟨es, h4, e4⟩
            rw [List.take_of_length_le (by omega)] at e4
            refine ⟨szr (n := 0) (by decide +kernel), fun l2 H2 n2 => ?_⟩
            have x2 : Ex H H2 := ex_trans g.hh n2.ex
            have key : shortD L (.tuple ds) = acc.isEmpty := by
              rw [shortD_tup]
              rw [decide_eq_true (show 1 ≤ ds.length by omega), decide_eq_true (show ds.length ≤ 40 by omega)]
              show ds.all (isIntD 0 (L - 1)) = _
              have : acc.isEmpty = es.isEmpty := by
                have := dqAll_len h4
                cases acc <;> cases es <;> first | rfl | simp at this
              rw [this, e4]
              clear e4 this hc hc2 ll ha q' q dh
              induction ds with
              | nil => rfl
              | cons d ds ih =>
                rw [List.all_cons, List.filter_cons]
                cases isIntD 0 (L - 1) d with
                | true => exact ih
                | false => rfl
            have sD : SqL K H2 D acc := SqL.of (n2.ex _ _ h3)
            have s2 : SqL K H2 l2 [] := SqL.of n2.at
            cases acc with
            | nil => exact Or.inr ⟨.list [], .list [], .lst sD .nil, .lst s2 .nil, rfl, rfl, q' true (by rw [key]; rfl) H2 x2⟩
            | cons y ys => exact Or.inl (Or.inr ⟨D, l2, y :: ys, [], rfl, rfl, sD, s2, (fun z => by simp at z), q' false (by rw [key]; rfl) H2 x2⟩)
      · exact q' false (by
          rw [shortD_tup]
          rw [decide_eq_false (show ¬ 1 ≤ ds.length by omega), Bool.false_and, Bool.false_and]) H (ex_refl _)
    | non => exact isi_go (dh.isi (b := false) (by decide +kernel)) (q H (ex_refl _))
    | bl b => exact isi_go (dh.isi (b := false) (by show kitB "bool" "tuple" = _; decide +kernel)) (q H (ex_refl _))
    | int i => exact isi_go (dh.isi (b := false) (by show kitB "int" "tuple" = _; decide +kernel)) (q H (ex_refl _))
    | str x => exact isi_go (dh.isi (b := false) (by show kitB "str" "tuple" = _; decide +kernel)) (q H (ex_refl _))
    | lst _ _ _ => exact isi_go (dh.isi (b := false) (by show kitB "list" "tuple" = _; decide +kernel)) (q H (ex_refl _))
    | dct _ _ => exact isi_go (dh.isi (b := false) (by show kitB "dict" "tuple" = _; decide +kernel)) (q H (ex_refl _))
    | dtu _ _ => exact isi_go (dh.isi (b := false) (by show kitB "dict" "tuple" = _; decide +kernel)) (q H (ex_refl _))
    | dbo _ _ => exact isi_go (dh.isi (b := false) (by show kitB "dict" "tuple" = _; decide +kernel)) (q H (ex_refl _))
end
end k80

namespace k80
open PySem PySem.Spec PyProof.Rows L2 Ech
open He (ga ma)
open He5 (wf)
/-! ### _law_met -/
theorem sc__law_met : FnScope ["_law_call", "e"] ["_law_call"] (defScope s__law_met) := ⟨rfl, rfl, rfl, by decide +kernel, rfl, by decide +kernel, by decide +kernel⟩
section
variable {P : Program} {w : World} {K : PySem.W.Frag} {mg : PySem.Str → Option Value} {base : Heap}
theorem F__law_met (e : Ev K mg) : FunD K "_law_met" "_law_met" (defArgs s__law_met) (defBody s__law_met) (defScope s__law_met) [] [] (ga K "_law_met") (fdA K (ga K "_law_met")) := e.fun_ 39 (d := d__law_met)
theorem kp__law_met (e : Ev K mg) : PySem.W.keepIn K (.ref (ga K "_law_met")) = true := (F__law_met e).kp
theorem b__law_met (e : Ev K mg) : Binds K (fdA K (ga K "_law_met")) ["_law_call"] [] := (F__law_met e).bindsN fun _ _ _ _ _ _ us hl => match us, hl with | [_], _ => rfl
def tt__law_met (K : PySem.W.Frag) : (XK → Hp → VK → Prop) → Hp → VK → Prop := fun tl H Q => tl (fun cls d H' => ∃ word : PySem.Str, ((cls = .ref (ga K "InvalidTable") ∧ word = "table") ∨ (cls = .ref (ga K "InvalidRow") ∧ word = "row") ∨ (cls = .ref (ga K "InvalidNumber") ∧ word = "number")) ∧ ∃ dd v, d = some dd ∧ H' dd = some (.xd [("value", v)]) ∧ ∀ l H2, Ex H' H2 → H2 l = some (.tup [.str word, v, .bl true]) → Q (.ref l) H2) H (fun _ H' => Q .non H')
theorem gv__law_met {X : Cx} (e : Ev X.K X.mg) (hr0 : Room 2 X.A) (hq0 : X.A.guards = some []) (cdg : Value) {q : PySem.Str} : GivesW X ["_law_call", "e"] "_law_met" (defScope s__law_met) (ga X.K "_law_met") cdg (defBody s__law_met) "_law_call" q (tt__law_met X.K) := by
  intro f c' s H Q tl act hc h
  have hr : Room 1 (X.A.deeper (envOfC "_law_met" (defScope s__law_met) s.heap.objs.size (ga X.K "_law_met") cdg)) := hr0.deeper _
  have hq : (X.A.deeper (envOfC "_law_met" (defScope s__law_met) s.heap.objs.size (ga X.K "_law_met") cdg)).guards = some [] := hq0
  refine ⟨_, (pss_cons (ps_try_takes rfl rfl rfl sc__law_met.nd takesF (fun W pn xe tk po => (pss_one (ps_expr (act W pn xe _ _ tk)))) (.cons (i := 1) (by rfl) (by rfl) ⟨by rfl, by decide, Or.inl (gl_InvalidTable e)⟩ (fun _ _ => (pss_one (ps_ret (u_tup (pa_cons pe_str (pa_cons (u_xf (er_InvalidTable e).exc (er_InvalidTable e).none_ (uv 1)) (pa_cons (pe_callB (id := "isinstance") (c_isH (K := X.K) rfl (er_InvalidTable e).exc) (by rfl) (fr_isinstance e) (by decide +kernel) (pa_cons (uv 1) (pa_cons (u_ty (n := "ValueError") (by rfl) (fr_ValueError e) (by decide +kernel)) pa_nil))) pa_nil))))))) (.cons (i := 1) (by rfl) (by rfl) ⟨by rfl, by decide, Or.inl (gl_InvalidRow e)⟩ (fun _ _ => (pss_one (ps_ret (u_tup (pa_cons pe_str (pa_cons (u_xf (er_InvalidRow e).exc (er_InvalidRow e).none_ (uv 1)) (pa_cons (pe_callB (id := "isinstance") (c_isH (K := X.K) rfl (er_InvalidRow e).exc) (by rfl) (fr_isinstance e) (by decide +kernel) (pa_cons (uv 1) (pa_cons (u_ty (n := "ValueError") (by rfl) (fr_ValueError e) (by decide +kernel)) pa_nil))) pa_nil))))))) (.cons (i := 1) (by rfl) (by rfl) ⟨by rfl, by decide, Or.inl (gl_InvalidNumber e)⟩ (fun _ _ => (pss_one (ps_ret (u_tup (pa_cons pe_str (pa_cons (u_xf (er_InvalidNumber e).exc (er_InvalidNumber e).none_ (uv 1)) (pa_cons (pe_callB (id := "isinstance") (c_isH (K := X.K) rfl (er_InvalidNumber e).exc) (by rfl) (fr_isinstance e) (by decide +kernel) (pa_cons (uv 1) (pa_cons (u_ty (n := "ValueError") (by rfl) (fr_ValueError e) (by decide +kernel)) pa_nil))) pa_nil))))))) .nil))))
          (pss_one (ps_ret pe_non))), ?_⟩
  refine ⟨_, _, fun cls d H' hE => ?_, fun v H' hR => ?_, rfl, hc, h⟩
  · obtain ⟨word, hw, dd, v, rfl, hd, q⟩ := hE
    rcases hw with ⟨rfl, rfl⟩ | ⟨rfl, rfl⟩ | ⟨rfl, rfl⟩
    · refine ⟨true, (er_InvalidTable e).met, fun _ x hx => ?_, fun z => nomatch z⟩
      have x1 : Ex H' (upd H' x (ExH x (.ref (ga X.K "InvalidTable")) (some dd))) := Evl.Ex.new hx
      have hd1 := x1 _ _ hd
      have hx1 : (upd H' x (ExH x (.ref (ga X.K "InvalidTable")) (some dd))) x = some (ExH x (.ref (ga X.K "InvalidTable")) (some dd)) := upd_same
      generalize upd H' x (ExH x (.ref (ga X.K "InvalidTable")) (some dd)) = H1 at x1 hd1 hx1
      refine ⟨dd, _, v, hx1, hd1, by rfl, ?_⟩
      refine ⟨dd, _, .type "ValueError", true, hx1, hd1, (fun u hu => by cases hu; rfl), (er_InvalidTable e).isV, ?_⟩
      refine ⟨szr (n := 3) (by decide +kernel), fun l H2 n2 => ?_⟩
      exact q l H2 (ex_trans x1 n2.ex) n2.at
    · refine ⟨false, exm_InvalidRow_InvalidTable e, (fun z => nomatch z), fun _ => ?_⟩
      refine ⟨true, (er_InvalidRow e).met, fun _ x hx => ?_, fun z => nomatch z⟩
      have x1 : Ex H' (upd H' x (ExH x (.ref (ga X.K "InvalidRow")) (some dd))) := Evl.Ex.new hx
      have hd1 := x1 _ _ hd
      have hx1 : (upd H' x (ExH x (.ref (ga X.K "InvalidRow")) (some dd))) x = some (ExH x (.ref (ga X.K "InvalidRow")) (some dd)) := upd_same
      generalize upd H' x (ExH x (.ref (ga X.K "InvalidRow")) (some dd)) = H1 at x1 hd1 hx1
      refine ⟨dd, _, v, hx1, hd1, by rfl, ?_⟩
      refine ⟨dd, _, .type "ValueError", true, hx1, hd1, (fun u hu => by cases hu; rfl), (er_InvalidRow e).isV, ?_⟩
      refine ⟨szr (n := 3) (by decide +kernel), fun l H2 n2 => ?_⟩
      exact q l H2 (ex_trans x1 n2.ex) n2.at
    · refine ⟨false, exm_InvalidNumber_InvalidTable e, (fun z => nomatch z), fun _ => ?_⟩
      refine ⟨false, exm_InvalidNumber_InvalidRow e, (fun z => nomatch z), fun _ => ?_⟩
      refine ⟨true, (er_InvalidNumber e).met, fun _ x hx => ?_, fun z => nomatch z⟩
      have x1 : Ex H' (upd H' x (ExH x (.ref (ga X.K "InvalidNumber")) (some dd))) := Evl.Ex.new hx
      have hd1 := x1 _ _ hd
      have hx1 : (upd H' x (ExH x (.ref (ga X.K "InvalidNumber")) (some dd))) x = some (ExH x (.ref (ga X.K "InvalidNumber")) (some dd)) := upd_same
      generalize upd H' x (ExH x (.ref (ga X.K "InvalidNumber")) (some dd)) = H1 at x1 hd1 hx1
      refine ⟨dd, _, v, hx1, hd1, by rfl, ?_⟩
      refine ⟨dd, _, .type "ValueError", true, hx1, hd1, (fun u hu => by cases hu; rfl), (er_InvalidNumber e).isV, ?_⟩
      refine ⟨szr (n := 3) (by decide +kernel), fun l H2 n2 => ?_⟩
      exact q l H2 (ex_trans x1 n2.ex) n2.at
  · exact hR
end
end k80

namespace k80
open PySem PySem.Spec PyProof.Rows L2 Ech
open He (ga ma)
open He5 (wf)
/-! ### InvalidTable.__init__ -/
theorem sc_InvalidTable_init : FnScope ["self", "value"] ["self", "value"] (defScope s_InvalidTable_init) := ⟨rfl, rfl, rfl, by decide +kernel, rfl, by decide +kernel, by decide +kernel⟩
section
variable {P : Program} {w : World} {K : PySem.W.Frag} {mg : PySem.Str → Option Value} {base : Heap}
theorem F_InvalidTable_init (e : Ev K mg) : FunD K "__init__" "InvalidTable.__init__" (defArgs s_InvalidTable_init) (defBody s_InvalidTable_init) (defScope s_InvalidTable_init) [] [] (ma K (ga K "InvalidTable") "__init__") (fdA K (ma K (ga K "InvalidTable") "__init__")) := e.fun_ 8 (d := d_InvalidTable_init)
theorem b_InvalidTable_init (e : Ev K mg) : Binds K (fdA K (ma K (ga K "InvalidTable") "__init__")) ["self", "value"] [] := (F_InvalidTable_init e).bindsN fun _ _ _ _ _ _ us hl => match us, hl with | [_, _], _ => rfl
def sp_InvalidTable_init (K : PySem.W.Frag) : Sp := spErr K (ga K "InvalidTable") "value"
theorem ok_InvalidTable_init (e : Ev K mg) : FnOk P w K mg base CX0 1 (ma K (ga K "InvalidTable") "__init__") (fdA K (ma K (ga K "InvalidTable") "__init__")) ["self", "value"] (sp_InvalidTable_init K) := by
  refine (F_InvalidTable_init e).ok sc_InvalidTable_init (fun vs H Q E h => ?_) (fun cdv A outer s H vs Q E hr h => ?_)
  · obtain ⟨a, v, rfl, _⟩ := h
    rfl
  · obtain ⟨a, v, rfl, ha, q⟩ := h
    refine ⟨_, PSs.nox (pss_cons (ps_expr (pe_veinit (by rfl) (fr_ValueError e) (er_InvalidTable e).vei (pa_cons (uv 0) (pa_cons pe_str pa_nil))))
            (pss_one (ps_ost (uv 0) (uv 1)))), ?_⟩
    refine ⟨a, (ga K "InvalidTable"), _, rfl, by decide, (er_InvalidTable e).oex, ha, ?_⟩
    exact ⟨a, (ga K "InvalidTable"), rfl, (er_InvalidTable e).oex, (er_InvalidTable e).none_, Or.inl ⟨ha, fun dx h1 h2 => q dx h1 h2⟩⟩
end
end k80

namespace k80
open PySem PySem.Spec PyProof.Rows L2 Ech
open He (ga ma)
open He5 (wf)
/-! ### InvalidRow.__init__ -/
theorem sc_InvalidRow_init : FnScope ["self", "value"] ["self", "value"] (defScope s_InvalidRow_init) := ⟨rfl, rfl, rfl, by decide +kernel, rfl, by decide +kernel, by decide +kernel⟩
section
variable {P : Program} {w : World} {K : PySem.W.Frag} {mg : PySem.Str → Option Value} {base : Heap}
theorem F_InvalidRow_init (e : Ev K mg) : FunD K "__init__" "InvalidRow.__init__" (defArgs s_InvalidRow_init) (defBody s_InvalidRow_init) (defScope s_InvalidRow_init) [] [] (ma K (ga K "InvalidRow") "__init__") (fdA K (ma K (ga K "InvalidRow") "__init__")) := e.fun_ 9 (d := d_InvalidRow_init)
theorem b_InvalidRow_init (e : Ev K mg) : Binds K (fdA K (ma K (ga K "InvalidRow") "__init__")) ["self", "value"] [] := (F_InvalidRow_init e).bindsN fun _ _ _ _ _ _ us hl => match us, hl with | [_, _], _ => rfl
def sp_InvalidRow_init (K : PySem.W.Frag) : Sp := spErr K (ga K "InvalidRow") "value"
theorem ok_InvalidRow_init (e : Ev K mg) : FnOk P w K mg base CX0 1 (ma K (ga K "InvalidRow") "__init__") (fdA K (ma K (ga K "InvalidRow") "__init__")) ["self", "value"] (sp_InvalidRow_init K) := by
  refine (F_InvalidRow_init e).ok sc_InvalidRow_init (fun vs H Q E h => ?_) (fun cdv A outer s H vs Q E hr h => ?_)
  · obtain ⟨a, v, rfl, _⟩ := h
    rfl
  · obtain ⟨a, v, rfl, ha, q⟩ := h
    refine ⟨_, PSs.nox (pss_cons (ps_expr (pe_veinit (by rfl) (fr_ValueError e) (er_InvalidRow e).vei (pa_cons (uv 0) (pa_cons pe_str pa_nil))))
            (pss_one (ps_ost (uv 0) (uv 1)))), ?_⟩
    refine ⟨a, (ga K "InvalidRow"), _, rfl, by decide, (er_InvalidRow e).oex, ha, ?_⟩
    exact ⟨a, (ga K "InvalidRow"), rfl, (er_InvalidRow e).oex, (er_InvalidRow e).none_, Or.inl ⟨ha, fun dx h1 h2 => q dx h1 h2⟩⟩
end
end k80

namespace k80
open PySem PySem.Spec PyProof.Rows L2 Ech
open He (ga ma)
open He5 (wf)
/-! ### is_row_of -/
theorem sc_is_row_of : FnScope ["letters", "value", "length", "letter"] ["letters", "value", "length"] (defScope s_is_row_of) := ⟨rfl, rfl, rfl, by decide +kernel, rfl, by decide +kernel, by decide +kernel⟩
section
variable {P : Program} {w : World} {K : PySem.W.Frag} {mg : PySem.Str → Option Value} {base : Heap}
theorem F_is_row_of (e : Ev K mg) : FunD K "is_row_of" "is_row_of" (defArgs s_is_row_of) (defBody s_is_row_of) (defScope s_is_row_of) [] [] (ga K "is_row_of") (fdA K (ga K "is_row_of")) := e.fun_ 7 (d := d_is_row_of)
theorem kp_is_row_of (e : Ev K mg) : PySem.W.keepIn K (.ref (ga K "is_row_of")) = true := (F_is_row_of e).kp
theorem b_is_row_of (e : Ev K mg) : Binds K (fdA K (ga K "is_row_of")) ["letters", "value", "length"] [] := (F_is_row_of e).bindsN fun _ _ _ _ _ _ us hl => match us, hl with | [_, _, _], _ => rfl
theorem bn_is_row_of_3 (e : Ev K mg) : Bnd K (ga K "is_row_of") ["letters", "value", "length"] [] := ⟨[], .nil, b_is_row_of e⟩
def sp_is_row_of (K : PySem.W.Frag) : Sp := fun vs H Q _ => ∃ (G : Hp) (L : Int) (a : Addr) (f : Bool) (xs : List V) (ds : List PyData), vs = [.int L, .ref a, .int xs.length] ∧ Ex G H ∧ SqT K G a xs ∧ DqAll K G f xs ds ∧ xs.length ≤ 1000 ∧ ∀ H', Ex H H' → Q (.bl (ds.all (isIntD 0 (L - 1)))) H'
theorem ok_is_row_of (e : Ev K mg) : FnOk P w K mg base CX0 2 (ga K "is_row_of") (fdA K (ga K "is_row_of")) ["letters", "value", "length"] (sp_is_row_of K) := by
  refine (F_is_row_of e).ok sc_is_row_of (fun vs H Q E h => ?_) (fun cdv A outer s H vs Q E hr h => ?_)
  · obtain ⟨G, L, a, f, xs, ds, rfl, _⟩ := h
    rfl
  · obtain ⟨G, L, a, f, xs, ds, rfl, hg, hs, ha, hl, q⟩ := h
    refine ⟨_, PSs.nox (pss_cons (u_if (PW.pt (u_orT (pt_not (k_tru (K := K) rfl (pe_callB (id := "isinstance") (k_isi (K := K) rfl) (by rfl) (fr_isinstance e) (by decide +kernel) (pa_cons (uv 1) (pa_cons (u_ty (n := "tuple") (by rfl) (fr_tuple e) (by decide +kernel)) pa_nil))))) (u_or1 (u_cmpT (k_ne (K := K) rfl hr.units) (pe_callB (id := "len") (k_len (K := K) rfl) (by rfl) (fr_len e) (by decide +kernel) (pa_cons (uv 1) pa_nil)) (uv 2) (nomark _))))) (pss_one (ps_ret pe_bl)) pss_nil)
            (pss_one (ps_ret (pe_callB (id := "all") (k_all (K := K) rfl (by rfl)) (by rfl) (fr_all e) (by decide +kernel) (pa_cons (u_lc (own := [("letter", 3)]) (by rfl) sc_is_row_of.nd (k_seq (K := K) rfl (uv 1)) (blkOk_by (by kernel_rfl)) (fun _ _ _ _ _ => (pg_name (i := 3) sc_is_row_of.nd (by rfl) (by first | exact Or.inl rfl | exact Or.inr rfl))) (fun _ _ _ _ _ => pts_nil) (fun _ _ _ _ _ => (u_call (ok_is_integer e) (hr.mono (by decide)) (by rfl) (gl_is_integer e) (kp_is_integer e) (bn_is_integer_3 e) pass0 (pa_cons (uv 3) (pa_cons pe_int (pa_cons (pe_op o_sub (uv 0) pe_int) pa_nil)))))) pa_nil))))), ?_⟩
    refine isi_go (isi_tup (b := true) (Evl.ex_t hg hs) (by decide +kernel)) ?_
    refine ⟨_, Or.inr (Evl.ex_t hg hs), ?_⟩
    refine bite_nd (fun hc => ?_) (fun hc => ?_)
    · exact absurd rfl hc
    · refine ⟨false, xs, Evl.ex_t hg hs, ?_⟩
      have ll := dqAll_len ha
      refine lc_pure hg (fun i _ acc => acc = (((ds.map (isIntD 0 (L - 1))).take i).map V.bl)) ?_ rfl ?_ ?_ ?_ ?_
      · exact Nat.le_trans hl (szr (n := 1000) (by decide +kernel))
      · rintro i _ acc rfl
        rw [List.length_map, List.length_take]
        exact Nat.min_le_left _ _
      · intro G1 H1 g
        exact Evl.ex_t (fun a o e => g.gh a o (g.gg a o e)) hs
      · rintro i x G1 H1 H' acc hi g rfl ⟨rfl, hx⟩ R R0 h1 h2
        obtain ⟨d, ed, dx⟩ := dqAll_at ha hx
        have dx := dx.up (ex_trans g.gg g.gh)
        refine ⟨rfl, ?_⟩
        refine ⟨_, _, _, rfl, dx.isiV.1, dx.isiV.2, Or.inr ⟨_, rfl⟩, Or.inr ⟨_, rfl⟩, ?_⟩
        rw [intV_D dx]
        refine h1 _ G1 _ (Gr.refl g.gh) ?_
        rw [List.take_add_one, List.getElem?_map, ed, List.map_append]
        rfl
      · rintro D G1 H1 acc g hD _ h3 rfl
        rw [List.take_of_length_le (by rw [List.length_map, ll]; exact Nat.le_refl _)] at h3
        refine ⟨_, SqL.of h3, ?_⟩
        have e : (ds.map (isIntD 0 (L - 1))).all id = ds.all (isIntD 0 (L - 1)) := by rw [List.all_map]; rfl
        rw [e]
        exact q H1 g.hh
end
end k80

namespace k80
open PySem PySem.Spec PyProof.Rows L2 Ech
open He (ga ma)
open He5 (wf)
/-! ### need_short_row -/
theorem sc_need_short_row : FnScope ["letters", "row"] ["letters", "row"] (defScope s_need_short_row) := ⟨rfl, rfl, rfl, by decide +kernel, rfl, by decide +kernel, by decide +kernel⟩
section
variable {P : Program} {w : World} {K : PySem.W.Frag} {mg : PySem.Str → Option Value} {base : Heap}
theorem F_need_short_row (e : Ev K mg) : FunD K "need_short_row" "need_short_row" (defArgs s_need_short_row) (defBody s_need_short_row) (defScope s_need_short_row) [] [] (ga K "need_short_row") (fdA K (ga K "need_short_row")) := e.fun_ 29 (d := d_need_short_row)
theorem kp_need_short_row (e : Ev K mg) : PySem.W.keepIn K (.ref (ga K "need_short_row")) = true := (F_need_short_row e).kp
theorem b_need_short_row (e : Ev K mg) : Binds K (fdA K (ga K "need_short_row")) ["letters", "row"] [] := (F_need_short_row e).bindsN fun _ _ _ _ _ _ us hl => match us, hl with | [_, _], _ => rfl
theorem bn_need_short_row_2 (e : Ev K mg) : Bnd K (ga K "need_short_row") ["letters", "row"] [] := ⟨[], .nil, b_need_short_row e⟩
def sp_need_short_row (K : PySem.W.Frag) : Sp := fun vs H Q E => ∃ (G : Hp) (L : Int) (v : V) (f : Bool) (d : PyData), vs = [.int L, v] ∧ Ex G H ∧ Dq K G f v d ∧ (shortD L d = true → ∀ H', Ex H H' → Q .non H') ∧ (shortD L d = false → RaisesQ K "InvalidRow" v H E)
theorem ok_need_short_row (e : Ev K mg) : FnOk P w K mg base (L2.CX P w) 3 (ga K "need_short_row") (fdA K (ga K "need_short_row")) ["letters", "row"] (sp_need_short_row K) := by
  refine (F_need_short_row e).ok sc_need_short_row (fun vs H Q E h => ?_) (fun cdv A outer s H vs Q E hr h => ?_)
  · obtain ⟨G, L, v, f, d, rfl, _⟩ := h
    rfl
  · obtain ⟨G, L, v, f, d, rfl, hg, dv, q1, q2⟩ := h
    refine ⟨_, (pss_one (u_if (PW.pt (u_orT (pt_not (k_tru (K := K) rfl (pe_callB (id := "isinstance") (k_isi (K := K) rfl) (by rfl) (fr_isinstance e) (by decide +kernel) (pa_cons (uv 1) (pa_cons (u_ty (n := "tuple") (by rfl) (fr_tuple e) (by decide +kernel)) pa_nil))))) (u_orT (pt_not (u_chainT o_le o_le pe_int (pe_callB (id := "len") (k_len (K := K) rfl) (by rfl) (fr_len e) (by decide +kernel) (pa_cons (uv 1) pa_nil)) (u_gint (by rfl) (con_LONGEST_ROW e)))) (u_or1 (pt_not (k_tru (K := K) rfl (u_call (ok_is_row_of e) (hr.mono (by decide)) (by rfl) (gl_is_row_of e) (kp_is_row_of e) (bn_is_row_of_3 e) pass0 (pa_cons (uv 0) (pa_cons (uv 1) (pa_cons (pe_callB (id := "len") (k_len (K := K) rfl) (by rfl) (fr_len e) (by decide +kernel) (pa_cons (uv 1) pa_nil)) pa_nil)))))))))) (pss_one (u_raise (by rfl) (takes_of rfl rfl rfl rfl) (er_InvalidRow e).oex (er_InvalidRow e).ini (er_InvalidRow e).fun_ (ok_InvalidRow_init e) (hr.mono (by decide)) (b_InvalidRow_init e) pass0 (by rfl) (gl_InvalidRow e) (pa_cons (uv 1) pa_nil))) pss_nil)), ?_⟩
    have dh := dv.up hg
    cases dv with
    | tup hs ha =>
      rename_i a xs ds
      have hs' := Evl.ex_t hg hs
      have ll := dqAll_len ha
      have bad : shortD L (.tuple ds) = false → ∀ (d' : Addr) (H0 H2 : Hp), Ex H H0 → New H0 d' (.xd [("value", .ref a)]) H2 → E (.ref (ga K "InvalidRow")) (some d') H2 := fun hz d' H0 H2 x n => q2 hz d' H0 H2 x n
      refine isi_go (isi_tup (b := true) hs' (by decide +kernel)) ?_
      refine ⟨_, Or.inr hs', ?_⟩
      refine bite_d (fun hc => ?_) (fun hc => ?_)
      · refine bite_nd (fun hc2 => ?_) (fun hc2 => ?_)
        · exact fun d' H2 n2 => bad (by
            rw [shortD_tup]
            rw [decide_eq_false (show ¬ ds.length ≤ 40 by omega), Bool.and_false, Bool.false_and]) d' H H2 (ex_refl _) n2
        · refine ⟨_, Or.inr hs', ?_⟩
          refine ⟨G, L, a, f, xs, ds, rfl, hg, hs, ha, (by omega), fun H' x' => ?_⟩
          cases hz : ds.all (isIntD 0 (L - 1)) with
          | true =>
            refine q1 ?_ H' x'
            rw [shortD_tup]
            rw [hz, decide_eq_true (show 1 ≤ ds.length by omega), decide_eq_true (show ds.length ≤ 40 by omega)]
            rfl
          | false => exact fun d' H2 n2 => bad (by rw [shortD_tup]; rw [hz, Bool.and_false]) d' H' H2 x' n2
      · exact fun d' H2 n2 => bad (by
          rw [shortD_tup]
          rw [decide_eq_false (show ¬ 1 ≤ ds.length by omega), Bool.false_and, Bool.false_and]) d' H H2 (ex_refl _) n2
    | non => exact isi_go (dh.isi (b := false) (by decide +kernel)) fun d' H2 n2 => q2 rfl d' H H2 (ex_refl _) n2
    | bl b => exact isi_go (dh.isi (b := false) (by show kitB "bool" "tuple" = _; decide +kernel)) fun d' H2 n2 => q2 rfl d' H H2 (ex_refl _) n2
    | int i => exact isi_go (dh.isi (b := false) (by show kitB "int" "tuple" = _; decide +kernel)) fun d' H2 n2 => q2 rfl d' H H2 (ex_refl _) n2
    | str x => exact isi_go (dh.isi (b := false) (by show kitB "str" "tuple" = _; decide +kernel)) fun d' H2 n2 => q2 rfl d' H H2 (ex_refl _) n2
    | lst _ _ _ => exact isi_go (dh.isi (b := false) (by show kitB "list" "tuple" = _; decide +kernel)) fun d' H2 n2 => q2 rfl d' H H2 (ex_refl _) n2
    | dct _ _ => exact isi_go (dh.isi (b := false) (by show kitB "dict" "tuple" = _; decide +kernel)) fun d' H2 n2 => q2 rfl d' H H2 (ex_refl _) n2
    | dtu _ _ => exact isi_go (dh.isi (b := false) (by show kitB "dict" "tuple" = _; decide +kernel)) fun d' H2 n2 => q2 rfl d' H H2 (ex_refl _) n2
    | dbo _ _ => exact isi_go (dh.isi (b := false) (by show kitB "dict" "tuple" = _; decide +kernel)) fun d' H2 n2 => q2 rfl d' H H2 (ex_refl _) n2
end
end k80

namespace k80
open PySem PySem.Spec PyProof.Rows L2 Ech
open He (ga ma)
open He5 (wf)
/-! ### Table.letters -/
theorem sc_Table_letters : FnScope ["self"] ["self"] (defScope s_Table_letters) := ⟨rfl, rfl, rfl, by decide +kernel, rfl, by decide +kernel, by decide +kernel⟩
section
variable {P : Program} {w : World} {K : PySem.W.Frag} {mg : PySem.Str → Option Value} {base : Heap}
theorem F_Table_letters (e : Ev K mg) : FunD K "letters" "Table.letters" (defArgs s_Table_letters) (defBody s_Table_letters) (defScope s_Table_letters) [] [] (wf K (ga K "Table") "property" "letters") (fdA K (wf K (ga K "Table") "property" "letters")) := e.fun_ 21 (d := d_Table_letters)
theorem b_Table_letters (e : Ev K mg) : Binds K (fdA K (wf K (ga K "Table") "property" "letters")) ["self"] [] := (F_Table_letters e).bindsN fun _ _ _ _ _ _ us hl => match us, hl with | [_], _ => rfl
def sp_Table_letters (K : PySem.W.Frag) : Sp := fun vs H Q _ => ∃ (G : Hp) (a : Addr) (rows : List (List (Option Int))), vs = [.ref a] ∧ Ex G H ∧ TabAt K G a rows ∧ Q (.int rows.length) H
theorem ok_Table_letters (e : Ev K mg) : FnOk P w K mg base CX0 5 (wf K (ga K "Table") "property" "letters") (fdA K (wf K (ga K "Table") "property" "letters")) ["self"] (sp_Table_letters K) := by
  refine (F_Table_letters e).ok sc_Table_letters (fun vs H Q E h => ?_) (fun cdv A outer s H vs Q E hr h => ?_)
  · obtain ⟨G, a, rows, rfl, _⟩ := h
    rfl
  · obtain ⟨G, a, rows, rfl, hg, ⟨dx, ent, h1, h2⟩, q⟩ := h
    refine ⟨_, PSs.nox (pss_one (ps_ret (pe_callB (id := "len") (k_len (K := K) rfl) (by rfl) (fr_len e) (by decide +kernel) (pa_cons (u_fld (cl_Table e) (na_Table_entries e) (uv 0)) pa_nil)))), ?_⟩
    refine ⟨dx, _, ent, hg _ _ h1, look_entries ent, ?_⟩
    cases h2 with
    | tup hs hd =>
      have l := dpAll_len hd
      rw [List.length_map] at l
      refine ⟨_, Or.inr (Evl.ex_t hg hs), ?_⟩
      rw [l]
      exact q
end
end k80

namespace k80
open PySem PySem.Spec PyProof.Rows L2 Ech
open He (ga ma)
open He5 (wf)
/-! ### pairs_at -/
theorem sc_pairs_at : FnScope ["row", "delay"] ["row", "delay"] (defScope s_pairs_at) := ⟨rfl, rfl, rfl, by decide +kernel, rfl, by decide +kernel, by decide +kernel⟩
section
variable {P : Program} {w : World} {K : PySem.W.Frag} {mg : PySem.Str → Option Value} {base : Heap}
theorem F_pairs_at (e : Ev K mg) : FunD K "pairs_at" "pairs_at" (defArgs s_pairs_at) (defBody s_pairs_at) (defScope s_pairs_at) [] [] (ga K "pairs_at") (fdA K (ga K "pairs_at")) := e.fun_ 30 (d := d_pairs_at)
theorem kp_pairs_at (e : Ev K mg) : PySem.W.keepIn K (.ref (ga K "pairs_at")) = true := (F_pairs_at e).kp
theorem b_pairs_at (e : Ev K mg) : Binds K (fdA K (ga K "pairs_at")) ["row", "delay"] [] := (F_pairs_at e).bindsN fun _ _ _ _ _ _ us hl => match us, hl with | [_, _], _ => rfl
theorem bn_pairs_at_2 (e : Ev K mg) : Bnd K (ga K "pairs_at") ["row", "delay"] [] := ⟨[], .nil, b_pairs_at e⟩
def pairV (ns : List Int) (d k : Nat) : List V := [.int (ns.getD k 0), .int (ns.getD (k + d) 0)]
def sp_pairs_at (K : PySem.W.Frag) : Sp := fun vs H Q _ => ∃ (G : Hp) (a : Addr) (ns : List Int) (d : Nat), vs = [.ref a, .int d] ∧ Ex G H ∧ SqT K G a (ns.map V.int) ∧ 1 ≤ d ∧ d ≤ ns.length ∧
  ∀ l ts G' H', Gr G H G' H' → SqL K G' l (ts.map V.ref) → Paired (fun t row => G' t = some (.tup row)) ts ((List.range (ns.length - d)).map (pairV ns d)) → Q (.ref l) H'
theorem zip_pairs {ns : List Int} {d : Nat} (h1 : 1 ≤ d) (h2 : d ≤ ns.length) : zipV [ns.map V.int, (ns.map V.int).drop d] = (List.range (ns.length - d)).map (pairV ns d) := by
  have m : minLen [ns.map V.int, (ns.map V.int).drop d] = ns.length - d := by
    show min (ns.map V.int).length ((ns.map V.int).drop d).length = _
    rw [List.length_drop, List.length_map]
    omega
  unfold zipV
  rw [m]
  refine List.map_congr_left fun k hk => ?_
  have hk' := List.mem_range.mp hk
  unfold zipRow pairV
  simp only [List.map_cons, List.map_nil]
  have a1 : (ns.map V.int).getD k .non = .int (ns.getD k 0) := by
    rw [List.getD_eq_getElem?_getD, List.getD_eq_getElem?_getD, List.getElem?_map, List.getElem?_eq_getElem (by omega)]
    rfl
  have a2 : ((ns.map V.int).drop d).getD k .non = .int (ns.getD (k + d) 0) := by
    rw [List.getD_eq_getElem?_getD, List.getD_eq_getElem?_getD, List.getElem?_drop, List.getElem?_map, Nat.add_comm, List.getElem?_eq_getElem (by omega)]
    rfl
  rw [a1, a2]
theorem ok_pairs_at (e : Ev K mg) : FnOk P w K mg base CX0 1 (ga K "pairs_at") (fdA K (ga K "pairs_at")) ["row", "delay"] (sp_pairs_at K) := by
  refine (F_pairs_at e).ok sc_pairs_at (fun vs H Q E h => ?_) (fun cdv A outer s H vs Q E hr h => ?_)
  · obtain ⟨G, a, ns, d, rfl, _⟩ := h
    rfl
  · obtain ⟨G, a, ns, d, rfl, hg, hs, h1, h2, q⟩ := h
    refine ⟨_, PSs.nox (pss_one (ps_ret (k_lz (K := K) rfl (by rfl) (by rfl) (fr_list e) (by rfl) (fr_zip e) (pa_cons (uv 0) (pa_cons (pe_slice (sl_k (K := K) rfl) (uv 0) (u_part (uv 1)) po_none) pa_nil))))), ?_⟩
    have l : (ns.map V.int).length = ns.length := List.length_map _
    have s1 : HT.sIx (ns.map V.int).length 0 (some (d : Int)) = d := by rw [HT.sIx_nat]; omega
    refine ⟨ns.map V.int, Or.inr ⟨Evl.ex_t hg hs, fun z => by rw [s1] at z; omega, fun p H1 nw => ?_⟩⟩
    rw [cutV_from (by rw [l]; exact h2)] at nw
    refine ⟨[(a, ns.map V.int), (p, (ns.map V.int).drop d)], rfl, by show 0 < 2; decide, by show 2 ≤ 5; decide, ?_, ?_⟩
    · intro x hx
      rcases List.mem_cons.mp hx with rfl | hx
      · exact Or.inr (Evl.ex_t nw.ex (Evl.ex_t hg hs))
      · rcases List.mem_cons.mp hx with rfl | hx
        · exact Or.inr (SqT.of nw.at)
        · cases hx
    · intro H2 l2 ts x2 n1 n2 n3 e1 e2
      have x3 : Ex H H2 := fun a o e => x2 a o (nw.ex a o e)
      have old : ∀ t, H1 t = none → H t = none := fun t e => by
        cases z : H t with
        | none => rfl
        | some o => have := nw.ex t o z; rw [e] at this; cases this
      refine q l2 ts _ H2 (Gr_all hg x3) ?_ ?_
      · exact SqL.of (by rw [frz_new (old l2 n1)]; exact e1)
      · rw [← zip_pairs h1 h2]
        exact paired_imp2 e2 fun t row m e => by rw [frz_new (old t (n2 t m))]; exact e
end
end k80

namespace k80
open PySem PySem.Spec PyProof.Rows L2 Ech
open He (ga ma)
open He5 (wf)
/-! ### own_delays -/
theorem sc_own_delays : FnScope ["table", "row", "found", "delay", "first", "second"] ["table", "row"] (defScope s_own_delays) := ⟨rfl, rfl, rfl, by decide +kernel, rfl, by decide +kernel, by decide +kernel⟩
section
variable {P : Program} {w : World} {K : PySem.W.Frag} {mg : PySem.Str → Option Value} {base : Heap}
theorem F_own_delays (e : Ev K mg) : FunD K "own_delays" "own_delays" (defArgs s_own_delays) (defBody s_own_delays) (defScope s_own_delays) [] [] (ga K "own_delays") (fdA K (ga K "own_delays")) := e.fun_ 31 (d := d_own_delays)
theorem kp_own_delays (e : Ev K mg) : PySem.W.keepIn K (.ref (ga K "own_delays")) = true := (F_own_delays e).kp
theorem b_own_delays (e : Ev K mg) : Binds K (fdA K (ga K "own_delays")) ["table", "row"] [] := (F_own_delays e).bindsN fun _ _ _ _ _ _ us hl => match us, hl with | [_, _], _ => rfl
theorem bn_own_delays_2 (e : Ev K mg) : Bnd K (ga K "own_delays") ["table", "row"] [] := ⟨[], .nil, b_own_delays e⟩
def sp_own_delays (K : PySem.W.Frag) : Sp := fun vs H Q E => ∃ (G : Hp) (tv rv : V) (g : Bool) (rd : PyData), vs = [tv, rv] ∧ Ex G H ∧ Dq K G g rv rd ∧
  ((∃ (t : Addr) (rows : List (List (Option Int))), tv = .ref t ∧ TabAt K G t rows ∧ SqR rows ∧ (shortD rows.length rd = true → ∀ l G' H', Gr G H G' H' → Q (.ref l) H') ∧ (shortD rows.length rd = false → RaisesQ K "InvalidRow" rv H E)) ∨
  (∃ f td, Dq K G f tv td ∧ RaisesQ K "InvalidTable" tv H E))
theorem ok_own_delays (e : Ev K mg) : FnOk P w K mg base (L2.CX P w) 7 (ga K "own_delays") (fdA K (ga K "own_delays")) ["table", "row"] (sp_own_delays K) := by
  refine (F_own_delays e).ok sc_own_delays (fun vs H Q E h => ?_) (fun cdv A outer s H vs Q E hr h => ?_)
  · obtain ⟨G, tv, rv, g, rd, rfl, _⟩ := h
    rfl
  · obtain ⟨G, tv, rv, g, rd, rfl, hg, dr, h⟩ := h
    refine ⟨_, (pss_cons (u_if (pt_not (k_tru (K := K) rfl (pe_callB (id := "isinstance") (k_isi (K := K) rfl) (by rfl) (fr_isinstance e) (by decide +kernel) (pa_cons (uv 0) (pa_cons (pe_glob (v := .ref (ga K "Table")) (by rfl) (gl_Table e) rfl) pa_nil))))) (pss_one (u_raise (by rfl) (takes_of rfl rfl rfl rfl) (er_InvalidTable e).oex (er_InvalidTable e).ini (er_InvalidTable e).fun_ (ok_InvalidTable_init e) (hr.mono (by decide)) (b_InvalidTable_init e) pass0 (by rfl) (gl_InvalidTable e) (pa_cons (uv 0) pa_nil))) pss_nil)
            (pss_cons (ps_expr (u_callT (takes_of rfl rfl rfl rfl) (ok_need_short_row e) (hr.mono (by decide)) (by rfl) (gl_need_short_row e) (kp_need_short_row e) (bn_need_short_row_2 e) (pa_cons (u_prop (uv 0) (cl_Table e) (pr_Table_letters e) (ok_Table_letters e) (hr.mono (by decide)) (b_Table_letters e) pass0) (pa_cons (uv 1) pa_nil))))
            (pss_cons (ps_set (i := 2) sc_own_delays.nd (by rfl) (Or.inl rfl) (u_lst pa_nil))
            (pss_cons (u_for (passes_of rfl) (by rfl) (piu_range2 (by rfl) (fr_range e) (pa_cons pe_int (pa_cons (pe_callB (id := "len") (k_len (K := K) rfl) (by rfl) (fr_len e) (by decide +kernel) (pa_cons (uv 1) pa_nil)) pa_nil))) (pg_name (i := 3) sc_own_delays.nd (by rfl) (by first | exact Or.inl rfl | exact Or.inr rfl)) (pss_one (u_if (k_tru (K := K) rfl (pe_callB (id := "all") (k_all (K := K) rfl (by rfl)) (by rfl) (fr_all e) (by decide +kernel) (pa_cons (u_lc (own := [("first", 4), ("second", 5)]) (by rfl) sc_own_delays.nd (k_seq (K := K) rfl (u_call (ok_pairs_at e) (hr.mono (by decide)) (by rfl) (gl_pairs_at e) (kp_pairs_at e) (bn_pairs_at_2 e) pass0 (pa_cons (uv 1) (pa_cons (uv 3) pa_nil)))) (blkOk_by (by kernel_rfl)) (fun _ _ _ _ _ => (u_pgtup (K := K) rfl rfl (PGL.cons (pg_name (i := 4) sc_own_delays.nd (by rfl) (by first | exact Or.inl rfl | exact Or.inr rfl)) (PGL.cons (pg_name (i := 5) sc_own_delays.nd (by rfl) (by first | exact Or.inl rfl | exact Or.inr rfl)) PGL.nil (by rfl)) (by rfl)))) (fun _ _ _ _ _ => pts_nil) (fun _ _ _ _ _ => (u_cmp o_isnot (pe_ix (ix_k (K := K) rfl) (pe_ix (ix_k (K := K) rfl) (u_prop (uv 0) (cl_Table e) (pr_Table_rows e) (ok_Table_rows e) (hr.mono (by decide)) (b_Table_rows e) pass0) (uv 4) (fun _ _ => rfl)) (uv 5) (fun _ _ => rfl)) pe_non (nomark _)))) pa_nil))) (pss_one (ps_expr (k_append (K := K) rfl (uv 2) (pa_cons (uv 3) pa_nil)))) pss_nil)))
            (pss_one (ps_ret (uv 2))))))), ?_⟩
    rcases h with ⟨t, rows, rfl, ht, hq, q1, q2⟩ | ⟨f, td, dt, q⟩
    rotate_left
    · refine (dt.up hg).not_own ⟨kin_Table_NoneType e, kin_Table_bool e, kin_Table_int e, kin_Table_str e, kin_Table_list e, kin_Table_tuple e, kin_Table_dict e⟩ ?_
      exact fun d H2 n2 => q d H H2 (ex_refl _) n2
    obtain ⟨dx, ent, ht1, ht2⟩ := id ht
    refine isi_own (in_Table e (hg _ _ ht1)) ?_
    refine ⟨dx, _, hg _ _ ht1, ?_⟩
    refine ⟨G, t, rows, rfl, hg, ht, ?_⟩
    refine ⟨G, _, rv, g, rd, rfl, hg, dr, fun hz H1 x1 => ?_, fun hz => q2 hz⟩
    obtain ⟨a, ns, rfl, hs, h1, h2, hn1⟩ := short_ints dr hz
    have hn : ∀ i ∈ ns, 0 ≤ i ∧ i < rows.length := fun i hi => ⟨(hn1 i hi).1, by have := (hn1 i hi).2; omega⟩
    have hg1 : Ex G H1 := fun a o e => x1 a o (hg a o e)
    refine ⟨by decide +kernel, fun l H2 nw => ?_⟩
    have hl0 : H l = none := by
      cases z : H l with
      | none => rfl
      | some o => have := x1 l o z; rw [nw.fresh] at this; cases this
    have g2 : Gr G H G H2 := ⟨fun a o e => nw.ex a o (x1 a o e), fun _ _ e => e, fun a o e => nw.ex a o (hg1 a o e), fun _ _ => rfl⟩
    have ln : (ns.map V.int).length = ns.length := List.length_map _
    refine ⟨_, Or.inr (Evl.ex_t g2.gh hs), ?_⟩
    rw [ln]
    refine ⟨⟨by omega, by omega, by omega, by omega⟩, ?_⟩
    have n1 : ((ns.length : Int) - 1).toNat = ns.length - 1 := by omega
    rw [n1]
    refine ⟨fun i σ H' => ∃ G1 y, Gr G H G1 H' ∧ σ = [some (.ref t), some (.ref a), some (.ref l), y, none, none] ∧ G1 l = none ∧ H' l = some (.lst ((delaysTo rows ns i).map V.int)), ?_, ?_, ?_, ?_⟩
    · exact ⟨G, none, g2, rfl, nw.gnone hg1, nw.at⟩
    · intro _ _ _ _ _
      trivial
    · rintro i x σ H3 H' hi ⟨G1, y, g3, rfl, u1, u2⟩ ⟨rfl, rfl⟩
      refine ⟨G1, a, ns, 1 + i, rfl, g3.gh, Evl.ex_t g3.gg hs, by omega, by omega, fun l2 ts G4 H4 g4 s4 p4 => ?_⟩
      refine ⟨true, _, Evl.ex_l g4.gh s4, ?_⟩
      have lt : (ts.map V.ref).length = ns.length - (1 + i) := by
        rw [List.length_map, paired_len p4, List.length_map, List.length_range]
      rw [lt]
      refine lc_pure g4.gh (fun j _ acc => acc = ((List.range j).map fun k => (entry rows (ns.getD k 0) (ns.getD (k + (1 + i)) 0)).isSome).map V.bl) ?_ rfl ?_ ?_ ?_ ?_
      · exact Nat.le_trans (by omega : ns.length - (1 + i) ≤ 40) (szr (by decide +kernel))
      · rintro j _ acc rfl
        simp
      · intro G5 H5 g5
        exact Evl.ex_l (fun a o e => g5.gh a o (g5.gg a o e)) s4
      · rintro j x G5 H5 H6 acc hj g5 rfl ⟨rfl, hx⟩ R R0 r1 r2
        rw [List.getElem?_map] at hx
        cases ez : ts[j]? with
        | none => rw [ez] at hx; cases hx
        | some tt =>
          rw [ez] at hx
          obtain rfl := Option.some.inj hx
          obtain ⟨row, e1, e2⟩ := paired_at p4 ez
          rw [List.getElem?_map, List.getElem?_range hj] at e1
          obtain rfl := Option.some.inj e1
          refine ⟨_, SqT.of (g5.gh _ _ (g5.gg _ _ e2)), rfl, ?_⟩
          refine ⟨rfl, ?_⟩
          have gg5 : Ex G G5 := fun a o e => g5.gg a o (g4.gg a o (g3.gg a o e))
          refine ⟨dx, _, g5.gh _ _ (gg5 _ _ ht1), ?_⟩
          refine ⟨G5, t, rows, rfl, g5.gh, ht.up gg5, fun v dv => ?_⟩
          have m1 := hn _ (getD_mem (ns := ns) (k := j) (by omega))
          have m2 := hn _ (getD_mem (ns := ns) (k := j + (1 + i)) (by omega))
          refine ent_ix g5.gh hq dv m1.1 m1.2 m2.1 m2.2 ?_
          refine r1 _ G5 _ (Gr.refl g5.gh) ?_
          rw [isNon_pV, Bool.not_not, List.range_succ]
          simp
      · rintro D G5 H5 acc g5 hD _ h3 rfl
        refine ⟨_, SqL.of h3, ?_⟩
        have g6 : Gr G H G5 H5 := g3.trans (g4.trans g5)
        have u5 : H5 l = some (.lst ((delaysTo rows ns i).map V.int)) := g5.hh _ _ (g4.hh _ _ u2)
        have v5 : G5 l = none := (g4.trans g5).free (some_ne u2) u1
        refine bite_mk (fun hc => ?_) (fun hc => ?_)
        · refine ⟨⟨_, SqL.of u5⟩, _, u5, ?_, fun H7 ch => ?_⟩
          · refine Nat.lt_of_le_of_lt (m := 40) ?_ (szr (n := 41) (by decide +kernel))
            rw [List.length_map]
            exact Nat.le_trans (delays_len _ _ _) (by omega)
          · rw [ch.eq]
            refine ⟨G5, _, g6.loc hl0 v5, rfl, v5, ?_⟩
            rw [upd_same, delays_t (show okD rows ns (1 + i) = true from hc)]
            simp
        · exact ⟨G5, _, g6, rfl, v5, by rw [delays_f (show okD rows ns (1 + i) = false from hc)]; exact u5⟩
    · rintro σ H3 ⟨G1, y, g3, rfl, u1, u2⟩
      exact q1 hz l G1 H3 g3
end
end k80

namespace k80
open PySem PySem.Spec PyProof.Rows L2 Ech
open He (ga ma)
open He5 (wf)
/-! ### InvalidNumber.__init__ -/
theorem sc_InvalidNumber_init : FnScope ["self", "value"] ["self", "value"] (defScope s_InvalidNumber_init) := ⟨rfl, rfl, rfl, by decide +kernel, rfl, by decide +kernel, by decide +kernel⟩
section
variable {P : Program} {w : World} {K : PySem.W.Frag} {mg : PySem.Str → Option Value} {base : Heap}
theorem F_InvalidNumber_init (e : Ev K mg) : FunD K "__init__" "InvalidNumber.__init__" (defArgs s_InvalidNumber_init) (defBody s_InvalidNumber_init) (defScope s_InvalidNumber_init) [] [] (ma K (ga K "InvalidNumber") "__init__") (fdA K (ma K (ga K "InvalidNumber") "__init__")) := e.fun_ 10 (d := d_InvalidNumber_init)
theorem b_InvalidNumber_init (e : Ev K mg) : Binds K (fdA K (ma K (ga K "InvalidNumber") "__init__")) ["self", "value"] [] := (F_InvalidNumber_init e).bindsN fun _ _ _ _ _ _ us hl => match us, hl with | [_, _], _ => rfl
def sp_InvalidNumber_init (K : PySem.W.Frag) : Sp := spErr K (ga K "InvalidNumber") "value"
theorem ok_InvalidNumber_init (e : Ev K mg) : FnOk P w K mg base CX0 1 (ma K (ga K "InvalidNumber") "__init__") (fdA K (ma K (ga K "InvalidNumber") "__init__")) ["self", "value"] (sp_InvalidNumber_init K) := by
  refine (F_InvalidNumber_init e).ok sc_InvalidNumber_init (fun vs H Q E h => ?_) (fun cdv A outer s H vs Q E hr h => ?_)
  · obtain ⟨a, v, rfl, _⟩ := h
    rfl
  · obtain ⟨a, v, rfl, ha, q⟩ := h
    refine ⟨_, PSs.nox (pss_cons (ps_expr (pe_veinit (by rfl) (fr_ValueError e) (er_InvalidNumber e).vei (pa_cons (uv 0) (pa_cons pe_str pa_nil))))
            (pss_one (ps_ost (uv 0) (uv 1)))), ?_⟩
    refine ⟨a, (ga K "InvalidNumber"), _, rfl, by decide, (er_InvalidNumber e).oex, ha, ?_⟩
    exact ⟨a, (ga K "InvalidNumber"), rfl, (er_InvalidNumber e).oex, (er_InvalidNumber e).none_, Or.inl ⟨ha, fun dx h1 h2 => q dx h1 h2⟩⟩
end
end k80

namespace k80
open PySem PySem.Spec PyProof.Rows L2 Ech
open He (ga ma)
open He5 (wf)
/-! ### need_letters -/
theorem sc_need_letters : FnScope ["letters"] ["letters"] (defScope s_need_letters) := ⟨rfl, rfl, rfl, by decide +kernel, rfl, by decide +kernel, by decide +kernel⟩
section
variable {P : Program} {w : World} {K : PySem.W.Frag} {mg : PySem.Str → Option Value} {base : Heap}
theorem F_need_letters (e : Ev K mg) : FunD K "need_letters" "need_letters" (defArgs s_need_letters) (defBody s_need_letters) (defScope s_need_letters) [] [] (ga K "need_letters") (fdA K (ga K "need_letters")) := e.fun_ 14 (d := d_need_letters)
theorem kp_need_letters (e : Ev K mg) : PySem.W.keepIn K (.ref (ga K "need_letters")) = true := (F_need_letters e).kp
theorem b_need_letters (e : Ev K mg) : Binds K (fdA K (ga K "need_letters")) ["letters"] [] := (F_need_letters e).bindsN fun _ _ _ _ _ _ us hl => match us, hl with | [_], _ => rfl
theorem bn_need_letters_1 (e : Ev K mg) : Bnd K (ga K "need_letters") ["letters"] [] := ⟨[], .nil, b_need_letters e⟩
def sp_need_letters (K : PySem.W.Frag) : Sp := fun vs H Q E => ∃ (x : V) (f : Bool) (d : PyData), vs = [x] ∧ Dq K H f x d ∧ (isIntD 1 5 d = true → Q .non H) ∧ (isIntD 1 5 d = false → RaisesQ K "InvalidNumber" x H E)
theorem ok_need_letters (e : Ev K mg) : FnOk P w K mg base (L2.CX P w) 3 (ga K "need_letters") (fdA K (ga K "need_letters")) ["letters"] (sp_need_letters K) := by
  refine (F_need_letters e).ok sc_need_letters (fun vs H Q E h => ?_) (fun cdv A outer s H vs Q E hr h => ?_)
  · obtain ⟨x, f, d, rfl, _⟩ := h
    rfl
  · obtain ⟨x, f, d, rfl, dx, q1, q2⟩ := h
    refine ⟨_, (pss_one (u_if (pt_not (k_tru (K := K) rfl (u_call (ok_is_integer e) (hr.mono (by decide)) (by rfl) (gl_is_integer e) (kp_is_integer e) (bn_is_integer_3 e) pass0 (pa_cons (uv 0) (pa_cons pe_int (pa_cons (u_gint (by rfl) (con_MAX_LETTERS e)) pa_nil)))))) (pss_one (u_raise (by rfl) (takes_of rfl rfl rfl rfl) (er_InvalidNumber e).oex (er_InvalidNumber e).ini (er_InvalidNumber e).fun_ (ok_InvalidNumber_init e) (hr.mono (by decide)) (b_InvalidNumber_init e) pass0 (by rfl) (gl_InvalidNumber e) (pa_cons (uv 0) pa_nil))) pss_nil)), ?_⟩
    refine ⟨_, _, _, rfl, dx.isiV.1, dx.isiV.2, Or.inr ⟨_, rfl⟩, Or.inr ⟨_, rfl⟩, ?_⟩
    rw [intV_D dx]
    cases hx : isIntD 1 5 d with
    | true => exact q1 hx
    | false => exact fun d H2 n2 => q2 hx d H H2 (ex_refl _) n2
end
end k80

namespace k80
open PySem PySem.Spec PyProof.Rows L2 Ech
open He (ga ma)
open He5 (wf)
/-! ### Table.pairs -/
theorem sc_Table_pairs : FnScope ["cls", "letters", "pairs", "pair", "letter", "other", "one"] ["cls", "letters", "pairs"] (defScope s_Table_pairs) := ⟨rfl, rfl, rfl, by decide +kernel, rfl, by decide +kernel, by decide +kernel⟩
section
variable {P : Program} {w : World} {K : PySem.W.Frag} {mg : PySem.Str → Option Value} {base : Heap}
theorem F_Table_pairs (e : Ev K mg) : FunD K "pairs" "Table.pairs" (defArgs s_Table_pairs) (defBody s_Table_pairs) (defScope s_Table_pairs) [] [] (wf K (ga K "Table") "classmethod" "pairs") (fdA K (wf K (ga K "Table") "classmethod" "pairs")) := e.fun_ 18 (d := d_Table_pairs)
theorem bs_Table_pairs (kV doc pm : Value) (an : Option Addr) (cdv ct : Value) (us rest : List Value) (h : us.length = (["cls", "letters"] : List PySem.Str).length) : bindArgs (PySem.W.fnOf "pairs" "Table.pairs" (defArgs s_Table_pairs) (defBody s_Table_pairs) (defScope s_Table_pairs) .none kV doc pm an cdv ct) ⟨us ++ rest, []⟩ = (newTuple rest >>= fun t => pure ((["cls", "letters"] : List PySem.Str).zip us ++ [(("pairs" : PySem.Str), t)])) := match us, h, rest with | [_, _], _, [] => rfl | [_, _], _, _ :: _ => rfl
def sp_Table_pairs (K : PySem.W.Frag) : Sp := fun vs H Q _ => ∃ (G : Hp) (L : Nat) (t : Addr) (ws : List V) (ds : List (List Int)), vs = [.ref (ga K "Table"), .int L, .ref t] ∧ Ex G H ∧ SqT K G t ws ∧ Paired (TupAt K G) ws ds ∧ 1 ≤ L ∧ L ≤ 5 ∧ ws.length ≤ 1000 ∧ (∀ d ∈ ds, ∃ a b : Int, d = [a, b] ∧ 0 ≤ a ∧ a < L ∧ 0 ≤ b ∧ b < L) ∧
  ∀ x G' H', Gr G H G' H' → TabAt K G' x (pairRows L ds) → Q (.ref x) H'
theorem all_true4 (n : Nat) : (List.replicate n true).all id = true := by
  rw [List.all_replicate]
  split <;> rfl
theorem isIntV_of6 {i lo hi : Int} (h1 : lo ≤ i) (h2 : i ≤ hi) : isIntV (.int i) (.int lo) (.int hi) = true := by
  show (decide (lo ≤ i) && decide (i ≤ hi)) = true
  rw [decide_eq_true h1, decide_eq_true h2]
  rfl
theorem ok_Table_pairs (e : Ev K mg) : FnR P w K mg base CX0 6 (wf K (ga K "Table") "classmethod" "pairs") (starSp 2 (sp_Table_pairs K)) := by
  refine star_ok (ps := ["cls", "letters"]) (F_Table_pairs e) sc_Table_pairs bs_Table_pairs (fun cdv A outer s H vs Q E hr h => ?_)
  obtain ⟨G, L, t, ws, ds, rfl, hg, ht, hp, l1, l5, w5, hd, q⟩ := h
  refine ⟨_, PSs.nox (pss_cons (ps_expr (u_call (ok_need_letters e) (hr.mono (by decide)) (by rfl) (gl_need_letters e) (kp_need_letters e) (bn_need_letters_1 e) passF (pa_cons (uv 1) pa_nil)))
          (pss_cons (u_for PassesOwn.never (by rfl) (k_seq (K := K) rfl (uv 2)) (pg_name (i := 3) sc_Table_pairs.nd (by rfl) (by first | exact Or.inl rfl | exact Or.inr rfl)) (pss_cons (u_if (PW.pt (u_orT (pt_not (k_tru (K := K) rfl (pe_callB (id := "isinstance") (k_isi (K := K) rfl) (by rfl) (fr_isinstance e) (by decide +kernel) (pa_cons (uv 3) (pa_cons (u_ty (n := "tuple") (by rfl) (fr_tuple e) (by decide +kernel)) pa_nil))))) (u_or1 (u_cmpT (k_ne (K := K) rfl hr.units) (pe_callB (id := "len") (k_len (K := K) rfl) (by rfl) (fr_len e) (by decide +kernel) (pa_cons (uv 3) pa_nil)) pe_int (nomark _))))) (pss_one ps_never) pss_nil)
          (pss_one (u_if (pt_not (k_tru (K := K) rfl (pe_callB (id := "all") (k_all (K := K) rfl (by rfl)) (by rfl) (fr_all e) (by decide +kernel) (pa_cons (u_lc (own := [("letter", 4)]) (by rfl) sc_Table_pairs.nd (k_seq (K := K) rfl (uv 3)) (blkOk_by (by kernel_rfl)) (fun _ _ _ _ _ => (pg_name (i := 4) sc_Table_pairs.nd (by rfl) (by first | exact Or.inl rfl | exact Or.inr rfl))) (fun _ _ _ _ _ => pts_nil) (fun _ _ _ _ _ => (u_call (ok_is_integer e) (hr.mono (by decide)) (by rfl) (gl_is_integer e) (kp_is_integer e) (bn_is_integer_3 e) pass0 (pa_cons (uv 4) (pa_cons pe_int (pa_cons (pe_op o_sub (uv 1) pe_int) pa_nil)))))) pa_nil)))) (pss_one ps_never) pss_nil))))
          (pss_one (ps_ret (u_makeL (i := 0) (mk_Table e) (ok_Table_init e) (hr.mono (by decide)) (by rfl) (by first | exact Or.inl rfl | exact Or.inr (Or.inl rfl) | exact Or.inr (Or.inr rfl)) (b_Table_init e) .nil pass0 (pa_cons (u_lc (own := [("one", 6)]) (by rfl) sc_Table_pairs.nd (piu_range1 (by rfl) (fr_range e) (pa_cons (uv 1) pa_nil)) (blkOk_by (by kernel_rfl)) (fun _ _ _ _ _ => (pg_name (i := 6) sc_Table_pairs.nd (by rfl) (by first | exact Or.inl rfl | exact Or.inr rfl))) (fun _ _ _ _ _ => pts_nil) (fun _ _ _ _ _ => (u_lc (own := [("other", 5)]) (by rfl) sc_Table_pairs.nd (piu_range1 (by rfl) (fr_range e) (pa_cons (uv 1) pa_nil)) (blkOk_by (by kernel_rfl)) (fun _ _ _ _ _ => (pg_name (i := 5) sc_Table_pairs.nd (by rfl) (by first | exact Or.inl rfl | exact Or.inr rfl))) (fun _ _ _ _ _ => pts_nil) (fun _ _ _ _ _ => (u_ifExp (u_cmpT (k_in (K := K) rfl (room65 hr)) (u_tup (pa_cons (uv 6) (pa_cons (uv 5) pa_nil))) (uv 2) (by rfl)) pe_int pe_non))))) pa_nil)))))), ?_⟩
  have lw : ws.length = ds.length := paired_len hp
  have okL : isIntD 1 5 (.int (L : Int)) = true := by
    show (decide ((1 : Int) ≤ L) && decide ((L : Int) ≤ 5)) = true
    rw [decide_eq_true (by omega), decide_eq_true (by omega)]
    rfl
  refine ⟨.int L, false, .int L, rfl, .int _, fun _ => ?_, fun z => absurd z (by rw [okL]; exact fun z => nomatch z)⟩
  refine ⟨false, ws, Evl.ex_t hg ht, ?_⟩
  refine ⟨fun i σ H' => ∃ (y3 : Option V), Ex H H' ∧ σ = [some (.ref (ga K "Table")), some (.int L), some (.ref t), y3, none, none, none], ?_, ?_, ?_, ?_⟩
  · exact ⟨none, ex_refl _, rfl⟩
  · rintro i σ H' _ ⟨y3, x1, _⟩
    exact Evl.ex_t (ex_trans hg x1) ht
  · rintro i x σ H1 H' hi ⟨y3, x1, rfl⟩ ⟨rfl, hx⟩
    obtain ⟨d, e1, tp, rfl, st⟩ := paired_at hp hx
    obtain ⟨a, b, rfl, a0, a1, b0, b1⟩ := hd d (List.mem_of_getElem? e1)
    have hg1 := ex_trans hg x1
    have st1 : SqT K H' tp [.int a, .int b] := Evl.ex_t hg1 st
    refine isi_go (isi_tup (b := true) st1 (by decide +kernel)) ?_
    refine ⟨_, Or.inr st1, ?_⟩
    refine ⟨false, _, st1, ?_⟩
    refine lc_pure hg1 (fun i _ acc => acc = (List.replicate i true).map V.bl) (szr (n := 2) (by decide +kernel)) rfl ?_ ?_ ?_ ?_
    · rintro i _ acc rfl
      rw [List.length_map, List.length_replicate]
      exact Nat.le_refl _
    · intro G2 H2 g2
      exact Evl.ex_t (ex_trans g2.gg g2.gh) st
    · rintro i x G2 H2 H3 acc hi g2 rfl ⟨rfl, hx⟩ R R0 r1 r2
      have hz : ∃ z : Int, x = .int z ∧ 0 ≤ z ∧ z < L := by
        rcases i with _ | _ | i
        · exact ⟨a, (Option.some.inj hx).symm, a0, a1⟩
        · exact ⟨b, (Option.some.inj hx).symm, b0, b1⟩
        · cases hx
      obtain ⟨z, rfl, z0, z1⟩ := hz
      refine ⟨rfl, ?_⟩
      refine ⟨_, _, _, rfl, isi_int_int, isi_int_bool, Or.inr ⟨_, rfl⟩, Or.inr ⟨_, rfl⟩, ?_⟩
      rw [isIntV_of6 z0 (show z ≤ (L : Int) - 1 by omega)]
      refine r1 _ G2 _ (Gr.refl g2.gh) ?_
      rw [List.replicate_succ']
      simp
    · rintro D G2 H2 acc g2 hD _ h3 rfl
      refine ⟨_, SqL.of h3, ?_⟩
      rw [all_true4]
      exact ⟨_, ex_trans x1 g2.hh, rfl⟩
  · rintro σ H1 ⟨y3, x1, rfl⟩
    have g1 : Gr G H G H1 := ⟨x1, ex_refl _, ex_trans hg x1, fun _ _ => rfl⟩
    refine ⟨rfl, ?_⟩
    refine ⟨⟨by omega, by omega⟩, ?_⟩
    rw [show ((L : Int)).toNat = L from Int.toNat_natCast L]
    refine lc_pure g1.gh (fun i G acc => Paired (fun w r => ∃ (b : Addr) (g : Bool), w = V.ref b ∧ Sq g K G b (List.map pV r)) acc ((pairRows L ds).take i)) ?_ .nil ?_ (fun _ _ _ => trivial) ?_ ?_
    · exact Nat.le_trans l5 (szr (by decide +kernel))
    · intro i _ acc h1
      rw [paired_len h1, List.length_take]
      omega
    · rintro i x G2 H2 H3 acc hi g2 h1 ⟨rfl, rfl⟩ R R0 r1 r2
      have hiL : i < L := hi
      refine ⟨rfl, ?_⟩
      refine ⟨⟨by omega, by omega⟩, ?_⟩
      rw [show ((L : Int)).toNat = L from Int.toNat_natCast L]
      refine lc_pure g2.gh (fun j _ acc => acc = ((pairRow L ds i).take j).map pV) ?_ rfl ?_ (fun _ _ _ => trivial) ?_ ?_
      · exact Nat.le_trans l5 (szr (by decide +kernel))
      · rintro j _ acc rfl
        rw [List.length_map, List.length_take]
        omega
      · rintro j x G3 H3 H4 acc hj g3 rfl ⟨rfl, rfl⟩ S S0 r3 r4
        have hjL : j < L := hj
        refine ⟨rfl, ?_⟩
        refine ⟨szr (n := 2) (by decide +kernel), fun tp H5 nw5 => ?_⟩
        simp only [Int.zero_add] at nw5
        have x5 : Ex G H5 := ex_trans g1.gg (ex_trans g2.gg (ex_trans g3.gg (ex_trans g3.gh nw5.ex)))
        have sh := tups_shaped (ds := ds) (m := 1000) (k := 2) (by omega) (fun d hd' => by obtain ⟨a, b, rfl, _⟩ := hd d hd'; simp) (fun d hd' z hz => by
          obtain ⟨a, b, rfl, a0, a1, b0, b1⟩ := hd d hd'
          simp only [List.mem_cons, List.not_mem_nil, or_false] at hz
          rcases hz with rfl | rfl
          · omega
          · omega)
        have sd : Sm 1 (2 * 301) (.tuple ([(i : Int), (j : Int)].map PyData.int)) := sm_ints (by simp) (fun z hz => by
          simp only [List.mem_cons, List.not_mem_nil, or_false] at hz
          rcases hz with rfl | rfl
          · omega
          · omega)
        refine Or.inl ⟨.tuple ([(i : Int), (j : Int)].map PyData.int), _, .tup (SqT.of nw5.at) (dpAll_int [(i : Int), (j : Int)]), Or.inr ⟨.tup (Evl.ex_t x5 ht) (dpAll_tups (tups_up x5 hp)), sh.1.shaped (by decide)⟩, sd.shaped (by decide), ?_⟩
        have hent : (pairRow L ds i)[j]? = some (if [(i : Int), (j : Int)] ∈ ds then some 0 else none) := by
          unfold pairRow
          rw [List.getElem?_map, List.getElem?_range hjL]
          rfl
        have fin : ∀ x : Option Int, (if [(i : Int), (j : Int)] ∈ ds then some 0 else none) = x → S (pV x) H5 := fun x hx => by
          refine r3 _ G3 H5 (nw5.gr0 g3.gh) ?_
          rw [List.take_add_one, hent, hx, List.map_append]
          rfl
        refine bite_mk (fun hc => ?_) (fun hc => ?_)
        · have hc' : ((ds.map fun d => PyData.tuple (d.map PyData.int)).any fun z => PyData.eqv z (.tuple ([(i : Int), (j : Int)].map PyData.int))) = true := hc
          rw [any_tup] at hc'
          exact fin (some 0) (if_pos (of_decide_eq_true hc'))
        · have hc' : ((ds.map fun d => PyData.tuple (d.map PyData.int)).any fun z => PyData.eqv z (.tuple ([(i : Int), (j : Int)].map PyData.int))) = false := hc
          rw [any_tup] at hc'
          exact fin none (if_neg (of_decide_eq_false hc'))
      · rintro D2 G3 H3 acc g3 hD2 hGD2 h3 rfl
        rw [List.take_of_length_le (by rw [pairRow_len]; exact Nat.le_refl _)] at h3
        have xD : Ex G3 (upd G3 D2 (.lst ((pairRow L ds i).map pV))) := Evl.Ex.new hGD2
        refine r1 _ (upd G3 D2 (.lst ((pairRow L ds i).map pV))) H3 (g3.frz hD2 hGD2 h3) ?_
        have hr : (pairRows L ds)[i]? = some (pairRow L ds i) := by
          unfold pairRows
          rw [List.getElem?_map, List.getElem?_range hiL]
          rfl
        rw [List.take_add_one, hr]
        exact paired_one (paired_imp2 h1 fun w r _ ⟨b, g, k1, k2⟩ => ⟨b, g, k1, Sq.up (ex_trans g3.gg xD) k2⟩) ⟨D2, true, rfl, SqL.of upd_same⟩
    · rintro D G2 H2 acc g2 hD hGD h3 h4
      rw [List.take_of_length_le (by rw [pairRows_len]; exact Nat.le_refl _)] at h4
      have xD : Ex G2 (upd G2 D (.lst acc)) := Evl.Ex.new hGD
      have g3 : Gr G H (upd G2 D (.lst acc)) H2 := (g1.trans g2).frz (g1.new hD) hGD h3
      refine fun y dy H6 md => ⟨_, y, dy, .ref D, pairRows L ds, rfl, ex_trans g3.gh md.ex, ex_none g3.gh md.nx, md.at, ⟨D, true, acc, rfl, SqL.of upd_same, paired_imp2 h4 fun w r _ ⟨b, g, k1, k2⟩ => ⟨b, g, k1, Sq.up xD k2⟩⟩, pairRows_sq L ds, by rw [pairRows_len]; omega, by rw [pairRows_len]; omega, fun r hr x hx i e => by have := pairRows_ok L ds r hr x hx i e; omega, fun ent G7 H7 g7 hx7 d7 => ⟨rfl, ?_⟩⟩
      have g8 := made_gr md g3.gh g7 hx7
      exact q y _ H7 (g3.trans g8) ⟨dy, ent, upd_same, dp_up (Evl.Ex.new ((g7.fix y (some_ne md.at)).trans (ex_none g3.gh md.nx))) d7⟩
end
end k80

namespace k80
open PySem PySem.Spec PyProof.Rows L2 Ech
open He (ga ma)
open He5 (wf)
/-! ### own_table -/
theorem sc_own_table : FnScope ["letters", "row", "delay", "pairs"] ["letters", "row", "delay"] (defScope s_own_table) := ⟨rfl, rfl, rfl, by decide +kernel, rfl, by decide +kernel, by decide +kernel⟩
section
variable {P : Program} {w : World} {K : PySem.W.Frag} {mg : PySem.Str → Option Value} {base : Heap}
theorem F_own_table (e : Ev K mg) : FunD K "own_table" "own_table" (defArgs s_own_table) (defBody s_own_table) (defScope s_own_table) [] [] (ga K "own_table") (fdA K (ga K "own_table")) := e.fun_ 32 (d := d_own_table)
theorem kp_own_table (e : Ev K mg) : PySem.W.keepIn K (.ref (ga K "own_table")) = true := (F_own_table e).kp
theorem b_own_table (e : Ev K mg) : Binds K (fdA K (ga K "own_table")) ["letters", "row", "delay"] [] := (F_own_table e).bindsN fun _ _ _ _ _ _ us hl => match us, hl with | [_, _, _], _ => rfl
theorem bn_own_table_3 (e : Ev K mg) : Bnd K (ga K "own_table") ["letters", "row", "delay"] [] := ⟨[], .nil, b_own_table e⟩
def sp_own_table (K : PySem.W.Frag) : Sp := fun vs H Q E => ∃ (G : Hp) (lv rv dv : V) (f1 f2 f3 : Bool) (ld rd dd : PyData), vs = [lv, rv, dv] ∧ Ex G H ∧ Dq K G f1 lv ld ∧ Dq K G f2 rv rd ∧ Dq K G f3 dv dd ∧
  (isIntD 1 5 ld = false → RaisesQ K "InvalidNumber" lv H E) ∧ (∀ L, ld = .int L → isIntD 1 5 ld = true → shortD L rd = false → RaisesQ K "InvalidRow" rv H E) ∧
  (∀ L, ld = .int L → isIntD 1 5 ld = true → shortD L rd = true → isIntD 1 (10 ^ 30) dd = false → RaisesQ K "InvalidNumber" dv H E) ∧
  (∀ L, ld = .int L → isIntD 1 5 ld = true → shortD L rd = true → isIntD 1 (10 ^ 30) dd = true → ∀ x G' H', Gr G H G' H' → Q (.ref x) H')
theorem paired_map_l {α β γ : Type} {R : α → β → Prop} {S : γ → β → Prop} {f : α → γ} : ∀ {as : List α} {bs : List β}, Paired R as bs → (∀ a b, R a b → S (f a) b) → Paired S (as.map f) bs
  | _, _, .nil, _ => .nil
  | _, _, .cons h t, i => .cons (i _ _ h) (paired_map_l t i)
theorem met_min {ns : List Int} {d : Int} (h : 1 ≤ d) : metAt ns (min d (ns.length : Int)).toNat = metAt ns d.toNat := by
  by_cases c : d ≤ ns.length
  · rw [show min d (ns.length : Int) = d by omega]
  · unfold metAt
    rw [show ns.length - (min d (ns.length : Int)).toNat = 0 by omega, show ns.length - d.toNat = 0 by omega]
    rfl
theorem met_in {L : Nat} {ns : List Int} {d : Nat} (hd : 1 ≤ d) (hin : ∀ i ∈ ns, 0 ≤ i ∧ i < (L : Int)) : ∀ e ∈ metAt ns d, ∃ a b : Int, e = [a, b] ∧ 0 ≤ a ∧ a < L ∧ 0 ≤ b ∧ b < L := by
  intro e he
  obtain ⟨k, hk, rfl⟩ := List.mem_map.mp he
  have hk' := List.mem_range.mp hk
  have m1 := hin _ (getD_mem (ns := ns) (k := k) (by omega))
  have m2 := hin _ (getD_mem (ns := ns) (k := k + d) (by omega))
  exact ⟨_, _, rfl, m1.1, m1.2, m2.1, m2.2⟩
theorem ok_own_table (e : Ev K mg) : FnOk P w K mg base (L2.CX P w) 7 (ga K "own_table") (fdA K (ga K "own_table")) ["letters", "row", "delay"] (sp_own_table K) := by
  refine (F_own_table e).ok sc_own_table (fun vs H Q E h => ?_) (fun cdv A outer s H vs Q E hr h => ?_)
  · obtain ⟨G, lv, rv, dv, f1, f2, f3, ld, rd, dd, rfl, _⟩ := h
    rfl
  · obtain ⟨G, lv, rv, dv, f1, f2, f3, ld, rd, dd, rfl, hg, dl, dr, de, q1, q2, q3, q4⟩ := h
    refine ⟨_, (pss_cons (ps_expr (u_callT (takes_of rfl rfl rfl rfl) (ok_need_letters e) (hr.mono (by decide)) (by rfl) (gl_need_letters e) (kp_need_letters e) (bn_need_letters_1 e) (pa_cons (uv 0) pa_nil)))
            (pss_cons (ps_expr (u_callT (takes_of rfl rfl rfl rfl) (ok_need_short_row e) (hr.mono (by decide)) (by rfl) (gl_need_short_row e) (kp_need_short_row e) (bn_need_short_row_2 e) (pa_cons (uv 0) (pa_cons (uv 1) pa_nil))))
            (pss_cons (u_if (pt_not (k_tru (K := K) rfl (u_call (ok_is_integer e) (hr.mono (by decide)) (by rfl) (gl_is_integer e) (kp_is_integer e) (bn_is_integer_3 e) pass0 (pa_cons (uv 2) (pa_cons pe_int (pa_cons (u_gint (by rfl) (con_FARTHEST e)) pa_nil)))))) (pss_one (u_raise (by rfl) (takes_of rfl rfl rfl rfl) (er_InvalidNumber e).oex (er_InvalidNumber e).ini (er_InvalidNumber e).fun_ (ok_InvalidNumber_init e) (hr.mono (by decide)) (b_InvalidNumber_init e) pass0 (by rfl) (gl_InvalidNumber e) (pa_cons (uv 2) pa_nil))) pss_nil)
            (pss_cons (ps_set (i := 3) sc_own_table.nd (by rfl) (Or.inl rfl) (u_call (ok_pairs_at e) (hr.mono (by decide)) (by rfl) (gl_pairs_at e) (kp_pairs_at e) (bn_pairs_at_2 e) pass0 (pa_cons (uv 1) (pa_cons (pe_callB (id := "min") (c_min (by rfl)) (by rfl) (fr_min e) (by decide +kernel) (pa_cons (uv 2) (pa_cons (pe_callB (id := "len") (k_len (K := K) rfl) (by rfl) (fr_len e) (by decide +kernel) (pa_cons (uv 1) pa_nil)) pa_nil))) pa_nil))))
            (pss_one (ps_ret (u_cmethS (K := K) rfl (by rfl) (gl_Table e) (cr_Table e) (cm_Table_pairs e) (ok_Table_pairs e) (hr.mono (by decide)) pass0 (uv 0) (uv 3)))))))), ?_⟩
    refine ⟨lv, f1, ld, rfl, dl.up hg, fun hz1 => ?_, fun hz => q1 hz⟩
    obtain ⟨Li, rfl, rfl, L1, L5⟩ := int_of dl hz1
    obtain ⟨L, rfl⟩ : ∃ L : Nat, Li = (L : Int) := ⟨Li.toNat, by omega⟩
    have l1 : 1 ≤ L := by omega
    have l5 : L ≤ 5 := by omega
    refine ⟨G, L, rv, f2, rd, rfl, hg, dr, fun hz2 H1 x1 => ?_, fun hz => q2 L rfl hz1 hz⟩
    obtain ⟨r, ns, rfl, hs, n1, n40, hn1⟩ := short_ints dr hz2
    have hin : ∀ i ∈ ns, 0 ≤ i ∧ i < (L : Int) := fun i hi => ⟨(hn1 i hi).1, by have := (hn1 i hi).2; omega⟩
    have g1 : Gr G H G H1 := ⟨x1, ex_refl _, ex_trans hg x1, fun _ _ => rfl⟩
    have de1 := de.up g1.gh
    refine ⟨_, _, _, rfl, de1.isiV.1, de1.isiV.2, Or.inr ⟨_, rfl⟩, Or.inr ⟨_, rfl⟩, ?_⟩
    rw [intV_D de1]
    cases hz3 : isIntD 1 (10 ^ 30) dd with
    | false =>
      exact fun d' H2 n2 => q3 L rfl hz1 hz2 hz3 d' H1 H2 x1 n2
    | true =>
    obtain ⟨d, rfl, rfl, d1, d30⟩ := int_of de hz3
    refine ⟨_, Or.inr (Evl.ex_t g1.gh hs), ?_⟩
    rw [List.length_map]
    have hm : min d (ns.length : Int) = (((min d (ns.length : Int)).toNat : Nat) : Int) := by omega
    refine ⟨G, r, ns, (min d (ns.length : Int)).toNat, (by show [V.ref r, V.int (min d (ns.length : Int))] = _; rw [← hm]), g1.gh, hs, by omega, by omega, fun l ts G2 H2 g2 sl pr => ?_⟩
    have lt : ts.length ≤ 40 := by
      rw [paired_len pr, List.length_map, List.length_range]
      omega
    refine ⟨_, Or.inr (Evl.ex_l g2.gh sl), ?_⟩
    refine ⟨[_, _], _, rfl, rfl, Nat.le_trans (by rw [List.length_map]; exact lt) (szr (n := 40) (by decide +kernel)), fun p H3 nw3 => ?_⟩
    have g3 := nw3.gr g2.gh
    refine ⟨_, L, p, ts.map V.ref, metAt ns (min d (ns.length : Int)).toNat, rfl, g3.gh, SqT.of upd_same, ?_, l1, l5, by rw [List.length_map]; omega, met_in (by omega) hin, fun x G4 H4 g4 tb => ?_⟩
    · have pr2 : Paired (fun t e => TupAt K G2 (V.ref t) e) ts (metAt ns (min d (ns.length : Int)).toNat) := by
        have gen : ∀ {ts : List Addr} {ks : List Nat}, Paired (fun t row => G2 t = some (.tup row)) ts (ks.map (pairV ns (min d (ns.length : Int)).toNat)) → Paired (fun t e => TupAt K G2 (V.ref t) e) ts (ks.map fun k => [ns.getD k 0, ns.getD (k + (min d (ns.length : Int)).toNat) 0]) := by
          intro ts ks
          induction ks generalizing ts with
          | nil => intro h; cases h; exact .nil
          | cons k ks ih =>
            intro h
            cases h with
            | cons h t => exact .cons ⟨_, rfl, SqT.of h⟩ (ih t)
        exact gen pr
      exact paired_map_l pr2 fun t e h => h.up g3.gg
    · rw [met_min d1] at tb
      exact q4 L rfl hz1 hz2 hz3 x G4 H4 (g1.trans (g2.trans (g3.trans g4)))
end
end k80

namespace k80
open PySem PySem.Spec PyProof.Rows L2 Ech
open He (ga ma)
open He5 (wf)
/-! ### law -/
theorem sc_law : FnScope ["_law_script", "_law_pen_here", "_law_turn", "_law_letters", "_law_table", "_law_short", "_law_k", "_law_rows_here", "_law_row", "_law_value", "_law_due", "_law_many", "_law_delay"] ["_law_script"] (defScope s_law) := ⟨rfl, rfl, rfl, by decide +kernel, rfl, by decide +kernel, by decide +kernel⟩
section
variable {P : Program} {w : World} {K : PySem.W.Frag} {mg : PySem.Str → Option Value} {base : Heap}
theorem F_law (e : Ev K mg) : FunD K "law" "law" (defArgs s_law) (defBody s_law) (defScope s_law) [] [] (ga K "law") (fdA K (ga K "law")) := e.fun_ 41 (d := d_law)
set_option maxHeartbeats 40000000
def sp_law (K : PySem.W.Frag) : Sp := fun vs H Q _ => ∃ (a : Addr) (ns : List Int), vs = [.ref a] ∧ SqL K H a (ns.map V.int) ∧ ns.length ≤ 63 ∧ (∀ p ∈ T_, H p.1 = some (.tbl #[])) ∧ ∀ H', Q (.bl true) H'
def rMulN (K : PySem.W.Frag) : R2 := fun x y H Q => match x, y with
  | .ref l, .int k => ∃ xs, SqT K H l xs ∧ xs ≠ [] ∧ 1 ≤ k ∧ k ≤ 1000 ∧ xs.length ≤ 1000 ∧ (k = 1 → Q (.ref l) H) ∧ ∀ p, H p = none → Q (.ref p) (upd H p (.tup (List.replicate k.toNat xs).flatten))
  | _, _ => False
theorem o_mulN {X : Cx} {K : PySem.W.Frag} (hK : X.K = K) : OpR X (binaryOp .Mult) (rMulN K) := by
  subst hK
  refine op_wk (op_rep1.or op_repT) fun x y H Q h => ?_
  unfold rMulN at h
  split at h
  · obtain ⟨xs, h1, h2, h3, h4, h5, h6, h7⟩ := h
    rename_i l k
    by_cases e : k = 1
    · subst e
      exact .inl ⟨l, xs, rfl, rfl, h1, h6 rfl⟩
    · exact .inr ⟨l, k, xs, rfl, rfl, h1, h2, by omega, h4, h5, h7⟩
  · exact h.elim
theorem draws_tup {K : PySem.W.Frag} {H : Hp} {a : Addr} {ns : List Int} (h : SqT K H a (ns.map V.int)) : Dp K H (.ref a) (.tuple (ns.map PyData.int)) := .tup h (dpAll_int ns)
theorem ints_sm {ns : List Int} {m : Nat} (hm : ns.length ≤ m) (hb : ∀ n ∈ ns, n.natAbs < 10 ^ 90) : ∀ d ∈ ns.map PyData.int, Sm 0 300 d := fun d hd => by
  obtain ⟨n, hn, rfl⟩ := List.mem_map.mp hd
  exact sm_int (hb n hn)
theorem none_q {K : PySem.W.Frag} {H : Hp} : AnyQ K H false 0 0 .non .none := ⟨.non, (fun z => absurd z (by decide)), ⟨by decide +kernel, by decide +kernel, by decide +kernel, by decide +kernel⟩⟩
theorem ok_law (e : Ev K mg) (tb : TBs base mg) : FnG P w K mg base CX0 12 (ga K "law") (fdA K (ga K "law")) ["_law_script"] (sp_law K) := by
  refine FnG.bodyC (F_law e) sc_law (fun vs H Q E h => ?_) (fun cdv A outer s H vs Q E hcd hr hq h => ?_)
  · obtain ⟨a, ns, rfl, _⟩ := h
    rfl
  · obtain ⟨a, ns0, rfl, hS, hl, hT, q⟩ := h
    refine ⟨_, PSs.nox (pss_cons (ps_set (i := 1) sc_law.nd (by rfl) (Or.inr rfl) (u_callQ (ok__law_pen e) (hr.mono (by decide)) hq (by rfl) (gl__law_pen e) (kp__law_pen e) (bn__law_pen_1 e) pass0 (pa_cons (uv 0) pa_nil)))
            (pss_cons (u_for PassesOwn.never (by rfl) (piu_range1 (by rfl) (fr_range e) (pa_cons pe_int pa_nil)) (pg_name (i := 2) sc_law.nd (by rfl) (by first | exact Or.inl rfl | exact Or.inr rfl)) (pss_cons (ps_set (i := 3) sc_law.nd (by rfl) (Or.inr rfl) (pe_op (k_add (K := K) rfl) pe_int (u_callQ (ok__law_draw e) (hr.mono (by decide)) hq (by rfl) (gl__law_draw e) (kp__law_draw e) (bn__law_draw_2 e) pass0 (pa_cons (uv 1) (pa_cons pe_int pa_nil)))))
            (pss_cons (u_par (i := 4) (j := 5) (by rfl) sc_law.nd (by rfl) (by rfl) (by decide) (by rfl) (by rfl) (pa_cons (u_make (mk_Table e) (ok_Table_init e) (hr.mono (by decide)) (by rfl) (gl_Table e) (b_Table_init e) .nil pass0 (pa_cons (u_callQ (ok__law_rows e) (hr.mono (by decide)) hq (by rfl) (gl__law_rows e) (kp__law_rows e) (bn__law_rows_3 e) pass0 (pa_cons (uv 1) (pa_cons (uv 3) (pa_cons pe_int pa_nil)))) pa_nil)) (pa_cons (pe_callTy (T := "tuple") (k_tuple (K := K) rfl) (by rfl) (fr_tuple e) (by decide +kernel) (pa_cons (u_lc (own := [("_law_k", 6)]) (by rfl) sc_law.nd (piu_range1 (by rfl) (fr_range e) (pa_cons pe_int pa_nil)) (blkOk_by (by kernel_rfl)) (fun _ _ _ _ _ => (pg_name (i := 6) sc_law.nd (by rfl) (by first | exact Or.inl rfl | exact Or.inr rfl))) (fun _ _ _ _ _ => pts_nil) (fun _ _ _ _ _ => (u_callQ (ok__law_draw e) (hr.mono (by decide)) hq (by rfl) (gl__law_draw e) (kp__law_draw e) (bn__law_draw_2 e) pass0 (pa_cons (uv 1) (pa_cons (uv 3) pa_nil))))) pa_nil)) pa_nil)) (by rfl))
            (pss_cons (ps_set (i := 7) sc_law.nd (by rfl) (Or.inl rfl) (u_lst (pa_cons (uv 5) (pa_cons (uv 5) (pa_cons (u_tup pa_nil) (pa_cons (pe_callTy (T := "list") (k_list (K := K) rfl) (by rfl) (fr_list e) (by decide +kernel) (pa_cons (uv 5) pa_nil)) (pa_cons (pe_op (o_mulN (K := K) rfl) (u_tup (pa_cons pe_int pa_nil)) pe_int) (pa_cons (pe_op (o_mulN (K := K) rfl) (u_tup (pa_cons pe_int pa_nil)) pe_int) (pa_cons (pe_op (k_addT (K := K) rfl) (uv 5) (u_tup (pa_cons (uv 3) pa_nil))) (pa_cons (pe_op (k_addT (K := K) rfl) (uv 5) (u_tup (pa_cons (pe_un o_neg pe_int) pa_nil))) (pa_cons (u_tup (pa_cons pe_bl (pa_cons pe_int pa_nil))) pa_nil)))))))))))
            (pss_cons (ps_set (i := 8) sc_law.nd (by rfl) (Or.inr rfl) (u_callQ (ok__law_pick e) (hr.mono (by decide)) hq (by rfl) (gl__law_pick e) (kp__law_pick e) (bn__law_pick_2 e) pass0 (pa_cons (uv 1) (pa_cons (pe_op (k_add (K := K) rfl) (uv 7) (u_lst (pa_cons (u_callQ (ok__law_odd e) (hr.mono (by decide)) hq (by rfl) (gl__law_odd e) (kp__law_odd e) (bn__law_odd_2 e) pass0 (pa_cons (uv 1) (pa_cons pe_int pa_nil))) (pa_cons (pe_op (k_addT (K := K) rfl) (uv 5) (u_tup (pa_cons pe_non pa_nil))) pa_nil)))) pa_nil))))
            (pss_cons (ps_set (i := 9) sc_law.nd (by rfl) (Or.inr rfl) (u_callQ (ok__law_pick e) (hr.mono (by decide)) hq (by rfl) (gl__law_pick e) (kp__law_pick e) (bn__law_pick_2 e) pass0 (pa_cons (uv 1) (pa_cons (u_lst (pa_cons (uv 4) (pa_cons (uv 4) (pa_cons (u_prop (uv 4) (cl_Table e) (pr_Table_rows e) (ok_Table_rows e) (hr.mono (by decide)) (b_Table_rows e) pass0) (pa_cons (u_callQ (ok__law_odd e) (hr.mono (by decide)) hq (by rfl) (gl__law_odd e) (kp__law_odd e) (bn__law_odd_2 e) pass0 (pa_cons (uv 1) (pa_cons pe_int pa_nil))) pa_nil))))) pa_nil))))
            (pss_cons (ps_set (i := 10) sc_law.nd (by rfl) (Or.inl rfl) (u_cutE (u_ifExp (k_tru (K := K) rfl (pe_callB (id := "isinstance") (k_isi (K := K) rfl) (by rfl) (fr_isinstance e) (by decide +kernel) (pa_cons (uv 9) (pa_cons (pe_glob (v := .ref (ga K "Table")) (by rfl) (gl_Table e) rfl) pa_nil)))) pe_non (u_tup (pa_cons pe_str (pa_cons (uv 9) (pa_cons pe_bl pa_nil)))))))
            (pss_cons (ps_cut (u_if (PW.pt (u_andT (u_cmpT o_is (uv 10) pe_non (nomark _)) (u_and1 (pt_not (k_tru (K := K) rfl (u_callQ (ok__law_is_some_row e) (hr.mono (by decide)) hq (by rfl) (gl__law_is_some_row e) (kp__law_is_some_row e) (bn__law_is_some_row_2 e) pass0 (pa_cons (uv 8) (pa_cons (uv 3) pa_nil)))))))) (pss_one (ps_set (i := 10) sc_law.nd (by rfl) (Or.inl rfl) (u_tup (pa_cons pe_str (pa_cons (uv 8) (pa_cons pe_bl pa_nil)))))) pss_nil))
            (pss_cons (ps_cut (u_if (u_cmpT (k_ne (K := K) rfl hr.units) (pe_callB (id := "repr") (k_reprQ (K := K) rfl hq hr.units) (by rfl) (fr_repr e) (by decide +kernel) (pa_cons (u_lam (k := 9) (T := T_) hq (by rfl) (gl__law_met e) (kp__law_met e) (F__law_met e) (b__law_met e) sc__law_met (by rfl) (by first | exact Or.inl rfl | exact Or.inr (Or.inl rfl)) (fun cdg => gv__law_met e (hr.mono (by decide)) hq cdg) (tb _ mem_law) (codeB_ok (cd_law e) hcd) inT_law oneT_law (hr.mono (by decide)) (LamX.lamS_by (by kernel_rfl)) (by rfl) (fun _ _ _ _ _ => rfl) (fun A outer s H E f c' hr hq => (u_callT (takes_of rfl rfl rfl rfl) (ok_own_delays e) (hr.mono (by decide)) (by rfl) (gl_own_delays e) (kp_own_delays e) (bn_own_delays_2 e) (pa_cons (uv 9) (pa_cons (uv 8) pa_nil))))) pa_nil)) (pe_callB (id := "repr") (k_reprQ (K := K) rfl hq hr.units) (by rfl) (fr_repr e) (by decide +kernel) (pa_cons (uv 10) pa_nil)) (nomark _)) (pss_one (ps_ret pe_bl)) pss_nil))
            (pss_cons (ps_set (i := 11) sc_law.nd (by rfl) (Or.inr rfl) (u_callQ (ok__law_pick e) (hr.mono (by decide)) hq (by rfl) (gl__law_pick e) (kp__law_pick e) (bn__law_pick_2 e) pass0 (pa_cons (uv 1) (pa_cons (u_lst (pa_cons (uv 3) (pa_cons (uv 3) (pa_cons pe_int (pa_cons pe_int (pa_cons pe_bl (pa_cons (u_callQ (ok__law_odd e) (hr.mono (by decide)) hq (by rfl) (gl__law_odd e) (kp__law_odd e) (bn__law_odd_2 e) pass0 (pa_cons (uv 1) (pa_cons pe_int pa_nil))) pa_nil))))))) pa_nil))))
            (pss_cons (ps_set (i := 12) sc_law.nd (by rfl) (Or.inr rfl) (u_callQ (ok__law_pick e) (hr.mono (by decide)) hq (by rfl) (gl__law_pick e) (kp__law_pick e) (bn__law_pick_2 e) pass0 (pa_cons (uv 1) (pa_cons (u_lst (pa_cons pe_int (pa_cons pe_int (pa_cons pe_int (pa_cons (pe_un o_neg pe_int) (pa_cons (pe_op o_pow pe_int pe_int) (pa_cons (pe_op (k_add (K := K) rfl) (pe_op o_pow pe_int pe_int) pe_int) (pa_cons pe_bl (pa_cons (u_callQ (ok__law_odd e) (hr.mono (by decide)) hq (by rfl) (gl__law_odd e) (kp__law_odd e) (bn__law_odd_2 e) pass0 (pa_cons (uv 1) (pa_cons pe_int pa_nil))) pa_nil))))))))) pa_nil))))
            (pss_cons (ps_set (i := 10) sc_law.nd (by rfl) (Or.inl rfl) (u_cutE (u_ifExp (k_tru (K := K) rfl (u_callQ (ok__law_is_integer e) (hr.mono (by decide)) hq (by rfl) (gl__law_is_integer e) (kp__law_is_integer e) (bn__law_is_integer_3 e) pass0 (pa_cons (uv 12) (pa_cons pe_int (pa_cons (pe_op o_pow pe_int pe_int) pa_nil))))) pe_non (u_tup (pa_cons pe_str (pa_cons (uv 12) (pa_cons pe_bl pa_nil)))))))
            (pss_cons (ps_cut (u_if (pt_not (k_tru (K := K) rfl (u_callQ (ok__law_is_integer e) (hr.mono (by decide)) hq (by rfl) (gl__law_is_integer e) (kp__law_is_integer e) (bn__law_is_integer_3 e) pass0 (pa_cons (uv 11) (pa_cons pe_int (pa_cons pe_int pa_nil)))))) (pss_one (ps_set (i := 10) sc_law.nd (by rfl) (Or.inl rfl) (u_tup (pa_cons pe_str (pa_cons (uv 11) (pa_cons pe_bl pa_nil)))))) (pss_one (u_if (pt_not (k_tru (K := K) rfl (u_callQ (ok__law_is_some_row e) (hr.mono (by decide)) hq (by rfl) (gl__law_is_some_row e) (kp__law_is_some_row e) (bn__law_is_some_row_2 e) pass0 (pa_cons (uv 8) (pa_cons (uv 11) pa_nil))))) (pss_one (ps_set (i := 10) sc_law.nd (by rfl) (Or.inl rfl) (u_tup (pa_cons pe_str (pa_cons (uv 8) (pa_cons pe_bl pa_nil)))))) pss_nil))))
            (pss_one (u_if (u_cmpT (k_ne (K := K) rfl hr.units) (pe_callB (id := "repr") (k_reprQ (K := K) rfl hq hr.units) (by rfl) (fr_repr e) (by decide +kernel) (pa_cons (u_lam (k := 9) (T := T_) hq (by rfl) (gl__law_met e) (kp__law_met e) (F__law_met e) (b__law_met e) sc__law_met (by rfl) (by first | exact Or.inl rfl | exact Or.inr (Or.inl rfl)) (fun cdg => gv__law_met e (hr.mono (by decide)) hq cdg) (tb _ mem_law) (codeB_ok (cd_law e) hcd) inT_law oneT_law (hr.mono (by decide)) (LamX.lamS_by (by kernel_rfl)) (by rfl) (fun _ _ _ _ _ => rfl) (fun A outer s H E f c' hr hq => (u_callT (takes_of rfl rfl rfl rfl) (ok_own_table e) (hr.mono (by decide)) (by rfl) (gl_own_table e) (kp_own_table e) (bn_own_table_3 e) (pa_cons (uv 11) (pa_cons (uv 8) (pa_cons (uv 12) pa_nil)))))) pa_nil)) (pe_callB (id := "repr") (k_reprQ (K := K) rfl hq hr.units) (by rfl) (fr_repr e) (by decide +kernel) (pa_cons (uv 10) pa_nil)) (nomark _)) (pss_one (ps_ret pe_bl)) pss_nil)))))))))))))))
            (pss_one (ps_ret pe_bl)))), ?_⟩
    refine ⟨a, ns0, rfl, hS, hl, fun G1 H1 p x1 gh1 x1' pn1 => ?_⟩
    have tb1 : Tb T_ (dropT G1) H1 := Tb.start hT x1' gh1
    have gd1 : Ex (dropT G1) H1 := ex_trans dropT_ex gh1
    have pd1 := pn1.dropT
    clear pn1
    refine ⟨⟨by decide, by decide⟩, ?_⟩
    refine ⟨fun i σ H' => ∃ (G : Hp) (y2 y3 y4 y5 y6 y7 y8 y9 y10 y11 y12 : Option V), Ex G H' ∧ Pen K ("used" : PySem.Str) ("rest" : PySem.Str) G H' p (3000 * i) ∧ Tb T_ G H' ∧ σ = [some (.ref a), some (.ref p), y2, y3, y4, y5, y6, y7, y8, y9, y10, y11, y12], ⟨dropT G1, _, _, _, _, _, _, _, _, _, _, _, gd1, pd1, tb1, rfl⟩, fun _ _ _ _ _ => trivial, ?_, ?_⟩
    · rintro i x σ H2' H2 hi ⟨G2, y2, y3, y4, y5, y6, y7, y8, y9, y10, y11, y12, gh2, pn2, tb2, rfl⟩ ⟨rfl, rfl⟩
      have hi8 : i < 8 := hi
      refine ⟨G2, p, _, 5, rfl, gh2, pn2, by omega, by decide, by decide, fun w G3 H3 g3 pn3 w0 w1 => ?_⟩
      obtain ⟨L, hL⟩ : ∃ L : Nat, 1 + w = (L : Int) := ⟨(1 + w).toNat, by omega⟩
      refine ⟨G3, p, _, L, 9, (by rw [← hL]; rfl), g3.gh, pn3, by omega, by omega, by decide, by decide, fun v4 rows G4 H4 hr hlen hsq hgood g4 pn4 => ?_⟩
      refine fun y dy H6 md => ⟨G4, y, dy, v4, rows, rfl, ex_trans g4.gh md.ex, ex_none g4.gh md.nx, md.at, RowsAt.of hr, hsq, by omega, by omega, fun r hr x hx i hi => (hgood r hr x hx i hi).1, fun ent G7 H7 g7 hx7 d7 => ⟨rfl, ?_⟩⟩
      obtain ⟨G8, g8, t8⟩ : ∃ G8, Gr G4 H4 G8 H7 ∧ TabAt K G8 y rows := ⟨_, made_gr md g4.gh g7 hx7, ⟨dy, ent, upd_same, dp_up (Evl.Ex.new ((g7.fix y (some_ne md.at)).trans (ex_none g4.gh md.nx))) d7⟩⟩
      have pn8 := pn4.gr g8
      have T8 := (g3.trans g4).trans (g8.m p)
      refine ⟨⟨by decide, by decide⟩, ?_⟩
      refine lc_pen 1 pn8 g8.gh (fun k G acc => ∃ ns : List Int, acc = ns.map V.int ∧ ns.length = k ∧ ∀ n ∈ ns, 0 ≤ n ∧ n < (L : Int)) (szr (n := 3) (by decide +kernel)) ⟨[], rfl, rfl, fun n h => nomatch h⟩ (fun k G acc ⟨ns, h1, h2, _⟩ => by rw [h1, List.length_map, h2]; exact Nat.le_refl _) (fun _ _ _ => trivial) ?_ ?_
      · rintro k v G9 H9' H9 acc hk g9 pn9 ⟨ns, rfl, h2, h3⟩ ⟨rfl, rfl⟩ R R0 r1 r2
        have hk3 : k < 3 := hk
        refine ⟨rfl, ?_⟩
        refine ⟨G9, p, _, L, (by rw [← hL]; rfl), g9.gh, pn9, by omega, by omega, by omega, fun d G10 H10 g10 pn10 d0 d1 => ?_⟩
        refine r1 _ G10 H10 g10 (pn10.up (by omega)) ⟨ns ++ [d], by simp, by simp [h2], fun n hn => ?_⟩
        rcases List.mem_append.mp hn with hn | hn
        · exact h3 n hn
        · rw [List.mem_singleton.mp hn]
          exact ⟨d0, d1⟩
      rintro D9 G9 H9 acc9 g9 pn9 pD9 hD9 gD9 h9 ⟨ns, rfl, ns3, nsL⟩
      have ns3 : ns.length = 3 := ns3
      refine ⟨_, Or.inl ⟨SqL.of h9, fun sh H10 n10 => ?_⟩⟩
      have g10 := n10.gr g9.gh
      have s10 : SqT K (upd G9 sh (.tup (ns.map V.int))) sh (ns.map V.int) := SqT.of upd_same
      have pn10 := pn9.gr g10
      have T10 := T8.trans (g9.trans (g10.m p))
      have t10 := t8.up (ex_trans g9.gg g10.gg)
      generalize upd G9 sh (.tup (ns.map V.int)) = G10 at g10 s10 pn10 T10 t10
      clear g3 g4 pn4 pn3 g7 d7 hx7 g8 pn8 T8 t8 g9 pn9 h9 md hr
      have tb10 := tb2.pen pn2 T10
      have gh10 := g10.gh
      -- the rows that are picked from
      refine ⟨szr (n := 0) (by decide +kernel), fun a11 H11 n11 => ?_⟩
      have g11 := n11.gr gh10
      refine ⟨_, Or.inr (Evl.ex_t g11.gh (Evl.ex_t g11.gg s10)), fun a12 H12 n12 => ?_⟩
      have g12 := n12.gr g11.gh
      refine ⟨szr (n := 1) (by decide +kernel), fun a13 H13 n13 => ?_⟩
      have g13 := n13.gr g12.gh
      refine ⟨_, SqT.of n13.at, (fun z => nomatch z), by decide, by decide, (show 1 ≤ 1000 by decide), (fun z => absurd z (by decide)), fun a14 f14 => ?_⟩
      obtain ⟨H14, e14⟩ : ∃ H, H = upd H13 a14 (.tup (List.replicate (41 : Int).toNat [V.int 0]).flatten) := ⟨_, rfl⟩
      rw [← e14]
      have n14 : New H13 a14 (.tup (List.replicate (41 : Int).toNat [V.int 0]).flatten) H14 := ⟨f14, e14⟩
      have g14 := n14.gr g13.gh
      refine ⟨szr (n := 1) (by decide +kernel), fun a15 H15 n15 => ?_⟩
      have g15 := n15.gr g14.gh
      refine ⟨_, SqT.of n15.at, (fun z => nomatch z), by decide, by decide, (show 1 ≤ 1000 by decide), (fun z => absurd z (by decide)), fun a16 f16 => ?_⟩
      obtain ⟨H16, e16⟩ : ∃ H, H = upd H15 a16 (.tup (List.replicate (40 : Int).toNat [V.int 0]).flatten) := ⟨_, rfl⟩
      rw [← e16]
      have n16 : New H15 a16 (.tup (List.replicate (40 : Int).toNat [V.int 0]).flatten) H16 := ⟨f16, e16⟩
      have g16 := n16.gr g15.gh
      have gA := g11.trans (g12.trans (g13.trans (g14.trans (g15.trans g16))))
      have ne10 : ns.map V.int ≠ [] := fun z => by
        have := congrArg List.length z
        rw [List.length_map, ns3] at this
        cases this
      refine ⟨szr (n := 1) (by decide +kernel), fun a17 H17 n17 => ?_⟩
      have g17 := n17.gr gA.gh
      refine ⟨_, _, Evl.ex_t g17.gh (Evl.ex_t (ex_trans gA.gg g17.gg) s10), SqT.of n17.at, (by rw [List.length_map, ns3]; exact szr (n := 4) (by decide +kernel)), (fun z => absurd z ne10), (fun _ z => nomatch z), fun _ _ a18 H18 n18 => ?_⟩
      have g18 := n18.gr g17.gh
      refine ⟨szr (n := 1) (by decide +kernel), fun a19 H19 n19 => ?_⟩
      have g19 := n19.gr g18.gh
      have gB := gA.trans (g17.trans (g18.trans g19))
      refine ⟨_, _, Evl.ex_t gB.gh (Evl.ex_t gB.gg s10), SqT.of n19.at, (by rw [List.length_map, ns3]; exact szr (n := 4) (by decide +kernel)), (fun z => absurd z ne10), (fun _ z => nomatch z), fun _ _ a20 H20 n20 => ?_⟩
      have g20 := n20.gr g19.gh
      refine ⟨szr (n := 2) (by decide +kernel), fun a21 H21 n21 => ?_⟩
      have g21 := n21.gr g20.gh
      refine ⟨szr (n := 9) (by decide +kernel), fun a22 H22 n22 => ?_⟩
      obtain ⟨Gc, gC, sA11, sA12, sA14, sA16, sA18, sA20, sA21⟩ : ∃ Gc, Gr G10 H10 Gc H21 ∧ SqT K Gc a11 [] ∧ SqL K Gc a12 (ns.map V.int) ∧ SqT K Gc a14 (List.replicate (41 : Int).toNat [V.int 0]).flatten ∧ SqT K Gc a16 (List.replicate (40 : Int).toNat [V.int 0]).flatten ∧ SqT K Gc a18 (ns.map V.int ++ [V.int (1 + w)]) ∧ SqT K Gc a20 (ns.map V.int ++ [V.int (-1)]) ∧ SqT K Gc a21 [V.bl true, V.int 0] := by
        have c20 := g21.gg
        have c19 := ex_trans g20.gg c20
        have c18 := ex_trans g19.gg c19
        have c17 := ex_trans g18.gg c18
        have c16 := ex_trans g17.gg c17
        have c15 := ex_trans g16.gg c16
        have c14 := ex_trans g15.gg c15
        have c13 := ex_trans g14.gg c14
        have c12 := ex_trans g13.gg c13
        have c11 := ex_trans g12.gg c12
        exact ⟨_, gB.trans (g20.trans g21), Evl.ex_t c11 (SqT.of upd_same), Evl.ex_l c12 (SqL.of upd_same), Evl.ex_t c14 (SqT.of upd_same), Evl.ex_t c16 (SqT.of upd_same), Evl.ex_t c18 (SqT.of upd_same), Evl.ex_t c20 (SqT.of upd_same), SqT.of upd_same⟩
      have pnC := pn10.gr gC
      have tbC := tb10.gr gC
      have g22 := n22.gr0 gC.gh
      have pn22 := pnC.gr g22
      have tb22 := tbC.gr g22
      have p22 : p ≠ a22 := pnC.off n22.fresh
      have small : ∀ {i : Int}, 0 ≤ i → i < 10 → i.natAbs < 10 ^ 90 := fun h1 h2 => by omega
      have any0 : AnyQ K Gc true 6 4000 (.int 0) (.int 0) := ⟨.int 0, fun _ => rfl, ⟨by decide +kernel, by decide +kernel, by decide +kernel, by decide +kernel⟩⟩
      refine ⟨Gc, p, _, .int 0, .int 0, rfl, g22.gh, pn22, by omega, any0, fun v23 d23 G23 H23 av23 g23 pn23 => ?_⟩
      have s23 := Evl.ex_t (ex_trans gC.gg g23.gg) s10
      refine ⟨szr (n := 1) (by decide +kernel), fun a24 H24 n24 => ?_⟩
      have g24 := n24.gr g23.gh
      refine ⟨_, _, Evl.ex_t g24.gh (Evl.ex_t g24.gg s23), SqT.of n24.at, (by rw [List.length_map, ns3]; exact szr (n := 4) (by decide +kernel)), (fun z => absurd z ne10), (fun _ z => nomatch z), fun _ _ a25 H25 n25 => ?_⟩
      have g25 := n25.gr g24.gh
      refine ⟨szr (n := 2) (by decide +kernel), fun a26 H26 n26 => ?_⟩
      have g26 := n26.gr0 g25.gh
      have l22 := n26.ex _ _ (g25.hh _ _ (g24.hh _ _ (g23.hh _ _ p22.symm n22.at)))
      refine Or.inl ⟨_, _, l22, n26.at, szr (n := 11) (by decide +kernel), fun a27 H27 n27 => ?_⟩
      obtain ⟨G27, g27, x27, sA25, sA27⟩ : ∃ G27, Gr G23 H23 G27 H27 ∧ Ex Gc G27 ∧ SqT K G27 a25 (ns.map V.int ++ [V.non]) ∧ SqL K G27 a27 ([V.ref sh, V.ref sh, V.ref a11, V.ref a12, V.ref a14, V.ref a16, V.ref a18, V.ref a20, V.ref a21] ++ [v23, V.ref a25]) := by
        have g27 := n27.gr g26.gh
        exact ⟨_, g24.trans (g25.trans (g26.trans g27)), ex_trans g23.gg (ex_trans g24.gg (ex_trans g25.gg (ex_trans g26.gg g27.gg))), Evl.ex_t (ex_trans g26.gg g27.gg) (SqT.of upd_same), SqL.of upd_same⟩
      have pn27 := pn23.gr g27
      have tb27 := (tb22.pen pn22 g23).gr g27
      refine ⟨G27, p, a27, _, _, rfl, g27.gh, sA27, pn27, by omega, (show 0 < 11 by decide), (show 11 < 2000 by decide), fun rv G28 H28 hrv g28 pn28 => ?_⟩
      have tb28 := tb27.pen pn27 g28
      have x28 : Ex G10 G28 := ex_trans gC.gg (ex_trans x27 g28.gg)
      have smI : ∀ ms : List Int, (∀ m ∈ ms, -1 ≤ m ∧ m < 10) → ∀ d ∈ ms.map PyData.int, Sm 0 300 d := fun ms h => ints_sm (Nat.le_refl _) fun m hm => by have := h m hm; omega
      have nsB : ∀ m ∈ ns, -1 ≤ m ∧ m < 10 := fun m hm => by have := nsL m hm; omega
      have tupI : ∀ {a : Addr} (ms : List Int), SqT K G28 a (ms.map V.int) → (∀ m ∈ ms, -1 ≤ m ∧ m < 10) → ms.length ≤ 41 → ∃ f d, AnyQ K G28 f 6 13000 (.ref a) d := fun ms hs hm hl => ⟨false, _, AnyQ.ofSm (draws_tup hs) ((sm_tup 41 (by rw [List.length_map]; exact hl) (smI ms hm)).up (by omega) (by omega))⟩
      obtain ⟨fr, rd, avr⟩ : ∃ f d, AnyQ K G28 f 6 13000 rv d := by
        have xc := ex_trans x27 g28.gg
        simp only [List.cons_append, List.nil_append, List.mem_cons, List.not_mem_nil, or_false] at hrv
        rcases hrv with rfl | rfl | rfl | rfl | rfl | rfl | rfl | rfl | rfl | rfl | rfl
        · exact tupI ns (Evl.ex_t x28 s10) nsB (by omega)
        · exact tupI ns (Evl.ex_t x28 s10) nsB (by omega)
        · exact tupI [] (Evl.ex_t xc sA11) (fun m hm => nomatch hm) (by decide)
        · exact ⟨false, _, AnyQ.ofSm (.lst (Evl.ex_l xc sA12) (dpAll_int ns)) ((sm_lst 41 (by rw [List.length_map]; omega) (smI ns nsB)).up (by omega) (by omega))⟩
        · exact tupI (List.replicate 41 0) (Evl.ex_t xc sA14) (fun m hm => by rw [List.eq_of_mem_replicate hm]; decide) (by decide)
        · exact tupI (List.replicate 40 0) (Evl.ex_t xc sA16) (fun m hm => by rw [List.eq_of_mem_replicate hm]; decide) (by decide)
        · refine tupI (ns ++ [1 + w]) (by rw [List.map_append]; exact Evl.ex_t xc sA18) (fun m hm => ?_) (by rw [List.length_append, ns3]; show 3 + 1 ≤ 41; decide)
          rcases List.mem_append.mp hm with hm | hm
          · exact nsB m hm
          · rw [List.mem_singleton.mp hm]; omega
        · refine tupI (ns ++ [-1]) (by rw [List.map_append]; exact Evl.ex_t xc sA20) (fun m hm => ?_) (by rw [List.length_append, ns3]; show 3 + 1 ≤ 41; decide)
          rcases List.mem_append.mp hm with hm | hm
          · exact nsB m hm
          · rw [List.mem_singleton.mp hm]; decide
        · exact ⟨false, _, AnyQ.ofSm (.tup (Evl.ex_t xc sA21) (.cons (.bl true) (.cons (.int 0) .nil))) ((sm_tup 2 (Nat.le_refl _) (fun d hd => by
            simp only [List.mem_cons, List.not_mem_nil, or_false] at hd
            rcases hd with rfl | rfl
            · exact (sm_bl true).up (Nat.le_refl _) (show 0 ≤ 300 by decide)
            · exact sm_int (by decide))).up (by omega) (by omega))⟩
        · exact ⟨true, d23, (av23.up (ex_trans g27.gg g28.gg)).dq, (av23.fd), av23.sm.up (Nat.le_refl _) (by omega)⟩
        · refine ⟨false, .tuple (ns.map PyData.int ++ [.none]), AnyQ.ofSm (.tup (Evl.ex_t g28.gg sA25) (dpAll_snoc (dpAll_int ns) .non)) ((sm_tup (k := 0) (n := 300) 41 (by rw [List.length_append, List.length_map, ns3]; show 3 + 1 ≤ 41; decide) (fun d hd => ?_)).up (by omega) (by omega))⟩
          rcases List.mem_append.mp hd with hd | hd
          · exact smI ns nsB d hd
          · rw [List.mem_singleton.mp hd]; exact sm_non.up (Nat.le_refl _) (by decide)
      have t28 := t10.up x28
      obtain ⟨dx28, ent28, k28, _⟩ := id t28
      refine ⟨dx28, _, g28.gh _ _ k28, ?_⟩
      refine ⟨G28, y, rows, rfl, g28.gh, t28, fun v31 dp31 => ?_⟩
      have any0 : AnyQ K G28 true 6 4000 (.int 0) (.int 0) := ⟨.int 0, fun _ => rfl, ⟨by decide +kernel, by decide +kernel, by decide +kernel, by decide +kernel⟩⟩
      refine ⟨G28, p, _, .int 0, .int 0, rfl, g28.gh, pn28, by omega, any0, fun v32 d32 G32 H32 av32 g32 pn32 => ?_⟩
      refine ⟨szr (n := 4) (by decide +kernel), fun a33 H33 n33 => ?_⟩
      have g33 := n33.gr g32.gh
      have pn33 := pn32.gr g33
      have tb33 := (tb28.pen pn28 g32).gr g33
      refine ⟨_, p, a33, _, _, rfl, g33.gh, SqL.of upd_same, pn33, by omega, (show 0 < 4 by decide), (show 4 < 2000 by decide), fun tv G34 H34 htv g34 pn34 => ?_⟩
      have tb34 := tb33.pen pn33 g34
      have x34 : Ex G28 G34 := ex_trans g32.gg (ex_trans g33.gg g34.gg)
      have avr := avr.up x34
      have t34 := t28.up x34
      have s34 := Evl.ex_t (ex_trans x28 x34) s10
      have eL : (rows.length : Int) = 1 + w := by omega
      have hTv : tv = .ref y ∨ ∃ f d, AnyQ K G34 f 6 13000 tv d := by
        simp only [List.mem_cons, List.not_mem_nil, or_false] at htv
        rcases htv with rfl | rfl | rfl | rfl
        · exact Or.inl rfl
        · exact Or.inl rfl
        · refine Or.inr ⟨false, _, AnyQ.ofSm (dp_up x34 dp31) ((tab_sm (n := L) ⟨hlen, hsq⟩ (by omega) (fun r hr x hx i hi => (hgood r hr x hx i hi).1) (fun r hr x hx i hi => ?_)).up (by omega) (by omega))⟩
          have := (hgood r hr x hx i hi).2
          show i < 10 ^ 80
          omega
        · exact Or.inr ⟨true, d32, (av32.up (ex_trans g33.gg g34.gg)).dq, av32.fd, av32.sm.up (Nat.le_refl _) (by omega)⟩
      have gh34 := g34.gh
      clear hrv htv g28 g32 g33 g34 tb33 pn33 pn32 av32 dp31 k28 pn28 tb28 pn27 tb27 g27 g24 g25 g26 g23 g22 gC
      have kT := (⟨kin_Table_NoneType e, kin_Table_bool e, kin_Table_int e, kin_Table_str e, kin_Table_list e, kin_Table_tuple e, kin_Table_dict e⟩ : NoKin K (ga K "Table"))
      have smw : ∀ x : PySem.Str, (x = "table" ∨ x = "row" ∨ x = "number") → SmQ 6 13000 (.str x) := fun x hx => by
        rcases hx with rfl | rfl | rfl <;> exact ⟨by decide +kernel, by decide +kernel, by decide +kernel, by decide +kernel⟩
      -- what is due
      refine ⟨fun v H' => ∃ G', Gr G34 H34 G' H' ∧ ((tv = .ref y ∧ v = .non) ∨ ∃ f d tp, AnyQ K G34 f 6 13000 tv d ∧ v = .ref tp ∧ SqT K G' tp [.str "table", tv, .bl true]), ?_, ?_⟩
      · rcases hTv with rfl | ⟨f, d, av⟩
        · obtain ⟨dx, ent, k1, _⟩ := id t34
          exact isi_own (in_Table e (gh34 _ _ k1)) ⟨G34, Gr.refl gh34, Or.inl ⟨rfl, rfl⟩⟩
        · refine (av.dq.up gh34).not_own kT ?_
          refine ⟨szr (n := 3) (by decide +kernel), fun tp H35 n35 => ?_⟩
          exact ⟨_, n35.gr gh34, Or.inr ⟨f, d, tp, av, rfl, SqT.of upd_same⟩⟩
      rintro v35 H35 ⟨G35, g35, hv35⟩
      refine ⟨fun σ H' => ∃ (G' : Hp) (v : V), Gr G34 H34 G' H' ∧ σ = [some (.ref a), some (.ref p), some (.int (0 + (i : Int))), some (.int (1 + w)), some (.ref y), some (.ref sh), y6, some (.ref a22), some rv, some tv, some v, y11, y12] ∧ ((tv = .ref y ∧ shortD (1 + w) rd = true ∧ v = .non) ∨ (∃ f d tp, AnyQ K G34 f 6 13000 tv d ∧ v = .ref tp ∧ SqT K G' tp [.str "table", tv, .bl true]) ∨ (tv = .ref y ∧ shortD (1 + w) rd = false ∧ ∃ tp, v = .ref tp ∧ SqT K G' tp [.str "row", rv, .bl true])), ?_, ?_⟩
      · rcases hv35 with ⟨rfl, rfl⟩ | ⟨f, d, tp, av, rfl, st⟩
        · refine ⟨G34, rv, 1 + w, fr, rd, rfl, ex_trans g35.gg g35.gh, avr.dq, fun H36 x36 => ?_⟩
          have g36 := g35.trans (ex_gr g35.gh x36)
          cases hz : shortD (1 + w) rd with
          | true => exact ⟨G35, .non, g36, rfl, Or.inl ⟨rfl, rfl, rfl⟩⟩
          | false =>
            refine ⟨szr (n := 3) (by decide +kernel), fun tp H37 n37 => ?_⟩
            exact ⟨_, .ref tp, g36.trans (n37.gr g36.gh), rfl, Or.inr (Or.inr ⟨rfl, rfl, tp, rfl, SqT.of upd_same⟩)⟩
        · exact ⟨G35, .ref tp, g35, rfl, Or.inr (Or.inl ⟨f, d, tp, av, rfl, st⟩)⟩
      rintro σ H38 ⟨G38, v38, g38, rfl, hv38⟩
      have tb38 := tb34.gr g38
      have pn38 := pn34.gr g38
      have gh38 := g38.gh
      have inT : ∃ q, ((402 : Addr), q) ∈ T_ := ⟨_, inT_law⟩
      have up38 : ∀ {f : Bool} {k n : Nat} {v : V} {d : PyData}, AnyQ K G34 f k n v d → AnyQ K G38 f k n v d := fun h => h.up g38.gg
      refine ⟨fun σ H' => ∃ G' : Hp, Ex G38 G' ∧ Ex G' H' ∧ Pen K ("used" : PySem.Str) ("rest" : PySem.Str) G' H' p (3000 * i + 2000) ∧ Tb T_ G' H' ∧ σ = [some (.ref a), some (.ref p), some (.int (0 + (i : Int))), some (.int (1 + w)), some (.ref y), some (.ref sh), y6, some (.ref a22), some rv, some tv, some v38, y11, y12], ?_, ?_⟩
      · refine ⟨tb38.tabs, fun H40 k40 t40 => ?_⟩
        obtain ⟨g40, tb40⟩ := tb38.lam inT k40 t40 gh38
        have pn40 := pn38.tab tb38 inT g40
        have gh40 := g40.gh
        rcases hv38 with ⟨rfl, hz, rfl⟩ | ⟨f, d, tp, av, rfl, st⟩ | ⟨rfl, hz, tp, rfl, st⟩
        · refine ⟨G38, _, rv, fr, rd, rfl, gh40, (up38 avr).dq, Or.inl ⟨y, rows, rfl, t34.up g38.gg, hsq, fun _ l G41 H41 g41 => ?_, fun z => (by rw [eL, hz] at z; cases z)⟩⟩
          refine ⟨false, 0, 0, .none, none_q, by decide, by decide, ?_⟩
          refine ⟨false, 0, 0, .none, none_q, by decide, by decide, ?_⟩
          exact ⟨G41, g41.gg, g41.gh, (pn40.gr g41).up (by omega), tb40.gr g41, rfl⟩
        · refine ⟨G38, tv, rv, fr, rd, rfl, gh40, (up38 avr).dq, Or.inr ⟨f, d, (up38 av).dq, fun d' H41 H42 x41 n42 => ?_⟩⟩
          have x42 := ex_trans x41 n42.ex
          refine ⟨"table", Or.inl ⟨rfl, rfl⟩, d', tv, rfl, n42.at, fun l43 H43 x43 hl43 => ?_⟩
          have x43' := ex_trans x42 x43
          have gr43 := ex_gr gh40 x43'
          refine ⟨_, _, _, _, ((up38 av).up gr43.gh).told (SqT.of hl43) (smw _ (Or.inl rfl)), by decide, by decide, ?_⟩
          refine ⟨_, _, _, _, ((up38 av).up gr43.gh).told (Evl.ex_t gr43.gh st) (smw _ (Or.inl rfl)), by decide, by decide, ?_⟩
          refine bite_nd (fun hc => absurd rfl hc) (fun _ => ?_)
          exact ⟨G38, ex_refl _, gr43.gh, (pn40.gr gr43).up (by omega), tb40.gr gr43, rfl⟩
        · refine ⟨G38, _, rv, fr, rd, rfl, gh40, (up38 avr).dq, Or.inl ⟨y, rows, rfl, t34.up g38.gg, hsq, fun z => (by rw [eL, hz] at z; cases z), fun _ d' H41 H42 x41 n42 => ?_⟩⟩
          have x42 := ex_trans x41 n42.ex
          refine ⟨"row", Or.inr (Or.inl ⟨rfl, rfl⟩), d', rv, rfl, n42.at, fun l43 H43 x43 hl43 => ?_⟩
          have x43' := ex_trans x42 x43
          have gr43 := ex_gr gh40 x43'
          refine ⟨_, _, _, _, ((up38 avr).up gr43.gh).told (SqT.of hl43) (smw _ (Or.inr (Or.inl rfl))), by decide, by decide, ?_⟩
          refine ⟨_, _, _, _, ((up38 avr).up gr43.gh).told (Evl.ex_t gr43.gh st) (smw _ (Or.inr (Or.inl rfl))), by decide, by decide, ?_⟩
          refine bite_nd (fun hc => absurd rfl hc) (fun _ => ?_)
          exact ⟨G38, ex_refl _, gr43.gh, (pn40.gr gr43).up (by omega), tb40.gr gr43, rfl⟩
      rintro σ H44 ⟨G44, x44, gh44, pn44, tb44, rfl⟩
      have avr44 := (up38 avr).up x44
      clear hv38 tb38 pn38 gh38 g38 g35 hv35 hTv
      -- letters and delay
      have any1 : AnyQ K G44 true 6 4000 (.int 1) (.int 1) := ⟨.int 1, fun _ => rfl, ⟨by decide +kernel, by decide +kernel, by decide +kernel, by decide +kernel⟩⟩
      refine ⟨G44, p, _, .int 1, .int 1, rfl, gh44, pn44, by omega, any1, fun v45 d45 G45 H45 av45 g45 pn45 => ?_⟩
      refine ⟨szr (n := 6) (by decide +kernel), fun a46 H46 n46 => ?_⟩
      have g46 := n46.gr g45.gh
      have pn46 := pn45.gr g46
      have tb46 := (tb44.pen pn44 g45).gr g46
      refine ⟨_, p, a46, _, _, rfl, g46.gh, SqL.of upd_same, pn46, by omega, (show 0 < 6 by decide), (show 6 < 2000 by decide), fun mv G47 H47 hmv g47 pn47 => ?_⟩
      have tb47 := tb46.pen pn46 g47
      have intQ : ∀ (G : Hp) (j : Int), j.natAbs < 10 ^ 90 → ∃ f d, AnyQ K G f 6 13000 (.int j) d := fun G j hj => ⟨false, _, AnyQ.ofSm (.int j) ((sm_int hj).up (by omega) (by omega))⟩
      obtain ⟨fm, mdt, avm⟩ : ∃ f d, AnyQ K G47 f 6 13000 mv d := by
        simp only [List.mem_cons, List.not_mem_nil, or_false] at hmv
        rcases hmv with rfl | rfl | rfl | rfl | rfl | rfl
        · exact intQ _ _ (by omega)
        · exact intQ _ _ (by omega)
        · exact intQ _ _ (by decide)
        · exact intQ _ _ (by decide)
        · exact ⟨false, _, AnyQ.ofSm (.bl true) ((sm_bl true).up (by omega) (by omega))⟩
        · exact ⟨true, d45, (av45.up (ex_trans g46.gg g47.gg)).dq, av45.fd, av45.sm.up (Nat.le_refl _) (by omega)⟩
      have gz47 := (g45.trans (g46.m p)).trans g47
      have avr47 := avr44.up gz47.gg
      have any1 : AnyQ K G47 true 6 4000 (.int 1) (.int 1) := ⟨.int 1, fun _ => rfl, ⟨by decide +kernel, by decide +kernel, by decide +kernel, by decide +kernel⟩⟩
      refine ⟨⟨by decide, by decide, by decide⟩, ?_⟩
      refine ⟨⟨by decide, by decide, by decide⟩, ?_⟩
      refine ⟨G47, p, _, .int 1, .int 1, rfl, g47.gh, pn47, by omega, any1, fun v48 d48 G48 H48 av48 g48 pn48 => ?_⟩
      refine ⟨szr (n := 8) (by decide +kernel), fun a49 H49 n49 => ?_⟩
      have g49 := n49.gr g48.gh
      have pn49 := pn48.gr g49
      have tb49 := (tb47.pen pn47 g48).gr g49
      refine ⟨_, p, a49, _, _, rfl, g49.gh, SqL.of upd_same, pn49, by omega, (show 0 < 8 by decide), (show 8 < 2000 by decide), fun ev G50 H50 hev g50 pn50 => ?_⟩
      have tb50 := tb49.pen pn49 g50
      obtain ⟨fe, ed, ave⟩ : ∃ f d, AnyQ K G50 f 6 13000 ev d := by
        simp only [List.mem_cons, List.not_mem_nil, or_false] at hev
        rcases hev with rfl | rfl | rfl | rfl | rfl | rfl | rfl | rfl
        · exact intQ _ _ (by decide)
        · exact intQ _ _ (by decide)
        · exact intQ _ _ (by decide)
        · exact intQ _ _ (by decide)
        · exact intQ _ _ (by decide +kernel)
        · exact intQ _ _ (by decide +kernel)
        · exact ⟨false, _, AnyQ.ofSm (.bl true) ((sm_bl true).up (by omega) (by omega))⟩
        · exact ⟨true, d48, (av48.up (ex_trans g49.gg g50.gg)).dq, av48.fd, av48.sm.up (Nat.le_refl _) (by omega)⟩
      have x50 := ex_trans g48.gg (ex_trans g49.gg g50.gg)
      have avr50 := avr47.up x50
      have avm50 := avm.up x50
      have gh50 := g50.gh
      clear hmv hev g45 g46 g47 g48 g49 g50 tb46 tb47 tb49 pn45 pn46 pn47 pn48 pn49 gz47 av45 av48 tb44 pn44
      refine ⟨fun v H' => ∃ G', Gr G50 H50 G' H' ∧ ((isIntD 1 (10 ^ 30) ed = true ∧ v = .non) ∨ (isIntD 1 (10 ^ 30) ed = false ∧ ∃ tp, v = .ref tp ∧ SqT K G' tp [.str "number", ev, .bl true])), ?_, ?_⟩
      · refine ⟨⟨by decide, by decide, by decide⟩, ?_⟩
        refine ⟨ev, 1, 10 ^ (30 : Int).toNat, fe, ed, rfl, ave.dq.up gh50, ?_⟩
        cases hz : isIntD 1 (10 ^ (30 : Int).toNat) ed with
        | true => exact ⟨G50, Gr.refl gh50, Or.inl ⟨hz, rfl⟩⟩
        | false =>
          refine ⟨szr (n := 3) (by decide +kernel), fun tp H51 n51 => ?_⟩
          exact ⟨_, n51.gr gh50, Or.inr ⟨hz, tp, rfl, SqT.of upd_same⟩⟩
      rintro v51 H51 ⟨G51, g51, hv51⟩
      refine ⟨fun σ H' => ∃ (G' : Hp) (v : V), Gr G50 H50 G' H' ∧ σ = [some (.ref a), some (.ref p), some (.int (0 + (i : Int))), some (.int (1 + w)), some (.ref y), some (.ref sh), y6, some (.ref a22), some rv, some tv, some v, some mv, some ev] ∧ ((isIntD 1 5 mdt = false ∧ ∃ tp, v = .ref tp ∧ SqT K G' tp [.str "number", mv, .bl true]) ∨
        (∃ Lm, mdt = .int Lm ∧ isIntD 1 5 mdt = true ∧ shortD Lm rd = false ∧ ∃ tp, v = .ref tp ∧ SqT K G' tp [.str "row", rv, .bl true]) ∨
        (∃ Lm, mdt = .int Lm ∧ isIntD 1 5 mdt = true ∧ shortD Lm rd = true ∧ isIntD 1 (10 ^ 30) ed = false ∧ ∃ tp, v = .ref tp ∧ SqT K G' tp [.str "number", ev, .bl true]) ∨
        (∃ Lm, mdt = .int Lm ∧ isIntD 1 5 mdt = true ∧ shortD Lm rd = true ∧ isIntD 1 (10 ^ 30) ed = true ∧ v = .non)), ?_, ?_⟩
      · refine ⟨mv, 1, 5, fm, mdt, rfl, avm50.dq.up (ex_trans g51.gg g51.gh), ?_⟩
        cases hz : isIntD 1 5 mdt with
        | false =>
          refine ⟨szr (n := 3) (by decide +kernel), fun tp H52 n52 => ?_⟩
          exact ⟨_, .ref tp, g51.trans (n52.gr g51.gh), rfl, Or.inl ⟨rfl, tp, rfl, SqT.of upd_same⟩⟩
        | true =>
          obtain ⟨Lm, rfl, rfl, _, _⟩ := int_of avm50.dq hz
          refine ⟨G50, rv, Lm, fr, rd, rfl, ex_trans g51.gg g51.gh, avr50.dq, fun H52 x52 => ?_⟩
          have g52 := g51.trans (ex_gr g51.gh x52)
          cases hz2 : shortD Lm rd with
          | false =>
            refine ⟨szr (n := 3) (by decide +kernel), fun tp H53 n53 => ?_⟩
            exact ⟨_, .ref tp, g52.trans (n53.gr g52.gh), rfl, Or.inr (Or.inl ⟨Lm, rfl, rfl, hz2, tp, rfl, SqT.of upd_same⟩)⟩
          | true =>
            rcases hv51 with ⟨h1, rfl⟩ | ⟨h1, tp, rfl, st⟩
            · exact ⟨G51, .non, g52, rfl, Or.inr (Or.inr (Or.inr ⟨Lm, rfl, rfl, hz2, h1, rfl⟩))⟩
            · exact ⟨G51, .ref tp, g52, rfl, Or.inr (Or.inr (Or.inl ⟨Lm, rfl, rfl, hz2, h1, tp, rfl, st⟩))⟩
      rintro σ H54 ⟨G54, v54, g54, rfl, hv54⟩
      have tb54 := tb50.gr g54
      have pn54 := pn50.gr g54
      have gh54 := g54.gh
      have avr54 := avr50.up g54.gg
      have avm54 := avm50.up g54.gg
      have ave54 := ave.up g54.gg
      refine ⟨tb54.tabs, fun H55 k55 t55 => ?_⟩
      obtain ⟨g55, tb55⟩ := tb54.lam inT k55 t55 gh54
      have pn55 := pn54.tab tb54 inT g55
      have gh55 := g55.gh
      have fin : ∀ (Gz Hz : Hp) (x : V), Gr G54 H55 Gz Hz → ∃ (G : Hp) (z2 z3 z4 z5 z6 z7 z8 z9 z10 z11 z12 : Option V), Ex G Hz ∧ Pen K ("used" : PySem.Str) ("rest" : PySem.Str) G Hz p (3000 * (i + 1)) ∧ Tb T_ G Hz ∧ [some (.ref a), some (.ref p), some (.int (0 + (i : Int))), some (.int (1 + w)), some (.ref y), some (.ref sh), y6, some (.ref a22), some rv, some tv, some x, some mv, some ev] = [some (.ref a), some (.ref p), z2, z3, z4, z5, z6, z7, z8, z9, z10, z11, z12] := fun Gz Hz x gz => ⟨Gz, _, _, _, _, _, _, _, _, _, _, _, gz.gh, (pn55.gr gz).up (by omega), tb55.gr gz, rfl⟩
      rcases hv54 with ⟨hm, tp, rfl, st⟩ | ⟨Lm, hL1, hm, hr, tp, rfl, st⟩ | ⟨Lm, hL1, hm, hr, he, tp, rfl, st⟩ | ⟨Lm, hL1, hm, hr, he, rfl⟩
      · refine ⟨G54, mv, rv, ev, fm, fr, fe, mdt, rd, ed, rfl, gh55, avm54.dq, avr54.dq, ave54.dq, fun _ d' H56 H57 x56 n57 => ?_, fun L0 e0 h0 => (by rw [hm] at h0; cases h0), fun L0 e0 h0 => (by rw [hm] at h0; cases h0), fun L0 e0 h0 => (by rw [hm] at h0; cases h0)⟩
        have x57 := ex_trans x56 n57.ex
        refine ⟨"number", Or.inr (Or.inr ⟨rfl, rfl⟩), d', mv, rfl, n57.at, fun l58 H58 x58 hl58 => ?_⟩
        have gr58 := ex_gr gh55 (ex_trans x57 x58)
        refine ⟨_, _, _, _, (avm54.up gr58.gh).told (SqT.of hl58) (smw _ (Or.inr (Or.inr rfl))), by decide, by decide, ?_⟩
        refine ⟨_, _, _, _, (avm54.up gr58.gh).told (Evl.ex_t gr58.gh st) (smw _ (Or.inr (Or.inr rfl))), by decide, by decide, ?_⟩
        refine bite_nd (fun hc => absurd rfl hc) (fun _ => ?_)
        exact fin _ _ _ gr58
      · have same : ∀ L0, mdt = .int L0 → L0 = Lm := fun L0 e0 => by rw [hL1] at e0; exact (PyData.int.inj e0).symm
        refine ⟨G54, mv, rv, ev, fm, fr, fe, mdt, rd, ed, rfl, gh55, avm54.dq, avr54.dq, ave54.dq, fun h0 => (by rw [hm] at h0; cases h0), fun L0 e0 h0 h1 d' H56 H57 x56 n57 => ?_, fun L0 e0 h0 h1 => (by rw [same L0 e0, hr] at h1; cases h1), fun L0 e0 h0 h1 => (by rw [same L0 e0, hr] at h1; cases h1)⟩
        have x57 := ex_trans x56 n57.ex
        refine ⟨"row", Or.inr (Or.inl ⟨rfl, rfl⟩), d', rv, rfl, n57.at, fun l58 H58 x58 hl58 => ?_⟩
        have gr58 := ex_gr gh55 (ex_trans x57 x58)
        refine ⟨_, _, _, _, (avr54.up gr58.gh).told (SqT.of hl58) (smw _ (Or.inr (Or.inl rfl))), by decide, by decide, ?_⟩
        refine ⟨_, _, _, _, (avr54.up gr58.gh).told (Evl.ex_t gr58.gh st) (smw _ (Or.inr (Or.inl rfl))), by decide, by decide, ?_⟩
        refine bite_nd (fun hc => absurd rfl hc) (fun _ => ?_)
        exact fin _ _ _ gr58
      · have same : ∀ L0, mdt = .int L0 → L0 = Lm := fun L0 e0 => by rw [hL1] at e0; exact (PyData.int.inj e0).symm
        refine ⟨G54, mv, rv, ev, fm, fr, fe, mdt, rd, ed, rfl, gh55, avm54.dq, avr54.dq, ave54.dq, fun h0 => (by rw [hm] at h0; cases h0), fun L0 e0 h0 h1 => (by rw [same L0 e0, hr] at h1; cases h1), fun L0 e0 h0 h1 h2 d' H56 H57 x56 n57 => ?_, fun L0 e0 h0 h1 h2 => (by rw [he] at h2; cases h2)⟩
        have x57 := ex_trans x56 n57.ex
        refine ⟨"number", Or.inr (Or.inr ⟨rfl, rfl⟩), d', ev, rfl, n57.at, fun l58 H58 x58 hl58 => ?_⟩
        have gr58 := ex_gr gh55 (ex_trans x57 x58)
        refine ⟨_, _, _, _, (ave54.up gr58.gh).told (SqT.of hl58) (smw _ (Or.inr (Or.inr rfl))), by decide, by decide, ?_⟩
        refine ⟨_, _, _, _, (ave54.up gr58.gh).told (Evl.ex_t gr58.gh st) (smw _ (Or.inr (Or.inr rfl))), by decide, by decide, ?_⟩
        refine bite_nd (fun hc => absurd rfl hc) (fun _ => ?_)
        exact fin _ _ _ gr58
      · have same : ∀ L0, mdt = .int L0 → L0 = Lm := fun L0 e0 => by rw [hL1] at e0; exact (PyData.int.inj e0).symm
        refine ⟨G54, mv, rv, ev, fm, fr, fe, mdt, rd, ed, rfl, gh55, avm54.dq, avr54.dq, ave54.dq, fun h0 => (by rw [hm] at h0; cases h0), fun L0 e0 h0 h1 => (by rw [same L0 e0, hr] at h1; cases h1), fun L0 e0 h0 h1 h2 => (by rw [he] at h2; cases h2), fun _ _ _ _ _ x56 G56 H56 g56 => ?_⟩
        refine ⟨false, 0, 0, .none, none_q, by decide, by decide, ?_⟩
        refine ⟨false, 0, 0, .none, none_q, by decide, by decide, ?_⟩
        exact fin _ _ _ g56
    · rintro σ H2 _
      exact q _
end
end k80

set_option maxHeartbeats 4000000
namespace k80
open PySem PySem.Spec PyProof.Rows L2 Ech
open He (ga ma)
theorem facts {P : Program} {w : World} {K : PySem.W.Frag} {h : Heap} {mg : PySem.Str → Option Value} {f : Addr} (X : K.In h) (G : h.Ns mainGlobals mg) (hfa : mg ("law" : PySem.Str) = some (.ref f)) (c : SaysB fa fn K) :
    ∃ fd : FuncData, (∀ (s : Shared) (v : Value), BindsTo s fd ⟨[v], []⟩ [("_law_script", v)]) ∧ ∀ base : Heap, TBs base mg → FnG P w K mg base CX0 12 f fd ["_law_script"] (sp_law K) := by
  have e : Ev K mg := ⟨c, h, X, G⟩
  have z := hfa.symm.trans (gl_law e)
  cases z
  have b := FunD.bindsA (ps := ["_law_script"]) (F_law e) fun _ _ _ _ _ _ us hl => match us, hl with | [_], _ => rfl
  exact ⟨_, fun s v => b s [v] rfl, fun base tb => ok_law e tb⟩
end k80
open PySem PySem.W PySem.Calls PyProof.Rows
theorem PySem.Challenge.cw_echofold_k80_rows_and_tables_refused_holds : PySem.Challenge.rw_echofold_k80_rows_and_tables_refused.Holds := by
  w_on; o_law
  refine HandSHeadRun.head_any (r := OpenLaw.row PySem.Challenge.rw_echofold_k80_rows_and_tables_refused) (q := view (OpenLaw.row PySem.Challenge.rw_echofold_k80_rows_and_tables_refused).prog [43]) (H := k80.hk) (ob := k80.ob) (M := 20000) (loose := k80.lo) (d := HandSHeadRun.topDef (OpenLaw.row PySem.Challenge.rw_echofold_k80_rows_and_tables_refused).prog 43) (kwd := []) k80.ob_eq
    (by kernel_rfl) (fun s => by kernel_rfl) k80.run (by kernel_rfl) (by kernel_rfl) (by kernel_rfl) (by rfl) (by first | assumption | decide +kernel) (by decide +kernel) ⟨rfl, rfl, rfl, rfl, rfl, by decide +kernel⟩ ?hw ?hc
  case hw => w_witness2
  case hc =>
    refine Ech.law_endT (l := PySem.Challenge.rw_echofold_k80_rows_and_tables_refused) (n := 63) (k := 12) (x := "_law_script") rfl (by decide) (by kernel_rfl) ⟨rfl, by decide, by decide⟩ ?F
    intro w mg fa h Y G hmg0
    obtain ⟨K, KX, c, tabs⟩ := Y
    have hmg : mg ("law" : PySem.Str) = some (.ref fa) := by
      have e : (HandSHeadRun.topDef (OpenLaw.row PySem.Challenge.rw_echofold_k80_rows_and_tables_refused).prog 43).name = ("law" : PySem.Str) := by kernel_rfl
      rw [← e]
      exact hmg0
    obtain ⟨fd, hb, hF⟩ := k80.facts (P := (PySem.Challenge.rw_echofold_k80_rows_and_tables_refused).prog) (w := w) KX G hmg c
    have e : k80.Ev K mg := ⟨c, h, KX, G⟩
    refine ⟨K, fd, k80.sp_law K, k80.cs_, KX, ?_, hb, fun H a ns hl et hS => ⟨a, ns, rfl, hS, hl, ?_, fun _ => rfl⟩, fun base _ _ tb => hF base tb⟩
    · intro z hz
      simp only [k80.cs_, List.mem_cons, List.not_mem_nil, or_false] at hz
      rcases hz with rfl
      · exact ⟨tabs _ (by simp [k80.ts_]), Option.isNone_iff_eq_none.mp (k80.nt_law e), Ech.codeHdB_ok KX (k80.chd_law e)⟩
    · intro z hz
      simp only [k80.T_, List.mem_cons, List.not_mem_nil, or_false] at hz
      rcases hz with rfl
      · exact et _ k80.mem_law

