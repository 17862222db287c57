import PyProof.Rows.All
import Wide.All
import OpenK.AllK
import Wide.FinOn
import KE.KStateDown
import HandS.ForMost
import HandS.Defaults
import HandS.HeadNt
import HandS.Head2
import HandS.HeadEnd
import PyProof.NeKinds
import PyProof.EqAt
import HandS.Wide
import HandS.IsInst
import HandS.Property
import HandS.ClsMeth
import HandS.Evl
import HandS.Walk
import HandS.Zip
import HandS.Deep
import KE.GoesZip
import KE.KDictZip
import KE.KItemsList
import HandS.ListItems
import HandS.SetBool
import KE.KSuper
import HandS.Nested
import HandS.ExcInit
import HandS.ExcField
import HandS.ExcIs
import HandS.CallSlots
import HandS.TryMany
import KE.KExcIs
import KE.GoesMore
import KE.GoesEnum
import HandS.Star
import HandS.SortRule
import HandS.MethStar
import HandS.More
import KE.KOpsOwn
import HandS.OwnEq
import HandS.Conv
import HandS.Style
import PyProof.InstEq
import PyProof.LongRange
import HandS.FStr
import HandS.Text
import HandS.Strs
import HandS.SetFor
import HandS.Lambda
import HandS.EndTab
import PySem.Challenge.RW_echofold_k36_errors_of_prices
import HandS.TupAny
import HandS.WideMore
import HandS.DictTup
import HandS.TupMul
import KE.KExcInit
import PyProof.ExcBaseAll.OverflowError
import PyProof.ExcBaseAll.IndexError
import PyProof.ExcBaseAll.LookupError
import PyProof.ExcBaseAll.RuntimeError
import PyProof.ExcBaseAll.ValueError
import PyProof.SeqI3
import HandS.DictComp
import HandS.Sort
import HandS.MapSum
import HandS.WideBits
set_option Elab.async false
set_option linter.all false
set_option maxRecDepth 100000
namespace Ech
open PySem PySem.W PySem.Calls PyProof.Rows He He5

abbrev Ft : Type := Frag → Bool
def obsB (fa : List Ft) (fn : List DefA) (K : Frag) : He.AlD := ((fa.all fun f => f K) && fn.all fun d => d.ok K, fn.map fun d => fnA K (d.at_ K))
def SaysB (fa : List Ft) (fn : List DefA) (K : Frag) : Prop := obsB fa fn K = valA fn
section
variable {fa : List Ft} {fn : List DefA} {K : Frag}
theorem SaysB.fact (c : SaysB fa fn K) (i : Nat) {f : Ft} (h : fa[i]? = some f := by rfl) : f K = true := by
  have c1 := (ba (show ((fa.all fun f => f K) && fn.all fun d => d.ok K) = true from congrArg (fun z : He.AlD => z.1) c)).1
  exact List.all_eq_true.mp c1 f (List.mem_of_getElem? h)
theorem SaysB.def_ (c : SaysB fa fn K) (i : Nat) {d : DefA} (h : fn[i]? = some d := by rfl) : ∃ fd, L2.FunD K d.name d.qual d.params d.body d.scope (d.dvs K) (d.kws K) (d.at_ K) fd := by
  have c2 := (ba (show ((fa.all fun f => f K) && fn.all fun d => d.ok K) = true from congrArg (fun z : He.AlD => z.1) c)).2
  have e : fn.map (fun d => fnA K (d.at_ K)) = fn.map DefA.val := congrArg (fun z : He.AlD => z.2) c
  have e2 : (fn.map fun d => fnA K (d.at_ K))[i]? = (fn.map DefA.val)[i]? := by rw [e]
  rw [List.getElem?_map, List.getElem?_map, h] at e2
  exact DefA.funD (Option.some.inj e2) (List.all_eq_true.mp c2 d (List.mem_of_getElem? h))
end
end Ech

set_option maxHeartbeats 1000000
namespace Ech
open PySem PySem.Spec PyProof.Rows L2

section
variable {X : Cx}
/-! ### consequence -/
theorem pe_wk {e : Expr} {t t' : TE} (h : PE X e t) (i : ∀ σ H Q, t' σ H Q → t σ H Q) : PE X e t' := ⟨fun pins s σ H Q I q => h.run pins s σ H Q I (i σ H Q q)⟩
theorem pt_wk {e : Expr} {t t' : TT} (h : PT X e t) (i : ∀ σ H Q, t' σ H Q → t σ H Q) : PT X e t' := ⟨fun pins s σ H Q I q => h.run pins s σ H Q I (i σ H Q q)⟩
theorem ps_wk {st : Stmt} {t t' : TS} (h : PS X st t) (i : ∀ D σ H, t' D σ H → t D σ H) : PS X st t' := ⟨fun pins s σ H D I q => h.run pins s σ H D I (i D σ H q)⟩
theorem op_wk {f : Value → Value → Sem Value} {r r' : R2} (h : OpR X f r) (i : ∀ x y H Q, r' x y H Q → r x y H Q) : OpR X f r' := fun pins s σ H x y v u Q I a b q => h pins s σ H x y v u Q I a b (i x y H Q q)
theorem call_wk {f : Value} {r r' : List V → Hp → VK → Prop} (h : CallR X f r) (i : ∀ xs H Q, r' xs H Q → r xs H Q) : CallR X f r' := fun pins s σ H xs us Q I a q => h pins s σ H xs us Q I a (i xs H Q q)
theorem call_or {f : Value} {r r' : List V → Hp → VK → Prop} (h : CallR X f r) (h' : CallR X f r') : CallR X f (fun xs H Q => r xs H Q ∨ r' xs H Q) := fun pins s σ H xs us Q I a q => q.elim (h pins s σ H xs us Q I a) (h' pins s σ H xs us Q I a)
theorem ix_wk {r r' : R2} (h : IxR X r) (i : ∀ x y H Q, r' x y H Q → r x y H Q) : IxR X r' := fun value slice pins s σ H x y v u Q I a b q => h value slice pins s σ H x y v u Q I a b (i x y H Q q)
theorem pg_wk {e : Expr} {t t' : TG} (h : PG X e t) (i : ∀ v σ H Q, t' v σ H Q → t v σ H Q) : PG X e t' := ⟨fun pins s σ H v u Q I r q => h.run pins s σ H v u Q I r (i v σ H Q q)⟩
theorem sl_wk {r r' : V → Option Int → Option Int → Hp → VK → Prop} (h : SlR X r) (i : ∀ x l u H Q, r' x l u H Q → r x l u H Q) : SlR X r' := fun pins s σ H x v vl vu lo hi sl Q I a b c d q => h pins s σ H x v vl vu lo hi sl Q I a b c d (i x lo hi H Q q)
end

/-! ### two ways by a Bool -/
def bite (c : Bool) (A B : Prop) : Prop := match c with | true => A | false => B
theorem bite_mk {c : Bool} {A B : Prop} (h1 : c = true → A) (h2 : c = false → B) : bite c A B := by
  cases c
  · exact h2 rfl
  · exact h1 rfl
theorem bite_if {c : Bool} {A B : Prop} (h : bite c A B) : if c = true then A else B := by
  cases c
  · exact (if_neg Bool.false_ne_true).mpr h
  · exact (if_pos rfl).mpr h
theorem bite_d {p : Prop} {dp : Decidable p} {A B : Prop} (h1 : p → A) (h2 : ¬ p → B) : bite (decide p) A B := bite_mk (fun h => h1 (of_decide_eq_true h)) (fun h => h2 (of_decide_eq_false h))
theorem bite_nd {p : Prop} {dp : Decidable p} {A B : Prop} (h1 : ¬ p → A) (h2 : p → B) : bite (!decide p) A B := bite_mk (fun h => h1 (of_decide_eq_false (by simpa using h))) (fun h => h2 (of_decide_eq_true (by simpa using h)))

/-! ### new objects, changed objects -/
structure New (H : Hp) (p : Addr) (o : HO) (H1 : Hp) : Prop where
  fresh : H p = none
  eq : H1 = upd H p o
structure Chg (H : Hp) (p : Addr) (o : HO) (H1 : Hp) : Prop where
  eq : H1 = upd H p o
abbrev Ex := Evl.Ex

/-! ### names -/
def slot : L2.St → Nat → Option V
  | [], _ => none
  | x :: _, 0 => x
  | _ :: r, n + 1 => slot r n
theorem slot_ok : ∀ {σ : L2.St} {i : Nat} {v : V}, slot σ i = some v → σ[i]? = some (some v)
  | [], _, _, h => by cases h
  | x :: _, 0, v, h => by
    have e : x = some v := h
    rw [e]
    rfl
  | _ :: r, n + 1, v, h => by
    have e : slot r n = some v := h
    simpa using slot_ok e
def uVar (i : Nat) : TE := fun σ H Q => match slot σ i with | some v => Q v H | none => False
theorem uVar_to {i : Nat} {σ : L2.St} {H : Hp} {Q : VK} (h : uVar i σ H Q) : tVar i σ H Q := by
  unfold uVar at h
  cases e : slot σ i with
  | none => rw [e] at h; exact h.elim
  | some v => rw [e] at h; exact ⟨v, slot_ok e, h⟩
section
variable {X : Cx}
theorem uv (i : Nat) {x : Str} {pos : Pos} (hN : X.N[i]? = some x := by rfl) (hv : Vis X.env.scope x := by first | exact Or.inl rfl | exact Or.inr (Or.inl rfl) | exact Or.inr (Or.inr rfl)) (hd : (x == ("__debug__" : Str)) = false := by decide)
    (hcd : (x == ("__classdict__" : Str)) = false := by decide) : PE X (.Name x pos) (uVar i) := pe_wk (pe_var hN hv hd hcd) fun _ _ _ h => uVar_to h
end

/-! ### operators -/
def CMulU (i j : Int) : Prop := CMul i j ∨ CMulW i j
def rAddU (K : PySem.W.Frag) : R2 := fun x y H Q => match x, y with
  | .int i, .int j => Q (.int (i + j)) H
  | .str a, .str b => a.length + b.length ≤ sizeLine ∧ Q (.str (a ++ b)) H
  | .ref a, .ref b => (∃ xs ys, H a = some (.lst xs) ∧ H b = some (.lst ys) ∧ xs.length + ys.length ≤ sizeLine ∧ ∀ p H1, New H p (.lst (xs ++ ys)) H1 → Q (.ref p) H1) ∨ rCatT K (.ref a) (.ref b) H Q
  | _, _ => False
def rSubU : R2 := fun x y H Q => match x, y with
  | .int i, .int j => Q (.int (i - j)) H
  | _, _ => False
def rMulU : R2 := fun x y H Q => match x, y with
  | .int i, .int j => CMulU i j ∧ Q (.int (i * j)) H
  | .ref l, .int k => ∃ xs, H l = some (.lst xs) ∧ -(2 ^ 63) ≤ k ∧ k < 2 ^ 63 ∧ xs.length * k.toNat ≤ sizeLine ∧ ∀ p H1, New H p (.lst (List.replicate k.toNat xs).flatten) H1 → Q (.ref p) H1
  | _, _ => False
def rModU : R2 := fun x y H Q => match x, y with
  | .int i, .int j => 0 < j ∧ Q (.int (i % j)) H
  | _, _ => False
def rDivU : R2 := fun x y H Q => match x, y with
  | .int i, .int j => (0 < j ∧ j < 2 ^ 1000) ∧ Q (.int (i / j)) H
  | _, _ => False
def rPowU : R2 := fun x y H Q => match x, y with
  | .int i, .int j => (0 ≤ j ∧ j ≤ 1000000 ∧ i.natAbs < 2 ^ 64) ∧ Q (.int (i ^ j.toNat)) H
  | _, _ => False
def rCmpI (f : Int → Int → Bool) : R2 := fun x y H Q => match x, y with
  | .int i, .int j => Q (.bl (f i j)) H
  | _, _ => False
def isNon : V → Bool
  | .non => true
  | _ => false
theorem isNon_eq (x : V) : decide (x = .non) = isNon x := by cases x <;> rfl
def rIsU (neg : Bool) : R2 := fun x y H Q => match y with
  | .non => Q (.bl (if neg then !isNon x else isNon x)) H
  | _ => False
def rLens (K : PySem.W.Frag) (neg : Bool) : R2 := fun x y H Q => ∃ l b xs ys, x = .ref l ∧ y = .ref b ∧ SqL K H l xs ∧ SqL K H b ys ∧ xs.length ≠ ys.length ∧ Q (.bl neg) H
def rEqU (K : PySem.W.Frag) (neg : Bool) : R2 := fun x y H Q => match x, y with
  | .int i, .int j => Q (.bl (if neg then !decide (i = j) else decide (i = j))) H
  | .str i, .str j => Q (.bl (if neg then !decide (i = j) else decide (i = j))) H
  | .bl i, .bl j => Q (.bl (if neg then !decide (i = j) else decide (i = j))) H
  | x, y => ((scal x y = true ∧ Q (.bl (if neg then !decide (x = y) else decide (x = y))) H) ∨ rLens K neg x y H Q) ∨ (∃ d e, Dp K H x d ∧ Dp K H y e ∧ SeqAt.shaped d = true ∧ SeqAt.shaped e = true ∧ Q (.bl (if neg then !PyData.eqv d e else PyData.eqv d e)) H)
section
variable {X : Cx}
theorem o_add : OpR X (binaryOp .Add) (rAddU X.K) := by
  refine op_wk (op_add.or (op_add_str.or (op_cat.or op_catT))) fun x y H Q h => ?_
  unfold rAddU at h
  split at h
  · exact .inl ⟨_, _, rfl, rfl, h⟩
  · exact .inr (.inl ⟨_, _, rfl, rfl, h.1, h.2⟩)
  · rcases h with ⟨xs, ys, h1, h2, h3, h4⟩ | h
    · exact .inr (.inr (.inl ⟨_, _, xs, ys, rfl, rfl, h1, h2, h3, fun p hp => h4 p _ ⟨hp, rfl⟩⟩))
    · exact .inr (.inr (.inr h))
  · exact h.elim
theorem o_sub : OpR X (binaryOp .Sub) rSubU := by
  refine op_wk op_sub fun x y H Q h => ?_
  unfold rSubU at h
  split at h
  · exact ⟨_, _, rfl, rfl, h⟩
  · exact h.elim
theorem o_mul : OpR X (binaryOp .Mult) rMulU := by
  refine op_wk (op_mul.or (op_mulW.or op_rep)) fun x y H Q h => ?_
  unfold rMulU at h
  split at h
  · rcases h with ⟨h | h, q⟩
    · exact .inl ⟨_, _, rfl, rfl, h, q⟩
    · exact .inr (.inl ⟨_, _, rfl, rfl, h, q⟩)
  · obtain ⟨xs, h1, h2, h3, h4, h5⟩ := h
    exact .inr (.inr ⟨_, _, xs, rfl, rfl, h1, h2, h3, h4, fun p hp => h5 p _ ⟨hp, rfl⟩⟩)
  · exact h.elim
theorem o_mod : OpR X (binaryOp .Mod) rModU := by
  refine op_wk op_mod fun x y H Q h => ?_
  unfold rModU at h
  split at h
  · exact ⟨_, _, rfl, rfl, h.1, h.2⟩
  · exact h.elim
theorem div_lt {j : Int} (h1 : 0 < j) (h2 : j < 2 ^ 1000) : j.natAbs < 2 ^ 1000 := by
  have e : (j.natAbs : Int) = j := by omega
  have h3 : (j.natAbs : Int) < ((2 ^ 1000 : Nat) : Int) := by rw [e]; exact_mod_cast h2
  exact_mod_cast h3
theorem o_div : OpR X (binaryOp .FloorDiv) rDivU := by
  refine op_wk op_fdivW fun x y H Q h => ?_
  unfold rDivU at h
  split at h
  · exact ⟨_, _, rfl, rfl, wide_div (b := 1000) h.1.1 (div_lt h.1.1 h.1.2) (by omega) (by omega), h.2⟩
  · exact h.elim
theorem o_pow : OpR X (binaryOp .Pow) rPowU := by
  refine op_wk op_pow fun x y H Q h => ?_
  unfold rPowU at h
  split at h
  · exact ⟨_, _, rfl, rfl, h.1, h.2⟩
  · exact h.elim
theorem o_cmp {op : CmpOp} {f : Int → Int → Bool} (h : OpR X (compareOp op) (rI0 fun i j => .bl (f i j))) : OpR X (compareOp op) (rCmpI f) := by
  refine op_wk h fun x y H Q h => ?_
  unfold rCmpI at h
  split at h
  · exact ⟨_, _, rfl, rfl, h⟩
  · exact h.elim
theorem o_lt : OpR X (compareOp .Lt) (rCmpI fun i j => decide (i < j)) := o_cmp op_lt
theorem o_le : OpR X (compareOp .LtE) (rCmpI fun i j => decide (i ≤ j)) := o_cmp op_le
theorem o_gt : OpR X (compareOp .Gt) (rCmpI fun i j => decide (j < i)) := o_cmp op_gt
theorem o_ge : OpR X (compareOp .GtE) (rCmpI fun i j => decide (j ≤ i)) := o_cmp op_ge
theorem o_is : OpR X (compareOp .Is) (rIsU false) := by
  refine op_wk op_isN fun x y H Q h => ?_
  unfold rIsU at h
  split at h
  · exact ⟨rfl, by rw [isNon_eq]; exact h⟩
  · exact h.elim
theorem o_lens (hu : X.A.units < cLine) : OpR X (compareOp .Eq) (rLens X.K false) := by
  intro pins s σ H x y v u Q I rx ry h
  obtain ⟨l, b, xs, ys, rfl, rfl, hl, hb, hn, q⟩ := h
  cases rx
  cases ry
  obtain ⟨its, r, e, _⟩ := I.list hl
  obtain ⟨its2, r2, e2, _⟩ := I.list hb
  have h1 := r.length
  have h2 := r2.length
  exact PySem.SeqAt.RcAt.lists_lengths e.isList e2.isList (by simp; omega) hu _ _ _ _ ⟨.bl false, H, I, rfl, q⟩
theorem o_lensN (hu : X.A.units < cLine) : OpR X (compareOp .NotEq) (rLens X.K true) := by
  intro pins s σ H x y v u Q I rx ry h
  obtain ⟨l, b, xs, ys, rfl, rfl, hl, hb, hn, q⟩ := h
  cases rx
  cases ry
  obtain ⟨its, r, e, _⟩ := I.list hl
  obtain ⟨its2, r2, e2, _⟩ := I.list hb
  have h1 := r.length
  have h2 := r2.length
  exact PySem.SeqAt.RcNeAt.lists_lengths e.isList e2.isList (by simp; omega) hu _ _ _ _ ⟨.bl true, H, I, rfl, q⟩
theorem o_eq (hu : X.A.units + 64 < cLine) : OpR X (compareOp .Eq) (rEqU X.K false) := by
  refine op_wk ((op_eq.or (op_eqD hu)).or (o_lens (by omega))) fun x y H Q h => ?_
  unfold rEqU at h
  split at h
  · exact .inl (.inl ⟨rfl, by simpa using h⟩)
  · exact .inl (.inl ⟨rfl, by simpa using h⟩)
  · exact .inl (.inl ⟨rfl, by simpa using h⟩)
  · rcases h with (h | h) | ⟨d, e, h1, h2, h3, h4, h5⟩
    · exact .inl (.inl h)
    · exact .inr h
    · exact .inl (.inr ⟨d, e, h1, h2, h3, h4, h5⟩)
theorem o_ne (hu : X.A.units + 64 < cLine) : OpR X (compareOp .NotEq) (rEqU X.K true) := by
  refine op_wk ((op_ne.or (op_neD hu)).or (o_lensN (by omega))) fun x y H Q h => ?_
  unfold rEqU at h
  split at h
  · exact .inl (.inl ⟨rfl, by simpa using h⟩)
  · exact .inl (.inl ⟨rfl, by simpa using h⟩)
  · exact .inl (.inl ⟨rfl, by simpa using h⟩)
  · rcases h with (h | h) | ⟨d, e, h1, h2, h3, h4, h5⟩
    · exact .inl (.inl h)
    · exact .inr h
    · exact .inl (.inr ⟨d, e, h1, h2, h3, h4, h5⟩)
end
end Ech

namespace Ech
open PySem PySem.Spec PyProof.Rows L2

/-! ### defs whose frames know that no repr is under way -/
structure FnG (P : Program) (w : World) (K : PySem.W.Frag) (mg : PySem.Str → Option Value) (base : Heap) (CX : CXT) (k : Nat) (f : Addr) (fd : FuncData) (ps : List PySem.Str) (sp : Sp) : Prop where
  len : ∀ vs H Q E, sp vs H Q E → vs.length = ps.length
  run : ∀ (A : Around) (outer : List Env) (s : Shared) (H : Hp) (args : Args) (us : List Value) (vs : List V) (Q : VK) (E : XK),
    Room k A → A.guards = some [] → Env0 P w K mg base A outer s H → BindsTo s fd args (ps.zip us) → Vals vs us → sp vs H Q E →
    codeAny (model P w) A (.call (.ref f) args) (CR CX outer P w H s Q E) s

section
variable {P : Program} {w : World} {K : PySem.W.Frag} {mg : PySem.Str → Option Value} {base : Heap} {CX : CXT} {k : Nat} {f : Addr} {fd : FuncData} {ps : List PySem.Str} {sp : Sp}
theorem FnG.of (F : FnOk P w K mg base CX k f fd ps sp) : FnG P w K mg base CX k f fd ps sp :=
  ⟨F.len, fun A o s H a us vs Q E hr _ e b v q => F.run A o s H a us vs Q E hr e b v q⟩
theorem FnG.up {j : Nat} (F : FnG P w K mg base CX j f fd ps sp) (h : j ≤ k) : FnG P w K mg base CX k f fd ps sp :=
  ⟨F.len, fun A o s H a us vs Q E hr => F.run A o s H a us vs Q E (hr.mono h)⟩
theorem FnG.imp {sp' : Sp} (F : FnG P w K mg base CX k f fd ps sp) (h : ∀ vs H Q E, sp' vs H Q E → sp vs H Q E) : FnG P w K mg base CX k f fd ps sp' :=
  ⟨fun vs H Q E q => F.len vs H Q E (h vs H Q E q), fun A o s H a us vs Q E hr hg e b v q => F.run A o s H a us vs Q E hr hg e b v (h vs H Q E q)⟩

def CodeAt (K : PySem.W.Frag) (f : Addr) (cdv : Value) : Prop := ∃ oc od d osl, K.lookup f = some ⟨oc, od, .func d, osl⟩ ∧ d.code = cdv
theorem FnG.bodyC {x qual : PySem.Str} {params : Arguments} {body : List Stmt} {scope : Scope} {dvs : List V} {kws : List (PySem.Str × V)} {N : List PySem.Str}
    (F : FunD K x qual params body scope dvs kws f fd) (S : FnScope N ps scope) (len : ∀ vs H Q E, sp vs H Q E → vs.length = ps.length)
    (hbody : ∀ (cdv : Value) (A : Around) (outer : List Env) (s : Shared) (H : Hp) (vs : List V) (Q : VK) (E : XK), CodeAt K f cdv →
      Room k (A.deeper (envOfC qual scope s.heap.objs.size f cdv)) → (A.deeper (envOfC qual scope s.heap.objs.size f cdv)).guards = some [] → sp vs H Q E →
      ∃ t, PSs (cxOf CX P w K mg base N qual scope f cdv A outer s H E) body t ∧ t { nx := fun _ H' => Q .non H', rt := Q } (start N vs) H) :
    FnG P w K mg base CX (k + 1) f fd ps sp := by
  obtain ⟨oc, od, dV, kV, doc, pm, an, cdv, ct, osl, hfd, lk, hcd, _, _⟩ := F.ex
  have known : CodeAt K f cdv := ⟨oc, od, fd, osl, lk, by rw [hfd]⟩
  subst hfd
  refine ⟨len, ?_⟩
  intro A outer s H args us vs Q E room quiet e0 bt rel want
  have inK : K.In s.heap := e0.mod.kin.keeps (fun b o z => (e0.bs b o z).1)
  have nl : s.heap.NoLimit := e0.mod.nolimit.keeps (fun b o z => (e0.bs b o z).1)
  have kinds : ∀ y ∈ ps.zip us, scope.names.lookup y.1 = some .local ∨
      (scope.names.lookup y.1 = some .cell ∧ ((cellsFrom (s.heap.objs.size + 1) scope.names []).lookup y.1).isSome = true) := by
    rintro ⟨n, v⟩ hy
    have hp := (List.of_mem_zip hy).1
    cases S.par n hp with
    | inl q => exact Or.inl q
    | inr q => exact Or.inr ⟨q, PySem.W.cellsFrom_some _ _ _ (Or.inl q)⟩
  have start_at := inK _ _ lk
  have rec_at := PySem.W.codeRec_of inK hcd
  refine codeAny_call_function room.depth start_at rfl S.co S.gen rfl rec_at (bt _ _ _ _ ?_)
  refine wpAny_newFunctionEnv_cells S.kind kinds ?_
  intro env henv s1 entered
  subst henv
  refine ⟨nl.keeps entered.toInCall.keep, codeAny_func ?_⟩
  obtain ⟨t, derive, reading⟩ := hbody cdv A outer s H vs Q E known (room.deeper _) quiet want
  have inv := inv_start (CX := CX) (N := N) (E := E) S room.hd e0 (len _ _ _ _ want) rel entered
  refine wpAny_mono (derive.run [] s1 (start N vs) H _ inv reading) ?_ (fun _ _ z => z)
  intro fl s' ended
  cases fl with
  | ret u =>
    obtain ⟨v, _, H', J, rv, q⟩ := ended
    exact ⟨v, H', J.os, J.bare, J.base, J.hok, rv, q⟩
  | next =>
    obtain ⟨_, H', J, q⟩ := ended
    exact ⟨V.non, H', J.os, J.bare, J.base, J.hok, rfl, q⟩
  | brk => exact (ended.elim fun _ z => z.elim fun _ z => z.2).elim
  | cont => exact (ended.elim fun _ z => z.elim fun _ z => z.2).elim
theorem FnG.body {x qual : PySem.Str} {params : Arguments} {body : List Stmt} {scope : Scope} {dvs : List V} {kws : List (PySem.Str × V)} {N : List PySem.Str}
    (F : FunD K x qual params body scope dvs kws f fd) (S : FnScope N ps scope) (len : ∀ vs H Q E, sp vs H Q E → vs.length = ps.length)
    (hbody : ∀ (cdv : Value) (A : Around) (outer : List Env) (s : Shared) (H : Hp) (vs : List V) (Q : VK) (E : XK),
      Room k (A.deeper (envOfC qual scope s.heap.objs.size f cdv)) → (A.deeper (envOfC qual scope s.heap.objs.size f cdv)).guards = some [] → sp vs H Q E →
      ∃ t, PSs (cxOf CX P w K mg base N qual scope f cdv A outer s H E) body t ∧ t { nx := fun _ H' => Q .non H', rt := Q } (start N vs) H) :
    FnG P w K mg base CX (k + 1) f fd ps sp := by
  exact FnG.bodyC F S len fun cdv A outer s H vs Q E _ => hbody cdv A outer s H vs Q E
end

/-! ### such a def called -/
section
variable {X : Cx} {CX : CXT} {k : Nat} {f : Addr} {fd : FuncData} {ps : List PySem.Str} {sp : Sp} {dvs : List V} {ds : List Value} {E : XK}
theorem runG {pins : List (Addr × Obj)} {σ : L2.St} {H : Hp} {s : Shared} {Q : VK} {us : List Value} {vs : List V} (F : FnG X.prog X.w X.K X.mg X.base CX k f fd ps sp) (room : Room k X.A) (quiet : X.A.guards = some [])
    (hb : Binds X.K fd ps ds) (hd : Vals dvs ds) (hx : Passes CX X E) (I : Inv X pins σ H s) (r : Vals vs us) (h : sp (vs ++ dvs) H Q E) :
    wpAny (model X.prog X.w) X.A (call (.ref f) us) (EP X pins σ Q) X.xe s := by
  have rr : Vals (vs ++ dvs) (us ++ ds) := r.append hd
  have lens : (us ++ ds).length = ps.length := (rr.length.symm.trans (F.len _ _ _ _ h))
  have go := F.run X.A X.stack s H ⟨us, []⟩ (us ++ ds) (vs ++ dvs) Q E room quiet I.env0 (hb s us I.kIn lens) rr h
  refine wpAny_call (codeAny_mono go ?_)
  intro res s' hq
  cases res with
  | error er => exact hx pins σ H s er s' I hq
  | ok fl =>
    cases fl with
    | ret u => exact I.after hq
    | next => exact hq.elim
    | brk => exact hq.elim
    | cont => exact hq.elim
theorem u_callG {x : PySem.Str} {p pos : Pos} {e : Expr} {es : List Expr} {t : TA} (F : FnG X.prog X.w X.K X.mg X.base CX k f fd ps sp) (room : Room k X.A) (quiet : X.A.guards = some [])
    (hg : Gl X x) (hm : X.mg x = some (.ref f)) (hk : PySem.W.keepIn X.K (.ref f) = true) (hb : Binds X.K fd ps ds) (hd : Vals dvs ds) (hx : Passes CX X E) (ha : PA X (e :: es) t)
    (hdb : (x == ("__debug__" : PySem.Str)) = false := by decide) (he : starEach (e :: es) X.env = (false, eval e X.env) :: starEach es X.env := by rfl)
    (hpl : (backTo pos (starEach es X.env)).any (·.1) = false := by rfl) : PE X (.Call (.Name x p) (e :: es) [] pos) (tCall sp dvs E t) := by
  constructor
  intro pins s σ H Q I h
  refine wpAny_Call_Name_kw (ld_glob I hg hm ?_ hdb)
  have args := ha.run pos pins s σ H _ I h
  refine PySem.W.callWith_K (h₀ := X.base) I.ok.mod.kin hk (thn args ?_) he hpl
  rintro us s1 ⟨vs, H1, I1, r, q⟩
  exact ⟨I1.kIn, runG F room quiet hb hd hx I1 r q⟩
end

/-! ### the law's end -/
/-! ### repr -/
section
variable {X : Cx}
def rRepr (K : PySem.W.Frag) : List V → Hp → VK → Prop := fun xs H Q => ∃ x d, xs = [x] ∧ Dp K H x d ∧ d.showable = true ∧ d.hasDict = false ∧ d.depth ≤ 60 ∧ d.shown.length ≤ sizeLine ∧ Q (.str d.shown) H
theorem c_repr (quiet : X.A.guards = some []) (hu : X.A.units + 64 < cLine) : CallR X (.builtin "repr") (rRepr X.K) := by
  intro pins s σ H xs us Q I r h
  obtain ⟨x, d, rfl, hd, sh, nd, dp, sz, q⟩ := h
  obtain ⟨u, rfl, rx⟩ := vals1 r
  cases hd with
  | non =>
    cases rx
    exact PySem.P.repr_of_none ⟨.str _, H, I.tok _, ⟨_, rfl⟩, q⟩
  | bl b =>
    cases rx
    exact PySem.P.repr_of_bool ⟨.str _, H, I.tok _, ⟨_, rfl⟩, q⟩
  | int i =>
    obtain ⟨t, rfl⟩ := rx
    exact PySem.P.repr_of_int (by simpa [PyData.showable] using sh) ⟨.str _, H, I.tok _, ⟨_, rfl⟩, q⟩
  | str y =>
    obtain ⟨t, rfl⟩ := rx
    exact PySem.P.repr_of_str ⟨.str _, H, I.tok _, ⟨_, rfl⟩, q⟩ sz
  | @lst a xs ds h1 h2 =>
    cases rx
    obtain ⟨as, rd⟩ := Dp.reads I _ _ _ (Dp.lst h1 h2) (show RelV (.ref a) (.ref a) from rfl)
    exact repr_of_reads' rd sh (PyData.noDict_hsm nd) quiet (by omega) (fun _ _ e => e) (fun h' u tk hk => ⟨.str _, H, I.kept hk, ⟨_, rfl⟩, q⟩) sz
  | @tup a xs ds h1 h2 =>
    cases rx
    obtain ⟨as, rd⟩ := Dp.reads I _ _ _ (Dp.tup h1 h2) (show RelV (.ref a) (.ref a) from rfl)
    exact repr_of_reads' rd sh (PyData.noDict_hsm nd) quiet (by omega) (fun _ _ e => e) (fun h' u tk hk => ⟨.str _, H, I.kept hk, ⟨_, rfl⟩, q⟩) sz
end
end Ech

namespace Ech
open PySem PySem.Spec PyProof.Rows L2

/-! ### tests -/
def boolOf (z : V) (H : Hp) (Q : Bool → Hp → Prop) : Prop := match z with
  | .bl k => Q k H
  | _ => False
theorem boolOf_to {z : V} {H : Hp} {Q : Bool → Hp → Prop} (h : boolOf z H Q) : ∃ k, z = .bl k ∧ Q k H := by
  cases z with
  | bl k => exact ⟨k, rfl, h⟩
  | _ => exact h.elim
def uTest (t : TE) : TT := fun σ H Q => t σ H fun z H1 => boolOf z H1 Q
def truOf (K : PySem.W.Frag) (x : V) (H : Hp) (Q : Bool → Hp → Prop) : Prop := match x with
  | .bl b => Q b H
  | .non => Q false H
  | .int i => Q (i != 0) H
  | .str y => y.length ≤ sizeLine ∧ Q ((y.length : Int) != 0) H
  | x => ∃ k, TruV K x H k ∧ Q k H
def uTru (K : PySem.W.Frag) (t : TE) : TT := fun σ H Q => t σ H fun z H1 => truOf K z H1 Q
theorem truOf_to {K : PySem.W.Frag} {x : V} {H : Hp} {Q : Bool → Hp → Prop} (h : truOf K x H Q) : ∃ k, TruV K x H k ∧ Q k H := by
  cases x with
  | bl b => exact ⟨b, rfl, h⟩
  | non => exact ⟨false, rfl, h⟩
  | int i => exact ⟨_, rfl, h⟩
  | str y => exact ⟨_, ⟨h.1, rfl⟩, h.2⟩
  | _ => exact h
def uChain (r r' : R2) (ta tb tc : TE) : TE := fun σ H Q => ta σ H fun x H1 => tb σ H1 fun y H2 => r x y H2 fun z H3 => boolOf z H3 fun k H4 => bite k (tc σ H4 fun w H5 => r' y w H5 Q) (Q (.bl false) H4)
def uAnd (t u : TT) : TT := fun σ H Q => t σ H fun c H1 => bite c (u σ H1 Q) (Q false H1)
def uOr (t u : TT) : TT := fun σ H Q => t σ H fun c H1 => bite c (Q true H1) (u σ H1 Q)
def uAndV (ta tb : TE) : TE := fun σ H Q => ta σ H fun x H1 => boolOf x H1 fun c H2 => bite c (tb σ H2 Q) (Q (.bl false) H2)
def uOrV (ta tb : TE) : TE := fun σ H Q => ta σ H fun x H1 => boolOf x H1 fun c H2 => bite c (Q (.bl true) H2) (tb σ H2 Q)
def uIf (t : TT) (ta tb : TE) : TE := fun σ H Q => t σ H fun c H1 => bite c (ta σ H1 Q) (tb σ H1 Q)
def uIfS (c : TT) (t u : TS) : TS := fun D σ H => c σ H fun b H1 => bite b (t D σ H1) (u D σ H1)
def uWhile (c : TT) (tb : TS) : TS := fun D σ H => ∃ W : Nat → L2.St → Hp → Prop, (∃ m, W m σ H) ∧ ∀ m σ H, W m σ H →
  c σ H fun b H1 => bite b (tb { D with nx := fun σ' H' => ∃ m', m' < m ∧ W m' σ' H', ct := fun σ' H' => ∃ m', m' < m ∧ W m' σ' H', bk := D.nx } σ H1) (D.nx σ H1)

/-! readings grow with what is wanted -/
section
variable {X : Cx} {a b c e : Expr} {ta tb tc : TE} {tA tB' : TT} {rest : List Expr} {pos : Pos}
theorem u_cmpT {op : CmpOp} {r : R2} (ho : OpR X (compareOp op) r) (ha : PE X a ta) (hb : PE X b tb) (hm : behindInMarks op b = false) : PT X (.Compare a [op] [b] pos) (uTest (tOp r ta tb)) := by
  constructor
  intro pins s σ H Q I h
  have k : ∀ (pins' : List (Addr × Obj)) (s' : Shared) (H' : Hp) (x y : V) (v u : Value), Inv X pins' σ H' s' → RelV x v → RelV y u → r x y H' (fun z H1 => boolOf z H1 Q) →
      wpAny (model X.prog X.w) X.A (compareOp op v u) (EP X pins' σ fun z H1 => ∃ k, z = .bl k ∧ Q k H1) X.xe s' := fun pins' s' H' x y v u I' rx ry q =>
    thn (ho pins' s' σ H' x y v u _ I' rx ry q) fun w s2 ⟨z, H2, I2, r2, q2⟩ => ⟨z, H2, I2, r2, boolOf_to q2⟩
  refine wpAny_isTrue_Compare1 (thn (ha.run pins s σ H _ I h) fun v s1 ⟨x, H1, I1, r1, q1⟩ => thn (hb.run pins s1 σ H1 _ I1 q1) fun u s2 ⟨y, H2, I2, r2, q2⟩ =>
    thn (k pins s2 H2 x y v u I2 r1 r2 q2) fun w s3 ⟨z, H3, I3, r3, kk, e3, q3⟩ => ?_) hm
  subst e3
  cases r3
  exact wpAny_truthy_bool ⟨H3, I3, q3⟩
theorem u_cmp {op : CmpOp} {r : R2} (ho : OpR X (compareOp op) r) (ha : PE X a ta) (hb : PE X b tb) (hm : behindInMarks op b = false) : PE X (.Compare a [op] [b] pos) (tOp r ta tb) := pe_cmpR ho ha hb hm
theorem u_tru (h : PE X e ta) (he : ∀ whole, isTrue e X.env whole = (do let v ← whole; standAt e.pos; holding [v] (truthy v)) := by intro _; rfl) : PT X e (uTru X.K ta) := by
  constructor
  intro pins s σ H Q I hw
  refine isTrue_plain (thn (h.run pins s σ H _ I hw) fun v s1 ⟨x, H1, I1, r1, q1⟩ => ?_) (he _)
  exact tru_ok pins s1 σ H1 x v Q I1 r1 (truOf_to q1)
theorem u_and1 (ha : PT X a tA) : PW X (.BoolOp .And [a] pos) tA := pw_and1 ha
theorem u_or1 (ha : PT X a tA) : PW X (.BoolOp .Or [a] pos) tA := pw_or1 ha
theorem u_andT (ha : PT X a tA) (hb : PW X (.BoolOp .And (b :: rest) pos) tB') : PW X (.BoolOp .And (a :: b :: rest) pos) (uAnd tA tB') := by
  constructor
  intro wh pins s σ H Q I h
  refine isTrue_and (thn (ha.run pins s σ H _ I h) fun c s1 ⟨H1, I1, q1⟩ => ?_)
  cases c with
  | true => exact hb.run wh pins s1 σ H1 Q I1 q1
  | false => exact ⟨H1, I1, q1⟩
theorem u_orT (ha : PT X a tA) (hb : PW X (.BoolOp .Or (b :: rest) pos) tB') : PW X (.BoolOp .Or (a :: b :: rest) pos) (uOr tA tB') := by
  constructor
  intro wh pins s σ H Q I h
  refine isTrue_or (thn (ha.run pins s σ H _ I h) fun c s1 ⟨H1, I1, q1⟩ => ?_)
  cases c with
  | true => exact ⟨H1, I1, q1⟩
  | false => exact hb.run wh pins s1 σ H1 Q I1 q1
theorem u_and (ha : PE X a ta) (hb : PE X (.BoolOp .And (b :: rest) pos) tb) : PE X (.BoolOp .And (a :: b :: rest) pos) (uAndV ta tb) := by
  constructor
  intro pins s σ H Q I h
  refine BoolOp_and (thn (ha.run pins s σ H _ I h) fun v s1 ⟨x, H1, I1, r1, q1⟩ => ?_)
  obtain ⟨c, rfl, q1⟩ := boolOf_to q1
  cases r1
  refine wpAny_truthy_bool ?_
  cases c with
  | true => exact hb.run pins s1 σ H1 Q I1 q1
  | false => exact ⟨.bl false, H1, I1, rfl, q1⟩
theorem u_or (ha : PE X a ta) (hb : PE X (.BoolOp .Or (b :: rest) pos) tb) : PE X (.BoolOp .Or (a :: b :: rest) pos) (uOrV ta tb) := by
  constructor
  intro pins s σ H Q I h
  refine BoolOp_or (thn (ha.run pins s σ H _ I h) fun v s1 ⟨x, H1, I1, r1, q1⟩ => ?_)
  obtain ⟨c, rfl, q1⟩ := boolOf_to q1
  cases r1
  refine wpAny_truthy_bool ?_
  cases c with
  | false => exact hb.run pins s1 σ H1 Q I1 q1
  | true => exact ⟨.bl true, H1, I1, rfl, q1⟩
theorem u_ifExp (hc : PT X c tA) (ha : PE X a ta) (hb : PE X b tb) : PE X (.IfExp c a b pos) (uIf tA ta tb) := by
  constructor
  intro pins s σ H Q I h
  refine wpAny_IfExp (thn (hc.run pins s σ H _ I h) fun d s1 ⟨H1, I1, q1⟩ => ?_)
  cases d with
  | true => exact ha.run pins s1 σ H1 Q I1 q1
  | false => exact hb.run pins s1 σ H1 Q I1 q1
theorem u_if {p q : List Stmt} {t u : TS} (hc : PT X c tA) (ha : PSs X p t) (hb : PSs X q u) : PS X (.If c p q pos) (uIfS tA t u) := by
  constructor
  intro pins s σ H D I h
  refine wpAny_If (thn (hc.run pins s σ H _ I h) fun d s1 ⟨H1, I1, q1⟩ => ?_)
  cases d with
  | true => exact ha.run pins s1 σ H1 D I1 q1
  | false => exact hb.run pins s1 σ H1 D I1 q1
theorem pt_in {t : TT} {Q Q' : Bool → Hp → Prop} (h : PT X e t) (i : ∀ v H', Q v H' → Q' v H') : ∀ pins s σ H, Inv X pins σ H s → t σ H Q → wpAny (model X.prog X.w) X.A (isTrue e X.env (eval e X.env)) (TP X pins σ Q') X.xe s :=
  fun pins s σ H I q => thn (h.run pins s σ H Q I q) fun _ _ ⟨H1, I1, q1⟩ => ⟨H1, I1, i _ _ q1⟩
end

/-! ### displays -/
def uTup (t : TA) : TE := fun σ H Q => t σ H fun xs H1 => xs.length ≤ sizeLine ∧ ∀ p H2, New H1 p (.tup xs) H2 → Q (.ref p) H2
def uLst (t : TA) : TE := fun σ H Q => t σ H fun xs H1 => xs.length ≤ sizeLine ∧ ∀ p H2, New H1 p (.lst xs) H2 → Q (.ref p) H2
section
variable {X : Cx} {es : List Expr} {t : TA} {pos : Pos}
def clA (t : TA) : TA := fun σ H Q => ∃ R : List V → Hp → Prop, t σ H R ∧ ∀ v H', R v H' → Q v H'
def clE (t : TE) : TE := fun σ H Q => ∃ R : VK, t σ H R ∧ ∀ v H', R v H' → Q v H'
theorem pa_cl (h : PA X es t) : PA X es (clA t) := ⟨fun p pins s σ H Q I ⟨R, q, i⟩ => thn (h.run p pins s σ H R I q) fun _ _ ⟨vs, H1, I1, r1, q1⟩ => ⟨vs, H1, I1, r1, i _ _ q1⟩⟩
theorem pe_cl {e : Expr} {te : TE} (h : PE X e te) : PE X e (clE te) := ⟨fun pins s σ H Q I ⟨R, q, i⟩ => thn (h.run pins s σ H R I q) fun _ _ ⟨v, H1, I1, r1, q1⟩ => ⟨v, H1, I1, r1, i _ _ q1⟩⟩
theorem u_tup {x1} (h : PA X es t) : PE X (.Tuple es x1 pos) (uTup t) :=
  pe_wk (pe_tup (pa_cl h)) fun σ H Q q => ⟨_, q, fun xs H1 q1 => ⟨q1.1, fun p hp => q1.2 p _ ⟨hp, rfl⟩⟩⟩
theorem u_lst (h : PA X es t) : PE X (.List es pos) (uLst t) :=
  pe_wk (pe_lst (pa_cl h)) fun σ H Q q => ⟨_, q, fun xs H1 q1 => ⟨q1.1, fun p hp => q1.2 p _ ⟨hp, rfl⟩⟩⟩
end
end Ech

namespace Ech
open PySem PySem.W PySem.Calls PyProof.Rows
open PySem (Draws)

structure Src (prog : Program) (w : World) (A : Around) where
  it : Addr
  fp : List Addr
  n : Nat
  P : Nat → Value → Prop
  St : Nat → Heap → Prop
  D : Draws prog w A it fp n P St

def ZipF (h : Heap) (z : Addr) (f0 f1 : Value) (TI TO : Addr) : Prop := h.get? z = some { cls := .type "zip", dict := none, data := .fields #[f0, f1, .bool false, .ref TI, .ref TO], slots := #[] }
def TupF (h : Heap) (t : Addr) (vs : List Value) : Prop := h.get? t = some { cls := .type "tuple", data := .seq vs.toArray }

structure SepZ {prog : Program} {w : World} {A : Around} (ss : List (Src prog w A)) (z TI TO : Addr) : Prop where
  TIz : TI ≠ z
  TOz : TO ≠ z
  TITO : TI ≠ TO
  mem : ∀ s ∈ ss, s.it ∈ s.fp
  zf : ∀ s ∈ ss, z ∉ s.fp
  If : ∀ s ∈ ss, TI ∉ s.fp
  Of : ∀ s ∈ ss, TO ∉ s.fp
  pw : ss.Pairwise fun a b => a.it ∉ b.fp ∧ b.it ∉ a.fp

section
variable {prog : Program} {w : World} {A : Around} {E : Value → Shared → Prop} {s : Shared} {ss : List (Src prog w A)} {z TI TO : Addr} {i : Nat}

theorem Src.keep (a : Src prog w A) {i : Nat} {h h' : Heap} {x : Addr} (st : a.St i h) (hs : Heap.SameBut x h h') (hx : x ∉ a.fp) : a.St i h' :=
  a.D.frame i h h' st fun b hb o e => hs.extBut b o (fun q => hx (q ▸ hb)) e

theorem paired_snoc {α β : Type} {F : α → β → Prop} : ∀ {xs : List α} {ys : List β} {x : α} {y : β}, Paired F xs ys → F x y → Paired F (xs ++ [x]) (ys ++ [y])
  | _, _, _, _, .nil, h => .cons h .nil
  | _, _, _, _, .cons r t, h => .cons r (paired_snoc t h)

theorem TupF.upd {t : Addr} {vs : List Value} {k : Nat} {x : Value} {Q : Unit → Shared → Prop} (hT : TupF s.heap t vs) (hz : vs.length ≤ sizeLine)
    (h : ∀ h', TupF h' t (vs.set k x) → Heap.SameBut t s.heap h' → Q () { s with heap := h' }) : wpAny (model prog w) A (updateSeq t (·.setIfInBounds k x)) Q E s := by
  refine wpAny_updateSeq hT rfl (h _ ?_ (Heap.SameBut.update ..)) (by simp; omega) (by simp; omega)
  unfold TupF
  rw [Heap.get?_update_self _ hT rfl]
  simp [Obj.mapSeq]

end

/-! ### any stream gathered into a list -/
section
variable {prog : Program} {w : World} {A : Around} {R : Result → Shared → Prop} {s : Shared} {S I : Addr} {n : Nat} {J : Nat → List Value → Heap → Prop}
end
end Ech

namespace Ech
open PySem PySem.W PySem.Calls PyProof.Rows
open PySem (Draws)

section
variable {prog : Program} {w : World} {A : Around} {E : Value → Shared → Prop} {s : Shared} {z TI TO : Addr}
end
end Ech

namespace Ech
open PySem PySem.W PySem.Calls PyProof.Rows
open PySem (Draws)

section
variable {prog : Program} {w : World} {A : Around}
structure SepL (ss : List (Src prog w A)) (z TI TO S : Addr) (n : Nat) : Prop extends SepZ ss z TI TO where
  zS : z < S
  IS : TI < S
  OS : TO < S
  iS : ∀ a ∈ ss, a.it < S
  fS : ∀ a ∈ ss, S ∉ a.fp
  ne : ss ≠ []
  small : ss.length ≤ sizeLine
  le : ∀ a ∈ ss, n ≤ a.n
  eq : ∃ a ∈ ss, n = a.n
  Ii : ∀ a ∈ ss, TI ≠ a.it

theorem SepL.far {ss : List (Src prog w A)} {z TI TO S : Addr} {n : Nat} (L : SepL ss z TI TO S n) {c : Addr} (h : S ≤ c) : c ≠ z ∧ c ≠ TO ∧ ∀ a ∈ ss, c ≠ a.it :=
  ⟨Nat.ne_of_gt (Nat.lt_of_lt_of_le L.zS h), Nat.ne_of_gt (Nat.lt_of_lt_of_le L.OS h), fun a ha => Nat.ne_of_gt (Nat.lt_of_lt_of_le (L.iS a ha) h)⟩
end
end Ech

namespace Ech
open PySem PySem.W PySem.Calls PyProof.Rows
open PySem (Draws)

section
variable {prog : Program} {w : World} {A : Around} {E : Value → Shared → Prop} {s : Shared}
inductive SrcIs (h : Heap) (l : Addr) (vs : List Value) : Prop
  | lst : h.IsList l vs.toArray → SrcIs h l vs
  | tup : h.IsTuple l vs.toArray → SrcIs h l vs
theorem SrcIs.lt {h : Heap} {l : Addr} {vs : List Value} (x : SrcIs h l vs) : l < h.objs.size := by
  cases x with
  | lst q => obtain ⟨o, e, _⟩ := q; exact Heap.lt_size e
  | tup q => obtain ⟨o, e, _⟩ := q; exact Heap.lt_size e
theorem SrcIs.at {h h' : Heap} {l : Addr} {vs : List Value} (x : SrcIs h l vs) (k : ∀ o, h.get? l = some o → h'.get? l = some o) : SrcIs h' l vs := by
  cases x with
  | lst q => exact .lst (q.at k)
  | tup q => obtain ⟨o, e, r⟩ := q; exact .tup ⟨o, k _ e, r⟩
inductive ItIs (h : Heap) (i l : Addr) (vs : List Value) (k : Nat) : Prop
  | lst : h.IsListIter i l k → h.IsList l vs.toArray → ItIs h i l vs k
  | tup : h.IsTupleIter i l k → h.IsTuple l vs.toArray → ItIs h i l vs k
theorem ItIs.at {h h' : Heap} {i l : Addr} {vs : List Value} {k : Nat} (x : ItIs h i l vs k) (a : ∀ o, h.get? i = some o → h'.get? i = some o) (b : ∀ o, h.get? l = some o → h'.get? l = some o) : ItIs h' i l vs k := by
  cases x with
  | lst p q => exact .lst (p.at a) (q.at b)
  | tup p q => obtain ⟨o, e, r⟩ := q; exact .tup (p.at a) ⟨o, b _ e, r⟩
end
end Ech

namespace Ech
open PySem PySem.W PySem.Calls PyProof.Rows
open PySem (Draws)

section
variable {prog : Program} {w : World} {A : Around} {E : Value → Shared → Prop} {s : Shared}
theorem SrcIs.iter {l : Addr} {vs : List Value} {Q : Value → Shared → Prop} (x : SrcIs s.heap l vs)
    (h : ∀ h', ItIs h' s.heap.objs.size l vs 0 → h'.objs.size = s.heap.objs.size + 1 → (∀ c o, s.heap.get? c = some o → h'.get? c = some o) → Q (.ref s.heap.objs.size) { s with heap := h' }) : wpAny (model prog w) A (pyIter (.ref l)) Q E s := by
  cases x with
  | lst q =>
    refine wpAny_pyIter_list q (h _ (.lst ⟨_, Heap.get?_push_size _ rfl, rfl, rfl⟩ (q.push _)) (Heap.size_push ..) fun c o e => Heap.get?_push_of_some _ e)
  | tup q =>
    refine wpAny_pyIter_tuple q (h _ (.tup ⟨_, Heap.get?_push_size _ rfl, rfl, rfl⟩ (q.push _)) (Heap.size_push ..) fun c o e => Heap.get?_push_of_some _ e)

end

/-! zip(..) of one to five -/
section
variable {prog : Program} {w : World} {A : Around} {E : Value → Shared → Prop} {s : Shared}
end
end Ech

namespace Ech
open PySem PySem.W PySem.Calls PyProof.Rows
open PySem (Draws)
open L2 (V Hp HO Cx Inv PE PA TE TA VK RelV Vals upd SqL SqT EP AP thn)

section
variable {X : Cx}
end
end Ech

namespace Ech
open PySem PySem.W PySem.Calls PyProof.Rows
open PySem (Draws)
open L2 (V Hp HO Cx Inv PE PA TE TA VK RelV Vals upd SqL SqT EP AP thn Gl ld_blt)

section
variable {X : Cx}
end
section
variable {X : Cx} {e : Expr} {es : List Expr} {t : TA} {p p2 pos pos2 : Pos}
end
end Ech

/-! dicts whose keys are truth values -/
namespace Ech
open PySem PySem.Spec PyProof.Rows L2
/-! ### a dict whose keys are truth values -/
abbrev BKV (kvs : List (Bool × V)) (es : List DictEntry) : Prop := Paired (fun (p : Bool × V) (e : DictEntry) => e.key = .bool p.1 ∧ RelV p.2 e.val) kvs es
def BdD (a : Addr) (kvs : List (Bool × V)) : HO := .ext fun h => (a == sysModules) = false ∧ ∃ o es ep, h.get? a = some o ∧ o.ExactDict ∧ o.data = .dict es ep ∧ BKV kvs es.toList
theorem bd_ok {P : Program} {w : World} {H : Hp} {h : Heap} {a : Addr} {kvs : List (Bool × V)} (h1 : (a == sysModules) = false) {o : Obj} {es : Array DictEntry} {ep : Nat} (ho : h.get? a = some o) (ex : o.ExactDict) (hd : o.data = .dict es ep) (r : BKV kvs es.toList) : ObjOk P w H h a (BdD a kvs) :=
  ⟨⟨h1, o, es, ep, ho, ex, hd, r⟩, ⟨o, ho⟩, fun _ _ z k => z.elim fun z1 z2 => ⟨z1, z2.elim fun o z3 => z3.elim fun es z4 => z4.elim fun ep z5 => ⟨o, es, ep, k o z5.1, z5.2⟩⟩⟩
section
variable {X : Cx} {pins : List (Addr × Obj)} {σ : L2.St} {H : Hp} {s : Shared} {a : Addr}
end
/-! isinstance of dicts of several kinds -/
def DictQ (H : Hp) (a : Addr) : Prop := (∃ kvs, Rd H a (BdD a kvs)) ∨ ∃ kvs : List (List Key × V), Rd H a (.dT kvs)
theorem dictQ_at {X : Cx} {pins : List (Addr × Obj)} {σ : L2.St} {H : Hp} {s : Shared} {a : Addr} (I : Inv X pins σ H s) (x : DictQ H a) : ∃ o, s.heap.get? a = some o ∧ o.cls = .type "dict" := by
  rcases x with ⟨kvs, x⟩ | ⟨kvs, x⟩
  · obtain ⟨⟨_, o, es, ep, ho, ex, _⟩, _⟩ := (show ObjOk X.prog X.w H s.heap a (BdD a kvs) from rd_of I.hok x)
    exact ⟨o, ho, ex.1⟩
  · obtain ⟨_, _, xs, _, o, es, ep, ho, ex, _⟩ := (show ObjOk X.prog X.w H s.heap a (.dT kvs) from rd_of I.hok x)
    exact ⟨o, ho, ex.1⟩
def rIsiY (K : PySem.W.Frag) : List V → Hp → VK → Prop := fun xs H Q => ∃ (a : Addr) (c : V) (u : Value) (b : Bool), xs = [.ref a, c] ∧ ClsV c u ∧ DictQ H a ∧ PySem.W.kitOne K (.type "dict") u = some b ∧ Q (.bl b) H
def rIsiYT (K : PySem.W.Frag) : List V → Hp → VK → Prop := fun xs H Q => ∃ (a tp : Addr) (cs : List V) (us : List Value) (b : Bool), xs = [.ref a, .ref tp] ∧ H tp = some (.tup cs) ∧ Paired ClsV cs us ∧ DictQ H a ∧ PySem.W.kitAny K (.type "dict") us = some b ∧ Q (.bl b) H
section
variable {X : Cx}
theorem call_isiY : CallR X (.builtin "isinstance") (rIsiY X.K) := by
  intro pins s σ H xs us Q I r h
  obtain ⟨a, c, u, b, rfl, k, hd, e, q⟩ := h
  obtain ⟨u1, u2, rfl, r1, r2⟩ := vals2 r
  have e2 := k.eq r2
  subst e2
  cases (show u1 = Value.ref a from r1)
  exact PySem.W.kia_one PySem.W.kitx_dict I.kIn (dictQ_at I hd) e (fun z => nomatch z) fun tk => ⟨.bl b, H, I.tok tk, rfl, q⟩
theorem call_isiYT : CallR X (.builtin "isinstance") (rIsiYT X.K) := by
  intro pins s σ H xs us Q I r h
  obtain ⟨a, tp, cs, ws, b, rfl, hT, k, hd, e, q⟩ := h
  obtain ⟨u1, u2, rfl, r1, r2⟩ := vals2 r
  cases (show u1 = Value.ref a from r1)
  cases (show u2 = Value.ref tp from r2)
  obtain ⟨_, its, rv, ⟨oc, od, dt, sl⟩, h1, h2, n, h3⟩ := (show ObjOk X.prog X.w H s.heap tp (.tup cs) from I.hok tp _ hT)
  have e3 := ClsV.all k rv
  subst e3
  simp only at h2 h3
  subst h2 h3
  exact PySem.W.kia_tup PySem.W.kitx_dict I.kIn (dictQ_at I hd) h1 e (fun z => nomatch z) fun tk => ⟨.bl b, H, I.tok tk, rfl, q⟩
end
end Ech

namespace Ech
open PySem PySem.Spec PyProof.Rows L2

/-! ### chains, while -/
section
variable {X : Cx} {a b c : Expr} {ta tb tc : TE} {pos : Pos}
theorem op_cl {f : Value → Value → Sem Value} {r : R2} (h : OpR X f r) : OpR X f (fun x y H Q => ∃ R : VK, r x y H R ∧ ∀ v H', R v H' → Q v H') :=
  fun pins s σ H x y v u Q I rx ry ⟨R, q, i⟩ => thn (h pins s σ H x y v u R I rx ry q) fun _ _ ⟨z, H1, I1, r1, q1⟩ => ⟨z, H1, I1, r1, i _ _ q1⟩
theorem u_chain {op op' : CmpOp} {r r' : R2} (ho : OpR X (compareOp op) r) (ho' : OpR X (compareOp op') r') (ha : PE X a ta) (hb : PE X b tb) (hc : PE X c tc)
    (hm : lastMarks [op, op'] [b, c] = false := by with_unfolding_all rfl) : PE X (.Compare a [op, op'] [b, c] pos) (uChain r r' ta tb tc) := by
  refine pe_wk (pe_chain (op_cl ho) ho' (pe_cl ha) (pe_cl hb) hc hm) fun σ H Q q => ?_
  refine ⟨_, q, fun x H1 q1 => ⟨_, q1, fun y H2 q2 => ⟨_, q2, fun z H3 q3 => ?_⟩⟩⟩
  obtain ⟨k, e, q4⟩ := boolOf_to q3
  exact ⟨k, e, bite_if q4⟩
theorem u_chainT {op op' : CmpOp} {r r' : R2} (ho : OpR X (compareOp op) r) (ho' : OpR X (compareOp op') r') (ha : PE X a ta) (hb : PE X b tb) (hc : PE X c tc)
    (hm : lastMarks [op, op'] [b, c] = false := by with_unfolding_all rfl) : PT X (.Compare a [op, op'] [b, c] pos) (uTest (uChain r r' ta tb tc)) := by
  refine pt_wk (pt_chain (op_cl ho) (op_cl ho') (pe_cl ha) (pe_cl hb) (pe_cl hc) hm) fun σ H Q q => ?_
  refine ⟨_, q, fun x H1 q1 => ⟨_, q1, fun y H2 q2 => ⟨_, q2, fun z H3 q3 => ?_⟩⟩⟩
  obtain ⟨k, e, q4⟩ := boolOf_to q3
  refine ⟨k, e, ?_⟩
  cases k with
  | true => exact (if_pos rfl).mpr ⟨_, q4, fun w H4 q5 => ⟨_, q5, fun v H5 q6 => boolOf_to q6⟩⟩
  | false => exact (if_neg Bool.false_ne_true).mpr ⟨false, rfl, q4⟩
theorem u_while {tA : TT} {body : List Stmt} {t : TS} (hp : PassesOwn (model X.prog X.w) X.A X.env X.xe) (hc : PT X c tA) (hb : PSs X body t) : PS X (.While c body [] pos) (uWhile tA t) := by
  have hc' : PT X c (fun σ H Q => ∃ R : Bool → Hp → Prop, tA σ H R ∧ ∀ v H', R v H' → Q v H') := ⟨fun pins s σ H Q I ⟨R, q, i⟩ => pt_in hc i pins s σ H I q⟩
  refine ps_wk (ps_while hp hc' hb) fun D σ H ⟨W, h0, step⟩ => ⟨W, h0, fun m σ H w => ⟨_, step m σ H w, fun b H1 q => bite_if ?_⟩⟩
  cases b with
  | true => exact ⟨_, fun _ _ z => z, q⟩
  | false => exact q
end

/-! ### fields, objects -/
def uFld (C : Addr) (ta : TE) (f : PySem.Str) : TE := fun σ H Q => ta σ H fun x H1 => match x with
  | .ref a => ∃ dx fs v, H1 a = some (.ins C dx fs) ∧ fs.lookup f = some v ∧ Q v H1
  | _ => False
def uSetFld (C : Addr) (ta tv : TE) (f : PySem.Str) : TS := fun D σ H => tv σ H fun y H1 => ta σ H1 fun x H2 => match x with
  | .ref a => ∃ dx fs, H2 a = some (.ins C dx fs) ∧ fs.length < 1000 ∧ ∀ H3, Chg H2 a (.ins C dx (putF f y fs)) H3 → D.nx σ H3
  | _ => False
structure Made (H : Hp) (x dx C : Addr) (H1 : Hp) : Prop where
  nx : H x = none
  ndx : H dx = none
  ne : dx ≠ x
  eq : H1 = upd (upd H dx (.own x)) x (.ins C dx [])
def uMake (C : Addr) (sp : Sp) (dvs : List V) (E : XK) (t : TA) : TE := fun σ H Q => t σ H fun vs H1 => ∀ x dx H2, Made H1 x dx C H2 → sp (.ref x :: (vs ++ dvs)) H2 (fun v H3 => v = .non ∧ Q (.ref x) H3) E
def uProp (C : Addr) (sp : Sp) (E : XK) (ta : TE) : TE := fun σ H Q => ta σ H fun x H1 => match x with
  | .ref a => ∃ dx fs, H1 a = some (.ins C dx fs) ∧ sp [.ref a] H1 Q E
  | _ => False
def uMeth (C : Addr) (m : PySem.Str) (sp : Sp) (dvs : List V) (E : XK) (ta : TE) (t : TA) : TE := fun σ H Q => ta σ H fun x H1 => match x with
  | .ref a => ∃ dx fs, H1 a = some (.ins C dx fs) ∧ fs.lookup m = none ∧ t σ H1 fun vs H2 => sp (.ref a :: (vs ++ dvs)) H2 Q E
  | _ => False
section
variable {X : Cx} {e o value : Expr} {es : List Expr} {ta tv : TE} {t : TA} {pos pos' p apos : Pos} {C f : Addr} {n m x : PySem.Str} {CX : CXT} {k : Nat} {fd : FuncData} {ps : List PySem.Str} {sp : Sp} {dvs : List V} {ds : List Value} {E : XK}
theorem u_fld (c : Cls X.K C) (na : NoAttr X.K C n) (he : PE X e ta) (hb : attributeBase e n X.env (eval e X.env) = eval e X.env := by rfl) : PE X (.Attribute e n pos) (uFld C ta n) := by
  refine pe_wk (pe_fld (pe_cl he) hb) fun σ H Q q => ⟨_, q, fun v H1 q1 => ?_⟩
  cases v with
  | ref a =>
    obtain ⟨dx, fs, v, h1, h2, h3⟩ := q1
    exact ⟨a, C, dx, fs, v, rfl, h1, c, na, h2, h3⟩
  | _ => exact q1.elim
theorem u_setFld (c : Cls X.K C) (na : NoAttr X.K C n) (ha : PE X o ta) (hv : PE X value tv) (hs : swapsWith value (some (.Attribute o n pos')) pos.line X.env = pure false := by rfl) : PS X (.Assign [.Attribute o n pos'] value pos) (uSetFld C ta tv n) := by
  refine ps_wk (ps_fld (pe_cl ha) (pe_cl hv) hs) fun D σ H q => ⟨_, q, fun y H1 q1 => ⟨_, q1, fun v H2 q2 => ?_⟩⟩
  cases v with
  | ref a =>
    obtain ⟨dx, fs, h1, h2, h3⟩ := q2
    exact ⟨a, C, dx, fs, rfl, h1, c, na, h2, h3 _ ⟨rfl⟩⟩
  | _ => exact q2.elim
theorem u_make (M : Mk X.K C f) (F : FnOk X.prog X.w X.K X.mg X.base CX k f fd ps sp) (hr : Room (k + 1) X.A) (hg : Gl X x) (hm : X.mg x = some (.ref C)) (hb : Binds X.K fd ps ds) (hd : Vals dvs ds) (hx : Passes CX X E) (ha : PA X (e :: es) t)
    (hdb : (x == ("__debug__" : PySem.Str)) = false := by decide) (he : starEach (e :: es) X.env = (false, eval e X.env) :: starEach es X.env := by rfl) (hpl : (backTo pos (starEach es X.env)).any (·.1) = false := by rfl) :
    PE X (.Call (.Name x p) (e :: es) [] pos) (uMake C sp dvs E t) :=
  pe_wk (pe_make M F hr hg hm hb hd hx (pa_cl ha) hdb he hpl) fun σ H Q q => ⟨_, q, fun vs H1 q1 a dx h1 h2 h3 => q1 a dx _ ⟨h1, h2, h3, rfl⟩⟩
theorem u_prop {pp g : Addr} (he : PE X e ta) (c : Cls X.K C) (hp : PropOf X.K C n pp g) (F : FnOk X.prog X.w X.K X.mg X.base CX k g fd ps sp) (hr : Room (k + 1) X.A) (hb : Binds X.K fd ps []) (hx : Passes CX X.nox E)
    (hab : attributeBase e n X.env (eval e X.env) = eval e X.env := by rfl) : PE X (.Attribute e n pos) (uProp C sp E ta) := by
  refine pe_wk (pe_prop (pe_cl he) c hp F hr hb .nil hx hab) fun σ H Q q => ⟨_, q, fun v H1 q1 => ?_⟩
  cases v with
  | ref a =>
    obtain ⟨dx, fs, h1, h2⟩ := q1
    exact ⟨a, dx, fs, rfl, h1, h2⟩
  | _ => exact q1.elim
end

/-! ### calls of built-in things -/
def rLenU (K : PySem.W.Frag) : List V → Hp → VK → Prop := fun xs H Q => match xs with
  | [.str y] => y.length ≤ sizeLine ∧ Q (.int y.length) H
  | [.ref p] => ∃ ys, (SqL K H p ys ∨ SqT K H p ys) ∧ Q (.int ys.length) H
  | _ => False
def rIntU : List V → Hp → VK → Prop := fun xs H Q => match xs with
  | [.int i] => Q (.int i) H
  | [.bl k] => Q (.int (if k then 1 else 0)) H
  | [.str a] => ∃ n, PySem.intText? a = some n ∧ a.length ≤ 640 ∧ Q (.int n) H
  | _ => False
def rAbsU : List V → Hp → VK → Prop := fun xs H Q => match xs with
  | [.int i] => Q (.int i.natAbs) H
  | _ => False
def rMinU : List V → Hp → VK → Prop := fun xs H Q => match xs with
  | [.int i, .int j] => Q (.int (min i j)) H
  | _ => False
def rMaxU : List V → Hp → VK → Prop := fun xs H Q => match xs with
  | [.int i, .int j] => Q (.int (max i j)) H
  | _ => False
def rTupleU (K : PySem.W.Frag) : List V → Hp → VK → Prop := fun xs H Q => match xs with
  | [.ref p] => ∃ ys, (SqL K H p ys ∧ ∀ l H1, New H l (.tup ys) H1 → Q (.ref l) H1) ∨ (SqT K H p ys ∧ Q (.ref p) H)
  | _ => False
def rListU (K : PySem.W.Frag) : List V → Hp → VK → Prop := fun xs H Q => match xs with
  | [.ref p] => ∃ ys, (SqL K H p ys ∨ SqT K H p ys) ∧ ∀ l H1, New H l (.lst ys) H1 → Q (.ref l) H1
  | _ => False
def rAllU (K : PySem.W.Frag) : List V → Hp → VK → Prop := fun xs H Q => match xs with
  | [.ref p] => ∃ bs : List Bool, SqL K H p (bs.map V.bl) ∧ Q (.bl (bs.all id)) H
  | _ => False
def rSumU (K : PySem.W.Frag) : List V → Hp → VK → Prop := fun xs H Q => match xs with
  | [.ref p] => ∃ ns : List Int, SqL K H p (ns.map V.int) ∧ Q (.int ns.sum) H
  | _ => False
def rIsiU (K : PySem.W.Frag) : List V → Hp → VK → Prop := fun xs H Q => rIsi K xs H Q ∨ (rIsiT K xs H Q ∨ (rIsiY K xs H Q ∨ rIsiYT K xs H Q))
section
variable {X : Cx}
theorem c_len : CallR X (.builtin "len") (rLenU X.K) := by
  refine call_wk call_len fun xs H Q h => ?_
  unfold rLenU at h
  split at h
  · exact ⟨_, _, rfl, ⟨h.1, rfl⟩, h.2⟩
  · obtain ⟨ys, h1 | h1, q⟩ := h
    · exact ⟨_, _, rfl, Or.inl ⟨ys, h1, rfl⟩, q⟩
    · exact ⟨_, _, rfl, Or.inr ⟨ys, h1, rfl⟩, q⟩
  · exact h.elim
theorem c_int : CallR X (.type "int") rIntU := by
  refine call_wk (call_or call_int1 call_int_str) fun xs H Q h => ?_
  unfold rIntU at h
  split at h
  · exact .inl (.inl ⟨_, rfl, h⟩)
  · exact .inl (.inr ⟨_, rfl, h⟩)
  · obtain ⟨n, h1, h2, h3⟩ := h
    exact .inr ⟨_, n, rfl, h1, h2, h3⟩
  · exact h.elim
theorem c_abs : CallR X (.builtin "abs") rAbsU := by
  refine call_wk call_abs fun xs H Q h => ?_
  unfold rAbsU at h
  split at h
  · rename_i i
    refine ⟨i, rfl, ?_⟩
    have e : (if i < 0 then -i else i) = (i.natAbs : Int) := by split <;> omega
    rw [e]
    exact h
  · exact h.elim
theorem c_min (hc : X.calm = true) : CallR X (.builtin "min") rMinU := by
  refine call_wk (call_min2 hc) fun xs H Q h => ?_
  unfold rMinU at h
  split at h
  · rename_i i j
    refine ⟨i, j, rfl, ?_⟩
    have e : (if j < i then j else i) = min i j := by split <;> omega
    rw [e]
    exact h
  · exact h.elim
theorem c_max (hc : X.calm = true) : CallR X (.builtin "max") rMaxU := by
  refine call_wk (call_max2 hc) fun xs H Q h => ?_
  unfold rMaxU at h
  split at h
  · rename_i i j
    refine ⟨i, j, rfl, ?_⟩
    have e : (if j > i then j else i) = max i j := by split <;> omega
    rw [e]
    exact h
  · exact h.elim
theorem c_tuple : CallR X (.type "tuple") (rTupleU X.K) := by
  refine call_wk call_tuple_of fun xs H Q h => ?_
  unfold rTupleU at h
  split at h
  · obtain ⟨ys, ⟨h1, h2⟩ | ⟨h1, h2⟩⟩ := h
    · exact ⟨_, ys, rfl, .inl ⟨h1, fun l hl => h2 l _ ⟨hl, rfl⟩⟩⟩
    · exact ⟨_, ys, rfl, .inr ⟨h1, h2⟩⟩
  · exact h.elim
theorem c_list : CallR X (.type "list") (rListU X.K) := by
  refine call_wk call_list_of fun xs H Q h => ?_
  unfold rListU at h
  split at h
  · obtain ⟨ys, h1, h2⟩ := h
    exact ⟨_, ys, rfl, h1, fun l hl => h2 l _ ⟨hl, rfl⟩⟩
  · exact h.elim
theorem c_all (hc : X.calm = true) : CallR X (.builtin "all") (rAllU X.K) := by
  refine call_wk (cr_all hc) fun xs H Q h => ?_
  unfold rAllU at h
  split at h
  · obtain ⟨bs, h1, h2⟩ := h
    exact ⟨_, bs, rfl, h1, h2⟩
  · exact h.elim
theorem c_sum (hc : X.calm = true) : CallR X (.builtin "sum") (rSumU X.K) := by
  refine call_wk (cr_sum hc) fun xs H Q h => ?_
  unfold rSumU at h
  split at h
  · obtain ⟨ns, h1, h2⟩ := h
    exact ⟨_, ns, rfl, h1, h2⟩
  · exact h.elim
theorem c_isi : CallR X (.builtin "isinstance") (rIsiU X.K) := call_or call_isi (call_or call_isiT (call_or call_isiY call_isiYT))
end

/-! ### subscripts, slices, stores -/
def rIxU (K : PySem.W.Frag) : R2 := fun x y H Q => match x, y with
  | .ref p, .int i => ∃ xs v, (SqL K H p xs ∨ SqT K H p xs) ∧ atI xs i = some v ∧ Q v H
  | .str z, .int i => ∃ c, z.length ≤ sizeLine ∧ atI z.cps.toList i = some c ∧ Q (.str ⟨#[c]⟩) H
  | _, _ => False
def rSlU (K : PySem.W.Frag) : V → Option Int → Option Int → Hp → VK → Prop := fun x lo hi H Q => match x with
  | .ref a => ∃ xs, (SqL K H a xs ∧ ∀ p H1, New H p (.lst (cutV xs lo hi)) H1 → Q (.ref p) H1) ∨
      (SqT K H a xs ∧ ¬ (HT.sIx xs.length 0 lo = 0 ∧ HT.sIx xs.length xs.length hi = xs.length) ∧ ∀ p H1, New H p (.tup (cutV xs lo hi)) H1 → Q (.ref p) H1)
  | _ => False
def uDGet (td ty : TE) : TE := fun σ H Q => td σ H fun x H1 => ty σ H1 fun y H2 => match x with
  | .ref a => ∃ v, DGet H2 a y (some v) ∧ Q v H2
  | _ => False
def uDPut (td ty tv : TE) : TS := fun D σ H => tv σ H fun v H1 => td σ H1 fun x H2 => ty σ H2 fun y H3 => match x with
  | .ref a => ∃ H4, DPut H3 a y v H4 ∧ D.nx σ H4
  | _ => False
end Ech

namespace Ech
open PySem PySem.Spec PyProof.Rows L2

section
variable {X : Cx} {a b o i value e : Expr} {es : List Expr} {ta tb td ty tv te to : TE} {t : TA} {pos pos' apos cpos : Pos}
theorem ix_u : IxR X (rIxU X.K) := by
  refine ix_wk ix_seq fun x y H Q h => ?_
  unfold rIxU at h
  split at h
  · obtain ⟨xs, v, h1 | h1, h2, h3⟩ := h
    · exact .inl ⟨_, xs, _, v, rfl, rfl, h1, h2, h3⟩
    · exact .inr (.inl ⟨_, xs, _, v, rfl, rfl, h1, h2, h3⟩)
  · obtain ⟨c, h1, h2, h3⟩ := h
    exact .inr (.inr ⟨_, _, c, rfl, rfl, h1, h2, h3⟩)
  · exact h.elim
theorem sl_u : SlR X (rSlU X.K) := by
  refine sl_wk (sl_list.or sl_tup) fun x lo hi H Q h => ?_
  unfold rSlU at h
  split at h
  · obtain ⟨xs, ⟨h1, h2⟩ | ⟨h1, h2, h3⟩⟩ := h
    · exact .inl ⟨_, xs, rfl, h1, fun p hp => h2 p _ ⟨hp, rfl⟩⟩
    · exact .inr ⟨_, xs, rfl, h1, h2, fun p hp => h3 p _ ⟨hp, rfl⟩⟩
  · exact h.elim
theorem u_dget (hu : X.A.units + 1 < cLine) (ho : PE X o td) (hi : PE X i ty) (hs : NoSl i := by exact fun _ _ => rfl) : PE X (.Subscript o i pos) (uDGet td ty) := by
  refine pe_wk (pe_dget hu (pe_cl ho) (pe_cl hi) hs) fun σ H Q q => ⟨_, q, fun x H1 q1 => ⟨_, q1, fun y H2 q2 => ?_⟩⟩
  cases x with
  | ref d =>
    obtain ⟨v, h1, h2⟩ := q2
    exact ⟨d, v, rfl, h1, h2⟩
  | _ => exact q2.elim
theorem u_dput (hu : X.A.units + 1 < cLine) (ho : PE X o td) (hi : PE X i ty) (hv : PE X value tv) (hs : swapsWith value (some (.Subscript o i pos')) pos.line X.env = pure false := by rfl) : PS X (.Assign [.Subscript o i pos'] value pos) (uDPut td ty tv) := by
  refine ps_wk (ps_dput hu (pe_cl ho) (pe_cl hi) (pe_cl hv) hs) fun D σ H q => ⟨_, q, fun v H1 q1 => ⟨_, q1, fun x H2 q2 => ⟨_, q2, fun y H3 q3 => ?_⟩⟩⟩
  cases x with
  | ref d =>
    obtain ⟨H4, h1, h2⟩ := q3
    exact ⟨d, H4, rfl, h1, h2⟩
  | _ => exact q3.elim
end

/-! ### methods of lists -/
def uMut (K : PySem.W.Frag) (to : TE) (t : TA) (r : Addr → List V → List V → Hp → (List V → Prop) → Prop) : TE := fun σ H Q => to σ H fun x H1 => match x with
  | .ref l => (∃ xs, SqL K H1 l xs) ∧ t σ H1 fun ys H2 => ∃ xs, H2 l = some (.lst xs) ∧ r l xs ys H2 fun zs => ∀ H3, Chg H2 l (.lst zs) H3 → Q .non H3
  | _ => False
def mApp : Addr → List V → List V → Hp → (List V → Prop) → Prop := fun _ xs ys _ k => match ys with
  | [y] => xs.length < sizeLine ∧ k (xs ++ [y])
  | _ => False
def mExt : Addr → List V → List V → Hp → (List V → Prop) → Prop := fun _ xs ys H k => match ys with
  | [.ref b] => ∃ zs, H b = some (.lst zs) ∧ xs.length + zs.length ≤ sizeLine ∧ k (xs ++ zs)
  | _ => False
section
variable {X : Cx} {o e : Expr} {es : List Expr} {to : TE} {t : TA} {apos cpos : Pos}
theorem u_append (ho : PE X o to) (ha : PA X (e :: es) t) (hb : attributeBase o "append" X.env (eval o X.env) = eval o X.env := by rfl)
    (hfew : methodCallForm (e :: es).length (backTo cpos (starEach (e :: es) X.env)) (backToKw cpos (keywordEach [] X.env)) = true := by rfl) (hl : (apos.endLine == cpos.line) = true := by rfl)
    (hs : starEach (e :: es) X.env = (false, eval e X.env) :: starEach es X.env := by rfl) (hpl : (backTo cpos (starEach es X.env)).any (·.1) = false := by rfl) :
    PE X (.Call (.Attribute o "append" apos) (e :: es) [] cpos) (uMut X.K to t mApp) := by
  refine pe_wk (pe_bm PySem.F.plainAttrs_list PySem.F.slot_list_append PySem.F.type_list_append mt_append (pe_cl ho) (pa_cl ha) hb hfew hl hs hpl) fun σ H Q q => ⟨_, q, fun x H1 q1 => ?_⟩
  cases x with
  | ref l =>
    obtain ⟨⟨xs, hx⟩, q2⟩ := q1
    refine ⟨Or.inl ⟨rfl, xs, hx⟩, _, q2, fun ys H2 ⟨xs, h1, h2⟩ => ?_⟩
    unfold mApp at h2
    split at h2
    · exact ⟨l, xs, _, rfl, rfl, h1, h2.1, h2.2 _ ⟨rfl⟩⟩
    · exact h2.elim
  | _ => exact q1.elim
theorem u_extend (ho : PE X o to) (ha : PA X (e :: es) t) (hb : attributeBase o "extend" X.env (eval o X.env) = eval o X.env := by rfl)
    (hfew : methodCallForm (e :: es).length (backTo cpos (starEach (e :: es) X.env)) (backToKw cpos (keywordEach [] X.env)) = true := by rfl) (hl : (apos.endLine == cpos.line) = true := by rfl)
    (hs : starEach (e :: es) X.env = (false, eval e X.env) :: starEach es X.env := by rfl) (hpl : (backTo cpos (starEach es X.env)).any (·.1) = false := by rfl) :
    PE X (.Call (.Attribute o "extend" apos) (e :: es) [] cpos) (uMut X.K to t mExt) := by
  refine pe_wk (pe_bm PySem.F.plainAttrs_list PySem.F.slot_list_extend PySem.F.type_list_extend mt_extend (pe_cl ho) (pa_cl ha) hb hfew hl hs hpl) fun σ H Q q => ⟨_, q, fun x H1 q1 => ?_⟩
  cases x with
  | ref l =>
    obtain ⟨⟨xs, hx⟩, q2⟩ := q1
    refine ⟨Or.inl ⟨rfl, xs, hx⟩, _, q2, fun ys H2 ⟨xs, h1, h2⟩ => ?_⟩
    unfold mExt at h2
    split at h2
    · obtain ⟨zs, h3, h4, h5⟩ := h2
      exact ⟨l, _, xs, zs, rfl, rfl, h1, h3, h4, h5 _ ⟨rfl⟩⟩
    · exact h2.elim
  | _ => exact q1.elim
end

/-! ### what is walked -/
abbrev WC := Nat → (Hp → Prop) → (Nat → Hp → V → Hp → Prop) → Hp → Prop
abbrev TW := L2.St → Hp → WC → Prop
structure PIU (X : Cx) (tg iter : Expr) (w : TW) : Prop where
  run : ∀ (pins : List (Addr × Obj)) (s : Shared) (σ : L2.St) (H : Hp) (C : WC), Inv X pins σ H s → w σ H C →
    wpAny (model X.prog X.w) X.A (eval iter X.env) (fun v s1 => wpAny (model X.prog X.w) X.A (pyIter v) (PIE X pins σ tg fun J H1 => ∃ n G Y, Walk J n G Y ∧ C n G Y H1) X.xe s1) X.xe s
def Sq (b : Bool) (K : PySem.W.Frag) (H : Hp) (a : Addr) (xs : List V) : Prop := match b with
  | true => SqL K H a xs
  | false => SqT K H a xs
def wSeq (K : PySem.W.Frag) (tl : TE) : TW := fun σ H C => tl σ H fun x H1 => match x with
  | .ref a => ∃ b xs, Sq b K H1 a xs ∧ C xs.length (fun H => Sq b K H a xs) (YAt xs) H1
  | _ => False
def wRange1 (t : TA) : TW := fun σ H C => t σ H fun vs H1 => match vs with
  | [.int j] => (-(2 ^ 62) ≤ j ∧ j < 2 ^ 62) ∧ C j.toNat (fun _ => True) (YFn fun i => .int (0 + i)) H1
  | _ => False
section
variable {X : Cx} {tg e e2 : Expr} {tl : TE} {t : TA} {p pos tpos : Pos}
theorem pie_mono {pins : List (Addr × Obj)} {σ : L2.St} {R R' : It → Hp → Prop} {v : Value} {s : Shared} (h : PIE X pins σ tg R v s) (i : ∀ J H, R J H → R' J H) : PIE X pins σ tg R' v s := by
  obtain ⟨it, fp, tn, J, H', e, I, T, st, f, r⟩ := h
  exact ⟨it, fp, tn, J, H', e, I, T, st, f, i J H' r⟩
theorem piu_of {wi : TI} {w : TW} (h : PI X tg e wi) (i : ∀ σ H C, w σ H C → wi σ H fun J H1 => ∃ n G Y, Walk J n G Y ∧ C n G Y H1) : PIU X tg e w :=
  ⟨fun pins s σ H C I q => h.run pins s σ H _ I (i σ H C q)⟩
theorem piu_seq (hl : PE X e tl) : PIU X tg e (wSeq X.K tl) := by
  constructor
  intro pins s σ H C I h
  refine thn (hl.run pins s σ H _ I h) ?_
  rintro v s1 ⟨x, H1, I1, r1, q1⟩
  cases x with
  | ref a =>
    obtain ⟨b, xs, hq, q⟩ := q1
    cases r1
    have fresh : ∀ c ∈ [s1.heap.objs.size], FpOk X pins H1 c := fun c hc => by
      rw [List.mem_singleton.mp hc]
      exact I1.fpOk (Nat.le_refl _) (I1.hok.fresh (Nat.le_refl _))
    cases b with
    | true =>
      obtain ⟨its, rv, pl, hz⟩ := I1.list hq
      refine wpAny_pyIter_list pl.isList ?_
      have I2 := I1.kept (h' := s1.heap.push { cls := .type "list_iterator", data := .fields #[.ref a, .int 0 0] }) (t' := s1.toks) fun b o z => Heap.get?_push_of_some _ z
      exact ⟨_, _, _, _, H1, rfl, I2, turn_list a _, ⟨_, Heap.get?_push_size _ rfl, rfl, rfl⟩, fresh, _, _, _, walk_list, q⟩
    | false =>
      obtain ⟨its, rv, pl, hz⟩ := I1.tuple hq
      refine wpAny_pyIter_tuple (show s1.heap.IsTuple a its.toArray from pl) ?_
      have I2 := I1.kept (h' := s1.heap.push { cls := .type "tuple_iterator", data := .fields #[.ref a, .int 0 0] }) (t' := s1.toks) fun b o z => Heap.get?_push_of_some _ z
      exact ⟨_, _, _, _, H1, rfl, I2, turn_tuple a _, ⟨_, Heap.get?_push_size _ rfl, rfl, rfl⟩, fresh, _, _, _, walk_tup, q⟩
  | _ => exact q1.elim
theorem piu_range1 (hg : Gl X "range") (hm : X.mg "range" = none) (ha : PA X [e] t) (hs : starEach [e] X.env = [(false, eval e X.env)] := by rfl) : PIU X tg (.Call (.Name "range" p) [e] [] pos) (wRange1 t) := by
  refine piu_of (pi_range1 hg hm (pa_cl ha) hs) fun σ H C q => ⟨_, q, fun vs H1 q1 => ?_⟩
  split at q1
  · exact ⟨_, rfl, q1.1.1, q1.1.2, _, _, _, walk_range, q1.2⟩
  · exact q1.elim
end

/-! ### for, comprehensions -/
def uFor (w : TW) (g : TG) (tb : TS) : TS := fun D σ H => w σ H fun n G Y H1 => ∃ Pv : Nat → L2.St → Hp → Prop, Pv 0 σ H1 ∧ (∀ i σ H, i ≤ n → Pv i σ H → G H) ∧
  (∀ i x σ H H', i < n → Pv i σ H → Y i H x H' → g x σ H' fun σ2 H2 => tb { D with nx := Pv (i + 1), ct := Pv (i + 1), bk := D.nx } σ2 H2) ∧ ∀ σ H, Pv n σ H → D.nx σ H
def lcGo (g : TG) (tt : TT) (te : TE) (vs : List Nat) (σ : L2.St) (Q : VK) (n : Nat) (G : Hp → Prop) (Y : Nat → Hp → V → Hp → Prop) (H1 : Hp) : Prop := ∀ D H2, New H1 D (.lst []) H2 → ∃ Pv : Nat → Hp → Prop, Pv 0 H2 ∧ (∀ i H, i ≤ n → Pv i H → G H) ∧
  (∀ i x H H', i < n → Pv i H → Y i H x H' → g x (wipe σ vs) H' fun σ2 H3 => wipe σ2 vs = wipe σ vs ∧ tt σ2 H3 fun c H4 =>
    bite c (te σ2 H4 fun y H5 => ∃ acc, H5 D = some (.lst acc) ∧ acc.length < sizeLine ∧ ∀ H6, Chg H5 D (.lst (acc ++ [y])) H6 → Pv (i + 1) H6) (Pv (i + 1) H4)) ∧ ∀ H, Pv n H → Q (.ref D) H
def uLc (w : TW) (g : TG) (tt : TT) (te : TE) (vs : List Nat) : TE := fun σ H Q => w σ H (lcGo g tt te vs σ Q)
section
variable {X : Cx} {tg iter elt : Expr} {w : TW} {g : TG} {pos py spos : Pos}
theorem PIU.pi (h : PIU X tg iter w) : PI X tg iter (fun σ H R => ∃ C : WC, w σ H C ∧ ∀ J n G Y H1, Walk J n G Y → C n G Y H1 → R J H1) :=
  ⟨fun pins s σ H R I ⟨C, q, i⟩ => thn (h.run pins s σ H C I q) fun _ _ z => thn z fun _ _ y => pie_mono y fun J H1 ⟨n, G, Y, a, b⟩ => i J n G Y H1 a b⟩
theorem pg_cl (h : PG X tg g) : PG X tg (fun v σ H Q => ∃ R : L2.St → Hp → Prop, g v σ H R ∧ ∀ σ' H', R σ' H' → Q σ' H') :=
  ⟨fun pins s σ H v u Q I r ⟨R, q, i⟩ => thn (h.run pins s σ H v u R I r q) fun _ _ ⟨σ', H', I', z⟩ => ⟨σ', H', I', i _ _ z⟩⟩
theorem u_for {body : List Stmt} {tb : TS} (hp : PassesOwn (model X.prog X.w) X.A X.env X.xe) (hc : X.calm = true) (hi : PIU X tg iter w) (hg : PG X tg g) (hb : PSs X body tb)
    (hs : ∀ x, foldedSetIterable iter X.env x = pure x := by intro _; rfl) : PS X (.For tg iter body [] pos) (uFor w g tb) := by
  refine ps_wk (ps_for hp hc hi.pi hg hb hs) fun D σ H q => ⟨_, q, fun J n G Y H1 wk ⟨Pv, h0, hG, hstep, hd⟩ => ?_⟩
  exact for_it wk Pv h0 hG hstep hd
variable {ifs : List Expr} {scope : Scope} {own : List (PySem.Str × Nat)} {tt : TT} {te : TE}
theorem lc_cl {wi : TI} {vs : List Nat} {σ : L2.St} {H : Hp} {Q : VK} (h : uLc w g tt te vs σ H Q) :
    tLc (fun σ H R => ∃ C : WC, w σ H C ∧ ∀ J n G Y H1, Walk J n G Y → C n G Y H1 → R J H1) (fun v σ H Q => ∃ R : L2.St → Hp → Prop, g v σ H R ∧ ∀ σ' H', R σ' H' → Q σ' H')
      (fun σ H Q => ∃ R : Bool → Hp → Prop, tt σ H R ∧ ∀ b H', R b H' → Q b H') (clE te) vs σ H Q := by
  refine ⟨_, h, fun J n G Y H1 wk q D hD => ?_⟩
  obtain ⟨Pv, h0, hG, hstep, hd⟩ := q D _ ⟨hD, rfl⟩
  refine lc_it (g := fun v σ H Q => ∃ R : L2.St → Hp → Prop, g v σ H R ∧ ∀ σ' H', R σ' H' → Q σ' H') (tt := fun σ H Q => ∃ R : Bool → Hp → Prop, tt σ H R ∧ ∀ b H', R b H' → Q b H') (te := clE te) (vs := vs) (σ := σ) wk Pv h0 hG (fun i x H2 H' hi p y => ⟨_, hstep i x H2 H' hi p y, fun σ2 H3 ⟨e1, q1⟩ => ⟨e1, _, q1, fun c H4 q2 => bite_if ?_⟩⟩) hd
  cases c with
  | false => exact q2
  | true => exact ⟨_, q2, fun v H5 ⟨acc, a1, a2, a3⟩ => ⟨acc, a1, a2, a3 _ ⟨rfl⟩⟩⟩
theorem pts_cl {X : Cx} {ifs : List Expr} {tt : TT} (h : PTs X ifs tt) : PTs X ifs (fun σ H Q => ∃ R : Bool → Hp → Prop, tt σ H R ∧ ∀ b H', R b H' → Q b H') :=
  ⟨fun pins s σ H Q I ⟨R, q, i⟩ => thn (h.run pins s σ H R I q) fun _ _ ⟨H1, I1, q1⟩ => ⟨H1, I1, i _ _ q1⟩⟩
theorem u_lc (hc : X.calm = true) (hN : X.N.Nodup) (hi : PIU X tg iter w) (ok : BlkOk X.N X.env.scope scope own)
    (hg : ∀ (s : Shared) (H : Hp) (C : Addr) (cl : List (PySem.Str × Addr)) (fp : List Addr), PG (X.blk s H scope (compEnvC scope cl C X.env) fp) tg g) (ht : ∀ (s : Shared) (H : Hp) (C : Addr) (cl : List (PySem.Str × Addr)) (fp : List Addr), PTs (X.blk s H scope (compEnvC scope cl C X.env) fp) ifs tt)
    (he : ∀ (s : Shared) (H : Hp) (C : Addr) (cl : List (PySem.Str × Addr)) (fp : List Addr), PE (X.blk s H scope (compEnvC scope cl C X.env) fp) elt te) (hs : ∀ x, foldedSetIterable iter X.env x = pure x := by intro _; rfl) :
    PE X (.ListComp elt [⟨tg, iter, ifs, 0⟩] scope pos) (uLc w g tt te (own.map (·.2))) :=
  pe_wk (pe_lc hc hN hi.pi ok (fun s H C cl fp => pg_cl (hg s H C cl fp)) (fun s H C cl fp => pts_cl (ht s H C cl fp)) (fun s H C cl fp => pe_cl (he s H C cl fp)) hs) fun σ H Q q => lc_cl (wi := fun _ _ _ => True) q
theorem u_setLc {i : Nat} {y : PySem.Str} (hc : X.calm = true) (hN : X.N.Nodup) (hy : X.N[i]? = some y) (hyl : X.env.scope.names.lookup y = some .local)
    (hsw : swapsWith (.ListComp elt [⟨tg, iter, ifs, 0⟩] scope pos) (some (.Name y py)) spos.line X.env = pure true) (hi : PIU X tg iter w) (ok : BlkOk X.N X.env.scope scope own)
    (hg : ∀ (s : Shared) (H : Hp) (C : Addr) (cl : List (PySem.Str × Addr)) (fp : List Addr), PG (X.blk s H scope (compEnvC scope cl C X.env) fp) tg g) (ht : ∀ (s : Shared) (H : Hp) (C : Addr) (cl : List (PySem.Str × Addr)) (fp : List Addr), PTs (X.blk s H scope (compEnvC scope cl C X.env) fp) ifs tt)
    (he : ∀ (s : Shared) (H : Hp) (C : Addr) (cl : List (PySem.Str × Addr)) (fp : List Addr), PE (X.blk s H scope (compEnvC scope cl C X.env) fp) elt te) (hs : ∀ x, foldedSetIterable iter X.env x = pure x := by intro _; rfl) :
    PS X (.Assign [.Name y py] (.ListComp elt [⟨tg, iter, ifs, 0⟩] scope pos) spos) (tAsg (uLc w g tt te (own.map (·.2))) (gName i)) :=
  ps_wk (ps_setLc hc hN hy hyl hsw hi.pi ok (fun s H C cl fp => pg_cl (hg s H C cl fp)) (fun s H C cl fp => pts_cl (ht s H C cl fp)) (fun s H C cl fp => pe_cl (he s H C cl fp)) hs) fun D σ H q => lc_cl (wi := fun _ _ _ => True) q
end
end Ech

namespace Ech
open PySem PySem.Spec PyProof.Rows L2
open He (ga ma)
open He5 (wf wrapB)

/-! ### the written part's defs by their addresses -/
def fdA (K : PySem.W.Frag) (f : Addr) : FuncData := match K.lookup f with
  | some ⟨_, _, .func fd, _⟩ => fd
  | _ => PySem.W.fnOf "" "" ⟨[], [], none, [], [], none, []⟩ [] ⟨.function, [], false, false, []⟩ .none .none .none .none none .none .none
theorem fdA_eq {K : PySem.W.Frag} {x qual : PySem.Str} {params : Arguments} {body : List Stmt} {scope : Scope} {dvs : List V} {kws : List (PySem.Str × V)} {f : Addr} {fd : FuncData} (F : FunD K x qual params body scope dvs kws f fd) : FunD K x qual params body scope dvs kws f (fdA K f) := by
  obtain ⟨oc, od, dV, kV, doc, pm, an, cdv, ct, osl, e1, lk, _⟩ := F.ex
  have e : fdA K f = fd := by unfold fdA; rw [lk]
  rw [e]
  exact F
structure EnvOf (fa : List Ft) (fn : List He5.DefA) (K : PySem.W.Frag) (mg : PySem.Str → Option Value) : Prop where
  says : SaysB fa fn K
  ns : ∃ h, K.In h ∧ h.Ns mainGlobals mg
section
variable {fa : List Ft} {fn : List He5.DefA} {K : PySem.W.Frag} {mg : PySem.Str → Option Value}
theorem EnvOf.glo (e : EnvOf fa fn K mg) (i : Nat) {x : PySem.Str} (h : fa[i]? = some (fun K => (He.Fa.glo x).ok K) := by rfl) : mg x = some (.ref (ga K x)) := e.ns.elim fun _ q => He.glo_ok q.1 q.2 (e.says.fact i h)
theorem EnvOf.free (e : EnvOf fa fn K mg) (i : Nat) {x : PySem.Str} (h : fa[i]? = some (fun K => (He.Fa.free x).ok K) := by rfl) : mg x = none := e.ns.elim fun _ q => He.free_ok q.1 q.2 (e.says.fact i h)
theorem EnvOf.int (e : EnvOf fa fn K mg) (i : Nat) {x : PySem.Str} {n : Int} (h : fa[i]? = some (fun K => (He.Fa.int x n).ok K) := by rfl) : ∃ t, mg x = some (.int n t) := e.ns.elim fun _ q => He.int_ok q.1 q.2 (e.says.fact i h)
theorem EnvOf.str (e : EnvOf fa fn K mg) (i : Nat) {x z : PySem.Str} (h : fa[i]? = some (fun K => (He.Fa.str x z).ok K) := by rfl) : ∃ t, mg x = some (.str z t) := e.ns.elim fun _ q => He.str_ok q.1 q.2 (e.says.fact i h)
theorem EnvOf.cls (e : EnvOf fa fn K mg) (i : Nat) {x : PySem.Str} (h : fa[i]? = some (fun K => (He.Fa.cls x).ok K) := by rfl) : Cls K (ga K x) := He.cls_ok (e.says.fact i h)
theorem EnvOf.noat (e : EnvOf fa fn K mg) (i : Nat) {x f : PySem.Str} (h : fa[i]? = some (fun K => (He.Fa.noat x f).ok K) := by rfl) : NoAttr K (ga K x) f := He.noat_ok (e.says.fact i h)
theorem EnvOf.meth (e : EnvOf fa fn K mg) (i : Nat) {x f : PySem.Str} (h : fa[i]? = some (fun K => (He.Fa.meth x f).ok K) := by rfl) : Meth K (ga K x) f (ma K (ga K x) f) := He.meth_ok (e.says.fact i h)
theorem EnvOf.mkr (e : EnvOf fa fn K mg) (i : Nat) {x : PySem.Str} (h : fa[i]? = some (fun K => (He.Fa.mkr x).ok K) := by rfl) : Mk K (ga K x) (ma K (ga K x) "__init__") := He.mkr_ok (e.says.fact i h)
theorem EnvOf.fun_ (e : EnvOf fa fn K mg) (i : Nat) {d : He5.DefA} (h : fn[i]? = some d := by rfl) : FunD K d.name d.qual d.params d.body d.scope (d.dvs K) (d.kws K) (d.at_ K) (fdA K (d.at_ K)) := (e.says.def_ i h).elim fun _ q => fdA_eq q
end
def insB (K : PySem.W.Frag) (C : Addr) : Bool := He.eqO (PySem.W.findIn K (.ref C) "__class__") (some (some (.builtin "object.__class__"))) && (He.eqO (PySem.W.specialIn K (.builtin "object.__class__") "__get__") (some (some (.builtin "getset_descriptor.__get__"))) &&
  (decide (PySem.W.takesIn K (.builtin "object.__class__") = some true) && decide (PySem.W.mroIn K C (.type "object") = some true)))
theorem insB_ok {K : PySem.W.Frag} {C : Addr} (h : insB K C = true) (c : Cls K C) {H : Hp} {a dx : Addr} {fs : List (PySem.Str × V)} (e : H a = some (.ins C dx fs)) : TyX K H (.ref a) (.ref C) := by
  obtain ⟨h1, h⟩ := He.ba h
  obtain ⟨h2, h⟩ := He.ba h
  obtain ⟨h3, h4⟩ := He.ba h
  exact .base (.ins e c (He.eqO_ok h1) (He.eqO_ok h2) (of_decide_eq_true h3) (of_decide_eq_true h4))
def propB (K : PySem.W.Frag) (C : Addr) (f : PySem.Str) : Bool := He.eqO (PySem.W.findIn K (.ref C) f) (some (some (.ref (ma K C f)))) && (He.eqO (PySem.W.specialIn K (.ref (ma K C f)) "__get__") (some (some (.builtin "property.__get__"))) &&
  (decide (PySem.W.takesIn K (.ref (ma K C f)) = some true) && (match PySem.W.recIn K (ma K C f) "property" with
    | some (.ref _ :: _) => true
    | _ => false)))
theorem propB_ok {K : PySem.W.Frag} {C : Addr} {f : PySem.Str} (h : propB K C f = true) : PropOf K C f (ma K C f) (wf K C "property" f) := by
  obtain ⟨h1, h⟩ := He.ba h
  obtain ⟨h2, h⟩ := He.ba h
  obtain ⟨h3, h4⟩ := He.ba h
  refine ⟨He.eqO_ok h1, He.eqO_ok h2, of_decide_eq_true h3, ?_⟩
  unfold He5.wf
  cases e : PySem.W.recIn K (ma K C f) "property" with
  | none => rw [e] at h4; cases h4
  | some l =>
    rw [e] at h4
    cases l with
    | nil => cases h4
    | cons v r =>
      cases v with
      | ref a => exact ⟨r, rfl⟩
      | _ => cases h4

section
variable {X : Cx}
/-! ### names of the module -/
theorem u_gint {x : PySem.Str} {n : Int} {pos : Pos} (hg : Gl X x) (hm : ∃ t, X.mg x = some (.int n t)) (hd : (x == ("__debug__" : PySem.Str)) = false := by decide) : PE X (.Name x pos) (tC (.int n)) := hm.elim fun t e => pe_glob hg e ⟨t, rfl⟩ hd
theorem u_ty {x : PySem.Str} {n : String} {pos : Pos} (hg : Gl X x) (hm : X.mg x = none) (hv : bootBuiltins x = some (.type n)) (hn : x ≠ "__name__" := by decide) (hd : (x == ("__debug__" : PySem.Str)) = false := by decide) : PE X (.Name x pos) (tC (.ty n)) := pe_bltn hg hm hv rfl hn hd
/-! ### calls of defs, the defaults known to be somewhere -/
def Bnd (K : PySem.W.Frag) (f : Addr) (ps : List PySem.Str) (dvs : List V) : Prop := ∃ ds, Vals dvs ds ∧ Binds K (fdA K f) ps ds
variable {CX : CXT} {k : Nat} {f : Addr} {ps : List PySem.Str} {sp : Sp} {dvs : List V} {E : XK} {x : PySem.Str} {p pos : Pos} {e : Expr} {es : List Expr} {t : TA}
theorem u_call (F : FnOk X.prog X.w X.K X.mg X.base CX k f (fdA X.K f) ps sp) (hr : Room k X.A) (hg : Gl X x) (hm : X.mg x = some (.ref f)) (hk : PySem.W.keepIn X.K (.ref f) = true) (hb : Bnd X.K f ps dvs) (hx : Passes CX X E)
    (ha : PA X (e :: es) t) (hdb : (x == ("__debug__" : PySem.Str)) = false := by decide) (he : starEach (e :: es) X.env = (false, eval e X.env) :: starEach es X.env := by rfl) (hpl : (backTo pos (starEach es X.env)).any (·.1) = false := by rfl) :
    PE X (.Call (.Name x p) (e :: es) [] pos) (tCall sp dvs E t) := hb.elim fun ds q => pe_call F hr hg hm hk q.2 q.1 hx ha hdb he hpl
theorem u_callQ (F : FnG X.prog X.w X.K X.mg X.base CX k f (fdA X.K f) ps sp) (hr : Room k X.A) (quiet : X.A.guards = some []) (hg : Gl X x) (hm : X.mg x = some (.ref f)) (hk : PySem.W.keepIn X.K (.ref f) = true) (hb : Bnd X.K f ps dvs) (hx : Passes CX X E)
    (ha : PA X (e :: es) t) (hdb : (x == ("__debug__" : PySem.Str)) = false := by decide) (he : starEach (e :: es) X.env = (false, eval e X.env) :: starEach es X.env := by rfl) (hpl : (backTo pos (starEach es X.env)).any (·.1) = false := by rfl) :
    PE X (.Call (.Name x p) (e :: es) [] pos) (tCall sp dvs E t) := hb.elim fun ds q => u_callG F hr quiet hg hm hk q.2 q.1 hx ha hdb he hpl
/-! ### targets that are tuples -/
def seqG : List TG → List V → L2.St → Hp → (L2.St → Hp → Prop) → Prop
  | [], [], σ, H, Q => Q σ H
  | g :: gs, x :: xs, σ, H, Q => g x σ H fun σ' H' => seqG gs xs σ' H' Q
  | _, _, _, _, _ => False
inductive PGL (X : Cx) : List Expr → List TG → Prop
  | nil : PGL X [] []
  | cons {e : Expr} {es : List Expr} {g : TG} {gs : List TG} : PG X e g → PGL X es gs → ((assignEach (e :: es) X.env).map (·.2) = assign e X.env :: (assignEach es X.env).map (·.2)) → PGL X (e :: es) (g :: gs)
theorem PGL.pgs {es : List Expr} {gs : List TG} (h : PGL X es gs) : PGs X es (fun vs σ H Q => vs.length = gs.length ∧ ∃ R : L2.St → Hp → Prop, seqG gs vs σ H R ∧ ∀ σ' H', R σ' H' → Q σ' H') := by
  induction h with
  | nil =>
    constructor
    rintro pins s σ H vs us Q I r ⟨l, R, q, i⟩
    cases vs with
    | nil => exact pgs_nil.run pins s σ H [] us Q I r ⟨rfl, i _ _ q⟩
    | cons v vs => cases l
  | cons h1 h2 hs ih =>
    constructor
    rintro pins s σ H vs us Q I r ⟨l, R, q, i⟩
    cases vs with
    | nil => cases l
    | cons v vs => exact (pgs_cons (pg_cl h1) ih hs).run pins s σ H (v :: vs) us Q I r ⟨v, vs, rfl, _, q, fun σ' H' q' => ⟨Nat.succ.inj l, R, q', i⟩⟩
def gTupL (K : PySem.W.Frag) (gs : List TG) : TG := fun v σ H Q => match v with
  | .ref a => ∃ xs, SqT K H a xs ∧ xs.length = gs.length ∧ seqG gs xs σ H Q
  | _ => False
theorem u_pgtup {es : List Expr} {kk : Nat} {gs : List TG} {K : PySem.W.Frag} (hK : X.K = K) (hc : X.calm = true) (h : PGL X es gs) (hn : (assignEach es X.env).length = gs.length := by rfl) (hst : (assignEach es X.env).findIdx? (·.1) = none := by rfl) :
    PG X (.Tuple es kk pos) (gTupL K gs) := by
  subst hK
  refine pg_wk (pg_tup (n := gs.length) hc h.pgs hn hst) fun v σ H Q q => ?_
  cases v with
  | ref a =>
    obtain ⟨xs, h1, h2, h3⟩ := q
    exact ⟨a, xs, rfl, h1, h2, h2, _, h3, fun _ _ z => z⟩
  | _ => exact q.elim
/-! ### others -/
def rNegU : V → Hp → VK → Prop := fun x H Q => match x with
  | .int i => Q (.int (-i)) H
  | _ => False
theorem o_neg : UnR X (unaryOp .USub) rNegU := by
  intro pins s σ H x v Q I rx h
  refine un_neg pins s σ H x v Q I rx ?_
  cases x with
  | int i => exact ⟨i, rfl, h⟩
  | _ => exact h.elim
def uAug (i : Nat) (te : TE) (ti : TIp) : TS := fun D σ H => match slot σ i with
  | some x => te σ H fun y H1 => ti x y H1 fun z H2 => D.nx (σ.set i (some z)) H2
  | none => False
theorem u_aug {i : Nat} {y : PySem.Str} {te : TE} {op : Operator} {ti : TIp} {pos' : Pos} (hN : X.N.Nodup) (hi : X.N[i]? = some y) (hx : Loc X.env.scope y) (he : PE X e te) (ho : OpR X (inplaceOp op) ti) (hf : X.fn y = true ∨ X.env.scope.names.lookup y = some .local := by first | exact .inl rfl | exact .inr rfl | assumption) :
    PS X (.AugAssign (.Name y pos') op e pos) (uAug i te ti) := by
  refine ps_wk (ps_aug hN hi hx he (fun pins s σ H x y v u Q I a b c => ho pins s σ H x y v u Q I a b c) hf) fun D σ H q => ?_
  unfold uAug at q
  cases h : slot σ i with
  | none => rw [h] at q; exact q.elim
  | some v => rw [h] at q; exact ⟨v, slot_ok h, q⟩
def rIAdd : R2 := fun x y H Q => match x, y with
  | .int i, .int j => Q (.int (i + j)) H
  | .str a, .str b => a.length + b.length ≤ sizeLine ∧ Q (.str (a ++ b)) H
  | _, _ => False
theorem o_iadd : OpR X (inplaceOp .Add) rIAdd := by
  refine op_wk (iop_add.or iop_add_str) fun x y H Q h => ?_
  unfold rIAdd at h
  split at h
  · exact .inl ⟨_, _, rfl, rfl, h⟩
  · exact .inr ⟨_, _, rfl, rfl, h.1, h.2⟩
  · exact h.elim
def uPart (te : TE) : TO := fun σ H Q => te σ H fun x H1 => match x with
  | .int i => Q (some i) H1
  | _ => False
theorem u_part {te : TE} (h : PE X e te) : PO X (some e) (uPart te) := by
  constructor
  intro pins s σ H Q I hw
  refine (po_some (pe_cl h)).run pins s σ H Q I ⟨_, hw, fun v H1 q => ?_⟩
  cases v with
  | int i => exact ⟨i, rfl, q⟩
  | _ => exact q.elim
def uPar (i j : Nat) (ta : TA) : TS := fun D σ H => ta σ H fun vs H1 => match vs with
  | [v, w] => D.nx ((σ.set i (some v)).set j (some w)) H1
  | _ => False
theorem u_par {i j : Nat} {x y : PySem.Str} {a b : Expr} {ta : TA} {px py pt : Pos} {kt k2 pt2} (hc : X.calm = true) (hN : X.N.Nodup) (hi : X.N[i]? = some x) (hj : X.N[j]? = some y) (hij : i ≠ j)
    (hx : X.env.scope.names.lookup x = some .local) (hy : X.env.scope.names.lookup y = some .local) (ha : PA X [a, b] ta)
    (hw : swappedStores [.Tuple [.Name x px, .Name y py] kt pt] (.Tuple [a, b] k2 pt2) X.env = pure (some [x, y]))
    (hs : swapsWithSole [.Tuple [.Name x px, .Name y py] kt pt] (.Tuple [a, b] k2 pt2) pos.line X.env = pure false := by rfl) :
    PS X (.Assign [.Tuple [.Name x px, .Name y py] kt pt] (.Tuple [a, b] k2 pt2) pos) (uPar i j ta) := by
  refine ps_wk (ps_par hc hN hi hj hij hx hy (pa_cl ha) hw hs) fun D σ H q => ⟨_, q, fun vs H1 q1 => ?_⟩
  split at q1
  · exact ⟨_, _, rfl, q1⟩
  · exact q1.elim
/-! ### the same with the written part by a name of its own -/
section
variable {K : PySem.W.Frag} (hK : X.K = K) {a b o e e2 : Expr} {es : List Expr} {ta tb te to tl : TE} {t : TA} {pos p tpos apos cpos p2 pos2 : Pos} {tg : Expr}
include hK
theorem ix_k : IxR X (rIxU K) := by subst hK; exact ix_u
theorem sl_k : SlR X (rSlU K) := by subst hK; exact sl_u
theorem k_len : CallR X (.builtin "len") (rLenU K) := by subst hK; exact c_len
theorem k_tuple : CallR X (.type "tuple") (rTupleU K) := by subst hK; exact c_tuple
theorem k_list : CallR X (.type "list") (rListU K) := by subst hK; exact c_list
theorem k_all (hc : X.calm = true) : CallR X (.builtin "all") (rAllU K) := by subst hK; exact c_all hc
theorem k_sum (hc : X.calm = true) : CallR X (.builtin "sum") (rSumU K) := by subst hK; exact c_sum hc
theorem k_isi : CallR X (.builtin "isinstance") (rIsiU K) := by subst hK; exact c_isi
theorem k_add : OpR X (binaryOp .Add) (rAddU K) := by subst hK; exact o_add
theorem k_eq (hu : X.A.units + 64 < cLine) : OpR X (compareOp .Eq) (rEqU K false) := by subst hK; exact o_eq hu
theorem k_ne (hu : X.A.units + 64 < cLine) : OpR X (compareOp .NotEq) (rEqU K true) := by subst hK; exact o_ne hu
theorem k_tru (h : PE X e ta) (he : ∀ whole, isTrue e X.env whole = (do let v ← whole; standAt e.pos; holding [v] (truthy v)) := by intro _; rfl) : PT X e (uTru K ta) := by subst hK; exact u_tru h he
theorem k_seq (hl : PE X e tl) : PIU X tg e (wSeq K tl) := by subst hK; exact piu_seq hl
theorem k_append (ho : PE X o to) (ha : PA X (e :: es) t) (hb : attributeBase o "append" X.env (eval o X.env) = eval o X.env := by rfl)
    (hfew : methodCallForm (e :: es).length (backTo cpos (starEach (e :: es) X.env)) (backToKw cpos (keywordEach [] X.env)) = true := by rfl) (hl : (apos.endLine == cpos.line) = true := by rfl)
    (hs : starEach (e :: es) X.env = (false, eval e X.env) :: starEach es X.env := by rfl) (hpl : (backTo cpos (starEach es X.env)).any (·.1) = false := by rfl) :
    PE X (.Call (.Attribute o "append" apos) (e :: es) [] cpos) (uMut K to t mApp) := by subst hK; exact u_append ho ha hb hfew hl hs hpl
theorem k_extend (ho : PE X o to) (ha : PA X (e :: es) t) (hb : attributeBase o "extend" X.env (eval o X.env) = eval o X.env := by rfl)
    (hfew : methodCallForm (e :: es).length (backTo cpos (starEach (e :: es) X.env)) (backToKw cpos (keywordEach [] X.env)) = true := by rfl) (hl : (apos.endLine == cpos.line) = true := by rfl)
    (hs : starEach (e :: es) X.env = (false, eval e X.env) :: starEach es X.env := by rfl) (hpl : (backTo cpos (starEach es X.env)).any (·.1) = false := by rfl) :
    PE X (.Call (.Attribute o "extend" apos) (e :: es) [] cpos) (uMut K to t mExt) := by subst hK; exact u_extend ho ha hb hfew hl hs hpl
end
end
end Ech

namespace Ech
open PySem PySem.Spec PyProof.Rows L2
open He (ga ma)
/-! ### tests over the written part that the head makes -/
def conB (K : PySem.W.Frag) (C : Addr) (f : PySem.Str) (n : Int) : Bool := match PySem.W.findIn K (.ref C) f with
  | some (some (.int i t)) => decide (i = n) && (He.eqO (PySem.W.specialIn K (.int i t) "__get__") (some none) && !PySem.W.copiedNames.contains f)
  | _ => false
def ConI (K : PySem.W.Frag) (C : Addr) (f : PySem.Str) (n : Int) : Prop := ∃ u, Con K C f (.int n) u
theorem conB_ok {K : PySem.W.Frag} {C : Addr} {f : PySem.Str} {n : Int} (h : conB K C f n = true) : ConI K C f n := by
  unfold conB at h
  split at h
  · rename_i i t e
    obtain ⟨h1, h⟩ := He.ba h
    obtain ⟨h2, h3⟩ := He.ba h
    have hi := of_decide_eq_true h1
    subst hi
    exact ⟨_, e, ⟨t, rfl⟩, He.eqO_ok h2, by simpa using h3⟩
  · cases h
def crdB (K : PySem.W.Frag) (C : Addr) : Bool := PySem.W.readsIn K C (.type "type") && He.eqO (PySem.W.specialIn K (.ref C) "__getattribute__") (some (some (.builtin "type.__getattribute__")))
/-! ### the facts over a written list of places -/
open PySem.W He5 in
def obsCG (as : List Addr) (fa : List Ft) (fn : List He5.DefA) (g : Addr → Option Obj) : He.AlD := obsB fa fn (He.frG g as)
end Ech

set_option maxHeartbeats 4000000
/-! what the head tests: small, so that its own run can stand far ahead -/
namespace Ech
open PySem PySem.Spec PyProof.Rows L2
open He (ga ma)
open PySem.W (ksFn ksEnv)
/-! ### what the head tells of such a method -/
def exoB (K : PySem.W.Frag) (C : Addr) : Bool := match K.lookup C with
  | some ⟨.type "type", _, .cls cd, sl⟩ => (match cd.mro, sl.toList with
    | .ref C' :: bm, [_, _, _, _, some (.builtin n), _] => C' == C && n == "ValueError.__new__" && !cd.hasDel && cd.hasDict && PySem.HandSPX.refsVE bm
    | _, _ => false)
  | _ => false
def oexB (K : PySem.W.Frag) (C : Addr) : Bool := exoB K C && (He.eqO (PySem.W.findIn K (.ref C) "__setattr__") (some (some (.builtin "object.__setattr__"))) && (decide (PySem.W.subIn K (.ref C) (.type "BaseException") = some true) && (decide (PySem.W.typeIn K (.ref C) = some (.type "type")) && PySem.W.keepIn K (.ref C))))
def exfB (K : PySem.W.Frag) (C : Addr) : Bool := He.eqO (PySem.W.findIn K (.ref C) "__getattribute__") (some (some (.builtin "BaseException.__getattribute__"))) && (decide (PySem.W.findIn K (.ref C) "__getattr__" = some none) && (decide (PySem.W.subIn K (.ref C) (.type "BaseException") = some true) && (PySem.W.hasDictIn K C &&
  (He.eqO (PySem.W.findIn K (.ref C) "__class__") (some (some (.builtin "object.__class__"))) && (He.eqO (PySem.W.specialIn K (.builtin "object.__class__") "__get__") (some (some (.builtin "getset_descriptor.__get__"))) && (decide (PySem.W.takesIn K (.builtin "object.__class__") = some true) && decide (PySem.W.mroIn K C (.type "object") = some true)))))))
def initB (K : PySem.W.Frag) : Bool := match PySem.W.findCls K (.type "ValueError") (.type "type") "__init__" with
  | some (.val (.builtin n)) => n == "ValueError.__init__"
  | _ => false
def errB (K : PySem.W.Frag) (C : Addr) (f : PySem.Str) : Bool := oexB K C && (exfB K C && (He.eqO (PySem.W.findIn K (.ref C) "__init__") (some (some (.ref (ma K C "__init__")))) && (decide (PySem.W.typeIn K (.ref (ma K C "__init__")) = some (.type "function")) && (decide (PySem.W.findIn K (.ref C) f = some none) &&
  (decide (PySem.W.exmOne K (.ref C) (.ref C) = some true) && (decide (PySem.W.kitOne K (.ref C) (.type "ValueError") = some true) && initB K))))))
def gxoB (K : PySem.W.Frag) (C : Addr) (N : String) (tl : List Value) : Bool := match K.lookup C with
  | some ⟨.type "type", _, .cls cd, sl⟩ => (match cd.mro, sl.toList with
    | .ref C' :: bm, [_, _, _, _, some (.builtin n), _] => C' == C && n == N && !cd.hasDel && cd.hasDict && bm == tl
    | _, _ => false)
  | _ => false
def gexB (K : PySem.W.Frag) (C : Addr) (N : String) (tl : List Value) : Bool := gxoB K C N tl && (He.eqO (PySem.W.findIn K (.ref C) "__setattr__") (some (some (.builtin "object.__setattr__"))) && (decide (PySem.W.subIn K (.ref C) (.type "BaseException") = some true) && (decide (PySem.W.typeIn K (.ref C) = some (.type "type")) && PySem.W.keepIn K (.ref C))))
def ginitB (K : PySem.W.Frag) (B I : String) : Bool := match PySem.W.findCls K (.type B) (.type "type") "__init__" with
  | some (.val (.builtin n)) => n == I
  | _ => false
def gerrB (K : PySem.W.Frag) (C : Addr) (f : PySem.Str) (B N I : String) (tl : List Value) : Bool := gexB K C N tl && (exfB K C && (He.eqO (PySem.W.findIn K (.ref C) "__init__") (some (some (.ref (ma K C "__init__")))) && (decide (PySem.W.typeIn K (.ref (ma K C "__init__")) = some (.type "function")) && (decide (PySem.W.findIn K (.ref C) f = some none) &&
  (decide (PySem.W.exmOne K (.ref C) (.ref C) = some true) && (decide (PySem.W.kitOne K (.ref C) (.type B) = some true) && ginitB K B I))))))
/-! ### the head's run in parts: each sees a part of the facts -/
end Ech

set_option maxHeartbeats 1000000
namespace Ech
open PySem PySem.Spec PyProof.Rows L2

theorem szr {n : Nat} (h : Nat.ble n sizeLine = true) : n ≤ sizeLine := Nat.le_of_ble_eq_true h

/-! ### heaps that grow: G what never changes, H all -/
structure Gr (G H G' H' : Hp) : Prop where
  hh : Ex H H'
  gg : Ex G G'
  gh : Ex G' H'
  fix : ∀ a, H a ≠ none → G' a = G a
theorem Gr.refl {G H : Hp} (h : Ex G H) : Gr G H G H := ⟨fun _ _ e => e, fun _ _ e => e, h, fun _ _ => rfl⟩
theorem Gr.trans {G H G1 H1 G2 H2 : Hp} (a : Gr G H G1 H1) (b : Gr G1 H1 G2 H2) : Gr G H G2 H2 :=
  ⟨fun x o e => b.hh x o (a.hh x o e), fun x o e => b.gg x o (a.gg x o e), b.gh, fun x hx => (b.fix x (by
    cases e : H x with
    | none => exact absurd e hx
    | some o => rw [a.hh x o e]; intro z; cases z)).trans (a.fix x hx)⟩
theorem New.at {H H1 : Hp} {p : Addr} {o : HO} (n : New H p o H1) : H1 p = some o := by rw [n.eq]; exact upd_same
theorem New.ex {H H1 : Hp} {p : Addr} {o : HO} (n : New H p o H1) : Ex H H1 := fun a u e => by rw [n.eq, upd_ne (ne_of_none e n.fresh)]; exact e
theorem New.gr {G H H1 : Hp} {p : Addr} {o : HO} (n : New H p o H1) (h : Ex G H) : Gr G H (upd G p o) H1 := by
  have np : G p = none := by
    cases e : G p with
    | none => rfl
    | some u => have := h p u e; rw [n.fresh] at this; cases this
  refine ⟨n.ex, fun a u e => by rw [upd_ne (ne_of_none e np)]; exact e, fun a u e => ?_, fun a ha => upd_ne (fun z => ha (z ▸ n.fresh))⟩
  by_cases hp : a = p
  · subst hp; rw [upd_same] at e; rw [n.at]; exact e
  · rw [upd_ne hp] at e; exact n.ex a u (h a u e)
theorem New.gr0 {G H H1 : Hp} {p : Addr} {o : HO} (n : New H p o H1) (h : Ex G H) : Gr G H G H1 := ⟨n.ex, fun _ _ e => e, fun a u e => n.ex a u (h a u e), fun _ _ => rfl⟩
theorem New.gnone {G H H1 : Hp} {p : Addr} {o : HO} (n : New H p o H1) (h : Ex G H) : G p = none := by
  cases e : G p with
  | none => rfl
  | some u => have := h p u e; rw [n.fresh] at this; cases this

/-! ### data in a heap, kept while it grows -/
theorem Sq.up {b : Bool} {K : PySem.W.Frag} {H H' : Hp} {a : Addr} {xs : List V} (h : Ex H H') (q : Sq b K H a xs) : Sq b K H' a xs := by
  cases b with
  | true => exact Evl.ex_l h q
  | false => exact Evl.ex_t h q
mutual
theorem dp_up {K : PySem.W.Frag} {H H' : Hp} (h : Ex H H') : ∀ {v : V} {d : PyData}, Dp K H v d → Dp K H' v d
  | _, _, .non => .non
  | _, _, .bl b => .bl b
  | _, _, .int i => .int i
  | _, _, .str x => .str x
  | _, _, .lst a b => .lst (Evl.ex_l h a) (dpAll_up h b)
  | _, _, .tup a b => .tup (Evl.ex_t h a) (dpAll_up h b)
theorem dpAll_up {K : PySem.W.Frag} {H H' : Hp} (h : Ex H H') : ∀ {vs : List V} {ds : List PyData}, DpAll K H vs ds → DpAll K H' vs ds
  | _, _, .nil => .nil
  | _, _, .cons a b => .cons (dp_up h a) (dpAll_up h b)
end

/-! ### isinstance -/
def IsiOk (K : PySem.W.Frag) (H : Hp) (v : V) (n : String) (b : Bool) : Prop := (∃ t, TyX K H v t ∧ PySem.W.kitOne K t (.type n) = some b) ∨ ∃ a, v = .ref a ∧ DictQ H a ∧ PySem.W.kitOne K (.type "dict") (.type n) = some b
theorem isi_go {K : PySem.W.Frag} {H : Hp} {v : V} {n : String} {b : Bool} {Q : VK} (h : IsiOk K H v n b) (q : Q (.bl b) H) : rIsiU K [v, .ty n] H Q := by
  rcases h with ⟨t, h1, h2⟩ | ⟨a, rfl, h1, h2⟩
  · exact Or.inl ⟨v, .ty n, t, .type n, b, rfl, .ty n, h1, h2, q⟩
  · exact Or.inr (Or.inr (Or.inl ⟨a, .ty n, .type n, b, rfl, .ty n, h1, h2, q⟩))
theorem isi_int_int {K : PySem.W.Frag} {H : Hp} {i : Int} : IsiOk K H (.int i) "int" true := .inl ⟨_, .base (.int i), kit_ty (by decide +kernel)⟩
theorem isi_int_bool {K : PySem.W.Frag} {H : Hp} {i : Int} : IsiOk K H (.int i) "bool" false := .inl ⟨_, .base (.int i), kit_ty (by decide +kernel)⟩
theorem isi_bl_int {K : PySem.W.Frag} {H : Hp} {b : Bool} : IsiOk K H (.bl b) "int" true := .inl ⟨_, .base (.bl b), kit_ty (by decide +kernel)⟩
theorem isi_bl_bool {K : PySem.W.Frag} {H : Hp} {b : Bool} : IsiOk K H (.bl b) "bool" true := .inl ⟨_, .base (.bl b), kit_ty (by decide +kernel)⟩
theorem isi_non_int {K : PySem.W.Frag} {H : Hp} : IsiOk K H .non "int" false := .inl ⟨_, .base .non, kit_ty (by decide +kernel)⟩
theorem isi_non_bool {K : PySem.W.Frag} {H : Hp} : IsiOk K H .non "bool" false := .inl ⟨_, .base .non, kit_ty (by decide +kernel)⟩

theorem isi_tupX {K : PySem.W.Frag} {H : Hp} {a : Addr} {xs : List V} {n : String} {b : Bool} (h : SqT K H a xs) (k : kitB "tuple" n = some b) : ∃ t, TyX K H (.ref a) t ∧ PySem.W.kitOne K t (.type n) = some b := by
  refine ⟨.type "tuple", ?_, kit_ty k⟩
  rcases h with (h | ⟨o, h⟩) | ⟨o, its, m, h, hc, _⟩
  · exact .base (.tup h)
  · exact .fTuple h
  · exact .kTuple h hc
theorem isi_lstX {K : PySem.W.Frag} {H : Hp} {a : Addr} {xs : List V} {n : String} {b : Bool} (h : SqL K H a xs) (k : kitB "list" n = some b) : ∃ t, TyX K H (.ref a) t ∧ PySem.W.kitOne K t (.type n) = some b := by
  refine ⟨.type "list", ?_, kit_ty k⟩
  rcases h with (h | ⟨o, h⟩) | ⟨o, its, m, h, hc, _⟩
  · exact .base (.lst h)
  · exact .base (.frz h)
  · exact .kList h hc
theorem isi_tup {K : PySem.W.Frag} {H : Hp} {a : Addr} {xs : List V} {n : String} {b : Bool} (h : SqT K H a xs) (k : kitB "tuple" n = some b) : IsiOk K H (.ref a) n b := .inl (isi_tupX h k)
theorem isi_lst {K : PySem.W.Frag} {H : Hp} {a : Addr} {xs : List V} {n : String} {b : Bool} (h : SqL K H a xs) (k : kitB "list" n = some b) : IsiOk K H (.ref a) n b := .inl (isi_lstX h k)

/-! ### growth beside one object that changes -/
structure GrM (p : Addr) (G H G' H' : Hp) : Prop where
  hh : ∀ a o, a ≠ p → H a = some o → H' a = some o
  gg : Ex G G'
  gh : Ex G' H'
  fix : ∀ a, H a ≠ none → G' a = G a
  there : H p ≠ none → H' p ≠ none
theorem Gr.m {G H G' H' : Hp} (g : Gr G H G' H') (p : Addr) : GrM p G H G' H' := ⟨fun a o _ e => g.hh a o e, g.gg, g.gh, g.fix, fun h => by
  cases e : H p with
  | none => exact absurd e h
  | some o => rw [g.hh p o e]; intro z; cases z⟩
theorem GrM.trans {p : Addr} {G H G1 H1 G2 H2 : Hp} (a : GrM p G H G1 H1) (b : GrM p G1 H1 G2 H2) : GrM p G H G2 H2 := by
  have keep : ∀ x, H x ≠ none → H1 x ≠ none := fun x hx => by
    by_cases hp : x = p
    · subst hp; exact a.there hx
    · cases e : H x with
      | none => exact absurd e hx
      | some o => rw [a.hh x o hp e]; intro z; cases z
  exact ⟨fun x o hp e => b.hh x o hp (a.hh x o hp e), fun x o e => b.gg x o (a.gg x o e), b.gh, fun x hx => (b.fix x (keep x hx)).trans (a.fix x hx), fun h => b.there (a.there h)⟩
theorem GrM.refl {p : Addr} {G H : Hp} (h : Ex G H) : GrM p G H G H := (Gr.refl h).m p

/-! ### the law's pen -/
structure Pen (K : PySem.W.Frag) (ku kr : PySem.Str) (G H : Hp) (p : Addr) (b : Nat) : Prop where
  ex : ∃ (kvs : List (Key × V)) (c : Addr) (ns : List Int) (u r : Int), H p = some (.dK kvs) ∧ kvs.length ≤ 3 ∧ valV kvs (.inr "cells") = some (.ref c) ∧ SqL K G c (ns.map V.int) ∧ ns.length ≤ 63 ∧
    valV kvs (.inr ku) = some (.int u) ∧ 0 ≤ u ∧ u ≤ b ∧ valV kvs (.inr kr) = some (.int r) ∧ 0 ≤ r
  un : G p = none
theorem Pen.up {K : PySem.W.Frag} {ku kr : PySem.Str} {G H : Hp} {p : Addr} {b b' : Nat} (h : Pen K ku kr G H p b) (le : b ≤ b') : Pen K ku kr G H p b' := by
  obtain ⟨⟨kvs, c, ns, u, r, h1, h2, h3, h4, h5, h6, h7, h8, h9, h10⟩, un⟩ := h
  exact ⟨⟨kvs, c, ns, u, r, h1, h2, h3, h4, h5, h6, h7, by omega, h9, h10⟩, un⟩
theorem Pen.gr {K : PySem.W.Frag} {ku kr : PySem.Str} {G H G' H' : Hp} {p : Addr} {b : Nat} (h : Pen K ku kr G H p b) (g : Gr G H G' H') : Pen K ku kr G' H' p b := by
  obtain ⟨⟨kvs, c, ns, u, r, h1, h2, h3, h4, h5, h6, h7, h8, h9, h10⟩, un⟩ := h
  exact ⟨⟨kvs, c, ns, u, r, g.hh _ _ h1, h2, h3, Evl.ex_l g.gg h4, h5, h6, h7, h8, h9, h10⟩, by rw [g.fix p (by rw [h1]; intro z; cases z)]; exact un⟩
theorem Pen.mut {K : PySem.W.Frag} {ku kr : PySem.Str} {G H H' : Hp} {p l : Addr} {o : HO} {b : Nat} (h : Pen K ku kr G H p b) (g : Chg H l o H') (hl : p ≠ l) : Pen K ku kr G H' p b := by
  obtain ⟨⟨kvs, c, ns, u, r, h1, h⟩, un⟩ := h
  exact ⟨⟨kvs, c, ns, u, r, by rw [g.eq, upd_ne hl]; exact h1, h⟩, un⟩
theorem length_putK_some {kvs : List (Key × V)} {k : Key} {x v : V} (h : valV kvs k = some x) : (putK kvs k v).length = kvs.length := by
  unfold putK
  rw [valV_any, h]
  simp
theorem Chg.at {H H1 : Hp} {p : Addr} {o : HO} (n : Chg H p o H1) : H1 p = some o := by rw [n.eq]; exact upd_same
theorem Chg.off {H H1 : Hp} {p a : Addr} {o : HO} (n : Chg H p o H1) (h : a ≠ p) : H1 a = H a := by rw [n.eq]; exact upd_ne h
theorem Chg.grm {G H H1 : Hp} {p : Addr} {o : HO} (n : Chg H p o H1) (h : Ex G H) (hp : G p = none) : GrM p G H G H1 :=
  ⟨fun a u ha e => by rw [n.off ha]; exact e, fun _ _ e => e, fun a u e => by rw [n.off (fun z => by rw [z, hp] at e; cases e)]; exact h a u e, fun _ _ => rfl, fun _ => by rw [n.at]; intro z; cases z⟩
theorem dget_of {H : Hp} {a : Addr} {kvs : List (Key × V)} {x : PySem.Str} {v : V} (e : H a = some (.dK kvs)) (h : valV kvs (.inr x) = some v) : DGet H a (.str x) (some v) := by
  have q := DGet.k (k := .inr x) e
  rw [h] at q
  exact q
theorem dput_of {H : Hp} {a : Addr} {kvs : List (Key × V)} {x : PySem.Str} {v : V} (e : H a = some (.dK kvs)) (h : kvs.length ≤ 3) : DPut H a (.str x) v (upd H a (.dK (putK kvs (.inr x) v))) := DPut.k (k := .inr x) e (Nat.lt_of_le_of_lt h (by decide))
end Ech

namespace Ech
open PySem PySem.Spec PyProof.Rows L2

theorem Gr.loc {G0 H0 G H : Hp} {l : Addr} {o : HO} (g : Gr G0 H0 G H) (h0 : H0 l = none) (hl : G l = none) : Gr G0 H0 G (upd H l o) :=
  ⟨fun a u e => by rw [upd_ne (fun z => by rw [z, h0] at e; cases e)]; exact g.hh a u e, g.gg, fun a u e => by rw [upd_ne (fun z => by rw [z, hl] at e; cases e)]; exact g.gh a u e, g.fix⟩
theorem Gr.frz {G0 H0 G H : Hp} {l : Addr} {o : HO} (g : Gr G0 H0 G H) (h0 : H0 l = none) (hl : G l = none) (hh : H l = some o) : Gr G0 H0 (upd G l o) H :=
  ⟨g.hh, fun a u e => by rw [upd_ne (fun z => by have := g.gg a u e; rw [z, hl] at this; cases this)]; exact g.gg a u e, fun a u e => by
    by_cases z : a = l
    · subst z; rw [upd_same] at e; rw [hh]; exact e
    · rw [upd_ne z] at e; exact g.gh a u e, fun a ha => by rw [upd_ne (fun z : a = l => ha (by rw [z]; exact h0))]; exact g.fix a ha⟩
theorem GrM.loc {p : Addr} {G0 H0 G H : Hp} {l : Addr} {o : HO} (g : GrM p G0 H0 G H) (h0 : H0 l = none) (hl : G l = none) : GrM p G0 H0 G (upd H l o) :=
  ⟨fun a u ha e => by rw [upd_ne (fun z => by rw [z, h0] at e; cases e)]; exact g.hh a u ha e, g.gg, fun a u e => by rw [upd_ne (fun z => by rw [z, hl] at e; cases e)]; exact g.gh a u e, g.fix, fun h => by
    rw [upd_ne (fun z : p = l => h (by rw [z]; exact h0))]; exact g.there h⟩
theorem GrM.frz {p : Addr} {G0 H0 G H : Hp} {l : Addr} {o : HO} (g : GrM p G0 H0 G H) (h0 : H0 l = none) (hl : G l = none) (hh : H l = some o) : GrM p G0 H0 (upd G l o) H :=
  ⟨g.hh, fun a u e => by rw [upd_ne (fun z => by have := g.gg a u e; rw [z, hl] at this; cases this)]; exact g.gg a u e, fun a u e => by
    by_cases z : a = l
    · subst z; rw [upd_same] at e; rw [hh]; exact e
    · rw [upd_ne z] at e; exact g.gh a u e, fun a ha => by rw [upd_ne (fun z : a = l => ha (by rw [z]; exact h0))]; exact g.fix a ha, g.there⟩
theorem Gr.free {G0 H0 G H : Hp} {l : Addr} (g : Gr G0 H0 G H) (h : H0 l ≠ none) (hl : G0 l = none) : G l = none := (g.fix l h).trans hl
theorem GrM.free {p : Addr} {G0 H0 G H : Hp} {l : Addr} (g : GrM p G0 H0 G H) (h : H0 l ≠ none) (hl : G0 l = none) : G l = none := (g.fix l h).trans hl
theorem some_ne {H : Hp} {l : Addr} {o : HO} (h : H l = some o) : H l ≠ none := by rw [h]; intro z; cases z
theorem Gr.new {G0 H0 G H : Hp} {l : Addr} (g : Gr G0 H0 G H) (h : H l = none) : H0 l = none := by
  cases e : H0 l with
  | none => rfl
  | some o => have := g.hh l o e; rw [h] at this; cases this
theorem GrM.new {p : Addr} {G0 H0 G H : Hp} {l : Addr} (g : GrM p G0 H0 G H) (h : H l = none) : H0 l = none := by
  cases e : H0 l with
  | none => rfl
  | some o =>
    by_cases z : l = p
    · subst z; exact absurd h (g.there (some_ne e))
    · have := g.hh l o z e; rw [h] at this; cases this
theorem ex_none {G H : Hp} {l : Addr} (h : Ex G H) (e : H l = none) : G l = none := by
  cases z : G l with
  | none => rfl
  | some o => have := h l o z; rw [e] at this; cases this
theorem Pen.loc {K : PySem.W.Frag} {ku kr : PySem.Str} {G H : Hp} {p l : Addr} {o : HO} {b : Nat} (h : Pen K ku kr G H p b) (hl : p ≠ l) : Pen K ku kr G (upd H l o) p b := h.mut ⟨rfl⟩ hl
theorem Pen.frz {K : PySem.W.Frag} {ku kr : PySem.Str} {G H : Hp} {p l : Addr} {o : HO} {b : Nat} (h : Pen K ku kr G H p b) (hl : p ≠ l) (hg : G l = none) : Pen K ku kr (upd G l o) H p b := by
  obtain ⟨⟨kvs, c, ns, u, r, h1, h2, h3, h4, h⟩, un⟩ := h
  exact ⟨⟨kvs, c, ns, u, r, h1, h2, h3, Evl.ex_l (Evl.Ex.new hg) h4, h⟩, by rw [upd_ne hl]; exact un⟩
theorem Pen.there {K : PySem.W.Frag} {ku kr : PySem.Str} {G H : Hp} {p : Addr} {b : Nat} (h : Pen K ku kr G H p b) : H p ≠ none := by
  obtain ⟨⟨kvs, c, ns, u, r, h1, _⟩, un⟩ := h
  exact some_ne h1
theorem Pen.off {K : PySem.W.Frag} {ku kr : PySem.Str} {G H : Hp} {p l : Addr} {b : Nat} (h : Pen K ku kr G H p b) (hl : H l = none) : p ≠ l := fun z => h.there (by rw [z]; exact hl)

theorem cutV_from {xs : List V} {d : Nat} (h : d ≤ xs.length) : cutV xs (some (d : Int)) none = xs.drop d := by
  have h1 : HT.sIx xs.length 0 (some (d : Int)) = d := by rw [HT.sIx_nat]; omega
  have h2 : HT.sIx xs.length xs.length none = xs.length := HT.sIx_none _ _
  unfold cutV
  rw [h1, h2, List.take_of_length_le]
  rw [List.length_drop]
  exact Nat.le_refl _
theorem paired_imp2 {α β : Type} {R S : α → β → Prop} : ∀ {as : List α} {bs : List β}, Paired R as bs → (∀ a b, a ∈ as → R a b → S a b) → Paired S as bs
  | _, _, .nil, _ => .nil
  | _, _, .cons h t, i => .cons (i _ _ (List.mem_cons_self ..) h) (paired_imp2 t fun a b m => i a b (List.mem_cons_of_mem _ m))
def frzAll (G H H2 : Hp) : Hp := fun a => match H a with
  | none => H2 a
  | some _ => G a
theorem frz_new {G H H2 : Hp} {a : Addr} (h : H a = none) : frzAll G H H2 a = H2 a := by unfold frzAll; rw [h]
theorem Gr_all {G H H2 : Hp} (hx : Ex G H) (h2 : Ex H H2) : Gr G H (frzAll G H H2) H2 := by
  refine ⟨h2, fun a o e => ?_, fun a o e => ?_, fun a ha => ?_⟩
  · unfold frzAll; rw [hx a o e]; exact e
  · unfold frzAll at e
    cases z : H a with
    | none => rw [z] at e; exact e
    | some u => rw [z] at e; exact h2 a o (hx a o e)
  · unfold frzAll
    cases z : H a with
    | none => exact absurd z ha
    | some u => rfl
/-! ### comprehensions that leave what was -/
section
variable {n : Nat} {GG : Hp → Prop} {Y : Nat → Hp → V → Hp → Prop} {g : TG} {tt : TT} {te : TE} {vs : List Nat} {σ : L2.St} {H1 G0 : Hp} {Q : VK}
theorem lc_pure (hx : Ex G0 H1) (E : Nat → Hp → List V → Prop) (hn : n ≤ sizeLine) (hE0 : E 0 G0 []) (hlen : ∀ i G acc, E i G acc → acc.length ≤ i) (hG : ∀ G H, Gr G0 H1 G H → GG H)
    (step : ∀ i x G H H' acc, i < n → Gr G0 H1 G H → E i G acc → Y i H x H' → ∀ (R : V → Hp → Prop) (R0 : Hp → Prop), (∀ y G5 H5, Gr G H G5 H5 → E (i + 1) G5 (acc ++ [y]) → R y H5) → (∀ G5 H4, Gr G H G5 H4 → E (i + 1) G5 acc → R0 H4) →
      g x (wipe σ vs) H' fun σ2 H3 => wipe σ2 vs = wipe σ vs ∧ tt σ2 H3 fun c H4 => bite c (te σ2 H4 R) (R0 H4))
    (fin : ∀ D G H acc, Gr G0 H1 G H → H1 D = none → G D = none → H D = some (.lst acc) → E n G acc → Q (.ref D) H) :
    lcGo g tt te vs σ Q n GG Y H1 := by
  intro D H2 nw
  refine ⟨fun i H => ∃ G acc, Gr G0 H1 G H ∧ G D = none ∧ H D = some (.lst acc) ∧ E i G acc, ?_, ?_, ?_, ?_⟩
  · exact ⟨G0, [], nw.gr0 hx, nw.gnone hx, nw.at, hE0⟩
  · rintro i H _ ⟨G, acc, h1, _⟩
    exact hG G H h1
  · rintro i x H H' hi ⟨G, acc, h1, h2, h3, h4⟩ y
    refine step i x G H H' acc hi h1 h4 y _ _ (fun v G5 H5 h5 h6 => ⟨acc, h5.hh _ _ h3, Nat.lt_of_le_of_lt (hlen i G acc h4) (Nat.lt_of_lt_of_le hi hn), fun H6 ch => ?_⟩) (fun G5 H4 h5 h6 => ?_)
    · have n5 : G5 D = none := h5.free (some_ne h3) h2
      rw [ch.eq]
      exact ⟨G5, acc ++ [v], (h1.trans h5).loc nw.fresh n5, n5, upd_same, h6⟩
    · exact ⟨G5, acc, h1.trans h5, h5.free (some_ne h3) h2, h5.hh _ _ h3, h6⟩
  · rintro H ⟨G, acc, h1, h2, h3, h4⟩
    exact fin D G H acc h1 nw.fresh h2 h3 h4
theorem lc_pen {K : PySem.W.Frag} {ku kr : PySem.Str} {p : Addr} {b : Nat} (c : Nat) (hp : Pen K ku kr G0 H1 p b) (hx : Ex G0 H1) (E : Nat → Hp → List V → Prop) (hn : n ≤ sizeLine) (hE0 : E 0 G0 []) (hlen : ∀ i G acc, E i G acc → acc.length ≤ i) (hG : ∀ G H, GrM p G0 H1 G H → GG H)
    (step : ∀ i x G H H' acc, i < n → GrM p G0 H1 G H → Pen K ku kr G H p (b + i * c) → E i G acc → Y i H x H' → ∀ (R : V → Hp → Prop) (R0 : Hp → Prop), (∀ y G5 H5, GrM p G H G5 H5 → Pen K ku kr G5 H5 p (b + i * c + c) → E (i + 1) G5 (acc ++ [y]) → R y H5) → (∀ G5 H4, GrM p G H G5 H4 → Pen K ku kr G5 H4 p (b + i * c + c) → E (i + 1) G5 acc → R0 H4) →
      g x (wipe σ vs) H' fun σ2 H3 => wipe σ2 vs = wipe σ vs ∧ tt σ2 H3 fun c H4 => bite c (te σ2 H4 R) (R0 H4))
    (fin : ∀ D G H acc, GrM p G0 H1 G H → Pen K ku kr G H p (b + n * c) → p ≠ D → H1 D = none → G D = none → H D = some (.lst acc) → E n G acc → Q (.ref D) H) :
    lcGo g tt te vs σ Q n GG Y H1 := by
  intro D H2 nw
  have hd : p ≠ D := hp.off nw.fresh
  have ar : ∀ i, b + i * c + c = b + (i + 1) * c := fun i => by rw [Nat.succ_mul, Nat.add_assoc]
  refine ⟨fun i H => ∃ G acc, GrM p G0 H1 G H ∧ Pen K ku kr G H p (b + i * c) ∧ G D = none ∧ H D = some (.lst acc) ∧ E i G acc, ?_, ?_, ?_, ?_⟩
  · exact ⟨G0, [], (nw.gr0 hx).m p, (hp.gr (nw.gr0 hx)).up (Nat.le_add_right _ _), nw.gnone hx, nw.at, hE0⟩
  · rintro i H _ ⟨G, acc, h1, _⟩
    exact hG G H h1
  · rintro i x H H' hi ⟨G, acc, h1, hp', h2, h3, h4⟩ y
    refine step i x G H H' acc hi h1 hp' h4 y _ _ (fun v G5 H5 h5 hp5 h6 => ⟨acc, h5.hh _ _ hd.symm h3, Nat.lt_of_le_of_lt (hlen i G acc h4) (Nat.lt_of_lt_of_le hi hn), fun H6 ch => ?_⟩) (fun G5 H4 h5 hp5 h6 => ?_)
    · have n5 : G5 D = none := h5.free (some_ne h3) h2
      rw [ch.eq]
      exact ⟨G5, acc ++ [v], (h1.trans h5).loc nw.fresh n5, (ar i ▸ hp5).loc hd, n5, upd_same, h6⟩
    · exact ⟨G5, acc, h1.trans h5, ar i ▸ hp5, h5.free (some_ne h3) h2, h5.hh _ _ hd.symm h3, h6⟩
  · rintro H ⟨G, acc, h1, hp', h2, h3, h4⟩
    exact fin D G H acc h1 hp' hd nw.fresh h2 h3 h4
end
end Ech

namespace Ech
open PySem PySem.Spec PyProof.Rows L2
open He (ga ma)

/-! ### tables as data -/
def pV : Option Int → V
  | none => .non
  | some i => .int i
def pD : Option Int → PyData
  | none => .none
  | some i => .int i
def rowD (r : List (Option Int)) : PyData := .tuple (r.map pD)
def tabD (rows : List (List (Option Int))) : PyData := .tuple (rows.map rowD)
def TabAt (K : PySem.W.Frag) (G : Hp) (a : Addr) (rows : List (List (Option Int))) : Prop := ∃ dx ent, G a = some (.ins (ga K "Table") dx [("entries", ent)]) ∧ Dp K G ent (tabD rows)
theorem look_entries (v : V) : ([("entries", v)] : List (PySem.Str × V)).lookup ("entries" : PySem.Str) = some v := by rfl
theorem TabAt.up {K : PySem.W.Frag} {G G' : Hp} {a : Addr} {rows : List (List (Option Int))} (h : TabAt K G a rows) (x : Ex G G') : TabAt K G' a rows :=
  h.elim fun dx h => h.elim fun ent h => ⟨dx, ent, x _ _ h.1, dp_up x h.2⟩
theorem dpAll_len {K : PySem.W.Frag} {H : Hp} : ∀ {vs : List V} {ds : List PyData}, DpAll K H vs ds → vs.length = ds.length
  | _, _, .nil => rfl
  | _, _, .cons _ t => congrArg Nat.succ (dpAll_len t)
theorem dpAll_get {K : PySem.W.Frag} {H : Hp} : ∀ {vs : List V} {ds : List PyData} {i : Nat} {d : PyData}, DpAll K H vs ds → ds[i]? = some d → ∃ v, vs[i]? = some v ∧ Dp K H v d
  | _, _, 0, _, .cons h _, e => ⟨_, rfl, by cases e; exact h⟩
  | _, _, i + 1, _, .cons _ t, e => dpAll_get (i := i) t e
  | _, _, 0, _, .nil, e => by cases e
  | _, _, _ + 1, _, .nil, e => by cases e
theorem dpAll_snoc {K : PySem.W.Frag} {H : Hp} : ∀ {vs : List V} {ds : List PyData} {v : V} {d : PyData}, DpAll K H vs ds → Dp K H v d → DpAll K H (vs ++ [v]) (ds ++ [d])
  | _, _, _, _, .nil, h => .cons h .nil
  | _, _, _, _, .cons a t, h => .cons a (dpAll_snoc t h)
theorem dp_pD {K : PySem.W.Frag} {H : Hp} {v : V} {x : Option Int} (h : Dp K H v (pD x)) : v = pV x := by
  cases x with
  | none => cases h; rfl
  | some i => cases h; rfl
theorem dp_pV {K : PySem.W.Frag} {H : Hp} : ∀ x : Option Int, Dp K H (pV x) (pD x)
  | none => .non
  | some i => .int i
theorem dpAll_pV {K : PySem.W.Frag} {H : Hp} : ∀ r : List (Option Int), DpAll K H (r.map pV) (r.map pD)
  | [] => .nil
  | x :: r => .cons (dp_pV x) (dpAll_pV r)
theorem dpAll_pD {K : PySem.W.Frag} {H : Hp} : ∀ {vs : List V} {r : List (Option Int)}, DpAll K H vs (r.map pD) → vs = r.map pV
  | [], [], _ => rfl
  | v :: vs, x :: r, .cons a t => by rw [dp_pD a, dpAll_pD t]; rfl
theorem dpAll_int {K : PySem.W.Frag} {H : Hp} : ∀ r : List Int, DpAll K H (r.map V.int) (r.map PyData.int)
  | [] => .nil
  | x :: r => .cons (.int x) (dpAll_int r)
theorem atI_pos {α : Type} {xs : List α} {i : Int} {v : α} (h0 : 0 ≤ i) (h : xs[i.toNat]? = some v) : atI xs i = some v := by
  have e : ((i.toNat : Nat) : Int) = i := Int.toNat_of_nonneg h0
  rw [← e]
  exact atI_nat h
theorem tab_ix {K : PySem.W.Frag} {G H : Hp} {v : V} {rows : List (List (Option Int))} {i : Int} {Q : VK} (hg : Ex G H) (h : Dp K G v (tabD rows)) (h0 : 0 ≤ i) (h1 : i < rows.length) (q : ∀ w, Dp K G w (rowD (rows.getD i.toNat [])) → Q w H) : rIxU K v (.int i) H Q := by
  cases h with
  | tup hs hd =>
    have hl : i.toNat < rows.length := by omega
    have e : (rows.map rowD)[i.toNat]? = some (rowD (rows.getD i.toNat [])) := by
      rw [List.getElem?_map, List.getD_eq_getElem?_getD, List.getElem?_eq_getElem hl]
      rfl
    obtain ⟨w, hw, dw⟩ := dpAll_get hd e
    exact ⟨_, w, Or.inr (Evl.ex_t hg hs), atI_pos h0 hw, q w dw⟩
theorem row_ix {K : PySem.W.Frag} {G H : Hp} {v : V} {r : List (Option Int)} {i : Int} {Q : VK} (hg : Ex G H) (h : Dp K G v (rowD r)) (h0 : 0 ≤ i) (h1 : i < r.length) (q : Q (pV (r.getD i.toNat none)) H) : rIxU K v (.int i) H Q := by
  cases h with
  | tup hs hd =>
    have hl : i.toNat < r.length := by omega
    have e : (r.map pD)[i.toNat]? = some (pD (r.getD i.toNat none)) := by
      rw [List.getElem?_map, List.getD_eq_getElem?_getD, List.getElem?_eq_getElem hl]
      rfl
    obtain ⟨w, hw, dw⟩ := dpAll_get hd e
    have dw' := dp_pD dw
    subst dw'
    exact ⟨_, _, Or.inr (Evl.ex_t hg hs), atI_pos h0 hw, q⟩
def SqR (rows : List (List (Option Int))) : Prop := ∀ r ∈ rows, r.length = rows.length
theorem SqR.at {rows : List (List (Option Int))} (h : SqR rows) {i : Nat} (hi : i < rows.length) : (rows.getD i []).length = rows.length := by
  rw [List.getD_eq_getElem?_getD, List.getElem?_eq_getElem hi]
  exact h _ (List.getElem_mem hi)
def entry (rows : List (List (Option Int))) (i j : Int) : Option Int := (rows.getD i.toNat []).getD j.toNat none
theorem ent_ix {K : PySem.W.Frag} {G H : Hp} {v : V} {rows : List (List (Option Int))} {i j : Int} {Q : VK} (hg : Ex G H) (hq : SqR rows) (h : Dp K G v (tabD rows)) (h0 : 0 ≤ i) (h1 : i < rows.length) (h2 : 0 ≤ j) (h3 : j < rows.length)
    (q : Q (pV (entry rows i j)) H) : rIxU K v (.int i) H fun w H1 => rIxU K w (.int j) H1 Q :=
  tab_ix hg h h0 h1 fun w dw => row_ix hg dw h2 (by rw [hq.at (by omega)]; exact h3) q
theorem isNon_pV (x : Option Int) : isNon (pV x) = !x.isSome := by cases x <;> rfl
theorem int_ix {K : PySem.W.Frag} {H : Hp} {a : Addr} {ns : List Int} {i : Int} {Q : VK} (hs : SqL K H a (ns.map V.int) ∨ SqT K H a (ns.map V.int)) (h0 : 0 ≤ i) (h1 : i < ns.length) (q : Q (.int (ns.getD i.toNat 0)) H) : rIxU K (.ref a) (.int i) H Q := by
  refine ⟨_, _, hs, atI_pos h0 ?_, q⟩
  rw [List.getElem?_map, List.getD_eq_getElem?_getD, List.getElem?_eq_getElem (by omega)]
  rfl
theorem int_at {ns : List Int} {i : Int} {k : Nat} (h : i = k) (h1 : k < ns.length) : atI (ns.map V.int) i = some (.int (ns.getD k 0)) := by
  subst h
  refine atI_nat ?_
  rw [List.getElem?_map, List.getD_eq_getElem?_getD, List.getElem?_eq_getElem h1]
  rfl
theorem tab_at {K : PySem.W.Frag} {G : Hp} {v : V} {rows : List (List (Option Int))} (h : Dp K G v (tabD rows)) : ∃ a xs, v = .ref a ∧ SqT K G a xs ∧ ∀ i : Int, 0 ≤ i → i < rows.length → ∃ b, atI xs i = some (.ref b) ∧ SqT K G b ((rows.getD i.toNat []).map pV) := by
  cases h with
  | tup hs hd =>
    refine ⟨_, _, rfl, hs, fun i h0 h1 => ?_⟩
    have hl : i.toNat < rows.length := by omega
    have e : (rows.map rowD)[i.toNat]? = some (rowD (rows.getD i.toNat [])) := by
      rw [List.getElem?_map, List.getD_eq_getElem?_getD, List.getElem?_eq_getElem hl]
      rfl
    obtain ⟨w, hw, dw⟩ := dpAll_get hd e
    cases dw with
    | tup hs2 hd2 => exact ⟨_, atI_pos h0 hw, by rw [← dpAll_pD hd2]; exact hs2⟩
theorem row_at {r : List (Option Int)} {i : Int} (h0 : 0 ≤ i) (h1 : i < r.length) : atI (r.map pV) i = some (pV (r.getD i.toNat none)) := by
  refine atI_pos h0 ?_
  rw [List.getElem?_map, List.getD_eq_getElem?_getD, List.getElem?_eq_getElem (by omega)]
  rfl
theorem getD_mem {ns : List Int} {k : Nat} (h : k < ns.length) : ns.getD k 0 ∈ ns := by
  rw [List.getD_eq_getElem?_getD, List.getElem?_eq_getElem h]
  exact List.getElem_mem h

/-! ### rows in lists or tuples -/
def RowsAt (K : PySem.W.Frag) (G : Hp) (v : V) (rows : List (List (Option Int))) : Prop := ∃ (a : Addr) (f : Bool) (vs : List V), v = .ref a ∧ Sq f K G a vs ∧ Paired (fun w r => ∃ (b : Addr) (g : Bool), w = V.ref b ∧ Sq g K G b (List.map pV r)) vs rows
theorem paired_at {α β : Type} {R : α → β → Prop} : ∀ {as : List α} {bs : List β} {i : Nat} {a : α}, Paired R as bs → as[i]? = some a → ∃ b, bs[i]? = some b ∧ R a b
  | _, _, 0, _, .cons h _, e => ⟨_, rfl, by cases e; exact h⟩
  | _, _, i + 1, _, .cons _ t, e => paired_at (i := i) t e
  | _, _, 0, _, .nil, e => by cases e
  | _, _, _ + 1, _, .nil, e => by cases e
theorem paired_len {α β : Type} {R : α → β → Prop} : ∀ {as : List α} {bs : List β}, Paired R as bs → as.length = bs.length
  | _, _, .nil => rfl
  | _, _, .cons _ t => congrArg Nat.succ (paired_len t)
theorem rows_of {K : PySem.W.Frag} {G : Hp} : ∀ {vs : List V} {rows : List (List (Option Int))}, DpAll K G vs (rows.map rowD) → Paired (fun w r => ∃ (b : Addr) (g : Bool), w = V.ref b ∧ Sq g K G b (List.map pV r)) vs rows
  | [], [], _ => .nil
  | v :: vs, r :: rows, .cons a t => .cons (by
      cases a with
      | tup hs hd => exact ⟨_, false, rfl, by rw [← dpAll_pD hd]; exact hs⟩) (rows_of t)
theorem RowsAt.of {K : PySem.W.Frag} {G : Hp} {v : V} {rows : List (List (Option Int))} (h : Dp K G v (tabD rows)) : RowsAt K G v rows := by
  cases h with
  | tup hs hd => exact ⟨_, false, _, rfl, hs, rows_of hd⟩
theorem Sq.or {b : Bool} {K : PySem.W.Frag} {H : Hp} {a : Addr} {xs : List V} (q : Sq b K H a xs) : SqL K H a xs ∨ SqT K H a xs := by
  cases b with
  | true => exact Or.inl q
  | false => exact Or.inr q
theorem isi_seq {K : PySem.W.Frag} {H : Hp} {a tp : Addr} {b : Bool} {xs : List V} {Q : VK} (h : Sq b K H a xs) (ht : H tp = some (.tup [.ty "list", .ty "tuple"])) (q : Q (.bl true) H) : rIsiU K [.ref a, .ref tp] H Q := by
  cases b with
  | true =>
    obtain ⟨t, h1, h2⟩ := isi_lstX (n := "list") (b := true) h (by decide +kernel)
    exact Or.inr (Or.inl ⟨_, tp, _, t, [.type "list", .type "tuple"], true, rfl, ht, .cons (.ty _) (.cons (.ty _) .nil), h1, kitAny_cons h2 (fun z => by cases z) (fun _ => rfl), q⟩)
  | false =>
    obtain ⟨t, h1, h2⟩ := isi_tupX (n := "tuple") (b := true) h (by decide +kernel)
    have e : t = .type "tuple" ∨ True := Or.inr trivial
    have h3 : ∃ t, TyX K H (.ref a) t ∧ PySem.W.kitAny K t [.type "list", .type "tuple"] = some true := by
      have k1 : PySem.W.kitOne K (.type "tuple") (.type "list") = some false := kit_ty (by decide +kernel)
      have k2 : PySem.W.kitOne K (.type "tuple") (.type "tuple") = some true := kit_ty (by decide +kernel)
      refine ⟨.type "tuple", ?_, kitAny_cons k1 (fun _ => kitAny_cons k2 (fun z => by cases z) (fun _ => rfl)) (fun z => by cases z)⟩
      rcases h with (h | ⟨o, h⟩) | ⟨o, its, m, h, hc, _⟩
      · exact .base (.tup h)
      · exact .fTuple h
      · exact .kTuple h hc
    obtain ⟨t, h1, h2⟩ := h3
    exact Or.inr (Or.inl ⟨_, tp, _, t, [.type "list", .type "tuple"], true, rfl, ht, .cons (.ty _) (.cons (.ty _) .nil), h1, h2, q⟩)
theorem made_gr {G H1 H2 G' H' : Hp} {x dx C : Addr} {o : HO} (m : Made H1 x dx C H2) (hg : Ex G H1) (g : GrM x G H2 G' H') (hx : H' x = some o) : Gr G H1 (upd G' x o) H' := by
  have e2 : ∀ a, a ≠ x → a ≠ dx → H2 a = H1 a := fun a h1 h2 => by rw [m.eq, upd_ne h1, upd_ne h2]
  have hx2 : H2 x ≠ none := by rw [m.eq, upd_same]; intro z; cases z
  have gx : G' x = none := (g.fix x hx2).trans (ex_none hg m.nx)
  have off : ∀ a u, H1 a = some u → H2 a = some u := fun a u e => by
    rw [e2 a (fun z => by rw [z, m.nx] at e; cases e) (fun z => by rw [z, m.ndx] at e; cases e)]
    exact e
  refine ⟨fun a u e => g.hh a u (fun z => by rw [z, m.nx] at e; cases e) (off a u e), fun a u e => ?_, fun a u e => ?_, fun a ha => ?_⟩
  · have := g.gg a u e
    rw [upd_ne (fun z => by rw [z, gx] at this; cases this)]
    exact this
  · by_cases z : a = x
    · subst z; rw [upd_same] at e; rw [hx]; exact e
    · rw [upd_ne z] at e; exact g.gh a u e
  · rw [upd_ne (fun z : a = x => ha (by rw [z]; exact m.nx))]
    refine g.fix a ?_
    cases e : H1 a with
    | none => exact absurd e ha
    | some u => exact some_ne (off a u e)
theorem Made.ex {H1 H2 : Hp} {x dx C : Addr} (m : Made H1 x dx C H2) : Ex H1 H2 := fun a u e => by
  rw [m.eq, upd_ne (fun z => by rw [z, m.nx] at e; cases e), upd_ne (fun z => by rw [z, m.ndx] at e; cases e)]
  exact e
theorem Made.at {H1 H2 : Hp} {x dx C : Addr} (m : Made H1 x dx C H2) : H2 x = some (.ins C dx []) := by rw [m.eq, upd_same]

/-! ### delays -/
end Ech

namespace Ech
open PySem PySem.Spec PyProof.Rows L2

/-! ### the pen's cells -/
def PenX (K : PySem.W.Frag) (ku kr : PySem.Str) (G H : Hp) (p : Addr) (b : Nat) (kvs : List (Key × V)) (c : Addr) (ns : List Int) (u r : Int) : Prop := H p = some (.dK kvs) ∧ kvs.length ≤ 3 ∧ valV kvs (.inr "cells") = some (.ref c) ∧ SqL K G c (ns.map V.int) ∧ ns.length ≤ 63 ∧
    valV kvs (.inr ku) = some (.int u) ∧ 0 ≤ u ∧ u ≤ b ∧ valV kvs (.inr kr) = some (.int r) ∧ 0 ≤ r
structure KeysOk (ku kr : PySem.Str) : Prop where
  cu : ¬ ((Sum.inr ("cells" : PySem.Str) : Key) = Sum.inr ku)
  cr : ¬ ((Sum.inr ("cells" : PySem.Str) : Key) = Sum.inr kr)
  ur : ¬ ((Sum.inr ku : Key) = Sum.inr kr)
section
variable {K : PySem.W.Frag} {ku kr : PySem.Str} {G H : Hp} {p c : Addr} {b : Nat} {kvs : List (Key × V)} {ns : List Int} {u r : Int}
theorem PenX.putR (ko : KeysOk ku kr) (h : PenX K ku kr G H p b kvs c ns u r) {r' : Int} (hr : 0 ≤ r') : PenX K ku kr G (upd H p (.dK (putK kvs (.inr kr) (.int r')))) p b (putK kvs (.inr kr) (.int r')) c ns u r' := by
  obtain ⟨h1, h2, h3, h4, h5, h6, h7, h8, h9, h10⟩ := h
  refine ⟨upd_same, by rw [length_putK_some h9]; exact h2, ?_, h4, h5, ?_, h7, h8, ?_, hr⟩
  · rw [valV_put, if_neg ko.cr]; exact h3
  · rw [valV_put, if_neg ko.ur]; exact h6
  · rw [valV_put, if_pos rfl]
theorem PenX.putU (ko : KeysOk ku kr) (h : PenX K ku kr G H p b kvs c ns u r) {u' : Int} {b' : Nat} (h0 : 0 ≤ u') (hb : u' ≤ b') : PenX K ku kr G (upd H p (.dK (putK kvs (.inr ku) (.int u')))) p b' (putK kvs (.inr ku) (.int u')) c ns u' r := by
  obtain ⟨h1, h2, h3, h4, h5, h6, h7, h8, h9, h10⟩ := h
  refine ⟨upd_same, by rw [length_putK_some h6]; exact h2, ?_, h4, h5, ?_, h0, hb, ?_, h10⟩
  · rw [valV_put, if_neg ko.cu]; exact h3
  · rw [valV_put, if_pos rfl]
  · rw [valV_put, if_neg (fun z => ko.ur z.symm)]; exact h9
theorem PenX.pen (h : PenX K ku kr G H p b kvs c ns u r) (un : G p = none) : Pen K ku kr G H p b := ⟨⟨kvs, c, ns, u, r, h⟩, un⟩
theorem PenX.gr {G' H' : Hp} (h : PenX K ku kr G H p b kvs c ns u r) (g : Gr G H G' H') : PenX K ku kr G' H' p b kvs c ns u r := by
  obtain ⟨h1, h2, h3, h4, h5, h6⟩ := h
  exact ⟨g.hh _ _ h1, h2, h3, Evl.ex_l g.gg h4, h5, h6⟩
theorem PenX.rest (h : PenX K ku kr G H p b kvs c ns u r) : DGet H p (.str kr) (some (.int r)) := dget_of h.1 h.2.2.2.2.2.2.2.2.1
theorem PenX.used (h : PenX K ku kr G H p b kvs c ns u r) : DGet H p (.str ku) (some (.int u)) := dget_of h.1 h.2.2.2.2.2.1
theorem PenX.cells (h : PenX K ku kr G H p b kvs c ns u r) : DGet H p (.str "cells") (some (.ref c)) := dget_of h.1 h.2.2.1
theorem PenX.dput (h : PenX K ku kr G H p b kvs c ns u r) (k : PySem.Str) (v : V) : DPut H p (.str k) v (upd H p (.dK (putK kvs (.inr k) v))) := dput_of h.1 h.2.1
theorem upd_grm {o : HO} (h : Ex G H) (hp : G p = none) : GrM p G H G (upd H p o) := Chg.grm ⟨rfl⟩ h hp
end

/-! ### data of ints -/
theorem ints_lay : ∀ ns : List Int, PyData.canLayAll0 (ns.map PyData.int) = true
  | [] => by simp [PyData.canLayAll0]
  | z :: zs => by simp [PyData.canLayAll0, PyData.canLay0, ints_lay zs]
theorem ints_depth : ∀ ns : List Int, PyData.depthAll (ns.map PyData.int) ≤ 2
  | [] => by simp [PyData.depthAll]
  | z :: zs => by
    have h1 := ints_depth zs
    simp only [List.map_cons, PyData.depthAll, PyData.depth]
    omega
theorem ints_shaped (ns : List Int) : SeqAt.shaped (.list (ns.map PyData.int)) = true := by
  have h1 := ints_depth ns
  have h2 : PyData.depth (.list (ns.map PyData.int)) ≤ 64 := by
    simp only [PyData.depth]
    omega
  show (PyData.canLay0 (.list (ns.map PyData.int)) && decide (PyData.depth (.list (ns.map PyData.int)) ≤ 64)) = true
  rw [Bool.and_eq_true]
  exact ⟨by simp only [PyData.canLay0]; exact ints_lay ns, decide_eq_true h2⟩
theorem ints_eqv : ∀ ns ms : List Int, PyData.eqvAll (ns.map PyData.int) (ms.map PyData.int) = decide (ns = ms)
  | [], [] => rfl
  | [], _ :: _ => rfl
  | _ :: _, [] => rfl
  | n :: ns, m :: ms => by
    show (PyData.eqv (.int n) (.int m) && PyData.eqvAll (ns.map PyData.int) (ms.map PyData.int)) = _
    rw [ints_eqv ns ms]
    show ((n == m) && _) = _
    by_cases h : n = m
    · subst h; simp
    · simp [h]
theorem ints_cmp {K : PySem.W.Frag} {H : Hp} {a c : Addr} {ns ms : List Int} {Q : VK} {neg : Bool} (h1 : SqL K H a (ns.map V.int)) (h2 : SqL K H c (ms.map V.int)) (q : Q (.bl (if neg then !decide (ns = ms) else decide (ns = ms))) H) : rEqU K neg (.ref a) (.ref c) H Q := by
  refine Or.inr ⟨.list (ns.map PyData.int), .list (ms.map PyData.int), .lst h1 (dpAll_int ns), .lst h2 (dpAll_int ms), ints_shaped ns, ints_shaped ms, ?_⟩
  rw [show PyData.eqv (.list (ns.map PyData.int)) (.list (ms.map PyData.int)) = PyData.eqvAll (ns.map PyData.int) (ms.map PyData.int) by simp only [PyData.eqv], ints_eqv]
  exact q
theorem eq_nil {K : PySem.W.Frag} {H : Hp} {a b : Addr} {xs : List V} {Q : VK} {neg : Bool} (h1 : SqL K H a xs) (h2 : SqL K H b []) (q : Q (.bl (if neg then !xs.isEmpty else xs.isEmpty)) H) : rEqU K neg (.ref a) (.ref b) H Q := by
  cases xs with
  | nil => exact Or.inr ⟨.list [], .list [], .lst h1 .nil, .lst h2 .nil, by decide +kernel, by decide +kernel, q⟩
  | cons x r => exact Or.inl (Or.inr ⟨a, b, x :: r, [], rfl, rfl, h1, h2, by simp, by cases neg <;> exact q⟩)
def rModZ : R2 := fun x y H Q => match x, y with
  | .int i, .int j => 0 < j ∧ ∀ z, 0 ≤ z → z < j → z = i % j → Q (.int z) H
  | _, _ => False
theorem o_modz {X : Cx} : OpR X (binaryOp .Mod) rModZ := by
  refine op_wk o_mod fun x y H Q h => ?_
  unfold rModZ at h
  split at h
  · exact ⟨h.1, h.2 _ (Int.emod_nonneg _ (Int.ne_of_gt h.1)) (Int.emod_lt_of_pos _ h.1) rfl⟩
  · exact h.elim
def rDivZ : R2 := fun x y H Q => match x, y with
  | .int i, .int j => (0 < j ∧ j < 2 ^ 1000) ∧ ∀ z, z = i / j → Q (.int z) H
  | _, _ => False
theorem o_divz {X : Cx} : OpR X (binaryOp .FloorDiv) rDivZ := by
  refine op_wk o_div fun x y H Q h => ?_
  unfold rDivZ at h
  split at h
  · exact ⟨h.1, h.2 _ rfl⟩
  · exact h.elim
theorem mulOk {i j : Int} (h : -(2 ^ 64) < i ∧ i < 2 ^ 64) : CMulU i j := Or.inl (Or.inl h)
theorem mulOkR {i j : Int} (h : -(2 ^ 64) < j ∧ j < 2 ^ 64) : CMulU i j := Or.inl (Or.inr h)

/-! ### repr of ints in a list -/
structure Shows (d : PyData) : Prop where
  a : d.showable = true
  b : d.hasDict = false
  c : d.depth ≤ 60
  d : d.shown.length ≤ sizeLine
end Ech

namespace Ech
open PySem PySem.Spec PyProof.Rows L2

/-! ### enumerate(tuple) -/
theorem enumNewT (t : Addr) (items : Array Value) (n : Nat) (dct : Option Addr) (sl : Array (Option Value)) :
    Meets (Builtin.«enumerate.__new__» ⟨[.type "enumerate", .ref t], []⟩) (fun _ R s => s.heap.get? t = some { cls := .type "tuple", dict := dct, data := .seq items n, slots := sl } ∧
      R (.ok (.ret (.ref (s.heap.push { cls := .type "tuple_iterator", data := .fields #[.ref t, .int 0 0] }).objs.size)))
        { s with heap := (s.heap.push { cls := .type "tuple_iterator", data := .fields #[.ref t, .int 0 0] }).push { cls := .type "enumerate", data := .fields #[.none, .bool false, .ref s.heap.objs.size, rawInt 0, .none, .none] } }) :=
  .of_wp fun prog w A R s h => by
    obtain ⟨hp, g, d, tk, os⟩ := s; obtain ⟨ht, h⟩ := h
    have sb := sub_enumerate
    have hT : Heap.IsTuple (Shared.heap ⟨hp, g, d, tk, os⟩) t items := ⟨_, ht, rfl, n, rfl⟩
    wp_walk using AutoSeq1.wpAny_loadPart' ht
    refine wpAny_stack_any fun st => wpAny_pure ?_
    split
    · rename_i c _ _ _ _ _
      cases (c == Value.type "enumerate")
      · wp_walk using AutoSeq1.wpAny_loadPart' ht, wpAny_pyIter_tuple hT
        exact ⟨_, rfl, h⟩
      · wp_walk using AutoSeq1.wpAny_loadPart' ht, wpAny_pyIter_tuple hT
        exact ⟨_, rfl, h⟩
    · wp_walk using AutoSeq1.wpAny_loadPart' ht, wpAny_pyIter_tuple hT
      exact ⟨_, rfl, h⟩
section
variable {prog : Program} {w : World} {A : Around} {E : Value → Shared → Prop} {s : Shared}
theorem callEnumT {t : Addr} {items : Array Value} {Q : Value → Shared → Prop} (hT : s.heap.IsTuple t items)
    (h : ∀ h', IsEnum h' (s.heap.objs.size + 1) s.heap.objs.size 0 .none → h'.IsTupleIter s.heap.objs.size t 0 → h'.objs.size = s.heap.objs.size + 2 →
      (∀ b o, s.heap.get? b = some o → h'.get? b = some o) → Q (.ref (s.heap.objs.size + 1)) { s with heap := h' }) :
    wpAny (model prog w) A (call (.type "enumerate") [.ref t]) Q E s := by
  obtain ⟨⟨c, dct, dt, sl⟩, ht, hc, n, hd⟩ := hT
  cases (show c = .type "tuple" from hc)
  cases (show dt = .seq items n from hd)
  refine callType_new F.called_enumerate (by decide) (F.typeCall_enumerate_1 _) (F.newCall_enumerate_1 _) (fun obj => F.args_object_init_2 obj _) F.entry_enumerate_new (enumNewT t items n dct sl) ⟨ht, ?_⟩
  have hz : (s.heap.push { cls := .type "tuple_iterator", data := .fields #[.ref t, .int 0 0] }).objs.size = s.heap.objs.size + 1 := Heap.size_push ..
  show _ ∧ _
  rw [hz]
  have he : IsEnum ((s.heap.push { cls := .type "tuple_iterator", data := .fields #[.ref t, .int 0 0] }).push { cls := .type "enumerate", data := .fields #[.none, .bool false, .ref s.heap.objs.size, rawInt 0, .none, .none] }) (s.heap.objs.size + 1) s.heap.objs.size 0 .none := by
    have z := Heap.get?_push_size (s.heap.push { cls := .type "tuple_iterator", data := .fields #[.ref t, .int 0 0] }) (o := { cls := .type "enumerate", data := .fields #[.none, .bool false, .ref s.heap.objs.size, rawInt 0, .none, .none] }) rfl
    rw [hz] at z
    exact z
  exact ⟨⟨_, he, rfl⟩, h _ he ⟨_, Heap.get?_push_of_some _ (Heap.get?_push_size _ rfl), rfl, rfl⟩ (by rw [Heap.size_push, hz]) fun b o x => Heap.get?_push_of_some _ (Heap.get?_push_of_some _ x)⟩
end
def ItEn (K : PySem.W.Frag) (a : Addr) : It :=
  ⟨fun i H => ∃ (xs : List V) (x : V), SqT K H a xs ∧ xs[i]? = some x, fun i H v H' => ∃ T x, v = .ref T ∧ H T = none ∧ H' = upd H T (.tup [.int (i : Nat), x]) ∧ ∀ xs, SqT K H a xs → xs[i]? = some x, fun i H => ∃ xs : List V, SqT K H a xs ∧ xs.length = i⟩
theorem turnEn {P : Program} {w : World} {K : PySem.W.Frag} {elts : List Expr} {kk : Nat} {tpos : Pos} (a e it : Addr) :
    Turn P w K (.Tuple elts kk tpos) (ItEn K a) [e, it] e (fun i h => (∃ old, IsEnum h e it ((i : Nat) : Int) old) ∧ h.IsTupleIter it a i ∧ e ≠ it ∧ e ≠ a ∧ a ≠ it) where
  mem := by simp
  obj := fun i h st b hb => by
    obtain ⟨⟨old, he⟩, ⟨o, ho, hc, hd⟩, _⟩ := st
    have z : b = e ∨ b = it := by simpa using hb
    rcases z with z | z
    · rw [z]; exact ⟨_, he, fun v q => nomatch q⟩
    · rw [z]; exact ⟨o, ho, fun v q => by rw [hd] at q; cases q⟩
  keep := fun i h h' st k => let ⟨⟨old, he⟩, hi, hne⟩ := st; ⟨⟨old, k e (by simp) _ he⟩, hi.at fun o q => k it (by simp) o q, hne⟩
  item := by
    intro X hP hw hK hc i pins s σ H E I hf st hg
    subst hP hw hK
    obtain ⟨⟨old, he⟩, hit, hne, hea, hai⟩ := st
    obtain ⟨xs, x, hq, hx⟩ := hg
    obtain ⟨its, rv, p, hz⟩ := I.tuple hq
    obtain ⟨u, hu, ru⟩ := rv.get hx
    have hel : e < s.heap.objs.size := Heap.lt_size he
    have hil : it < s.heap.objs.size := by obtain ⟨_, q, _⟩ := hit; exact Heap.lt_size q
    have hi : i < its.toArray.size := by
      have := (List.getElem?_eq_some_iff.mp hu).1
      simpa using this
    have D := Draws.tuple (prog := X.prog) (w := X.w) (A := X.A.in1) (I.ok.hd hc) it a hai its.toArray
    refine wpAny_pyNext_enum_itemD D he ⟨hit, p⟩ hi hne (by simp [hne, hea]) fun y h' tk hy ho hst hT hsz hk => ?_
    have yu : y = u := by
      have e1 : its[i]? = some y := by simpa using hy
      rw [hu] at e1
      exact (Option.some.inj e1).symm
    subst yu
    refine ⟨_, rfl, wpAny_letOwnedTupleGo_enum (s := { s with heap := h', toks := tk + 1 }) ho fun h'' he' sb => ?_⟩
    have hT2 : h''.get? s.heap.objs.size = some { cls := .type "tuple", data := .seq #[.int i tk, y] } := (sb.2 _ (Nat.ne_of_gt hel)).trans hT
    have new : ObjOk X.prog X.w (upd H s.heap.objs.size (.tup [.int (i : Nat), x])) h'' s.heap.objs.size (.tup [.int (i : Nat), x]) :=
      ⟨by show 2 ≤ sizeLine; decide, [.int i tk, y], .cons ⟨_, rfl⟩ (.cons ru .nil), ⟨_, hT2, rfl, _, rfl⟩⟩
    have I1 : Inv X pins σ (upd H s.heap.objs.size (.tup [.int (i : Nat), x])) { s with heap := h'', toks := tk + 1 } :=
      I.turnedNew (ch := [e, it]) (fun b ob hb q => (sb.2 b (fun z => hb (by simp [z]))).trans (hk b ob (fun z => hb (by simp [z])) (fun z => hb (by simp [z])) q)) hf (Nat.le_refl _) new
    refine ⟨.ref s.heap.objs.size, _, I1, rfl, ⟨_, x, rfl, I.hok.fresh (Nat.le_refl _), rfl, fun ys hy => by rw [I.tuple_inj hy hq]; exact hx⟩, ⟨⟨y, ?_⟩, hst.1.at fun o q => (sb.2 it (Ne.symm hne)).trans q, hne, hea, hai⟩, fun b hb => ?_⟩
    · have e1 : ((i + 1 : Nat) : Int) = (i : Int) + 1 := by omega
      rw [e1]; exact he'
    · have hb' : b < s.heap.objs.size := by
        have z : b = e ∨ b = it := by simpa using hb
        rcases z with z | z
        · rw [z]; exact hel
        · rw [z]; exact hil
      rw [upd_ne (Nat.ne_of_lt hb')]
      exact (hf b hb).1
  done := by
    intro X hP hw hK hc i pins s σ H E I hf st hg
    subst hP hw hK
    obtain ⟨⟨old, he⟩, hit, hne, hea, hai⟩ := st
    obtain ⟨xs, hq, hx⟩ := hg
    obtain ⟨its, rv, p, hz⟩ := I.tuple hq
    obtain ⟨f0, f1, f2, f3, f4, f5⟩ := hf it (by simp)
    have hl := rv.length
    have D := Draws.tuple (prog := X.prog) (w := X.w) (A := X.A.in1) (I.ok.hd hc) it a hai its.toArray
    have e1 : its.toArray.size = i := by simp; omega
    exact wpAny_pyNext_enum_endD D he ⟨by rw [e1]; exact hit, p⟩ fun h' eb => ⟨rfl, I.turned (t' := s.toks) (fun b o hb q => eb b o hb q) f0 f1 f3 f4 f5⟩
  self := fun A i s Q E st h => let ⟨⟨_, he⟩, _⟩ := st; wpAny_pyIter_enum he h
def iEnT (K : PySem.W.Frag) (ta : TA) : TI := fun σ H R => ta σ H fun vs H1 => ∃ a xs, vs = [.ref a] ∧ SqT K H1 a xs ∧ R (ItEn K a) H1
theorem pi_enT {X : Cx} {e : Expr} {ta : TA} {p pos tpos : Pos} {elts : List Expr} {kk : Nat} (hg : Gl X "enumerate") (hm : X.mg "enumerate" = none) (ha : PA X [e] ta) (hs : starEach [e] X.env = [(false, eval e X.env)] := by rfl) :
    PI X (.Tuple elts kk tpos) (.Call (.Name "enumerate" p) [e] [] pos) (iEnT X.K ta) := by
  refine ⟨fun pins s σ H R I h => ?_⟩
  refine Call_ (ld_blt I hg hm boot_enumerate (PyProof.Rows.callWith_type1 (thn (ha.run pos pins s σ H _ I h) fun us s1 ⟨vs, H1, I1, r1, q1⟩ => ?_) hs rfl))
  obtain ⟨a, xs, ex, hq, q⟩ := q1
  subst ex
  cases r1 with
  | cons r rr =>
    cases rr
    cases r
    obtain ⟨its, rv, p', hz⟩ := I1.tuple hq
    have hal : a < s1.heap.objs.size := by obtain ⟨_, z, _⟩ := p'; exact Heap.lt_size z
    refine callEnumT p' fun h' he hit hsz hk => wpAny_pyIter_enum he ?_
    have I2 : Inv X pins σ H1 { s1 with heap := h' } := I1.kept (t' := s1.toks) hk
    refine ⟨s1.heap.objs.size + 1, [s1.heap.objs.size + 1, s1.heap.objs.size], _, _, H1, rfl, I2, turnEn a (s1.heap.objs.size + 1) s1.heap.objs.size, ⟨⟨.none, he⟩, hit, Nat.succ_ne_self _, Nat.ne_of_gt (Nat.lt_succ_of_lt hal), Nat.ne_of_lt hal⟩, fun b hb => ?_, q⟩
    have z : b = s1.heap.objs.size + 1 ∨ b = s1.heap.objs.size := by simpa using hb
    have hle : s1.heap.objs.size ≤ b := by
      rcases z with z | z
      · rw [z]; exact Nat.le_add_right _ _
      · rw [z]; exact Nat.le_refl _
    exact I1.fpOk hle (I1.hok.fresh hle)
def wEnum (K : PySem.W.Frag) (t : TA) : TW := fun σ H C => t σ H fun vs H1 => match vs with
  | [.ref a] => ∃ xs, SqT K H1 a xs ∧ C xs.length (fun H => SqT K H a xs) (YPair (fun i => some (.int (i : Nat))) (fun i => xs[i]?)) H1
  | _ => False
theorem walk_enT {K : PySem.W.Frag} {a : Addr} {xs : List V} : Walk (ItEn K a) xs.length (fun H => SqT K H a xs) (YPair (fun i => some (.int (i : Nat))) (fun i => xs[i]?)) := by
  refine ⟨fun i _ hi q => ⟨xs, xs[i], q, by simp [hi]⟩, fun _ q => ⟨xs, q, rfl⟩, fun i H v H' _ q y => ?_⟩
  obtain ⟨T, x, h1, h2, h3, h4⟩ := y
  exact ⟨T, _, x, h1, h2, h3, rfl, h4 xs q⟩
theorem k_enum {X : Cx} {K : PySem.W.Frag} (hK : X.K = K) {e : Expr} {t : TA} {p pos tpos : Pos} {elts : List Expr} {kk : Nat} (hg : Gl X "enumerate") (hm : X.mg "enumerate" = none) (ha : PA X [e] t) (hs : starEach [e] X.env = [(false, eval e X.env)] := by rfl) :
    PIU X (.Tuple elts kk tpos) (.Call (.Name "enumerate" p) [e] [] pos) (wEnum K t) := by
  subst hK
  refine piu_of (pi_enT hg hm (pa_cl ha) hs) fun σ H C q => ⟨_, q, fun vs H1 q1 => ?_⟩
  unfold wEnum at q1
  split at q1
  · obtain ⟨xs, h1, h2⟩ := q1
    exact ⟨_, xs, rfl, h1, _, _, _, walk_enT, h2⟩
  · exact q1.elim
end Ech

namespace Ech
open PySem PySem.Spec PyProof.Rows L2

/-! ### defs with a starred last name -/
def starSp (n : Nat) (sp : Sp) : Sp := fun vs H Q E => ∃ ws rest, vs = ws ++ rest ∧ ws.length = n ∧ rest.length ≤ sizeLine ∧ ∀ p H1, New H p (.tup rest) H1 → sp (ws ++ [V.ref p]) H1 Q E
section
variable {P : Program} {w : World} {K : PySem.W.Frag} {mg : PySem.Str → Option Value} {base : Heap} {x qual pv : PySem.Str} {params : Arguments} {body : List Stmt} {scope : Scope} {kws : List (PySem.Str × V)} {f : Addr} {fd : FuncData} {N ps : List PySem.Str} {k : Nat} {sp : Sp}
theorem star_ok (F : FunD K x qual params body scope [] kws f fd) (S : FnScope N (ps ++ [pv]) scope)
    (hb : ∀ (kV doc pm : Value) (an : Option Addr) (cdv ct : Value) (us rest : List Value), us.length = ps.length → bindArgs (PySem.W.fnOf x qual params body scope .none kV doc pm an cdv ct) ⟨us ++ rest, []⟩ = (newTuple rest >>= fun t => pure (ps.zip us ++ [(pv, t)])))
    (hbody : ∀ (cdv : Value) (A : Around) (outer : List Env) (s : Shared) (H : Hp) (vs : List V) (Q : VK) (E : XK), Room k (A.deeper (envOfC qual scope s.heap.objs.size f cdv)) → sp vs H Q E →
      ∃ t, PSs (cxOf CX0 P w K mg base N qual scope f cdv A outer s H E) body t ∧ t { nx := fun _ H' => Q .non H', rt := Q } (start N vs) H) : FnR P w K mg base CX0 (k + 1) f (starSp ps.length sp) := by
  obtain ⟨oc, od, dV, kV, doc, pm, an, cdv, ct, osl, rfl, lk, hcd, hD, _⟩ := F.ex
  rcases hD with ⟨_, rfl⟩ | ⟨e, _⟩
  · refine (StX.fn_star lk hcd S StX.cxUp_none (fun us rest h => hb kV doc pm an cdv ct us rest h) fun A outer s H vs Q E hr hsp => hbody cdv A outer s H vs Q E hr hsp).imp ?_
    rintro vs H Q E ⟨ws, rest, h1, h2, h3, h4⟩
    exact ⟨ws, rest, h1, h2, h3, fun p hp => h4 p _ ⟨hp, rfl⟩⟩
  · exact absurd rfl e
end
def uMakeR (C : Addr) (sp : Sp) (E : XK) (t : TA) : TE := fun σ H Q => t σ H fun vs H1 => ∀ x dx H2, Made H1 x dx C H2 → sp (.ref x :: vs) H2 (fun v H3 => v = .non ∧ Q (.ref x) H3) E
theorem u_makeR {X : Cx} {CX : CXT} {k : Nat} {f C : Addr} {sp : Sp} {E : XK} {x : PySem.Str} {e : Expr} {es : List Expr} {t : TA} {p pos : Pos} (M : Mk X.K C f) (F : FnR X.prog X.w X.K X.mg X.base CX k f sp) (hr : Room (k + 1) X.A) (hg : Gl X x) (hm : X.mg x = some (.ref C)) (hx : Passes CX X E) (ha : PA X (e :: es) t) (hdb : (x == ("__debug__" : PySem.Str)) = false := by decide)
    (he : starEach (e :: es) X.env = (false, eval e X.env) :: starEach es X.env := by rfl) (hpl : (backTo pos (starEach es X.env)).any (·.1) = false := by rfl) : PE X (.Call (.Name x p) (e :: es) [] pos) (uMakeR C sp E t) :=
  pe_wk (StX.pe_makeR M F hr hg hm hx (pa_cl ha) hdb he hpl) fun σ H Q q => ⟨_, q, fun vs H1 q1 a dx h1 h2 h3 => q1 a dx _ ⟨h1, h2, h3, rfl⟩⟩
end Ech

namespace Ech
open PySem PySem.Spec PyProof.Rows L2
open He (ga ma)

/-! ### songs as data -/
abbrev Ec : Type := Int × Addr × List (List (Option Int))
def EchoAt (K : PySem.W.Frag) (G : Hp) (v : V) (e : Ec) : Prop := ∃ b, v = .ref b ∧ SqT K G b [.int e.1, .ref e.2.1] ∧ TabAt K G e.2.1 e.2.2
def SongAt (K : PySem.W.Frag) (G : Hp) (a : Addr) (L n : Int) (es : List Ec) : Prop := ∃ dx vo vs, G a = some (.ins (ga K "Song") dx [("alphabet", .int L), ("size", .int n), ("voices", .ref vo)]) ∧ SqT K G vo vs ∧ Paired (EchoAt K G) vs es
def EchoOk (L : Int) (e : Ec) : Prop := 1 ≤ e.1 ∧ e.1 ≤ 10 ^ 30 ∧ (e.2.2.length : Int) = L
theorem EchoAt.up {K : PySem.W.Frag} {G G' : Hp} {v : V} {e : Ec} (x : Ex G G') (h : EchoAt K G v e) : EchoAt K G' v e := by
  obtain ⟨b, h1, h2, h3⟩ := h
  exact ⟨b, h1, Evl.ex_t x h2, h3.up x⟩
theorem echoes_up {K : PySem.W.Frag} {G G' : Hp} {vs : List V} {es : List Ec} (x : Ex G G') (h : Paired (EchoAt K G) vs es) : Paired (EchoAt K G') vs es := paired_imp2 h fun _ _ _ z => z.up x
theorem SongAt.up {K : PySem.W.Frag} {G G' : Hp} {a : Addr} {L n : Int} {es : List Ec} (h : SongAt K G a L n es) (x : Ex G G') : SongAt K G' a L n es := by
  obtain ⟨dx, vo, vs, h1, h2, h3⟩ := h
  exact ⟨dx, vo, vs, x _ _ h1, Evl.ex_t x h2, echoes_up x h3⟩
theorem look_alpha (a b c : V) : ([("alphabet", a), ("size", b), ("voices", c)] : List (PySem.Str × V)).lookup ("alphabet" : PySem.Str) = some a := by rfl
theorem look_size (a b c : V) : ([("alphabet", a), ("size", b), ("voices", c)] : List (PySem.Str × V)).lookup ("size" : PySem.Str) = some b := by rfl
theorem look_voices (a b c : V) : ([("alphabet", a), ("size", b), ("voices", c)] : List (PySem.Str × V)).lookup ("voices" : PySem.Str) = some c := by rfl
theorem put_alpha (a : V) : putF ("alphabet" : PySem.Str) a [] = ([("alphabet", a)] : List (PySem.Str × V)) := by rfl
theorem put_size (a b : V) : putF ("size" : PySem.Str) b ([("alphabet", a)] : List (PySem.Str × V)) = ([("alphabet", a), ("size", b)] : List (PySem.Str × V)) := by rfl
theorem put_voices (a b c : V) : putF ("voices" : PySem.Str) c ([("alphabet", a), ("size", b)] : List (PySem.Str × V)) = ([("alphabet", a), ("size", b), ("voices", c)] : List (PySem.Str × V)) := by rfl
theorem kit_self {K : PySem.W.Frag} {C : Addr} : PySem.W.kitOne K (.ref C) (.ref C) = some true := by unfold PySem.W.kitOne; rw [if_pos (by simp)]
theorem ex_refl (H : Hp) : Ex H H := fun _ _ e => e
theorem ex_trans {G H I : Hp} (a : Ex G H) (b : Ex H I) : Ex G I := fun x o e => b x o (a x o e)

/-! ### scores: what a law draws ahead of a song -/
abbrev Lot : Type := Int × List (List (Option Int))
def LotAt (K : PySem.W.Frag) (G : Hp) (w : V) (e : Lot) : Prop := ∃ b r, w = .ref b ∧ SqT K G b [.int e.1, r] ∧ RowsAt K G r e.2
def ScoreAt (K : PySem.W.Frag) (G : Hp) (v : V) (L n : Int) (es : List Lot) : Prop := ∃ a kvs le ws, v = .ref a ∧ G a = some (.dK kvs) ∧ valV kvs (.inr "letters") = some (.int L) ∧ valV kvs (.inr "length") = some (.int n) ∧ valV kvs (.inr "echoes") = some (.ref le) ∧ SqL K G le ws ∧ Paired (LotAt K G) ws es
def lotSum (es : List Lot) : Int := (es.map (·.1)).sum
structure ScoreOk (L n : Int) (es : List Lot) : Prop where
  l1 : 1 ≤ L
  l5 : L ≤ 5
  n1 : 1 ≤ n
  n30 : n ≤ 10 ^ 30
  few : es.length ≤ 2
  each : ∀ e ∈ es, 1 ≤ e.1 ∧ e.1 ≤ 10 ^ 30 ∧ (e.2.length : Int) = L ∧ SqR e.2 ∧ ∀ r ∈ e.2, ∀ x ∈ r, ∀ i, x = some i → 0 ≤ i
  sum : es.length = 2 → n ≤ lotSum es
theorem RowsAt.up {K : PySem.W.Frag} {G G' : Hp} {v : V} {rows : List (List (Option Int))} (x : Ex G G') (h : RowsAt K G v rows) : RowsAt K G' v rows := by
  obtain ⟨a, f, vs, h1, h2, h3⟩ := h
  exact ⟨a, f, vs, h1, Sq.up x h2, paired_imp2 h3 fun w r _ ⟨b, g, k1, k2⟩ => ⟨b, g, k1, Sq.up x k2⟩⟩
theorem LotAt.up {K : PySem.W.Frag} {G G' : Hp} {w : V} {e : Lot} (x : Ex G G') (h : LotAt K G w e) : LotAt K G' w e := by
  obtain ⟨b, r, h1, h2, h3⟩ := h
  exact ⟨b, r, h1, Evl.ex_t x h2, h3.up x⟩
theorem ScoreAt.up {K : PySem.W.Frag} {G G' : Hp} {v : V} {L n : Int} {es : List Lot} (x : Ex G G') (h : ScoreAt K G v L n es) : ScoreAt K G' v L n es := by
  obtain ⟨a, kvs, le, ws, h1, h2, h3, h4, h5, h6, h7⟩ := h
  exact ⟨a, kvs, le, ws, h1, x _ _ h2, h3, h4, h5, Evl.ex_l x h6, paired_imp2 h7 fun _ _ _ z => z.up x⟩
theorem sk1 : ¬ ((Sum.inr ("letters" : PySem.Str) : Key) = Sum.inr ("length" : PySem.Str)) := by decide +kernel
theorem sk2 : ¬ ((Sum.inr ("letters" : PySem.Str) : Key) = Sum.inr ("echoes" : PySem.Str)) := by decide +kernel
theorem sk3 : ¬ ((Sum.inr ("length" : PySem.Str) : Key) = Sum.inr ("echoes" : PySem.Str)) := by decide +kernel
def scoreK (x y z : V) : List (Key × V) := putK (putK (putK [] (Sum.inr ("letters" : PySem.Str) : Key) x) (Sum.inr ("length" : PySem.Str)) y) (Sum.inr ("echoes" : PySem.Str)) z
theorem score_merge (x y z : V) : mergeK [] [(Sum.inr ("letters" : PySem.Str), x), (Sum.inr ("length" : PySem.Str), y), (Sum.inr ("echoes" : PySem.Str), z)] = scoreK x y z := rfl
theorem score_l (x y z : V) : valV (scoreK x y z) (.inr "letters") = some x := by
  unfold scoreK
  rw [valV_put, if_neg sk2, valV_put, if_neg sk1, valV_put, if_pos rfl]
theorem score_n (x y z : V) : valV (scoreK x y z) (.inr "length") = some y := by
  unfold scoreK
  rw [valV_put, if_neg sk3, valV_put, if_pos rfl]
theorem score_e (x y z : V) : valV (scoreK x y z) (.inr "echoes") = some z := by
  unfold scoreK
  rw [valV_put, if_pos rfl]
end Ech

namespace Ech
open PySem PySem.Spec PyProof.Rows L2
open He (ga ma)

/-! ### data small enough to be shown and compared -/
structure Sm (k n : Nat) (d : PyData) : Prop where
  lay : d.canLay0 = true
  sh : d.showable = true
  nd : d.hasDict = false
  dp : d.depth ≤ k
  lv : d.leavesShort 91 = true
  w : d.weight ≤ n
theorem Sm.up {k n k' n' : Nat} {d : PyData} (h : Sm k n d) (hk : k ≤ k') (hn : n ≤ n') : Sm k' n' d := ⟨h.lay, h.sh, h.nd, Nat.le_trans h.dp hk, h.lv, Nat.le_trans h.w hn⟩
theorem sm_bl (b : Bool) : Sm 0 0 (.bool b) := ⟨rfl, rfl, rfl, Nat.le_refl _, rfl, Nat.le_refl _⟩
theorem sm_int {i : Int} (h : i.natAbs < 10 ^ 90) : Sm 0 300 (.int i) := by
  have lg : i.natAbs.log2 ≤ 299 := by
    by_cases z : i.natAbs = 0
    · rw [z]; decide
    · exact Nat.le_of_lt_succ ((Nat.log2_lt z).mpr (Nat.lt_of_lt_of_le h (by decide +kernel)))
  refine ⟨by simp only [PyData.canLay0], ?_, by simp only [PyData.hasDict], by simp only [PyData.depth]; exact Nat.le_refl _, ?_, ?_⟩
  · simp only [PyData.showable]
    exact decide_eq_true (by omega)
  · simp only [PyData.leavesShort]
    refine decide_eq_true ?_
    have e := int_text_length_le10 (k := 90) (by decide) h
    show (Str.ofString (toString i)).length ≤ 91
    rw [PySem.ofString_length]
    exact e
  · simp only [PyData.weight]
    split
    · omega
    · omega
section
variable {k n : Nat}
theorem sm_all : ∀ {ds : List PyData}, (∀ d ∈ ds, Sm k n d) → PyData.canLayAll0 ds = true ∧ PyData.showableAll ds = true ∧ PyData.hasDictAll ds = false ∧ PyData.depthAll ds ≤ k ∧ PyData.leavesShortAll 91 ds = true ∧ PyData.weightAll ds ≤ ds.length * (n + 1)
  | [], _ => ⟨by simp [PyData.canLayAll0], by simp [PyData.showableAll], by simp [PyData.hasDictAll], by simp [PyData.depthAll], by simp [PyData.leavesShortAll], by simp [PyData.weightAll]⟩
  | d :: ds, h => by
    obtain ⟨a, b, c, e, f, g⟩ := sm_all (ds := ds) fun x hx => h x (List.mem_cons_of_mem _ hx)
    have q := h d (List.mem_cons_self ..)
    refine ⟨by simp [PyData.canLayAll0, a, q.lay], by simp [PyData.showableAll, b, q.sh], by simp [PyData.hasDictAll, c, q.nd], ?_, by simp [PyData.leavesShortAll, f, q.lv], ?_⟩
    · simp only [PyData.depthAll]
      have := q.dp
      omega
    · simp only [PyData.weightAll, List.length_cons]
      have := q.w
      rw [Nat.succ_mul]
      omega
theorem sm_lst {ds : List PyData} (m : Nat) (hm : ds.length ≤ m) (h : ∀ d ∈ ds, Sm k n d) : Sm (k + 1) (m * (n + 1)) (.list ds) := by
  obtain ⟨a, b, c, e, f, g⟩ := sm_all h
  exact ⟨by simpa [PyData.canLay0] using a, by simpa [PyData.showable] using b, by simpa [PyData.hasDict] using c, by simp only [PyData.depth]; omega, by simpa [PyData.leavesShort] using f, by
    simp only [PyData.weight]; exact Nat.le_trans g (Nat.mul_le_mul_right _ hm)⟩
theorem sm_tup {ds : List PyData} (m : Nat) (hm : ds.length ≤ m) (h : ∀ d ∈ ds, Sm k n d) : Sm (k + 1) (m * (n + 1)) (.tuple ds) := by
  obtain ⟨a, b, c, e, f, g⟩ := sm_all h
  exact ⟨by simpa [PyData.canLay0] using a, by simpa [PyData.showable] using b, by simpa [PyData.hasDict] using c, by simp only [PyData.depth]; omega, by simpa [PyData.leavesShort] using f, by
    simp only [PyData.weight]; exact Nat.le_trans g (Nat.mul_le_mul_right _ hm)⟩
theorem Sm.shaped {d : PyData} (h : Sm k n d) (hk : k ≤ 64) : SeqAt.shaped d = true := by
  show (PyData.canLay0 d && decide (PyData.depth d ≤ 64)) = true
  rw [Bool.and_eq_true]
  exact ⟨h.lay, decide_eq_true (Nat.le_trans h.dp hk)⟩
end
/-! ### repr, told -/
/-! ### scores, done -/
theorem ex_frz {G H : Hp} {l : Addr} {o : HO} (h : Ex G H) (hl : H l = some o) : Ex (upd G l o) H := fun a u e => by
  by_cases z : a = l
  · subst z; rw [upd_same] at e; rw [hl]; exact e
  · rw [upd_ne z] at e; exact h a u e
end Ech

set_option maxHeartbeats 4000000
/-! ### tuples of ints in their order -/
namespace EchS
open PySem PyProof.Rows Srt SrtO
theorem lex_asym : ∀ {xs ys : List Int}, HT.lexLt xs ys = true → HT.lexLt ys xs = false
  | [], [], _ => rfl
  | [], _ :: _, _ => rfl
  | _ :: _, [], h => by rw [HT.lexLt_cons_nil] at h; cases h
  | x :: xs, y :: ys, h => by
    rw [HT.lexLt_cons] at h ⊢
    by_cases e : x = y
    · rw [if_pos e] at h
      rw [if_pos e.symm]
      exact lex_asym h
    · rw [if_neg e] at h
      rw [if_neg (fun z => e z.symm)]
      have := of_decide_eq_true h
      exact decide_eq_false (by omega)
theorem lex_tr : ∀ {xs ys zs : List Int}, HT.lexLt ys xs = false → HT.lexLt zs ys = false → HT.lexLt zs xs = false
  | [], ys, [], _, _ => rfl
  | x :: xs, [], _, h, _ => by rw [HT.lexLt_nil_cons] at h; cases h
  | x :: xs, y :: ys, [], _, h => by rw [HT.lexLt_nil_cons] at h; cases h
  | [], _, z :: zs, _, _ => HT.lexLt_cons_nil z zs
  | x :: xs, y :: ys, z :: zs, h1, h2 => by
    rw [HT.lexLt_cons] at h1 h2 ⊢
    by_cases e1 : y = x
    · rw [if_pos e1] at h1
      subst e1
      by_cases e2 : z = y
      · rw [if_pos e2] at h2 ⊢
        exact lex_tr h1 h2
      · rw [if_neg e2] at h2 ⊢
        exact h2
    · rw [if_neg e1] at h1
      have a := of_decide_eq_false h1
      by_cases e2 : z = y
      · subst e2
        rw [if_neg e1]
        exact h1
      · rw [if_neg e2] at h2
        have b := of_decide_eq_false h2
        rw [if_neg (by omega)]
        exact decide_eq_false (by omega)
theorem lex_anti : ∀ {xs ys : List Int}, HT.lexLt xs ys = false → HT.lexLt ys xs = false → xs = ys
  | [], [], _, _ => rfl
  | [], _ :: _, h, _ => by rw [HT.lexLt_nil_cons] at h; cases h
  | _ :: _, [], _, h => by rw [HT.lexLt_nil_cons] at h; cases h
  | x :: xs, y :: ys, h1, h2 => by
    rw [HT.lexLt_cons] at h1 h2
    by_cases e : x = y
    · rw [if_pos e] at h1
      rw [if_pos e.symm] at h2
      rw [e, lex_anti h1 h2]
    · rw [if_neg e] at h1
      rw [if_neg (fun z => e z.symm)] at h2
      have a := of_decide_eq_false h1
      have b := of_decide_eq_false h2
      omega
def lexLe (a b : List Int) : Bool := !HT.lexLt b a
def isort (ds : List (List Int)) : List (List Int) := ds.mergeSort lexLe
theorem isort_perm (ds : List (List Int)) : (isort ds).Perm ds := List.mergeSort_perm _ _
theorem isort_sorted (ds : List (List Int)) : (isort ds).Pairwise fun a b => HT.lexLt b a = false := by
  have h := List.pairwise_mergeSort (le := lexLe) (fun a b c h1 h2 => by
    unfold lexLe at *
    simp only [Bool.not_eq_true'] at *
    exact lex_tr h1 h2) (fun a b => by
    unfold lexLe
    cases e : HT.lexLt b a with
    | false => rfl
    | true => rw [lex_asym e]; rfl) ds
  refine h.imp ?_
  intro a b hh
  unfold lexLe at hh
  simpa using hh
theorem isort_uniq {l ds : List (List Int)} (p : l.Perm ds) (s : l.Pairwise fun a b => HT.lexLt b a = false) : l = isort ds :=
  List.Perm.eq_of_pairwise (le := fun a b => HT.lexLt b a = false) (fun a b _ _ h1 h2 => lex_anti h2 h1) s (isort_sorted ds) (p.trans (isort_perm ds).symm)

section
variable {prog : Program} {w : World} {A : Around} {E : Value → Shared → Prop} {s : Shared}
def IsInts (h : Heap) (v : Value) (ns : List Int) : Prop := ∃ a o its n, v = .ref a ∧ h.get? a = some o ∧ o.cls = .type "tuple" ∧ o.data = .seq its n ∧ IntsAre its.toList ns
theorem IsInts.keeps {h h' : Heap} {v : Value} {ns : List Int} (p : IsInts h v ns) (k : ∀ b o, h.get? b = some o → o.cls = .type "tuple" → h'.get? b = some o) : IsInts h' v ns := by
  obtain ⟨a, o, its, n, e, ho, hc, hd, hi⟩ := p
  exact ⟨a, o, its, n, e, k _ _ ho hc, hc, hd, hi⟩
theorem ints_uniq : ∀ {vs : List Value} {ns ms : List Int}, IntsAre vs ns → IntsAre vs ms → ns = ms
  | _, _, _, .nil, .nil => rfl
  | _, _, _, .cons n t r, h => by
    cases h with
    | cons _ _ r2 => rw [ints_uniq r r2]
theorem IsInts.uniq {h : Heap} {v : Value} {ns ms : List Int} (p : IsInts h v ns) (q : IsInts h v ms) : ns = ms := by
  obtain ⟨a, o, its, n, rfl, ho, hc, hd, hi⟩ := p
  obtain ⟨a', o', its', n', e, ho', hc', hd', hi'⟩ := q
  cases e
  rw [ho] at ho'
  cases ho'
  rw [hd] at hd'
  cases hd'
  exact ints_uniq hi hi'
theorem kat_ints {fin : Bool} {Q : Bool → Shared → Prop} : ∀ {vs us : List Value} {ns ms : List Int} {i : Nat}, IntsAre vs ns → IntsAre us ms → fin = decide (ns.length < ms.length) → Q (HT.lexLt ns ms) s → PySem.W.KatLex prog w A true fin Q (vs.zip us) i s
  | _, _, _, _, _, .nil, .nil, hf, h => by
    rw [HT.lexLt_nil_nil] at h
    have e : fin = false := by rw [hf]; rfl
    rw [e]
    exact PySem.W.kat_nil h
  | _, _, _, _, _, .nil, .cons m t r, hf, h => by
    rw [HT.lexLt_nil_cons] at h
    have e : fin = true := by rw [hf]; exact decide_eq_true (by simp)
    rw [e]
    exact PySem.W.kat_nil h
  | _, _, _, _, _, .cons m t r, .nil, hf, h => by
    rw [HT.lexLt_cons_nil] at h
    have e : fin = false := by rw [hf]; exact decide_eq_false (by simp)
    rw [e]
    exact PySem.W.kat_nil h
  | _, _, _, _, i, .cons (vs := vs) x t r, .cons (vs := us) y u r2, hf, h => by
    rw [HT.lexLt_cons] at h
    show PySem.W.KatLex prog w A true fin Q ((.int x t, .int y u) :: vs.zip us) i s
    refine PySem.W.kat_cons (SeqAt.EqAt.int_int x t y u prog w _ _ ?_)
    refine PySem.W.kat_go (fun e1 => ?_) (fun e1 => ?_)
    · have ex : x = y := by simpa using e1
      rw [if_pos ex] at h
      exact PySem.W.kat_yes (kat_ints r r2 (by rw [hf]; simp) h)
    · have ex : ¬ x = y := by simpa using e1
      rw [if_neg ex] at h
      exact PySem.W.kat_no (TS.oneLt_ints _ h)
theorem tups_cmp {vs : List Value} {k : Value → List Int} (hp : ∀ v ∈ vs, IsInts s.heap v (k v)) : Cmp prog w A s (tuples' true) (fun p => p.1 ∈ vs) (lt2 fun v u => HT.lexLt (k v) (k u)) := by
  intro p q hm hm'
  have h1 := hp _ hm
  have h2 := hp _ hm'
  show wpAny (model prog w) A (keyLt' (tuples' true) p.1 q.1) (fun r s' => s' = s ∧ r = HT.lexLt (k p.1) (k q.1)) (fun _ _ => False) s
  obtain ⟨a, o, its, n, e, ho, hc, hd, hi⟩ := h1
  obtain ⟨a', o', its', n', e', ho', hc', hd', hi'⟩ := h2
  rw [e] at hi ⊢
  rw [e'] at hi' ⊢
  refine PySem.W.kat_lt ho hd ho' hd' ?_
  refine kat_ints hi hi' ?_ ⟨rfl, rfl⟩
  rw [← hi.length, ← hi'.length, Array.length_toList, Array.length_toList]
theorem firsts_tup {h : Heap} {k : Value → List Int} : ∀ {vs : List Value}, (∀ v ∈ vs, IsInts h v (k v) ∧ k v ≠ []) → ∃ fs : List Value, PySem.W.KatTups h vs fs ∧ fs.length = vs.length ∧ ∀ f ∈ fs, ∃ x t, f = Value.int x t
  | [], _ => ⟨[], PySem.W.KatTups.nil, rfl, fun _ hm => by simp at hm⟩
  | v :: vs, hp => by
    obtain ⟨fs, h1, h2, h3⟩ := firsts_tup (vs := vs) fun v' hm => hp v' (List.mem_cons_of_mem _ hm)
    obtain ⟨⟨a, o, its, n, e, ho, hc, hd, hi⟩, hne⟩ := hp v (List.mem_cons_self ..)
    generalize k v = ns at hi hne
    subst e
    obtain ⟨x, t, hx⟩ : ∃ x t, its[0]? = some (Value.int x t) := by
      have e0 : its[0]? = its.toList[0]? := by simp
      rw [e0]
      generalize its.toList = l at hi
      cases hi with
      | nil => exact absurd rfl hne
      | cons x t r => exact ⟨x, t, rfl⟩
    refine ⟨.int x t :: fs, PySem.W.KatTups.cons ho hc hd hx h1, by rw [List.length_cons, List.length_cons, h2], fun f hm => ?_⟩
    rcases List.mem_cons.mp hm with rfl | hm
    · exact ⟨x, t, rfl⟩
    · exact h3 f hm
theorem tups_sortable {a : Addr} {vs : List Value} {k : Value → List Int} (h0 : 0 < vs.length) (hp : ∀ v ∈ vs, IsInts s.heap v (k v) ∧ k v ≠ []) (ha : ∀ o, s.heap.get? a = some o → o.cls ≠ .type "tuple") : SortableO prog w A s a vs fun v u => HT.lexLt (k v) (k u) := by
  intro h' keep
  have hp' : ∀ v ∈ vs, IsInts h' v (k v) ∧ k v ≠ [] := fun v hm => ⟨(hp v hm).1.keeps fun b o e c => keep b o (fun z => by subst z; exact ha o e c) e, (hp v hm).2⟩
  obtain ⟨fs, h1, h2, h3⟩ := firsts_tup hp'
  refine ⟨tuples' true, fun Q E hq => ?_, tups_cmp fun v hv => (hp' v hv).1⟩
  refine PySem.W.kat_kind (T := .type "int") h1 (by omega) (fun f hm => ?_) (by rfl) ?_
  · obtain ⟨x, t, rfl⟩ := h3 f hm
    exact PySem.W.Looks.now
  · have e : (Value.type "int" != Value.type "tuple") = true := by first | decide +kernel | rfl | decide
    rw [e]
    exact hq
theorem sorted_tups {l : Addr} {vs : List Value} {k : Value → List Int} {Q : Value → Shared → Prop} (hl : s.heap.IsList l vs.toArray) (hz : vs.length ≤ sizeLine) (hp : ∀ v ∈ vs, IsInts s.heap v (k v) ∧ k v ≠ [])
    (h : ∀ (h' : Heap) (d : Addr) (out : List Value), out.Perm vs → (out.Pairwise fun v u => HT.lexLt (k u) (k v) = false) → (∀ b o, s.heap.get? b = some o → h'.get? b = some o) → s.heap.objs.size ≤ d → (∃ n, h'.get? d = some (seqObj "list" out.toArray n)) → Q (.ref d) { s with heap := h' }) :
    wpAny (model prog w) A (call (.builtin "sorted") [.ref l]) Q E s := by
  refine sorted_ord (ltv := fun v u => HT.lexLt (k v) (k u)) ⟨fun x y h => lex_asym h, fun x y z h1 h2 => lex_tr h1 h2⟩ hl hz (fun h2 h₁ a ha kk => ?_) fun out hs hb => ?_
  · refine tups_sortable (s := { s with heap := h₁ }) (by omega) (fun v hm => ⟨(hp v hm).1.keeps fun b o e _ => (kk b o e).2, (hp v hm).2⟩) fun o e => ?_
    have e' : some o = some (seqObj "list" vs.toArray 0) := e.symm.trans ha
    cases e'
    intro c
    exact absurd (Value.type.inj c) (by decide)
  · exact h _ _ out hb.perm hs (fun b o e => sortedAll_old e) (Nat.le_succ _) (sortedAll_at s.heap vs out.toArray)
end
end EchS
namespace Ech
open PySem PySem.Spec PyProof.Rows L2
open EchS (isort IsInts)
theorem paired_mem_l {α β : Type} {R : α → β → Prop} : ∀ {as : List α} {bs : List β} {a : α}, Paired R as bs → a ∈ as → ∃ b ∈ bs, R a b
  | _, _, _, .nil, h => by cases h
  | _, _, _, .cons h t, hm => by
    rcases List.mem_cons.mp hm with rfl | hm
    · exact ⟨_, List.mem_cons_self .., h⟩
    · obtain ⟨b, hb, r⟩ := paired_mem_l t hm
      exact ⟨b, List.mem_cons_of_mem _ hb, r⟩
def rSortedT (K : PySem.W.Frag) : List V → Hp → VK → Prop := fun vs H Q => match vs with
  | [.ref a] => ∃ (xs : List V) (R : V → List Int → Prop) (ds : List (List Int)), SqL K H a xs ∧ Paired R xs ds ∧ (∀ x d, R x d → ∃ t, x = V.ref t ∧ SqT K H t (d.map V.int)) ∧ (∀ d ∈ ds, d ≠ []) ∧
      ∀ ys p H1, Paired R ys (isort ds) → New H p (.lst ys) H1 → Q (.ref p) H1
  | _ => False
theorem ints_of_vals : ∀ {ds : List Int} {us : List Value}, Vals (ds.map V.int) us → IntsAre us ds
  | [], _, .nil => .nil
  | d :: ds, _, .cons r t => by
    obtain ⟨k, rfl⟩ := r
    exact .cons d k (ints_of_vals t)
theorem c_sortedT {X : Cx} : CallR X (.builtin "sorted") (rSortedT X.K) := by
  intro pins s σ H vs us Q I r h
  unfold rSortedT at h
  split at h
  case h_2 => exact h.elim
  rename_i a
  obtain ⟨xs, R, ds, hs, hp, hR, hne, q⟩ := h
  obtain ⟨its, rv, hl, hz⟩ := I.list hs
  obtain ⟨u, rfl, ru⟩ := vals1 r
  obtain rfl : u = Value.ref a := ru
  have isref : ∀ x ∈ xs, ∃ t, x = V.ref t := fun x m => by
    obtain ⟨d, _, hd⟩ := paired_mem_l hp m
    obtain ⟨t, e, _⟩ := hR x d hd
    exact ⟨t, e⟩
  obtain ⟨e1, e2⟩ := refs_back rv isref
  have rd : ∀ x d, R x d → ∃ t, x = V.ref t ∧ IsInts s.heap (.ref t) d := fun x d hx => by
    obtain ⟨t, rfl, ht⟩ := hR x d hx
    obtain ⟨tu, r2, pl, _⟩ := I.tuple ht
    obtain ⟨o, ho, hc, n, hd⟩ := id pl
    exact ⟨t, rfl, t, o, tu.toArray, n, rfl, ho, hc, hd, ints_of_vals r2⟩
  let k : Value → List Int := fun v => open Classical in if h : ∃ ns, IsInts s.heap v ns then h.choose else []
  have hk : ∀ v ns, IsInts s.heap v ns → k v = ns := fun v ns h => by
    have ex : ∃ ns, IsInts s.heap v ns := ⟨ns, h⟩
    show (open Classical in if h : ∃ ns, IsInts s.heap v ns then h.choose else []) = ns
    rw [dif_pos ex]
    exact ex.choose_spec.uniq h
  have each : ∀ v ∈ its, IsInts s.heap v (k v) ∧ k v ≠ [] ∧ R (backV v) (k v) := fun v hv => by
    obtain ⟨t, rfl⟩ := e2 v hv
    have hm : V.ref t ∈ xs := by rw [e1]; exact List.mem_map.mpr ⟨_, hv, rfl⟩
    obtain ⟨d, hd, hx⟩ := paired_mem_l hp hm
    obtain ⟨t', e, hi⟩ := rd _ d hx
    cases e
    rw [hk _ _ hi]
    exact ⟨hi, hne d hd, hx⟩
  have hds : ds = its.map k := by
    have go : ∀ {l : List Value} {xs : List V} {ds : List (List Int)}, Paired R xs ds → xs = l.map backV → (∀ v ∈ l, ∃ a, v = Value.ref a) → ds = l.map k := by
      intro l
      induction l with
      | nil =>
        intro xs ds h e _
        cases h with
        | nil => rfl
        | cons _ _ => cases e
      | cons v l ih =>
        intro xs ds h e hr
        cases h with
        | nil => cases e
        | cons h t =>
          rename_i x d xs' ds'
          have e' : x = backV v ∧ xs' = l.map backV := by
            have := List.cons.inj e
            exact ⟨this.1, this.2⟩
          obtain ⟨t', e3, hi⟩ := rd _ _ h
          obtain ⟨a', rfl⟩ := hr v (List.mem_cons_self ..)
          have e4 : V.ref t' = V.ref a' := e3.symm.trans e'.1
          cases e4
          rw [List.map_cons, hk _ _ hi, ih t e'.2 fun v hv => hr v (List.mem_cons_of_mem _ hv)]
    exact go hp e1 e2
  refine EchS.sorted_tups (k := k) hl.isList (by rw [← rv.length]; exact hz) (fun v hv => ⟨(each v hv).1, (each v hv).2.1⟩) fun h' d out h1 h2 kp hd hn => ?_
  have h3 : ∀ u ∈ out, ∃ a, u = Value.ref a := fun u hu => e2 u (h1.mem_iff.mp hu)
  have so : out.map k = isort ds := by
    refine EchS.isort_uniq ?_ ?_
    · rw [hds]
      exact h1.map k
    · exact List.pairwise_map.mpr h2
  obtain ⟨n, hn⟩ := hn
  have pr : Paired R (out.map backV) (isort ds) := by
    rw [← so]
    have : ∀ l : List Value, (∀ v ∈ l, v ∈ its) → Paired R (l.map backV) (l.map k) := by
      intro l
      induction l with
      | nil => intro _; exact .nil
      | cons v l ih => intro hl; exact .cons (each v (hl v (List.mem_cons_self ..))).2.2 (ih fun u hu => hl u (List.mem_cons_of_mem _ hu))
    exact this out fun v hv => h1.mem_iff.mp hv
  refine ⟨.ref d, upd H d (.lst (out.map backV)), I.laid (t' := s.toks) kp hd ⟨?_, out, n, vals_back h3, hn⟩, rfl, q _ d _ pr ⟨I.hok.fresh hd, rfl⟩⟩
  rw [List.length_map, h1.length_eq, ← rv.length]
  exact hz
theorem k_sorted {X : Cx} {K : PySem.W.Frag} (hK : X.K = K) : CallR X (.builtin "sorted") (rSortedT K) := by subst hK; exact c_sortedT
end Ech

namespace Ech
open PySem PySem.Spec PyProof.Rows L2
open He (ga ma)

/-! ### methods of own classes -/
section
variable {X : Cx} {o e : Expr} {es : List Expr} {ta : TE} {t : TA} {pos apos : Pos} {C f : Addr} {m x : PySem.Str} {CX : CXT} {k : Nat} {ps : List PySem.Str} {sp : Sp} {dvs : List V} {E : XK} {pl : Sem Bool}
theorem u_meth (he : PE X o ta) (c : Cls X.K C) (hm : Meth X.K C m f) (F : FnOk X.prog X.w X.K X.mg X.base CX k f (fdA X.K f) ps sp) (hr : Room k X.A) (hb : Bnd X.K f ps dvs) (hx : Passes CX X E) (ha : PA X (e :: es) t)
    (hst : starEach (e :: es) X.env = (false, eval e X.env) :: starEach es X.env := by rfl) (hpl : (backTo pos (starEach es X.env)).any (·.1) = false := by rfl)
    (ht : eval (.Call (.Attribute o m apos) (e :: es) [] pos) X.env = (do
      let ov ← eval o X.env
      standAt apos.atName
      let (f, first) ← holding [ov] (getMethod ov m pl)
      callWith pos f first (backTo pos (starEach (e :: es) X.env)) (backToKw pos (keywordEach [] X.env))) := by rfl) :
    PE X (.Call (.Attribute o m apos) (e :: es) [] pos) (uMeth C m sp dvs E ta t) := by
  obtain ⟨ds, hd, hb⟩ := hb
  refine pe_wk (pe_meth (pe_cl he) c hm F hr hb hd hx (pa_cl ha) hst hpl ht) fun σ H Q q => ⟨_, q, fun v H1 q1 => ?_⟩
  cases v with
  | ref a =>
    obtain ⟨dx, fs, h1, h2, h3⟩ := q1
    exact ⟨a, dx, fs, rfl, h1, h2, _, h3, fun vs H2 q2 => q2⟩
  | _ => exact q1.elim
end

/-! ### a class's int, read through an instance -/
def uCon (C : Addr) (ta : TE) (f : PySem.Str) (n : Int) : TE := fun σ H Q => ta σ H fun x H1 => match x with
  | .ref a => ∃ dx fs, H1 a = some (.ins C dx fs) ∧ fs.lookup f = none ∧ Q (.int n) H1
  | _ => False
theorem u_con {X : Cx} {e : Expr} {ta : TE} {C : Addr} {f : PySem.Str} {n : Int} {pos : Pos} (c : Cls X.K C) (hc : ConI X.K C f n) (he : PE X e ta) (hb : attributeBase e f X.env (eval e X.env) = eval e X.env := by rfl) : PE X (.Attribute e f pos) (uCon C ta f n) := by
  obtain ⟨u, hc⟩ := hc
  refine pe_wk (pe_con (pe_cl he) hb) fun σ H Q q => ⟨_, q, fun v H1 q1 => ?_⟩
  cases v with
  | ref a =>
    obtain ⟨dx, fs, h1, h2, h3⟩ := q1
    exact ⟨a, C, dx, fs, _, u, rfl, h1, c, hc, h2, h3⟩
  | _ => exact q1.elim

/-! ### calls with a star -/
def uCallS1 (K : PySem.W.Frag) (sp : Sp) (E : XK) (te : TE) : TE := fun σ H Q => te σ H fun y H1 => match y with
  | .ref a => ∃ xs, (SqT K H1 a xs ∨ SqL K H1 a xs) ∧ sp xs H1 Q E
  | _ => False
theorem u_callS1 {X : Cx} {K : PySem.W.Frag} {CX : CXT} {k : Nat} {f : Addr} {sp : Sp} {E : XK} {x : PySem.Str} {e : Expr} {te : TE} {p pos sp_ : Pos} (hK : X.K = K) (F : FnR X.prog X.w X.K X.mg X.base CX k f sp) (hr : Room k X.A) (hg : Gl X x) (hm : X.mg x = some (.ref f)) (hk : PySem.W.keepIn X.K (.ref f) = true) (hx : Passes CX X E) (he : PE X e te)
    (hd : (x == ("__debug__" : PySem.Str)) = false := by decide) (hst : starEach [.Starred e sp_] X.env = [(true, eval e X.env)] := by rfl) : PE X (.Call (.Name x p) [.Starred e sp_] [] pos) (uCallS1 K sp E te) := by
  subst hK
  refine pe_wk (StX.pe_callS1 F hr hk hg hm hx (pe_cl he) hd hst) fun σ H Q q => ⟨_, q, fun v H1 q1 => ?_⟩
  cases v with
  | ref a =>
    obtain ⟨xs, h1, h2⟩ := q1
    exact ⟨a, xs, rfl, h1, h2⟩
  | _ => exact q1.elim
/-! ### in -/
section
variable {X : Cx} {K : PySem.W.Frag}
end

/-! ### dicts: copies, walks over keys -/
def rDictU : List V → Hp → VK → Prop := fun xs H Q => match xs with
  | [.ref a] => ∃ kvs, Rd H a (.dK kvs) ∧ ∀ p H1, New H p (.dK kvs) H1 → Q (.ref p) H1
  | _ => False
theorem c_dict {X : Cx} : CallR X (.type "dict") rDictU := by
  refine call_wk call_dictD fun xs H Q h => ?_
  unfold rDictU at h
  split at h
  · obtain ⟨kvs, h1, h2⟩ := h
    exact ⟨_, kvs, rfl, h1, fun p hp => h2 p _ ⟨hp, rfl⟩⟩
  · exact h.elim
def YKey (kvs : List (Key × V)) : Nat → Hp → V → Hp → Prop := fun i H x H' => H' = H ∧ ∃ k v, kvs[i]? = some (k, v) ∧ x = kV k
def wKeys (td : TE) : TW := fun σ H C => td σ H fun x H1 => match x with
  | .ref d => ∃ o kvs, H1 d = some (.frz o (.dK kvs)) ∧ C kvs.length (fun H => H d = some (.frz o (.dK kvs))) (YKey kvs) H1
  | _ => False
theorem piu_keys {X : Cx} {tg e : Expr} {td : TE} (he : PE X e td) : PIU X tg e (wKeys td) := by
  refine piu_of (pi_keys (pe_cl he)) fun σ H C q => ⟨_, q, fun v H1 q1 => ?_⟩
  cases v with
  | ref d =>
    obtain ⟨o, kvs, h1, h2⟩ := q1
    exact ⟨d, o, rfl, Or.inl ⟨kvs, h1, _, _, _, walk_keys, h2⟩⟩
  | _ => exact q1.elim

/-! ### more methods of lists -/
def uMut1 (K : PySem.W.Frag) (to : TE) (t : TA) (r : List V → List V → (V → List V → Prop) → Prop) : TE := fun σ H Q => to σ H fun x H1 => match x with
  | .ref l => (∃ xs, SqL K H1 l xs) ∧ t σ H1 fun ys H2 => ∃ xs, H2 l = some (.lst xs) ∧ r xs ys fun y zs => ∀ H3, Chg H2 l (.lst zs) H3 → Q y H3
  | _ => False
def mPopAt : List V → List V → (V → List V → Prop) → Prop := fun xs ys k => match ys with
  | [.int i] => 0 ≤ i ∧ i < xs.length ∧ xs.length < 2 ^ 60 ∧ ∀ y, xs[i.toNat]? = some y → k y (xs.eraseIdx i.toNat)
  | _ => False
section
variable {X : Cx} {K : PySem.W.Frag} {o e : Expr} {es : List Expr} {to : TE} {t : TA} {apos cpos : Pos}
theorem u_popAt (hK : X.K = K) (ho : PE X o to) (ha : PA X (e :: es) t) (hb : attributeBase o "pop" X.env (eval o X.env) = eval o X.env := by rfl)
    (hfew : methodCallForm (e :: es).length (backTo cpos (starEach (e :: es) X.env)) (backToKw cpos (keywordEach [] X.env)) = true := by rfl) (hl : (apos.endLine == cpos.line) = true := by rfl)
    (hs : starEach (e :: es) X.env = (false, eval e X.env) :: starEach es X.env := by rfl) (hpl : (backTo cpos (starEach es X.env)).any (·.1) = false := by rfl) :
    PE X (.Call (.Attribute o "pop" apos) (e :: es) [] cpos) (uMut1 K to t mPopAt) := by
  subst hK
  refine pe_wk (pe_bm PySem.F.plainAttrs_list PySem.F.slot_list_pop PySem.F.type_list_pop mt_popAt (pe_cl ho) (pa_cl ha) hb hfew hl hs hpl) fun σ H Q q => ⟨_, q, fun x H1 q1 => ?_⟩
  cases x with
  | ref l =>
    obtain ⟨⟨xs, hx⟩, q2⟩ := q1
    refine ⟨Or.inl ⟨rfl, xs, hx⟩, _, q2, fun ys H2 ⟨xs, h1, h2⟩ => ?_⟩
    unfold mPopAt at h2
    split at h2
    · rename_i i _
      obtain ⟨i0, i1, i2, h3⟩ := h2
      have hl : i.toNat < xs.length := by omega
      refine ⟨l, xs, i, i.toNat, xs[i.toNat], rfl, rfl, h1, by omega, by omega, ?_, List.getElem?_eq_getElem hl, h3 _ (List.getElem?_eq_getElem hl) _ ⟨rfl⟩⟩
      have hneg : ¬ i < 0 := by omega
      show (if (0 ≤ (if i < 0 then i + xs.length else i) && (if i < 0 then i + xs.length else i) < xs.length) = true then some (if i < 0 then i + xs.length else i).toNat else none) = _
      rw [if_neg hneg, if_pos (by simp; exact ⟨i0, i1⟩)]
    · exact h2.elim
  | _ => exact q1.elim
end
end Ech

set_option maxHeartbeats 1000000
namespace Ech
open PySem PySem.Spec PyProof.Rows L2
open He (ga ma)

/-! ### tuples of ints -/
def TupAt (K : PySem.W.Frag) (G : Hp) (v : V) (d : List Int) : Prop := ∃ t, v = .ref t ∧ SqT K G t (d.map V.int)
theorem TupAt.up {K : PySem.W.Frag} {G G' : Hp} {v : V} {d : List Int} (x : Ex G G') (h : TupAt K G v d) : TupAt K G' v d := by
  obtain ⟨t, h1, h2⟩ := h
  exact ⟨t, h1, Evl.ex_t x h2⟩
theorem tups_up {K : PySem.W.Frag} {G G' : Hp} {vs : List V} {ds : List (List Int)} (x : Ex G G') (h : Paired (TupAt K G) vs ds) : Paired (TupAt K G') vs ds := paired_imp2 h fun _ _ _ z => z.up x
theorem paired_app {α β : Type} {R : α → β → Prop} : ∀ {as cs : List α} {bs ds : List β}, Paired R as bs → Paired R cs ds → Paired R (as ++ cs) (bs ++ ds)
  | _, _, _, _, .nil, h => h
  | _, _, _, _, .cons x t, h => .cons x (paired_app t h)
theorem paired_one {α β : Type} {R : α → β → Prop} {as : List α} {bs : List β} {a : α} {b : β} (h : Paired R as bs) (r : R a b) : Paired R (as ++ [a]) (bs ++ [b]) := paired_app h (.cons r .nil)
/-! ### links -/
def linksOf (n d : Int) (i : Nat) : List (List Int) := (List.range (n - d).toNat).map fun low : Nat => [(low : Int), (low : Int) + d, (i : Int)]
def linksTo (n : Int) (ds : List Int) (k : Nat) : List (List Int) := (List.range k).flatMap fun i => linksOf n (ds.getD i 0) i
def linksD (n : Int) (ds : List Int) : List (List Int) := EchS.isort (linksTo n ds ds.length)
theorem linksTo_succ (n : Int) (ds : List Int) (k : Nat) : linksTo n ds (k + 1) = linksTo n ds k ++ linksOf n (ds.getD k 0) k := by
  unfold linksTo
  rw [List.range_succ, List.flatMap_append]
  simp
theorem linksOf_len (n d : Int) (i : Nat) : (linksOf n d i).length = (n - d).toNat := by
  unfold linksOf
  rw [List.length_map, List.length_range]
theorem linksTo_len {n : Int} {ds : List Int} {m : Nat} (hm : ∀ d ∈ ds, (n - d).toNat ≤ m) : ∀ k, k ≤ ds.length → (linksTo n ds k).length ≤ k * m
  | 0, _ => by simp [linksTo]
  | k + 1, h => by
    rw [linksTo_succ, List.length_append, linksOf_len, Nat.succ_mul]
    have h1 := linksTo_len hm k (by omega)
    have h2 : (n - ds.getD k 0).toNat ≤ m := hm _ (by
      rw [List.getD_eq_getElem?_getD, List.getElem?_eq_getElem (show k < ds.length by omega)]
      exact List.getElem_mem _)
    omega
theorem linksTo_mem {n : Int} {ds : List Int} {l : List Int} : ∀ {k : Nat}, l ∈ linksTo n ds k → ∃ (low : Nat) (i : Nat), i < k ∧ (low : Int) < n - ds.getD i 0 ∧ l = [(low : Int), (low : Int) + ds.getD i 0, (i : Int)] := by
  intro k h
  unfold linksTo at h
  obtain ⟨i, hi, h⟩ := List.mem_flatMap.mp h
  unfold linksOf at h
  obtain ⟨low, hl, rfl⟩ := List.mem_map.mp h
  have := List.mem_range.mp hl
  exact ⟨low, i, List.mem_range.mp hi, by omega, rfl⟩
theorem linksD_mem {n : Int} {ds : List Int} {l : List Int} (h : l ∈ linksD n ds) : ∃ (low : Nat) (i : Nat), i < ds.length ∧ (low : Int) < n - ds.getD i 0 ∧ l = [(low : Int), (low : Int) + ds.getD i 0, (i : Int)] :=
  linksTo_mem ((EchS.isort_perm _).mem_iff.mp h)
theorem linksD_len (n : Int) (ds : List Int) : (linksD n ds).length = (linksTo n ds ds.length).length := (EchS.isort_perm _).length_eq
theorem linksTo_ne {n : Int} {ds : List Int} {k : Nat} : ∀ l ∈ linksTo n ds k, l ≠ [] := by
  intro l hl
  obtain ⟨low, i, _, _, rfl⟩ := linksTo_mem hl
  intro z
  cases z

/-! ### prices -/
def sumO (ps : List (Option Int)) : Option Int := if ps.all (·.isSome) then some ((ps.map fun x => x.getD 0).sum) else none
def linkPrice (tabs : List (List (List (Option Int)))) (ns : List Int) (l : List Int) : Option Int := entry (tabs.getD (l.getD 2 0).toNat []) (ns.getD (l.getD 0 0).toNat 0) (ns.getD (l.getD 1 0).toNat 0)
/-! ### wishes -/
abbrev Wish : Type := Int × List (Option Int)
def WishKV (K : PySem.W.Frag) (G : Hp) (kv : Key × V) (w : Wish) : Prop := kv.1 = .inl w.1 ∧ ∃ t, kv.2 = .ref t ∧ SqT K G t (w.2.map pV)
structure WishOk (L n : Int) (ws : List Wish) : Prop where
  each : ∀ w ∈ ws, 0 ≤ w.1 ∧ w.1 < n ∧ (w.2.length : Int) = L ∧ ∀ x ∈ w.2, ∀ i, x = some i → 0 ≤ i
  nodup : (ws.map (·.1)).Nodup
def wishPrice (ns : List Int) (w : Wish) : Option Int := w.2.getD (ns.getD w.1.toNat 0).toNat none
theorem WishKV.up {K : PySem.W.Frag} {G G' : Hp} {kv : Key × V} {w : Wish} (x : Ex G G') (h : WishKV K G kv w) : WishKV K G' kv w := by
  obtain ⟨h1, t, h2, h3⟩ := h
  exact ⟨h1, t, h2, Evl.ex_t x h3⟩
theorem wishes_up {K : PySem.W.Frag} {G G' : Hp} {kvs : List (Key × V)} {ws : List Wish} (x : Ex G G') (h : Paired (WishKV K G) kvs ws) : Paired (WishKV K G') kvs ws := paired_imp2 h fun _ _ _ z => z.up x
theorem wish_val {K : PySem.W.Frag} {G : Hp} : ∀ {kvs : List (Key × V)} {ws : List Wish} {i : Nat} {k : Key} {v : V}, Paired (WishKV K G) kvs ws → (ws.map (·.1)).Nodup → kvs[i]? = some (k, v) → valV kvs k = some v
  | _, _, 0, k, v, .cons h t, nd, e => by
    rename_i kv w kvs ws
    have e' : kv = (k, v) := Option.some.inj e
    subst e'
    unfold valV
    simp
  | _, _, i + 1, k, v, .cons h t, nd, e => by
    rename_i kv w kvs ws
    have e' : kvs[i]? = some (k, v) := e
    have nd' := List.nodup_cons.mp nd
    have ih := wish_val t nd'.2 e'
    obtain ⟨w', hw', h1, _⟩ := paired_at t e'
    have hne : ¬ (kv.1 = k) := by
      intro z
      rw [h.1] at z
      have h1' : k = Sum.inl w'.1 := h1
      rw [h1'] at z
      have z' : w.1 = w'.1 := Sum.inl.inj z
      exact nd'.1 (List.mem_map.mpr ⟨w', List.mem_of_getElem? hw', z'.symm⟩)
    rw [valV_neg hne]
    exact ih
  | _, _, 0, _, _, .nil, _, e => by cases e
  | _, _, _ + 1, _, _, .nil, _, e => by cases e
/-! ### tables of pairs -/
/-! ### a dict under lock -/
theorem ex_lock {G H : Hp} {d : Addr} {o : HO} (h : Ex G H) (hd : G d = none) : Ex G (upd H d o) := fun a u e => by rw [upd_ne (fun z => by rw [z, hd] at e; cases e)]; exact h a u e
theorem ex_unlock {H H1 : Hp} {d : Addr} {u f : HO} (hd : H d = some u) (x : Ex (upd H d f) H1) : Ex H (upd H1 d u) := fun a o e => by
  by_cases z : a = d
  · subst z
    rw [upd_same, ← hd]
    exact e
  · rw [upd_ne z]
    exact x a o (by rw [upd_ne z]; exact e)
theorem dget_key {H : Hp} {a : Addr} {kvs : List (Key × V)} {k : Key} {v : V} (e : Rd H a (.dK kvs)) (h : valV kvs k = some v) : DGet H a (kV k) (some v) := Or.inl ⟨kvs, k, e, rfl, h.symm⟩
end Ech

namespace Ech
open PySem PySem.Spec PyProof.Rows L2
open He (ga ma)

/-! ### operators of own classes -/
section
variable {X : Cx} {C f : Addr} {CX : CXT} {k : Nat} {ps : List PySem.Str} {sp : Sp} {E : XK}
end

/-! ### rows of tables in tuples -/
def RowT (K : PySem.W.Frag) (G : Hp) (w : V) (r : List (Option Int)) : Prop := ∃ t, w = V.ref t ∧ SqT K G t (r.map pV)
theorem RowT.up {K : PySem.W.Frag} {G G' : Hp} {w : V} {r : List (Option Int)} (x : Ex G G') (h : RowT K G w r) : RowT K G' w r := by
  obtain ⟨t, h1, h2⟩ := h
  exact ⟨t, h1, Evl.ex_t x h2⟩
/-! ### sums of tables -/
theorem paired_get {α β : Type} {R : α → β → Prop} : ∀ {as : List α} {bs : List β} {i : Nat} {b : β}, Paired R as bs → bs[i]? = some b → ∃ a, as[i]? = some a ∧ R a b
  | _, _, 0, _, .cons h _, e => ⟨_, rfl, by cases e; exact h⟩
  | _, _, i + 1, _, .cons _ t, e => paired_get (i := i) t e
  | _, _, 0, _, .nil, e => by cases e
  | _, _, _ + 1, _, .nil, e => by cases e
end Ech

namespace Ech
open PySem PySem.Spec PyProof.Rows L2
open He (ga ma)

/-! ### list(range(n)) -/
def uListRg (te : TE) : TE := fun σ H Q => te σ H fun x H1 => match x with
  | .int n => (0 ≤ n ∧ n ≤ 16777216) ∧ ∀ q H2, New H1 q (.lst ((List.range n.toNat).map fun i : Nat => V.int i)) H2 → Q (.ref q) H2
  | _ => False
theorem u_listRg {X : Cx} {a : Expr} {ta : TE} {p pos p2 pos2 : Pos} (hc : X.calm = true) (hg : Gl X "list") (hm : X.mg "list" = none) (hg2 : Gl X "range") (hm2 : X.mg "range" = none) (ha : PE X a ta)
    (na : starEach [a] X.env = (false, eval a X.env) :: starEach [] X.env := by rfl) (nb : starEach [.Call (.Name "range" p2) [a] [] pos2] X.env = (false, eval (.Call (.Name "range" p2) [a] [] pos2) X.env) :: starEach [] X.env := by rfl) :
    PE X (.Call (.Name "list" p) [.Call (.Name "range" p2) [a] [] pos2] [] pos) (uListRg ta) := by
  refine pe_wk (pe_listRg hc hg hm (prg_1 hg2 hm2 (pe_cl ha) na) nb) fun σ H Q q => ⟨_, q, fun x H1 q1 => ?_⟩
  cases x with
  | int n =>
    obtain ⟨⟨h0, h1⟩, h2⟩ := q1
    refine ⟨n, rfl, RgOk.of_le (by decide) h1 (by decide) h0, fun q hq => ?_⟩
    have e : rgV 0 n = (List.range n.toNat).map fun i : Nat => V.int i := by
      unfold rgV
      rw [Int.sub_zero]
      refine List.map_congr_left fun i _ => ?_
      rw [Int.zero_add]
    rw [e]
    exact h2 q _ ⟨hq, rfl⟩
  | _ => exact q1.elim

/-! ### repr of wishes -/
/-! ### lists of options, of texts -/
theorem strOk_of (s : String) : PyData.strOk (Str.ofString s) = true := by
  unfold PyData.strOk
  rw [Str.ofString_eq_toList]
  rw [Array.all_eq_true_iff_forall_mem]
  intro x hx
  have hx' : x ∈ s.toList.map Char.toNat := by simpa using hx
  obtain ⟨c, _, rfl⟩ := List.mem_map.mp hx'
  have h := c.valid
  have h2 : c.toNat < 0x110000 := by
    rcases h with h | ⟨_, h⟩
    · exact Nat.lt_trans h (by decide)
    · exact h
  exact decide_eq_true h2
theorem strOk_pD (x : Option Int) : PyData.strOk (pD x).shown = true := by
  cases x with
  | none => exact strOk_of "None"
  | some i => exact strOk_of (toString i)
end Ech

namespace Ech
open PySem PySem.Spec PySem.Calls PyProof.Rows L2
open PySem (Draws)

/-! ### list(zip(*xs)) -/
section
variable {X : Cx} {K : PySem.W.Frag} {e : Expr} {te : TE} {sp_ p p2 pos pos2 : Pos}
end

/-! ### for x in zip(a, b), two tuples: each item a tuple of its own -/
def ZN (z TI TO i1 i2 a b : Addr) (i : Nat) (h : Heap) : Prop := (∃ f0 f1, ZipF h z f0 f1 TI TO ∧ (f0 = .none ∨ ∃ (T : Addr) (f : Bool), f0 = rawInt T ∧ f1 = .bool f)) ∧ IsPair h TI (.ref i1) (.ref i2) ∧ (∃ x y, IsPair h TO x y) ∧ h.IsTupleIter i1 a i ∧ h.IsTupleIter i2 b i
theorem ZN.type {z TI TO i1 i2 a b : Addr} {i : Nat} {s : Shared} (h : ZN z TI TO i1 i2 a b i s.heap) : s.TypeIs (.ref z) "zip" := by
  obtain ⟨⟨f0, f1, hz, _⟩, _⟩ := h
  exact ⟨_, hz, rfl⟩
end Ech

namespace Ech
open PySem PySem.Spec PySem.Calls PyProof.Rows L2 HT

/-! ### t[::-1], a tuple -/
section
variable {prog : Program} {w : World} {A : Around} {E : Value → Shared → Prop} {s : Shared}
end
end Ech

namespace Ech
open PySem PySem.Spec PyProof.Rows L2

/-! ### least prices -/
def lessO : Option Int → Option Int → Bool
  | none, _ => false
  | some _, none => true
  | some a, some b => decide (a < b)
def minO (f p : Option Int) : Option Int := if lessO p f then p else f
def leastO (xs : List (Option Int)) : Option Int := xs.foldl minO none
theorem minO_ok {f p : Option Int} (h1 : ∀ i, f = some i → 0 ≤ i) (h2 : ∀ i, p = some i → 0 ≤ i) : ∀ i, minO f p = some i → 0 ≤ i := by
  intro i e
  unfold minO at e
  split at e
  · exact h2 i e
  · exact h1 i e
theorem foldl_ok : ∀ (xs : List (Option Int)) (f : Option Int), (∀ i, f = some i → 0 ≤ i) → (∀ x ∈ xs, ∀ i, x = some i → 0 ≤ i) → ∀ i, xs.foldl minO f = some i → 0 ≤ i
  | [], _, h, _ => h
  | x :: xs, f, h, hx => foldl_ok xs _ (minO_ok h (hx x List.mem_cons_self)) fun y hy => hx y (List.mem_cons_of_mem _ hy)
theorem leastO_ok {xs : List (Option Int)} (h : ∀ x ∈ xs, ∀ i, x = some i → 0 ≤ i) : ∀ i, leastO xs = some i → 0 ≤ i := foldl_ok xs none (fun _ e => by cases e) h
/-! ### the lesser of two tables -/
def or2 (a b : Option Int) : Option Int := leastO [a, b]
def orRow (r s : List (Option Int)) : List (Option Int) := List.zipWith or2 r s
def orRows (A B : List (List (Option Int))) : List (List (Option Int)) := List.zipWith orRow A B
theorem orRow_len {r s : List (Option Int)} (h : r.length = s.length) : (orRow r s).length = r.length := by unfold orRow; rw [List.length_zipWith, h, Nat.min_self]
theorem orRows_len {A B : List (List (Option Int))} (h : A.length = B.length) : (orRows A B).length = A.length := by unfold orRows; rw [List.length_zipWith, h, Nat.min_self]
theorem zw_mem {α β γ : Type} {f : α → β → γ} {as : List α} {bs : List β} {c : γ} (h : c ∈ List.zipWith f as bs) : ∃ a ∈ as, ∃ b ∈ bs, c = f a b := by
  obtain ⟨i, hi, rfl⟩ := List.mem_iff_getElem.mp h
  rw [List.length_zipWith] at hi
  rw [List.getElem_zipWith]
  exact ⟨_, List.getElem_mem (by omega), _, List.getElem_mem (by omega), rfl⟩
theorem orRows_sq {A B : List (List (Option Int))} (h : A.length = B.length) (hA : SqR A) (hB : SqR B) : SqR (orRows A B) := by
  intro r hr
  obtain ⟨a, ha, b, hb, rfl⟩ := zw_mem hr
  rw [orRows_len h, orRow_len (by rw [hA a ha, hB b hb]; exact h), hA a ha]
theorem orRows_ok {A B : List (List (Option Int))} (hA : ∀ r ∈ A, ∀ x ∈ r, ∀ i, x = some i → 0 ≤ i) (hB : ∀ r ∈ B, ∀ x ∈ r, ∀ i, x = some i → 0 ≤ i) : ∀ r ∈ orRows A B, ∀ x ∈ r, ∀ i, x = some i → 0 ≤ i := by
  intro r hr x hx i e
  obtain ⟨a, ha, b, hb, rfl⟩ := zw_mem hr
  obtain ⟨y, hy, z, hz, rfl⟩ := zw_mem hx
  refine leastO_ok (xs := [y, z]) (fun w hw => ?_) i e
  rcases List.mem_cons.mp hw with rfl | hw
  · exact hA a ha _ hy
  · rw [List.mem_singleton.mp hw]
    exact hB b hb _ hz
/-! ### turned tables -/
def turnRows (A : List (List (Option Int))) : List (List (Option Int)) := (List.range A.length).map fun j => A.map fun r => r.getD j none
theorem turnRows_len (A : List (List (Option Int))) : (turnRows A).length = A.length := by unfold turnRows; rw [List.length_map, List.length_range]
theorem turnRows_sq (A : List (List (Option Int))) : SqR (turnRows A) := by
  intro r hr
  obtain ⟨j, hj, rfl⟩ := List.mem_map.mp hr
  rw [List.length_map, turnRows_len]
theorem turnRows_ok {A : List (List (Option Int))} (hA : ∀ r ∈ A, ∀ x ∈ r, ∀ i, x = some i → 0 ≤ i) : ∀ r ∈ turnRows A, ∀ x ∈ r, ∀ i, x = some i → 0 ≤ i := by
  intro r hr x hx i e
  obtain ⟨j, hj, rfl⟩ := List.mem_map.mp hr
  obtain ⟨q, hq, rfl⟩ := List.mem_map.mp hx
  rw [List.getD_eq_getElem?_getD] at e
  cases h : q[j]? with
  | none => rw [h] at e; cases e
  | some y =>
    rw [h] at e
    exact hA q hq y (List.mem_of_getElem? h) i e
/-! ### tables composed -/
end Ech

namespace Ech
open PySem PySem.Spec PyProof.Rows L2
/-! entries -/
/-! prices of a song -/
end Ech

namespace Ech
open PySem PySem.Spec PyProof.Rows L2
open He (ga ma)

/-! ### x != y, where the class tells == alone -/
section
variable {prog : Program} {w : World} {A : Around} {E : Value → Shared → Prop} {s : Shared} {K : PySem.W.Frag} {x C L f : Addr} {h₀ : Heap} {m : PySem.Str → Option Value} {ox : Obj} {od : Option Obj} {b : Value}
end
section
variable {X : Cx} {C f : Addr} {CX : CXT} {k : Nat} {ps : List PySem.Str} {sp : Sp} {E : XK}
end
/-! ### C.m(e, ..), m a classmethod -/
end Ech

namespace Ech
open PySem PySem.Spec PyProof.Rows L2

/-! ### prices below a number tell a price -/
def below (a : Option Int) (z : Int) : Prop := ∃ i, a = some i ∧ i ≤ z
/-! ### entries of tables -/
def en (A : List (List (Option Int))) (i j : Nat) : Option Int := (A.getD i []).getD j none
structure Tn (n : Nat) (A : List (List (Option Int))) : Prop where
  len : A.length = n
  sq : SqR A
theorem Tn.or {n : Nat} {A B : List (List (Option Int))} (hA : Tn n A) (hB : Tn n B) : Tn n (orRows A B) := ⟨by rw [orRows_len (hA.len.trans hB.len.symm)]; exact hA.len, orRows_sq (hA.len.trans hB.len.symm) hA.sq hB.sq⟩
theorem Tn.turn {n : Nat} {A : List (List (Option Int))} (hA : Tn n A) : Tn n (turnRows A) := ⟨by rw [turnRows_len]; exact hA.len, turnRows_sq A⟩
def zeroRows (n : Nat) : List (List (Option Int)) := List.replicate n (List.replicate n (some 0))
theorem zeroRows_len (n : Nat) : (zeroRows n).length = n := by unfold zeroRows; rw [List.length_replicate]
theorem Tn.zero (n : Nat) : Tn n (zeroRows n) := by
  refine ⟨zeroRows_len n, fun r hr => ?_⟩
  unfold zeroRows at hr
  rw [(List.mem_replicate.mp hr).2, List.length_replicate, zeroRows_len]
/-! ### what is asked of sums of tables -/
section
variable {n : Nat} {A B C : List (List (Option Int))} (hA : Tn n A) (hB : Tn n B) (hC : Tn n C)
end
/-! ### tables as data, told apart -/
/-! ### bounds -/
def AllE (P : Int → Prop) (A : List (List (Option Int))) : Prop := ∀ r ∈ A, ∀ x ∈ r, ∀ i, x = some i → P i
theorem AllE.turn {P : Int → Prop} {A : List (List (Option Int))} (hA : AllE P A) : AllE P (turnRows A) := by
  intro r hr x hx i e
  obtain ⟨j, hj, rfl⟩ := List.mem_map.mp hr
  obtain ⟨q, hq, rfl⟩ := List.mem_map.mp hx
  rw [List.getD_eq_getElem?_getD] at e
  cases h : q[j]? with
  | none => rw [h] at e; cases e
  | some y =>
    rw [h] at e
    exact hA q hq y (List.mem_of_getElem? h) i e
/-! ### rows in lists, by their entries -/
/-! ### tables of n letters in a heap -/
structure TbN (K : PySem.W.Frag) (G : Hp) (n : Nat) (a : Addr) (A : List (List (Option Int))) : Prop where
  t : TabAt K G a A
  n : Tn n A
  ok : ∀ r ∈ A, ∀ x ∈ r, ∀ i, x = some i → 0 ≤ i
theorem TbN.up {K : PySem.W.Frag} {G G' : Hp} {n : Nat} {a : Addr} {A : List (List (Option Int))} (h : TbN K G n a A) (x : Ex G G') : TbN K G' n a A := ⟨h.t.up x, h.n, h.ok⟩
theorem TbN.ins {K : PySem.W.Frag} {G : Hp} {n : Nat} {a : Addr} {A : List (List (Option Int))} (h : TbN K G n a A) : G a = some (.ins (He.ga K "Table") h.t.choose [("entries", h.t.choose_spec.choose)]) := h.t.choose_spec.choose_spec.1
theorem TbN.or {K : PySem.W.Frag} {G G' : Hp} {n : Nat} {a b x : Addr} {A B : List (List (Option Int))} (hA : TbN K G n a A) (hB : TbN K G n b B) (h : TabAt K G' x (orRows A B)) : TbN K G' n x (orRows A B) := ⟨h, hA.n.or hB.n, orRows_ok hA.ok hB.ok⟩
theorem TbN.neg {K : PySem.W.Frag} {G G' : Hp} {n : Nat} {a x : Addr} {A : List (List (Option Int))} (hA : TbN K G n a A) (h : TabAt K G' x (turnRows A)) : TbN K G' n x (turnRows A) := ⟨h, hA.n.turn, turnRows_ok hA.ok⟩
end Ech

namespace Ech
open PySem PySem.Spec PyProof.Rows L2
open He (ga ma)

/-! ### ranges that end far below 0 -/
theorem turn_long {P : Program} {w : World} {K : PySem.W.Frag} {tg : Expr} (it : Addr) (lo : Int) (n : Nat) : Turn P w K tg (Itr lo n) [it] it (fun i h => IsLongIter h it (lo + (i : Nat) * 1) ((n : Int) - (i : Nat)) 1) where
  mem := by simp
  obj := fun i h st b hb => by
    have e : b = it := by simpa using hb
    subst e
    exact ⟨_, st, fun v z => by
      have z' : Data.fields _ = Data.cell v := z
      cases z'⟩
  keep := fun i h h' st k => k it (by simp) _ st
  item := by
    intro X hP hw hK hc i pins s σ H E I hf st hg
    subst hP hw hK
    obtain ⟨f0, f1, f2, f3, f4, f5⟩ := hf it (by simp)
    have W := Walks.longrange (prog := X.prog) (w := X.w) (I.ok.hd hc) it lo 1 n
    refine W.item i s _ _ hg st fun v h' tk hv st' kk => ?_
    obtain ⟨t, rfl⟩ := hv
    have I1 : Inv X pins σ H { s with heap := h', toks := tk } := I.turned (fun b o hb e => kk b o (by simpa using hb) e) f0 f1 f3 f4 f5
    refine ⟨_, rfl, go_of (s := { s with heap := h', toks := tk }) (n := "longrange_iterator") st' rfl rfl (by decide) ⟨.int (lo + i), H, I1, ⟨t, ?_⟩, ⟨rfl, rfl⟩, st', fun b hb => (hf b hb).1⟩⟩
    rw [Int.mul_one]
  done := by
    intro X hP hw hK hc i pins s σ H E I hf st hg
    subst hP hw hK
    obtain ⟨f0, f1, f2, f3, f4, f5⟩ := hf it (by simp)
    exact wpAny_pyNext_long_end (I.ok.hd hc) st (by have : n ≤ i := hg; omega) fun h' eb => ⟨rfl, I.turned (t' := s.toks) (fun b o hb e => eb b o hb e) f0 f1 f3 f4 f5⟩
  self := fun _ _ _ _ _ st h => wpAny_pyIter_longiter st h
section
variable {X : Cx} {tg : Expr}
theorem range_itL {pins : List (Addr × Obj)} {σ : L2.St} {H : Hp} {s : Shared} {R : It → Hp → Prop} {E : Value → Shared → Prop} {lo hi : Int} {t u v : Tok} {tk : Nat} (I : Inv X pins σ H s) (hb : Builtin.Range.small lo hi 1 = false)
    (q : R (Itr lo (hi - lo).toNat) H) : wpAny (model X.prog X.w) X.A (pyIter (.ref s.heap.objs.size)) (PIE X pins σ tg R) E { s with heap := s.heap.push { cls := .type "range", data := .fields #[.int lo t, .int hi u, .int 1 v] }, toks := tk } := by
  refine wpAny_pyIter_longrange (IsRange.new ..) hb ?_
  have I1 : Inv X pins σ H { s with heap := s.heap.push { cls := .type "range", data := .fields #[.int lo t, .int hi u, .int 1 v] }, toks := tk } := I.kept fun b o e => Heap.get?_push_of_some _ e
  refine ⟨(s.heap.push { cls := .type "range", data := .fields #[.int lo t, .int hi u, .int 1 v] }).objs.size, [(s.heap.push { cls := .type "range", data := .fields #[.int lo t, .int hi u, .int 1 v] }).objs.size], _, _, H, rfl,
    I1.kept (t' := tk) fun b o e => Heap.get?_push_of_some _ e, turn_long _ lo (hi - lo).toNat, ?_, fun b hb => ?_, q⟩
  · have e1 : lo + ((0 : Nat) : Int) * 1 = lo := by simp
    have e2 : (((hi - lo).toNat : Nat) : Int) - ((0 : Nat) : Int) = Builtin.Range.rangeSize lo hi 1 := by rw [rangeSize_one]; split <;> omega
    show IsLongIter _ _ (lo + ((0 : Nat) : Int) * 1) ((((hi - lo).toNat : Nat) : Int) - ((0 : Nat) : Int)) 1
    rw [e1, e2]
    exact Heap.get?_push_size _ rfl
  · have e : b = (s.heap.push { cls := .type "range", data := .fields #[.int lo t, .int hi u, .int 1 v] }).objs.size := by simpa using hb
    subst e
    exact I1.fpOk (Nat.le_refl _) (I1.hok.fresh (Nat.le_refl _))
theorem range_itS {pins : List (Addr × Obj)} {σ : L2.St} {H : Hp} {s : Shared} {R : It → Hp → Prop} {E : Value → Shared → Prop} {lo hi : Int} {t u v : Tok} {tk : Nat} (I : Inv X pins σ H s) (hb : Builtin.Range.small lo hi 1 = true)
    (q : R (Itr lo (hi - lo).toNat) H) : wpAny (model X.prog X.w) X.A (pyIter (.ref s.heap.objs.size)) (PIE X pins σ tg R) E { s with heap := s.heap.push { cls := .type "range", data := .fields #[.int lo t, .int hi u, .int 1 v] }, toks := tk } := by
  refine wpAny_pyIter_range (IsRange.new ..) hb ?_
  have I1 : Inv X pins σ H { s with heap := s.heap.push { cls := .type "range", data := .fields #[.int lo t, .int hi u, .int 1 v] }, toks := tk } := I.kept fun b o e => Heap.get?_push_of_some _ e
  refine ⟨(s.heap.push { cls := .type "range", data := .fields #[.int lo t, .int hi u, .int 1 v] }).objs.size, [(s.heap.push { cls := .type "range", data := .fields #[.int lo t, .int hi u, .int 1 v] }).objs.size], _, _, H, rfl,
    I1.kept (t' := tk) fun b o e => Heap.get?_push_of_some _ e, turn_range _ lo (hi - lo).toNat, ?_, fun b hb => ?_, q⟩
  · have e1 : lo + ((0 : Nat) : Int) * 1 = lo := by simp
    have e2 : (((hi - lo).toNat : Nat) : Int) - ((0 : Nat) : Int) = Builtin.Range.rangeSize lo hi 1 := by rw [rangeSize_one]; split <;> omega
    show IsRangeIter _ _ (lo + ((0 : Nat) : Int) * 1) ((((hi - lo).toNat : Nat) : Int) - ((0 : Nat) : Int)) 1
    rw [e1, e2]
    exact Heap.get?_push_size _ rfl
  · have e : b = (s.heap.push { cls := .type "range", data := .fields #[.int lo t, .int hi u, .int 1 v] }).objs.size := by simpa using hb
    subst e
    exact I1.fpOk (Nat.le_refl _) (I1.hok.fresh (Nat.le_refl _))
theorem pi_rangeL {a : Expr} {ta : TA} {p pos : Pos} (hg : Gl X "range") (hm : X.mg "range" = none) (ha : PA X [a] ta) (hs : starEach [a] X.env = [(false, eval a X.env)] := by rfl) : PI X tg (.Call (.Name "range" p) [a] [] pos) (fun σ H R => ta σ H fun vs H1 => ∃ j : Int, vs = [.int j] ∧ R (Itr 0 j.toNat) H1) := by
  refine ⟨fun pins s σ H R I h => ?_⟩
  refine Call_ (ld_blt I hg hm boot_range (PyProof.Rows.callWith_type1 (thn (ha.run pos pins s σ H _ I h) fun us s1 ⟨vs, H1, I1, r1, q1⟩ => ?_) hs rfl))
  obtain ⟨j, e, q⟩ := q1
  subst e
  cases r1 with
  | cons r rr =>
    cases rr
    obtain ⟨t, rfl⟩ := r
    cases hb : Builtin.Range.small 0 j 1 with
    | false => exact call_range_1 (range_itL I1 hb (by simpa using q))
    | true => exact call_range_1 (range_itS I1 hb (by simpa using q))
end
def wRangeL (t : TA) : TW := fun σ H C => t σ H fun vs H1 => match vs with
  | [.int j] => True ∧ C j.toNat (fun _ => True) (YFn fun i => .int (0 + i)) H1
  | _ => False
theorem piu_rangeL {X : Cx} {tg e : Expr} {t : TA} {p pos : Pos} (hg : Gl X "range") (hm : X.mg "range" = none) (ha : PA X [e] t) (hs : starEach [e] X.env = [(false, eval e X.env)] := by rfl) : PIU X tg (.Call (.Name "range" p) [e] [] pos) (wRangeL t) := by
  refine piu_of (pi_rangeL hg hm (pa_cl ha) hs) fun σ H C q => ⟨_, q, fun vs H1 q1 => ?_⟩
  split at q1
  · exact ⟨_, rfl, _, _, _, walk_range, q1.2⟩
  · exact q1.elim

/-! ### texts -/
def istr (i : Int) : PySem.Str := toString i
section
variable {X : Cx} {o e : Expr} {to te : TE} {pos apos : Pos}
end
/-! ### texts of tables and songs -/
def pS : Option Int → PySem.Str
  | none => "-"
  | some i => istr i
def rowS (r : List (Option Int)) : PySem.Str := PySem.Txt.join " " (r.map pS)
def tabS (A : List (List (Option Int))) : PySem.Str := PySem.Txt.join " / " (A.map rowS)
def echoS (e : Lot) : PySem.Str := ((("echo " : PySem.Str) ++ istr e.1) ++ " ") ++ tabS e.2
def headS (L n : Int) : PySem.Str := ((("song " : PySem.Str) ++ istr L) ++ " ") ++ istr n
theorem join_len (sep : PySem.Str) (ys : List PySem.Str) : (PySem.Txt.join sep ys).length ≤ (ys.map (·.length)).sum + ys.length * sep.length := by
  have e : PySem.Txt.join sep ys = PySem.Str.join sep ys := PySem.StrLaws.glued_eq_join sep ys
  rw [e]
  exact PySem.StrLaws.join_length_le sep ys
theorem istr_len {i : Int} (h : i.natAbs < 10 ^ 40) : (istr i).length ≤ 41 := by
  have := PySem.int_text_length_le10 (k := 40) (by decide) h
  unfold istr
  rw [PySem.ofString_length]
  exact this
theorem sumN_le {α : Type} {f : α → Nat} {b : Nat} : ∀ {xs : List α}, (∀ x ∈ xs, f x ≤ b) → (xs.map f).sum ≤ xs.length * b
  | [], _ => by simp
  | x :: xs, h => by
    have h1 := h x List.mem_cons_self
    have h2 := sumN_le (xs := xs) fun y hy => h y (List.mem_cons_of_mem _ hy)
    rw [List.map_cons, List.sum_cons, List.length_cons, Nat.succ_mul]
    omega
theorem lens_le {ys : List PySem.Str} {b : Nat} (h : ∀ y ∈ ys, y.length ≤ b) : (ys.map (·.length)).sum ≤ ys.length * b := sumN_le h
def Low40 (A : List (List (Option Int))) : Prop := ∀ r ∈ A, ∀ x ∈ r, ∀ i, x = some i → i.natAbs < 10 ^ 40
theorem pS_len {x : Option Int} (h : ∀ i, x = some i → i.natAbs < 10 ^ 40) : (pS x).length ≤ 41 := by
  cases x with
  | none => decide
  | some i => exact istr_len (h i rfl)
theorem rowS_len {r : List (Option Int)} (h : ∀ x ∈ r, ∀ i, x = some i → i.natAbs < 10 ^ 40) (h5 : r.length ≤ 5) : (r.map pS |>.map (·.length)).sum + (r.map pS).length * (" " : PySem.Str).length ≤ 300 ∧ (rowS r).length ≤ 300 := by
  have h1 : ((r.map pS).map (·.length)).sum ≤ (r.map pS).length * 41 := lens_le fun y hy => by
    obtain ⟨x, hx, rfl⟩ := List.mem_map.mp hy
    exact pS_len (h x hx)
  have l1 : (r.map pS).length = r.length := List.length_map _
  have l2 : (" " : PySem.Str).length = 1 := by decide
  have h2 := join_len " " (r.map pS)
  rw [l2] at h2 ⊢
  rw [l1] at h1 h2 ⊢
  have h3 : ((r.map pS).map (·.length)).sum + r.length * 1 ≤ 300 := by omega
  exact ⟨h3, Nat.le_trans h2 h3⟩
theorem tabS_len {A : List (List (Option Int))} (h : Low40 A) (h5 : A.length ≤ 5) (hr : ∀ r ∈ A, r.length ≤ 5) : (A.map rowS |>.map (·.length)).sum + (A.map rowS).length * (" / " : PySem.Str).length ≤ 1600 ∧ (tabS A).length ≤ 1600 := by
  have h1 : ((A.map rowS).map (·.length)).sum ≤ (A.map rowS).length * 300 := lens_le fun y hy => by
    obtain ⟨r, hr', rfl⟩ := List.mem_map.mp hy
    exact (rowS_len (h r hr') (hr r hr')).2
  have l1 : (A.map rowS).length = A.length := List.length_map _
  have l2 : (" / " : PySem.Str).length = 3 := by decide
  have h2 := join_len " / " (A.map rowS)
  rw [l2] at h2 ⊢
  rw [l1] at h1 h2 ⊢
  have h3 : ((A.map rowS).map (·.length)).sum + A.length * 3 ≤ 1600 := by omega
  exact ⟨h3, Nat.le_trans h2 h3⟩
theorem echoS_len {e : Lot} (h0 : e.1.natAbs < 10 ^ 40) (h : Low40 e.2) (h5 : e.2.length ≤ 5) (hr : ∀ r ∈ e.2, r.length ≤ 5) : (echoS e).length ≤ 1700 := by
  have h1 := (tabS_len h h5 hr).2
  have h2 := istr_len h0
  have l1 : ("echo " : PySem.Str).length = 5 := by decide
  have l2 : (" " : PySem.Str).length = 1 := by decide
  unfold echoS
  rw [PySem.Str.length_append, PySem.Str.length_append, PySem.Str.length_append, l1, l2]
  omega
theorem headS_len {L n : Int} (hL : L.natAbs < 10 ^ 40) (hn : n.natAbs < 10 ^ 40) : (headS L n).length ≤ 100 := by
  have h1 := istr_len hL
  have h2 := istr_len hn
  have l1 : ("song " : PySem.Str).length = 5 := by decide
  have l2 : (" " : PySem.Str).length = 1 := by decide
  unfold headS
  rw [PySem.Str.length_append, PySem.Str.length_append, PySem.Str.length_append, l1, l2]
  omega
theorem songS_len {L n : Int} {es : List Lot} (hL : L.natAbs < 10 ^ 40) (hn : n.natAbs < 10 ^ 40) (h2 : es.length ≤ 2) (h : ∀ e ∈ es, (echoS e).length ≤ 1700) : ((headS L n :: es.map echoS).map (·.length)).sum + (headS L n :: es.map echoS).length * ("\n" : PySem.Str).length ≤ 5000 := by
  have h1 : ((es.map echoS).map (·.length)).sum ≤ (es.map echoS).length * 1700 := lens_le fun y hy => by
    obtain ⟨e, he, rfl⟩ := List.mem_map.mp hy
    exact h e he
  have l1 : (es.map echoS).length = es.length := List.length_map _
  have l2 : ("\n" : PySem.Str).length = 1 := by decide
  have h3 := headS_len hL hn
  rw [l2, List.map_cons, List.sum_cons, List.length_cons, l1]
  rw [l1] at h1
  omega
/-! ### songs that are equal -/
section
variable {X : Cx} {k : Nat} {K : PySem.W.Frag} {CX : CXT} {f : Addr} {ps : List PySem.Str} {E : XK}
end
/-! ### plain songs: tuples of letters, length and lots -/
def lotOf (e : Ec) : Lot := (e.1, e.2.2)
def turnLots (es : List Lot) : List Lot := es.map fun e => (e.1, turnRows e.2)
def PlainAt (K : PySem.W.Frag) (G : Hp) (v : V) (L n : Int) (es : List Lot) : Prop := ∃ a b ws, v = .ref a ∧ SqT K G a [.int L, .int n, .ref b] ∧ SqT K G b ws ∧ Paired (LotAt K G) ws es
theorem PlainAt.up {K : PySem.W.Frag} {G G' : Hp} {v : V} {L n : Int} {es : List Lot} (x : Ex G G') (h : PlainAt K G v L n es) : PlainAt K G' v L n es := by
  obtain ⟨a, b, ws, h1, h2, h3, h4⟩ := h
  exact ⟨a, b, ws, h1, Evl.ex_t x h2, Evl.ex_t x h3, paired_imp2 h4 fun _ _ _ z => z.up x⟩
structure TextOk (L n : Int) (es : List Lot) : Prop where
  l : L.natAbs < 10 ^ 40
  n : n.natAbs < 10 ^ 40
  few : es.length ≤ 2
  each : ∀ e ∈ es, e.1.natAbs < 10 ^ 40 ∧ Low40 e.2 ∧ e.2.length ≤ 5 ∧ ∀ r ∈ e.2, r.length ≤ 5
theorem TextOk.len {L n : Int} {es : List Lot} (h : TextOk L n es) : ((headS L n :: es.map echoS).map (·.length)).sum + (headS L n :: es.map echoS).length * ("\n" : PySem.Str).length ≤ 5000 :=
  songS_len h.l h.n h.few fun e he => echoS_len (h.each e he).1 (h.each e he).2.1 (h.each e he).2.2.1 (h.each e he).2.2.2
theorem ex_gr {G H H' : Hp} (hg : Ex G H) (x : Ex H H') : Gr G H G H' := ⟨x, ex_refl _, ex_trans hg x, fun _ _ => rfl⟩
theorem Low40.turn {A : List (List (Option Int))} (h : Low40 A) : Low40 (turnRows A) := AllE.turn (P := fun i => i.natAbs < 10 ^ 40) h
theorem ScoreOk.turn {L n : Int} {es : List Lot} (h : ScoreOk L n es) : ScoreOk L n (turnLots es) := by
  refine ⟨h.l1, h.l5, h.n1, h.n30, by unfold turnLots; rw [List.length_map]; exact h.few, fun e he => ?_, fun h2 => ?_⟩
  · obtain ⟨e0, he0, rfl⟩ := List.mem_map.mp he
    have := h.each e0 he0
    exact ⟨this.1, this.2.1, by show ((turnRows e0.2).length : Int) = L; rw [turnRows_len]; exact this.2.2.1, turnRows_sq _, turnRows_ok this.2.2.2.2⟩
  · unfold turnLots at h2
    rw [List.length_map] at h2
    have := h.sum h2
    unfold lotSum turnLots
    rw [List.map_map]
    exact this
/-! ### links with the rows of their tables -/
abbrev LinkC : Type := Int × Int × List (List (Option Int))
def LinkAt (K : PySem.W.Frag) (G : Hp) (w : V) (t : LinkC) : Prop := ∃ b r, w = .ref b ∧ SqT K G b [.int t.1, .int t.2.1, r] ∧ RowsAt K G r t.2.2
theorem LinkAt.up {K : PySem.W.Frag} {G G' : Hp} {w : V} {t : LinkC} (x : Ex G G') (h : LinkAt K G w t) : LinkAt K G' w t := by
  obtain ⟨b, r, h1, h2, h3⟩ := h
  exact ⟨b, r, h1, Evl.ex_t x h2, h3.up x⟩
end Ech

namespace Ech
open PySem PySem.Spec PyProof.Rows L2

/-! ### t.index(i) of ints in a tuple -/
section
variable {X : Cx} {o e : Expr} {to te : TE} {apos pos cpos : Pos}
end
/-! ### tuples of which it is known that they have no dict -/
def TupN (H : Hp) (a : Addr) (xs : List V) : Prop := ∃ o : Obj, o.dict = none ∧ H a = some (.frz o (.tup xs))
theorem TupN.sq {K : PySem.W.Frag} {H : Hp} {a : Addr} {xs : List V} (h : TupN H a xs) : SqT K H a xs := h.elim fun o z => Or.inl (Or.inr ⟨o, z.2⟩)
theorem TupN.up {H H' : Hp} {a : Addr} {xs : List V} (x : Ex H H') (h : TupN H a xs) : TupN H' a xs := h.elim fun o z => ⟨o, z.1, x _ _ z.2⟩
section
variable {X : Cx} {o e : Expr} {to te : TE} {apos pos cpos : Pos}
end
/-! ### len(set(t)) of different ints in a tuple -/
/-! ### new names of letters -/
def ixOf : List Int → Int → Nat
  | [], _ => 0
  | a :: l, z => if a = z then 0 else ixOf l z + 1
theorem ix_ok : ∀ {ns : List Int} {z : Int}, z ∈ ns → ns[ixOf ns z]? = some z ∧ ∀ m, m < ixOf ns z → ns[m]? ≠ some z
  | a :: l, z, h => by
    unfold ixOf
    by_cases e : a = z
    · rw [if_pos e]
      exact ⟨by rw [e]; rfl, fun m hm => absurd hm (Nat.not_lt_zero _)⟩
    · rw [if_neg e]
      have hz : z ∈ l := (List.mem_cons.mp h).resolve_left fun w => e w.symm
      obtain ⟨h1, h2⟩ := ix_ok hz
      refine ⟨h1, fun m hm => ?_⟩
      cases m with
      | zero =>
        intro w
        exact e (Option.some.inj w)
      | succ m => exact h2 m (by omega)
theorem ix_uniq {ns : List Int} {z : Int} {j : Nat} (nd : ns.Nodup) (h : ns[j]? = some z) : ixOf ns z = j := by
  have hz := List.mem_of_getElem? h
  have h1 := (ix_ok hz).1
  obtain ⟨hj, ej⟩ := List.getElem?_eq_some_iff.mp h
  obtain ⟨hi, ei⟩ := List.getElem?_eq_some_iff.mp h1
  have pw := List.pairwise_iff_getElem.mp nd
  rcases Nat.lt_trichotomy (ixOf ns z) j with lt | eq | gt
  · exact absurd (ei.trans ej.symm) (pw _ _ hi hj lt)
  · exact eq
  · exact absurd (ej.trans ei.symm) (pw _ _ hj hi gt)
structure Nm (L : Nat) (ns : List Int) : Prop where
  len : ns.length = L
  nd : ns.Nodup
  lt : ∀ x ∈ ns, 0 ≤ x ∧ x < L
  on : ∀ c : Nat, c < L → (c : Int) ∈ ns
theorem Nm.ix {L : Nat} {ns : List Int} (h : Nm L ns) {c : Nat} (hc : c < L) : ixOf ns c < L := by
  have := (List.getElem?_eq_some_iff.mp (ix_ok (h.on c hc)).1).1
  rw [h.len] at this
  exact this
theorem Nm.at {L : Nat} {ns : List Int} (h : Nm L ns) {i : Nat} (hi : i < L) : ∃ c : Nat, c < L ∧ ns[i]? = some (c : Int) ∧ ns.getD i 0 = c ∧ ixOf ns c = i := by
  have hi' : i < ns.length := by rw [h.len]; exact hi
  have hx := h.lt _ (List.getElem_mem hi')
  refine ⟨ns[i].toNat, by omega, ?_, ?_, ?_⟩
  · rw [List.getElem?_eq_getElem hi', Int.toNat_of_nonneg hx.1]
  · rw [List.getD_eq_getElem?_getD, List.getElem?_eq_getElem hi', Int.toNat_of_nonneg hx.1]
    rfl
  · exact ix_uniq h.nd (by rw [List.getElem?_eq_getElem hi', Int.toNat_of_nonneg hx.1])
def invL (L : Nat) (ns : List Int) : List Int := (List.range L).map fun c : Nat => ((ixOf ns c : Nat) : Int)
theorem invL_len (L : Nat) (ns : List Int) : (invL L ns).length = L := by unfold invL; rw [List.length_map, List.length_range]
theorem Nm.inv {L : Nat} {ns : List Int} (h : Nm L ns) : Nm L (invL L ns) := by
  refine ⟨invL_len L ns, ?_, fun x hx => ?_, fun c hc => ?_⟩
  · unfold invL
    rw [List.nodup_iff_pairwise_ne, List.pairwise_map]
    refine List.Pairwise.imp_of_mem (fun {a b} ha hb hab e => hab ?_) (List.nodup_iff_pairwise_ne.mp List.nodup_range)
    have e' : ixOf ns a = ixOf ns b := by exact_mod_cast e
    have h1 := (ix_ok (h.on a (List.mem_range.mp ha))).1
    have h2 := (ix_ok (h.on b (List.mem_range.mp hb))).1
    rw [e', h2] at h1
    exact_mod_cast (Option.some.inj h1).symm
  · unfold invL at hx
    obtain ⟨c, hc, rfl⟩ := List.mem_map.mp hx
    have := h.ix (List.mem_range.mp hc)
    omega
  · obtain ⟨d, hd, _, _, e⟩ := h.at hc
    unfold invL
    exact List.mem_map.mpr ⟨d, List.mem_range.mpr hd, by rw [e]⟩
def nameRow (ns : List Int) (A : List (List (Option Int))) (c : Nat) : List (Option Int) := (List.range A.length).map fun d : Nat => en A (ixOf ns c) (ixOf ns d)
def nameRows (ns : List Int) (A : List (List (Option Int))) : List (List (Option Int)) := (List.range A.length).map (nameRow ns A)
theorem nameRow_len (ns : List Int) (A : List (List (Option Int))) (c : Nat) : (nameRow ns A c).length = A.length := by unfold nameRow; rw [List.length_map, List.length_range]
theorem nameRows_len (ns : List Int) (A : List (List (Option Int))) : (nameRows ns A).length = A.length := by unfold nameRows; rw [List.length_map, List.length_range]
theorem nameRows_sq (ns : List Int) (A : List (List (Option Int))) : SqR (nameRows ns A) := by
  intro r hr
  obtain ⟨c, _, rfl⟩ := List.mem_map.mp hr
  rw [nameRow_len, nameRows_len]
theorem en_mem {A : List (List (Option Int))} {i j : Nat} {v : Int} (h : en A i j = some v) : ∃ r ∈ A, some v ∈ r := by
  unfold en at h
  rw [List.getD_eq_getElem?_getD] at h
  cases z : (A.getD i [])[j]? with
  | none => rw [z] at h; cases h
  | some y =>
    rw [z] at h
    have h' : y = some v := h
    have hy := List.mem_of_getElem? z
    rw [List.getD_eq_getElem?_getD] at hy
    cases z2 : A[i]? with
    | none => rw [z2] at hy; cases hy
    | some r =>
      rw [z2] at hy
      exact ⟨r, List.mem_of_getElem? z2, h' ▸ hy⟩
theorem AllE.name {P : Int → Prop} {ns : List Int} {A : List (List (Option Int))} (h : AllE P A) : AllE P (nameRows ns A) := by
  intro r hr x hx i e
  obtain ⟨c, _, rfl⟩ := List.mem_map.mp hr
  obtain ⟨d, _, rfl⟩ := List.mem_map.mp hx
  obtain ⟨r, h1, h2⟩ := en_mem e
  exact h r h1 _ h2 i rfl
def nameLots (ns : List Int) (es : List Lot) : List Lot := es.map fun e => (e.1, nameRows ns e.2)
theorem ScoreOk.name {L n : Int} {es : List Lot} {ns : List Int} (h : ScoreOk L n es) : ScoreOk L n (nameLots ns es) := by
  refine ⟨h.l1, h.l5, h.n1, h.n30, by unfold nameLots; rw [List.length_map]; exact h.few, fun e he => ?_, fun h2 => ?_⟩
  · obtain ⟨e0, he0, rfl⟩ := List.mem_map.mp he
    have := h.each e0 he0
    exact ⟨this.1, this.2.1, by show ((nameRows ns e0.2).length : Int) = L; rw [nameRows_len]; exact this.2.2.1, nameRows_sq _ _, AllE.name (P := (0 ≤ ·)) this.2.2.2.2⟩
  · unfold nameLots at h2
    rw [List.length_map] at h2
    have := h.sum h2
    unfold lotSum nameLots
    rw [List.map_map]
    exact this
end Ech

namespace Ech
open PySem PySem.Spec PyProof.Rows L2
open He (ga ma)

/-! ### own error classes over ValueError: what the written part says, as a test -/
theorem oexB_ok {K : PySem.W.Frag} {C : Addr} (h : oexB K C = true) : OexC K C := by
  obtain ⟨h1, h⟩ := He.ba h
  obtain ⟨h2, h⟩ := He.ba h
  obtain ⟨h3, h⟩ := He.ba h
  obtain ⟨h4, h5⟩ := He.ba h
  refine ⟨?_, He.eqO_ok h2, of_decide_eq_true h3, of_decide_eq_true h4, h5⟩
  unfold exoB at h1
  split at h1
  · rename_i dd cd sl hl
    split at h1
    · rename_i C' bm k0 k1 k2 k3 n k5 hm hsl
      obtain ⟨h1, r⟩ := He.ba h1
      obtain ⟨h1, hd⟩ := He.ba h1
      obtain ⟨h1, nd⟩ := He.ba h1
      obtain ⟨e1, e2⟩ := He.ba h1
      obtain ⟨nm, bs, mro, nsp, qn, hasD, sn, sub, ab, col, del⟩ := cd
      have e1' : C' = C := eq_of_beq e1
      have e2' : n = "ValueError.__new__" := eq_of_beq e2
      have hm' : mro = .ref C' :: bm := hm
      have hd' : hasD = true := hd
      have nd' : del = false := by
        have : (!del) = true := nd
        simpa using this
      have hsl' : sl = #[k0, k1, k2, k3, some (.builtin n), k5] := Array.toList_inj.mp hsl
      subst e1' e2' hm' hd' nd' hsl'
      exact ⟨nm, qn, nsp, bs, bm, sn, sub, ab, col, dd, k0, k1, k2, k3, k5, hl, r⟩
    · cases h1
  · cases h1
/-! ### a caught error as an object of the heap -/
def ExH (a : Addr) (cls : Value) (d : Option Addr) : HO := .ext fun h => ∃ oe vs, h.get? a = some oe ∧ Zc cls d oe ∧ oe.data = .fields vs
theorem exh_ok {P : Program} {w : World} {H : Hp} {h : Heap} {a : Addr} {cls : Value} {d : Option Addr} {oe : Obj} {vs : Array Value} (h1 : h.get? a = some oe) (h2 : Zc cls d oe) (h3 : oe.data = .fields vs) : ObjOk P w H h a (ExH a cls d) :=
  ⟨⟨oe, vs, h1, h2, h3⟩, ⟨oe, h1⟩, fun g1 g2 ⟨o, v, k1, k2, k3⟩ st => ⟨o, v, st o k1, k2, k3⟩⟩
section
variable {X : Cx} {pins : List (Addr × Obj)} {σ : L2.St} {H : Hp} {s : Shared} {a : Addr} {oe : Obj} {vs : Array Value} {cls : Value} {d : Option Addr}
theorem exh_at (I : Inv X pins σ H s) (h : H a = some (ExH a cls d)) : ∃ oe vs, s.heap.get? a = some oe ∧ Zc cls d oe ∧ oe.data = .fields vs := by
  have x : ObjOk X.prog X.w H s.heap a (.ext fun h => ∃ oe vs, h.get? a = some oe ∧ Zc cls d oe ∧ oe.data = .fields vs) := I.hok a _ h
  exact x.1
theorem inv_adopt (I : Inv X pins σ H s) (ha : s.heap.get? a = some oe) (hz : Zc cls d oe) (hd : oe.data = .fields vs) (na : H a = none) (nL : a ≠ X.env.locals) (n0 : X.s_0.heap.get? a = none) (np : ∀ p ∈ X.pn ++ pins, p.1 ≠ a) : Inv X pins σ (upd H a (ExH a cls d)) s := by
  have ne : ∀ b u, H b = some u → b ≠ a := fun b u e z => by rw [z, na] at e; cases e
  refine ⟨I.ok, I.os, I.bare, ⟨I.base.keep, I.base.slot, fun b o e n hx => ?_, I.base.there, fun b xs e => ?_, fun b o u e => ?_, fun b ps e => ?_⟩, I.loc, I.cell, ?_, fun y c e => ?_, fun p hp => ?_, fun b o e => ?_, I.len⟩
  · rw [upd_ne (fun z => by rw [z, n0] at e; cases e)]
    exact I.base.free b o e n hx
  · have := I.base.tups b xs e
    rw [upd_ne (ne _ _ this)]
    exact this
  · have := I.base.frzs b o u e
    rw [upd_ne (ne _ _ this)]
    exact this
  · obtain ⟨more, this⟩ := I.base.tbls b ps e
    exact ⟨more, by rw [upd_ne (ne _ _ this)]; exact this⟩
  · rw [upd_ne nL.symm]
    exact I.free
  · rw [upd_ne (fun z => ?_)]
    · exact I.freeC y c e
    · obtain ⟨v, o, ho, hc⟩ := I.cell y c e
      rw [z, ha] at ho
      cases ho
      rw [hd] at hc
      cases hc
  · obtain ⟨p1, p2, p3, p4, p5⟩ := I.pin p hp
    exact ⟨p1, by rw [upd_ne (np p hp)]; exact p2, p3, p4, p5⟩
  · by_cases hb : b = a
    · subst hb
      rw [upd_same] at e
      cases e
      exact exh_ok ha hz hd
    · rw [upd_ne hb] at e
      exact (I.hok b o e).stay (fun _ _ _ z => z) (fun c hc => by rw [upd_ne (ne _ _ hc)]; exact hc) fun c xs hc => by rw [upd_ne (ne _ _ hc)]; exact hc
end
def wTake (K : PySem.W.Frag) (c : Value) (i : Nat) (ts : TS) (Wout : WX) (D : Ends) : WX := fun cls d σ H =>
  ∃ b, PySem.W.exmOne K cls c = some b ∧ (b = true → ∀ a, H a = none → ts { nx := fun σ' H' => D.nx (σ'.set i none) H', rt := D.rt, bk := fun σ' H' => D.bk (σ'.set i none) H', ct := fun σ' H' => D.ct (σ'.set i none) H' } (σ.set i (some (.ref a))) (upd H a (ExH a cls d))) ∧
    (b = false → Wout cls d σ H)
section
variable {X : Cx} {x n : PySem.Str} {c : Value} {i : Nat} {body suite : List Stmt} {b₀ : Stmt} {np pos pos' : Pos} {tb : WX → TS} {ts : TS} {Wout : WX}
end
/-! ### fields of such an error, isinstance -/
theorem exfB_ok {K : PySem.W.Frag} {C : Addr} (h : exfB K C = true) : ExcC K C := by
  obtain ⟨h1, h⟩ := He.ba h
  obtain ⟨h2, h⟩ := He.ba h
  obtain ⟨h3, h⟩ := He.ba h
  obtain ⟨h4, h⟩ := He.ba h
  obtain ⟨h5, h⟩ := He.ba h
  obtain ⟨h6, h⟩ := He.ba h
  obtain ⟨h7, h8⟩ := He.ba h
  exact ⟨He.eqO_ok h1, of_decide_eq_true h2, of_decide_eq_true h3, h4, He.eqO_ok h5, He.eqO_ok h6, of_decide_eq_true h7, of_decide_eq_true h8⟩
def uXf (C : Addr) (n : PySem.Str) (te : TE) : TE := fun σ H Q => te σ H fun x H1 => match x with
  | .ref a => ∃ d fs v, H1 a = some (ExH a (.ref C) (some d)) ∧ H1 d = some (.xd fs) ∧ fs.lookup n = some v ∧ Q v H1
  | _ => False
theorem u_xf {X : Cx} {C : Addr} {e : Expr} {te : TE} {pos : Pos} {n : PySem.Str} (T : ExcC X.K C) (hno : PySem.W.findIn X.K (.ref C) n = some none) (he : PE X e te) (hb : attributeBase e n X.env (eval e X.env) = eval e X.env := by rfl) : PE X (.Attribute e n pos) (uXf C n te) := by
  refine ⟨fun pins s σ H Q I h => ?_⟩
  refine attr_of hb (thn (he.run pins s σ H _ I h) fun u s1 ⟨x, H1, I1, rx, q1⟩ => ?_)
  cases x with
  | ref a =>
    obtain ⟨dd, fs, v, ha, hd, hv, q⟩ := q1
    cases rx
    obtain ⟨oe, vs, g1, g2, g3⟩ := exh_at I1 ha
    have hx : ObjOk X.prog X.w H1 s1.heap dd (.xd fs) := I1.hok dd _ hd
    obtain ⟨mA, hns, hr⟩ := hx
    obtain ⟨od, ho, hl⟩ := lookIn_ns hns
    obtain ⟨u, hu, ru⟩ := RelO.some_of (v := v) (o := mA n) (by rw [← hv]; exact hr n)
    have J : PySem.W.InstAt s1.heap a oe C (some od) := ⟨g1, g2.1, by unfold PySem.W.notCls; rw [g3] <;> rfl, by rw [g2.2]; exact ho⟩
    exact HandSPX.exc_get I1.kIn J T.hg T.hk T.hs (PySem.W.findObj_own T.hd hno rfl (by rw [hl, hu])) (handed_of ru) ⟨v, H1, I1.tok _, ru, q⟩
  | _ => exact q1.elim
def rIsH (K : PySem.W.Frag) (C : Addr) : List V → Hp → VK → Prop := fun xs H Q => match xs with
  | [.ref a, c] => ∃ d fs cv b, H a = some (ExH a (.ref C) (some d)) ∧ H d = some (.xd fs) ∧ (∀ u, RelV c u → u = cv) ∧ PySem.W.kitOne K (.ref C) cv = some b ∧ Q (.bl b) H
  | _ => False
theorem c_isH {X : Cx} {C : Addr} {K : PySem.W.Frag} (hK : X.K = K) (T : ExcC K C) : CallR X (.builtin "isinstance") (rIsH K C) := by
  subst hK
  intro pins s σ H xs us Q I r h
  unfold rIsH at h
  split at h
  · rename_i a c
    obtain ⟨dd, fs, cv, b, ha, hd, hcv, e, q⟩ := h
    cases r with
    | cons rx rr =>
      cases rr with
      | cons rt rr =>
        cases rr
        cases rx
        have ec := hcv _ rt
        subst ec
        obtain ⟨oe, vs, g1, g2, g3⟩ := exh_at I ha
        have hx : ObjOk X.prog X.w H s.heap dd (.xd fs) := I.hok dd _ hd
        obtain ⟨mA, hns, hr⟩ := hx
        obtain ⟨od, ho, hl⟩ := lookIn_ns hns
        have J : PySem.W.InstAt s.heap a oe C (some od) := ⟨g1, g2.1, by unfold PySem.W.notCls; rw [g3] <;> rfl, by rw [g2.2]; exact ho⟩
        have hcl : (PySem.W.clsIn X.K C).isSome = true := by
          obtain ⟨cd, hc, _⟩ := PySem.W.any_some T.hd
          rw [hc]
          rfl
        exact PySem.W.kia_one (PySem.W.kitx_exc hcl T.hg T.hk T.hs T.ha T.hn T.ht T.hm) I.kIn J e (fun z => nomatch z) fun tk => ⟨.bl b, H, I.kept (t' := tk) fun _ _ z => z, rfl, q⟩
  · exact h.elim

/-! ### raise C(e) -/
def spErr (K : PySem.W.Frag) (C : Addr) (f : PySem.Str) : Sp := fun vs H Q _ => ∃ a v, vs = [.ref a, v] ∧ H a = some (exo a C none) ∧ ∀ dx, H dx = none → dx ≠ a → Q .non (upd (upd H dx (exd dx [(f, v)])) a (exo a C (some dx)))
def uRaise (C : Addr) (f : PySem.Str) (W : WX) (te : TA) : TS := fun _ σ H => te σ H fun vs H1 => match vs with
  | [v] => ∀ d H2, New H1 d (.xd [(f, v)]) H2 → W (.ref C) (some d) σ H2
  | _ => False
theorem u_raise {X : Cx} {W : WX} {C fI : Addr} {f x : PySem.Str} {k : Nat} {fd : FuncData} {ps : List PySem.Str} {CX : CXT} {e : Expr} {te : TA} {p pos pos2 : Pos} (hc : X.calm = true) (tk : Takes X W) (T : OexC X.K C) (iC : PySem.W.findIn X.K (.ref C) "__init__" = some (some (.ref fI))) (tI : PySem.W.typeIn X.K (.ref fI) = some (.type "function"))
    (F1 : FnOk X.prog X.w X.K X.mg X.base CX k fI fd ps (spErr X.K C f)) (hr : Room (k + 1) X.A) (hb : Binds X.K fd ps []) (hx : Passes CX X (fun _ _ _ => False)) (hg : Gl X x) (hm : X.mg x = some (.ref C)) (ha : PA X [e] te)
    (hdb : (x == ("__debug__" : PySem.Str)) = false := by decide) (he : starEach [e] X.env = (false, eval e X.env) :: starEach [] X.env := by rfl) (hpl : (backTo pos (starEach [] X.env)).any (·.1) = false := by rfl) :
    PS X (.Raise (some (.Call (.Name x p) [e] [] pos)) none pos2) (uRaise C f W te) := by
  refine ps_wk (ps_raise hc tk (pmk_oex T iC tI F1 hr hb .nil hx hg hm (pa_cl ha) hdb he hpl)) fun D σ H q => ⟨_, q, fun vs H1 q1 => ?_⟩
  split at q1
  · rename_i v
    refine ⟨by show 1 ≤ 1000; decide, fun a ha1 => ⟨a, v, rfl, upd_same, fun dx hdx ne => ⟨rfl, dx, [(f, v)], upd_same, by rw [upd_ne ne, upd_same], ?_, q1 dx _ ⟨?_, ?_⟩⟩⟩⟩
    · rw [upd_ne ne] at hdx
      exact hdx
    · rw [upd_ne ne] at hdx
      exact hdx
    · funext b
      by_cases hb : b = dx
      · rw [hb, upd_same, upd_same]
      · rw [upd_ne hb, upd_ne hb]
        by_cases hba : b = a
        · rw [hba, del_same, ha1]
        · rw [del_ne hba, upd_ne hba, upd_ne hb, upd_ne hba]
  · exact q1.elim
/-! ### calls of defs that raise -/
theorem takesF {X : Cx} : Takes X (fun _ _ _ _ => False) := fun _ _ ⟨_, _, _, _, _, _, _, _, _, _, _, _, _, _, _, _, w⟩ => w.elim
theorem passF {X : Cx} : Passes (L2.CX X.prog X.w) X (fun _ _ _ => False) := fun _ σ _ _ e s' I c => takesF (X := X) e s' (XE.of_call (W := fun _ _ _ _ => False) I (fun _ _ _ h => h) c)
def uCallT (sp : Sp) (dvs : List V) (W : WX) (t : TA) : TE := fun σ H Q => t σ H fun vs H1 => sp (vs ++ dvs) H1 Q fun cls d H2 => W cls d σ H2
section
variable {X : Cx} {W : WX} {k : Nat} {f : Addr} {ps : List PySem.Str} {sp : Sp} {dvs : List V} {x : PySem.Str} {p pos : Pos} {e : Expr} {es : List Expr} {t : TA}
theorem u_callT (tk : Takes X W) (F : FnOk X.prog X.w X.K X.mg X.base (L2.CX X.prog X.w) k f (fdA X.K f) ps sp) (hr : Room k X.A) (hg : Gl X x) (hm : X.mg x = some (.ref f)) (hk : PySem.W.keepIn X.K (.ref f) = true) (hb : Bnd X.K f ps dvs) (ha : PA X (e :: es) t)
    (hdb : (x == ("__debug__" : PySem.Str)) = false := by decide) (he : starEach (e :: es) X.env = (false, eval e X.env) :: starEach es X.env := by rfl) (hpl : (backTo pos (starEach es X.env)).any (·.1) = false := by rfl) :
    PE X (.Call (.Name x p) (e :: es) [] pos) (uCallT sp dvs W t) := hb.elim fun _ q => pe_callSD (E := WE W) F hr hg hm hk q.2 q.1 (fun σ => passAt tk σ) ha hdb he hpl
end
/-! ### all that is asked of an own error with one field -/
structure ErrC (K : PySem.W.Frag) (C : Addr) (f : PySem.Str) : Prop where
  oex : OexC K C
  exc : ExcC K C
  ini : PySem.W.findIn K (.ref C) "__init__" = some (some (.ref (ma K C "__init__")))
  fun_ : PySem.W.typeIn K (.ref (ma K C "__init__")) = some (.type "function")
  none_ : PySem.W.findIn K (.ref C) f = some none
  met : PySem.W.exmOne K (.ref C) (.ref C) = some true
  isV : PySem.W.kitOne K (.ref C) (.type "ValueError") = some true
  vei : PySem.W.findCls K (.type "ValueError") (.type "type") "__init__" = some (.val (.builtin "ValueError.__init__"))
theorem errB_ok {K : PySem.W.Frag} {C : Addr} {f : PySem.Str} (h : errB K C f = true) : ErrC K C f := by
  obtain ⟨h1, h⟩ := He.ba h
  obtain ⟨h2, h⟩ := He.ba h
  obtain ⟨h3, h⟩ := He.ba h
  obtain ⟨h4, h⟩ := He.ba h
  obtain ⟨h5, h⟩ := He.ba h
  obtain ⟨h6, h⟩ := He.ba h
  obtain ⟨h7, h8⟩ := He.ba h
  refine ⟨oexB_ok h1, exfB_ok h2, He.eqO_ok h3, of_decide_eq_true h4, of_decide_eq_true h5, of_decide_eq_true h6, of_decide_eq_true h7, ?_⟩
  unfold initB at h8
  split at h8
  · rename_i n e
    rw [e, eq_of_beq h8]
  · cases h8
/-! ### any -/
end Ech

namespace Ech
open PySem PySem.Spec PySem.SeqAt
open AutoSeq1 (wpAny_loadPart')
open MeetsSeq MeetsSeq2 MeetsSeq3 SeqRoads2
section
variable {prog : Program} {w : World} {A : Around} {R : Result → Shared → Prop}
end
open PyProof.Rows L2
open He (ga ma)
/-! ### [x] != [y], x and y songs that are equal -/
/-! ### a statement's end by a condition that is named -/
/-! ### plain lots as data -/
/-! ### the signs of texts -/
theorem strOk_app {x y : PySem.Str} (hx : PyData.strOk x = true) (hy : PyData.strOk y = true) : PyData.strOk (x ++ y) = true := by
  unfold PyData.strOk at *
  rw [PySem.Str.cps_append]
  simp only [Array.all_append, hx, hy, Bool.and_true]
end Ech

namespace Ech
open PySem PySem.Spec PyProof.Rows L2
open He (ga ma)
open LamX (Tabs TabS TabB CodeO ExtN LamS lamEnv lamCx lam_start2 run_ofS)

/-! ### a lambda is made: all but its maker's table of code objects stays -/
section
variable {X : Cx} {pins : List (Addr × Obj)} {σ : L2.St} {H : Hp} {s : Shared}
theorem lam_new {T : List (Addr × PySem.Str)} {c P : Addr} {params : Arguments} {body : Expr} {scope : Scope} {pos : Pos} {E : Value → Shared → Prop} {Q : Value → Shared → Prop} (I : Inv X pins σ H s) (TB : TabB X.base X.mg c P) (code_is : X.env.code = .ref c)
    (inT : (P, X.env.qual ++ "<lambda>") ∈ T) (oneT : ∀ p ∈ T, p.1 = P → p.2 = X.env.qual ++ "<lambda>") (tabs : Tabs T H) (hdef : defaultsOf params X.env = ([], [])) (hfree : ∀ y ∈ scope.names, y.2 = .free → ∃ c, X.env.cells.lookup y.1 = some c)
    (then_ : ∀ (f c' : Addr) (pm ctv : Value) (H1 : Hp) (s' : Shared), Inv X pins σ H1 s' → (∀ b o, b ≠ P → H b = some o → H1 b = some o) → Tabs T H1 →
      s'.heap.get? f = some (PySem.W.kla_obj "<lambda>" (X.env.qual ++ "<lambda>") params body scope (cloFrom X.env.cells scope.names []) pm c' ctv) → H1 f = none → f ∉ frs X.stack → H1 c' = some (CodeO c' (X.env.qual ++ "<lambda>")) → Q (.ref f) s') :
    wpAny (model X.prog X.w) X.A (eval (.Lambda params body scope pos) X.env) Q E s := by
  obtain ⟨ps, atP, three, each⟩ := tabs _ inT
  refine PySem.W.kla_eval hdef ?_
  have builtP : s.heap.BuiltinsAt X.mg P := TB.bm.keeps I.bk
  have objP : s.heap.get? P = some { cls := .none, data := .fields ps } := I.hok P _ atP
  have away : ∀ f, s.heap.objs.size ≤ f → f ∉ frs X.stack := by
    intro f hf z
    rcases List.mem_cons.mp (I.stkSub _ z) with e | e
    · have lt := I.lt
      rw [← e] at lt
      exact absurd (Nat.lt_of_lt_of_le lt hf) (Nat.lt_irrefl _)
    · exact I.nofs hf e
  cases found : codeAmong pos ps.toList with
  | some cv =>
    obtain ⟨c', rfl, code_at⟩ := each pos cv found
    refine PySem.W.kla_makeFunctionHit (mg := X.mg) (c := c) (P := P) (ps := ps) (closure_ok hfree) I.ok.glob (I.mod.glob.keeps I.bk) code_is (TB.code.keeps I.bk) objP three found builtP ?_
    intro ctv h' tk keep size
    have J : Inv X pins σ H { s with heap := h'.push (PySem.W.kla_obj "<lambda>" (X.env.qual ++ "<lambda>") params body scope (cloFrom X.env.cells scope.names []) ((X.mg "__name__").getD .none) c' ctv), toks := tk } := I.kept (fun b o e => Heap.get?_push_of_some _ (keep b o e))
    exact then_ h'.objs.size c' ((X.mg "__name__").getD .none) ctv H _ J (fun _ _ _ e => e) tabs (Heap.get?_push_size _ rfl) (I.hok.fresh size) (away _ size) code_at
  | none =>
    refine PySem.W.kla_makeFunction (mg := X.mg) (c := c) (P := P) (ps := ps) (closure_ok hfree) I.ok.glob (I.mod.glob.keeps I.bk) code_is (TB.code.keeps I.bk) objP three found TB.gP builtP ?_
    intro c' ctv h' tk keep ge lt rec_ tab
    obtain ⟨c2, oc, vs, t, e2, oc_at, oc_data, oc_name⟩ := rec_
    cases e2
    have size : s.heap.objs.size ≤ h'.objs.size := by omega
    have none_c : H c' = none := I.hok.fresh ge
    have J := LamX.inv_table (t' := tk) (more := #[rawInt pos.line, rawInt pos.col, .ref c']) (h' := h'.push (PySem.W.kla_obj "<lambda>" (X.env.qual ++ "<lambda>") params body scope (cloFrom X.env.cells scope.names []) ((X.mg "__name__").getD .none) c' ctv)) I atP
      (fun b o nb e => Heap.get?_push_of_some _ (keep b o nb e)) (Heap.get?_push_of_some _ tab) ge ⟨oc, vs, t, Heap.get?_push_of_some _ oc_at, oc_data, oc_name⟩
    have stays : ∀ b o, b ≠ P → H b = some o → upd (upd H P (.tbl (ps ++ #[rawInt pos.line, rawInt pos.col, .ref c']))) c' (CodeO c' (X.env.qual ++ "<lambda>")) b = some o := by
      intro b o nb e
      rw [upd_ne (ne_of_none e none_c), upd_ne nb]
      exact e
    have longer : (ps ++ #[rawInt pos.line, rawInt pos.col, .ref c']).toList = ps.toList ++ [rawInt pos.line, rawInt pos.col, .ref c'] := by simp
    have code_ne : ∀ {b q}, H b = some (CodeO b q) → b ≠ P := by
      intro b q e z
      rw [z, atP] at e
      exact LamX.codeO_ne ps (Option.some.inj e).symm
    refine then_ h'.objs.size c' ((X.mg "__name__").getD .none) ctv _ _ J stays ?_ (Heap.get?_push_size _ rfl) ?_ (away _ size) upd_same
    · intro p hp
      by_cases same : p.1 = P
      · rw [oneT p hp same, same]
        refine ⟨_, by rw [upd_ne (ne_of_none atP none_c), upd_same], by rw [longer]; exact PySem.TriplesOk_snoc _ _ _ _ three, ?_⟩
        intro p' cv among
        rw [longer] at among
        rcases LamX.among_app _ three among with z | z
        · obtain ⟨c0, e1, e2⟩ := each p' cv z
          exact ⟨c0, e1, stays _ _ (code_ne e2) e2⟩
        · exact ⟨c', z, upd_same⟩
      · obtain ⟨ps', k1, k2, k3⟩ := tabs p hp
        refine ⟨ps', stays _ _ same k1, k2, ?_⟩
        intro p' cv among
        obtain ⟨c0, e1, e2⟩ := k3 p' cv among
        exact ⟨c0, e1, stays _ _ (code_ne e2) e2⟩
    · have n1 : h'.objs.size ≠ c' := by omega
      have n2 : h'.objs.size ≠ P := Nat.ne_of_gt (Nat.lt_of_lt_of_le (Heap.lt_size objP) size)
      rw [upd_ne n1, upd_ne n2]
      exact I.hok.fresh size
end
/-! ### a lambda without parameters, handed to a def that calls it -/
abbrev inZ (X : Cx) (Ng : List PySem.Str) (x : PySem.Str) (sg : Scope) (g : Addr) (cdg : Value) (s : Shared) (H : Hp) : Cx := cxOf C8.CX0 X.prog X.w X.K X.mg X.base Ng x sg g cdg X.A X.stack s H C8.E0
def uHand (f c' : Addr) (q : PySem.Str) (tl : XK → Hp → VK → Prop) (W : WX) : TE := fun σZ HZ Q => ∃ (E : XK) (R : VK), (∀ cls d H', E cls d H' → W cls d σZ H') ∧ (∀ v H', R v H' → Q v H') ∧ slot σZ 0 = some (.ref f) ∧ HZ c' = some (CodeO c' q) ∧ tl E HZ R
section
variable {X : Cx} {pins : List (Addr × Obj)} {σ : L2.St} {H : Hp} {s : Shared}
theorem hand_ok {Ng : List PySem.Str} {x : PySem.Str} {sg : Scope} {g f c' : Addr} {cdg pm ctv : Value} {params : Arguments} {body : Expr} {scope : Scope} {k : Nat} {a : PySem.Str} {pn : List (Addr × Obj)} {xe : Value → Shared → Prop} {W : WX} {t : XK → TE} {p1 p2 : Pos}
    (I : Inv X pins σ H s) (L : LamS X.env.scope scope) (quiet : X.A.guards = some [])
    (at_f : s.heap.get? f = some (PySem.W.kla_obj "<lambda>" (X.env.qual ++ "<lambda>") params body scope (cloFrom X.env.cells scope.names []) pm c' ctv)) (fresh : H f = none) (away : f ∉ frs X.stack)
    (none_bound : bindArgs (PySem.W.kla_fn "<lambda>" (X.env.qual ++ "<lambda>") params body scope (cloFrom X.env.cells scope.names []) pm (.ref c') ctv) ⟨[], []⟩ = pure [])
    (tk : Takes ((inZ X Ng x sg g cdg s H).tr pn xe) W) (room : Room (k + 1) (X.A.deeper (envOfC x sg s.heap.objs.size g cdg)))
    (hbody : ∀ (A : Around) (outer : List Env) (s : Shared) (H : Hp) (E : XK), Room k (A.deeper (lamEnv X scope s.heap.objs.size f c')) → (A.deeper (lamEnv X scope s.heap.objs.size f c')).guards = some [] → PE (lamCx X A outer s H E scope f c') body (t E))
    (hN : Ng[0]? = some a) (hv : Vis sg a) (hd : (a == ("__debug__" : PySem.Str)) = false := by decide) (hcd : (a == ("__classdict__" : PySem.Str)) = false := by decide) :
    PE ((inZ X Ng x sg g cdg s H).tr pn xe) (.Call (.Name a p1) [] [] p2) (uHand f c' (X.env.qual ++ "<lambda>") (fun E H' Q' => t E σ H' Q') W) := by
  constructor
  intro pinsZ sZ σZ HZ Q IZ ⟨E, R, okE, okR, slot0, code_at, reading⟩
  have name := (pe_var (pos := p1) (i := 0) hN hv hd hcd).run pinsZ sZ σZ HZ (fun v H1 => v = .ref f ∧ H1 = HZ) IZ ⟨.ref f, slot_ok slot0, rfl, rfl⟩
  refine wpAny_Call_Name_kw (thn name ?_)
  rintro u s1 ⟨v, H1, I1, rel, rfl, rfl⟩
  cases rel
  have here := I1.base.keep f _ at_f fresh away (fun z => nomatch (show f ∈ ([] : List Addr) from z))
  refine PySem.W.callWith_F0 ⟨_, _, _, _, here⟩ ?_
  have code := I1.hok c' _ code_at
  obtain ⟨⟨oc, vs, tq, oc_at, oc_data, oc_name⟩, _, _⟩ := code
  have grown : Un (frs X.stack) [] H H1 s.heap s1.heap := I1.base
  have runs : codeAny (model X.prog X.w) (X.A.deeper (envOfC x sg s.heap.objs.size g cdg)) (.call (.ref f) ⟨[], []⟩) (CR (L2.CX X.prog X.w) (envOfC x sg s.heap.objs.size g cdg :: X.stack) X.prog X.w H1 s1 R E) s1 := by
    refine PySem.W.kla_callFunE room.depth here rfl L.co L.gen rfl ⟨c', oc, vs, tq, rfl, oc_at, oc_data, oc_name⟩ ?_
    rw [none_bound]
    refine wpAny_pure (wpAny_newFunctionEnv (fun y hy => (L.own y hy).2) (fun y hy => absurd hy (by simp)) ?_ L.kind)
    intro h1 hns hsb
    refine ⟨I1.nolimit.fresh _ hsb, ?_⟩
    show codeAny _ _ (.expr body (lamEnv X scope s1.heap.objs.size f c')) _ _
    have stays : ∀ b o, s1.heap.get? b = some o → h1.get? b = some o := by
      intro b o e
      exact hsb.extBut b o (Nat.ne_of_lt (Heap.lt_size e)) (Heap.get?_push_of_some _ e)
    have J := lam_start2 (E := E) (f := f) (c' := c') (tk := s1.toks + ([] : List (PySem.Str × Value)).length) I L I1.env0 room.hd grown hns stays
    have quietL : ((X.A.deeper (envOfC x sg s.heap.objs.size g cdg)).deeper (lamEnv X scope s1.heap.objs.size f c')).guards = some [] := quiet
    refine PySem.W.kla_codeExpr (wpAny_mono ((hbody _ _ s1 H1 E (room.deeper _) quietL).run [] _ _ H1 R J reading) ?_ (fun _ _ z => z))
    rintro v s' ⟨w', H', J', rv, q⟩
    exact ⟨w', H', J'.os, J'.bare, J'.base, J'.hok, rv, q⟩
  refine wpAny_call (codeAny_mono runs ?_)
  intro r s' ended
  cases r with
  | error e => exact tk e s' (XE.of_call I1 okE ended)
  | ok fl =>
    cases fl with
    | ret u =>
      obtain ⟨v, H2, I2, r2, q2⟩ := I1.after ended
      exact ⟨v, H2, I2, r2, okR _ _ q2⟩
    | next => exact ended.elim
    | brk => exact ended.elim
    | cont => exact ended.elim
end
def GivesW (X : Cx) (Ng : List PySem.Str) (x : PySem.Str) (sg : Scope) (g : Addr) (cdg : Value) (bg : List Stmt) (a : PySem.Str) (q : PySem.Str) (TT : (XK → Hp → VK → Prop) → Hp → VK → Prop) : Prop :=
  ∀ (f c' : Addr) (s : Shared) (H : Hp) (Q : VK) (tl : XK → Hp → VK → Prop),
    (∀ (W : WX) (pn : List (Addr × Obj)) (xe : Value → Shared → Prop) (p1 p2 : Pos), Takes ((inZ X Ng x sg g cdg s H).tr pn xe) W → PE ((inZ X Ng x sg g cdg s H).tr pn xe) (.Call (.Name a p1) [] [] p2) (uHand f c' q tl W)) →
    H c' = some (CodeO c' q) → TT tl H Q → ∃ t, PSs (inZ X Ng x sg g cdg s H).nox bg t ∧ t { nx := fun _ H' => Q .non H', rt := Q } (L2.start Ng [.ref f]) H
def uLam (T : List (Addr × PySem.Str)) (P : Addr) (TT : (XK → Hp → VK → Prop) → Hp → VK → Prop) (t : XK → TE) : TE := fun σ H Q => Tabs T H ∧ ∀ H1, (∀ b o, b ≠ P → H b = some o → H1 b = some o) → Tabs T H1 → TT (fun E H' Q' => t E σ H' Q') H1 Q
section
variable {X : Cx}
theorem u_lam {T : List (Addr × PySem.Str)} {TT : (XK → Hp → VK → Prop) → Hp → VK → Prop} {x a : PySem.Str} {g c P : Addr} {k : Nat} {pg : Arguments} {bg : List Stmt} {sg : Scope} {Ng : List PySem.Str}
    {params : Arguments} {body : Expr} {scope : Scope} {t : XK → TE} {p lpos pos : Pos} (quiet : X.A.guards = some []) (hg : Gl X x) (hm : X.mg x = some (.ref g)) (hk : PySem.W.keepIn X.K (.ref g) = true)
    (F : FunD X.K x x pg bg sg [] [] g (fdA X.K g)) (hb : Binds X.K (fdA X.K g) [a] []) (Sg : FnScope Ng [a] sg) (hNg : Ng[0]? = some a) (hva : Vis sg a)
    (give : ∀ cdg, GivesW X Ng x sg g cdg bg a (X.env.qual ++ "<lambda>") TT)
    (TB : TabB X.base X.mg c P) (hcode : X.env.code = .ref c) (hmT : (P, X.env.qual ++ "<lambda>") ∈ T) (hu : ∀ p ∈ T, p.1 = P → p.2 = X.env.qual ++ "<lambda>") (room : Room (k + 2) X.A) (L : LamS X.env.scope scope) (hdef : defaultsOf params X.env = ([], []))
    (hbind : ∀ (q : PySem.Str) (cl : List (PySem.Str × Addr)) (pm cv ctv : Value), bindArgs (PySem.W.kla_fn "<lambda>" q params body scope cl pm cv ctv) ⟨[], []⟩ = pure [])
    (hbody : ∀ (A : Around) (outer : List Env) (s : Shared) (H : Hp) (E : XK) (f c' : Addr), Room k (A.deeper (lamEnv X scope s.heap.objs.size f c')) → (A.deeper (lamEnv X scope s.heap.objs.size f c')).guards = some [] → PE (lamCx X A outer s H E scope f c') body (t E))
    (hdb : (x == ("__debug__" : PySem.Str)) = false := by decide) (hd : (a == ("__debug__" : PySem.Str)) = false := by decide) (hcd : (a == ("__classdict__" : PySem.Str)) = false := by decide) :
    PE X (.Call (.Name x p) [.Lambda params body scope lpos] [] pos) (uLam T P TT t) := by
  obtain ⟨oc, od, dV, kV, doc, pm, an, cdv, ct, osl, hfd, lk, hcg, _, _⟩ := F.ex
  rw [hfd] at hb lk
  constructor
  rintro pins s σ H Q I ⟨tabs, reading⟩
  refine wpAny_Call_Name_kw (ld_glob I hg hm ?_ hdb)
  refine PySem.W.callWith_K (h₀ := X.base) I.ok.mod.kin hk ?_ (by rfl) (by rfl)
  show wpAny _ _ (spliced ((false, eval (.Lambda params body scope lpos) X.env) :: backTo pos (starEach [] X.env))) _ _ s
  refine Calls.spliced_cons (lam_new I TB hcode hmT hu tabs hdef (L.has I.ok) ?_)
  intro f c' pm' ctv H1 s' I1 eN T1 at_f fresh away code_at
  refine Calls.spliced_nil ⟨I1.kIn, ?_⟩
  have runs : codeAny (model X.prog X.w) X.A (.call (.ref g) ⟨[.ref f], []⟩) (CR C8.CX0 X.stack X.prog X.w H1 s' Q C8.E0) s' := by
    refine run_ofS (N := Ng) (ps := [a]) (us := [.ref f]) (vs := [.ref f]) lk hcg Sg room I1.env0 (hb s' [.ref f] I1.kIn rfl) (.cons rfl .nil) rfl ?_
    intro roomG
    obtain ⟨t', derive, got⟩ := give cdv f c' s' H1 Q (fun E H' Q' => t E σ H' Q') (fun W pn xe p1 p2 tk => hand_ok I1 L quiet at_f fresh away (hbind _ _ _ _ _) tk roomG (fun A outer s H E hr hq => hbody A outer s H E f c' hr hq) hNg hva hd hcd) code_at (reading H1 eN T1)
    exact ⟨t', derive.nox, got⟩
  refine wpAny_call (codeAny_mono runs ?_)
  intro r s2 ended
  cases r with
  | error e => exact (show False from ended).elim
  | ok fl =>
    cases fl with
    | ret u => exact I1.after ended
    | next => exact ended.elim
    | brk => exact ended.elim
    | cont => exact ended.elim
end
/-! ### the tables through growth -/
structure Tb (T : List (Addr × PySem.Str)) (G H : Hp) : Prop where
  tabs : Tabs T H
  un : ∀ p ∈ T, G p.1 = none
theorem Tb.gr {T : List (Addr × PySem.Str)} {G H G' H' : Hp} (h : Tb T G H) (g : Gr G H G' H') : Tb T G' H' :=
  ⟨h.tabs.ext g.hh, fun p hp => by
    obtain ⟨ps, e, _⟩ := h.tabs p hp
    rw [g.fix p.1 (some_ne e)]
    exact h.un p hp⟩
theorem Tb.grm {T : List (Addr × PySem.Str)} {G H G' H' : Hp} {p : Addr} {kvs : List (Key × V)} (h : Tb T G H) (g : GrM p G H G' H') (hp : H p = some (.dK kvs)) : Tb T G' H' := by
  refine ⟨fun t ht => ?_, fun t ht => ?_⟩
  · obtain ⟨ps, e, e2, e3⟩ := h.tabs t ht
    refine ⟨ps, g.hh _ _ (fun z => by rw [z, hp] at e; cases e) e, e2, fun pos cv hc => ?_⟩
    obtain ⟨c, q1, q2⟩ := e3 pos cv hc
    refine ⟨c, q1, g.hh _ _ (fun z => ?_) q2⟩
    rw [z, hp] at q2
    unfold LamX.CodeO at q2
    cases q2
  · obtain ⟨ps, e, _⟩ := h.tabs t ht
    rw [g.fix t.1 (some_ne e)]
    exact h.un t ht
theorem Tb.pen {T : List (Addr × PySem.Str)} {K : PySem.W.Frag} {ku kr : PySem.Str} {G H G' H' : Hp} {p : Addr} {b : Nat} (h : Tb T G H) (pn : Pen K ku kr G H p b) (g : GrM p G H G' H') : Tb T G' H' := by
  obtain ⟨⟨kvs, _, _, _, _, e, _⟩, _⟩ := pn
  exact h.grm g e
theorem Tb.lam {T : List (Addr × PySem.Str)} {G H H1 : Hp} {P : Addr} (h : Tb T G H) (hP : ∃ q, (P, q) ∈ T) (k : ∀ b o, b ≠ P → H b = some o → H1 b = some o) (t : Tabs T H1) (x : Ex G H) : GrM P G H G H1 ∧ Tb T G H1 := by
  obtain ⟨q, hP⟩ := hP
  have nP : G P = none := h.un _ hP
  refine ⟨⟨fun a o na e => k a o na e, ex_refl _, fun a o e => k a o (fun z => by rw [z, nP] at e; cases e) (x a o e), fun _ _ => rfl, fun _ => ?_⟩, ⟨t, h.un⟩⟩
  obtain ⟨ps, e, _⟩ := t _ hP
  exact some_ne e
theorem Pen.tab {K : PySem.W.Frag} {ku kr : PySem.Str} {T : List (Addr × PySem.Str)} {G H G' H' : Hp} {p P : Addr} {b : Nat} (pn : Pen K ku kr G H p b) (h : Tb T G H) (hP : ∃ q, (P, q) ∈ T) (g : GrM P G H G' H') : Pen K ku kr G' H' p b := by
  obtain ⟨q, hP⟩ := hP
  obtain ⟨ps, e, _⟩ := h.tabs _ hP
  obtain ⟨⟨kvs, c, ns, u, r, h1, h2, h3, h4, h5⟩, un⟩ := pn
  have ne : p ≠ P := fun z => by rw [z, e] at h1; cases h1
  exact ⟨⟨kvs, c, ns, u, r, g.hh _ _ ne h1, h2, h3, Evl.ex_l g.gg h4, h5⟩, by rw [g.fix p (some_ne h1)]; exact un⟩
/-! ### a def's code object and its table -/
def codeB (K : PySem.W.Frag) (f c : Addr) : Bool := match K.lookup f with
  | some ⟨_, _, .func d, _⟩ => (match d.code with | .ref c' => c' == c | _ => false)
  | _ => false
theorem codeB_ok {K : PySem.W.Frag} {f c : Addr} {cdv : Value} (h : codeB K f c = true) (a : CodeAt K f cdv) : cdv = .ref c := by
  obtain ⟨oc, od, d, osl, lk, rfl⟩ := a
  unfold codeB at h
  rw [lk] at h
  cases e : d.code with
  | ref c' =>
    simp only [e] at h
    rw [eq_of_beq h]
  | _ => simp [e] at h
def codeHdB (K : PySem.W.Frag) (c P : Addr) : Bool := match K.lookup c with
  | some ⟨cl, _, .fields vs, _⟩ => (match cl with | .type t => t == "code" | _ => false) && ((match (vs[11]? : Option Value) with | some (.ref p) => p == P | _ => false) && ((match vs.getD 11 .none with | .ref p => p == P | _ => false) &&
      ((match vs.getD 18 .none with | .str _ _ => true | _ => false) && ((match vs.getD 7 .none with | .int _ _ => true | _ => false) && ((match vs.getD 9 .none with | .bool _ => true | _ => false) && ((match vs.getD 10 .none with | .int _ _ => true | _ => false) && !(c == P)))))))
  | _ => false
theorem codeHdB_ok {K : PySem.W.Frag} {c P : Addr} {h : Heap} (X : K.In h) (z : codeHdB K c P = true) : PySem.W.CodeHd h c P := by
  unfold codeHdB at z
  split at z
  · rename_i cl dd vs sl lk
    obtain ⟨z1, z⟩ := He.ba z
    obtain ⟨z2, z⟩ := He.ba z
    obtain ⟨z3, z⟩ := He.ba z
    obtain ⟨z4, z⟩ := He.ba z
    obtain ⟨z5, z⟩ := He.ba z
    obtain ⟨z6, z⟩ := He.ba z
    obtain ⟨z7, z8⟩ := He.ba z
    have e1 : cl = .type "code" := by
      split at z1
      · rw [eq_of_beq z1]
      · cases z1
    have e2 : vs[11]? = some (.ref P) := by
      split at z2
      · rename_i q; rw [q, eq_of_beq z2]
      · cases z2
    have e3 : vs.getD 11 .none = .ref P := by
      split at z3
      · rename_i q; rw [q, eq_of_beq z3]
      · cases z3
    have e4 : ∃ x t, vs.getD 18 .none = .str x t := by
      split at z4
      · rename_i q; exact ⟨_, _, q⟩
      · cases z4
    have e5 : ∃ x t, vs.getD 7 .none = .int x t := by
      split at z5
      · rename_i q; exact ⟨_, _, q⟩
      · cases z5
    have e6 : ∃ x, vs.getD 9 .none = .bool x := by
      split at z6
      · rename_i q; exact ⟨_, q⟩
      · cases z6
    have e7 : ∃ x t, vs.getD 10 .none = .int x t := by
      split at z7
      · rename_i q; exact ⟨_, _, q⟩
      · cases z7
    obtain ⟨a1, a2, e4⟩ := e4
    obtain ⟨b1, b2, e5⟩ := e5
    obtain ⟨c1, e6⟩ := e6
    obtain ⟨d1, d2, e7⟩ := e7
    refine ⟨_, vs, a1, a2, b1, b2, c1, d1, d2, X _ _ lk, e1, rfl, e2, e3, e4, e5, e6, e7, ?_⟩
    intro q
    subst q
    simp at z8
  · cases z
/-! ### the head with tables of code objects -/
def tabOB (o : Option Obj) : Bool := match o with
  | some ⟨.none, none, .fields vs, sl⟩ => vs.size == 0 && sl.size == 0
  | _ => false
theorem tabOB_ok {o : Option Obj} (h : tabOB o = true) : o = some { cls := .none, data := .fields #[] } := by
  unfold tabOB at h
  split at h
  · rename_i vs sl
    obtain ⟨h1, h2⟩ := He.ba h
    have e1 : vs = #[] := Array.eq_empty_of_size_eq_zero (eq_of_beq h1)
    have e2 : sl = #[] := Array.eq_empty_of_size_eq_zero (eq_of_beq h2)
    rw [e1, e2]
  · cases h
open PySem.W He5 in
def obsTG (ts as : List Addr) (fa : List Ft) (fn : List He5.DefA) (g : Addr → Option Obj) : He.AlD := ((obsCG as fa fn g).1 && ts.all fun t => tabOB (g t), (obsCG as fa fn g).2)
def SaysT (ts : List Addr) (fa : List Ft) (fn : List He5.DefA) (h : Heap) : Prop := ∃ K : PySem.W.Frag, K.In h ∧ SaysB fa fn K ∧ ∀ t ∈ ts, h.get? t = some { cls := .none, data := .fields #[] }
open PySem.W He5 in
def hookT (ts as : List Addr) (fa : List Ft) (fn : List He5.DefA) : PySem.W.Hook where
  α := He.AlD
  obs := fun s => obsTG ts as fa fn s.heap.get?
  val := fun _ => He5.valA fn
  says := fun _ h => SaysT ts fa fn h
  of := fun _ s e => by
    have e1 : ((obsCG as fa fn s.heap.get?).1 && ts.all fun t => tabOB (s.heap.get? t)) = true := congrArg (fun z : He.AlD => z.1) e
    have e2 : (obsTG ts as fa fn s.heap.get?).2 = (He5.valA fn).2 := congrArg (fun z : He.AlD => z.2) e
    obtain ⟨h1, h2⟩ := He.ba e1
    refine ⟨He.frG s.heap.get? as, He.frG_in, ?_, fun t ht => tabOB_ok (List.all_eq_true.mp h2 t ht)⟩
    exact Prod.ext h1 e2
  keeps := fun _ _ _ ⟨K, hK, c, t⟩ k => ⟨K, PySem.W.Frag.In.keeps hK k, c, fun a ha => k _ _ (t a ha)⟩
theorem obsTG_eq {ts as : List Addr} {fa : List Ft} {fn : List He5.DefA} {g : Addr → Option Obj} {s : Shared} (h : ∀ a, g a = s.heap.get? a) : obsTG ts as fa fn g = (hookT ts as fa fn).obs s := by
  have e : g = s.heap.get? := funext h
  rw [e] <;> rfl
/-! ### the end of a law whose def holds lambdas -/
abbrev EmptyT (cs : List (Addr × Addr)) (H : Hp) : Prop := ∀ c ∈ cs, H c.2 = some (.tbl #[])
theorem law_endT {l : PySem.W.OpenLaw} {n k : Nat} {q : Program} {loose : List PySem.Str} {XP : (PySem.Str → Option Value) → Heap → Prop} {YP : World → Heap → Prop} {d : DefRec} {x : PySem.Str}
    (hn : l.most = some n) (hn2 : n ≤ sizeLine) (hdf : d.params.defaults = []) (room : Room k callerA)
    (F : ∀ (w : World) (mg : PySem.Str → Option Value) (fa : Addr) (h : Heap), YP w h → h.Ns mainGlobals mg → mg d.name = some (.ref fa) →
      ∃ (K : PySem.W.Frag) (fd : FuncData) (sp : Sp) (cs : List (Addr × Addr)), K.In h ∧ (∀ c ∈ cs, h.get? c.2 = some { cls := .none, data := .fields #[] } ∧ K.lookup c.2 = none ∧ PySem.W.CodeHd h c.1 c.2) ∧ (∀ (s : Shared) (u : Value), BindsTo s fd ⟨[u], []⟩ [(x, u)]) ∧
        (∀ (H : Hp) (a : Addr) (ns : List Int), ns.length ≤ n → EmptyT cs H → SqL K H a (ns.map V.int) → sp [.ref a] H (fun v _ => v = .bl true) fun _ _ _ => False) ∧
        ∀ base : Heap, K.In base → base.Ns mainGlobals mg → (∀ c ∈ cs, TabB base mg c.1 c.2) → FnG l.prog w K mg base CX0 k fa fd [x] sp) :
    PySem.W.WalkO q loose XP YP l.row.toRowW d [] (fun f vs => PySem.call f vs) := by
  refine Att.attach_call hn hdf ?_
  intro w s0 s1 mg mb fa o pm cd doc a vs ns G Y ho hd hcd hmg hobj hints hlen hgens
  obtain ⟨K, fd, sp, cs, inK, tabs, hbind, hsp, hF⟩ := F w mg fa _ Y G.T.g hmg
  have rv : Vals (ns.map V.int) vs := vals_ints hints
  have lenV := hints.length
  have small : ns.length ≤ sizeLine := Nat.le_trans hlen hn2
  let isTab : Addr → Prop := fun b => ∃ c ∈ cs, c.2 = b
  have tab_at : ∀ b, isTab b → s1.heap.get? b = some { cls := .none, data := .fields #[] } := by
    rintro b ⟨c, hc, rfl⟩
    exact (tabs c hc).1
  have script_no : ¬ isTab a := by
    intro z
    have e := tab_at a z
    rw [hobj] at e
    have e2 := congrArg Obj.data (Option.some.inj e)
    cases e2
  have main : ∀ H : Hp, EmptyT cs H → (∀ b, H b = none ∨ isTab b ∨ ∃ o xs, H b = some (.frz o (.lst xs))) → SqL K H a (ns.map V.int) → HOk l.prog w H s1.heap → (∀ b, H b ≠ none → b = a ∨ isTab b) → (H a ≠ none → K.lookup a = none) →
      codeAny (model l.prog w) callerA (.call (.ref fa) ⟨[.ref a], []⟩) (fun r s' => r = .ok (.ret (.bool true)) ∧ OldK s1.heap s'.heap ∧ s'.os = s1.os ∧ AllBare s'.gens) s1 := by
    intro H empty only hS hok only_a not_K
    have other : ∀ {b : Addr} {ob : Obj}, s1.heap.get? b = some ob → (∀ us n, ob.data ≠ .seq us n) → ob.data ≠ .fields #[] → H b = none := by
      intro b ob z d1 d2
      cases e : H b with
      | none => rfl
      | some u =>
        rcases only_a b (by rw [e]; intro y; cases y) with rfl | ht
        · rw [hobj] at z
          cases z
          exact absurd rfl (d1 _ _)
        · rw [tab_at b ht] at z
          cases z
          exact absurd rfl d2
    have see : ∀ {b : Addr} {ob : Obj}, s1.heap.get? b = some ob → H b = none → (hidT s1.heap H).get? b = some ob := fun z n => hidT_get z n
    have ns_in : ∀ {b : Addr} {m : PySem.Str → Option Value}, s1.heap.Ns b m → (hidT s1.heap H).Ns b m := by
      rintro b m ⟨ob, es, ep, z, dd, rest⟩
      refine ⟨ob, es, ep, see z (other z ?_ ?_), dd, rest⟩
      · intro us n y
        rw [dd] at y
        cases y
      · intro y
        rw [dd] at y
        cases y
    have K_in : K.In (hidT s1.heap H) := by
      intro b ob z
      refine see (inK b ob z) ?_
      cases e : H b with
      | none => rfl
      | some u =>
        rcases only_a b (by rw [e]; intro y; cases y) with rfl | ⟨c, hc, rfl⟩
        · rw [not_K (by rw [e]; intro y; cases y)] at z
          cases z
        · rw [(tabs c hc).2.1] at z
          cases z
    have modu : Mod K mg (hidT s1.heap H) := by
      obtain ⟨mc, c1, c2⟩ := G.T.nolimit
      exact ⟨K_in, ns_in G.T.g, ⟨mb, ns_in G.T.b, G.T.builtins⟩, ⟨mc, ns_in c1, c2⟩⟩
    have code_in : ∀ c ∈ cs, TabB (hidT s1.heap H) mg c.1 c.2 := by
      intro c hc
      obtain ⟨t1, t2, t3⟩ := tabs c hc
      refine ⟨?_, ?_, ?_⟩
      · obtain ⟨ob, us, file, tf, flags, tg, inF, text, tt, e1, e2, e3, e4, rest⟩ := t3
        refine ⟨ob, us, file, tf, flags, tg, inF, text, tt, see e1 (other e1 ?_ ?_), e2, e3, e4, rest⟩
        · intro vs n y
          rw [e3] at y
          cases y
        · intro y
          rw [e3] at y
          cases y
          simp at e4
      · obtain ⟨bm, ob, b1, b2, b3, b4, b5, b6⟩ := G.T.bmain
        refine ⟨bm, ob, b1, b2, ?_, ?_, see b3 (other b3 ?_ ?_), b4, b5, b6⟩
        · rintro rfl
          obtain ⟨og, es, ep, e, hdg, _⟩ := G.T.g
          rw [e] at b3
          cases b3
          rw [hdg] at b6
          cases b6
        · intro y
          rw [y, t1] at b3
          cases b3
          cases b6
        · intro us n y
          rw [b6] at y
          cases y
        · intro y
          rw [b6] at y
          cases y
      · intro y
        obtain ⟨og, es, ep, e, hdg, _⟩ := G.T.g
        rw [y, t1] at e
        cases e
        cases hdg
    have env : Env0 l.prog w K mg (hidT s1.heap H) callerA [] s1 H :=
      ⟨rfl, modu, fun b ob z => of_hidT z, Nat.le_of_eq (hidT_size _ _), trivial, fun b z => absurd z List.not_mem_nil, hok, .of_eq hgens⟩
    have go := (hF _ K_in (ns_in G.T.g) code_in).run callerA [] s1 H ⟨[.ref a], []⟩ [.ref a] [.ref a] _ _ room rfl env (hbind s1 (.ref a)) (.cons rfl .nil) (hsp H a ns hlen empty hS)
    refine codeAny_mono go ?_
    intro res s' h
    cases res with
    | error e => exact h.elim
    | ok fl =>
      cases fl with
      | next => exact h.elim
      | brk => exact h.elim
      | cont => exact h.elim
      | ret u =>
        obtain ⟨v, H', os, bare, un, hok', rel, isTrue⟩ := h
        have isTrue : v = .bl true := isTrue
        subst isTrue
        have hu : u = Value.bool true := rel
        subst hu
        have kept : ∀ b ob, ¬ isTab b → s1.heap.get? b = some ob → s'.heap.get? b = some ob := by
          intro b ob nt z
          rcases only b with n0 | ht | ⟨o2, xs, fz⟩
          · exact un.keep b ob z n0 List.not_mem_nil List.not_mem_nil
          · exact absurd ht nt
          · have after := un.frzs b o2 _ fz
            have h1 := (hok b _ fz).1
            have h2 := (hok' b _ after).1
            rw [z] at h1
            cases h1
            exact h2
        have longer : ∀ c ∈ cs, ∃ more : Array Value, s'.heap.get? c.2 = some { cls := .none, data := .fields more } := by
          intro c hc
          obtain ⟨more, z⟩ := un.tbls c.2 #[] (empty c hc)
          exact ⟨_, hok' c.2 _ z⟩
        refine ⟨rfl, ⟨?_, ?_⟩, os, bare⟩
        · intro b ob z
          by_cases ht : isTab b
          · obtain ⟨c, hc, rfl⟩ := ht
            obtain ⟨more, hm⟩ := longer c hc
            have t := tabs c hc
            rw [t.1] at z
            cases z
            refine .inr (.inl ⟨(t.2.2.tab t.1).isCodeTable, rfl, #[], more, rfl, ?_⟩)
            rw [Array.empty_append]
            exact hm
          · exact .inl (kept b ob ht z)
        · intro b ob z
          by_cases ht : isTab b
          · obtain ⟨c, hc, rfl⟩ := ht
            obtain ⟨more, hm⟩ := longer c hc
            exact ⟨_, hm⟩
          · exact ⟨ob, kept b ob ht z⟩
  haveI dec : DecidablePred isTab := fun b => Classical.propDecidable _
  by_cases hK : ∃ ok, K.lookup a = some ok
  · obtain ⟨ok, hk⟩ := hK
    have e := inK a ok hk
    rw [hobj] at e
    cases e
    let H0 : Hp := fun b => if isTab b then some (.tbl #[]) else none
    have on : ∀ {b}, isTab b → H0 b = some (.tbl #[]) := fun hb => if_pos hb
    have off : ∀ {b}, ¬ isTab b → H0 b = none := fun hb => if_neg hb
    refine main H0 (fun c hc => on ⟨c, hc, rfl⟩) (fun b => ?_) (Or.inr ⟨_, vs.toArray, _, hk, rfl, rfl, rfl, ?_, ?_⟩) (fun b u z => ?_) (fun b z => ?_) (fun z => absurd (off script_no) z)
    · by_cases hb : isTab b
      · exact .inr (.inl hb)
      · exact .inl (off hb)
    · rw [List.size_toArray, lenV]
      exact small
    · simpa using rv
    · by_cases hb : isTab b
      · rw [on hb] at z
        cases z
        exact tab_at b hb
      · rw [off hb] at z
        cases z
    · by_cases hb : isTab b
      · exact .inr hb
      · exact absurd (off hb) z
  · have hk : K.lookup a = none := by
      cases e : K.lookup a with
      | none => rfl
      | some ok => exact absurd ⟨ok, e⟩ hK
    let ob : Obj := { cls := .type "list", data := .seq vs.toArray }
    let H0 : Hp := fun b => if b = a then some (.frz ob (.lst (ns.map V.int))) else if isTab b then some (.tbl #[]) else none
    have at_a : H0 a = some (.frz ob (.lst (ns.map V.int))) := if_pos rfl
    have on : ∀ {b}, isTab b → H0 b = some (.tbl #[]) := by
      intro b hb
      have ne : ¬ b = a := by rintro rfl; exact script_no hb
      exact (if_neg ne).trans (if_pos hb)
    have off : ∀ {b}, b ≠ a → ¬ isTab b → H0 b = none := fun h1 h2 => (if_neg h1).trans (if_neg h2)
    refine main H0 (fun c hc => on ⟨c, hc, rfl⟩) (fun b => ?_) (Or.inl (Or.inr ⟨ob, at_a⟩)) (fun b u z => ?_) (fun b z => ?_) (fun _ => hk)
    · by_cases hb : b = a
      · exact .inr (.inr ⟨ob, _, by rw [hb]; exact at_a⟩)
      · by_cases ht : isTab b
        · exact .inr (.inl ht)
        · exact .inl (off hb ht)
    · by_cases hb : b = a
      · subst hb
        rw [at_a] at z
        cases z
        exact ⟨hobj, by rw [List.length_map]; exact small, vs, _, rv, hobj⟩
      · by_cases ht : isTab b
        · rw [on ht] at z
          cases z
          exact tab_at b ht
        · rw [off hb ht] at z
          cases z
    · by_cases hb : b = a
      · exact .inl hb
      · by_cases ht : isTab b
        · exact .inr ht
        · exact absurd (off hb ht) z
end Ech

set_option maxHeartbeats 0
namespace k36
open PySem PySem.Spec PyProof.Rows L2 Ech
open He (ga ma)
open He5 (wf wrapB)
def topS (i : Nat) : Stmt := PySem.Challenge.pw_echofold_k36_errors_of_prices.main.body.getD i (.Pass ⟨0, 0, 0, 0⟩)
abbrev s_is_integer : Stmt := topS 7
abbrev s_is_list : Stmt := topS 8
abbrev s_is_price : Stmt := topS 9
abbrev s_sum_of : Stmt := topS 10
abbrev s_sum_two : Stmt := topS 11
abbrev s_is_less : Stmt := topS 12
abbrev s_least_of : Stmt := topS 13
abbrev s_number_in : Stmt := topS 14
abbrev s_is_row_of : Stmt := topS 15
abbrev s_InvalidTable_init : Stmt := inClass (topS 17) 0
abbrev s_InvalidEcho_init : Stmt := inClass (topS 18) 0
abbrev s_InvalidSong_init : Stmt := inClass (topS 19) 0
abbrev s_InvalidRow_init : Stmt := inClass (topS 20) 0
abbrev s_InvalidWishes_init : Stmt := inClass (topS 21) 0
abbrev s_InvalidPlace_init : Stmt := inClass (topS 22) 0
abbrev s_InvalidNumber_init : Stmt := inClass (topS 23) 0
abbrev s_InvalidText_init : Stmt := inClass (topS 24) 0
abbrev s_OtherLetters_init : Stmt := inClass (topS 25) 0
abbrev s_Barred_init : Stmt := inClass (topS 26) 0
abbrev s_TooLong_init : Stmt := inClass (topS 27) 0
abbrev s_TooFar_init : Stmt := inClass (topS 28) 0
abbrev s_are_rows : Stmt := topS 32
abbrev s_need_letters : Stmt := topS 33
abbrev s_need_like : Stmt := topS 34
abbrev s_price_in : Stmt := topS 35
abbrev s_Table_init : Stmt := inClass (topS 36) 2
abbrev s_Table_pairs : Stmt := inClass (topS 36) 5
abbrev s_Table_read : Stmt := inClass (topS 36) 6
abbrev s_Table_rows : Stmt := inClass (topS 36) 7
abbrev s_Table_letters : Stmt := inClass (topS 36) 8
abbrev s_Table_text : Stmt := inClass (topS 36) 9
abbrev s_Table_price : Stmt := inClass (topS 36) 10
abbrev s_Table_eq : Stmt := inClass (topS 36) 12
abbrev s_Table_mul : Stmt := inClass (topS 36) 13
abbrev s_Table_add : Stmt := inClass (topS 36) 14
abbrev s_Table_or : Stmt := inClass (topS 36) 15
abbrev s_Table_neg : Stmt := inClass (topS 36) 16
abbrev s_is_echo : Stmt := topS 39
abbrev s_need_echoes : Stmt := topS 40
abbrev s_Song_init : Stmt := inClass (topS 41) 2
abbrev s_Song_read : Stmt := inClass (topS 41) 3
abbrev s_Song_letters : Stmt := inClass (topS 41) 4
abbrev s_Song_length : Stmt := inClass (topS 41) 5
abbrev s_Song_echoes : Stmt := inClass (topS 41) 6
abbrev s_Song_delays : Stmt := inClass (topS 41) 7
abbrev s_Song_is_near : Stmt := inClass (topS 41) 8
abbrev s_Song_text : Stmt := inClass (topS 41) 9
abbrev s_Song_with_echo : Stmt := inClass (topS 41) 11
abbrev s_Song_eq : Stmt := inClass (topS 41) 13
abbrev s_first_read : Stmt := topS 42
abbrev s_next_read : Stmt := topS 43
abbrev s_need_song : Stmt := topS 45
abbrev s_need_near : Stmt := topS 46
abbrev s_is_place : Stmt := topS 47
abbrev s_fits_row : Stmt := topS 48
abbrev s_need_row : Stmt := topS 49
abbrev s_are_prices : Stmt := topS 50
abbrev s_fits_wishes : Stmt := topS 51
abbrev s_fits_fixed : Stmt := topS 52
abbrev s_need_wishes : Stmt := topS 53
abbrev s_is_row : Stmt := topS 55
abbrev s_is_wishes : Stmt := topS 56
abbrev s_is_fixed : Stmt := topS 57
abbrev s_links_of : Stmt := topS 58
abbrev s_link_price : Stmt := topS 59
abbrev s_price : Stmt := topS 60
abbrev s_faults : Stmt := topS 61
abbrev s__law_pen : Stmt := topS 63
abbrev s__law_draw : Stmt := topS 64
abbrev s__law_pick : Stmt := topS 65
abbrev s__law_shuffled : Stmt := topS 66
abbrev s__law_rows : Stmt := topS 67
abbrev s__law_reach : Stmt := topS 68
abbrev s__law_plain : Stmt := topS 69
abbrev s__law_made : Stmt := topS 70
abbrev s__law_row : Stmt := topS 71
abbrev s__law_wishes : Stmt := topS 72
abbrev s__law_any_value : Stmt := topS 73
abbrev s__law_told : Stmt := topS 74
abbrev s__law_value_text : Stmt := topS 75
abbrev s_law : Stmt := topS 76
def d_is_integer : He5.DefA := ⟨fun K => ga K "is_integer", "is_integer", "is_integer", defArgs s_is_integer, defBody s_is_integer, defScope s_is_integer, [.non, .non], []⟩
def d_is_list : He5.DefA := ⟨fun K => ga K "is_list", "is_list", "is_list", defArgs s_is_list, defBody s_is_list, defScope s_is_list, [], []⟩
def d_is_price : He5.DefA := ⟨fun K => ga K "is_price", "is_price", "is_price", defArgs s_is_price, defBody s_is_price, defScope s_is_price, [], []⟩
def d_sum_of : He5.DefA := ⟨fun K => ga K "sum_of", "sum_of", "sum_of", defArgs s_sum_of, defBody s_sum_of, defScope s_sum_of, [], []⟩
def d_sum_two : He5.DefA := ⟨fun K => ga K "sum_two", "sum_two", "sum_two", defArgs s_sum_two, defBody s_sum_two, defScope s_sum_two, [], []⟩
def d_is_less : He5.DefA := ⟨fun K => ga K "is_less", "is_less", "is_less", defArgs s_is_less, defBody s_is_less, defScope s_is_less, [], []⟩
def d_least_of : He5.DefA := ⟨fun K => ga K "least_of", "least_of", "least_of", defArgs s_least_of, defBody s_least_of, defScope s_least_of, [], []⟩
def d_number_in : He5.DefA := ⟨fun K => ga K "number_in", "number_in", "number_in", defArgs s_number_in, defBody s_number_in, defScope s_number_in, [], []⟩
def d_is_row_of : He5.DefA := ⟨fun K => ga K "is_row_of", "is_row_of", "is_row_of", defArgs s_is_row_of, defBody s_is_row_of, defScope s_is_row_of, [], []⟩
def d_InvalidTable_init : He5.DefA := ⟨fun K => ma K (ga K "InvalidTable") "__init__", "__init__", "InvalidTable.__init__", defArgs s_InvalidTable_init, defBody s_InvalidTable_init, defScope s_InvalidTable_init, [], []⟩
def d_InvalidEcho_init : He5.DefA := ⟨fun K => ma K (ga K "InvalidEcho") "__init__", "__init__", "InvalidEcho.__init__", defArgs s_InvalidEcho_init, defBody s_InvalidEcho_init, defScope s_InvalidEcho_init, [], []⟩
def d_InvalidSong_init : He5.DefA := ⟨fun K => ma K (ga K "InvalidSong") "__init__", "__init__", "InvalidSong.__init__", defArgs s_InvalidSong_init, defBody s_InvalidSong_init, defScope s_InvalidSong_init, [], []⟩
def d_InvalidRow_init : He5.DefA := ⟨fun K => ma K (ga K "InvalidRow") "__init__", "__init__", "InvalidRow.__init__", defArgs s_InvalidRow_init, defBody s_InvalidRow_init, defScope s_InvalidRow_init, [], []⟩
def d_InvalidWishes_init : He5.DefA := ⟨fun K => ma K (ga K "InvalidWishes") "__init__", "__init__", "InvalidWishes.__init__", defArgs s_InvalidWishes_init, defBody s_InvalidWishes_init, defScope s_InvalidWishes_init, [], []⟩
def d_InvalidPlace_init : He5.DefA := ⟨fun K => ma K (ga K "InvalidPlace") "__init__", "__init__", "InvalidPlace.__init__", defArgs s_InvalidPlace_init, defBody s_InvalidPlace_init, defScope s_InvalidPlace_init, [], []⟩
def d_InvalidNumber_init : He5.DefA := ⟨fun K => ma K (ga K "InvalidNumber") "__init__", "__init__", "InvalidNumber.__init__", defArgs s_InvalidNumber_init, defBody s_InvalidNumber_init, defScope s_InvalidNumber_init, [], []⟩
def d_InvalidText_init : He5.DefA := ⟨fun K => ma K (ga K "InvalidText") "__init__", "__init__", "InvalidText.__init__", defArgs s_InvalidText_init, defBody s_InvalidText_init, defScope s_InvalidText_init, [], []⟩
def d_OtherLetters_init : He5.DefA := ⟨fun K => ma K (ga K "OtherLetters") "__init__", "__init__", "OtherLetters.__init__", defArgs s_OtherLetters_init, defBody s_OtherLetters_init, defScope s_OtherLetters_init, [], []⟩
def d_Barred_init : He5.DefA := ⟨fun K => ma K (ga K "Barred") "__init__", "__init__", "Barred.__init__", defArgs s_Barred_init, defBody s_Barred_init, defScope s_Barred_init, [], []⟩
def d_TooLong_init : He5.DefA := ⟨fun K => ma K (ga K "TooLong") "__init__", "__init__", "TooLong.__init__", defArgs s_TooLong_init, defBody s_TooLong_init, defScope s_TooLong_init, [], []⟩
def d_TooFar_init : He5.DefA := ⟨fun K => ma K (ga K "TooFar") "__init__", "__init__", "TooFar.__init__", defArgs s_TooFar_init, defBody s_TooFar_init, defScope s_TooFar_init, [], []⟩
def d_are_rows : He5.DefA := ⟨fun K => ga K "are_rows", "are_rows", "are_rows", defArgs s_are_rows, defBody s_are_rows, defScope s_are_rows, [], []⟩
def d_need_letters : He5.DefA := ⟨fun K => ga K "need_letters", "need_letters", "need_letters", defArgs s_need_letters, defBody s_need_letters, defScope s_need_letters, [], []⟩
def d_need_like : He5.DefA := ⟨fun K => ga K "need_like", "need_like", "need_like", defArgs s_need_like, defBody s_need_like, defScope s_need_like, [], []⟩
def d_price_in : He5.DefA := ⟨fun K => ga K "price_in", "price_in", "price_in", defArgs s_price_in, defBody s_price_in, defScope s_price_in, [], []⟩
def d_Table_init : He5.DefA := ⟨fun K => ma K (ga K "Table") "__init__", "__init__", "Table.__init__", defArgs s_Table_init, defBody s_Table_init, defScope s_Table_init, [], []⟩
def d_Table_pairs : He5.DefA := ⟨fun K => wf K (ga K "Table") "classmethod" "pairs", "pairs", "Table.pairs", defArgs s_Table_pairs, defBody s_Table_pairs, defScope s_Table_pairs, [], []⟩
def d_Table_read : He5.DefA := ⟨fun K => wf K (ga K "Table") "staticmethod" "read", "read", "Table.read", defArgs s_Table_read, defBody s_Table_read, defScope s_Table_read, [], []⟩
def d_Table_rows : He5.DefA := ⟨fun K => wf K (ga K "Table") "property" "rows", "rows", "Table.rows", defArgs s_Table_rows, defBody s_Table_rows, defScope s_Table_rows, [], []⟩
def d_Table_letters : He5.DefA := ⟨fun K => wf K (ga K "Table") "property" "letters", "letters", "Table.letters", defArgs s_Table_letters, defBody s_Table_letters, defScope s_Table_letters, [], []⟩
def d_Table_text : He5.DefA := ⟨fun K => wf K (ga K "Table") "property" "text", "text", "Table.text", defArgs s_Table_text, defBody s_Table_text, defScope s_Table_text, [], []⟩
def d_Table_price : He5.DefA := ⟨fun K => ma K (ga K "Table") "price", "price", "Table.price", defArgs s_Table_price, defBody s_Table_price, defScope s_Table_price, [], []⟩
def d_Table_eq : He5.DefA := ⟨fun K => ma K (ga K "Table") "__eq__", "__eq__", "Table.__eq__", defArgs s_Table_eq, defBody s_Table_eq, defScope s_Table_eq, [], []⟩
def d_Table_mul : He5.DefA := ⟨fun K => ma K (ga K "Table") "__mul__", "__mul__", "Table.__mul__", defArgs s_Table_mul, defBody s_Table_mul, defScope s_Table_mul, [], []⟩
def d_Table_add : He5.DefA := ⟨fun K => ma K (ga K "Table") "__add__", "__add__", "Table.__add__", defArgs s_Table_add, defBody s_Table_add, defScope s_Table_add, [], []⟩
def d_Table_or : He5.DefA := ⟨fun K => ma K (ga K "Table") "__or__", "__or__", "Table.__or__", defArgs s_Table_or, defBody s_Table_or, defScope s_Table_or, [], []⟩
def d_Table_neg : He5.DefA := ⟨fun K => ma K (ga K "Table") "__neg__", "__neg__", "Table.__neg__", defArgs s_Table_neg, defBody s_Table_neg, defScope s_Table_neg, [], []⟩
def d_is_echo : He5.DefA := ⟨fun K => ga K "is_echo", "is_echo", "is_echo", defArgs s_is_echo, defBody s_is_echo, defScope s_is_echo, [], []⟩
def d_need_echoes : He5.DefA := ⟨fun K => ga K "need_echoes", "need_echoes", "need_echoes", defArgs s_need_echoes, defBody s_need_echoes, defScope s_need_echoes, [], []⟩
def d_Song_init : He5.DefA := ⟨fun K => ma K (ga K "Song") "__init__", "__init__", "Song.__init__", defArgs s_Song_init, defBody s_Song_init, defScope s_Song_init, [], []⟩
def d_Song_read : He5.DefA := ⟨fun K => wf K (ga K "Song") "staticmethod" "read", "read", "Song.read", defArgs s_Song_read, defBody s_Song_read, defScope s_Song_read, [], []⟩
def d_Song_letters : He5.DefA := ⟨fun K => wf K (ga K "Song") "property" "letters", "letters", "Song.letters", defArgs s_Song_letters, defBody s_Song_letters, defScope s_Song_letters, [], []⟩
def d_Song_length : He5.DefA := ⟨fun K => wf K (ga K "Song") "property" "length", "length", "Song.length", defArgs s_Song_length, defBody s_Song_length, defScope s_Song_length, [], []⟩
def d_Song_echoes : He5.DefA := ⟨fun K => wf K (ga K "Song") "property" "echoes", "echoes", "Song.echoes", defArgs s_Song_echoes, defBody s_Song_echoes, defScope s_Song_echoes, [], []⟩
def d_Song_delays : He5.DefA := ⟨fun K => wf K (ga K "Song") "property" "delays", "delays", "Song.delays", defArgs s_Song_delays, defBody s_Song_delays, defScope s_Song_delays, [], []⟩
def d_Song_is_near : He5.DefA := ⟨fun K => wf K (ga K "Song") "property" "is_near", "is_near", "Song.is_near", defArgs s_Song_is_near, defBody s_Song_is_near, defScope s_Song_is_near, [], []⟩
def d_Song_text : He5.DefA := ⟨fun K => wf K (ga K "Song") "property" "text", "text", "Song.text", defArgs s_Song_text, defBody s_Song_text, defScope s_Song_text, [], []⟩
def d_Song_with_echo : He5.DefA := ⟨fun K => ma K (ga K "Song") "with_echo", "with_echo", "Song.with_echo", defArgs s_Song_with_echo, defBody s_Song_with_echo, defScope s_Song_with_echo, [], []⟩
def d_Song_eq : He5.DefA := ⟨fun K => ma K (ga K "Song") "__eq__", "__eq__", "Song.__eq__", defArgs s_Song_eq, defBody s_Song_eq, defScope s_Song_eq, [], []⟩
def d_first_read : He5.DefA := ⟨fun K => ga K "first_read", "first_read", "first_read", defArgs s_first_read, defBody s_first_read, defScope s_first_read, [], []⟩
def d_next_read : He5.DefA := ⟨fun K => ga K "next_read", "next_read", "next_read", defArgs s_next_read, defBody s_next_read, defScope s_next_read, [], []⟩
def d_need_song : He5.DefA := ⟨fun K => ga K "need_song", "need_song", "need_song", defArgs s_need_song, defBody s_need_song, defScope s_need_song, [], []⟩
def d_need_near : He5.DefA := ⟨fun K => ga K "need_near", "need_near", "need_near", defArgs s_need_near, defBody s_need_near, defScope s_need_near, [], []⟩
def d_is_place : He5.DefA := ⟨fun K => ga K "is_place", "is_place", "is_place", defArgs s_is_place, defBody s_is_place, defScope s_is_place, [], []⟩
def d_fits_row : He5.DefA := ⟨fun K => ga K "fits_row", "fits_row", "fits_row", defArgs s_fits_row, defBody s_fits_row, defScope s_fits_row, [], []⟩
def d_need_row : He5.DefA := ⟨fun K => ga K "need_row", "need_row", "need_row", defArgs s_need_row, defBody s_need_row, defScope s_need_row, [], []⟩
def d_are_prices : He5.DefA := ⟨fun K => ga K "are_prices", "are_prices", "are_prices", defArgs s_are_prices, defBody s_are_prices, defScope s_are_prices, [], []⟩
def d_fits_wishes : He5.DefA := ⟨fun K => ga K "fits_wishes", "fits_wishes", "fits_wishes", defArgs s_fits_wishes, defBody s_fits_wishes, defScope s_fits_wishes, [], []⟩
def d_fits_fixed : He5.DefA := ⟨fun K => ga K "fits_fixed", "fits_fixed", "fits_fixed", defArgs s_fits_fixed, defBody s_fits_fixed, defScope s_fits_fixed, [], []⟩
def d_need_wishes : He5.DefA := ⟨fun K => ga K "need_wishes", "need_wishes", "need_wishes", defArgs s_need_wishes, defBody s_need_wishes, defScope s_need_wishes, [], []⟩
def d_is_row : He5.DefA := ⟨fun K => ga K "is_row", "is_row", "is_row", defArgs s_is_row, defBody s_is_row, defScope s_is_row, [], []⟩
def d_is_wishes : He5.DefA := ⟨fun K => ga K "is_wishes", "is_wishes", "is_wishes", defArgs s_is_wishes, defBody s_is_wishes, defScope s_is_wishes, [], []⟩
def d_is_fixed : He5.DefA := ⟨fun K => ga K "is_fixed", "is_fixed", "is_fixed", defArgs s_is_fixed, defBody s_is_fixed, defScope s_is_fixed, [], []⟩
def d_links_of : He5.DefA := ⟨fun K => ga K "links_of", "links_of", "links_of", defArgs s_links_of, defBody s_links_of, defScope s_links_of, [], []⟩
def d_link_price : He5.DefA := ⟨fun K => ga K "link_price", "link_price", "link_price", defArgs s_link_price, defBody s_link_price, defScope s_link_price, [], []⟩
def d_price : He5.DefA := ⟨fun K => ga K "price", "price", "price", defArgs s_price, defBody s_price, defScope s_price, [.non], []⟩
def d_faults : He5.DefA := ⟨fun K => ga K "faults", "faults", "faults", defArgs s_faults, defBody s_faults, defScope s_faults, [], []⟩
def d__law_pen : He5.DefA := ⟨fun K => ga K "_law_pen", "_law_pen", "_law_pen", defArgs s__law_pen, defBody s__law_pen, defScope s__law_pen, [], []⟩
def d__law_draw : He5.DefA := ⟨fun K => ga K "_law_draw", "_law_draw", "_law_draw", defArgs s__law_draw, defBody s__law_draw, defScope s__law_draw, [], []⟩
def d__law_pick : He5.DefA := ⟨fun K => ga K "_law_pick", "_law_pick", "_law_pick", defArgs s__law_pick, defBody s__law_pick, defScope s__law_pick, [], []⟩
def d__law_shuffled : He5.DefA := ⟨fun K => ga K "_law_shuffled", "_law_shuffled", "_law_shuffled", defArgs s__law_shuffled, defBody s__law_shuffled, defScope s__law_shuffled, [], []⟩
def d__law_rows : He5.DefA := ⟨fun K => ga K "_law_rows", "_law_rows", "_law_rows", defArgs s__law_rows, defBody s__law_rows, defScope s__law_rows, [], []⟩
def d__law_reach : He5.DefA := ⟨fun K => ga K "_law_reach", "_law_reach", "_law_reach", defArgs s__law_reach, defBody s__law_reach, defScope s__law_reach, [], []⟩
def d__law_plain : He5.DefA := ⟨fun K => ga K "_law_plain", "_law_plain", "_law_plain", defArgs s__law_plain, defBody s__law_plain, defScope s__law_plain, [], []⟩
def d__law_made : He5.DefA := ⟨fun K => ga K "_law_made", "_law_made", "_law_made", defArgs s__law_made, defBody s__law_made, defScope s__law_made, [], []⟩
def d__law_row : He5.DefA := ⟨fun K => ga K "_law_row", "_law_row", "_law_row", defArgs s__law_row, defBody s__law_row, defScope s__law_row, [], []⟩
def d__law_wishes : He5.DefA := ⟨fun K => ga K "_law_wishes", "_law_wishes", "_law_wishes", defArgs s__law_wishes, defBody s__law_wishes, defScope s__law_wishes, [], []⟩
def d__law_any_value : He5.DefA := ⟨fun K => ga K "_law_any_value", "_law_any_value", "_law_any_value", defArgs s__law_any_value, defBody s__law_any_value, defScope s__law_any_value, [], []⟩
def d__law_told : He5.DefA := ⟨fun K => ga K "_law_told", "_law_told", "_law_told", defArgs s__law_told, defBody s__law_told, defScope s__law_told, [], []⟩
def d__law_value_text : He5.DefA := ⟨fun K => ga K "_law_value_text", "_law_value_text", "_law_value_text", defArgs s__law_value_text, defBody s__law_value_text, defScope s__law_value_text, [], []⟩
def d_law : He5.DefA := ⟨fun K => ga K "law", "law", "law", defArgs s_law, defBody s_law, defScope s_law, [], []⟩
def fa0 : List Ft := [fun K => (He.Fa.glo "_wall").ok K,
  fun K => (He.Fa.glo "is_integer").ok K,
  fun K => (He.Fa.glo "is_list").ok K,
  fun K => (He.Fa.glo "is_price").ok K,
  fun K => (He.Fa.glo "sum_of").ok K,
  fun K => (He.Fa.glo "sum_two").ok K,
  fun K => (He.Fa.glo "is_less").ok K,
  fun K => (He.Fa.glo "least_of").ok K,
  fun K => (He.Fa.glo "number_in").ok K,
  fun K => (He.Fa.glo "is_row_of").ok K,
  fun K => (He.Fa.glo "are_rows").ok K,
  fun K => (He.Fa.glo "need_letters").ok K,
  fun K => (He.Fa.glo "need_like").ok K,
  fun K => (He.Fa.glo "price_in").ok K,
  fun K => (He.Fa.glo "is_echo").ok K,
  fun K => (He.Fa.glo "need_echoes").ok K,
  fun K => (He.Fa.glo "first_read").ok K,
  fun K => (He.Fa.glo "next_read").ok K,
  fun K => (He.Fa.glo "need_song").ok K,
  fun K => (He.Fa.glo "need_near").ok K,
  fun K => (He.Fa.glo "is_place").ok K,
  fun K => (He.Fa.glo "fits_row").ok K,
  fun K => (He.Fa.glo "need_row").ok K,
  fun K => (He.Fa.glo "are_prices").ok K,
  fun K => (He.Fa.glo "fits_wishes").ok K,
  fun K => (He.Fa.glo "fits_fixed").ok K,
  fun K => (He.Fa.glo "need_wishes").ok K,
  fun K => (He.Fa.glo "is_row").ok K,
  fun K => (He.Fa.glo "is_wishes").ok K,
  fun K => (He.Fa.glo "is_fixed").ok K]
def fa1 : List Ft := [fun K => (He.Fa.glo "links_of").ok K,
  fun K => (He.Fa.glo "link_price").ok K,
  fun K => (He.Fa.glo "price").ok K,
  fun K => (He.Fa.glo "faults").ok K,
  fun K => (He.Fa.glo "_law_pen").ok K,
  fun K => (He.Fa.glo "_law_draw").ok K,
  fun K => (He.Fa.glo "_law_pick").ok K,
  fun K => (He.Fa.glo "_law_shuffled").ok K,
  fun K => (He.Fa.glo "_law_rows").ok K,
  fun K => (He.Fa.glo "_law_reach").ok K,
  fun K => (He.Fa.glo "_law_plain").ok K,
  fun K => (He.Fa.glo "_law_made").ok K,
  fun K => (He.Fa.glo "_law_row").ok K,
  fun K => (He.Fa.glo "_law_wishes").ok K,
  fun K => (He.Fa.glo "_law_any_value").ok K,
  fun K => (He.Fa.glo "_law_told").ok K,
  fun K => (He.Fa.glo "_law_value_text").ok K,
  fun K => (He.Fa.glo "law").ok K,
  fun K => (He.Fa.glo "InvalidTable").ok K,
  fun K => (He.Fa.glo "InvalidEcho").ok K,
  fun K => (He.Fa.glo "InvalidSong").ok K,
  fun K => (He.Fa.glo "InvalidRow").ok K,
  fun K => (He.Fa.glo "InvalidWishes").ok K,
  fun K => (He.Fa.glo "InvalidPlace").ok K,
  fun K => (He.Fa.glo "InvalidNumber").ok K,
  fun K => (He.Fa.glo "InvalidText").ok K,
  fun K => (He.Fa.glo "OtherLetters").ok K,
  fun K => (He.Fa.glo "Barred").ok K,
  fun K => (He.Fa.glo "TooLong").ok K,
  fun K => (He.Fa.glo "TooFar").ok K]
def fa2 : List Ft := [fun K => (He.Fa.glo "Table").ok K,
  fun K => (He.Fa.glo "Song").ok K,
  fun K => (He.Fa.int "MAX_LETTERS" 5).ok K,
  fun K => (He.Fa.int "FARTHEST" (10 ^ 30)).ok K,
  fun K => (He.Fa.int "GREATEST" (10 ^ 30)).ok K,
  fun K => (He.Fa.int "MAX_DIGITS" 60).ok K,
  fun K => (He.Fa.str "DIGITS" "0123456789").ok K,
  fun K => (He.Fa.str "BETWEEN_ROWS" " / ").ok K,
  fun K => (He.Fa.str "BARRED" "-").ok K,
  fun K => (He.Fa.int "MAX_ECHOES" 2).ok K,
  fun K => (He.Fa.free "isinstance").ok K,
  fun K => (He.Fa.free "int").ok K,
  fun K => (He.Fa.free "bool").ok K,
  fun K => (He.Fa.free "list").ok K,
  fun K => (He.Fa.free "tuple").ok K,
  fun K => (He.Fa.free "dict").ok K,
  fun K => (He.Fa.free "str").ok K,
  fun K => (He.Fa.free "len").ok K,
  fun K => (He.Fa.free "all").ok K,
  fun K => (He.Fa.free "range").ok K,
  fun K => (He.Fa.free "zip").ok K,
  fun K => (He.Fa.free "enumerate").ok K,
  fun K => (He.Fa.free "sum").ok K,
  fun K => (He.Fa.free "min").ok K,
  fun K => (He.Fa.free "max").ok K,
  fun K => (He.Fa.free "abs").ok K,
  fun K => (He.Fa.free "repr").ok K,
  fun K => (He.Fa.free "sorted").ok K,
  fun K => (He.Fa.free "ValueError").ok K,
  fun K => (He.Fa.free "LookupError").ok K]
def fa3 : List Ft := [fun K => (He.Fa.free "OverflowError").ok K,
  fun K => (He.Fa.free "property").ok K,
  fun K => (He.Fa.free "classmethod").ok K,
  fun K => (He.Fa.free "staticmethod").ok K,
  fun K => (He.Fa.cls "Table").ok K,
  fun K => (He.Fa.mkr "Table").ok K,
  fun K => Ech.insB K (ga K "Table"),
  fun K => (He.Fa.noat "Table" "entries").ok K,
  fun K => PySem.W.selfFirst K (ga K "Table"),
  fun K => crdB K (ga K "Table"),
  fun K => conB K (ga K "Table") "MOST_LETTERS" 5,
  fun K => conB K (ga K "Table") "MOST_TIMES" 1000000000000000000000000000000,
  fun K => (He.Fa.meth "Table" "__init__").ok K,
  fun K => PySem.W.fnIn K (wf K (ga K "Table") "classmethod" "likeness"),
  fun K => wrapB K (ga K "Table") "classmethod" "classmethod.__get__" "likeness",
  fun K => PySem.W.fnIn K (wf K (ga K "Table") "classmethod" "silence"),
  fun K => wrapB K (ga K "Table") "classmethod" "classmethod.__get__" "silence",
  fun K => PySem.W.fnIn K (wf K (ga K "Table") "classmethod" "pairs"),
  fun K => wrapB K (ga K "Table") "classmethod" "classmethod.__get__" "pairs",
  fun K => wrapB K (ga K "Table") "staticmethod" "staticmethod.__get__" "read",
  fun K => Ech.propB K (ga K "Table") "rows",
  fun K => Ech.propB K (ga K "Table") "letters",
  fun K => Ech.propB K (ga K "Table") "text",
  fun K => (He.Fa.meth "Table" "price").ok K,
  fun K => (He.Fa.meth "Table" "again").ok K,
  fun K => (He.Fa.meth "Table" "__eq__").ok K,
  fun K => (He.Fa.meth "Table" "__mul__").ok K,
  fun K => (He.Fa.meth "Table" "__add__").ok K,
  fun K => (He.Fa.meth "Table" "__or__").ok K,
  fun K => (He.Fa.meth "Table" "__neg__").ok K]
def fa4 : List Ft := [fun K => (He.Fa.cls "Song").ok K,
  fun K => (He.Fa.mkr "Song").ok K,
  fun K => Ech.insB K (ga K "Song"),
  fun K => (He.Fa.noat "Song" "alphabet").ok K,
  fun K => (He.Fa.noat "Song" "size").ok K,
  fun K => (He.Fa.noat "Song" "voices").ok K,
  fun K => PySem.W.selfFirst K (ga K "Song"),
  fun K => crdB K (ga K "Song"),
  fun K => conB K (ga K "Song") "NEAR" 40,
  fun K => conB K (ga K "Song") "FARTHEST" 1000000000000000000000000000000,
  fun K => (He.Fa.meth "Song" "__init__").ok K,
  fun K => wrapB K (ga K "Song") "staticmethod" "staticmethod.__get__" "read",
  fun K => Ech.propB K (ga K "Song") "letters",
  fun K => Ech.propB K (ga K "Song") "length",
  fun K => Ech.propB K (ga K "Song") "echoes",
  fun K => Ech.propB K (ga K "Song") "delays",
  fun K => Ech.propB K (ga K "Song") "is_near",
  fun K => Ech.propB K (ga K "Song") "text",
  fun K => (He.Fa.meth "Song" "with_length").ok K,
  fun K => (He.Fa.meth "Song" "with_echo").ok K,
  fun K => (He.Fa.meth "Song" "without_echo").ok K,
  fun K => (He.Fa.meth "Song" "__eq__").ok K,
  fun K => errB K (ga K "InvalidSong") "value",
  fun K => errB K (ga K "InvalidRow") "value",
  fun K => errB K (ga K "InvalidWishes") "value",
  fun K => Ech.gerrB K (ga K "TooFar") "limit" "OverflowError" "OverflowError.__new__" "OverflowError.__init__" [.type "OverflowError", .type "ArithmeticError", .type "Exception", .type "BaseException", .type "object"],
  fun K => decide (PySem.W.kitOne K (.type "NoneType") (.ref (ga K "Song")) = some false),
  fun K => decide (PySem.W.kitOne K (.type "bool") (.ref (ga K "Song")) = some false),
  fun K => decide (PySem.W.kitOne K (.type "int") (.ref (ga K "Song")) = some false),
  fun K => decide (PySem.W.kitOne K (.type "str") (.ref (ga K "Song")) = some false)]
def fa5 : List Ft := [fun K => decide (PySem.W.kitOne K (.type "list") (.ref (ga K "Song")) = some false),
  fun K => decide (PySem.W.kitOne K (.type "tuple") (.ref (ga K "Song")) = some false),
  fun K => decide (PySem.W.kitOne K (.type "dict") (.ref (ga K "Song")) = some false),
  fun K => decide (PySem.W.kitOne K (.type "NoneType") (.ref (ga K "Table")) = some false),
  fun K => decide (PySem.W.kitOne K (.type "bool") (.ref (ga K "Table")) = some false),
  fun K => decide (PySem.W.kitOne K (.type "int") (.ref (ga K "Table")) = some false),
  fun K => decide (PySem.W.kitOne K (.type "str") (.ref (ga K "Table")) = some false),
  fun K => decide (PySem.W.kitOne K (.type "list") (.ref (ga K "Table")) = some false),
  fun K => decide (PySem.W.kitOne K (.type "tuple") (.ref (ga K "Table")) = some false),
  fun K => decide (PySem.W.kitOne K (.type "dict") (.ref (ga K "Table")) = some false),
  fun K => decide (PySem.W.exmOne K (.ref (ga K "InvalidSong")) (.ref (ga K "InvalidRow")) = some false),
  fun K => decide (PySem.W.exmOne K (.ref (ga K "InvalidSong")) (.ref (ga K "InvalidWishes")) = some false),
  fun K => decide (PySem.W.exmOne K (.ref (ga K "InvalidSong")) (.ref (ga K "InvalidPlace")) = some false),
  fun K => decide (PySem.W.exmOne K (.ref (ga K "InvalidSong")) (.ref (ga K "TooFar")) = some false),
  fun K => decide (PySem.W.exmOne K (.ref (ga K "InvalidSong")) (.ref (ga K "Barred")) = some false),
  fun K => decide (PySem.W.exmOne K (.ref (ga K "InvalidRow")) (.ref (ga K "InvalidSong")) = some false),
  fun K => decide (PySem.W.exmOne K (.ref (ga K "InvalidRow")) (.ref (ga K "InvalidWishes")) = some false),
  fun K => decide (PySem.W.exmOne K (.ref (ga K "InvalidRow")) (.ref (ga K "InvalidPlace")) = some false),
  fun K => decide (PySem.W.exmOne K (.ref (ga K "InvalidRow")) (.ref (ga K "TooFar")) = some false),
  fun K => decide (PySem.W.exmOne K (.ref (ga K "InvalidRow")) (.ref (ga K "Barred")) = some false),
  fun K => decide (PySem.W.exmOne K (.ref (ga K "InvalidWishes")) (.ref (ga K "InvalidSong")) = some false),
  fun K => decide (PySem.W.exmOne K (.ref (ga K "InvalidWishes")) (.ref (ga K "InvalidRow")) = some false),
  fun K => decide (PySem.W.exmOne K (.ref (ga K "InvalidWishes")) (.ref (ga K "InvalidPlace")) = some false),
  fun K => decide (PySem.W.exmOne K (.ref (ga K "InvalidWishes")) (.ref (ga K "TooFar")) = some false),
  fun K => decide (PySem.W.exmOne K (.ref (ga K "InvalidWishes")) (.ref (ga K "Barred")) = some false),
  fun K => decide (PySem.W.exmOne K (.ref (ga K "TooFar")) (.ref (ga K "InvalidSong")) = some false),
  fun K => decide (PySem.W.exmOne K (.ref (ga K "TooFar")) (.ref (ga K "InvalidRow")) = some false),
  fun K => decide (PySem.W.exmOne K (.ref (ga K "TooFar")) (.ref (ga K "InvalidWishes")) = some false),
  fun K => decide (PySem.W.exmOne K (.ref (ga K "TooFar")) (.ref (ga K "InvalidPlace")) = some false),
  fun K => decide (PySem.W.exmOne K (.ref (ga K "TooFar")) (.ref (ga K "Barred")) = some false)]
def fa6 : List Ft := [fun K => codeB K (ga K "law") 782,
  fun K => codeHdB K 782 780,
  fun K => (K.lookup 780).isNone]
def fa : List Ft := fa0 ++ fa1 ++ fa2 ++ fa3 ++ fa4 ++ fa5 ++ fa6
def fn0 : List He5.DefA := [d_is_integer, d_is_list, d_is_price, d_sum_of, d_sum_two, d_is_less, d_least_of, d_number_in, d_is_row_of, d_InvalidTable_init, d_InvalidEcho_init, d_InvalidSong_init, d_InvalidRow_init, d_InvalidWishes_init, d_InvalidPlace_init, d_InvalidNumber_init, d_InvalidText_init, d_OtherLetters_init, d_Barred_init, d_TooLong_init, d_TooFar_init, d_are_rows, d_need_letters, d_need_like, d_price_in, d_Table_init, d_Table_pairs, d_Table_read, d_Table_rows, d_Table_letters]
def fn1 : List He5.DefA := [d_Table_text, d_Table_price, d_Table_eq, d_Table_mul, d_Table_add, d_Table_or, d_Table_neg, d_is_echo, d_need_echoes, d_Song_init, d_Song_read, d_Song_letters, d_Song_length, d_Song_echoes, d_Song_delays, d_Song_is_near, d_Song_text, d_Song_with_echo, d_Song_eq, d_first_read, d_next_read, d_need_song, d_need_near, d_is_place, d_fits_row, d_need_row, d_are_prices, d_fits_wishes, d_fits_fixed, d_need_wishes]
def fn2 : List He5.DefA := [d_is_row, d_is_wishes, d_is_fixed, d_links_of, d_link_price, d_price, d_faults, d__law_pen, d__law_draw, d__law_pick, d__law_shuffled, d__law_rows, d__law_reach, d__law_plain, d__law_made, d__law_row, d__law_wishes, d__law_any_value, d__law_told, d__law_value_text, d_law]
def fn : List He5.DefA := fn0 ++ fn1 ++ fn2
def lo0 : List PySem.Str := ["_wall", "MAX_LETTERS", "FARTHEST", "GREATEST", "MAX_DIGITS", "DIGITS", "is_integer", "is_list", "is_price", "sum_of", "sum_two", "is_less", "least_of", "number_in", "is_row_of", "InvalidTable", "InvalidEcho", "InvalidSong", "InvalidRow", "InvalidWishes", "InvalidPlace", "InvalidNumber", "InvalidText", "OtherLetters", "Barred", "TooLong", "TooFar", "BETWEEN_ROWS", "BARRED", "are_rows"]
def lo1 : List PySem.Str := ["need_letters", "need_like", "price_in", "Table", "MAX_ECHOES", "is_echo", "need_echoes", "Song", "first_read", "next_read", "need_song", "need_near", "is_place", "fits_row", "need_row", "are_prices", "fits_wishes", "fits_fixed", "need_wishes", "is_row", "is_wishes", "is_fixed", "links_of", "link_price", "price", "faults", "_law_pen", "_law_draw", "_law_pick", "_law_shuffled"]
def lo2 : List PySem.Str := ["_law_rows", "_law_reach", "_law_plain", "_law_made", "_law_row", "_law_wishes", "_law_any_value", "_law_told", "_law_value_text"]
def lo : List PySem.Str := lo0 ++ lo1 ++ lo2
abbrev R : PySem.W.OpenRow := PySem.W.OpenLaw.row PySem.Challenge.rw_echofold_k36_errors_of_prices
def as0 : List Addr := [3, 6, 4, 21, 29, 36, 43, 50, 57, 64, 71, 76, 81, 98, 118, 138, 158, 178, 198, 218, 238, 258, 278, 298, 318, 326, 333, 340, 347, 463, 474, 479, 578, 589, 596, 603, 610, 617, 624, 631, 636, 641, 646, 653, 660, 667, 674, 679, 686, 692, 697, 704, 711, 718, 725, 730, 737, 742, 747, 752]
def as1 : List Addr := [757, 764, 771, 778, 783, 0, 20, 28, 22, 35, 42, 49, 56, 63, 70, 75, 80, 97, 117, 137, 157, 177, 197, 217, 237, 257, 277, 297, 317, 325, 332, 339, 346, 462, 473, 478, 577, 588, 595, 602, 609, 616, 623, 630, 635, 640, 645, 652, 659, 666, 673, 678, 685, 691, 687, 696, 703, 710, 717, 724]
def as2 : List Addr := [729, 736, 741, 746, 751, 756, 763, 770, 777, 782, 15, 16, 17, 18, 19, 23, 24, 25, 26, 27, 30, 31, 32, 33, 34, 37, 38, 39, 40, 41, 44, 45, 46, 47, 48, 51, 52, 53, 54, 55, 58, 59, 60, 61, 62, 65, 66, 67, 68, 69, 72, 73, 74, 77, 78, 79, 95, 96, 99, 115]
def as3 : List Addr := [116, 119, 135, 136, 139, 155, 156, 159, 175, 176, 179, 195, 196, 199, 215, 216, 219, 235, 236, 239, 255, 256, 259, 275, 276, 279, 295, 296, 299, 315, 316, 319, 322, 323, 324, 327, 328, 329, 330, 331, 334, 335, 336, 337, 338, 341, 342, 343, 344, 345, 359, 368, 378, 386, 394, 403, 411, 417, 424, 431]
def as4 : List Addr := [438, 443, 448, 453, 460, 461, 464, 465, 468, 469, 470, 471, 472, 475, 476, 477, 493, 502, 511, 519, 527, 533, 541, 547, 554, 561, 568, 575, 576, 579, 580, 583, 584, 585, 586, 587, 590, 591, 592, 593, 594, 597, 598, 599, 600, 601, 604, 605, 606, 607, 608, 611, 612, 613, 614, 615, 618, 619, 620, 621]
def as5 : List Addr := [622, 625, 626, 627, 628, 629, 632, 633, 634, 637, 638, 639, 642, 643, 644, 647, 648, 649, 650, 651, 654, 655, 656, 657, 658, 661, 662, 663, 664, 665, 668, 669, 670, 671, 672, 675, 676, 677, 680, 681, 682, 683, 684, 688, 689, 690, 693, 694, 695, 698, 699, 700, 701, 702, 705, 706, 707, 708, 709, 712]
def as6 : List Addr := [713, 714, 715, 716, 719, 720, 721, 722, 723, 726, 727, 728, 731, 732, 733, 734, 735, 738, 739, 740, 743, 744, 745, 748, 749, 750, 753, 754, 755, 758, 759, 760, 761, 762, 765, 766, 767, 768, 769, 772, 773, 774, 775, 776, 779, 781, 94, 114, 134, 154, 174, 194, 214, 234, 254, 274, 294, 314, 358, 366]
def as7 : List Addr := [367, 376, 377, 384, 385, 392, 393, 402, 410, 416, 423, 430, 437, 442, 447, 452, 459, 492, 500, 501, 510, 518, 526, 532, 540, 546, 553, 560, 567, 574, 89, 90, 91, 92, 93, 109, 110, 111, 112, 113, 129, 130, 131, 132, 133, 149, 150, 151, 152, 153, 169, 170, 171, 172, 173, 189, 190, 191, 192, 193]
def as8 : List Addr := [209, 210, 211, 212, 213, 229, 230, 231, 232, 233, 249, 250, 251, 252, 253, 269, 270, 271, 272, 273, 289, 290, 291, 292, 293, 309, 310, 311, 312, 313, 355, 356, 357, 365, 369, 375, 379, 383, 387, 391, 395, 401, 409, 415, 418, 419, 420, 421, 422, 425, 426, 427, 428, 429, 432, 433, 434, 435, 436, 439]
def as9 : List Addr := [440, 441, 444, 445, 446, 449, 450, 451, 454, 455, 456, 457, 458, 487, 488, 489, 490, 491, 499, 503, 509, 517, 525, 531, 539, 545, 548, 549, 550, 551, 552, 555, 556, 557, 558, 559, 562, 563, 564, 565, 566, 569, 570, 571, 572, 573, 360, 361, 362, 363, 364, 370, 371, 372, 373, 374, 380, 381, 382, 388]
def as10 : List Addr := [389, 390, 396, 397, 398, 399, 400, 404, 405, 406, 407, 408, 412, 413, 414, 494, 495, 496, 497, 498, 504, 505, 506, 507, 508, 512, 513, 514, 515, 516, 520, 521, 522, 523, 524, 528, 529, 530, 534, 535, 536, 537, 538, 542, 543, 544, 2]
def as_ : List Addr := as0 ++ (as1 ++ (as2 ++ (as3 ++ (as4 ++ (as5 ++ (as6 ++ (as7 ++ (as8 ++ (as9 ++ (as10))))))))))
def ts_ : List Addr := [780]
abbrev hk : PySem.W.Hook := hookT ts_ as_ fa fn
def ob (s : PySem.W.SharedT) : He.AlD := obsTG ts_ as_ fa fn (HandSHeadRun.getT s)
theorem ob_eq (s : PySem.W.SharedT) : ob s = hk.obs s.abs := obsTG_eq (HandSHeadRun.getT_eq s)
theorem run (w : World) : HandSHeadRun.RunEq R (PySem.W.view R.prog [76]) hk ob 20000 lo w := by
  intro os
  kernel_rfl
end k36

set_option maxHeartbeats 4000000
namespace Ech
open PySem PySem.Spec PyProof.Rows L2
open He (ga ma)
def rAddT (K : PySem.W.Frag) : R2 := fun x y H Q => match x, y with
  | .ref a, .ref b => ∃ xs ys, SqT K H a xs ∧ SqT K H b ys ∧ xs.length + ys.length ≤ sizeLine ∧ (xs = [] → Q (.ref b) H) ∧ (xs ≠ [] → ys = [] → Q (.ref a) H) ∧ (xs ≠ [] → ys ≠ [] → ∀ p H1, New H p (.tup (xs ++ ys)) H1 → Q (.ref p) H1)
  | _, _ => False
theorem k_addT {X : Cx} {K : PySem.W.Frag} (hK : X.K = K) : OpR X (binaryOp .Add) (rAddT K) := by
  subst hK
  refine op_wk op_catA fun x y H Q h => ?_
  unfold rAddT at h
  split at h
  · obtain ⟨xs, ys, h1, h2, h3, h4, h5, h6⟩ := h
    exact ⟨_, _, xs, ys, rfl, rfl, h1, h2, h3, h4, h5, fun a b p hp => h6 a b p _ ⟨hp, rfl⟩⟩
  · exact h.elim
end Ech

set_option maxHeartbeats 1000000
namespace Ech
open PySem PySem.Spec PyProof.Rows L2
open He (ga ma)
open LamX (Tabs TabS TabB CodeO ExtN LamS lamEnv lamCx lam_start2 run_ofS)
/-! ### a lambda that is held as a value -/
def LamAt (env : Env) (params : Arguments) (body : Expr) (scope : Scope) (f : Addr) (H : Hp) : Prop := ∃ (c' : Addr) (pm ctv : Value), H f = some (.frz (PySem.W.kla_obj "<lambda>" (env.qual ++ "<lambda>") params body scope (cloFrom env.cells scope.names []) pm c' ctv) (.ext fun _ => True)) ∧ H c' = some (CodeO c' (env.qual ++ "<lambda>"))
theorem LamAt.up {env : Env} {params : Arguments} {body : Expr} {scope : Scope} {f : Addr} {H H' : Hp} (h : LamAt env params body scope f H) (x : Ex H H') : LamAt env params body scope f H' := by
  obtain ⟨c', pm, ctv, h1, h2⟩ := h
  exact ⟨c', pm, ctv, x _ _ h1, x _ _ h2⟩
/-! ### where a lambda stands in a body -/
def NoLam (o : Option HO) : Prop := (∀ ob u, o ≠ some (.frz ob u)) ∧ ∀ c q, o ≠ some (CodeO c q)
theorem LamAt.step {env : Env} {params : Arguments} {body : Expr} {scope : Scope} {f x : Addr} {H H' : Hp} (h : LamAt env params body scope f H) (k : ∀ b o, b ≠ x → H b = some o → H' b = some o) (n : NoLam (H x)) : LamAt env params body scope f H' := by
  obtain ⟨c', pm, ctv, h1, h2⟩ := h
  exact ⟨c', pm, ctv, k _ _ (fun z => n.1 _ _ (by rw [← z]; exact h1)) h1, k _ _ (fun z => n.2 _ _ (by rw [← z]; exact h2)) h2⟩
section
variable {X : Cx} {pins : List (Addr × Obj)} {σ : L2.St} {H : Hp} {s : Shared}
end
section
variable {X : Cx}
end
section
variable {X : Cx} {pins : List (Addr × Obj)} {σ : L2.St} {H : Hp} {s : Shared}
end
/-! ### x(f), f one of the lambdas of this frame -/
section
variable {X : Cx}
end
/-! ### one object is changed, tables and pen stay -/
theorem Pen.step {K : PySem.W.Frag} {ku kr : PySem.Str} {G H H' : Hp} {p x : Addr} {b : Nat} (pn : Pen K ku kr G H p b) (k : ∀ b o, b ≠ x → H b = some o → H' b = some o) (ne : p ≠ x) : Pen K ku kr G H' p b := by
  obtain ⟨⟨kvs, c, ns, u, r, h1, h2, h3, h4, h5⟩, un⟩ := pn
  exact ⟨⟨kvs, c, ns, u, r, k _ _ ne h1, h2, h3, h4, h5⟩, un⟩
theorem Tb.step {T : List (Addr × PySem.Str)} {G H H' : Hp} {x : Addr} {xs : List V} (h : Tb T G H) (k : ∀ b o, b ≠ x → H b = some o → H' b = some o) (hx : H x = some (.lst xs)) : Tb T G H' := by
  refine ⟨fun t ht => ?_, h.un⟩
  obtain ⟨ps, e, e2, e3⟩ := h.tabs t ht
  refine ⟨ps, k _ _ (fun z => by rw [z, hx] at e; cases e) e, e2, fun pos cv hc => ?_⟩
  obtain ⟨c, q1, q2⟩ := e3 pos cv hc
  refine ⟨c, q1, k _ _ (fun z => ?_) q2⟩
  rw [z, hx] at q2
  unfold CodeO at q2
  cases q2
theorem Chg.keep {H H' : Hp} {p : Addr} {o : HO} (c : Chg H p o H') : ∀ b u, b ≠ p → H b = some u → H' b = some u := fun b u ne e => by
  rw [c.eq, upd_ne ne]
  exact e
end Ech

namespace Ech
open PySem PySem.Spec PyProof.Rows L2
open He (ga ma)

/-! ### what never changes, without the tables -/
def dropT (G : Hp) : Hp := fun b => match G b with
  | some (.tbl _) => none
  | o => o
theorem dropT_of {G : Hp} {b : Addr} {o : HO} (h : G b = some o) (n : ∀ ps, o ≠ .tbl ps) : dropT G b = some o := by
  unfold dropT
  rw [h]
  cases o with
  | tbl ps => exact absurd rfl (n ps)
  | _ => rfl
theorem dropT_ex {G : Hp} : Ex (dropT G) G := fun b o e => by
  unfold dropT at e
  cases h : G b with
  | none => rw [h] at e; cases e
  | some u =>
    rw [h] at e
    cases u with
    | tbl ps => cases e
    | _ => exact e
theorem dropT_sql {K : PySem.W.Frag} {G : Hp} {a : Addr} {xs : List V} (h : SqL K G a xs) : SqL K (dropT G) a xs := by
  rcases h with (h | ⟨o, h⟩) | h
  · exact .inl (.inl (dropT_of h (fun _ z => by cases z)))
  · exact .inl (.inr ⟨o, dropT_of h (fun _ z => by cases z)⟩)
  · exact .inr h
theorem Pen.dropT {K : PySem.W.Frag} {ku kr : PySem.Str} {G H : Hp} {p : Addr} {b : Nat} (h : Pen K ku kr G H p b) : Pen K ku kr (dropT G) H p b := by
  obtain ⟨⟨kvs, c, ns, u, r, h1, h2, h3, h4, h5⟩, un⟩ := h
  exact ⟨⟨kvs, c, ns, u, r, h1, h2, h3, dropT_sql h4, h5⟩, by unfold Ech.dropT; rw [un]⟩
theorem Tb.start {T : List (Addr × PySem.Str)} {G H H0 : Hp} (h : ∀ p ∈ T, H0 p.1 = some (.tbl #[])) (x : Ex H0 H) (g : Ex G H) : Tb T (dropT G) H := by
  refine ⟨fun p hp => LamX.TabS.nil (x _ _ (h p hp)), fun p hp => ?_⟩
  cases e : dropT G p.1 with
  | none => rfl
  | some o =>
    have e1 := g _ _ (dropT_ex _ _ e)
    rw [x _ _ (h p hp)] at e1
    cases e1
    unfold dropT at e
    split at e
    · cases e
    · rename_i n
      exact absurd e (fun e => n _ e)
/-! repr of a dict of ints -/
def IntKV (kv : Key × V) (w : Int × Int) : Prop := kv.1 = .inl w.1 ∧ kv.2 = .int w.2
def intD (ws : List (Int × Int)) : PyData := .dict (ws.map fun w => (PyData.int w.1, PyData.int w.2))
structure IntSm (ws : List (Int × Int)) : Prop where
  few : ws.length ≤ 60
  each : ∀ w ∈ ws, w.1.natAbs < 10 ^ 90 ∧ w.2.natAbs < 10 ^ 90
/-! ### values of any kind, with the text that repr makes of them -/
inductive AnyV (K : PySem.W.Frag) (H : Hp) : V → PySem.Str → Prop where
  | dat {v : V} {d : PyData} (h : Dp K H v d) (s : Shows d) : AnyV K H v d.shown
  | dct {a : Addr} (h : H a = some (.dK [])) : AnyV K H (.ref a) "{}"
  | dci {a : Addr} {kvs : List (Key × V)} {ws : List (Int × Int)} (h : H a = some (.dK kvs)) (p : Paired IntKV kvs ws) (m : IntSm ws) : AnyV K H (.ref a) (intD ws).shown
theorem AnyV.up {K : PySem.W.Frag} {H H' : Hp} {v : V} {s : PySem.Str} (x : Ex H H') (h : AnyV K H v s) : AnyV K H' v s := by
  cases h with
  | dat h s => exact .dat (dp_up x h) s
  | dct h => exact .dct (x _ _ h)
  | dci h p m => exact .dci (x _ _ h) p m
theorem isi_str {K : PySem.W.Frag} {H : Hp} {x : PySem.Str} {n : String} {b : Bool} (k : kitB "str" n = some b) : IsiOk K H (.str x) n b := .inl ⟨_, .base (.str x), kit_ty k⟩
theorem isi_dK {K : PySem.W.Frag} {H : Hp} {a : Addr} {kvs : List (Key × V)} {n : String} {b : Bool} (h : H a = some (.dK kvs)) (k : kitB "dict" n = some b) : IsiOk K H (.ref a) n b := .inl ⟨_, .base (.dK h), kit_ty k⟩
def isIv : V → Bool
  | .int _ => true
  | .bl _ => true
  | _ => false
def isBv : V → Bool
  | .bl _ => true
  | _ => false
theorem AnyV.isi {K : PySem.W.Frag} {H : Hp} {v : V} {s : PySem.Str} (h : AnyV K H v s) : IsiOk K H v "int" (isIv v) ∧ IsiOk K H v "bool" (isBv v) := by
  cases h with
  | dct h => exact ⟨isi_dK h (b := false) (by decide +kernel), isi_dK h (b := false) (by decide +kernel)⟩
  | dci h p m => exact ⟨isi_dK h (b := false) (by decide +kernel), isi_dK h (b := false) (by decide +kernel)⟩
  | dat h s =>
    cases h with
    | non => exact ⟨isi_non_int, isi_non_bool⟩
    | bl b => exact ⟨isi_bl_int, isi_bl_bool⟩
    | int i => exact ⟨isi_int_int, isi_int_bool⟩
    | str x => exact ⟨isi_str (b := false) (by decide +kernel), isi_str (b := false) (by decide +kernel)⟩
    | lst h _ => exact ⟨isi_lst h (b := false) (by decide +kernel), isi_lst h (b := false) (by decide +kernel)⟩
    | tup h _ => exact ⟨isi_tup h (b := false) (by decide +kernel), isi_tup h (b := false) (by decide +kernel)⟩
/-! ### x //= y -/
/-! ### a table composed of itself -/
/-! ### o.m(k = v, ..) -/
section
variable {X : Cx} {CX : CXT} {k : Nat} {f C : Addr} {fd : FuncData} {ps ks : List PySem.Str} {sp : Sp} {E : XK} {m : PySem.Str} {pos apos : Pos} {o : Expr} {kws : List Keyword} {ta : TE} {tk : TA} {is : List Nat}
end
end Ech

/-! values of any kind are no objects of an own class -/
namespace Ech
open PySem PySem.Spec PyProof.Rows L2
structure NoKin (K : PySem.W.Frag) (C : Addr) : Prop where
  none : PySem.W.kitOne K (.type "NoneType") (.ref C) = some false
  bool : PySem.W.kitOne K (.type "bool") (.ref C) = some false
  int : PySem.W.kitOne K (.type "int") (.ref C) = some false
  str : PySem.W.kitOne K (.type "str") (.ref C) = some false
  list : PySem.W.kitOne K (.type "list") (.ref C) = some false
  tuple : PySem.W.kitOne K (.type "tuple") (.ref C) = some false
  dict : PySem.W.kitOne K (.type "dict") (.ref C) = some false
theorem ty_tup {K : PySem.W.Frag} {H : Hp} {a : Addr} {xs : List V} (h : SqT K H a xs) : TyX K H (.ref a) (.type "tuple") := by
  rcases h with (h | ⟨o, h⟩) | ⟨o, its, m, h, hc, _⟩
  · exact .base (.tup h)
  · exact .fTuple h
  · exact .kTuple h hc
theorem ty_lst {K : PySem.W.Frag} {H : Hp} {a : Addr} {xs : List V} (h : SqL K H a xs) : TyX K H (.ref a) (.type "list") := by
  rcases h with (h | ⟨o, h⟩) | ⟨o, its, m, h, hc, _⟩
  · exact .base (.lst h)
  · exact .base (.frz h)
  · exact .kList h hc
theorem AnyV.own {K : PySem.W.Frag} {H : Hp} {v : V} {s : PySem.Str} (h : AnyV K H v s) {C : Addr} (k : NoKin K C) : ∃ t, TyX K H v t ∧ PySem.W.kitOne K t (.ref C) = some false := by
  cases h with
  | dct h => exact ⟨_, .base (.dK h), k.dict⟩
  | dci h _ _ => exact ⟨_, .base (.dK h), k.dict⟩
  | dat h s =>
    cases h with
    | non => exact ⟨_, .base .non, k.none⟩
    | bl b => exact ⟨_, .base (.bl b), k.bool⟩
    | int i => exact ⟨_, .base (.int i), k.int⟩
    | str x => exact ⟨_, .base (.str x), k.str⟩
    | lst h _ => exact ⟨_, ty_lst h, k.list⟩
    | tup h _ => exact ⟨_, ty_tup h, k.tuple⟩
theorem AnyV.not_own {K : PySem.W.Frag} {H : Hp} {v : V} {s : PySem.Str} {Q : VK} (h : AnyV K H v s) {C : Addr} (k : NoKin K C) (q : Q (.bl false) H) : rIsiU K [v, .ref C] H Q := by
  obtain ⟨t, h1, h2⟩ := h.own k
  exact Or.inl ⟨v, .ref C, t, .ref C, false, rfl, .own C, h1, h2, q⟩
end Ech

/-! values of any kind: dicts with keys of several kinds, lists and tuples of them; what repr and isinstance tell of them -/
namespace Ech
open PySem PySem.Spec PyProof.Rows L2
open He (ga ma)
section
variable {X : Cx} {pos : Pos} {keys : List (Option Expr)} {values : List Expr} {trs : List (TE × TE)}
def uDispB (trs : List (TE × TE)) : TE := fun σ H Q => ∀ p, H p = none → tPairs trs σ (upd H p (.dK [])) fun ps H2 => H2 p = some (.dK []) ∧ ∃ (b : Bool) (v : V), ps = [(.bl b, v)] ∧ Q (.ref p) (upd H2 p (BdD p [(b, v)]))
theorem pe_dispB (h : PPs X pos keys values trs) (hall : keys.all (·.isSome) = true) (hl : keys.length = values.length) (h0 : keys ≠ []) (h15 : keys.length ≤ 15) : PE X (.Dict keys values pos) (uDispB trs) := by
  refine ⟨fun pins s σ H Q I q => ?_⟩
  have hn := I.hok.fresh (Nat.le_refl s.heap.objs.size)
  have I1 := I.laid (a := s.heap.objs.size) (o := .dK []) (h' := s.heap.push { cls := .type "dict", data := .dict #[] }) (t' := s.toks) (fun _ _ q => Heap.get?_push_of_some _ q) (Nat.le_refl _) (dk_empty s.heap I.big)
  refine wpAny_Dict_walk (knd := PpSet.boolK X.prog X.w) hall hl h0 h15 (thn (h.run pins _ σ _ _ I1 (q _ hn)) fun ws s2 ⟨ps, H2, I2, rel, e, b, v, ep, q2⟩ => ?_)
  subst ep
  cases rel with
  | @cons pq uw _ ws' r t =>
    cases t
    obtain ⟨ra, rb⟩ := r
    obtain ⟨z, hd, vs0, r0, dd⟩ := dk_of I2.hok e
    cases r0
    obtain ⟨o, es, epn, ho, ex, hdat, ko, prs, nd⟩ := dd
    have e0 : es.toList = [] := List.length_eq_zero_iff.mp (Pairs.length prs)
    have dd' : s2.heap.DictOf (PpSet.boolK X.prog X.w) s.heap.objs.size [] := ⟨o, es, epn, ho, ex, hdat, (fun en he => by rw [← Array.mem_toList_iff, e0] at he; cases he), (by rw [e0]; exact .nil), List.nodup_nil⟩
    have ra' : uw.1 = Value.bool b := ra
    refine ⟨[(b, uw.2)], ⟨by rw [ra']; exact PpSet.boolK_is _ _ _, rfl, True.intro⟩, dd', fun h' dd2 hs => ⟨.ref s.heap.objs.size, _, ?_, rfl, q2⟩⟩
    obtain ⟨o2, es2, ep2, ho2, ex2, hdat2, ko2, prs2, nd2⟩ := dd2
    refine d_write I2 (by rw [e]; exact True.intro) hs ⟨o2, ho2⟩ (bd_ok hd ho2 ex2 hdat2 ?_)
    have prs3 : PySem.Pairs (PpSet.boolK X.prog X.w) es2.toList [(b, uw.2)] := prs2
    generalize es2.toList = l at prs3
    cases prs3 with
    | cons k1 k2 k3 =>
      cases k3
      exact .cons ⟨PpSet.isB_shape k1, by rw [k2]; exact rb⟩ .nil
end
section
variable {prog : Program} {w : World} {A : Around} {E : Value → Shared → Prop} {s : Shared}
end
section
variable {X : Cx} {pos : Pos} {keys : List (Option Expr)} {values : List Expr} {trs : List (TE × TE)}
end
/-! ### values as data -/
def keyD : Key → PyData
  | .inl i => .int i
  | .inr x => .str x
mutual
/-- a value and what it tells as data; f: its lists are known to be none of the interpreter's own -/
inductive Dq (K : PySem.W.Frag) (H : Hp) (f : Bool) : V → PyData → Prop
  | non : Dq K H f .non .none
  | bl (b : Bool) : Dq K H f (.bl b) (.bool b)
  | int (i : Int) : Dq K H f (.int i) (.int i)
  | str (x : PySem.Str) : Dq K H f (.str x) (.str x)
  | lst {a : Addr} {xs : List V} {ds : List PyData} : SqL K H a xs → (f = true → (a == sysModules) = false) → DqAll K H f xs ds → Dq K H f (.ref a) (.list ds)
  | tup {a : Addr} {xs : List V} {ds : List PyData} : SqT K H a xs → DqAll K H f xs ds → Dq K H f (.ref a) (.tuple ds)
  | dct {a : Addr} {kvs : List (Key × V)} {ds : List PyData} : Rd H a (.dK kvs) → ((kvs.map (·.1)).Nodup ∧ kvs.length ≤ 1000) → DqAll K H f (kvs.map (·.2)) ds → Dq K H f (.ref a) (.dict ((kvs.map fun p => keyD p.1).zip ds))
  | dtu {a : Addr} {kvs : List (List Key × V)} {ds : List PyData} : Rd H a (.dT kvs) → (kvs ≠ [] ∧ kvs.length ≤ 1000) → DqAll K H f (kvs.map (·.2)) ds → Dq K H f (.ref a) (.dict ((kvs.map fun p => PyData.tuple (p.1.map keyD)).zip ds))
  | dbo {a : Addr} {kvs : List (Bool × V)} {ds : List PyData} : Rd H a (BdD a kvs) → (kvs ≠ [] ∧ kvs.length ≤ 1000) → DqAll K H f (kvs.map (·.2)) ds → Dq K H f (.ref a) (.dict ((kvs.map fun p => PyData.bool p.1).zip ds))
inductive DqAll (K : PySem.W.Frag) (H : Hp) (f : Bool) : List V → List PyData → Prop
  | nil : DqAll K H f [] []
  | cons {v : V} {vs : List V} {d : PyData} {ds : List PyData} : Dq K H f v d → DqAll K H f vs ds → DqAll K H f (v :: vs) (d :: ds)
end
theorem rd_ex {H H' : Hp} {a : Addr} {u : HO} (x : Ex H H') (h : Rd H a u) : Rd H' a u := h.elim (fun z => .inl (x _ _ z)) fun z => .inr (z.elim fun o y => ⟨o, x _ _ y⟩)
mutual
theorem Dq.up {K : PySem.W.Frag} {H H' : Hp} {f : Bool} (x : Ex H H') : ∀ {v : V} {d : PyData}, Dq K H f v d → Dq K H' f v d
  | _, _, .non => .non
  | _, _, .bl b => .bl b
  | _, _, .int i => .int i
  | _, _, .str y => .str y
  | _, _, .lst h z a => .lst (Evl.ex_l x h) z (DqAll.up x a)
  | _, _, .tup h a => .tup (Evl.ex_t x h) (DqAll.up x a)
  | _, _, .dct h n a => .dct (rd_ex x h) n (DqAll.up x a)
  | _, _, .dtu h n a => .dtu (rd_ex x h) n (DqAll.up x a)
  | _, _, .dbo h n a => .dbo (rd_ex x h) n (DqAll.up x a)
theorem DqAll.up {K : PySem.W.Frag} {H H' : Hp} {f : Bool} (x : Ex H H') : ∀ {vs : List V} {ds : List PyData}, DqAll K H f vs ds → DqAll K H' f vs ds
  | _, _, .nil => .nil
  | _, _, .cons h t => .cons (Dq.up x h) (DqAll.up x t)
end
mutual
theorem Dq.weak {K : PySem.W.Frag} {H : Hp} {f : Bool} : ∀ {v : V} {d : PyData}, Dq K H f v d → Dq K H false v d
  | _, _, .non => .non
  | _, _, .bl b => .bl b
  | _, _, .int i => .int i
  | _, _, .str y => .str y
  | _, _, .lst h _ a => .lst h (fun z => nomatch z) (DqAll.weak a)
  | _, _, .tup h a => .tup h (DqAll.weak a)
  | _, _, .dct h n a => .dct h n (DqAll.weak a)
  | _, _, .dtu h n a => .dtu h n (DqAll.weak a)
  | _, _, .dbo h n a => .dbo h n (DqAll.weak a)
theorem DqAll.weak {K : PySem.W.Frag} {H : Hp} {f : Bool} : ∀ {vs : List V} {ds : List PyData}, DqAll K H f vs ds → DqAll K H false vs ds
  | _, _, .nil => .nil
  | _, _, .cons h t => .cons (Dq.weak h) (DqAll.weak t)
end
mutual
theorem Dq.ofDp {K : PySem.W.Frag} {H : Hp} : ∀ {v : V} {d : PyData}, Dp K H v d → Dq K H false v d
  | _, _, .non => .non
  | _, _, .bl b => .bl b
  | _, _, .int i => .int i
  | _, _, .str y => .str y
  | _, _, .lst h a => .lst h (fun z => nomatch z) (DqAll.ofDp a)
  | _, _, .tup h a => .tup h (DqAll.ofDp a)
theorem DqAll.ofDp {K : PySem.W.Frag} {H : Hp} : ∀ {vs : List V} {ds : List PyData}, DpAll K H vs ds → DqAll K H false vs ds
  | _, _, .nil => .nil
  | _, _, .cons h t => .cons (Dq.ofDp h) (DqAll.ofDp t)
end
theorem dqAll_len {K : PySem.W.Frag} {H : Hp} {f : Bool} : ∀ {vs : List V} {ds : List PyData}, DqAll K H f vs ds → vs.length = ds.length
  | _, _, .nil => rfl
  | _, _, .cons _ t => by rw [List.length_cons, List.length_cons, dqAll_len t]
theorem dqAll_at {K : PySem.W.Frag} {H : Hp} {f : Bool} : ∀ {vs : List V} {ds : List PyData} {i : Nat} {v : V}, DqAll K H f vs ds → vs[i]? = some v → ∃ d, ds[i]? = some d ∧ Dq K H f v d
  | _, _, _, _, .nil, h => by cases h
  | _, _, 0, _, .cons a _, h => by cases h; exact ⟨_, rfl, a⟩
  | _, _, i + 1, _, .cons _ t, h => dqAll_at (i := i) t h
/-! ### reading them -/
section
variable {X : Cx} {pins : List (Addr × Obj)} {σ : L2.St} {H : Hp} {s : Shared} {f : Bool}
theorem key_reads {h : Heap} {k : Key} {v : Value} (r : keyIs k v = true) : Reads h v (keyD k) [] := by
  rcases keyIs_shape r with ⟨i, t, rfl, rfl⟩ | ⟨x, t, rfl, rfl⟩
  · exact .int _ _
  · exact .str _ _
theorem keys_reads {h : Heap} : ∀ {kvs : List (Key × V)} {vs : List (Key × Value)} {es : List DictEntry}, KV kvs vs → PySem.Pairs (mixKind X.prog X.w) es vs →
    ReadsAll h (es.map (·.key)) (kvs.map fun p => keyD p.1) [] ∧ Vals (kvs.map (·.2)) (es.map (·.val))
  | _, _, _, .nil, .nil => ⟨.nil, .nil⟩
  | _, _, _, .cons k kt, .cons e1 e2 et => by
    obtain ⟨ih1, ih2⟩ := keys_reads (h := h) kt et
    rename_i kv w _ _ de _
    refine ⟨.cons (as := []) (bs := []) ?_ ih1, .cons ?_ ih2⟩
    · have e1 : keyIs w.1 de.key = true := e1
      rw [← k.1] at e1
      exact key_reads e1
    · show RelV kv.2 de.val
      rw [e2]
      exact k.2
theorem tup_reads {h : Heap} (hok : HOk X.prog X.w H h) {b : Addr} {ks : List Key} (e : H b = some (.tup (ks.map kV))) : Reads h (.ref b) (.tuple (ks.map keyD)) [] := by
  obtain ⟨_, its, r, o, h1, h2, n, h3⟩ := (show ObjOk X.prog X.w H h b (.tup (ks.map kV)) from hok b _ e)
  refine .tuple h1 h2 h3 ?_
  have key : ∀ {ks : List Key} {us : List Value}, Vals (ks.map kV) us → ReadsAll h us (ks.map keyD) [] := by
    intro ks
    induction ks with
    | nil => intro us r; cases r; exact .nil
    | cons k ks ih =>
      intro us r
      cases r with
      | @cons _ u _ us' r1 r2 =>
        refine .cons (as := []) (bs := []) ?_ (ih r2)
        cases k with
        | inl i => obtain ⟨t, rfl⟩ := (show ∃ t, u = Value.int i t from r1); exact .int _ _
        | inr x => obtain ⟨t, rfl⟩ := (show ∃ t, u = Value.str x t from r1); exact .str _ _
  have := key r
  simpa using this
theorem tkeys_reads {h : Heap} (hok : HOk X.prog X.w H h) : ∀ {kvs : List (List Key × V)} {xs : List (List Key × Addr × Value)}, Paired (fun (p : List Key × V) (q : List Key × Addr × Value) => p.1 = q.1 ∧ H q.2.1 = some (.tup (p.1.map kV)) ∧ RelV p.2 q.2.2) kvs xs →
    ReadsAll h ((xs.map (entryOfKey (tupleKind (mixKind X.prog X.w)))).map (·.key)) (kvs.map fun p => PyData.tuple (p.1.map keyD)) [] ∧ Vals (kvs.map (·.2)) ((xs.map (entryOfKey (tupleKind (mixKind X.prog X.w)))).map (·.val))
  | _, _, .nil => ⟨.nil, .nil⟩
  | _, _, .cons k kt => by
    obtain ⟨ih1, ih2⟩ := tkeys_reads hok kt
    exact ⟨.cons (as := []) (bs := []) (tup_reads hok k.2.1) ih1, .cons k.2.2 ih2⟩
theorem bkeys_reads {h : Heap} : ∀ {kvs : List (Bool × V)} {es : List DictEntry}, BKV kvs es → ReadsAll h (es.map (·.key)) (kvs.map fun p => PyData.bool p.1) [] ∧ Vals (kvs.map (·.2)) (es.map (·.val))
  | _, _, .nil => ⟨.nil, .nil⟩
  | _, _, .cons k kt => by
    obtain ⟨ih1, ih2⟩ := bkeys_reads (h := h) kt
    rename_i p de _ _
    refine ⟨.cons (as := []) (bs := []) ?_ ih1, .cons k.2 ih2⟩
    show Reads h de.key (.bool p.1) []
    rw [k.1]
    exact .bool _
theorem zip_fst {ks ds : List PyData} (h : ks.length = ds.length) : (ks.zip ds).map (·.1) = ks := List.map_fst_zip (Nat.le_of_eq h)
theorem zip_snd {ks ds : List PyData} (h : ks.length = ds.length) : (ks.zip ds).map (·.2) = ds := List.map_snd_zip (Nat.le_of_eq h.symm)
mutual
theorem Dq.reads (I : Inv X pins σ H s) : ∀ {v : V} {d : PyData}, Dq X.K H f v d → ∀ {u : Value}, RelV v u → ∃ as, Reads s.heap u d as ∧ (f = true → sysModules ∉ as)
  | _, _, .non, u, r => by cases r; exact ⟨_, .none, fun _ h => nomatch h⟩
  | _, _, .bl b, u, r => by cases r; exact ⟨_, .bool b, fun _ h => nomatch h⟩
  | _, _, .int i, u, r => by obtain ⟨t, rfl⟩ := r; exact ⟨_, .int i t, fun _ h => nomatch h⟩
  | _, _, .str x, u, r => by obtain ⟨t, rfl⟩ := r; exact ⟨_, .str x t, fun _ h => nomatch h⟩
  | _, _, .lst hs z ha, u, r => by
    cases r
    obtain ⟨its, rv, ⟨o, n, ho, hc, _, hd⟩, _⟩ := I.list hs
    obtain ⟨as, hr, hn⟩ := DqAll.reads I ha rv
    refine ⟨_, .list ho hc hd hr, fun hf h => ?_⟩
    rcases List.mem_cons.mp h with e | h
    · have := z hf
      rw [← e] at this
      exact absurd this (by decide)
    · exact hn hf h
  | _, _, .tup hs ha, u, r => by
    cases r
    obtain ⟨its, rv, ⟨o, ho, hc, n, hd⟩, _⟩ := I.tuple hs
    obtain ⟨as, hr, hn⟩ := DqAll.reads I ha rv
    exact ⟨_, .tuple ho hc hd hr, hn⟩
  | _, _, .dct (a := a) h _ ha, u, r => by
    cases r
    obtain ⟨_, nsys, vs, kv, o, es, ep, ho, ex, hdat, _, prs, _⟩ := dk_rd I.hok h
    obtain ⟨r1, r2⟩ := keys_reads (h := s.heap) kv prs
    obtain ⟨as, hr, hn⟩ := DqAll.reads I ha r2
    have l := dqAll_len ha
    rw [List.length_map] at l
    refine ⟨_, .dict (as := []) (bs := as) ho ex.1 hdat (by rw [zip_fst (by rw [List.length_map]; exact l)]; exact r1) (by rw [zip_snd (by rw [List.length_map]; exact l)]; exact hr), fun hf h => ?_⟩
    rcases List.mem_cons.mp h with e | h
    · rw [← e] at nsys
      exact absurd nsys (by decide)
    · exact hn hf h
  | _, _, .dtu (a := a) h _ ha, u, r => by
    cases r
    obtain ⟨_, nsys, xs, kt, o, es, ep, ho, ex, hdat, he, _⟩ := (show ObjOk X.prog X.w H s.heap a (.dT _) from rd_of I.hok h)
    obtain ⟨r1, r2⟩ := tkeys_reads (X := X) I.hok kt
    rw [← he] at r1 r2
    obtain ⟨as, hr, hn⟩ := DqAll.reads I ha r2
    have l := dqAll_len ha
    rw [List.length_map] at l
    refine ⟨_, .dict (as := []) (bs := as) ho ex.1 hdat (by rw [zip_fst (by rw [List.length_map]; exact l)]; exact r1) (by rw [zip_snd (by rw [List.length_map]; exact l)]; exact hr), fun hf h => ?_⟩
    rcases List.mem_cons.mp h with e | h
    · rw [← e] at nsys
      exact absurd nsys (by decide)
    · exact hn hf h
  | _, _, .dbo (a := a) h _ ha, u, r => by
    cases r
    obtain ⟨nsys, o, es, ep, ho, ex, hdat, kb⟩ := (show ObjOk X.prog X.w H s.heap a (BdD a _) from rd_of I.hok h).1
    obtain ⟨r1, r2⟩ := bkeys_reads (h := s.heap) kb
    obtain ⟨as, hr, hn⟩ := DqAll.reads I ha r2
    have l := dqAll_len ha
    rw [List.length_map] at l
    refine ⟨_, .dict (as := []) (bs := as) ho ex.1 hdat (by rw [zip_fst (by rw [List.length_map]; exact l)]; exact r1) (by rw [zip_snd (by rw [List.length_map]; exact l)]; exact hr), fun hf h => ?_⟩
    rcases List.mem_cons.mp h with e | h
    · rw [← e] at nsys
      exact absurd nsys (by decide)
    · exact hn hf h
theorem DqAll.reads (I : Inv X pins σ H s) : ∀ {vs : List V} {ds : List PyData}, DqAll X.K H f vs ds → ∀ {us : List Value}, Vals vs us → ∃ as, ReadsAll s.heap us ds as ∧ (f = true → sysModules ∉ as)
  | _, _, .nil, us, r => by cases r; exact ⟨_, .nil, fun _ h => nomatch h⟩
  | _, _, .cons h t, us, r => by
    cases r with
    | cons r1 r2 =>
      obtain ⟨as, q1, n1⟩ := Dq.reads I h r1
      obtain ⟨bs, q2, n2⟩ := DqAll.reads I t r2
      refine ⟨_, .cons q1 q2, fun hf h => ?_⟩
      rcases List.mem_append.mp h with h | h
      · exact n1 hf h
      · exact n2 hf h
end
end
/-! ### small enough to be told -/
structure SmQ (k n : Nat) (d : PyData) : Prop where
  sh : d.showable = true
  dp : d.depth ≤ k
  lv : d.leavesShort 91 = true
  w : d.weight ≤ n
theorem SmQ.up {k n k' n' : Nat} {d : PyData} (h : SmQ k n d) (hk : k ≤ k') (hn : n ≤ n') : SmQ k' n' d := ⟨h.sh, Nat.le_trans h.dp hk, h.lv, Nat.le_trans h.w hn⟩
theorem SmQ.ofSm {k n : Nat} {d : PyData} (h : Sm k n d) : SmQ k n d := ⟨h.sh, h.dp, h.lv, h.w⟩
theorem smq_all {k n : Nat} : ∀ {ds : List PyData}, (∀ d ∈ ds, SmQ k n d) → PyData.showableAll ds = true ∧ PyData.depthAll ds ≤ k ∧ PyData.leavesShortAll 91 ds = true ∧ PyData.weightAll ds ≤ ds.length * (n + 1)
  | [], _ => ⟨by simp [PyData.showableAll], by simp [PyData.depthAll], by simp [PyData.leavesShortAll], by simp [PyData.weightAll]⟩
  | d :: ds, h => by
    obtain ⟨a, b, c, e⟩ := smq_all (ds := ds) fun x hx => h x (List.mem_cons_of_mem _ hx)
    obtain ⟨p, q, r, t⟩ := h d (List.mem_cons_self ..)
    refine ⟨by simp [PyData.showableAll, a, p], ?_, by simp [PyData.leavesShortAll, c, r], ?_⟩
    · simp only [PyData.depthAll]; omega
    · simp only [PyData.weightAll, List.length_cons]
      rw [Nat.succ_mul]
      omega
theorem smq_tup {k n : Nat} {ds : List PyData} (m : Nat) (hm : ds.length ≤ m) (h : ∀ d ∈ ds, SmQ k n d) : SmQ (k + 1) (m * (n + 1)) (.tuple ds) := by
  obtain ⟨a, b, c, e⟩ := smq_all h
  exact ⟨by simpa [PyData.showable] using a, by simp only [PyData.depth]; omega, by simpa [PyData.leavesShort] using c, by
    simp only [PyData.weight]; exact Nat.le_trans e (Nat.mul_le_mul_right _ hm)⟩
structure AnyQ (K : PySem.W.Frag) (H : Hp) (f : Bool) (k n : Nat) (v : V) (d : PyData) : Prop where
  dq : Dq K H f v d
  fd : d.hasDict = true → f = true
  sm : SmQ k n d
theorem AnyQ.up {K : PySem.W.Frag} {H H' : Hp} {f : Bool} {k n : Nat} {v : V} {d : PyData} (x : Ex H H') (h : AnyQ K H f k n v d) : AnyQ K H' f k n v d := ⟨Dq.up x h.dq, h.fd, h.sm⟩
theorem AnyQ.ofSm {K : PySem.W.Frag} {H : Hp} {k n : Nat} {v : V} {d : PyData} (h : Dp K H v d) (s : Sm k n d) : AnyQ K H false k n v d := ⟨Dq.ofDp h, fun z => (by rw [s.nd] at z; cases z), .ofSm s⟩
theorem AnyQ.told {K : PySem.W.Frag} {H : Hp} {f : Bool} {k n : Nat} {v : V} {d : PyData} (h : AnyQ K H f k n v d) {a : Addr} {x : PySem.Str} {b : Bool} (ha : SqT K H a [.str x, v, .bl b]) (sx : SmQ k n (.str x)) : AnyQ K H f (k + 1) (3 * (n + 1)) (.ref a) (.tuple [.str x, d, .bool b]) :=
  ⟨.tup ha (.cons (.str x) (.cons h.dq (.cons (.bl b) .nil))), fun z => h.fd (by simpa [PyData.hasDict, PyData.hasDictAll] using z), smq_tup 3 (Nat.le_refl _) fun e he => by
    simp only [List.mem_cons, List.not_mem_nil, or_false] at he
    rcases he with rfl | rfl | rfl
    · exact sx
    · exact h.sm
    · exact (SmQ.ofSm (sm_bl b)).up (Nat.zero_le _) (Nat.zero_le _)⟩
/-! ### repr -/
def rReprQ (K : PySem.W.Frag) : List V → Hp → VK → Prop := fun xs H Q => match xs with
  | [v] => ∃ f k n d, AnyQ K H f k n v d ∧ k ≤ 40 ∧ n ≤ 150000 ∧ Q (.str d.shown) H
  | _ => False
theorem k_reprQ {X : Cx} {K : PySem.W.Frag} (hK : X.K = K) (quiet : X.A.guards = some []) (hu : X.A.units + 64 < cLine) : CallR X (.builtin "repr") (rReprQ K) := by
  subst hK
  intro pins s σ H xs us Q I r h
  unfold rReprQ at h
  split at h
  case h_2 => exact h.elim
  rename_i v
  obtain ⟨f, k, n, d, hv, hk, hn, q⟩ := h
  have hsz : d.shown.length ≤ sizeLine := by
    have e := PyData.shown_le 91 (by decide) d hv.sm.lv
    have w := hv.sm.w
    have e2 : sizeLine = 16777216 := by decide +kernel
    rw [e2]
    have : (91 + 2) * d.weight ≤ 93 * 150000 := Nat.mul_le_mul (by omega) (by omega)
    omega
  have hdp := hv.sm.dp
  have flat : Dp X.K H v d → d.hasDict = false → _ := fun h1 h2 => c_repr quiet hu pins s σ H [v] us Q I r ⟨v, d, rfl, h1, hv.sm.sh, h2, by omega, hsz, q⟩
  have big : ∀ a, v = .ref a → wpAny (model X.prog X.w) X.A (call (Value.builtin "repr") us) (EP X pins σ Q) X.xe s := fun a ea => by
    subst ea
    obtain ⟨u, rfl, ru⟩ := vals1 r
    cases (show u = Value.ref a from ru)
    obtain ⟨as, rd, ns⟩ := Dq.reads I hv.dq (u := .ref a) rfl
    exact repr_of_reads' rd hv.sm.sh (fun z => ns (hv.fd z)) quiet (by omega) (fun _ _ e => e) (fun h' u tk hk => ⟨.str _, H, I.kept hk, ⟨_, rfl⟩, q⟩) hsz
  cases hv.dq with
  | non => exact flat .non rfl
  | bl b => exact flat (.bl b) rfl
  | int i => exact flat (.int i) rfl
  | str x => exact flat (.str x) rfl
  | lst _ _ _ => exact big _ rfl
  | tup _ _ => exact big _ rfl
  | dct _ _ _ => exact big _ rfl
  | dtu _ _ _ => exact big _ rfl
  | dbo _ _ _ => exact big _ rfl
/-! ### isinstance -/
def tyD : PyData → String
  | .none => "NoneType"
  | .bool _ => "bool"
  | .int _ => "int"
  | .str _ => "str"
  | .list _ => "list"
  | .tuple _ => "tuple"
  | .dict _ => "dict"
theorem Dq.isi {K : PySem.W.Frag} {H : Hp} {f : Bool} {v : V} {d : PyData} (h : Dq K H f v d) {n : String} {b : Bool} (k : kitB (tyD d) n = some b) : IsiOk K H v n b := by
  cases h with
  | non => exact .inl ⟨_, .base .non, kit_ty k⟩
  | bl b => exact .inl ⟨_, .base (.bl b), kit_ty k⟩
  | int i => exact .inl ⟨_, .base (.int i), kit_ty k⟩
  | str x => exact .inl ⟨_, .base (.str x), kit_ty k⟩
  | lst h _ _ => exact isi_lst h k
  | tup h _ => exact isi_tup h k
  | dct h _ _ =>
    rcases h with h | ⟨o, h⟩
    · exact isi_dK h k
    · exact .inl ⟨_, .fDict h, kit_ty k⟩
  | dtu h _ _ => exact .inr ⟨_, rfl, .inr ⟨_, h⟩, kit_ty k⟩
  | dbo h _ _ => exact .inr ⟨_, rfl, .inl ⟨_, h⟩, kit_ty k⟩
theorem Dq.not_own {K : PySem.W.Frag} {H : Hp} {f : Bool} {v : V} {d : PyData} {Q : VK} (h : Dq K H f v d) {C : Addr} (k : NoKin K C) (q : Q (.bl false) H) : rIsiU K [v, .ref C] H Q := by
  have go : ∀ t, TyX K H v t → PySem.W.kitOne K t (.ref C) = some false → rIsiU K [v, .ref C] H Q := fun t h1 h2 => Or.inl ⟨v, .ref C, t, .ref C, false, rfl, .own C, h1, h2, q⟩
  cases h with
  | non => exact go _ (.base .non) k.none
  | bl b => exact go _ (.base (.bl b)) k.bool
  | int i => exact go _ (.base (.int i)) k.int
  | str x => exact go _ (.base (.str x)) k.str
  | lst h _ _ => exact go _ (ty_lst h) k.list
  | tup h _ => exact go _ (ty_tup h) k.tuple
  | dct h _ _ =>
    rcases h with h | ⟨o, h⟩
    · exact go _ (.base (.dK h)) k.dict
    · exact go _ (.fDict h) k.dict
  | dtu h _ _ => exact Or.inr (Or.inr (Or.inl ⟨_, .ref C, .ref C, false, rfl, .own C, .inr ⟨_, h⟩, k.dict, q⟩))
  | dbo h _ _ => exact Or.inr (Or.inr (Or.inl ⟨_, .ref C, .ref C, false, rfl, .own C, .inl ⟨_, h⟩, k.dict, q⟩))
def isIntD (lo hi : Int) : PyData → Bool
  | .int i => decide (lo ≤ i) && decide (i ≤ hi)
  | _ => false
/-! ### lists that are none of the interpreter's own -/
def uLstQ (t : TA) : TE := fun σ H Q => t σ H fun xs H1 => xs.length ≤ sizeLine ∧ ∀ p H2, New H1 p (.lst xs) H2 → (p == sysModules) = false → Q (.ref p) H2
theorem u_lstQ {X : Cx} {es : List Expr} {t : TA} {pos : Pos} (h : PA X es t) : PE X (.List es pos) (uLstQ t) := by
  refine ⟨fun pins s σ H Q I hq => ?_⟩
  refine wpAny_List_spliced (thn ((pa_cl h).run pos pins s σ H _ I ⟨_, hq, fun _ _ z => z⟩) fun us s1 ⟨xs, H1, I1, r, z, q⟩ => ⟨by rw [← r.length]; exact z, ?_⟩)
  have hf : H1 s1.heap.objs.size = none := I1.hok.fresh (Nat.le_refl _)
  have hs : (s1.heap.objs.size == sysModules) = false := beq_eq_false_iff_ne.mpr (Nat.ne_of_gt I1.big)
  refine ⟨.ref s1.heap.objs.size, upd H1 s1.heap.objs.size (.lst xs), I1.laid (t' := s1.toks) (fun b u e => Heap.get?_push_of_some _ e) (Nat.le_refl _) ?_, rfl, q _ _ ⟨hf, rfl⟩ hs⟩
  exact ⟨z, us, 0, r, Heap.get?_push_size _ rfl⟩
theorem ints_of {K : PySem.W.Frag} {H : Hp} {f : Bool} {L : Int} : ∀ {xs : List V} {ds : List PyData}, DqAll K H f xs ds → ds.all (isIntD 0 L) = true → ∃ ns : List Int, xs = ns.map V.int ∧ ds = ns.map PyData.int ∧ ∀ i ∈ ns, 0 ≤ i ∧ i ≤ L
  | _, _, .nil, _ => ⟨[], rfl, rfl, fun i hi => by cases hi⟩
  | _, _, .cons (d := d) h t, a => by
    rw [List.all_cons, Bool.and_eq_true] at a
    obtain ⟨ns, e1, e2, e3⟩ := ints_of t a.2
    have a1 := a.1
    cases h with
    | int i =>
      have a1 : (decide (0 ≤ i) && decide (i ≤ L)) = true := a1
      rw [Bool.and_eq_true, decide_eq_true_eq, decide_eq_true_eq] at a1
      refine ⟨i :: ns, by rw [e1]; rfl, by rw [e2]; rfl, fun j hj => ?_⟩
      rcases List.mem_cons.mp hj with rfl | hj
      · exact a1
      · exact e3 j hj
    | _ => exact absurd a1 Bool.false_ne_true
theorem Dq.isiV {K : PySem.W.Frag} {H : Hp} {f : Bool} {v : V} {d : PyData} (h : Dq K H f v d) : IsiOk K H v "int" (isIv v) ∧ IsiOk K H v "bool" (isBv v) := by
  have k1 : ∀ {n : String} {b : Bool}, kitB (tyD d) n = some b → IsiOk K H v n b := fun k => h.isi k
  cases h with
  | non => exact ⟨k1 (by decide +kernel), k1 (by decide +kernel)⟩
  | bl b => exact ⟨k1 (by show kitB "bool" "int" = some true; decide +kernel), k1 (by show kitB "bool" "bool" = some true; decide +kernel)⟩
  | int i => exact ⟨k1 (by show kitB "int" "int" = some true; decide +kernel), k1 (by show kitB "int" "bool" = some false; decide +kernel)⟩
  | str x => exact ⟨k1 (by show kitB "str" "int" = some false; decide +kernel), k1 (by show kitB "str" "bool" = some false; decide +kernel)⟩
  | lst _ _ _ => exact ⟨k1 (by show kitB "list" "int" = some false; decide +kernel), k1 (by show kitB "list" "bool" = some false; decide +kernel)⟩
  | tup _ _ => exact ⟨k1 (by show kitB "tuple" "int" = some false; decide +kernel), k1 (by show kitB "tuple" "bool" = some false; decide +kernel)⟩
  | dct _ _ _ => exact ⟨k1 (by show kitB "dict" "int" = some false; decide +kernel), k1 (by show kitB "dict" "bool" = some false; decide +kernel)⟩
  | dtu _ _ _ => exact ⟨k1 (by show kitB "dict" "int" = some false; decide +kernel), k1 (by show kitB "dict" "bool" = some false; decide +kernel)⟩
  | dbo _ _ _ => exact ⟨k1 (by show kitB "dict" "int" = some false; decide +kernel), k1 (by show kitB "dict" "bool" = some false; decide +kernel)⟩
def RaisesQ (K : PySem.W.Frag) (C : PySem.Str) (x : V) (H : Hp) (E : XK) : Prop := ∀ d H1 H2, Ex H H1 → New H1 d (.xd [("value", x)]) H2 → E (.ref (ga K C)) (some d) H2
theorem RaisesQ.up {K : PySem.W.Frag} {C : PySem.Str} {x : V} {H H' : Hp} {E : XK} (h : RaisesQ K C x H E) (y : Ex H H') : RaisesQ K C x H' E := fun d H1 H2 x1 n => h d H1 H2 (ex_trans y x1) n
end Ech

set_option maxHeartbeats 2000000
/-! walks over the keys of a dict of any kind; such a dict while it is walked over -/
namespace Ech
open PySem PySem.Spec PyProof.Rows L2
section
variable {X : Cx} {pins : List (Addr × Obj)} {σ : L2.St} {H : Hp} {s : Shared} {d : Addr} {o : Obj}
theorem frz_bd {kvs : List (Bool × V)} (I : Inv X pins σ H s) (h : H d = some (.frz o (BdD d kvs))) :
    (d == sysModules) = false ∧ s.heap.get? d = some o ∧ o.ExactDict ∧ ∃ (es : Array DictEntry) (ep : Nat), o.data = .dict es ep ∧ es.size = kvs.length ∧
      ∀ (i : Nat) (k : Bool) (v : V), kvs[i]? = some (k, v) → ∃ en : DictEntry, es[i]? = some en ∧ en.key = .bool k := by
  obtain ⟨ho, ⟨hs, o', es, ep, ho', hx, hdt, r⟩, _⟩ := (show ObjOk X.prog X.w H s.heap d (.frz o (BdD d kvs)) from I.hok d _ h)
  rw [ho] at ho'
  cases ho'
  have len : es.toList.length = kvs.length := (Paired.length r).symm
  refine ⟨hs, ho, hx, es, ep, hdt, by rw [← Array.length_toList]; exact len, fun i k v e => ?_⟩
  obtain ⟨b, hb, e1, _⟩ := L2.paired_get r e
  exact ⟨b, by rw [← Array.getElem?_toList]; exact hb, e1⟩
end
def Itkb (d : Addr) (o : Obj) (kvs : List (Bool × V)) : It :=
  ⟨fun i H => H d = some (.frz o (BdD d kvs)) ∧ i < kvs.length, fun i H x H' => H' = H ∧ ∃ k v, kvs[i]? = some (k, v) ∧ x = .bl k, fun i H => H d = some (.frz o (BdD d kvs)) ∧ kvs.length ≤ i⟩
section
variable {P : Program} {w : World} {K : PySem.W.Frag} {tg : Expr} {d : Addr} {o : Obj} {es : Array DictEntry} {ep : Nat}
theorem turn_keysB {kvs : List (Bool × V)} (it : Addr) (hod : o.data = .dict es ep) : Turn P w K tg (Itkb d o kvs) [it] it (fun i h => h.IsKeyIter it d i kvs.length ep) where
  mem := List.mem_singleton.mpr rfl
  obj := fun i h st b hb => by
    cases List.mem_singleton.mp hb
    obtain ⟨oi, e1, c1, d1⟩ := st
    exact ⟨oi, e1, fun v z => by rw [d1] at z; cases z⟩
  keep := fun i h h' st k => st.at fun oi e1 => k it (List.mem_singleton.mpr rfl) oi e1
  item := by
    intro X hP hw hK hc i pins s σ H E I hf st hg
    subst hP hw hK
    obtain ⟨g0, g1, g2, g3, g4, g5⟩ := hf it (List.mem_singleton.mpr rfl)
    obtain ⟨hs, hgd, hx, es', ep', hdt, hsz, ent⟩ := frz_bd I hg.1
    obtain ⟨rfl, rfl⟩ := dict_ep hod hdt
    have hkv : kvs[i]? = some ((kvs[i]'hg.2).1, (kvs[i]'hg.2).2) := List.getElem?_eq_getElem hg.2
    obtain ⟨en, hen, hkey⟩ := ent i _ _ hkv
    refine next_key_item st hgd hdt hsz hen fun h' st2 sb => ?_
    have I1 : Inv X pins σ H { s with heap := h' } := I.turned (t' := s.toks) (fun b o2 hb e1 => (sb.2 b hb).trans e1) g0 g1 g3 g4 g5
    obtain ⟨oi, e1, c1, d1⟩ := id st2
    exact ⟨en.key, rfl, go_of (s := { s with heap := h' }) e1 c1 d1 (by decide) ⟨.bl _, H, I1, hkey, ⟨rfl, _, _, hkv, rfl⟩, st2, fun b hb => (hf b hb).1⟩⟩
  done := by
    intro X hP hw hK hc i pins s σ H E I hf st hg
    subst hP hw hK
    obtain ⟨g0, g1, g2, g3, g4, g5⟩ := hf it (List.mem_singleton.mpr rfl)
    obtain ⟨hs, hgd, hx, es', ep', hdt, hsz, ent⟩ := frz_bd I hg.1
    obtain ⟨rfl, rfl⟩ := dict_ep hod hdt
    exact next_key_end (I.ok.hd hc) st hgd hdt hsz hg.2 fun h' eb => ⟨rfl, I.turned (t' := s.toks) (fun b o2 hb e1 => eb b o2 hb e1) g0 g1 g3 g4 g5⟩
  self := fun A i s Q E st h => wpAny_pyIter_keyiter st h
end
theorem walk_keysB {d : Addr} {o : Obj} {kvs : List (Bool × V)} : Walk (Itkb d o kvs) kvs.length (fun H => H d = some (.frz o (BdD d kvs))) (fun i H x H' => H' = H ∧ ∃ k v, kvs[i]? = some (k, v) ∧ x = .bl k) :=
  ⟨fun _ _ hi q => ⟨q, hi⟩, fun _ q => ⟨q, Nat.le_refl _⟩, fun _ _ _ _ _ _ y => y⟩
def wKeysQ (td : TE) : TW := fun σ H C => td σ H fun x H1 => match x with
  | .ref d => (∃ o kvs, H1 d = some (.frz o (.dK kvs)) ∧ C kvs.length (fun H => H d = some (.frz o (.dK kvs))) (YKey kvs) H1) ∨
    ((∃ o kvs, H1 d = some (.frz o (.dT kvs)) ∧ C kvs.length (fun H => H d = some (.frz o (.dT kvs))) (fun i H x H' => H' = H ∧ ∃ (k : List Key) (v : V) (q : Addr), kvs[i]? = some (k, v) ∧ x = .ref q ∧ H q = some (.tup (k.map kV))) H1) ∨
     (∃ o kvs, H1 d = some (.frz o (BdD d kvs)) ∧ C kvs.length (fun H => H d = some (.frz o (BdD d kvs))) (fun i H x H' => H' = H ∧ ∃ k v, kvs[i]? = some (k, v) ∧ x = .bl k) H1))
  | _ => False
def iKeysQ (td : TE) : TI := fun σ H R => td σ H fun x H1 => ∃ d o, x = .ref d ∧ ((∃ kvs, H1 d = some (.frz o (.dK kvs)) ∧ R (Itk d o kvs) H1) ∨ ((∃ kvs, H1 d = some (.frz o (.dT kvs)) ∧ R (Itkt d o kvs) H1) ∨ (∃ kvs, H1 d = some (.frz o (BdD d kvs)) ∧ R (Itkb d o kvs) H1)))
theorem pi_keysQ {X : Cx} {tg e : Expr} {td : TE} (he : PE X e td) : PI X tg e (iKeysQ td) := by
  refine ⟨fun pins s σ H R I h => ?_⟩
  refine thn (he.run pins s σ H _ I h) fun u s1 ⟨x, H1, I1, rx, d, o, ex, q⟩ => ?_
  subst ex
  cases (show u = Value.ref d from rx)
  rcases q with ⟨kvs, hd, q⟩ | ⟨kvs, hd, q⟩ | ⟨kvs, hd, q⟩
  · obtain ⟨c1, c2, c3, es, ep, vs, c4, c5, _, _⟩ := I1.frzK hd
    refine iter_keys c1 c2 c3 c4 (pi_one (tk := s1.toks) I1 _ (turn_keys _ c4) ⟨_, Heap.get?_push_size _ rfl, rfl, ?_⟩ q)
    rw [c5] <;> rfl
  · obtain ⟨c1, c2, c3, es, ep, c4, c5, _⟩ := I1.frzT hd
    refine iter_keys c1 c2 c3 c4 (pi_one (tk := s1.toks) I1 _ (turn_keysT _ c4) ⟨_, Heap.get?_push_size _ rfl, rfl, ?_⟩ q)
    rw [c5] <;> rfl
  · obtain ⟨c1, c2, c3, es, ep, c4, c5, _⟩ := frz_bd I1 hd
    refine iter_keys c1 c2 c3 c4 (pi_one (tk := s1.toks) I1 _ (turn_keysB _ c4) ⟨_, Heap.get?_push_size _ rfl, rfl, ?_⟩ q)
    rw [c5] <;> rfl
theorem piu_keysQ {X : Cx} {tg e : Expr} {td : TE} (he : PE X e td) : PIU X tg e (wKeysQ td) := by
  refine piu_of (pi_keysQ (pe_cl he)) fun σ H C q => ⟨_, q, fun v H1 q1 => ?_⟩
  cases v with
  | ref d =>
    rcases q1 with ⟨o, kvs, h1, h2⟩ | ⟨o, kvs, h1, h2⟩ | ⟨o, kvs, h1, h2⟩
    · exact ⟨d, o, rfl, .inl ⟨kvs, h1, _, _, _, walk_keys, h2⟩⟩
    · exact ⟨d, o, rfl, .inr (.inl ⟨kvs, h1, _, _, _, walk_keysT, h2⟩)⟩
    · exact ⟨d, o, rfl, .inr (.inr ⟨kvs, h1, _, _, _, walk_keysB, h2⟩)⟩
  | _ => exact q1.elim
/-! ### values while a dict is locked -/
theorem rd_lock {G : Hp} {d a : Addr} {o : Obj} {u v : HO} (hd : G d = some u) (nf : ∀ o' u', u ≠ .frz o' u') (h : Rd G a v) : Rd (upd G d (.frz o u)) a v := by
  by_cases z : a = d
  · subst z
    rcases h with h | ⟨o', h⟩
    · rw [hd] at h
      cases h
      exact .inr ⟨o, upd_same⟩
    · rw [hd] at h
      cases h
      exact absurd rfl (nf _ _)
  · rcases h with h | ⟨o', h⟩
    · exact .inl (by rw [upd_ne z]; exact h)
    · exact .inr ⟨o', by rw [upd_ne z]; exact h⟩
def DictHO (a : Addr) (u : HO) : Prop := (∃ kvs, u = .dK kvs) ∨ ((∃ kvs, u = .dT kvs) ∨ ∃ kvs, u = BdD a kvs)
theorem DictHO.nf {a : Addr} {u : HO} (h : DictHO a u) : ∀ o' u', u ≠ .frz o' u' := fun o' u' z => by
  rcases h with ⟨_, rfl⟩ | ⟨_, rfl⟩ | ⟨_, rfl⟩ <;> cases z
theorem sql_lock {K : PySem.W.Frag} {G : Hp} {d a : Addr} {o : Obj} {u : HO} {xs : List V} (hd : G d = some u) (k : DictHO d u) (h : SqL K G a xs) : SqL K (upd G d (.frz o u)) a xs := by
  have ne : ∀ v, G a = some v → (∀ kvs, v ≠ .dK kvs) → (∀ kvs, v ≠ .dT kvs) → (∀ φ, v ≠ .ext φ) → a ≠ d := fun v hv n1 n2 n3 z => by
    rw [z, hd] at hv
    cases hv
    rcases k with ⟨_, rfl⟩ | ⟨_, rfl⟩ | ⟨_, rfl⟩
    · exact n1 _ rfl
    · exact n2 _ rfl
    · exact n3 _ rfl
  rcases h with (h | ⟨o', h⟩) | h
  · exact .inl (.inl (by rw [upd_ne (ne _ h (fun _ z => nomatch z) (fun _ z => nomatch z) (fun _ z => nomatch z))]; exact h))
  · exact .inl (.inr ⟨o', by rw [upd_ne (ne _ h (fun _ z => nomatch z) (fun _ z => nomatch z) (fun _ z => nomatch z))]; exact h⟩)
  · exact .inr h
theorem sqt_lock {K : PySem.W.Frag} {G : Hp} {d a : Addr} {o : Obj} {u : HO} {xs : List V} (hd : G d = some u) (k : DictHO d u) (h : SqT K G a xs) : SqT K (upd G d (.frz o u)) a xs := by
  have ne : ∀ v, G a = some v → (∀ kvs, v ≠ .dK kvs) → (∀ kvs, v ≠ .dT kvs) → (∀ φ, v ≠ .ext φ) → a ≠ d := fun v hv n1 n2 n3 z => by
    rw [z, hd] at hv
    cases hv
    rcases k with ⟨_, rfl⟩ | ⟨_, rfl⟩ | ⟨_, rfl⟩
    · exact n1 _ rfl
    · exact n2 _ rfl
    · exact n3 _ rfl
  rcases h with (h | ⟨o', h⟩) | h
  · exact .inl (.inl (by rw [upd_ne (ne _ h (fun _ z => nomatch z) (fun _ z => nomatch z) (fun _ z => nomatch z))]; exact h))
  · exact .inl (.inr ⟨o', by rw [upd_ne (ne _ h (fun _ z => nomatch z) (fun _ z => nomatch z) (fun _ z => nomatch z))]; exact h⟩)
  · exact .inr h
mutual
theorem Dq.lock {K : PySem.W.Frag} {G : Hp} {d : Addr} {o : Obj} {u : HO} {f : Bool} (hd : G d = some u) (k : DictHO d u) : ∀ {v : V} {e : PyData}, Dq K G f v e → Dq K (upd G d (.frz o u)) f v e
  | _, _, .non => .non
  | _, _, .bl b => .bl b
  | _, _, .int i => .int i
  | _, _, .str y => .str y
  | _, _, .lst h z a => .lst (sql_lock hd k h) z (DqAll.lock hd k a)
  | _, _, .tup h a => .tup (sqt_lock hd k h) (DqAll.lock hd k a)
  | _, _, .dct h n a => .dct (rd_lock hd k.nf h) n (DqAll.lock hd k a)
  | _, _, .dtu h n a => .dtu (rd_lock hd k.nf h) n (DqAll.lock hd k a)
  | _, _, .dbo h n a => .dbo (rd_lock hd k.nf h) n (DqAll.lock hd k a)
theorem DqAll.lock {K : PySem.W.Frag} {G : Hp} {d : Addr} {o : Obj} {u : HO} {f : Bool} (hd : G d = some u) (k : DictHO d u) : ∀ {vs : List V} {es : List PyData}, DqAll K G f vs es → DqAll K (upd G d (.frz o u)) f vs es
  | _, _, .nil => .nil
  | _, _, .cons h t => .cons (Dq.lock hd k h) (DqAll.lock hd k t)
end
/-! ### rows, prices, wishes and fixed letters as data -/
def rowQ (L n : Int) : PyData → Bool
  | .tuple ds => decide ((ds.length : Int) = n) && ds.all (isIntD 0 (L - 1))
  | _ => false
theorem rowQ_tup {L n : Int} {ds : List PyData} : rowQ L n (.tuple ds) = (decide ((ds.length : Int) = n) && ds.all (isIntD 0 (L - 1))) := rfl
def isPriceD : PyData → Bool
  | .none => true
  | .int i => decide (0 ≤ i)
  | _ => false
def pricesD (L : Int) : PyData → Bool
  | .tuple ds => decide ((ds.length : Int) = L) && ds.all isPriceD
  | _ => false
theorem pricesD_tup {L : Int} {ds : List PyData} : pricesD L (.tuple ds) = (decide ((ds.length : Int) = L) && ds.all isPriceD) := rfl
def wishQ (L n : Int) : PyData → Bool
  | .dict ps => ps.all fun p => isIntD 0 (n - 1) p.1 && pricesD L p.2
  | _ => false
def fixQ (L n : Int) : PyData → Bool
  | .dict ps => ps.all fun p => isIntD 0 (n - 1) p.1 && isIntD 0 (L - 1) p.2
  | _ => false
theorem row_of {K : PySem.W.Frag} {H : Hp} {f : Bool} {L n : Int} {v : V} {d : PyData} (h : Dq K H f v d) (s : rowQ L n d = true) : ∃ (a : Addr) (ns : List Int), v = .ref a ∧ SqT K H a (ns.map V.int) ∧ (ns.length : Int) = n ∧ (∀ i ∈ ns, 0 ≤ i ∧ i < L) ∧ d = .tuple (ns.map PyData.int) := by
  cases h with
  | tup h1 h2 =>
    rw [rowQ_tup, Bool.and_eq_true, decide_eq_true_eq] at s
    obtain ⟨ns, e1, e2, e3⟩ := ints_of h2 s.2
    rw [e2, List.length_map] at s
    exact ⟨_, ns, rfl, e1 ▸ h1, s.1, fun i hi => ⟨(e3 i hi).1, by have := (e3 i hi).2; omega⟩, congrArg _ e2⟩
  | _ => exact absurd s Bool.false_ne_true
theorem pris_of {K : PySem.W.Frag} {H : Hp} {f : Bool} : ∀ {xs : List V} {ds : List PyData}, DqAll K H f xs ds → ds.all isPriceD = true → ∃ ps : List (Option Int), xs = ps.map pV ∧ ds = ps.map pD ∧ ∀ x ∈ ps, ∀ i, x = some i → 0 ≤ i
  | _, _, .nil, _ => ⟨[], rfl, rfl, fun x hx => by cases hx⟩
  | _, _, .cons (d := d) h t, a => by
    rw [List.all_cons, Bool.and_eq_true] at a
    obtain ⟨ps, e1, e2, e3⟩ := pris_of t a.2
    have a1 := a.1
    cases h with
    | non =>
      refine ⟨none :: ps, by rw [e1]; rfl, by rw [e2]; rfl, fun x hx i e => ?_⟩
      rcases List.mem_cons.mp hx with rfl | hx
      · cases e
      · exact e3 x hx i e
    | int j =>
      have a1 : decide (0 ≤ j) = true := a1
      refine ⟨some j :: ps, by rw [e1]; rfl, by rw [e2]; rfl, fun x hx i e => ?_⟩
      rcases List.mem_cons.mp hx with rfl | hx
      · cases e
        exact of_decide_eq_true a1
      · exact e3 x hx i e
    | _ => exact absurd a1 Bool.false_ne_true
theorem prices_of {K : PySem.W.Frag} {H : Hp} {f : Bool} {L : Int} {v : V} {d : PyData} (h : Dq K H f v d) (s : pricesD L d = true) : ∃ (t : Addr) (ps : List (Option Int)), v = .ref t ∧ SqT K H t (ps.map pV) ∧ (ps.length : Int) = L ∧ (∀ x ∈ ps, ∀ i, x = some i → 0 ≤ i) ∧ d = .tuple (ps.map pD) := by
  cases h with
  | tup h1 h2 =>
    rw [pricesD_tup, Bool.and_eq_true, decide_eq_true_eq] at s
    obtain ⟨ps, e1, e2, e3⟩ := pris_of h2 s.2
    rw [e2, List.length_map] at s
    exact ⟨_, ps, rfl, e1 ▸ h1, s.1, e3, congrArg _ e2⟩
  | _ => exact absurd s Bool.false_ne_true
def wishP (w : Wish) : PyData × PyData := (.int w.1, .tuple (w.2.map pD))
theorem wishes_of {K : PySem.W.Frag} {H : Hp} {f : Bool} {L n : Int} : ∀ {kvs : List (Key × V)} {ds : List PyData}, DqAll K H f (kvs.map (·.2)) ds → (((kvs.map fun p => keyD p.1).zip ds).all fun p => isIntD 0 (n - 1) p.1 && pricesD L p.2) = true →
    ∃ ws : List Wish, Paired (WishKV K H) kvs ws ∧ (∀ w ∈ ws, 0 ≤ w.1 ∧ w.1 < n ∧ (w.2.length : Int) = L ∧ ∀ x ∈ w.2, ∀ i, x = some i → 0 ≤ i) ∧ (kvs.map fun p => keyD p.1).zip ds = ws.map wishP
  | [], _, _, _ => ⟨[], .nil, (fun w hw => by cases hw), rfl⟩
  | (k, v) :: kvs, _, .cons (d := d) h t, a => by
    rw [List.map_cons, List.zip_cons_cons, List.all_cons, Bool.and_eq_true, Bool.and_eq_true] at a
    obtain ⟨ws, p1, p2, p3⟩ := wishes_of t a.2
    obtain ⟨tt, ps, e1, e2, e3, e4, e5⟩ := prices_of h a.1.2
    have a1 := a.1.1
    cases k with
    | inr x => exact absurd a1 Bool.false_ne_true
    | inl i =>
      have a1 : (decide (0 ≤ i) && decide (i ≤ n - 1)) = true := a1
      rw [Bool.and_eq_true, decide_eq_true_eq, decide_eq_true_eq] at a1
      refine ⟨(i, ps) :: ws, .cons ⟨rfl, tt, e1, e2⟩ p1, fun w hw => ?_, by rw [List.map_cons, List.zip_cons_cons, p3, e5]; rfl⟩
      rcases List.mem_cons.mp hw with rfl | hw
      · exact ⟨a1.1, by have := a1.2; show i < n; omega, e3, e4⟩
      · exact p2 w hw
theorem wish_fst {K : PySem.W.Frag} {H : Hp} : ∀ {kvs : List (Key × V)} {ws : List Wish}, Paired (WishKV K H) kvs ws → kvs.map (·.1) = ws.map fun w => (.inl w.1 : Key)
  | _, _, .nil => rfl
  | _, _, .cons h t => by rw [List.map_cons, List.map_cons, wish_fst t, h.1]
theorem wish_of {K : PySem.W.Frag} {H : Hp} {f : Bool} {L n : Int} {v : V} {d : PyData} (h : Dq K H f v d) (s : wishQ L n d = true) : ∃ (a : Addr) (kvs : List (Key × V)) (ws : List Wish), v = .ref a ∧ Rd H a (.dK kvs) ∧ Paired (WishKV K H) kvs ws ∧ WishOk L n ws ∧ ws.length ≤ 1000 ∧ d = .dict (ws.map wishP) := by
  cases h with
  | dct h1 h2 h3 =>
    obtain ⟨ws, p1, p2, p3⟩ := wishes_of h3 s
    refine ⟨_, _, ws, rfl, h1, p1, ⟨p2, ?_⟩, (by have h5 := paired_len p1; have h6 := h2.2; omega), congrArg _ p3⟩
    have h2 := h2.1
    rw [wish_fst p1] at h2
    have h4 : ((ws.map (·.1)).map (Sum.inl : Int → Key)).Nodup := by rw [List.map_map]; exact h2
    exact (List.pairwise_map.mp h4).imp fun h e => h (congrArg _ e)
  | dtu h1 h2 h3 =>
    rename_i a kvs ds
    cases kvs with
    | nil => exact absurd rfl h2.1
    | cons p kvs =>
      cases h3 with
      | cons _ _ => exact absurd s Bool.false_ne_true
  | dbo h1 h2 h3 =>
    rename_i a kvs ds
    cases kvs with
    | nil => exact absurd rfl h2.1
    | cons p kvs =>
      cases h3 with
      | cons _ _ => exact absurd s Bool.false_ne_true
  | _ => exact absurd s Bool.false_ne_true
theorem valV_nd {κ : Type} [DecidableEq κ] : ∀ {kvs : List (κ × V)} {i : Nat} {k : κ} {v : V}, (kvs.map (·.1)).Nodup → kvs[i]? = some (k, v) → valV kvs k = some v
  | p :: kvs, 0, k, v, _, e => by
    have e : p = (k, v) := Option.some.inj e
    subst e
    exact valV_pos rfl
  | p :: kvs, i + 1, k, v, nd, e => by
    rw [List.map_cons, List.nodup_cons] at nd
    have hm : k ∈ kvs.map (·.1) := List.mem_map.mpr ⟨(k, v), List.mem_of_getElem? (i := i) e, rfl⟩
    rw [valV_neg (fun z => nd.1 (z ▸ hm))]
    exact valV_nd nd.2 (i := i) e
theorem key_Dq {K : PySem.W.Frag} {H : Hp} {f : Bool} : ∀ k : Key, Dq K H f (kV k) (keyD k)
  | .inl i => .int i
  | .inr x => .str x
theorem keys_Dq {K : PySem.W.Frag} {H : Hp} {f : Bool} : ∀ k : List Key, DqAll K H f (k.map kV) (k.map keyD)
  | [] => .nil
  | k :: ks => .cons (key_Dq k) (keys_Dq ks)
theorem zip_at {ks ds : List PyData} {i : Nat} {k d : PyData} (h1 : ks[i]? = some k) (h2 : ds[i]? = some d) : (ks.zip ds)[i]? = some (k, d) := by
  rw [List.getElem?_zip_eq_some]
  exact ⟨h1, h2⟩
theorem pe_lockQ {X : Cx} {e : Expr} {t : TE} (h : PE X e t) : PE X e (fun σ H Q => tLockE t σ H Q ∨ t σ H Q) :=
  ⟨fun pins s σ H Q I q => q.elim (fun z => (pe_lock h).run pins s σ H Q I z) fun z => h.run pins s σ H Q I z⟩
theorem ex_both {G H : Hp} {d : Addr} {o : HO} (x : Ex G H) : Ex (upd G d o) (upd H d o) := fun a u e => by
  by_cases z : a = d
  · subst z
    rw [upd_same] at e ⊢
    exact e
  · rw [upd_ne z] at e ⊢
    exact x _ _ e
mutual
theorem dp_lock {K : PySem.W.Frag} {G : Hp} {d : Addr} {o : Obj} {u : HO} (hd : G d = some u) (k : DictHO d u) : ∀ {v : V} {e : PyData}, Dp K G v e → Dp K (upd G d (.frz o u)) v e
  | _, _, .non => .non
  | _, _, .bl b => .bl b
  | _, _, .int i => .int i
  | _, _, .str y => .str y
  | _, _, .lst h a => .lst (sql_lock hd k h) (dpAll_lock hd k a)
  | _, _, .tup h a => .tup (sqt_lock hd k h) (dpAll_lock hd k a)
theorem dpAll_lock {K : PySem.W.Frag} {G : Hp} {d : Addr} {o : Obj} {u : HO} (hd : G d = some u) (k : DictHO d u) : ∀ {vs : List V} {es : List PyData}, DpAll K G vs es → DpAll K (upd G d (.frz o u)) vs es
  | _, _, .nil => .nil
  | _, _, .cons h t => .cons (dp_lock hd k h) (dpAll_lock hd k t)
end
theorem ins_lock {G : Hp} {d a C dx : Addr} {fs : List (PySem.Str × V)} {o : Obj} {u : HO} (hd : G d = some u) (k : DictHO d u) (h : G a = some (.ins C dx fs)) : (upd G d (.frz o u)) a = some (.ins C dx fs) := by
  rw [upd_ne (fun z => ?_)]
  · exact h
  · rw [z, hd] at h
    cases h
    rcases k with ⟨_, k⟩ | ⟨_, k⟩ | ⟨_, k⟩ <;> cases k
theorem song_lock {K : PySem.W.Frag} {G : Hp} {d a : Addr} {o : Obj} {u : HO} {L n : Int} {es : List Ec} (hd : G d = some u) (k : DictHO d u) (h : SongAt K G a L n es) : SongAt K (upd G d (.frz o u)) a L n es := by
  obtain ⟨dx, vo, vs, h1, h2, h3⟩ := h
  refine ⟨dx, vo, vs, ins_lock hd k h1, sqt_lock hd k h2, paired_imp2 h3 fun v e _ z => ?_⟩
  obtain ⟨t, k1, k2, dx2, ent, k3, k4⟩ := z
  exact ⟨t, k1, sqt_lock hd k k2, dx2, ent, ins_lock hd k k3, dp_lock hd k k4⟩
/-! ### texts of values -/
theorem strOk_joinQ : ∀ {ts : List PySem.Str}, (∀ t ∈ ts, PyData.strOk t = true) → PyData.strOk (PySem.Str.join ", " ts) = true
  | [], _ => by decide +kernel
  | [x], h => h x (List.mem_singleton.mpr rfl)
  | x :: y :: r, h => strOk_app (strOk_app (h x List.mem_cons_self) (by decide +kernel)) (strOk_joinQ fun t ht => h t (List.mem_cons_of_mem _ ht))
theorem shownAll_ok : ∀ {ds : List PyData}, (∀ d ∈ ds, PyData.strOk d.shown = true) → ∀ t ∈ PyData.shownAll ds, PyData.strOk t = true
  | [], _, t, ht => by simp [PyData.shownAll] at ht
  | d :: ds, h, t, ht => by
    have ht : t ∈ d.shown :: PyData.shownAll ds := by simpa [PyData.shownAll] using ht
    rcases List.mem_cons.mp ht with rfl | ht
    · exact h d List.mem_cons_self
    · exact shownAll_ok (fun x hx => h x (List.mem_cons_of_mem _ hx)) t ht
theorem strOk_tuple {ds : List PyData} (h : ∀ d ∈ ds, PyData.strOk d.shown = true) : PyData.strOk (PyData.tuple ds).shown = true := by
  have e : (PyData.tuple ds).shown = tupleText (PyData.shownAll ds) := by simp only [PyData.shown]
  rw [e]
  unfold tupleText
  refine strOk_app (strOk_app (by decide +kernel) (strOk_joinQ (shownAll_ok h))) ?_
  split <;> decide +kernel
theorem strOk_from : ∀ {ts : List PySem.Str} {k : Nat} {acc : PySem.Str}, PyData.strOk acc = true → (∀ t ∈ ts, PyData.strOk t = true) → PyData.strOk (textFrom k acc ts) = true
  | [], _, _, h, _ => h
  | t :: r, k, acc, h, h2 => by
    refine strOk_from (ts := r) (k := k + 1) (acc := acc ++ (if k > 0 then ", " else "" : String) ++ t) (strOk_app (strOk_app h ?_) (h2 t List.mem_cons_self)) fun x hx => h2 x (List.mem_cons_of_mem _ hx)
    split <;> decide +kernel
theorem strOk_list {ds : List PyData} (h : ∀ d ∈ ds, PyData.strOk d.shown = true) : PyData.strOk (PyData.list ds).shown = true := by
  have e : (PyData.list ds).shown = listText (PyData.shownAll ds) := by simp only [PyData.shown]
  rw [e]
  unfold listText
  exact strOk_app (strOk_from (by decide +kernel) (shownAll_ok h)) (by decide +kernel)
theorem strOk_dict1 {k v : PyData} (hk : PyData.strOk k.shown = true) (hv : PyData.strOk v.shown = true) : PyData.strOk (PyData.dict [(k, v)]).shown = true := by
  have e : (PyData.dict [(k, v)]).shown = ("{" : PySem.Str) ++ (k.shown ++ ": " ++ v.shown) ++ "}" := by
    simp only [PyData.shown, PyData.shownKv, dictText]
    rfl
  rw [e]
  exact strOk_app (strOk_app (by decide +kernel) (strOk_app (strOk_app hk (by decide +kernel)) hv)) (by decide +kernel)
end Ech

/-! a def that raises nothing, called in an except suite -/
namespace Ech
open PySem PySem.Spec PyProof.Rows L2
structure FnGH (P : Program) (w : World) (K : PySem.W.Frag) (mg : PySem.Str → Option Value) (base : Heap) (k : Nat) (f : Addr) (fd : FuncData) (ps : List PySem.Str) (sp : Sp) : Prop where
  len : ∀ vs H Q E, sp vs H Q E → vs.length = ps.length
  run : ∀ (A : Around) (c : Addr) (outer : List Env) (s : Shared) (H : Hp) (args : Args) (us : List Value) (vs : List V) (Q : VK),
    Room k A → A.guards = some [] → Env0 P w K mg base A outer s H → BindsTo s fd args (ps.zip us) → Vals vs us → sp vs H Q E0 →
    codeAny (model P w) (A.mark (some (.ref c))) (.call (.ref f) args) (CR CX0 outer P w H s Q E0) s
section
variable {P : Program} {w : World} {K : PySem.W.Frag} {mg : PySem.Str → Option Value} {base : Heap} {k : Nat} {f : Addr} {fd : FuncData} {ps : List PySem.Str} {sp : Sp}
theorem FnGH.body {x qual : PySem.Str} {params : Arguments} {body : List Stmt} {scope : Scope} {dvs : List V} {kws : List (PySem.Str × V)} {N : List PySem.Str}
    (F : FunD K x qual params body scope dvs kws f fd) (S : FnScope N ps scope) (len : ∀ vs H Q E, sp vs H Q E → vs.length = ps.length)
    (hbody : ∀ (cdv : Value) (A : Around) (outer : List Env) (s : Shared) (H : Hp) (vs : List V) (Q : VK) (c : Addr),
      Room k (A.deeper (envOfC qual scope s.heap.objs.size f cdv)) → (A.deeper (envOfC qual scope s.heap.objs.size f cdv)).guards = some [] → sp vs H Q E0 →
      ∃ t, PSs ((cxOf CX0 P w K mg base N qual scope f cdv A outer s H E0).suite c []) body t ∧ t { nx := fun _ H' => Q .non H', rt := Q } (start N vs) H) :
    FnGH P w K mg base (k + 1) f fd ps sp := by
  obtain ⟨oc, od, dV, kV, doc, pm, an, cdv, ct, osl, hfd, lk, hcd, _, _⟩ := F.ex
  subst hfd
  refine ⟨len, ?_⟩
  intro A c outer s H args us vs Q room quiet e0 bt rel want
  have there : K.In s.heap := e0.mod.kin.keeps (fun b o z => (e0.bs b o z).1)
  have free : s.heap.NoLimit := e0.mod.nolimit.keeps (fun b o z => (e0.bs b o z).1)
  have kinds : ∀ y ∈ ps.zip us, scope.names.lookup y.1 = some .local ∨
      (scope.names.lookup y.1 = some .cell ∧ ((cellsFrom (s.heap.objs.size + 1) scope.names []).lookup y.1).isSome = true) := by
    rintro ⟨n, v⟩ hy
    rcases S.par n (List.of_mem_zip hy).1 with q | q
    · exact Or.inl q
    · exact Or.inr ⟨q, PySem.W.cellsFrom_some _ _ _ (Or.inl q)⟩
  have first := there _ _ lk
  have code := PySem.W.codeRec_of there hcd
  refine codeAny_call_function (show (A.mark (some (.ref c))).depth < _ from room.depth) first rfl S.co S.gen rfl code (bt _ _ _ _ ?_)
  refine wpAny_newFunctionEnv_cells S.kind kinds ?_
  intro env henv s1 entered
  subst henv
  refine ⟨free.keeps entered.toInCall.keep, codeAny_func ?_⟩
  obtain ⟨t, derive, reading⟩ := hbody cdv A outer s H vs Q c (room.deeper _) quiet want
  have inv := inv_start (CX := CX0) (N := N) (E := E0) S room.hd e0 (len _ _ _ _ want) rel entered
  have hot : Inv ((cxOf CX0 P w K mg base N qual scope f cdv A outer s H E0).suite c []) [] (start N vs) H s1 :=
    ⟨inv.ok.suite _ _, inv.os, inv.bare, inv.base, inv.loc, inv.cell, inv.free, inv.freeC, fun p hp => absurd hp (by simp), inv.hok, inv.len⟩
  refine wpAny_mono (derive.run [] s1 (start N vs) H _ hot reading) ?_ (fun _ _ z => z.elim)
  intro fl s' ended
  cases fl with
  | ret u =>
    obtain ⟨v, _, H', J, rv, q⟩ := ended
    exact ⟨v, H', J.os, J.bare, J.base, J.hok, rv, q⟩
  | next =>
    obtain ⟨_, H', J, q⟩ := ended
    exact ⟨V.non, H', J.os, J.bare, J.base, J.hok, rfl, q⟩
  | brk => exact (ended.elim fun _ z => z.elim fun _ z => z.2).elim
  | cont => exact (ended.elim fun _ z => z.elim fun _ z => z.2).elim
end
section
variable {X : Cx} {k : Nat} {f : Addr} {ps : List PySem.Str} {sp : Sp} {dvs : List V}
theorem u_callH {c : Addr} {pn : List (Addr × Obj)} {x : PySem.Str} {p pos : Pos} {e : Expr} {es : List Expr} {t : TA} (F : FnGH X.prog X.w X.K X.mg X.base k f (fdA X.K f) ps sp) (hr : Room k X.A) (quiet : X.A.guards = some []) (hg : Gl X x) (hm : X.mg x = some (.ref f)) (hk : PySem.W.keepIn X.K (.ref f) = true) (hb : Bnd X.K f ps dvs)
    (ha : PA (X.suite c pn) (e :: es) t) (hdb : (x == ("__debug__" : PySem.Str)) = false := by decide) (he : starEach (e :: es) X.env = (false, eval e X.env) :: starEach es X.env := by rfl) (hpl : (backTo pos (starEach es X.env)).any (·.1) = false := by rfl) :
    PE (X.suite c pn) (.Call (.Name x p) (e :: es) [] pos) (tCall sp dvs E0 t) := by
  obtain ⟨ds, hd, hbs⟩ := hb
  constructor
  intro pins s σ H Q I h
  refine wpAny_Call_Name_kw (ld_glob (X := X.suite c pn) I hg hm ?_ hdb)
  have args := ha.run pos pins s σ H _ I h
  refine PySem.W.callWith_K (h₀ := X.base) I.ok.mod.kin hk (thn args ?_) he hpl
  rintro us s1 ⟨vs, H1, I1, r, q⟩
  refine ⟨I1.kIn, ?_⟩
  have rr : Vals (vs ++ dvs) (us ++ ds) := r.append hd
  have lens : (us ++ ds).length = ps.length := (rr.length.symm.trans (F.len _ _ _ _ q))
  have e0 := I1.env0
  have go := F.run X.A c X.stack s1 H1 ⟨us, []⟩ (us ++ ds) (vs ++ dvs) Q hr quiet ⟨e0.frames, e0.mod, e0.bs, e0.bsz, e0.funs, e0.frf, e0.hok, e0.bare⟩ (hbs s1 us I1.kIn lens) rr q
  refine wpAny_call (codeAny_mono go ?_)
  intro res s' hq
  cases res with
  | error er => exact hq.elim
  | ok fl =>
    cases fl with
    | ret u => exact I1.after hq
    | next => exact hq.elim
    | brk => exact hq.elim
    | cont => exact hq.elim
end
end Ech

set_option maxHeartbeats 4000000
namespace Ech
open PySem PySem.Spec PyProof.Rows L2
open He (ga ma)
/-! ### a tuple times an int -/
theorem tuple_mul1 (l : Addr) (items : Array Value) (n : Nat) (dd : Option Addr) (sl : Array (Option Value)) (u : Tok) :
    Meets (Builtin.«tuple.__mul__» ⟨[.ref l, .int 1 u], []⟩) (fun _ R s => s.heap.get? l = some { cls := .type "tuple", dict := dd, data := .seq items n, slots := sl } ∧ R (.ok (.ret (.ref l))) s) :=
  .of_wp fun prog w A R s h => by
    obtain ⟨hp, g, d, tk, os⟩ := s
    obtain ⟨hl, h⟩ := h
    have idx := AutoSeq1.idx_int
    wp_walk using wpAny_loadPart' hl
    exact ⟨_, rfl, h⟩
def rRep1 (K : PySem.W.Frag) : R2 := fun x y H Q => ∃ l xs, x = .ref l ∧ y = .int 1 ∧ SqT K H l xs ∧ Q (.ref l) H
theorem op_rep1 {X : Cx} : OpR X (binaryOp .Mult) (rRep1 X.K) := by
  intro pins s σ H x y v u Q I rx ry h
  obtain ⟨l, xs, rfl, rfl, hT, q⟩ := h
  cases rx
  obtain ⟨t, rfl⟩ := ry
  obtain ⟨its, r, ⟨⟨cls, dd, data, sl⟩, ho, hc, n, hd⟩, _⟩ := I.tuple hT
  simp only at hc hd
  subst hc hd
  refine wpAny_binaryOp_repeat_ref (T := "tuple") (U := "int") (by decide) ⟨_, ho, rfl⟩ (fun s' => typeIs_int s' 1 t) noFill_tuple_mul F.fills_int_mul F.slot_int_rmul repeat_tuple F.slot_int_index.lookup ?_
  refine call_meets F.slot_int_rmul (typeIs_int s 1 t) F.entry_int_rmul (F.args_int_rmul_2 _ _) (int_rmul_tuple 1 t l its.toArray n dd sl) ⟨ho, rfl, ⟨_, ho, rfl⟩, ?_⟩
  exact call_meets F.slot_tuple_mul ⟨_, ho, rfl⟩ F.entry_tuple_mul (F.args_tuple_mul_2 _ _) (tuple_mul1 l its.toArray n dd sl t) ⟨ho, ⟨.ref l, H, I, rfl, q⟩⟩
/-! ### C.f, a number of the class -/
/-! ### C.m(..), m a classmethod with *rest, or by keywords -/
/-! ### defs with *rest that raise -/
section
variable {P : Program} {w : World} {K : PySem.W.Frag} {mg : PySem.Str → Option Value} {base : Heap} {x qual pv : PySem.Str} {params : Arguments} {body : List Stmt} {scope : Scope} {kws : List (PySem.Str × V)} {f : Addr} {fd : FuncData} {N ps : List PySem.Str} {k : Nat} {sp : Sp}
end
end Ech

set_option maxHeartbeats 1000000
namespace Ech
open PySem PySem.Spec PyProof.Rows L2
open He (ga ma)

/-! ### x(e, ..), x a def of the module with *rest alone -/
/-! ### == of the echoes of two songs -/
/-! ### t == (), t a tuple of anything -/
/-! ### max(xs), xs a list of ints -/
/-! ### weaving -/
def PieceAt (K : PySem.W.Frag) (G : Hp) (L : Int) (es : List Lot) (v : V) (n : Int) : Prop := ∃ x ec, v = .ref x ∧ SongAt K G x L n ec ∧ ec.map lotOf = es
theorem PieceAt.up {K : PySem.W.Frag} {G G' : Hp} {L n : Int} {es : List Lot} {v : V} (x : Ex G G') (h : PieceAt K G L es v n) : PieceAt K G' L es v n := by
  obtain ⟨a, ec, h1, h2, h3⟩ := h
  exact ⟨a, ec, h1, h2.up x, h3⟩
end Ech

set_option maxHeartbeats 4000000
namespace Ech
open PySem PySem.Spec PyProof.Rows L2
open He (ga ma)

/-! ### own error classes right below one of Python's errors -/
structure BaseE (B N I : String) (tl : List Value) : Prop where
  base : ExcBaseFacts B N I tl
  store : StoreFacts B tl "object.__setattr__" "object"
  obj : tl.contains (.type "object") = true
  typ : typeOf (.type B) = pure (.type "type")
  stub : Manifest.isStub B = false
  hand : PySem.W.handedIn (.builtin I) = true
theorem be_OverflowError : BaseE "OverflowError" "OverflowError.__new__" "OverflowError.__init__" [.type "OverflowError", .type "ArithmeticError", .type "Exception", .type "BaseException", .type "object"] := ⟨PySem.F.excBase_OverflowError, PySem.F.store_OverflowError, by decide +kernel, by kernel_rfl, by decide +kernel, by decide +kernel⟩
structure GexC (K : PySem.W.Frag) (C : Addr) (N : String) (tl : List Value) : Prop where
  cls : ∃ nm q Nn bs sn sub ab col dd k0 k1 k2 k3 k5, K.lookup C = some (excClassObj nm q C Nn bs tl true sn sub ab col dd k0 k1 k2 k3 k5 N)
  sa : PySem.W.findIn K (.ref C) "__setattr__" = some (some (.builtin "object.__setattr__"))
  exC : PySem.W.subIn K (.ref C) (.type "BaseException") = some true
  tyC : PySem.W.typeIn K (.ref C) = some (.type "type")
  kC : PySem.W.keepIn K (.ref C) = true
theorem gexB_ok {K : PySem.W.Frag} {C : Addr} {N : String} {tl : List Value} (h : gexB K C N tl = true) : GexC K C N tl := by
  obtain ⟨h1, h⟩ := He.ba h
  obtain ⟨h2, h⟩ := He.ba h
  obtain ⟨h3, h⟩ := He.ba h
  obtain ⟨h4, h5⟩ := He.ba h
  refine ⟨?_, He.eqO_ok h2, of_decide_eq_true h3, of_decide_eq_true h4, h5⟩
  unfold gxoB at h1
  split at h1
  · rename_i dd cd sl hl
    split at h1
    · rename_i C' bm k0 k1 k2 k3 n k5 hm hsl
      obtain ⟨h1, r⟩ := He.ba h1
      obtain ⟨h1, hd⟩ := He.ba h1
      obtain ⟨h1, nd⟩ := He.ba h1
      obtain ⟨e1, e2⟩ := He.ba h1
      obtain ⟨nm, bs, mro, nsp, qn, hasD, sn, sub, ab, col, del⟩ := cd
      have e1' : C' = C := eq_of_beq e1
      have e2' : n = N := eq_of_beq e2
      have e3' : bm = tl := eq_of_beq r
      have hm' : mro = .ref C' :: bm := hm
      have hd' : hasD = true := hd
      have nd' : del = false := by
        have : (!del) = true := nd
        simpa using this
      have hsl' : sl = #[k0, k1, k2, k3, some (.builtin n), k5] := Array.toList_inj.mp hsl
      subst e1' e2' e3' hm' hd' nd' hsl'
      exact ⟨nm, qn, nsp, bs, sn, sub, ab, col, dd, k0, k1, k2, k3, k5, hl⟩
    · cases h1
  · cases h1

section
open Builtin Builtin.ObjectAttr PySem.HandSPX
variable {prog : Program} {w : World} {A : Around} {R : Result → Shared → Prop} {hp : Heap} {g : Array GenState} {d : Drawn} {t : Nat} {os : OsState} {B N I : String} {tl : List Value}
theorem g_osa (BE : BaseE B N I tl) {K : PySem.W.Frag} {name : PySem.Str} {tk : Tok} {v : Value} {x C : Addr} {fv : Array Value} {cd : ClassData}
    (inK : K.In hp) (hx : hp.get? x = some { cls := .ref C, data := .fields fv }) (hcd : PySem.W.clsIn K C = some cd) (hm : cd.mro = .ref C :: tl) (hh : cd.hasDict = true) (ha : PySem.W.findIn K (.ref C) name = some none)
    (hq : ∀ h' tk' dx, (∀ b o, b ≠ x → hp.get? b = some o → h'.get? b = some o) → hp.objs.size ≤ dx → dx ≠ x → h'.get? x = some { cls := .ref C, dict := some dx, data := .fields fv } →
      h'.Ns1 dx (fun y => if y = name then some v else none) → R (.ok (.ret .none)) ⟨h', g, d, tk', os⟩) :
    codeAny (model prog w) A (.call (.builtin "object.__setattr__") ⟨[.ref x, .str name tk, v], []⟩) R ⟨hp, g, d, t, os⟩ := by
  have iat : PySem.W.InstAt hp x { cls := .ref C, data := .fields fv } C none := ⟨hx, rfl, rfl, trivial⟩
  have SO := PySem.F.store_object
  have full : cd.mro.isEmpty = false := by rw [hm]; rfl
  have hob : cd.mro.contains (.type "object") = true := by rw [hm, List.contains_cons, BE.obj, Bool.or_true]
  have apart : x ≠ hp.objs.size := Nat.ne_of_lt (Heap.lt_size hx)
  have isO : PySem.W.Looks (model prog w) hp (isInstance (.ref x) (.type "object")) true := iat.type.andThen (PySem.W.looks_mroIn inK (by unfold PySem.W.mroIn; rw [hcd, Option.bind_some, if_neg (by rw [full]; decide), hob]))
  refine codeAny_call_builtin SO.slot.plain SO.entry (@PySem.W.check_slot (model prog w) _ _ ⟨hp, g, d, t, os⟩ "object.__setattr__" "object" "__setattr__" (.ref x) [.str name tk, v] [] _ SO.kind SO.split isO (SO.args (.ref x) (.str name tk) v) ?_)
  have lm : PySem.W.Looks (model prog w) hp (mroOf (.ref C)) cd.mro := (PySem.W.looks_clsIn inK hcd).andThen .now
  have lt : PySem.W.Looks (model prog w) hp (storeTaker? none) none := .now
  have lc : PySem.W.Looks (model prog w) hp (classData C) cd := PySem.W.looks_clsIn inK hcd
  rw [PySem.W.osa_eq, refuse_eq]
  refine wpAny_bind (wpAny_bind (iat.type.at (wpAny_bind (lm.at ?_))))
  rw [hm, refuseLoop_ref, BE.store.passes]
  refine wpAny_pure (wpAny_bind (iat.type.at (wpAny_bind ((PySem.W.looks_findIn inK ha).at (wpAny_bind (lt.at ?_))))))
  show wpAny _ _ (storeInOwnDict (.ref x) (.ref C) (.str name tk) name v false) _ _ _
  obtain ⟨nm, bs, mro, ns, qn, hd, sn, sb, ab, col, del⟩ := cd
  dsimp only at hh
  subst hh
  unfold storeInOwnDict ownDictForStores
  repeat (first | with_reducible refine store_in_new ?_ ?_ | with_reducible refine wpAny_loadPart_at hx ?_ | with_reducible refine lc.at ?_ | wp_step)
  · exact ⟨_, #[], _, (Heap.get?_update_ne _ _ _ _ apart.symm).trans (Heap.get?_push_at rfl rfl), rfl, fun e he => absurd he (by simp), fun _ => rfl⟩
  · intro h' tk' ns' same
    have hx2 : (hp.push { cls := .type "dict", data := .dict #[] }).get? x = some { cls := .ref C, data := .fields fv } := Heap.get?_push_of_some _ hx
    refine hq h' tk' hp.objs.size (fun b o hb ho => ?_) (Nat.le_refl _) apart.symm ?_ ns'
    · exact (same.2 b (Nat.ne_of_lt (Heap.lt_size ho))).trans ((Heap.get?_update_ne _ _ _ _ hb).trans (Heap.get?_push_of_some _ ho))
    · exact (same.2 x apart).trans (Heap.get?_update_self _ hx2 rfl)
end

section
variable {X : Cx} {pins : List (Addr × Obj)} {σ : L2.St} {H : Hp} {s : Shared} {a C : Addr} {f : PySem.Str} {y : V} {u : Value} {A : Around} {B N I : String} {tl : List Value} {E : Value → Shared → Prop}
theorem g_first {Q : Unit → Shared → Prop} (BE : BaseE B N I tl) (T : GexC X.K C N tl) (J : Inv X pins σ H s) (e : H a = some (exo a C none)) (hno : PySem.W.findIn X.K (.ref C) f = some none) (ry : RelV y u)
    (h : ∀ dx s', H dx = none → dx ≠ a → Inv X pins σ (upd (upd H dx (exd dx [(f, y)])) a (exo a C (some dx))) s' → Q () s') : wpAny (model X.prog X.w) A (setAttr (.ref a) f u) Q E s := by
  obtain ⟨nm, q, Nn, bs, sn, sub, ab, col, dd, k0, k1, k2, k3, k5, hC⟩ := T.cls
  have hcl : PySem.W.clsIn X.K C = some { name := nm, bases := bs, mro := .ref C :: tl, ns := Nn, qualname := q, hasDict := true, slotNames := sn, subclasses := sub, abstract := ab, collection := col, hasDel := false } := by unfold PySem.W.clsIn; rw [hC] <;> rfl
  obtain ⟨t1, ho⟩ := exo_at J.hok e
  obtain ⟨hp, g, d, t, os⟩ := s
  refine PySem.W.set_plain J.kIn (ox := { cls := .ref C, dict := none, data := .fields #[.ref t1, .none, .none, .none, .bool false, .none] }) (od := none) ⟨ho, rfl, rfl, trivial⟩ T.sa ?_
  refine g_osa BE J.kIn ho hcl rfl rfl hno fun h' tk' dx keep fresh apart hx hn => ?_
  have free : H dx = none := J.hok.fresh fresh
  have off_d : ∀ {b : Addr} {o : Obj}, hp.get? b = some o → b ≠ dx := fun {b o} q => Nat.ne_of_lt (Nat.lt_of_lt_of_le (Heap.lt_size q) fresh)
  have off_a : ∀ {b : Addr}, H b = none → b ≠ a := fun {b} n z => by
    rw [z, e] at n
    cases n
  have U : Un X.fs [] H (upd (upd H dx (exd dx [(f, y)])) a (exo a C (some dx))) hp h' := {
    keep := fun b o q n _ _ => keep b o (off_a n) q
    slot := fun b o q n _ _ => ⟨o.slots, keep b o (off_a n) q⟩
    free := fun b o q n _ => by rw [upd_ne (off_a n), upd_ne (off_d q)]; exact n
    there := fun b o q _ => by
      by_cases hb : b = a
      · exact ⟨_, by rw [hb]; exact hx⟩
      · exact ⟨o, keep b o hb q⟩
    tups := fun b xs q => by rw [upd_ne (at_ne e q exo_tup), upd_ne (ne_of_none q free)]; exact q
    frzs := fun b o v q => by rw [upd_ne (at_ne e q exo_frz), upd_ne (ne_of_none q free)]; exact q
    tbls := fun b ps q => ⟨#[], by rw [upd_ne (at_ne e q exo_tbl), upd_ne (ne_of_none q free), q]; simp⟩ }
  refine h dx _ free apart (J.un (t' := tk') U fun b o q => ?_)
  by_cases hb : b = a
  · subst hb
    rw [upd_same] at q
    cases q
    exact exo_ok hx
  · rw [upd_ne hb] at q
    by_cases hd : b = dx
    · subst hd
      rw [upd_same] at q
      cases q
      exact exd_ok hn (relO_put (fs := []) ry fun g => True.intro)
    · rw [upd_ne hd] at q
      refine (J.hok b o q).stay (fun c v hc z => keep c v ?_ z) (fun c hc => ?_) (fun c xs hc => ?_)
      · rcases hc with hc | hc
        · rw [hc]; exact hb
        · exact at_ne e hc exo_own
      · rw [upd_ne (at_ne e hc exo_own), upd_ne (ne_of_none hc free)]; exact hc
      · rw [upd_ne (at_ne e hc exo_tup), upd_ne (ne_of_none hc free)]; exact hc
theorem g_init {us : List Value} {Q : Value → Shared → Prop} (BE : BaseE B N I tl) (T : GexC X.K C N tl) (J : Inv X pins σ H s) (e : H a = some (exo a C none)) (hl : us.length ≤ sizeLine) (h : ∀ s', Inv X pins σ H s' → Q .none s') :
    wpAny (model X.prog X.w) A (call (.builtin I) (.ref a :: us)) Q E s := by
  obtain ⟨nm, q, Nn, bs, sn, sub, ab, col, dd, k0, k1, k2, k3, k5, hC⟩ := T.cls
  obtain ⟨t1, ho⟩ := exo_at J.hok e
  obtain ⟨hp, g, d, t, os⟩ := s
  refine wpAny_call (PySem.HandSPX.init_base BE.base (fun _ => rfl) (J.kIn _ _ hC) ho hl fun h' t2 keep hx => ?_)
  have W := J.write (t' := t) (x := a) (e := a) (o := exo a C none) (by rw [e]; exact True.intro) (.inl rfl) keep ⟨_, hx⟩ (exo_ok hx)
  have same : upd H a (exo a C none) = H := by
    funext b
    by_cases hb : b = a
    · rw [hb, upd_same, e]
    · rw [upd_ne hb]
  rw [same] at W
  exact h _ W
end
def uGInit (K : PySem.W.Frag) (C : Addr) (N : String) (tl : List Value) (ta : TA) : TE := fun σ H Q => ta σ H fun vs H1 => match vs with
  | .ref a :: ws => ws.length ≤ 1000 ∧ H1 a = some (exo a C none) ∧ Q .non H1
  | _ => False
def uGSet (C : Addr) (f : PySem.Str) (to te : TE) : TS := fun D σ H => te σ H fun y H1 => to σ H1 fun x H2 => match x with
  | .ref a => H2 a = some (exo a C none) ∧ ∀ dx, H2 dx = none → dx ≠ a → D.nx σ (upd (upd H2 dx (exd dx [(f, y)])) a (exo a C (some dx)))
  | _ => False
section
variable {X : Cx} {o e : Expr} {es : List Expr} {to te : TE} {ta : TA} {f : PySem.Str} {p p' p1 p2 pos : Pos} {B N I : String} {tl : List Value} {C : Addr}
theorem u_ginit {pl : Sem Bool} {x : PySem.Str} (BE : BaseE B N I tl) (T : GexC X.K C N tl) (hg : Gl X x) (hm : X.mg x = none) (hv : bootBuiltins x = some (.type B)) (vV : PySem.W.findCls X.K (.type B) (.type "type") "__init__" = some (.val (.builtin I))) (ha : PA X (e :: es) ta)
    (hn : x ≠ "__name__" := by decide) (hdb : (x == ("__debug__" : PySem.Str)) = false := by decide)
    (hc : eval (.Call (.Attribute (.Name x p1) "__init__" p2) (e :: es) [] pos) X.env = (do
      let ov ← eval (.Name x p1) X.env
      standAt p2.atName
      let (f, first) ← holding [ov] (getMethod ov "__init__" pl)
      callWith pos f first (backTo pos (starEach (e :: es) X.env)) (backToKw pos (keywordEach [] X.env))) := by rfl)
    (he : starEach (e :: es) X.env = (false, eval e X.env) :: starEach es X.env := by rfl) (hpl : (backTo pos (starEach es X.env)).any (·.1) = false := by rfl) :
    PE X (.Call (.Attribute (.Name x p1) "__init__" p2) (e :: es) [] pos) (uGInit X.K C N tl ta) := by
  refine ⟨fun pins s σ H Q J h => ?_⟩
  refine PySem.W.methodCall_KW (ld_blt J hg hm hv ?_ hn hdb) hc
  obtain ⟨m, fr⟩ := J.fr
  refine PySem.W.method_type fr J.ok.mod.kin BE.typ BE.stub vV BE.hand ?_
  show wpAny _ _ (callWith pos (Value.builtin I) [] (backTo pos (starEach (e :: es) X.env)) []) _ _ _
  refine PyProof.Rows.callWith_method1 (thn (ha.run pos pins _ σ H _ (J.tok _) h) fun us s1 ⟨vs, H1, I1, r1, q⟩ => ?_) he hpl
  cases r1 with
  | nil => exact q.elim
  | @cons x0 u0 xr ur ra rw' => cases x0 with
    | ref a =>
      obtain ⟨hl, ea, q⟩ := q
      obtain rfl : u0 = Value.ref a := ra
      have hlen : ur.length ≤ sizeLine := by
        rw [← Paired.length rw', sizeLine_eq]
        omega
      exact g_init BE T I1 ea hlen fun s' W => ⟨.non, H1, W, rfl, q⟩
    | _ => exact q.elim
theorem u_gset (BE : BaseE B N I tl) (T : GexC X.K C N tl) (hno : PySem.W.findIn X.K (.ref C) f = some none) (ho : PE X o to) (he : PE X e te) (hs : swapsWith e (some (.Attribute o f p')) pos.line X.env = pure false := by rfl) : PS X (.Assign [.Attribute o f p'] e pos) (uGSet C f to te) := by
  refine ⟨fun pins s σ H D J h => ?_⟩
  refine plainObj_wpAny_Assign_Attribute (thn (he.run pins s σ H _ J h) fun v s1 ⟨y, H1, I1, r1, q1⟩ => thn (ho.run pins s1 σ H1 _ I1 q1) fun u s2 ⟨x, H2, I2, r2, q⟩ => ?_) hs
  cases x with
  | ref a =>
    obtain ⟨ea, q⟩ := q
    obtain rfl : u = Value.ref a := r2
    exact g_first BE T I2 ea hno r1 fun dx s' n ne W => ⟨σ, _, W, q dx n ne⟩
  | _ => exact q.elim
end
/-! ### raise C(e) and raise C() -/
theorem mk_bare {X : Cx} {pins : List (Addr × Obj)} {σ : L2.St} {H1 H2 : Hp} {hp hp2 h2 : Heap} {g1 g2 : Array GenState} {d1 d2 : Drawn} {t1 t2 : Nat} {os1 os2 : OsState} {a C : Addr} {Q : XK} (T : Raises X (.ref C)) (I1 : Inv X pins σ H1 ⟨hp, g1, d1, t1, os1⟩)
    (ha : hp.objs.size ≤ a) (k : ∀ b o, hp.get? b = some o → hp2.get? b = some o) (un : Un (frs X.stack) [] (upd H1 a (exo a C none)) H2 hp2 h2) (hok : HOk X.prog X.w H2 h2) (ho : os2 = os1) (hb : AllBare g2)
    (ea : H2 a = some (exo a C none)) (q : Q (.ref C) none (del H2 a)) : MkP X pins σ Q (.ref a) ⟨h2, g2, d2, t2, os2⟩ := by
  obtain ⟨t0, hoe⟩ := exo_at hok ea
  have hn : H1 a = none := I1.hok.fresh ha
  obtain ⟨G, g1', g2'⟩ := restrict h2 fun b => decide (b ≠ a)
  have gk : ∀ b, b ≠ a → G.get? b = h2.get? b := fun b hb => g1' b (decide_eq_true hb)
  have ge : G.get? a = none := g2' a (by simp)
  have off : ∀ {b : Addr} {o : Obj}, hp.get? b = some o → b ≠ a := fun {b o} z => Nat.ne_of_lt (Nat.lt_of_lt_of_le (Heap.lt_size z) ha)
  have up : ∀ {b : Addr}, b ≠ a → H1 b = none → upd H1 a (exo a C none) b = none := fun {b} hb n => by rw [upd_ne hb]; exact n
  have U : Un (frs X.stack) [] H1 (del H2 a) hp G := {
    keep := fun b o z n hf hx => by
      rw [gk b (off z)]
      exact un.keep b o (k b o z) (up (off z) n) hf hx
    slot := fun b o z n hf hx => by
      rw [gk b (off z)]
      exact un.slot b o (k b o z) (up (off z) n) hf hx
    free := fun b o z n hx => by
      rw [del_ne (off z)]
      exact un.free b o (k b o z) (up (off z) n) hx
    there := fun b o z hx => by
      rw [gk b (off z)]
      exact un.there b o (k b o z) hx
    tups := fun b xs z => by
      rw [del_ne (ne_of_none z hn)]
      exact un.tups b xs (by rw [upd_ne (ne_of_none z hn)]; exact z)
    frzs := fun b o v z => by
      rw [del_ne (ne_of_none z hn)]
      exact un.frzs b o v (by rw [upd_ne (ne_of_none z hn)]; exact z)
    tbls := fun b ps z => by
      rw [del_ne (ne_of_none z hn)]
      exact un.tbls b ps (by rw [upd_ne (ne_of_none z hn)]; exact z) }
  have hok3 : HOk X.prog X.w (del H2 a) G := fun b o z => by
    have hba : b ≠ a := fun e => by
      rw [e, del_same] at z
      cases z
    rw [del_ne hba] at z
    have noa : ∀ {c : Addr}, H2 c = some (.own b) → c ≠ a := fun {c} hc => at_ne ea hc exo_own
    refine (hok b o z).stay (fun c v hc y => ?_) (fun c hc => by rw [del_ne (noa hc)]; exact hc) (fun c xs hc => by rw [del_ne (at_ne ea hc exo_tup)]; exact hc)
    have hca : c ≠ a := by
      rcases hc with hc | hc
      · rw [hc]
        exact hba
      · exact noa hc
    rw [gk c hca]
    exact y
  have J : Inv X pins σ (del H2 a) ⟨G, g2, d2, t2, os2⟩ := I1.call' (ch := []) ho U hok3 hb (fun b z => absurd z (by simp))
  refine ⟨a, _, _, ⟨G, g2, d2, t2, os2⟩, _, .ref C, none, rfl, J, fun b o z => ?_, ge, hoe, ⟨rfl, rfl⟩, rfl, rfl, del_same, rfl, hb, T, q⟩
  by_cases hba : b = a
  · rw [hba, ge] at z
    cases z
  · exact (gk b hba).symm.trans z
def tMkG (C : Addr) (sp : Sp) (ta : TA) : L2.St → Hp → XK → Prop := fun σ H Q => ta σ H fun vs H1 => vs.length ≤ 1000 ∧ ∀ a, H1 a = none → sp (.ref a :: vs) (upd H1 a (exo a C none))
  (fun v H2 => v = .non ∧ ((∃ (d : Addr) (fs : List (PySem.Str × V)), H2 a = some (exo a C (some d)) ∧ H2 d = some (exd d fs) ∧ H1 d = none ∧ Q (.ref C) (some d) (upd (del H2 a) d (.xd fs))) ∨ (H2 a = some (exo a C none) ∧ Q (.ref C) none (del H2 a)))) (fun _ _ _ => False)
section
variable {X : Cx} {e : Expr} {es : List Expr} {ta : TA} {p pos : Pos} {B N I : String} {tl : List Value} {C fI : Addr} {CX : CXT} {x : PySem.Str} {k : Nat} {fd : FuncData} {ps : List PySem.Str} {sp : Sp}
theorem gmk_run {pins : List (Addr × Obj)} {σ : L2.St} {H1 : Hp} {s1 : Shared} {Q : XK} {vs : List V} {us : List Value} (BE : BaseE B N I tl) (T : GexC X.K C N tl) (iC : PySem.W.findIn X.K (.ref C) "__init__" = some (some (.ref fI))) (tI : PySem.W.typeIn X.K (.ref fI) = some (.type "function"))
    (F1 : FnOk X.prog X.w X.K X.mg X.base CX k fI fd ps sp) (hr : Room (k + 1) X.A) (hb : Binds X.K fd ps []) (hx : Passes CX X (fun _ _ _ => False)) (I1 : Inv X pins σ H1 s1) (r1 : Vals vs us) (hz : vs.length ≤ 1000)
    (q1 : ∀ a, H1 a = none → sp (.ref a :: vs) (upd H1 a (exo a C none)) (fun v H2 => v = .non ∧ ((∃ (d : Addr) (fs : List (PySem.Str × V)), H2 a = some (exo a C (some d)) ∧ H2 d = some (exd d fs) ∧ H1 d = none ∧ Q (.ref C) (some d) (upd (del H2 a) d (.xd fs))) ∨ (H2 a = some (exo a C none) ∧ Q (.ref C) none (del H2 a)))) (fun _ _ _ => False)) :
    wpAny (model X.prog X.w) X.A (call (.ref C) us) (MkP X pins σ Q) X.xe s1 := by
  obtain ⟨nm, q, Nn, bs, sn, sub, ab, col, dd, k0, k1, k2, k3, k5, hC⟩ := T.cls
  obtain ⟨hp, g, dr, tk, os⟩ := s1
  have next : hp.objs.size ≤ hp.objs.size + 1 := Nat.le_succ _
  have hq := q1 (hp.objs.size + 1) (I1.hok.fresh next)
  have grown : ∀ b o, hp.get? b = some o → ((hp.push (PySem.W.kdv_tup us)).push (PySem.HandSPX.excO C hp.objs.size)).get? b = some o := fun b o e => Heap.get?_push_of_some _ (Heap.get?_push_of_some _ e)
  have at_ : ((hp.push (PySem.W.kdv_tup us)).push (PySem.HandSPX.excO C hp.objs.size)).get? (hp.objs.size + 1) = some (PySem.HandSPX.excO C hp.objs.size) := by heap_get
  have I2 : Inv X pins σ (upd H1 (hp.objs.size + 1) (exo (hp.objs.size + 1) C none)) ⟨(hp.push (PySem.W.kdv_tup us)).push (PySem.HandSPX.excO C hp.objs.size), g, dr, tk, os⟩ := I1.laid (t' := tk) grown next (exo_ok at_)
  have r2 : Vals (V.ref (hp.objs.size + 1) :: vs) (Value.ref (hp.objs.size + 1) :: us) := .cons rfl r1
  have hl : (Value.ref (hp.objs.size + 1) :: us ++ []).length = ps.length := by
    have e := r2.length
    rw [F1.len _ _ _ _ hq] at e
    rw [List.append_nil]
    exact e.symm
  have bnd := hb _ (Value.ref (hp.objs.size + 1) :: us) I2.kIn hl
  rw [List.append_nil] at bnd
  have few : us.length ≤ sizeLine := by
    rw [← Paired.length r1, sizeLine_eq]
    omega
  refine wpAny_call (PySem.HandSPX.call_own BE.base (fun _ => rfl) (I1.kIn _ _ hC) (PySem.W.looks_findIn I1.kIn iC) (fun self => PySem.W.bind_fn I1.kIn self tI) few
    (codeAny_mono (F1.run _ X.stack _ _ ⟨Value.ref (hp.objs.size + 1) :: us, []⟩ (Value.ref (hp.objs.size + 1) :: us) _ _ (fun _ _ _ => False) (hr.make C us []) (I2.env0.make C us []) bnd r2 hq) fun r s' hq' => ?_))
  cases r with
  | error er => exact hx pins σ _ _ er s' I2 hq'
  | ok fl =>
    cases fl with
    | ret u =>
      obtain ⟨v, H2, os2, bare2, un2, hok2, rv, ev, q2⟩ := hq'
      subst ev
      obtain ⟨h2, g2, d2, t2, os'⟩ := s'
      rcases q2 with ⟨d, fs, ea, ed, hd1, q2⟩ | ⟨ea, q2⟩
      · exact ⟨rv, mk_end (raises_own T.exC T.tyC) I1 next grown un2 hok2 os2 bare2 ea ed hd1 q2⟩
      · exact ⟨rv, mk_bare (raises_own T.exC T.tyC) I1 next grown un2 hok2 os2 bare2 ea q2⟩
    | next => exact False.elim hq'
    | brk => exact False.elim hq'
    | cont => exact False.elim hq'
theorem pmk_g (BE : BaseE B N I tl) (T : GexC X.K C N tl) (iC : PySem.W.findIn X.K (.ref C) "__init__" = some (some (.ref fI))) (tI : PySem.W.typeIn X.K (.ref fI) = some (.type "function"))
    (F1 : FnOk X.prog X.w X.K X.mg X.base CX k fI fd ps sp) (hr : Room (k + 1) X.A) (hb : Binds X.K fd ps []) (hx : Passes CX X (fun _ _ _ => False)) (hg : Gl X x) (hm : X.mg x = some (.ref C)) (ha : PA X (e :: es) ta)
    (hdb : (x == ("__debug__" : PySem.Str)) = false := by decide) (he : starEach (e :: es) X.env = (false, eval e X.env) :: starEach es X.env := by rfl) (hpl : (backTo pos (starEach es X.env)).any (·.1) = false := by rfl) :
    PMk X (.Call (.Name x p) (e :: es) [] pos) (tMkG C sp ta) := by
  intro pins s σ H Q J h
  refine wpAny_Call_Name_kw (ld_glob J hg hm ?_ hdb)
  refine PySem.W.callWith_K (h₀ := X.base) J.ok.mod.kin T.kC (thn (ha.run pos pins s σ H _ J h) fun us s1 ⟨vs, H1, I1, r1, hz, q1⟩ => ⟨I1.kIn, ?_⟩) he hpl
  exact gmk_run BE T iC tI F1 hr hb hx I1 r1 hz q1
end
section
variable {X : Cx} {W : WX} {C fI : Addr} {f x : PySem.Str} {k : Nat} {fd : FuncData} {ps : List PySem.Str} {CX : CXT} {e : Expr} {te : TA} {p pos pos2 : Pos} {B N I : String} {tl : List Value}
theorem u_raiseG (BE : BaseE B N I tl) (hc : X.calm = true) (tk : Takes X W) (T : GexC X.K C N tl) (iC : PySem.W.findIn X.K (.ref C) "__init__" = some (some (.ref fI))) (tI : PySem.W.typeIn X.K (.ref fI) = some (.type "function"))
    (F1 : FnOk X.prog X.w X.K X.mg X.base CX k fI fd ps (spErr X.K C f)) (hr : Room (k + 1) X.A) (hb : Binds X.K fd ps []) (hx : Passes CX X (fun _ _ _ => False)) (hg : Gl X x) (hm : X.mg x = some (.ref C)) (ha : PA X [e] te)
    (hdb : (x == ("__debug__" : PySem.Str)) = false := by decide) (he : starEach [e] X.env = (false, eval e X.env) :: starEach [] X.env := by rfl) (hpl : (backTo pos (starEach [] X.env)).any (·.1) = false := by rfl) :
    PS X (.Raise (some (.Call (.Name x p) [e] [] pos)) none pos2) (uRaise C f W te) := by
  refine ps_wk (ps_raise hc tk (pmk_g BE T iC tI F1 hr hb hx hg hm (pa_cl ha) hdb he hpl)) fun D σ H q => ⟨_, q, fun vs H1 q1 => ?_⟩
  split at q1
  · rename_i v
    refine ⟨by show 1 ≤ 1000; decide, fun a ha1 => ⟨a, v, rfl, upd_same, fun dx hdx ne => ⟨rfl, Or.inl ⟨dx, [(f, v)], upd_same, by rw [upd_ne ne, upd_same], ?_, q1 dx _ ⟨?_, ?_⟩⟩⟩⟩⟩
    · rw [upd_ne ne] at hdx
      exact hdx
    · rw [upd_ne ne] at hdx
      exact hdx
    · funext b
      by_cases hb : b = dx
      · rw [hb, upd_same, upd_same]
      · rw [upd_ne hb, upd_ne hb]
        by_cases hba : b = a
        · rw [hba, del_same, ha1]
        · rw [del_ne hba, upd_ne hba, upd_ne hb, upd_ne hba]
  · exact q1.elim
end
/-! ### what the head tells of such a class -/
structure ErrG (K : PySem.W.Frag) (C : Addr) (f : PySem.Str) (B N I : String) (tl : List Value) : Prop where
  oex : GexC K C N tl
  exc : ExcC K C
  ini : PySem.W.findIn K (.ref C) "__init__" = some (some (.ref (ma K C "__init__")))
  fun_ : PySem.W.typeIn K (.ref (ma K C "__init__")) = some (.type "function")
  none_ : PySem.W.findIn K (.ref C) f = some none
  met : PySem.W.exmOne K (.ref C) (.ref C) = some true
  isV : PySem.W.kitOne K (.ref C) (.type B) = some true
  vei : PySem.W.findCls K (.type B) (.type "type") "__init__" = some (.val (.builtin I))
theorem gerrB_ok {K : PySem.W.Frag} {C : Addr} {f : PySem.Str} {B N I : String} {tl : List Value} (h : gerrB K C f B N I tl = true) : ErrG K C f B N I tl := by
  obtain ⟨h1, h⟩ := He.ba h
  obtain ⟨h2, h⟩ := He.ba h
  obtain ⟨h3, h⟩ := He.ba h
  obtain ⟨h4, h⟩ := He.ba h
  obtain ⟨h5, h⟩ := He.ba h
  obtain ⟨h6, h⟩ := He.ba h
  obtain ⟨h7, h8⟩ := He.ba h
  refine ⟨gexB_ok h1, exfB_ok h2, He.eqO_ok h3, of_decide_eq_true h4, of_decide_eq_true h5, of_decide_eq_true h6, of_decide_eq_true h7, ?_⟩
  unfold ginitB at h8
  split at h8
  · rename_i n e
    rw [e, eq_of_beq h8]
  · cases h8
/-! ### several except clauses, each with a name for the error -/
def wTakes (K : PySem.W.Frag) (Wout : WX) (D : Ends) : List (Value × Nat × TS) → WX
  | [] => Wout
  | (c, i, ts) :: r => wTake K c i ts (wTakes K Wout D r) D
inductive HdsT (X : Cx) : List ExceptHandler → List (Value × Nat × TS) → Prop
  | nil : HdsT X [] []
  | cons {x n : PySem.Str} {c : Value} {i : Nat} {ts : TS} {b₀ : Stmt} {suite : List Stmt} {np pos' : Pos} {hds : List ExceptHandler} {l : List (Value × Nat × TS)} (hi : X.N[i]? = some n) (hln : X.env.kindOf n = some .local) (hc : Names X x c)
      (hsu : ∀ (a : Addr) (pn : List (Addr × Obj)), PSs (X.suite a pn) (b₀ :: suite) ts) (r : HdsT X hds l) : HdsT X (.ExceptHandler (some (.Name x np)) (some n) (b₀ :: suite) pos' :: hds) ((c, i, ts) :: l)
section
variable {X : Cx} {body : List Stmt} {h₀ : ExceptHandler} {hds : List ExceptHandler} {l : List (Value × Nat × TS)} {pos : Pos} {tb : WX → TS} {Wout : WX}
theorem ps_try_takes (hs : X.stack = X.env :: X.outer) (hf : X.env.frame = some X.env.locals) (hex : X.ex = []) (hN : X.N.Nodup) (tk : Takes X Wout)
    (hb : ∀ (W : WX) (pn : List (Addr × Obj)) (xe : Value → Shared → Prop), Takes (X.tr pn xe) W → PassesOwn (model X.prog X.w) X.A X.env xe → PSs (X.tr pn xe) body (tb W))
    (hh : HdsT X (h₀ :: hds) l) : PS X (.Try body (h₀ :: hds) [] [] pos) (fun D σ H => tb (wTakes X.K Wout D l) D σ H) := by
  refine ⟨fun pins s σ H D J0 h => ?_⟩
  have ok := J0.ok
  have hfr : X.A.frames = some (X.env :: X.outer) := by rw [ok.frames, hs]
  refine wpAny_Try_except ?_
  refine wpAny_mono ((hb (wTakes X.K Wout D l) (X.pn ++ pins) (fun e s₁ => wpAny (model X.prog X.w) X.A (noteFrame e X.env) (fun _ s₂ => wpAny (model X.prog X.w) X.A (setFlight e none) (fun _ s₃ =>
    wpAny (model X.prog X.w) X.A (handleBy e X.env (h₀ :: hds)) (SP X pins D) X.xe s₃) X.xe s₂) X.xe s₁) (fun u s' xx => ?_) PassesOwn.looking).run [] s σ H D (J0.toTry _) h) (fun f s1 hsp => ?_) (fun e s1 he => he)
  · obtain ⟨a, B, sI, pins', σ', H', cls, d, rfl, J', nb, up, sky, na, os, ag, w⟩ := xx
    have J : Inv X pins σ' H' sI := J'.ofTry ok
    have air : Sky B (X.env :: X.outer) a (Zc cls d) X.env.locals s'.heap := by rw [← hs]; exact sky
    refine Sky.land Zc.steady hfr hf air fun h3 fl3 up3 => ?_
    have J3 : Inv X pins σ' H' { s' with heap := h3 } := J.landed nb fl3.1 (up.trans up3) os ag
    obtain ⟨oe3, vs3, he3, hz3, hd3⟩ := fl3.there
    have nfr : a ∉ frs (X.env :: X.outer) := fun hm => by
      obtain ⟨_, o', e', hnf⟩ := fl3.2.2.1.mem hm
      rw [he3] at e'
      cases e'
      exact hnf _ hd3
    have nL : a ≠ X.env.locals := fun z => nfr (List.mem_filterMap.mpr ⟨X.env, List.mem_cons_self, by rw [hf, z]⟩)
    have nF : a ∉ X.fs := fun hm => by
      obtain ⟨e, he, q⟩ := List.mem_filterMap.mp hm
      exact nfr (List.mem_filterMap.mpr ⟨e, List.mem_cons_of_mem _ he, q⟩)
    have nB : B.get? a = none := fl3.2.1
    have nI : sI.heap.get? a = none := by
      cases z : sI.heap.get? a with
      | none => rfl
      | some o =>
        have := nb a o z (by rw [hs]; exact nfr)
        rw [nB] at this
        cases this
    have n0 : X.s_0.heap.get? a = none := by
      cases z : X.s_0.heap.get? a with
      | none => rfl
      | some o =>
        obtain ⟨o', e'⟩ := J.base.there a o z (by rw [hex]; exact List.not_mem_nil)
        rw [nI] at e'
        cases e'
    have npn : ∀ p ∈ X.pn ++ pins, p.1 ≠ a := fun p hp z => by
      have := (J.pin p hp).1
      rw [z, nI] at this
      cases this
    have S3 := J3.suite he3 hd3 na nL nF
    have go : ∀ {hds' : List ExceptHandler} {l' : List (Value × Nat × TS)}, HdsT X hds' l' → wTakes X.K Wout D l' cls d σ' H' →
        wpAny (model X.prog X.w) X.A (handleBy (.ref a) X.env hds') (SP X pins D) X.xe { s' with heap := h3 } := by
      intro hds' l' hk
      induction hk with
      | nil =>
        intro w
        refine wpAny_handleBy_nil ?_
        obtain ⟨k1, k2, k3, oe, vs, T, oT, ts', he, hz, hd, h1, hr⟩ := id fl3
        unfold PySem.passOn
        refine wpAny_bind (wpAny_field he hd h1 ?_)
        rw [if_neg (show ¬ ((Value.ref T == Value.none) = true) from by simp)]
        have fin : wpAny (model X.prog X.w) X.A (setFlight (.ref a) X.env.frame) (fun _ s4 => wpAny (model X.prog X.w) X.A (throw (.ref a) : Sem Flow) (SP X pins D) X.xe s4) X.xe { s' with heap := h3 } := by
          rw [hf]
          refine HandSPX.setFlight_upZ fl3 fun h4 hh4 up4 => wpAny_throw (tk _ _ ?_)
          exact ⟨a, B, sI, pins, σ', H', cls, d, rfl, J, nb, (up.trans up3).trans up4, .inr (.inr (by rw [hs]; exact hh4)), na, os, ag, w⟩
        first
          | exact wpAny_bind (wpAny_pure (wpAny_bind fin))
          | exact wpAny_bind fin
      | @cons x n c i ts b₀ suite np pos' hds2 l2 hi hln hc hsu r ih =>
        intro w
        obtain ⟨b, hb1, hyes, hno⟩ := w
        refine wpAny_handleBy_cons (codeAny_handlers_test ?_) (by intro q; cases q)
        have LT : PySem.W.Looks (model X.prog X.w) h3 (typeOf (.ref a)) cls := fun A Q E s k q => wpAny_typeOf_ref (k _ _ he3) (by rw [hz3.1]; exact q)
        have LM := PySem.W.exm_one (M := model X.prog X.w) (J3.kIn) LT hb1
        have test : ∀ {Q : Value → Shared → Prop} {E : Value → Shared → Prop}, Q c { s' with heap := h3 } → wpAny (model X.prog X.w) (X.A.mark (some (.ref a))) (eval (.Name x np) X.env) Q E { s' with heap := h3 } := fun {Q E} q => by
          obtain ⟨hg, hdbg, hm | ⟨hm, hv, hnn⟩⟩ := hc
          · exact ld_glob (X := X.suite a ((a, oe3) :: (X.pn ++ pins))) S3 hg hm q hdbg
          · exact ld_blt (X := X.suite a ((a, oe3) :: (X.pn ++ pins))) S3 hg hm hv q hnn hdbg
        refine test (LM.here ?_)
        cases b with
        | true =>
          refine codeAny_handlers_suite_as ?_
          refine HandSPX.lands_againZ fl3 fun h4 fl4 up4 => ?_
          have J4 : Inv X pins σ' H' { s' with heap := h4 } := J.landed nb fl4.1 ((up.trans up3).trans up4) os ag
          obtain ⟨oe4, vs4, he4, hz4, hd4⟩ := fl4.there
          have K4 := inv_adopt J4 he4 hz4 hd4 na nL n0 npn
          have S4 : Inv (X.suite a (X.pn ++ pins)) [] σ' (upd H' a (ExH a cls d)) { s' with heap := h4 } :=
            ⟨K4.ok.suite _ _, K4.os, K4.bare, K4.base, K4.loc, K4.cell, K4.free, K4.freeC, fun p hp => K4.pin p (by rw [List.append_nil] at hp; exact hp), K4.hok, K4.len⟩
          refine store_ok (X := X.suite a (X.pn ++ pins)) (v := .ref a) S4 hN hi (.inl hln) rfl (fun s5 S5 => ?_) (.inr hln)
          refine wpAny_mono ((hsu a (X.pn ++ pins)).run [] s5 _ _ _ S5 (hyes rfl a na)) (fun f s6 hsp => ?_) (fun _ _ z => False.elim z)
          have end_ : ∀ {σ6 : L2.St} {H6 : Hp} {Q : Shared → Prop}, Inv (X.suite a (X.pn ++ pins)) [] σ6 H6 s6 → (∀ s7, Inv X pins (σ6.set i none) H6 s7 → Q s7) →
              wpAny (model X.prog X.w) X.A (do bindName X.env n .none; unbindBehindTheSuite X.env n pos') (fun _ s7 => Q s7) X.xe s6 := fun {σ6 H6 Q} S6 hq =>
            gone_ok (X := X) (pins := pins) ⟨ok, S6.os, S6.bare, S6.base, S6.loc, S6.cell, S6.free, S6.freeC, fun p hp => S6.pin p (List.mem_append_left _ hp), S6.hok, S6.len⟩ hN hi hln hq
          cases f with
          | next =>
            obtain ⟨σ6, H6, S6, q6⟩ := hsp
            exact end_ S6 fun s7 J7 => ⟨_, _, J7, q6⟩
          | brk =>
            obtain ⟨σ6, H6, S6, q6⟩ := hsp
            exact end_ S6 fun s7 J7 => ⟨_, _, J7, q6⟩
          | cont =>
            obtain ⟨σ6, H6, S6, q6⟩ := hsp
            exact end_ S6 fun s7 J7 => ⟨_, _, J7, q6⟩
          | ret u =>
            obtain ⟨v6, σ6, H6, S6, r6, q6⟩ := hsp
            exact end_ S6 fun s7 J7 => ⟨_, _, _, J7, r6, q6⟩
        | false =>
          show wpAny _ X.A (handleBy (.ref a) X.env hds2) _ _ _
          exact ih (hno rfl)
    exact go hh w
  · cases f with
    | next =>
      obtain ⟨σ', H', J', q⟩ := hsp
      exact wpAny_execs_nil ⟨σ', H', J'.ofTry ok, q⟩
    | brk =>
      obtain ⟨σ', H', J', q⟩ := hsp
      exact ⟨σ', H', J'.ofTry ok, q⟩
    | cont =>
      obtain ⟨σ', H', J', q⟩ := hsp
      exact ⟨σ', H', J'.ofTry ok, q⟩
    | ret u =>
      obtain ⟨v, σ', H', J', r, q⟩ := hsp
      exact ⟨v, σ', H', J'.ofTry ok, r, q⟩
end
end Ech

/-! orbits of a partial injection of the places below n: lines and rings -/
namespace Ech
structure HopF (n : Int) (f g : Int → Option Int) : Prop where
  fin : ∀ p x, 0 ≤ p → p < n → f p = some x → 0 ≤ x ∧ x < n ∧ g x = some p
  gin : ∀ p x, 0 ≤ p → p < n → g p = some x → 0 ≤ x ∧ x < n ∧ f x = some p
theorem HopF.swap {n : Int} {f g : Int → Option Int} (h : HopF n f g) : HopF n g f := ⟨h.gin, h.fin⟩
def PathF (f : Int → Option Int) (P : List Int) : Prop := ∀ i a b, P[i]? = some a → P[i + 1]? = some b → f a = some b
structure Orb (n : Int) (f : Int → Option Int) (s : Int) (P : List Int) : Prop where
  hd : ∃ l, P = s :: l
  path : PathF f P
  nd : P.Nodup
  ins : ∀ x ∈ P, 0 ≤ x ∧ x < n
  fin : ∀ x, P.getLast? = some x → f x = none ∨ f x = some s
section
variable {n : Int} {f g : Int → Option Int} {s : Int} {P : List Int}
theorem Orb.last (o : Orb n f s P) : ∃ x, P.getLast? = some x ∧ x ∈ P := by
  obtain ⟨l, hP⟩ := o.hd
  have hne : P ≠ [] := by rw [hP]; exact List.cons_ne_nil _ _
  exact ⟨P.getLast hne, List.getLast?_eq_some_getLast hne, List.getLast_mem hne⟩
end
/-! ### the strand of a place -/
/-! ### all strands -/
/-! ### hops -/
def hopsD (f : Int → Option Int) (P : List Int) : List (Int × Int) := P.filterMap fun p => (f p).map fun q => (p, q)
end Ech

/-! the least of a list of ints; strands of a song as objects; their hops against its links -/
namespace Ech
open PySem PySem.Spec PyProof.Rows L2
open He (ga ma)
/-! ### the plain law of the hops -/
/-! ### strands as objects -/
def HopAt (K : PySem.W.Frag) (G : Hp) (es : List Ec) (v : V) (h : Int × Int) : Prop := ∃ b t, v = .ref b ∧ SqT K G b [.int h.1, .int h.2, .ref t] ∧
  ∃ i ec, i = (if h.2 < h.1 then 1 else 0) ∧ es[i]? = some ec ∧ TabAt K G t (if h.2 < h.1 then turnRows ec.2.2 else ec.2.2)
theorem HopAt.up {K : PySem.W.Frag} {G G' : Hp} {es : List Ec} {v : V} {h : Int × Int} (a : HopAt K G es v h) (x : Ex G G') : HopAt K G' es v h := by
  obtain ⟨b, t, h1, h2, i, ec, h3, h4, h5⟩ := a
  exact ⟨b, t, h1, Evl.ex_t x h2, i, ec, h3, h4, h5.up x⟩
theorem hops_up {K : PySem.W.Frag} {G G' : Hp} {es : List Ec} {vs : List V} {hs : List (Int × Int)} (a : Paired (HopAt K G es) vs hs) (x : Ex G G') : Paired (HopAt K G' es) vs hs := paired_imp2 a fun _ _ _ h => h.up x
def kindN (b : Bool) : PySem.Str := if b then "Ring" else "Line"
def StrandAt (K : PySem.W.Frag) (G : Hp) (es : List Ec) (f : Int → Option Int) (d : Bool × List Int) (a : Addr) : Prop :=
  ∃ dx tp th v ws, G a = some (.ins (ga K (kindN d.1)) dx [("row_of_places", .ref tp), ("row_of_hops", .ref th), ("last_hop", v)]) ∧ SqT K G tp (d.2.map V.int) ∧ SqT K G th ws ∧ Paired (HopAt K G es) ws (hopsD f d.2)
theorem StrandAt.up {K : PySem.W.Frag} {G G' : Hp} {es : List Ec} {f : Int → Option Int} {d : Bool × List Int} {a : Addr} (h : StrandAt K G es f d a) (x : Ex G G') : StrandAt K G' es f d a := by
  obtain ⟨dx, tp, th, v, ws, h1, h2, h3, h4⟩ := h
  exact ⟨dx, tp, th, v, ws, x _ _ h1, Evl.ex_t x h2, Evl.ex_t x h3, hops_up h4 x⟩
/-! ### the hops of a strand -/
end Ech

/-! dict comprehensions; the sum of a dict's values; a *= b -/
namespace Ech
open PySem PySem.Spec PyProof.Rows L2
section
variable {X : Cx} {tg iter kx vx : Expr} {w : TW} {g : TG} {pos : Pos} {ifs : List Expr} {scope : Scope} {own : List (PySem.Str × Nat)} {tt : TT} {tk tv : TE}
/-! ### sum(d.values()) -/
variable {o : Expr} {p apos mpos : Pos} {td : TE}
end
end Ech

/-! counts of rows, strand by strand: what is counted -/
namespace Ech
open PySem PySem.Spec PyProof.Rows L2
open He (ga ma)
/-! ### ways along the hops -/
end Ech

/-! the strands as a law lists them: the lines by their first places, then the rings by their least places -/
namespace Ech
/-! ### as the law goes -/
/-! ### in the heap -/
section
open PySem PySem.Spec PyProof.Rows L2
open He (ga ma)
def AheadAt (R : Addr → Int → Int → Prop) (kvs : List (Key × V)) (hs : List (Int × Int)) : Prop := Paired (fun kv h => kv.1 = (Sum.inl h.1 : Key) ∧ ∃ t, kv.2 = V.ref t ∧ R t h.1 h.2) kvs hs
theorem AheadAt.imp {R R' : Addr → Int → Int → Prop} {kvs : List (Key × V)} {hs : List (Int × Int)} (h : AheadAt R kvs hs) (i : ∀ t p q, R t p q → R' t p q) : AheadAt R' kvs hs :=
  paired_imp2 h fun _ _ _ ⟨z, t, e, r⟩ => ⟨z, t, e, i _ _ _ r⟩
/-! ### how great counts are -/
end
end Ech

/-! rows told one by one, and strand by strand: plain counting -/
namespace Ech
section
variable {ops : Int → List Int} {F F' : (Int → Int) → Int}
end
/-! ### along a strand -/
section
variable {tabs : List (List (List (Option Int)))} {ops : Int → List Int}
end
section
variable {tabs : List (List (List (Option Int)))} {ops : Int → List Int} {opsL : List (List Int)} {n : Int} {f g : Int → Option Int}
end
/-! ### all rows -/
/-! ### fixed letters -/
/-! ### links and hops -/
end Ech

/-! all rows one by one: what the laws need of tuples and of dicts of fixed letters -/
namespace Ech
open PySem PySem.Spec PyProof.Rows L2
open He (ga ma)
/-! repr of fixed letters -/
/-! how many rows there are -/
end Ech

namespace k36
open PySem PySem.Spec PyProof.Rows L2 Ech
open He (ga ma)
open He5 (wf)
abbrev Ev (K : PySem.W.Frag) (mg : PySem.Str → Option Value) : Prop := EnvOf fa fn K mg
section
variable {K : PySem.W.Frag} {mg : PySem.Str → Option Value}
theorem gl_is_integer (e : Ev K mg) : mg "is_integer" = some (.ref (ga K "is_integer")) := e.glo 1
theorem gl_is_list (e : Ev K mg) : mg "is_list" = some (.ref (ga K "is_list")) := e.glo 2
theorem gl_is_price (e : Ev K mg) : mg "is_price" = some (.ref (ga K "is_price")) := e.glo 3
theorem gl_sum_of (e : Ev K mg) : mg "sum_of" = some (.ref (ga K "sum_of")) := e.glo 4
theorem gl_is_row_of (e : Ev K mg) : mg "is_row_of" = some (.ref (ga K "is_row_of")) := e.glo 9
theorem gl_are_rows (e : Ev K mg) : mg "are_rows" = some (.ref (ga K "are_rows")) := e.glo 10
theorem gl_need_letters (e : Ev K mg) : mg "need_letters" = some (.ref (ga K "need_letters")) := e.glo 11
theorem gl_is_echo (e : Ev K mg) : mg "is_echo" = some (.ref (ga K "is_echo")) := e.glo 14
theorem gl_need_echoes (e : Ev K mg) : mg "need_echoes" = some (.ref (ga K "need_echoes")) := e.glo 15
theorem gl_need_song (e : Ev K mg) : mg "need_song" = some (.ref (ga K "need_song")) := e.glo 18
theorem gl_need_near (e : Ev K mg) : mg "need_near" = some (.ref (ga K "need_near")) := e.glo 19
theorem gl_is_place (e : Ev K mg) : mg "is_place" = some (.ref (ga K "is_place")) := e.glo 20
theorem gl_fits_row (e : Ev K mg) : mg "fits_row" = some (.ref (ga K "fits_row")) := e.glo 21
theorem gl_need_row (e : Ev K mg) : mg "need_row" = some (.ref (ga K "need_row")) := e.glo 22
theorem gl_are_prices (e : Ev K mg) : mg "are_prices" = some (.ref (ga K "are_prices")) := e.glo 23
theorem gl_fits_wishes (e : Ev K mg) : mg "fits_wishes" = some (.ref (ga K "fits_wishes")) := e.glo 24
theorem gl_fits_fixed (e : Ev K mg) : mg "fits_fixed" = some (.ref (ga K "fits_fixed")) := e.glo 25
theorem gl_need_wishes (e : Ev K mg) : mg "need_wishes" = some (.ref (ga K "need_wishes")) := e.glo 26
theorem gl_is_row (e : Ev K mg) : mg "is_row" = some (.ref (ga K "is_row")) := e.glo 27
theorem gl_is_wishes (e : Ev K mg) : mg "is_wishes" = some (.ref (ga K "is_wishes")) := e.glo 28
theorem gl_is_fixed (e : Ev K mg) : mg "is_fixed" = some (.ref (ga K "is_fixed")) := e.glo 29
theorem gl_links_of (e : Ev K mg) : mg "links_of" = some (.ref (ga K "links_of")) := e.glo 30
theorem gl_link_price (e : Ev K mg) : mg "link_price" = some (.ref (ga K "link_price")) := e.glo 31
theorem gl_price (e : Ev K mg) : mg "price" = some (.ref (ga K "price")) := e.glo 32
theorem gl_faults (e : Ev K mg) : mg "faults" = some (.ref (ga K "faults")) := e.glo 33
theorem gl__law_pen (e : Ev K mg) : mg "_law_pen" = some (.ref (ga K "_law_pen")) := e.glo 34
theorem gl__law_draw (e : Ev K mg) : mg "_law_draw" = some (.ref (ga K "_law_draw")) := e.glo 35
theorem gl__law_pick (e : Ev K mg) : mg "_law_pick" = some (.ref (ga K "_law_pick")) := e.glo 36
theorem gl__law_shuffled (e : Ev K mg) : mg "_law_shuffled" = some (.ref (ga K "_law_shuffled")) := e.glo 37
theorem gl__law_rows (e : Ev K mg) : mg "_law_rows" = some (.ref (ga K "_law_rows")) := e.glo 38
theorem gl__law_reach (e : Ev K mg) : mg "_law_reach" = some (.ref (ga K "_law_reach")) := e.glo 39
theorem gl__law_plain (e : Ev K mg) : mg "_law_plain" = some (.ref (ga K "_law_plain")) := e.glo 40
theorem gl__law_made (e : Ev K mg) : mg "_law_made" = some (.ref (ga K "_law_made")) := e.glo 41
theorem gl__law_row (e : Ev K mg) : mg "_law_row" = some (.ref (ga K "_law_row")) := e.glo 42
theorem gl__law_wishes (e : Ev K mg) : mg "_law_wishes" = some (.ref (ga K "_law_wishes")) := e.glo 43
theorem gl__law_any_value (e : Ev K mg) : mg "_law_any_value" = some (.ref (ga K "_law_any_value")) := e.glo 44
theorem gl__law_told (e : Ev K mg) : mg "_law_told" = some (.ref (ga K "_law_told")) := e.glo 45
theorem gl__law_value_text (e : Ev K mg) : mg "_law_value_text" = some (.ref (ga K "_law_value_text")) := e.glo 46
theorem gl_law (e : Ev K mg) : mg "law" = some (.ref (ga K "law")) := e.glo 47
theorem gl_InvalidSong (e : Ev K mg) : mg "InvalidSong" = some (.ref (ga K "InvalidSong")) := e.glo 50
theorem gl_InvalidRow (e : Ev K mg) : mg "InvalidRow" = some (.ref (ga K "InvalidRow")) := e.glo 51
theorem gl_InvalidWishes (e : Ev K mg) : mg "InvalidWishes" = some (.ref (ga K "InvalidWishes")) := e.glo 52
theorem gl_InvalidPlace (e : Ev K mg) : mg "InvalidPlace" = some (.ref (ga K "InvalidPlace")) := e.glo 53
theorem gl_Barred (e : Ev K mg) : mg "Barred" = some (.ref (ga K "Barred")) := e.glo 57
theorem gl_TooFar (e : Ev K mg) : mg "TooFar" = some (.ref (ga K "TooFar")) := e.glo 59
theorem gl_Table (e : Ev K mg) : mg "Table" = some (.ref (ga K "Table")) := e.glo 60
theorem gl_Song (e : Ev K mg) : mg "Song" = some (.ref (ga K "Song")) := e.glo 61
theorem con_MAX_LETTERS (e : Ev K mg) : ∃ t, mg "MAX_LETTERS" = some (.int 5 t) := e.int 62
theorem con_GREATEST (e : Ev K mg) : ∃ t, mg "GREATEST" = some (.int (10 ^ 30) t) := e.int 64
theorem con_MAX_ECHOES (e : Ev K mg) : ∃ t, mg "MAX_ECHOES" = some (.int 2 t) := e.int 69
theorem fr_isinstance (e : Ev K mg) : mg "isinstance" = none := e.free 70
theorem fr_int (e : Ev K mg) : mg "int" = none := e.free 71
theorem fr_bool (e : Ev K mg) : mg "bool" = none := e.free 72
theorem fr_list (e : Ev K mg) : mg "list" = none := e.free 73
theorem fr_tuple (e : Ev K mg) : mg "tuple" = none := e.free 74
theorem fr_dict (e : Ev K mg) : mg "dict" = none := e.free 75
theorem fr_len (e : Ev K mg) : mg "len" = none := e.free 77
theorem fr_all (e : Ev K mg) : mg "all" = none := e.free 78
theorem fr_range (e : Ev K mg) : mg "range" = none := e.free 79
theorem fr_enumerate (e : Ev K mg) : mg "enumerate" = none := e.free 81
theorem fr_sum (e : Ev K mg) : mg "sum" = none := e.free 82
theorem fr_min (e : Ev K mg) : mg "min" = none := e.free 83
theorem fr_max (e : Ev K mg) : mg "max" = none := e.free 84
theorem fr_abs (e : Ev K mg) : mg "abs" = none := e.free 85
theorem fr_repr (e : Ev K mg) : mg "repr" = none := e.free 86
theorem fr_sorted (e : Ev K mg) : mg "sorted" = none := e.free 87
theorem fr_ValueError (e : Ev K mg) : mg "ValueError" = none := e.free 88
theorem fr_OverflowError (e : Ev K mg) : mg "OverflowError" = none := e.free 90
theorem cl_Table (e : Ev K mg) : Cls K (ga K "Table") := e.cls 94
theorem mk_Table (e : Ev K mg) : Mk K (ga K "Table") (ma K (ga K "Table") "__init__") := e.mkr 95
theorem in_Table (e : Ev K mg) {H : Hp} {a dx : Addr} {fs : List (PySem.Str × V)} (h : H a = some (.ins (ga K "Table") dx fs)) : TyX K H (.ref a) (.ref (ga K "Table")) := insB_ok (e.says.fact 96 rfl) (cl_Table e) h
theorem na_Table_entries (e : Ev K mg) : NoAttr K (ga K "Table") "entries" := e.noat 97
theorem pr_Table_letters (e : Ev K mg) : PropOf K (ga K "Table") "letters" (ma K (ga K "Table") "letters") (wf K (ga K "Table") "property" "letters") := propB_ok (e.says.fact 111 rfl)
theorem me_Table_price (e : Ev K mg) : Meth K (ga K "Table") "price" (ma K (ga K "Table") "price") := e.meth 113
theorem cl_Song (e : Ev K mg) : Cls K (ga K "Song") := e.cls 120
theorem mk_Song (e : Ev K mg) : Mk K (ga K "Song") (ma K (ga K "Song") "__init__") := e.mkr 121
theorem in_Song (e : Ev K mg) {H : Hp} {a dx : Addr} {fs : List (PySem.Str × V)} (h : H a = some (.ins (ga K "Song") dx fs)) : TyX K H (.ref a) (.ref (ga K "Song")) := insB_ok (e.says.fact 122 rfl) (cl_Song e) h
theorem na_Song_alphabet (e : Ev K mg) : NoAttr K (ga K "Song") "alphabet" := e.noat 123
theorem na_Song_size (e : Ev K mg) : NoAttr K (ga K "Song") "size" := e.noat 124
theorem na_Song_voices (e : Ev K mg) : NoAttr K (ga K "Song") "voices" := e.noat 125
theorem cc_Song_NEAR (e : Ev K mg) : ConI K (ga K "Song") "NEAR" 40 := conB_ok (e.says.fact 128 rfl)
theorem pr_Song_letters (e : Ev K mg) : PropOf K (ga K "Song") "letters" (ma K (ga K "Song") "letters") (wf K (ga K "Song") "property" "letters") := propB_ok (e.says.fact 132 rfl)
theorem pr_Song_length (e : Ev K mg) : PropOf K (ga K "Song") "length" (ma K (ga K "Song") "length") (wf K (ga K "Song") "property" "length") := propB_ok (e.says.fact 133 rfl)
theorem pr_Song_echoes (e : Ev K mg) : PropOf K (ga K "Song") "echoes" (ma K (ga K "Song") "echoes") (wf K (ga K "Song") "property" "echoes") := propB_ok (e.says.fact 134 rfl)
theorem pr_Song_is_near (e : Ev K mg) : PropOf K (ga K "Song") "is_near" (ma K (ga K "Song") "is_near") (wf K (ga K "Song") "property" "is_near") := propB_ok (e.says.fact 136 rfl)
theorem er_InvalidSong (e : Ev K mg) : ErrC K (ga K "InvalidSong") "value" := errB_ok (e.says.fact 142 rfl)
theorem er_InvalidRow (e : Ev K mg) : ErrC K (ga K "InvalidRow") "value" := errB_ok (e.says.fact 143 rfl)
theorem er_InvalidWishes (e : Ev K mg) : ErrC K (ga K "InvalidWishes") "value" := errB_ok (e.says.fact 144 rfl)
theorem er_TooFar (e : Ev K mg) : ErrG K (ga K "TooFar") "limit" "OverflowError" "OverflowError.__new__" "OverflowError.__init__" [.type "OverflowError", .type "ArithmeticError", .type "Exception", .type "BaseException", .type "object"] := gerrB_ok (e.says.fact 145 rfl)
theorem kin_Song_NoneType (e : Ev K mg) : PySem.W.kitOne K (.type "NoneType") (.ref (ga K "Song")) = some false := of_decide_eq_true (e.says.fact 146 rfl)
theorem kin_Song_bool (e : Ev K mg) : PySem.W.kitOne K (.type "bool") (.ref (ga K "Song")) = some false := of_decide_eq_true (e.says.fact 147 rfl)
theorem kin_Song_int (e : Ev K mg) : PySem.W.kitOne K (.type "int") (.ref (ga K "Song")) = some false := of_decide_eq_true (e.says.fact 148 rfl)
theorem kin_Song_str (e : Ev K mg) : PySem.W.kitOne K (.type "str") (.ref (ga K "Song")) = some false := of_decide_eq_true (e.says.fact 149 rfl)
theorem kin_Song_list (e : Ev K mg) : PySem.W.kitOne K (.type "list") (.ref (ga K "Song")) = some false := of_decide_eq_true (e.says.fact 150 rfl)
theorem kin_Song_tuple (e : Ev K mg) : PySem.W.kitOne K (.type "tuple") (.ref (ga K "Song")) = some false := of_decide_eq_true (e.says.fact 151 rfl)
theorem kin_Song_dict (e : Ev K mg) : PySem.W.kitOne K (.type "dict") (.ref (ga K "Song")) = some false := of_decide_eq_true (e.says.fact 152 rfl)
theorem kin_Table_NoneType (e : Ev K mg) : PySem.W.kitOne K (.type "NoneType") (.ref (ga K "Table")) = some false := of_decide_eq_true (e.says.fact 153 rfl)
theorem kin_Table_bool (e : Ev K mg) : PySem.W.kitOne K (.type "bool") (.ref (ga K "Table")) = some false := of_decide_eq_true (e.says.fact 154 rfl)
theorem kin_Table_int (e : Ev K mg) : PySem.W.kitOne K (.type "int") (.ref (ga K "Table")) = some false := of_decide_eq_true (e.says.fact 155 rfl)
theorem kin_Table_str (e : Ev K mg) : PySem.W.kitOne K (.type "str") (.ref (ga K "Table")) = some false := of_decide_eq_true (e.says.fact 156 rfl)
theorem kin_Table_list (e : Ev K mg) : PySem.W.kitOne K (.type "list") (.ref (ga K "Table")) = some false := of_decide_eq_true (e.says.fact 157 rfl)
theorem kin_Table_tuple (e : Ev K mg) : PySem.W.kitOne K (.type "tuple") (.ref (ga K "Table")) = some false := of_decide_eq_true (e.says.fact 158 rfl)
theorem kin_Table_dict (e : Ev K mg) : PySem.W.kitOne K (.type "dict") (.ref (ga K "Table")) = some false := of_decide_eq_true (e.says.fact 159 rfl)
theorem exm_InvalidRow_InvalidSong (e : Ev K mg) : PySem.W.exmOne K (.ref (ga K "InvalidRow")) (.ref (ga K "InvalidSong")) = some false := of_decide_eq_true (e.says.fact 165 rfl)
theorem exm_InvalidWishes_InvalidSong (e : Ev K mg) : PySem.W.exmOne K (.ref (ga K "InvalidWishes")) (.ref (ga K "InvalidSong")) = some false := of_decide_eq_true (e.says.fact 170 rfl)
theorem exm_InvalidWishes_InvalidRow (e : Ev K mg) : PySem.W.exmOne K (.ref (ga K "InvalidWishes")) (.ref (ga K "InvalidRow")) = some false := of_decide_eq_true (e.says.fact 171 rfl)
theorem exm_TooFar_InvalidSong (e : Ev K mg) : PySem.W.exmOne K (.ref (ga K "TooFar")) (.ref (ga K "InvalidSong")) = some false := of_decide_eq_true (e.says.fact 175 rfl)
theorem exm_TooFar_InvalidRow (e : Ev K mg) : PySem.W.exmOne K (.ref (ga K "TooFar")) (.ref (ga K "InvalidRow")) = some false := of_decide_eq_true (e.says.fact 176 rfl)
theorem exm_TooFar_InvalidWishes (e : Ev K mg) : PySem.W.exmOne K (.ref (ga K "TooFar")) (.ref (ga K "InvalidWishes")) = some false := of_decide_eq_true (e.says.fact 177 rfl)
theorem exm_TooFar_InvalidPlace (e : Ev K mg) : PySem.W.exmOne K (.ref (ga K "TooFar")) (.ref (ga K "InvalidPlace")) = some false := of_decide_eq_true (e.says.fact 178 rfl)
theorem cd_law (e : Ev K mg) : codeB K (ga K "law") 782 = true := e.says.fact 180 rfl
theorem chd_law (e : Ev K mg) : codeHdB K 782 780 = true := e.says.fact 181 rfl
theorem nt_law (e : Ev K mg) : (K.lookup 780).isNone = true := e.says.fact 182 rfl
end
def T_ : List (Addr × PySem.Str) := [(780, (envOfC "law" (defScope s_law) 0 0 .none).qual ++ "<lambda>")]
def cs_ : List (Addr × Addr) := [(782, 780)]
abbrev TBs (base : Heap) (mg : PySem.Str → Option Value) : Prop := ∀ c ∈ cs_, LamX.TabB base mg c.1 c.2
theorem mem_law : ((782, 780) : Addr × Addr) ∈ cs_ := by simp [cs_]
theorem inT_law : ((780, (envOfC "law" (defScope s_law) 0 0 .none).qual ++ "<lambda>") : Addr × PySem.Str) ∈ T_ := by simp [T_]
theorem oneT_law : ∀ p ∈ T_, p.1 = 780 → p.2 = (envOfC "law" (defScope s_law) 0 0 .none).qual ++ "<lambda>" := by
  intro p hp h
  simp only [T_, List.mem_cons, List.not_mem_nil, or_false] at hp
  rcases hp with rfl <;> first | rfl | exact absurd h (by decide)
end k36

namespace k36
open PySem PySem.Spec PyProof.Rows L2 Ech
open He (ga ma)
open He5 (wf)
/-! ### _law_pen -/
theorem sc__law_pen : FnScope ["_law_script"] ["_law_script"] (defScope s__law_pen) := ⟨rfl, rfl, rfl, by decide +kernel, rfl, by decide +kernel, by decide +kernel⟩
section
variable {P : Program} {w : World} {K : PySem.W.Frag} {mg : PySem.Str → Option Value} {base : Heap}
theorem F__law_pen (e : Ev K mg) : FunD K "_law_pen" "_law_pen" (defArgs s__law_pen) (defBody s__law_pen) (defScope s__law_pen) [] [] (ga K "_law_pen") (fdA K (ga K "_law_pen")) := e.fun_ 67 (d := d__law_pen)
theorem kp__law_pen (e : Ev K mg) : PySem.W.keepIn K (.ref (ga K "_law_pen")) = true := (F__law_pen e).kp
theorem b__law_pen (e : Ev K mg) : Binds K (fdA K (ga K "_law_pen")) ["_law_script"] [] := (F__law_pen e).bindsN fun _ _ _ _ _ _ us hl => match us, hl with | [_], _ => rfl
theorem bn__law_pen_1 (e : Ev K mg) : Bnd K (ga K "_law_pen") ["_law_script"] [] := ⟨[], .nil, b__law_pen e⟩
def sp__law_pen (K : PySem.W.Frag) : Sp := fun vs H Q _ => ∃ (a : Addr) (ns : List Int), vs = [.ref a] ∧ SqL K H a (ns.map V.int) ∧ ns.length ≤ 63 ∧
  ∀ G' H' p, Ex H G' → Ex G' H' → Ex H H' → Pen K ("index" : PySem.Str) ("left" : PySem.Str) G' H' p 0 → Q (.ref p) H'
theorem penk1 : ¬ ((Sum.inr ("cells" : PySem.Str) : Key) = Sum.inr ("index" : PySem.Str)) := by decide +kernel
theorem penk2 : ¬ ((Sum.inr ("cells" : PySem.Str) : Key) = Sum.inr ("left" : PySem.Str)) := by decide +kernel
theorem penk3 : ¬ ((Sum.inr ("index" : PySem.Str) : Key) = Sum.inr ("left" : PySem.Str)) := by decide +kernel
theorem pen_merge (x y z : V) : mergeK [] [(Sum.inr ("cells" : PySem.Str), x), (Sum.inr ("index" : PySem.Str), y), (Sum.inr ("left" : PySem.Str), z)] = putK (putK (putK [] (Sum.inr ("cells" : PySem.Str) : Key) x) (Sum.inr ("index" : PySem.Str)) y) (Sum.inr ("left" : PySem.Str)) z := rfl
theorem ok__law_pen (e : Ev K mg) : FnG P w K mg base CX0 1 (ga K "_law_pen") (fdA K (ga K "_law_pen")) ["_law_script"] (sp__law_pen K) := by
  refine FnG.body (F__law_pen e) sc__law_pen (fun vs H Q E h => ?_) (fun cdv A outer s H vs Q E hr hq h => ?_)
  · obtain ⟨a, ns, rfl, _⟩ := h
    rfl
  · obtain ⟨a, ns, rfl, hS, hl, q⟩ := h
    refine ⟨_, PSs.nox (pss_one (ps_ret (pe_disp (pps_cons pe_str (pe_callTy (T := "list") (k_list (K := K) rfl) (by rfl) (fr_list e) (by decide +kernel) (pa_cons (pe_slice (sl_k (K := K) rfl) (uv 0) po_none (u_part pe_int)) pa_nil)) (pps_cons pe_str pe_int (pps_cons pe_str pe_int pps_nil))) (by rfl) (by rfl) (fun z => by cases z) (by decide)))), ?_⟩
    intro p hp
    have x1 : Ex H (upd H p (.dK [])) := Evl.Ex.new hp
    refine ⟨ns.map V.int, Or.inl ⟨Evl.ex_l x1 hS, fun q1 H2 n2 => ?_⟩⟩
    refine ⟨_, Or.inl (SqL.of n2.at), fun c H3 n3 => ?_⟩
    have p2 : H2 p = some (.dK []) := n2.ex _ _ upd_same
    have p3 : H3 p = some (.dK []) := n3.ex _ _ p2
    have npc : p ≠ c := ne_of_none p2 n3.fresh
    refine ⟨p3, [(Sum.inr ("cells" : PySem.Str), .ref c), (Sum.inr ("index" : PySem.Str), .int 0), (Sum.inr ("left" : PySem.Str), .int 0)], rfl, (by show 3 ≤ 15; decide), ?_⟩
    have x3 : Ex H H3 := fun b o e => n3.ex _ _ (n2.ex _ _ (x1 _ _ e))
    have hc : H c = none := by
      cases e : H c with
      | none => rfl
      | some o => have := n2.ex _ _ (x1 _ _ e); rw [n3.fresh] at this; cases this
    have cut : cutV (ns.map V.int) none (some 63) = (((ns.drop (HT.sIx (ns.map V.int).length 0 none)).take (HT.sIx (ns.map V.int).length (ns.map V.int).length (some 63) - HT.sIx (ns.map V.int).length 0 none))).map V.int := by
      unfold cutV
      rw [← List.map_drop, ← List.map_take]
    generalize hms : ((ns.drop (HT.sIx (ns.map V.int).length 0 none)).take (HT.sIx (ns.map V.int).length (ns.map V.int).length (some 63) - HT.sIx (ns.map V.int).length 0 none)) = ms at cut
    have lms : ms.length ≤ 63 := by
      rw [← hms]
      rw [List.length_take, List.length_drop]; omega
    have x4 : Ex H (upd H3 p (.dK (mergeK [] [(Sum.inr ("cells" : PySem.Str), .ref c), (Sum.inr ("index" : PySem.Str), .int 0), (Sum.inr ("left" : PySem.Str), .int 0)]))) := Evl.Ex.mut x3 hp
    refine q (upd H c (.lst (ms.map V.int))) _ p (Evl.Ex.new hc) ?_ x4 ?_
    · intro b o e
      by_cases hb : b = c
      · subst hb
        rw [upd_same] at e
        rw [upd_ne npc.symm, n3.at, cut]
        exact e
      · rw [upd_ne hb] at e
        exact x4 b o e
    · refine ⟨⟨_, c, ms, 0, 0, upd_same, length_mergeK _ _, ?_, SqL.of upd_same, lms, ?_, Int.le_refl 0, by omega, ?_, Int.le_refl 0⟩, by rw [upd_ne npc]; exact hp⟩
      · rw [pen_merge, valV_put, if_neg penk2, valV_put, if_neg penk1, valV_put, if_pos rfl]
      · rw [pen_merge, valV_put, if_neg penk3, valV_put, if_pos rfl]
      · rw [pen_merge, valV_put, if_pos rfl]
end
end k36

namespace k36
open PySem PySem.Spec PyProof.Rows L2 Ech
open He (ga ma)
open He5 (wf)
/-! ### _law_draw -/
theorem sc__law_draw : FnScope ["_law_pen_here", "_law_count", "_law_digit", "_law_index", "_law_cell", "_law_mixed"] ["_law_pen_here", "_law_count"] (defScope s__law_draw) := ⟨rfl, rfl, rfl, by decide +kernel, rfl, by decide +kernel, by decide +kernel⟩
section
variable {P : Program} {w : World} {K : PySem.W.Frag} {mg : PySem.Str → Option Value} {base : Heap}
theorem F__law_draw (e : Ev K mg) : FunD K "_law_draw" "_law_draw" (defArgs s__law_draw) (defBody s__law_draw) (defScope s__law_draw) [] [] (ga K "_law_draw") (fdA K (ga K "_law_draw")) := e.fun_ 68 (d := d__law_draw)
theorem kp__law_draw (e : Ev K mg) : PySem.W.keepIn K (.ref (ga K "_law_draw")) = true := (F__law_draw e).kp
theorem b__law_draw (e : Ev K mg) : Binds K (fdA K (ga K "_law_draw")) ["_law_pen_here", "_law_count"] [] := (F__law_draw e).bindsN fun _ _ _ _ _ _ us hl => match us, hl with | [_, _], _ => rfl
theorem bn__law_draw_2 (e : Ev K mg) : Bnd K (ga K "_law_draw") ["_law_pen_here", "_law_count"] [] := ⟨[], .nil, b__law_draw e⟩
theorem keysOk : KeysOk ("index" : PySem.Str) ("left" : PySem.Str) := ⟨by decide +kernel, by decide +kernel, by decide +kernel⟩
def sp__law_draw (K : PySem.W.Frag) : Sp := fun vs H Q _ => ∃ (G : Hp) (p : Addr) (b : Nat) (m : Int), vs = [.ref p, .int m] ∧ Ex G H ∧ Pen K ("index" : PySem.Str) ("left" : PySem.Str) G H p b ∧ b < 2 ^ 60 ∧ 0 < m ∧ m < 2 ^ 60 ∧
  ∀ v G' H', GrM p G H G' H' → Pen K ("index" : PySem.Str) ("left" : PySem.Str) G' H' p (b + 1) → 0 ≤ v → v < m → Q (.int v) H'
theorem ok__law_draw (e : Ev K mg) : FnG P w K mg base CX0 1 (ga K "_law_draw") (fdA K (ga K "_law_draw")) ["_law_pen_here", "_law_count"] (sp__law_draw K) := by
  refine FnG.body (F__law_draw e) sc__law_draw (fun vs H Q E h => ?_) (fun cdv A outer s H vs Q E hr hq h => ?_)
  · obtain ⟨G, p, b, m, rfl, _⟩ := h
    rfl
  · obtain ⟨G, p, b, m, rfl, hg, ⟨⟨kvs, c, ns, u, r, hx⟩, un⟩, hb, m1, m2, q⟩ := h
    have X : PenX K ("index" : PySem.Str) ("left" : PySem.Str) G H p b kvs c ns u r := hx
    have m3 : m < 2 ^ 1000 := Int.lt_of_lt_of_le m2 (by decide +kernel)
    obtain ⟨_, _, _, _, l63, _, u0, ub, _, r0⟩ := id hx
    refine ⟨_, PSs.nox (pss_cons (u_if (u_cmpT o_gt (u_dget (hu_of hr) (uv 0) pe_str) pe_int (nomark _)) (pss_cons (ps_set (i := 2) sc__law_draw.nd (by rfl) (Or.inl rfl) (pe_op o_modz (pe_callTy (T := "int") c_int (by rfl) (fr_int e) (by decide +kernel) (pa_cons (u_dget (hu_of hr) (uv 0) pe_str) pa_nil)) (uv 1)))
            (pss_cons (u_dput (hu_of hr) (uv 0) pe_str (pe_op o_divz (u_dget (hu_of hr) (uv 0) pe_str) (uv 1)))
            (pss_one (ps_ret (uv 2))))) pss_nil)
            (pss_cons (ps_set (i := 3) sc__law_draw.nd (by rfl) (Or.inl rfl) (u_dget (hu_of hr) (uv 0) pe_str))
            (pss_cons (u_dput (hu_of hr) (uv 0) pe_str (pe_op (k_add (K := K) rfl) (uv 3) pe_int))
            (pss_cons (ps_set (i := 4) sc__law_draw.nd (by rfl) (Or.inl rfl) (pe_op (k_add (K := K) rfl) (pe_op o_mul pe_int (uv 3)) pe_int))
            (pss_cons (u_if (u_cmpT (k_ne (K := K) rfl hr.units) (u_dget (hu_of hr) (uv 0) pe_str) (u_lst pa_nil) (nomark _)) (pss_one (ps_set (i := 4) sc__law_draw.nd (by rfl) (Or.inl rfl) (pe_ix (ix_k (K := K) rfl) (u_dget (hu_of hr) (uv 0) pe_str) (pe_op o_modz (pe_callTy (T := "int") c_int (by rfl) (fr_int e) (by decide +kernel) (pa_cons (uv 3) pa_nil)) (pe_callB (id := "len") (k_len (K := K) rfl) (by rfl) (fr_len e) (by decide +kernel) (pa_cons (u_dget (hu_of hr) (uv 0) pe_str) pa_nil))) (fun _ _ => rfl)))) pss_nil)
            (pss_cons (u_if (PW.pt (u_andT (u_cmpT o_lt (uv 3) (pe_callB (id := "len") (k_len (K := K) rfl) (by rfl) (fr_len e) (by decide +kernel) (pa_cons (u_dget (hu_of hr) (uv 0) pe_str) pa_nil)) (nomark _)) (u_and1 (u_cmpT o_ge (pe_callB (id := "abs") c_abs (by rfl) (fr_abs e) (by decide +kernel) (pa_cons (uv 4) pa_nil)) (pe_op o_pow pe_int pe_int) (nomark _))))) (pss_cons (u_dput (hu_of hr) (uv 0) pe_str (pe_op o_divz (pe_op o_sub (pe_callB (id := "abs") c_abs (by rfl) (fr_abs e) (by decide +kernel) (pa_cons (uv 4) pa_nil)) (pe_op o_pow pe_int pe_int)) (uv 1)))
            (pss_one (ps_ret (pe_op o_modz (pe_op o_sub (pe_callB (id := "abs") c_abs (by rfl) (fr_abs e) (by decide +kernel) (pa_cons (uv 4) pa_nil)) (pe_op o_pow pe_int pe_int)) (uv 1))))) pss_nil)
            (pss_cons (ps_set (i := 5) sc__law_draw.nd (by rfl) (Or.inl rfl) (pe_op (k_add (K := K) rfl) (pe_op o_mul (pe_op o_modz (pe_callTy (T := "int") c_int (by rfl) (fr_int e) (by decide +kernel) (pa_cons (uv 4) pa_nil)) pe_int) pe_int) (pe_op o_mul (pe_op o_mul pe_int (uv 3)) (uv 3))))
            (pss_cons (ps_set (i := 5) sc__law_draw.nd (by rfl) (Or.inl rfl) (pe_op o_modz (pe_callTy (T := "int") c_int (by rfl) (fr_int e) (by decide +kernel) (pa_cons (pe_op (k_add (K := K) rfl) (pe_op (k_add (K := K) rfl) (uv 5) (pe_op o_mul pe_int (uv 3))) pe_int) pa_nil)) pe_int))
            (pss_cons (ps_set (i := 5) sc__law_draw.nd (by rfl) (Or.inl rfl) (pe_op o_modz (pe_callTy (T := "int") c_int (by rfl) (fr_int e) (by decide +kernel) (pa_cons (pe_op (k_add (K := K) rfl) (pe_op (k_add (K := K) rfl) (pe_op (k_add (K := K) rfl) (pe_op o_mul (uv 5) (uv 5)) (pe_op o_mul pe_int (uv 5))) (pe_op o_mul pe_int (uv 3))) pe_int) pa_nil)) pe_int))
            (pss_one (ps_ret (pe_op o_modz (pe_callTy (T := "int") c_int (by rfl) (fr_int e) (by decide +kernel) (pa_cons (pe_op o_divz (pe_op o_modz (pe_callTy (T := "int") c_int (by rfl) (fr_int e) (by decide +kernel) (pa_cons (pe_op o_mul (uv 5) (pe_op (k_add (K := K) rfl) (uv 5) pe_int)) pa_nil)) pe_int) pe_int) pa_nil)) (uv 1))))))))))))), ?_⟩
    refine ⟨_, X.rest, ?_⟩
    refine bite_d (fun hc => ?_) (fun hc => ?_)
    · refine ⟨_, X.rest, ?_⟩
      refine ⟨m1, fun z1 a1 b1 _ => ?_⟩
      refine ⟨_, X.rest, ?_⟩
      refine ⟨⟨m1, m3⟩, fun z2 e2 => ?_⟩
      refine ⟨_, X.dput _ _, ?_⟩
      exact q z1 G _ (upd_grm hg un) (((X.putR keysOk (e2 ▸ Int.ediv_nonneg r0 (Int.le_of_lt m1))).pen un).up (Nat.le_succ _)) a1 b1
    · refine ⟨_, X.used, ?_⟩
      refine ⟨_, X.dput _ _, ?_⟩
      have X2 := X.putU keysOk (u' := u + 1) (b' := b + 1) (by omega) (by omega)
      have g2 : GrM p G H G _ := upd_grm (o := .dK (putK kvs (Sum.inr ("index" : PySem.Str)) (.int (u + 1)))) hg un
      generalize upd H p (.dK (putK kvs (Sum.inr ("index" : PySem.Str)) (.int (u + 1)))) = H2 at X2 g2
      refine ⟨mulOk (by decide), ?_⟩
      refine ⟨_, X2.cells, ?_⟩
      refine ⟨by decide +kernel, fun z H3 nw => ?_⟩
      have X3 := X2.gr (nw.gr0 g2.gh)
      have g3 : GrM p G H G H3 := g2.trans ((nw.gr0 g2.gh).m p)
      have sc : SqL K H3 c (ns.map V.int) := Evl.ex_l g3.gh X3.2.2.2.1
      refine ints_cmp (ms := []) sc (SqL.of nw.at) ?_
      refine bite_nd (fun hc2 => ?A) (fun hc2 => ?B)
      case' A =>
        refine ⟨_, X3.cells, ?_⟩
        refine ⟨_, X3.cells, ?_⟩
        refine ⟨_, Or.inl sc, ?_⟩
        have ln : (ns.map V.int).length = ns.length := List.length_map _
        rw [ln]
        have pos : 0 < ns.length := List.length_pos_iff.mpr hc2
        refine ⟨by omega, fun z0 a0 b0 _ => ?_⟩
        refine int_ix (Or.inl sc) a0 b0 ?_
        generalize ns.getD z0.toNat 0 = cell
      all_goals
        refine ⟨_, X3.cells, ?_⟩
        refine ⟨_, Or.inl sc, ?_⟩
        refine bite_d (fun hc3 => ?_) (fun hc3 => ?_)
        case' refine_1 =>
          refine ⟨⟨by decide, by decide, by decide⟩, ?_⟩
          refine bite_d (fun hc4 => ?_) (fun hc4 => ?_)
          case' refine_1 =>
            refine ⟨⟨by decide, by decide, by decide⟩, ?_⟩
            refine ⟨⟨m1, m3⟩, fun z1 e1 => ?_⟩
            refine ⟨_, X3.dput _ _, ?_⟩
            refine ⟨⟨by decide, by decide, by decide⟩, ?_⟩
            refine ⟨m1, fun z2 a2 b2 _ => ?_⟩
            exact q z2 G _ (g3.trans (upd_grm g3.gh un)) ((X3.putR keysOk (e1 ▸ Int.ediv_nonneg (Int.sub_nonneg_of_le hc4) (Int.le_of_lt m1))).pen un) a2 b2
        all_goals
          repeat (first
            | refine ⟨by decide, fun z a b _ => ?_⟩
            | refine ⟨mulOk (by decide), ?_⟩
            | refine ⟨mulOkR (by decide), ?_⟩
            | refine ⟨mulOk ⟨by omega, by omega⟩, ?_⟩
            | refine ⟨mulOkR ⟨by omega, by omega⟩, ?_⟩
            | refine ⟨⟨by decide, by decide +kernel⟩, fun z _ => ?_⟩
            | refine ⟨m1, fun z a b _ => ?_⟩)
          exact q _ G _ g3 (X3.pen un) (by assumption) (by assumption)
end
end k36

namespace k36
open PySem PySem.Spec PyProof.Rows L2 Ech
open He (ga ma)
open He5 (wf)
/-! ### _law_pick -/
theorem sc__law_pick : FnScope ["_law_pen_here", "_law_options"] ["_law_pen_here", "_law_options"] (defScope s__law_pick) := ⟨rfl, rfl, rfl, by decide +kernel, rfl, by decide +kernel, by decide +kernel⟩
section
variable {P : Program} {w : World} {K : PySem.W.Frag} {mg : PySem.Str → Option Value} {base : Heap}
theorem F__law_pick (e : Ev K mg) : FunD K "_law_pick" "_law_pick" (defArgs s__law_pick) (defBody s__law_pick) (defScope s__law_pick) [] [] (ga K "_law_pick") (fdA K (ga K "_law_pick")) := e.fun_ 69 (d := d__law_pick)
theorem kp__law_pick (e : Ev K mg) : PySem.W.keepIn K (.ref (ga K "_law_pick")) = true := (F__law_pick e).kp
theorem b__law_pick (e : Ev K mg) : Binds K (fdA K (ga K "_law_pick")) ["_law_pen_here", "_law_options"] [] := (F__law_pick e).bindsN fun _ _ _ _ _ _ us hl => match us, hl with | [_, _], _ => rfl
theorem bn__law_pick_2 (e : Ev K mg) : Bnd K (ga K "_law_pick") ["_law_pen_here", "_law_options"] [] := ⟨[], .nil, b__law_pick e⟩
def sp__law_pick (K : PySem.W.Frag) : Sp := fun vs H Q _ => ∃ (G : Hp) (p o : Addr) (b : Nat) (xs : List V), vs = [.ref p, .ref o] ∧ Ex G H ∧ SqL K G o xs ∧ Pen K ("index" : PySem.Str) ("left" : PySem.Str) G H p b ∧ b < 2 ^ 60 ∧ 0 < xs.length ∧ xs.length < 2000 ∧
  ∀ v G' H', v ∈ xs → GrM p G H G' H' → Pen K ("index" : PySem.Str) ("left" : PySem.Str) G' H' p (b + 1) → Q v H'
theorem ok__law_pick (e : Ev K mg) : FnG P w K mg base CX0 2 (ga K "_law_pick") (fdA K (ga K "_law_pick")) ["_law_pen_here", "_law_options"] (sp__law_pick K) := by
  refine FnG.body (F__law_pick e) sc__law_pick (fun vs H Q E h => ?_) (fun cdv A outer s H vs Q E hr hq h => ?_)
  · obtain ⟨G, p, o, b, xs, rfl, _⟩ := h
    rfl
  · obtain ⟨G, p, o, b, xs, rfl, hg, hs, hp, hb, x0, x1, q⟩ := h
    refine ⟨_, PSs.nox (pss_one (ps_ret (pe_ix (ix_k (K := K) rfl) (uv 1) (u_callQ (ok__law_draw e) (hr.mono (by decide)) hq (by rfl) (gl__law_draw e) (kp__law_draw e) (bn__law_draw_2 e) pass0 (pa_cons (uv 0) (pa_cons (pe_callB (id := "len") (k_len (K := K) rfl) (by rfl) (fr_len e) (by decide +kernel) (pa_cons (uv 1) pa_nil)) pa_nil))) (fun _ _ => rfl)))), ?_⟩
    refine ⟨_, Or.inl (Evl.ex_l hg hs), ?_⟩
    refine ⟨G, p, b, _, rfl, hg, hp, hb, by omega, by omega, fun v G' H' g pn v0 v1 => ?_⟩
    have hv : v.toNat < xs.length := by omega
    refine ⟨xs, xs[v.toNat], Or.inl (Evl.ex_l g.gh (Evl.ex_l g.gg hs)), atI_pos v0 (List.getElem?_eq_getElem hv), ?_⟩
    exact q _ G' H' (List.getElem_mem hv) g pn
end
end k36

namespace k36
open PySem PySem.Spec PyProof.Rows L2 Ech
open He (ga ma)
open He5 (wf)
/-! ### _law_reach -/
theorem sc__law_reach : FnScope ["_law_pen_here", "_law_longest", "_law_way", "_law_one", "_law_other", "_law_part", "_law_less"] ["_law_pen_here", "_law_longest"] (defScope s__law_reach) := ⟨rfl, rfl, rfl, by decide +kernel, rfl, by decide +kernel, by decide +kernel⟩
section
variable {P : Program} {w : World} {K : PySem.W.Frag} {mg : PySem.Str → Option Value} {base : Heap}
theorem F__law_reach (e : Ev K mg) : FunD K "_law_reach" "_law_reach" (defArgs s__law_reach) (defBody s__law_reach) (defScope s__law_reach) [] [] (ga K "_law_reach") (fdA K (ga K "_law_reach")) := e.fun_ 72 (d := d__law_reach)
theorem kp__law_reach (e : Ev K mg) : PySem.W.keepIn K (.ref (ga K "_law_reach")) = true := (F__law_reach e).kp
theorem b__law_reach (e : Ev K mg) : Binds K (fdA K (ga K "_law_reach")) ["_law_pen_here", "_law_longest"] [] := (F__law_reach e).bindsN fun _ _ _ _ _ _ us hl => match us, hl with | [_, _], _ => rfl
theorem bn__law_reach_2 (e : Ev K mg) : Bnd K (ga K "_law_reach") ["_law_pen_here", "_law_longest"] [] := ⟨[], .nil, b__law_reach e⟩
def sp__law_reach (K : PySem.W.Frag) : Sp := fun vs H Q _ => ∃ (G : Hp) (p : Addr) (b : Nat) (m : Int), vs = [.ref p, .int m] ∧ Ex G H ∧ Pen K ("index" : PySem.Str) ("left" : PySem.Str) G H p b ∧ b + 20 < 2 ^ 60 ∧ 1 ≤ m ∧ m ≤ 1000 ∧
  ∀ t l n (ds : List Int) G' H', SqT K G' t [.int n, .ref l] → SqL K G' l (ds.map V.int) → 1 ≤ n → n ≤ m → (∀ d ∈ ds, 1 ≤ d ∧ d ≤ 5000) → ds.length ≤ 2 → (ds.length = 2 → n ≤ ds.sum) → GrM p G H G' H' → Pen K ("index" : PySem.Str) ("left" : PySem.Str) G' H' p (b + 20) → Q (.ref t) H'
theorem ok__law_reach (e : Ev K mg) : FnG P w K mg base CX0 3 (ga K "_law_reach") (fdA K (ga K "_law_reach")) ["_law_pen_here", "_law_longest"] (sp__law_reach K) := by
  refine FnG.body (F__law_reach e) sc__law_reach (fun vs H Q E h => ?_) (fun cdv A outer s H vs Q E hr hq h => ?_)
  · obtain ⟨G, p, b, m, rfl, _⟩ := h
    rfl
  · obtain ⟨G, p, b, m, rfl, hg, hp, hb, m1, m2, q⟩ := h
    have fin : ∀ (n : Int) (ds : List Int) (G1 H1 : Hp), GrM p G H G1 H1 → Pen K ("index" : PySem.Str) ("left" : PySem.Str) G1 H1 p (b + 20) → 1 ≤ n → n ≤ m → (∀ d ∈ ds, 1 ≤ d ∧ d ≤ 5000) → ds.length ≤ 2 → (ds.length = 2 → n ≤ ds.sum) →
        ∀ l H2, New H1 l (.lst (ds.map V.int)) H2 → ∀ t H3, New H2 t (.tup [.int n, .ref l]) H3 → Q (.ref t) H3 := by
      intro n ds G1 H1 g1 pn1 h1 h2 h3 h4 h5 l H2 nw2 t H3 nw3
      have g2 := nw2.gr g1.gh
      have g3 := nw3.gr g2.gh
      refine q t l n ds _ H3 (SqT.of upd_same) (Evl.ex_l g3.gg (SqL.of upd_same)) h1 h2 h3 h4 h5 (g1.trans ((g2.trans g3).m p)) (pn1.gr (g2.trans g3))
    refine ⟨_, PSs.nox (pss_cons (ps_set (i := 2) sc__law_reach.nd (by rfl) (Or.inl rfl) (u_callQ (ok__law_draw e) (hr.mono (by decide)) hq (by rfl) (gl__law_draw e) (kp__law_draw e) (bn__law_draw_2 e) pass0 (pa_cons (uv 0) (pa_cons pe_int pa_nil))))
            (pss_cons (u_if (u_cmpT (k_eq (K := K) rfl hr.units) (uv 2) pe_int (nomark _)) (pss_one (ps_ret (u_tup (pa_cons (pe_op (k_add (K := K) rfl) pe_int (u_callQ (ok__law_draw e) (hr.mono (by decide)) hq (by rfl) (gl__law_draw e) (kp__law_draw e) (bn__law_draw_2 e) pass0 (pa_cons (uv 0) (pa_cons (uv 1) pa_nil)))) (pa_cons (u_lst pa_nil) pa_nil))))) pss_nil)
            (pss_cons (u_if (u_cmpT (k_eq (K := K) rfl hr.units) (uv 2) pe_int (nomark _)) (pss_one (ps_ret (u_tup (pa_cons (pe_op (k_add (K := K) rfl) pe_int (u_callQ (ok__law_draw e) (hr.mono (by decide)) hq (by rfl) (gl__law_draw e) (kp__law_draw e) (bn__law_draw_2 e) pass0 (pa_cons (uv 0) (pa_cons (uv 1) pa_nil)))) (pa_cons (u_lst (pa_cons (pe_op (k_add (K := K) rfl) pe_int (u_callQ (ok__law_draw e) (hr.mono (by decide)) hq (by rfl) (gl__law_draw e) (kp__law_draw e) (bn__law_draw_2 e) pass0 (pa_cons (uv 0) (pa_cons (pe_op (k_add (K := K) rfl) (uv 1) pe_int) pa_nil)))) pa_nil)) pa_nil))))) pss_nil)
            (pss_cons (u_par (i := 3) (j := 4) (by rfl) sc__law_reach.nd (by rfl) (by rfl) (by decide) (by rfl) (by rfl) (pa_cons (pe_op (k_add (K := K) rfl) pe_int (u_callQ (ok__law_draw e) (hr.mono (by decide)) hq (by rfl) (gl__law_draw e) (kp__law_draw e) (bn__law_draw_2 e) pass0 (pa_cons (uv 0) (pa_cons (uv 1) pa_nil)))) (pa_cons (pe_op (k_add (K := K) rfl) pe_int (u_callQ (ok__law_draw e) (hr.mono (by decide)) hq (by rfl) (gl__law_draw e) (kp__law_draw e) (bn__law_draw_2 e) pass0 (pa_cons (uv 0) (pa_cons (uv 1) pa_nil)))) pa_nil)) (by rfl))
            (pss_cons (u_if (u_cmpT (k_eq (K := K) rfl hr.units) (uv 2) pe_int (nomark _)) (pss_one (ps_ret (u_tup (pa_cons (pe_op (k_add (K := K) rfl) pe_int (u_callQ (ok__law_draw e) (hr.mono (by decide)) hq (by rfl) (gl__law_draw e) (kp__law_draw e) (bn__law_draw_2 e) pass0 (pa_cons (uv 0) (pa_cons (pe_callB (id := "min") (c_min (by rfl)) (by rfl) (fr_min e) (by decide +kernel) (pa_cons (uv 1) (pa_cons (pe_op o_mul pe_int (uv 3)) pa_nil))) pa_nil)))) (pa_cons (u_lst (pa_cons (uv 3) (pa_cons (uv 3) pa_nil))) pa_nil))))) pss_nil)
            (pss_cons (u_if (u_cmpT o_lt (uv 2) pe_int (nomark _)) (pss_cons (ps_set (i := 5) sc__law_reach.nd (by rfl) (Or.inl rfl) (pe_op (k_add (K := K) rfl) pe_int (u_callQ (ok__law_draw e) (hr.mono (by decide)) hq (by rfl) (gl__law_draw e) (kp__law_draw e) (bn__law_draw_2 e) pass0 (pa_cons (uv 0) (pa_cons (pe_callB (id := "max") (c_max (by rfl)) (by rfl) (fr_max e) (by decide +kernel) (pa_cons pe_int (pa_cons (pe_op o_divz (uv 1) pe_int) pa_nil))) pa_nil)))))
            (pss_cons (u_par (i := 3) (j := 4) (by rfl) sc__law_reach.nd (by rfl) (by rfl) (by decide) (by rfl) (by rfl) (pa_cons (pe_op o_mul (uv 5) (pe_op (k_add (K := K) rfl) pe_int (u_callQ (ok__law_draw e) (hr.mono (by decide)) hq (by rfl) (gl__law_draw e) (kp__law_draw e) (bn__law_draw_2 e) pass0 (pa_cons (uv 0) (pa_cons pe_int pa_nil))))) (pa_cons (pe_op o_mul (uv 5) (pe_op (k_add (K := K) rfl) pe_int (u_callQ (ok__law_draw e) (hr.mono (by decide)) hq (by rfl) (gl__law_draw e) (kp__law_draw e) (bn__law_draw_2 e) pass0 (pa_cons (uv 0) (pa_cons pe_int pa_nil))))) pa_nil)) (by rfl))
            (pss_one (ps_ret (u_tup (pa_cons (pe_callB (id := "max") (c_max (by rfl)) (by rfl) (fr_max e) (by decide +kernel) (pa_cons pe_int (pa_cons (pe_callB (id := "min") (c_min (by rfl)) (by rfl) (fr_min e) (by decide +kernel) (pa_cons (uv 1) (pa_cons (pe_op o_sub (pe_op (k_add (K := K) rfl) (uv 3) (uv 4)) (u_callQ (ok__law_draw e) (hr.mono (by decide)) hq (by rfl) (gl__law_draw e) (kp__law_draw e) (bn__law_draw_2 e) pass0 (pa_cons (uv 0) (pa_cons (pe_op (k_add (K := K) rfl) (uv 5) pe_int) pa_nil)))) pa_nil))) pa_nil))) (pa_cons (u_lst (pa_cons (uv 3) (pa_cons (uv 4) pa_nil))) pa_nil))))))) pss_nil)
            (pss_cons (ps_set (i := 6) sc__law_reach.nd (by rfl) (Or.inl rfl) (u_callQ (ok__law_draw e) (hr.mono (by decide)) hq (by rfl) (gl__law_draw e) (kp__law_draw e) (bn__law_draw_2 e) pass0 (pa_cons (uv 0) (pa_cons (u_callQ (ok__law_pick e) (hr.mono (by decide)) hq (by rfl) (gl__law_pick e) (kp__law_pick e) (bn__law_pick_2 e) pass0 (pa_cons (uv 0) (pa_cons (u_lst (pa_cons pe_int (pa_cons pe_int (pa_cons (uv 1) pa_nil)))) pa_nil))) pa_nil))))
            (pss_one (ps_ret (u_tup (pa_cons (pe_callB (id := "max") (c_max (by rfl)) (by rfl) (fr_max e) (by decide +kernel) (pa_cons pe_int (pa_cons (pe_callB (id := "min") (c_min (by rfl)) (by rfl) (fr_min e) (by decide +kernel) (pa_cons (uv 1) (pa_cons (pe_op o_sub (pe_op (k_add (K := K) rfl) (uv 3) (uv 4)) (uv 6)) pa_nil))) pa_nil))) (pa_cons (u_lst (pa_cons (uv 3) (pa_cons (uv 4) pa_nil))) pa_nil)))))))))))), ?_⟩
    refine ⟨G, p, b, _, rfl, hg, hp, by omega, by decide, by decide, fun w G1 H1 g1 pn1 w0 w1 => ?_⟩
    refine bite_d (fun hc => ?_) (fun hc => ?_)
    · refine ⟨G1, p, _, _, rfl, g1.gh, pn1, by omega, by omega, by omega, fun a G2 H2 g2 pn2 a0 a1 => ?_⟩
      refine ⟨szr (n := 0) (by decide +kernel), fun l H3 nw3 => ⟨szr (n := 2) (by decide +kernel), fun t H4 nw4 => ?_⟩⟩
      exact fin (1 + a) [] G2 H2 (g1.trans g2) (pn2.up (by omega)) (by omega) (by omega) (fun d hd => by cases hd) (by decide) (fun z => by cases z) l H3 nw3 t H4 nw4
    refine bite_d (fun hc2 => ?_) (fun hc2 => ?_)
    · refine ⟨G1, p, _, _, rfl, g1.gh, pn1, by omega, by omega, by omega, fun a G2 H2 g2 pn2 a0 a1 => ?_⟩
      refine ⟨G2, p, _, _, rfl, g2.gh, pn2, by omega, by omega, by omega, fun c G3 H3 g3 pn3 c0 c1 => ?_⟩
      refine ⟨szr (n := 1) (by decide +kernel), fun l H4 nw4 => ⟨szr (n := 2) (by decide +kernel), fun t H5 nw5 => ?_⟩⟩
      exact fin (1 + a) [1 + c] G3 H3 (g1.trans (g2.trans g3)) (pn3.up (by omega)) (by omega) (by omega) (fun d hd => by rw [List.mem_singleton.mp hd]; omega) (by simp) (fun z => by cases z) l H4 nw4 t H5 nw5
    refine ⟨G1, p, _, _, rfl, g1.gh, pn1, by omega, by omega, by omega, fun one G2 H2 g2 pn2 one0 one1 => ?_⟩
    refine ⟨G2, p, _, _, rfl, g2.gh, pn2, by omega, by omega, by omega, fun oth G3 H3 g3 pn3 oth0 oth1 => ?_⟩
    have s3 : GrM p G H G3 H3 := g1.trans (g2.trans g3)
    refine bite_d (fun hc3 => ?_) (fun hc3 => ?_)
    · refine ⟨mulOk (by decide), ?_⟩
      refine ⟨G3, p, _, _, rfl, g3.gh, pn3, by omega, by omega, by omega, fun a G4 H4 g4 pn4 a0 a1 => ?_⟩
      refine ⟨szr (n := 2) (by decide +kernel), fun l H5 nw5 => ⟨szr (n := 2) (by decide +kernel), fun t H6 nw6 => ?_⟩⟩
      refine fin (1 + a) [1 + one, 1 + one] G4 H4 (s3.trans g4) (pn4.up (by omega)) (by omega) (by omega) (fun d hd => ?_) (by simp) (fun _ => by simp; omega) l H5 nw5 t H6 nw6
      simp only [List.mem_cons, List.not_mem_nil, or_false] at hd
      rcases hd with rfl | rfl
      all_goals omega
    refine bite_d (fun hc4 => ?_) (fun hc4 => ?_)
    · refine ⟨⟨by decide, by decide +kernel⟩, fun hm ehm => ?_⟩
      refine ⟨G3, p, _, _, rfl, g3.gh, pn3, by omega, by omega, by omega, fun pa G4 H4 g4 pn4 pa0 pa1 => ?_⟩
      refine ⟨G4, p, _, _, rfl, g4.gh, pn4, by omega, by decide, by decide, fun k1 G5 H5 g5 pn5 k10 k11 => ?_⟩
      refine ⟨mulOk ⟨by omega, by omega⟩, ?_⟩
      refine ⟨G5, p, _, _, rfl, g5.gh, pn5, by omega, by decide, by decide, fun k2 G6 H6 g6 pn6 k20 k21 => ?_⟩
      refine ⟨mulOk ⟨by omega, by omega⟩, ?_⟩
      refine ⟨G6, p, _, _, rfl, g6.gh, pn6, by omega, by omega, by omega, fun k3 G7 H7 g7 pn7 k30 k31 => ?_⟩
      refine ⟨szr (n := 2) (by decide +kernel), fun l H8 nw8 => ⟨szr (n := 2) (by decide +kernel), fun t H9 nw9 => ?_⟩⟩
      have b1 : 1 + pa ≤ (1 + pa) * (1 + k1) := by
        have := Int.mul_le_mul_of_nonneg_left (show (1 : Int) ≤ 1 + k1 by omega) (show (0 : Int) ≤ 1 + pa by omega)
        omega
      have b2 : 1 + pa ≤ (1 + pa) * (1 + k2) := by
        have := Int.mul_le_mul_of_nonneg_left (show (1 : Int) ≤ 1 + k2 by omega) (show (0 : Int) ≤ 1 + pa by omega)
        omega
      have c1 : (1 + pa) * (1 + k1) ≤ (1 + pa) * 3 := Int.mul_le_mul_of_nonneg_left (by omega) (by omega)
      have c2 : (1 + pa) * (1 + k2) ≤ (1 + pa) * 3 := Int.mul_le_mul_of_nonneg_left (by omega) (by omega)
      have s7 : GrM p G H G7 H7 := s3.trans (g4.trans (g5.trans (g6.trans g7)))
      generalize (1 + pa) * (1 + k1) = one2 at *
      generalize (1 + pa) * (1 + k2) = oth2 at *
      refine fin _ [one2, oth2] G7 H7 s7 (pn7.up (by omega)) (by omega) (by omega) (fun d hd => ?_) (by simp) (fun _ => by simp; omega) l H8 nw8 t H9 nw9
      simp only [List.mem_cons, List.not_mem_nil, or_false] at hd
      rcases hd with rfl | rfl
      all_goals omega
    · refine ⟨szr (n := 3) (by decide +kernel), fun o H4 nw4 => ?_⟩
      have g4 := nw4.gr g3.gh
      refine ⟨_, p, o, _, _, rfl, g4.gh, SqL.of upd_same, pn3.gr g4, by omega, (by show 0 < 3; decide), (by show 3 < 2000; decide), fun v G5 H5 hv g5 pn5 => ?_⟩
      have hk : ∃ k : Int, v = .int k ∧ 1 ≤ k ∧ k ≤ 1000 := by
        simp only [List.mem_cons, List.not_mem_nil, or_false] at hv
        rcases hv with rfl | rfl | rfl
        · exact ⟨2, rfl, by decide, by decide⟩
        · exact ⟨4, rfl, by decide, by decide⟩
        · exact ⟨m, rfl, m1, m2⟩
      obtain ⟨k, rfl, k1, k2⟩ := hk
      refine ⟨G5, p, _, _, rfl, g5.gh, pn5, by omega, by omega, by omega, fun le G6 H6 g6 pn6 le0 le1 => ?_⟩
      refine ⟨szr (n := 2) (by decide +kernel), fun l H7 nw7 => ⟨szr (n := 2) (by decide +kernel), fun t H8 nw8 => ?_⟩⟩
      refine fin _ [1 + one, 1 + oth] G6 H6 (s3.trans ((g4.m p).trans (g5.trans g6))) (pn6.up (by omega)) (by omega) (by omega) (fun d hd => ?_) (by simp) (fun _ => by simp; omega) l H7 nw7 t H8 nw8
      simp only [List.mem_cons, List.not_mem_nil, or_false] at hd
      rcases hd with rfl | rfl
      all_goals omega
end
end k36

namespace k36
open PySem PySem.Spec PyProof.Rows L2 Ech
open He (ga ma)
open He5 (wf)
/-! ### _law_rows -/
theorem sc__law_rows : FnScope ["_law_pen_here", "_law_letters", "_law_share", "_law_most", "_law_rows_here", "_law_one", "_law_row_here", "_law_other"] ["_law_pen_here", "_law_letters"] (defScope s__law_rows) := ⟨rfl, rfl, rfl, by decide +kernel, rfl, by decide +kernel, by decide +kernel⟩
section
variable {P : Program} {w : World} {K : PySem.W.Frag} {mg : PySem.Str → Option Value} {base : Heap}
theorem F__law_rows (e : Ev K mg) : FunD K "_law_rows" "_law_rows" (defArgs s__law_rows) (defBody s__law_rows) (defScope s__law_rows) [] [] (ga K "_law_rows") (fdA K (ga K "_law_rows")) := e.fun_ 71 (d := d__law_rows)
theorem kp__law_rows (e : Ev K mg) : PySem.W.keepIn K (.ref (ga K "_law_rows")) = true := (F__law_rows e).kp
theorem b__law_rows (e : Ev K mg) : Binds K (fdA K (ga K "_law_rows")) ["_law_pen_here", "_law_letters"] [] := (F__law_rows e).bindsN fun _ _ _ _ _ _ us hl => match us, hl with | [_, _], _ => rfl
theorem bn__law_rows_2 (e : Ev K mg) : Bnd K (ga K "_law_rows") ["_law_pen_here", "_law_letters"] [] := ⟨[], .nil, b__law_rows e⟩
def goodB (r : List (Option Int)) : Prop := ∀ x ∈ r, ∀ i, x = some i → 0 ≤ i ∧ i ≤ 5000
theorem goodB_snoc {r : List (Option Int)} {x : Option Int} (h : goodB r) (hx : ∀ i, x = some i → 0 ≤ i ∧ i ≤ 5000) : goodB (r ++ [x]) := by
  intro y hy
  rcases List.mem_append.mp hy with hy | hy
  · exact h y hy
  · rw [List.mem_singleton.mp hy]
    exact hx
theorem paired_snoc {α β : Type} {R : α → β → Prop} : ∀ {as : List α} {bs : List β} {a : α} {b : β}, Paired R as bs → R a b → Paired R (as ++ [a]) (bs ++ [b])
  | _, _, _, _, .nil, h => .cons h .nil
  | _, _, _, _, .cons x t, h => .cons x (paired_snoc t h)
def sp__law_rows (K : PySem.W.Frag) : Sp := fun vs H Q _ => ∃ (G : Hp) (p : Addr) (b L : Nat), vs = [.ref p, .int L] ∧ Ex G H ∧ Pen K ("index" : PySem.Str) ("left" : PySem.Str) G H p b ∧ b + 100 < 2 ^ 60 ∧ L ≤ 5 ∧
  ∀ v rows G' H', RowsAt K G' v rows → rows.length = L → SqR rows → (∀ r ∈ rows, goodB r) → GrM p G H G' H' → Pen K ("index" : PySem.Str) ("left" : PySem.Str) G' H' p (b + 100) → Q v H'
theorem ok__law_rows (e : Ev K mg) : FnG P w K mg base CX0 3 (ga K "_law_rows") (fdA K (ga K "_law_rows")) ["_law_pen_here", "_law_letters"] (sp__law_rows K) := by
  refine FnG.body (F__law_rows e) sc__law_rows (fun vs H Q E h => ?_) (fun cdv A outer s H vs Q E hr hq h => ?_)
  · obtain ⟨G, p, b, L, rfl, _⟩ := h
    rfl
  · obtain ⟨G, p, b, L, rfl, hg, hp, hb, hL, q⟩ := h
    refine ⟨_, PSs.nox (pss_cons (ps_asg (u_tup (pa_cons (u_callQ (ok__law_pick e) (hr.mono (by decide)) hq (by rfl) (gl__law_pick e) (kp__law_pick e) (bn__law_pick_2 e) pass0 (pa_cons (uv 0) (pa_cons (u_lst (pa_cons pe_int (pa_cons pe_int (pa_cons pe_int (pa_cons pe_int (pa_cons pe_int pa_nil)))))) pa_nil))) (pa_cons (u_callQ (ok__law_pick e) (hr.mono (by decide)) hq (by rfl) (gl__law_pick e) (kp__law_pick e) (bn__law_pick_2 e) pass0 (pa_cons (uv 0) (pa_cons (u_lst (pa_cons pe_int (pa_cons pe_int (pa_cons pe_int (pa_cons pe_int (pa_cons pe_int pa_nil)))))) pa_nil))) pa_nil))) (u_pgtup (K := K) rfl rfl (PGL.cons (pg_name (i := 2) sc__law_rows.nd (by rfl) (by first | exact Or.inl rfl | exact Or.inr rfl)) (PGL.cons (pg_name (i := 3) sc__law_rows.nd (by rfl) (by first | exact Or.inl rfl | exact Or.inr rfl)) PGL.nil (by rfl)) (by rfl))))
            (pss_cons (ps_set (i := 4) sc__law_rows.nd (by rfl) (Or.inl rfl) (u_lst pa_nil))
            (pss_cons (u_for PassesOwn.never (by rfl) (piu_range1 (by rfl) (fr_range e) (pa_cons (uv 1) pa_nil)) (pg_name (i := 5) sc__law_rows.nd (by rfl) (by first | exact Or.inl rfl | exact Or.inr rfl)) (pss_cons (u_setLc (i := 6) (own := [("_law_other", 7)]) (by rfl) sc__law_rows.nd (by rfl) (by rfl) (sw_true rfl rfl rfl (by kernel_rfl)) (piu_range1 (by rfl) (fr_range e) (pa_cons (uv 1) pa_nil)) (blkOk_by (by kernel_rfl)) (fun _ _ _ _ _ => (pg_name (i := 7) sc__law_rows.nd (by rfl) (by first | exact Or.inl rfl | exact Or.inr rfl))) (fun _ _ _ _ _ => pts_nil) (fun _ _ _ _ _ => (u_ifExp (u_cmpT o_lt (u_callQ (ok__law_draw e) (hr.mono (by decide)) hq (by rfl) (gl__law_draw e) (kp__law_draw e) (bn__law_draw_2 e) pass0 (pa_cons (uv 0) (pa_cons pe_int pa_nil))) (uv 2) (nomark _)) pe_non (u_callQ (ok__law_draw e) (hr.mono (by decide)) hq (by rfl) (gl__law_draw e) (kp__law_draw e) (bn__law_draw_2 e) pass0 (pa_cons (uv 0) (pa_cons (pe_op (k_add (K := K) rfl) (uv 3) pe_int) pa_nil))))))
            (pss_one (ps_expr (k_append (K := K) rfl (uv 4) (pa_cons (uv 6) pa_nil))))))
            (pss_one (ps_ret (uv 4)))))), ?_⟩
    refine ⟨szr (n := 5) (by decide +kernel), fun o1 H1 nw1 => ?_⟩
    have g1 := nw1.gr hg
    refine ⟨_, p, o1, b, _, rfl, g1.gh, SqL.of upd_same, hp.gr g1, by omega, (by show 0 < 5; decide), (by show 5 < 2000; decide), fun v1 G2 H2 hv1 g2 pn2 => ?_⟩
    have hsh : ∃ sh : Int, v1 = .int sh := by
      simp only [List.mem_cons, List.not_mem_nil, or_false] at hv1
      rcases hv1 with rfl | rfl | rfl | rfl | rfl
      all_goals exact ⟨_, rfl⟩
    obtain ⟨sh, rfl⟩ := hsh
    refine ⟨szr (n := 5) (by decide +kernel), fun o2 H3 nw3 => ?_⟩
    have g3 := nw3.gr g2.gh
    refine ⟨_, p, o2, _, _, rfl, g3.gh, SqL.of upd_same, pn2.gr g3, by omega, (by show 0 < 5; decide), (by show 5 < 2000; decide), fun v2 G4 H4 hv2 g4 pn4 => ?_⟩
    have hmo : ∃ mo : Int, v2 = .int mo ∧ 0 ≤ mo ∧ mo ≤ 5000 := by
      simp only [List.mem_cons, List.not_mem_nil, or_false] at hv2
      rcases hv2 with rfl | rfl | rfl | rfl | rfl
      · exact ⟨0, rfl, by decide, by decide⟩
      · exact ⟨1, rfl, by decide, by decide⟩
      · exact ⟨3, rfl, by decide, by decide⟩
      · exact ⟨9, rfl, by decide, by decide⟩
      · exact ⟨5000, rfl, by decide, by decide⟩
    obtain ⟨mo, rfl, mo0, mo1⟩ := hmo
    have s4' : GrM p G H G4 H4 := (g1.m p).trans (g2.trans ((g3.m p).trans g4))
    have pn4' := pn4
    refine ⟨szr (n := 2) (by decide +kernel), fun tt H4b nw4b => ?_⟩
    refine ⟨_, SqT.of nw4b.at, rfl, ?_⟩
    have s4 : GrM p G H G4 H4b := s4'.trans ((nw4b.gr0 s4'.gh).m p)
    have pn4 := pn4'.gr (nw4b.gr0 s4'.gh)
    refine ⟨szr (n := 0) (by decide +kernel), fun l H5 nw5 => ?_⟩
    have s5 : GrM p G H G4 H5 := s4.trans ((nw5.gr0 s4.gh).m p)
    have pn5 := pn4.gr (nw5.gr0 s4.gh)
    have hl : H l = none := s4.new nw5.fresh
    have pl : p ≠ l := pn4.off nw5.fresh
    refine ⟨⟨by omega, by omega⟩, ?_⟩
    rw [show ((L : Int)).toNat = L from Int.toNat_natCast L]
    refine ⟨fun i σ H' => ∃ (G1 : Hp) (rows : List (List (Option Int))) (vs : List V) (y5 y6 y7 : Option V), GrM p G H G1 H' ∧ Pen K ("index" : PySem.Str) ("left" : PySem.Str) G1 H' p (b + 2 + 10 * i) ∧ σ = [some (.ref p), some (.int L), some (.int sh), some (.int mo), some (.ref l), y5, y6, y7] ∧ G1 l = none ∧ H' l = some (.lst vs) ∧ Paired (fun w r => ∃ (b : Addr) (g : Bool), w = V.ref b ∧ Sq g K G1 b (List.map pV r)) vs rows ∧ rows.length = i ∧ (∀ r ∈ rows, r.length = L ∧ goodB r), ?_, ?_, ?_, ?_⟩
    · exact ⟨G4, [], [], none, none, none, s5, pn5, rfl, nw5.gnone s4.gh, nw5.at, .nil, rfl, fun r hr => by cases hr⟩
    · intro _ _ _ _ _
      trivial
    · rintro i x σ H6 H' hi ⟨G6, rows, vs, y5, y6, y7, g6, pn6, rfl, u1, u2, u3, u4, u5⟩ ⟨rfl, rfl⟩
      refine ⟨⟨by omega, by omega⟩, ?_⟩
      rw [show ((L : Int)).toNat = L from Int.toNat_natCast L]
      refine lc_pen 2 pn6 g6.gh (fun j _ acc => ∃ r : List (Option Int), acc = r.map pV ∧ r.length = j ∧ goodB r) ?_ ⟨[], rfl, rfl, fun x hx => by cases hx⟩ ?_ (fun _ _ _ => trivial) ?_ ?_
      · exact Nat.le_trans hL (szr (by decide +kernel))
      · rintro j _ acc ⟨r, rfl, e, _⟩
        rw [List.length_map, e]
        exact Nat.le_refl _
      · rintro j x G7 H7 H8 acc hj g7 pn7 ⟨r, rfl, e, hr⟩ ⟨rfl, rfl⟩ R R0 r1 r2
        have hj' : j < L := hj
        refine ⟨rfl, ?_⟩
        refine ⟨G7, p, _, _, rfl, g7.gh, pn7, by omega, by decide, by decide, fun a1 G8 H8 g8 pn8 a10 a11 => ?_⟩
        refine bite_d (fun hc => ?_) (fun hc => ?_)
        · exact r1 _ G8 H8 g8 (pn8.up (by omega)) ⟨r ++ [none], by simp [pV], by simp [e], goodB_snoc hr (fun i e => by cases e)⟩
        · refine ⟨G8, p, _, _, rfl, g8.gh, pn8, by omega, by omega, by omega, fun a2 G9 H9 g9 pn9 a20 a21 => ?_⟩
          exact r1 _ G9 H9 (g8.trans g9) (pn9.up (by omega)) ⟨r ++ [some a2], by simp [pV], by simp [e], goodB_snoc hr (fun i e => by cases e; omega)⟩
      · rintro D G7 H7 acc g7 pn7 hpD hD hGD h7 ⟨r, rfl, lr, hr⟩
        have s7 : GrM p G H G7 H7 := g6.trans g7
        have hDH : H D = none := g6.new hD
        have s7f := s7.frz hDH hGD h7
        have pn7f := pn7.frz (o := .lst (r.map pV)) hpD hGD
        have nDl : l ≠ D := ne_of_none u2 hD
        have w2 : H7 l = some (.lst vs) := g7.hh _ _ pl.symm u2
        have w1 : G7 l = none := g7.free (some_ne u2) u1
        have w1f : upd G7 D (.lst (r.map pV)) l = none := by rw [upd_ne nDl]; exact w1
        refine ⟨⟨_, SqL.of w2⟩, _, w2, ?_, fun H8 ch => ?_⟩
        · rw [paired_len u3, u4]
          exact Nat.lt_of_lt_of_le (by have : i < L := hi; omega : i < 6) (szr (by decide +kernel))
        · rw [ch.eq]
          refine ⟨_, rows ++ [r], _, _, _, _, s7f.loc hl w1f, (pn7f.up (by omega)).loc pl, rfl, w1f, upd_same, ?_, by simp [u4], ?_⟩
          · refine paired_snoc (paired_imp2 u3 fun w r _ ⟨b, g, h1, h2⟩ => ⟨b, g, h1, Sq.up (ex_trans g7.gg (Evl.Ex.new hGD)) h2⟩) ⟨D, true, rfl, SqL.of upd_same⟩
          · intro r' hr'
            rcases List.mem_append.mp hr' with hr' | hr'
            · exact u5 r' hr'
            · rw [List.mem_singleton.mp hr']
              exact ⟨lr, hr⟩
    · rintro σ H6 ⟨G6, rows, vs, y5, y6, y7, g6, pn6, rfl, u1, u2, u3, u4, u5⟩
      refine q _ rows _ H6 ⟨l, true, vs, rfl, SqL.of upd_same, paired_imp2 u3 fun w r _ ⟨b, g, h1, h2⟩ => ⟨b, g, h1, Sq.up (Evl.Ex.new u1) h2⟩⟩ u4 ?_ (fun r hr => (u5 r hr).2) (g6.frz hl u1 u2) ((pn6.frz pl u1).up (by omega))
      intro r hr
      rw [u4]
      exact (u5 r hr).1
end
end k36

namespace k36
open PySem PySem.Spec PyProof.Rows L2 Ech
open He (ga ma)
open He5 (wf)
/-! ### _law_plain -/
theorem sc__law_plain : FnScope ["_law_pen_here", "_law_longest", "_law_most", "_law_letters", "_law_length", "_law_delays", "_law_delay"] ["_law_pen_here", "_law_longest", "_law_most"] (defScope s__law_plain) := ⟨rfl, rfl, rfl, by decide +kernel, rfl, by decide +kernel, by decide +kernel⟩
section
variable {P : Program} {w : World} {K : PySem.W.Frag} {mg : PySem.Str → Option Value} {base : Heap}
theorem F__law_plain (e : Ev K mg) : FunD K "_law_plain" "_law_plain" (defArgs s__law_plain) (defBody s__law_plain) (defScope s__law_plain) [] [] (ga K "_law_plain") (fdA K (ga K "_law_plain")) := e.fun_ 73 (d := d__law_plain)
theorem kp__law_plain (e : Ev K mg) : PySem.W.keepIn K (.ref (ga K "_law_plain")) = true := (F__law_plain e).kp
theorem b__law_plain (e : Ev K mg) : Binds K (fdA K (ga K "_law_plain")) ["_law_pen_here", "_law_longest", "_law_most"] [] := (F__law_plain e).bindsN fun _ _ _ _ _ _ us hl => match us, hl with | [_, _, _], _ => rfl
theorem bn__law_plain_3 (e : Ev K mg) : Bnd K (ga K "_law_plain") ["_law_pen_here", "_law_longest", "_law_most"] [] := ⟨[], .nil, b__law_plain e⟩
def sp__law_plain (K : PySem.W.Frag) : Sp := fun vs H Q _ => ∃ (G : Hp) (p : Addr) (b : Nat) (m k : Int), vs = [.ref p, .int m, .int k] ∧ Ex G H ∧ Pen K ("index" : PySem.Str) ("left" : PySem.Str) G H p b ∧ b + 400 < 2 ^ 60 ∧ 1 ≤ m ∧ m ≤ 1000 ∧ 1 ≤ k ∧ k ≤ 5 ∧
  ∀ v L n es G' H', ScoreAt K G' v L n es → ScoreOk L n es → n ≤ m → L ≤ k → (∀ e ∈ es, e.1 ≤ 5000 ∧ ∀ r ∈ e.2, ∀ x ∈ r, ∀ i, x = some i → i ≤ 5000) → GrM p G H G' H' → Pen K ("index" : PySem.Str) ("left" : PySem.Str) G' H' p (b + 400) → Q v H'
theorem ok__law_plain (e : Ev K mg) : FnG P w K mg base CX0 4 (ga K "_law_plain") (fdA K (ga K "_law_plain")) ["_law_pen_here", "_law_longest", "_law_most"] (sp__law_plain K) := by
  refine FnG.body (F__law_plain e) sc__law_plain (fun vs H Q E h => ?_) (fun cdv A outer s H vs Q E hr hq h => ?_)
  · obtain ⟨G, p, b, m, k, rfl, _⟩ := h
    rfl
  · obtain ⟨G, p, b, m, k, rfl, hg, hp, hb, m1, m2, k1, k2, q⟩ := h
    refine ⟨_, PSs.nox (pss_cons (ps_set (i := 3) sc__law_plain.nd (by rfl) (Or.inr rfl) (pe_op (k_add (K := K) rfl) pe_int (u_callQ (ok__law_draw e) (hr.mono (by decide)) hq (by rfl) (gl__law_draw e) (kp__law_draw e) (bn__law_draw_2 e) pass0 (pa_cons (uv 0) (pa_cons (uv 2) pa_nil)))))
            (pss_cons (ps_asg (u_callQ (ok__law_reach e) (hr.mono (by decide)) hq (by rfl) (gl__law_reach e) (kp__law_reach e) (bn__law_reach_2 e) pass0 (pa_cons (uv 0) (pa_cons (uv 1) pa_nil))) (u_pgtup (K := K) rfl rfl (PGL.cons (pg_name (i := 4) sc__law_plain.nd (by rfl) (by first | exact Or.inl rfl | exact Or.inr rfl)) (PGL.cons (pg_name (i := 5) sc__law_plain.nd (by rfl) (by first | exact Or.inl rfl | exact Or.inr rfl)) PGL.nil (by rfl)) (by rfl))))
            (pss_one (ps_ret (pe_disp (pps_cons pe_str (uv 3) (pps_cons pe_str (uv 4) (pps_cons pe_str (u_lc (own := [("_law_delay", 6)]) (by rfl) sc__law_plain.nd (k_seq (K := K) rfl (uv 5)) (blkOk_by (by kernel_rfl)) (fun _ _ _ _ _ => (pg_name (i := 6) sc__law_plain.nd (by rfl) (by first | exact Or.inl rfl | exact Or.inr rfl))) (fun _ _ _ _ _ => pts_nil) (fun _ _ _ _ _ => (u_tup (pa_cons (uv 6) (pa_cons (u_callQ (ok__law_rows e) (hr.mono (by decide)) hq (by rfl) (gl__law_rows e) (kp__law_rows e) (bn__law_rows_2 e) pass0 (pa_cons (uv 0) (pa_cons (uv 3) pa_nil))) pa_nil))))) pps_nil))) (by rfl) (by rfl) (fun z => by cases z) (by decide)))))), ?_⟩
    refine ⟨G, p, b, _, rfl, hg, hp, by omega, by omega, by omega, fun v G1 H1 g1 pn1 v0 v1 => ?_⟩
    obtain ⟨L, hL⟩ : ∃ L : Nat, (1 + v : Int) = (L : Int) := ⟨(1 + v).toNat, by omega⟩
    refine ⟨G1, p, _, m, rfl, g1.gh, pn1, by omega, m1, m2, fun t l n ds G2 H2 st sl n1 n2 hd l2 hs g2 pn2 => ?_⟩
    have s2 : GrM p G H G2 H2 := g1.trans g2
    refine ⟨_, Evl.ex_t g2.gh st, rfl, ?_⟩
    intro d hd0
    have hdH : H d = none := s2.new hd0
    have pd : p ≠ d := pn2.off hd0
    have nw3 : New H2 d (.dK []) (upd H2 d (.dK [])) := ⟨hd0, rfl⟩
    have g3 := nw3.gr0 g2.gh
    have pn3 := pn2.gr g3
    have dG2 : G2 d = none := ex_none g2.gh hd0
    generalize upd H2 d (.dK []) = H3 at nw3 g3 pn3
    refine ⟨true, _, Evl.ex_l g3.gh sl, ?_⟩
    refine lc_pen 100 pn3 g3.gh (fun i G acc => ∃ es : List Lot, Paired (LotAt K G) acc es ∧ es.length = i ∧ es.map (·.1) = ds.take i ∧ ∀ e ∈ es, e.2.length = L ∧ SqR e.2 ∧ ∀ r ∈ e.2, goodB r) ?_ ⟨[], .nil, rfl, rfl, fun x hx => by cases hx⟩ ?_ ?_ ?_ ?_
    · show (ds.map V.int).length ≤ sizeLine
      rw [List.length_map]
      exact Nat.le_trans l2 (szr (by decide +kernel))
    · rintro i _ acc ⟨es, h1, h2, _⟩
      rw [paired_len h1, h2]
      exact Nat.le_refl _
    · intro G4 H4 g4
      exact Evl.ex_l (ex_trans g4.gg g4.gh) sl
    · rintro i x G4 H4 H5 acc hi g4 pn4 ⟨es, h1, h2, h3, h4⟩ ⟨rfl, hx⟩ R R0 r1 r2
      have hi' : i < ds.length := by
        have : i < (ds.map V.int).length := hi
        rwa [List.length_map] at this
      rw [List.getElem?_map, List.getElem?_eq_getElem hi'] at hx
      obtain rfl := Option.some.inj hx
      refine ⟨rfl, ?_⟩
      refine ⟨G4, p, _, L, (by show [V.ref p, V.int (1 + v)] = _; rw [hL]), g4.gh, pn4, by omega, by omega, fun w rows G5 H5 rw5 lr sq gd g5 pn5 => ?_⟩
      refine ⟨szr (n := 2) (by decide +kernel), fun tt H6 nw6 => ?_⟩
      have g6 := nw6.gr g5.gh
      refine r1 _ _ H6 (g5.trans (g6.m p)) ((pn5.gr g6).up (by omega)) ⟨es ++ [(ds[i], rows)], paired_snoc (paired_imp2 h1 fun _ _ _ z => z.up (ex_trans g5.gg g6.gg)) ⟨tt, w, rfl, SqT.of upd_same, rw5.up g6.gg⟩, by simp [h2], ?_, ?_⟩
      · rw [List.map_append, h3, List.take_add_one, List.getElem?_eq_getElem hi']
        rfl
      · intro e he
        rcases List.mem_append.mp he with he | he
        · exact h4 e he
        · rw [List.mem_singleton.mp he]
          exact ⟨lr, sq, gd⟩
    · rintro D G4 H4 acc g4 pn4 hpD hD hGD h4 ⟨es, e1, e2, e3, e4⟩
      have lds : (ds.map V.int).length = ds.length := List.length_map _
      rw [lds] at e2 e3 pn4
      rw [List.take_length] at e3
      have hd4 : H4 d = some (.dK []) := g4.hh _ _ pd.symm nw3.at
      have dG4 : G4 d = none := g4.free (some_ne nw3.at) dG2
      have nDd : d ≠ D := ne_of_none nw3.at hD
      refine ⟨hd4, [(Sum.inr ("letters" : PySem.Str), .int (1 + v)), (Sum.inr ("length" : PySem.Str), .int n), (Sum.inr ("echoes" : PySem.Str), .ref D)], rfl, (by show 3 ≤ 15; decide), ?_⟩
      have s4 : GrM p G H G4 H4 := s2.trans ((g3.m p).trans g4)
      have hDH : H D = none := (s2.trans (g3.m p)).new hD
      have s5 := s4.frz (o := .lst acc) hDH hGD h4
      have pn5 := pn4.frz (o := .lst acc) hpD hGD
      have dG5 : upd G4 D (.lst acc) d = none := by rw [upd_ne nDd]; exact dG4
      rw [score_merge]
      have s6 := s5.loc (o := .dK (scoreK (.int (1 + v)) (.int n) (.ref D))) hdH dG5
      have s7 := s6.frz hdH dG5 upd_same
      have pn7 := (pn5.loc (o := .dK (scoreK (.int (1 + v)) (.int n) (.ref D))) pd).frz (o := .dK (scoreK (.int (1 + v)) (.int n) (.ref D))) pd dG5
      have xx : Ex G4 (upd (upd G4 D (.lst acc)) d (.dK (scoreK (.int (1 + v)) (.int n) (.ref D)))) := ex_trans (Evl.Ex.new hGD) (Evl.Ex.new dG5)
      refine q (.ref d) (1 + v) n es _ _ ⟨d, _, D, acc, rfl, upd_same, score_l _ _ _, score_n _ _ _, score_e _ _ _, Evl.ex_l (Evl.Ex.new dG5) (SqL.of upd_same), paired_imp2 e1 fun _ _ _ z => z.up xx⟩ ?_ n2 (by omega) (fun e he => ⟨(hd e.1 (by rw [← e3]; exact List.mem_map_of_mem he)).2, fun r hr x hx i ei => ((e4 e he).2.2 r hr x hx i ei).2⟩) s7 (pn7.up (by omega))
      refine ⟨by omega, by omega, n1, by omega, by omega, fun e he => ?_, fun h => ?_⟩
      · have hm : e.1 ∈ ds := by rw [← e3]; exact List.mem_map_of_mem he
        have hd1 := hd e.1 hm
        have h4 := e4 e he
        exact ⟨hd1.1, by omega, by rw [h4.1, hL], h4.2.1, fun r hr x hx i ei => (h4.2.2 r hr x hx i ei).1⟩
      · show n ≤ (es.map (·.1)).sum
        rw [e3]
        exact hs (by omega)
end
end k36

namespace k36
open PySem PySem.Spec PyProof.Rows L2 Ech
open He (ga ma)
open He5 (wf)
/-! ### is_integer -/
theorem sc_is_integer : FnScope ["value", "least", "most"] ["value", "least", "most"] (defScope s_is_integer) := ⟨rfl, rfl, rfl, by decide +kernel, rfl, by decide +kernel, by decide +kernel⟩
section
variable {P : Program} {w : World} {K : PySem.W.Frag} {mg : PySem.Str → Option Value} {base : Heap}
theorem F_is_integer (e : Ev K mg) : FunD K "is_integer" "is_integer" (defArgs s_is_integer) (defBody s_is_integer) (defScope s_is_integer) [.non, .non] [] (ga K "is_integer") (fdA K (ga K "is_integer")) := e.fun_ 0 (d := d_is_integer)
theorem kp_is_integer (e : Ev K mg) : PySem.W.keepIn K (.ref (ga K "is_integer")) = true := (F_is_integer e).kp
theorem bn_is_integer_1 (e : Ev K mg) : Bnd K (ga K "is_integer") ["value", "least", "most"] [.non, .non] := (F_is_integer e).binds1 1 0 (by simp) (by decide) fun _ _ _ _ _ _ _ us its h1 h2 => match us, h1, its, h2 with | [_], _, [_, _], _ => ⟨_, rfl, rfl⟩
theorem bn_is_integer_2 (e : Ev K mg) : Bnd K (ga K "is_integer") ["value", "least", "most"] [.non] := (F_is_integer e).binds1 2 1 (by simp) (by decide) fun _ _ _ _ _ _ _ us its h1 h2 => match us, h1, its, h2 with | [_, _], _, [_, _], _ => ⟨_, rfl, rfl⟩
theorem bn_is_integer_3 (e : Ev K mg) : Bnd K (ga K "is_integer") ["value", "least", "most"] [] := (F_is_integer e).binds1 3 2 (by simp) (by decide) fun _ _ _ _ _ _ _ us its h1 h2 => match us, h1, its, h2 with | [_, _, _], _, [_, _], _ => ⟨_, rfl, rfl⟩
def loOk : V → Int → Bool
  | .int l, i => decide (l ≤ i)
  | _, _ => true
def hiOk : V → Int → Bool
  | .int l, i => decide (i ≤ l)
  | _, _ => true
def isIntV : V → V → V → Bool
  | .int i, lo, hi => loOk lo i && hiOk hi i
  | _, _, _ => false
abbrev isI : V → Bool := isIv
abbrev isB : V → Bool := isBv
def sp_is_integer (K : PySem.W.Frag) : Sp := fun vs H Q _ => ∃ v lo hi, vs = [v, lo, hi] ∧ IsiOk K H v "int" (isI v) ∧ IsiOk K H v "bool" (isB v) ∧ (lo = .non ∨ ∃ l, lo = .int l) ∧ (hi = .non ∨ ∃ l, hi = .int l) ∧ Q (.bl (isIntV v lo hi)) H
theorem intV_D {K : PySem.W.Frag} {H : Hp} {f : Bool} {v : V} {d : PyData} {lo hi : Int} (h : Dq K H f v d) : isIntV v (.int lo) (.int hi) = isIntD lo hi d := by
  cases h <;> rfl
theorem ok_is_integer (e : Ev K mg) : FnOk P w K mg base CX0 1 (ga K "is_integer") (fdA K (ga K "is_integer")) ["value", "least", "most"] (sp_is_integer K) := by
  refine (F_is_integer e).ok sc_is_integer (fun vs H Q E h => ?_) (fun cdv A outer s H vs Q E hr h => ?_)
  · obtain ⟨v, lo, hi, rfl, _⟩ := h
    rfl
  · obtain ⟨v, lo, hi, rfl, h1, h2, h3, h4, q⟩ := h
    refine ⟨_, PSs.nox (pss_cons (u_if (PW.pt (u_orT (pt_not (k_tru (K := K) rfl (pe_callB (id := "isinstance") (k_isi (K := K) rfl) (by rfl) (fr_isinstance e) (by decide +kernel) (pa_cons (uv 0) (pa_cons (u_ty (n := "int") (by rfl) (fr_int e) (by decide +kernel)) pa_nil))))) (u_or1 (k_tru (K := K) rfl (pe_callB (id := "isinstance") (k_isi (K := K) rfl) (by rfl) (fr_isinstance e) (by decide +kernel) (pa_cons (uv 0) (pa_cons (u_ty (n := "bool") (by rfl) (fr_bool e) (by decide +kernel)) pa_nil))))))) (pss_one (ps_ret pe_bl)) pss_nil)
            (pss_one (ps_ret (u_and (u_or (u_cmp o_is (uv 1) pe_non (nomark _)) (pe_one (u_cmp o_ge (uv 0) (uv 1) (nomark _)))) (pe_one (u_or (u_cmp o_is (uv 2) pe_non (nomark _)) (pe_one (u_cmp o_le (uv 0) (uv 2) (nomark _))))))))), ?_⟩
    cases v with
    | int i =>
      refine isi_go h1 ?_
      refine isi_go h2 ?_
      rcases h3 with rfl | ⟨l, rfl⟩
      · rcases h4 with rfl | ⟨m, rfl⟩
        · exact q
        · exact q
      · refine bite_d (fun hc => ?_) (fun hc => ?_)
        · have q' : Q (.bl (decide (l ≤ i) && hiOk hi i)) H := q
          rw [decide_eq_true hc] at q'
          rcases h4 with rfl | ⟨m, rfl⟩
          · exact q'
          · exact q'
        · have q' : Q (.bl (decide (l ≤ i) && hiOk hi i)) H := q
          rw [decide_eq_false hc] at q'
          exact q'
    | bl b =>
      refine isi_go h1 ?_
      refine isi_go h2 ?_
      exact q
    | _ =>
      refine isi_go h1 ?_
      exact q
end
end k36

namespace k36
open PySem PySem.Spec PyProof.Rows L2 Ech
open He (ga ma)
open He5 (wf)
/-! ### need_letters -/
theorem sc_need_letters : FnScope ["letters"] ["letters"] (defScope s_need_letters) := ⟨rfl, rfl, rfl, by decide +kernel, rfl, by decide +kernel, by decide +kernel⟩
section
variable {P : Program} {w : World} {K : PySem.W.Frag} {mg : PySem.Str → Option Value} {base : Heap}
theorem F_need_letters (e : Ev K mg) : FunD K "need_letters" "need_letters" (defArgs s_need_letters) (defBody s_need_letters) (defScope s_need_letters) [] [] (ga K "need_letters") (fdA K (ga K "need_letters")) := e.fun_ 22 (d := d_need_letters)
theorem kp_need_letters (e : Ev K mg) : PySem.W.keepIn K (.ref (ga K "need_letters")) = true := (F_need_letters e).kp
theorem b_need_letters (e : Ev K mg) : Binds K (fdA K (ga K "need_letters")) ["letters"] [] := (F_need_letters e).bindsN fun _ _ _ _ _ _ us hl => match us, hl with | [_], _ => rfl
theorem bn_need_letters_1 (e : Ev K mg) : Bnd K (ga K "need_letters") ["letters"] [] := ⟨[], .nil, b_need_letters e⟩
def sp_need_letters (K : PySem.W.Frag) : Sp := fun vs H Q _ => ∃ (L : Int), vs = [.int L] ∧ 1 ≤ L ∧ L ≤ 5 ∧ Q .non H
theorem isIntV_of2 {i lo hi : Int} (h1 : lo ≤ i) (h2 : i ≤ hi) : isIntV (.int i) (.int lo) (.int hi) = true := by
  show (decide (lo ≤ i) && decide (i ≤ hi)) = true
  rw [decide_eq_true h1, decide_eq_true h2]
  rfl
theorem ok_need_letters (e : Ev K mg) : FnOk P w K mg base CX0 2 (ga K "need_letters") (fdA K (ga K "need_letters")) ["letters"] (sp_need_letters K) := by
  refine (F_need_letters e).ok sc_need_letters (fun vs H Q E h => ?_) (fun cdv A outer s H vs Q E hr h => ?_)
  · obtain ⟨L, rfl, _⟩ := h
    rfl
  · obtain ⟨L, rfl, h1, h2, q⟩ := h
    refine ⟨_, PSs.nox (pss_one (u_if (pt_not (k_tru (K := K) rfl (u_call (ok_is_integer e) (hr.mono (by decide)) (by rfl) (gl_is_integer e) (kp_is_integer e) (bn_is_integer_3 e) pass0 (pa_cons (uv 0) (pa_cons pe_int (pa_cons (u_gint (by rfl) (con_MAX_LETTERS e)) pa_nil)))))) (pss_one ps_never) pss_nil)), ?_⟩
    refine ⟨_, _, _, rfl, isi_int_int, isi_int_bool, Or.inr ⟨_, rfl⟩, Or.inr ⟨_, rfl⟩, ?_⟩
    rw [isIntV_of2 h1 h2]
    exact q
end
end k36

namespace k36
open PySem PySem.Spec PyProof.Rows L2 Ech
open He (ga ma)
open He5 (wf)
/-! ### Table.rows -/
section
variable {P : Program} {w : World} {K : PySem.W.Frag} {mg : PySem.Str → Option Value} {base : Heap}
end
end k36

namespace k36
open PySem PySem.Spec PyProof.Rows L2 Ech
open He (ga ma)
open He5 (wf)
/-! ### Table.letters -/
theorem sc_Table_letters : FnScope ["self"] ["self"] (defScope s_Table_letters) := ⟨rfl, rfl, rfl, by decide +kernel, rfl, by decide +kernel, by decide +kernel⟩
section
variable {P : Program} {w : World} {K : PySem.W.Frag} {mg : PySem.Str → Option Value} {base : Heap}
theorem F_Table_letters (e : Ev K mg) : FunD K "letters" "Table.letters" (defArgs s_Table_letters) (defBody s_Table_letters) (defScope s_Table_letters) [] [] (wf K (ga K "Table") "property" "letters") (fdA K (wf K (ga K "Table") "property" "letters")) := e.fun_ 29 (d := d_Table_letters)
theorem b_Table_letters (e : Ev K mg) : Binds K (fdA K (wf K (ga K "Table") "property" "letters")) ["self"] [] := (F_Table_letters e).bindsN fun _ _ _ _ _ _ us hl => match us, hl with | [_], _ => rfl
def sp_Table_letters (K : PySem.W.Frag) : Sp := fun vs H Q _ => ∃ (G : Hp) (a : Addr) (rows : List (List (Option Int))), vs = [.ref a] ∧ Ex G H ∧ TabAt K G a rows ∧ Q (.int rows.length) H
theorem ok_Table_letters (e : Ev K mg) : FnOk P w K mg base CX0 5 (wf K (ga K "Table") "property" "letters") (fdA K (wf K (ga K "Table") "property" "letters")) ["self"] (sp_Table_letters K) := by
  refine (F_Table_letters e).ok sc_Table_letters (fun vs H Q E h => ?_) (fun cdv A outer s H vs Q E hr h => ?_)
  · obtain ⟨G, a, rows, rfl, _⟩ := h
    rfl
  · obtain ⟨G, a, rows, rfl, hg, ⟨dx, ent, h1, h2⟩, q⟩ := h
    refine ⟨_, PSs.nox (pss_one (ps_ret (pe_callB (id := "len") (k_len (K := K) rfl) (by rfl) (fr_len e) (by decide +kernel) (pa_cons (u_fld (cl_Table e) (na_Table_entries e) (uv 0)) pa_nil)))), ?_⟩
    refine ⟨dx, _, ent, hg _ _ h1, look_entries ent, ?_⟩
    cases h2 with
    | tup hs hd =>
      have l := dpAll_len hd
      rw [List.length_map] at l
      refine ⟨_, Or.inr (Evl.ex_t hg hs), ?_⟩
      rw [l]
      exact q
end
end k36

namespace k36
open PySem PySem.Spec PyProof.Rows L2 Ech
open He (ga ma)
open He5 (wf)
/-! ### Song.letters -/
theorem sc_Song_letters : FnScope ["self"] ["self"] (defScope s_Song_letters) := ⟨rfl, rfl, rfl, by decide +kernel, rfl, by decide +kernel, by decide +kernel⟩
section
variable {P : Program} {w : World} {K : PySem.W.Frag} {mg : PySem.Str → Option Value} {base : Heap}
theorem F_Song_letters (e : Ev K mg) : FunD K "letters" "Song.letters" (defArgs s_Song_letters) (defBody s_Song_letters) (defScope s_Song_letters) [] [] (wf K (ga K "Song") "property" "letters") (fdA K (wf K (ga K "Song") "property" "letters")) := e.fun_ 41 (d := d_Song_letters)
theorem b_Song_letters (e : Ev K mg) : Binds K (fdA K (wf K (ga K "Song") "property" "letters")) ["self"] [] := (F_Song_letters e).bindsN fun _ _ _ _ _ _ us hl => match us, hl with | [_], _ => rfl
def sp_Song_letters (K : PySem.W.Frag) : Sp := fun vs H Q _ => ∃ (G : Hp) (a : Addr) (L n : Int) (es : List Ec), vs = [.ref a] ∧ Ex G H ∧ SongAt K G a L n es ∧ Q (.int L) H
theorem ok_Song_letters (e : Ev K mg) : FnOk P w K mg base CX0 1 (wf K (ga K "Song") "property" "letters") (fdA K (wf K (ga K "Song") "property" "letters")) ["self"] (sp_Song_letters K) := by
  refine (F_Song_letters e).ok sc_Song_letters (fun vs H Q E h => ?_) (fun cdv A outer s H vs Q E hr h => ?_)
  · obtain ⟨G, a, L, n, es, rfl, _⟩ := h
    rfl
  · obtain ⟨G, a, L, n, es, rfl, hg, ⟨dx, vo, ws, h1, h2, h3⟩, q⟩ := h
    refine ⟨_, PSs.nox (pss_one (ps_ret (u_fld (cl_Song e) (na_Song_alphabet e) (uv 0)))), ?_⟩
    exact ⟨dx, _, _, hg _ _ h1, look_alpha _ _ _, q⟩
end
end k36

namespace k36
open PySem PySem.Spec PyProof.Rows L2 Ech
open He (ga ma)
open He5 (wf)
/-! ### is_echo -/
theorem sc_is_echo : FnScope ["letters", "value"] ["letters", "value"] (defScope s_is_echo) := ⟨rfl, rfl, rfl, by decide +kernel, rfl, by decide +kernel, by decide +kernel⟩
section
variable {P : Program} {w : World} {K : PySem.W.Frag} {mg : PySem.Str → Option Value} {base : Heap}
theorem F_is_echo (e : Ev K mg) : FunD K "is_echo" "is_echo" (defArgs s_is_echo) (defBody s_is_echo) (defScope s_is_echo) [] [] (ga K "is_echo") (fdA K (ga K "is_echo")) := e.fun_ 37 (d := d_is_echo)
theorem kp_is_echo (e : Ev K mg) : PySem.W.keepIn K (.ref (ga K "is_echo")) = true := (F_is_echo e).kp
theorem b_is_echo (e : Ev K mg) : Binds K (fdA K (ga K "is_echo")) ["letters", "value"] [] := (F_is_echo e).bindsN fun _ _ _ _ _ _ us hl => match us, hl with | [_, _], _ => rfl
theorem bn_is_echo_2 (e : Ev K mg) : Bnd K (ga K "is_echo") ["letters", "value"] [] := ⟨[], .nil, b_is_echo e⟩
def sp_is_echo (K : PySem.W.Frag) : Sp := fun vs H Q _ => ∃ (G : Hp) (L : Int) (v : V) (e : Ec), vs = [.int L, v] ∧ Ex G H ∧ EchoAt K G v e ∧ EchoOk L e ∧ Q (.bl true) H
theorem isIntV_of3 {i lo hi : Int} (h1 : lo ≤ i) (h2 : i ≤ hi) : isIntV (.int i) (.int lo) (.int hi) = true := by
  show (decide (lo ≤ i) && decide (i ≤ hi)) = true
  rw [decide_eq_true h1, decide_eq_true h2]
  rfl
theorem ok_is_echo (e : Ev K mg) : FnOk P w K mg base CX0 7 (ga K "is_echo") (fdA K (ga K "is_echo")) ["letters", "value"] (sp_is_echo K) := by
  refine (F_is_echo e).ok sc_is_echo (fun vs H Q E h => ?_) (fun cdv A outer s H vs Q E hr h => ?_)
  · obtain ⟨G, L, v, ec, rfl, _⟩ := h
    rfl
  · obtain ⟨G, L, v, ec, rfl, hg, ⟨b, rfl, hb, ht⟩, ⟨o1, o2, o3⟩, q⟩ := h
    obtain ⟨dx, ent, ht1, ht2⟩ := id ht
    refine ⟨_, PSs.nox (pss_cons (u_if (PW.pt (u_orT (pt_not (k_tru (K := K) rfl (pe_callB (id := "isinstance") (k_isi (K := K) rfl) (by rfl) (fr_isinstance e) (by decide +kernel) (pa_cons (uv 1) (pa_cons (u_ty (n := "tuple") (by rfl) (fr_tuple e) (by decide +kernel)) pa_nil))))) (u_orT (u_cmpT (k_ne (K := K) rfl hr.units) (pe_callB (id := "len") (k_len (K := K) rfl) (by rfl) (fr_len e) (by decide +kernel) (pa_cons (uv 1) pa_nil)) pe_int (nomark _)) (u_or1 (pt_not (k_tru (K := K) rfl (u_call (ok_is_integer e) (hr.mono (by decide)) (by rfl) (gl_is_integer e) (kp_is_integer e) (bn_is_integer_3 e) pass0 (pa_cons (pe_ix (ix_k (K := K) rfl) (uv 1) pe_int (fun _ _ => rfl)) (pa_cons pe_int (pa_cons (u_gint (by rfl) (con_GREATEST e)) pa_nil)))))))))) (pss_one (ps_ret pe_bl)) pss_nil)
            (pss_one (ps_ret (u_and (pe_callB (id := "isinstance") (k_isi (K := K) rfl) (by rfl) (fr_isinstance e) (by decide +kernel) (pa_cons (pe_ix (ix_k (K := K) rfl) (uv 1) pe_int (fun _ _ => rfl)) (pa_cons (pe_glob (v := .ref (ga K "Table")) (by rfl) (gl_Table e) rfl) pa_nil))) (pe_one (u_cmp (k_eq (K := K) rfl hr.units) (u_prop (pe_ix (ix_k (K := K) rfl) (uv 1) pe_int (fun _ _ => rfl)) (cl_Table e) (pr_Table_letters e) (ok_Table_letters e) (hr.mono (by decide)) (b_Table_letters e) pass0) (uv 0) (nomark _))))))), ?_⟩
    refine isi_go (isi_tup (b := true) (Evl.ex_t hg hb) (by decide +kernel)) ?_
    refine ⟨_, Or.inr (Evl.ex_t hg hb), ?_⟩
    refine ⟨_, _, Or.inr (Evl.ex_t hg hb), rfl, ?_⟩
    refine ⟨_, _, _, rfl, isi_int_int, isi_int_bool, Or.inr ⟨_, rfl⟩, Or.inr ⟨_, rfl⟩, ?_⟩
    rw [isIntV_of3 o1 o2]
    refine ⟨_, _, Or.inr (Evl.ex_t hg hb), rfl, ?_⟩
    refine Or.inl ⟨_, _, _, _, true, rfl, .own _, in_Table e (hg _ _ ht1), kit_self, ?_⟩
    refine ⟨_, _, Or.inr (Evl.ex_t hg hb), rfl, ?_⟩
    refine ⟨dx, _, hg _ _ ht1, ?_⟩
    refine ⟨G, _, ec.2.2, rfl, hg, ht, ?_⟩
    have q' : Q (.bl (decide ((ec.2.2.length : Int) = L))) H := by rw [decide_eq_true o3]; exact q
    exact q'
end
end k36

namespace k36
open PySem PySem.Spec PyProof.Rows L2 Ech
open He (ga ma)
open He5 (wf)
/-! ### need_echoes -/
theorem sc_need_echoes : FnScope ["letters", "length", "echoes", "index", "value", "reach", "delay", "table"] ["letters", "length", "echoes"] (defScope s_need_echoes) := ⟨rfl, rfl, rfl, by decide +kernel, rfl, by decide +kernel, by decide +kernel⟩
section
variable {P : Program} {w : World} {K : PySem.W.Frag} {mg : PySem.Str → Option Value} {base : Heap}
theorem F_need_echoes (e : Ev K mg) : FunD K "need_echoes" "need_echoes" (defArgs s_need_echoes) (defBody s_need_echoes) (defScope s_need_echoes) [] [] (ga K "need_echoes") (fdA K (ga K "need_echoes")) := e.fun_ 38 (d := d_need_echoes)
theorem kp_need_echoes (e : Ev K mg) : PySem.W.keepIn K (.ref (ga K "need_echoes")) = true := (F_need_echoes e).kp
theorem b_need_echoes (e : Ev K mg) : Binds K (fdA K (ga K "need_echoes")) ["letters", "length", "echoes"] [] := (F_need_echoes e).bindsN fun _ _ _ _ _ _ us hl => match us, hl with | [_, _, _], _ => rfl
theorem bn_need_echoes_3 (e : Ev K mg) : Bnd K (ga K "need_echoes") ["letters", "length", "echoes"] [] := ⟨[], .nil, b_need_echoes e⟩
def reachOf (es : List Ec) : Int := (es.map (·.1)).sum
def sp_need_echoes (K : PySem.W.Frag) : Sp := fun vs H Q _ => ∃ (G : Hp) (L n : Int) (a : Addr) (ws : List V) (es : List Ec), vs = [.int L, .int n, .ref a] ∧ Ex G H ∧ SqT K G a ws ∧ Paired (EchoAt K G) ws es ∧ (∀ e ∈ es, EchoOk L e) ∧ es.length ≤ 2 ∧ (es.length = 2 → n ≤ reachOf es) ∧
  ∀ H', Ex H H' → Q .non H'
theorem ok_need_echoes (e : Ev K mg) : FnOk P w K mg base CX0 8 (ga K "need_echoes") (fdA K (ga K "need_echoes")) ["letters", "length", "echoes"] (sp_need_echoes K) := by
  refine (F_need_echoes e).ok sc_need_echoes (fun vs H Q E h => ?_) (fun cdv A outer s H vs Q E hr h => ?_)
  · obtain ⟨G, L, n, a, ws, es, rfl, _⟩ := h
    rfl
  · obtain ⟨G, L, n, a, ws, es, rfl, hg, hs, hp, ok, l2, hsum, q⟩ := h
    refine ⟨_, PSs.nox (pss_cons (u_for PassesOwn.never (by rfl) (k_enum (K := K) rfl (by rfl) (fr_enumerate e) (pa_cons (uv 2) pa_nil)) (u_pgtup (K := K) rfl rfl (PGL.cons (pg_name (i := 3) sc_need_echoes.nd (by rfl) (by first | exact Or.inl rfl | exact Or.inr rfl)) (PGL.cons (pg_name (i := 4) sc_need_echoes.nd (by rfl) (by first | exact Or.inl rfl | exact Or.inr rfl)) PGL.nil (by rfl)) (by rfl))) (pss_one (u_if (PW.pt (u_orT (u_cmpT o_ge (uv 3) (u_gint (by rfl) (con_MAX_ECHOES e)) (nomark _)) (u_or1 (pt_not (k_tru (K := K) rfl (u_call (ok_is_echo e) (hr.mono (by decide)) (by rfl) (gl_is_echo e) (kp_is_echo e) (bn_is_echo_2 e) pass0 (pa_cons (uv 0) (pa_cons (uv 4) pa_nil)))))))) (pss_one ps_never) pss_nil)))
            (pss_cons (ps_set (i := 5) sc_need_echoes.nd (by rfl) (Or.inl rfl) (pe_callB (id := "sum") (k_sum (K := K) rfl (by rfl)) (by rfl) (fr_sum e) (by decide +kernel) (pa_cons (u_lc (own := [("delay", 6), ("table", 7)]) (by rfl) sc_need_echoes.nd (k_seq (K := K) rfl (uv 2)) (blkOk_by (by kernel_rfl)) (fun _ _ _ _ _ => (u_pgtup (K := K) rfl rfl (PGL.cons (pg_name (i := 6) sc_need_echoes.nd (by rfl) (by first | exact Or.inl rfl | exact Or.inr rfl)) (PGL.cons (pg_name (i := 7) sc_need_echoes.nd (by rfl) (by first | exact Or.inl rfl | exact Or.inr rfl)) PGL.nil (by rfl)) (by rfl)))) (fun _ _ _ _ _ => pts_nil) (fun _ _ _ _ _ => (uv 6))) pa_nil)))
            (pss_one (u_if (PW.pt (u_andT (u_cmpT (k_eq (K := K) rfl hr.units) (pe_callB (id := "len") (k_len (K := K) rfl) (by rfl) (fr_len e) (by decide +kernel) (pa_cons (uv 2) pa_nil)) (u_gint (by rfl) (con_MAX_ECHOES e)) (nomark _)) (u_and1 (u_cmpT o_gt (uv 1) (uv 5) (nomark _))))) (pss_one ps_never) pss_nil)))), ?_⟩
    have lw : ws.length = es.length := paired_len hp
    refine ⟨ws, Evl.ex_t hg hs, ?_⟩
    refine ⟨fun i σ H' => ∃ (y3 y4 : Option V), Ex H H' ∧ σ = [some (.int L), some (.int n), some (.ref a), y3, y4, none, none, none], ?_, ?_, ?_, ?_⟩
    · exact ⟨none, none, ex_refl H, rfl⟩
    · rintro i σ H' _ ⟨y3, y4, x2, _⟩
      exact Evl.ex_t (ex_trans hg x2) hs
    · rintro i x σ H2 H' hi ⟨y3, y4, x2, rfl⟩ ⟨T, k, v, rfl, hT, rfl, hk, hv⟩
      obtain rfl := Option.some.inj hk
      have x3 : Ex H2 (upd H2 T (.tup [.int (i : Nat), v])) := Evl.Ex.new hT
      refine ⟨_, SqT.of upd_same, rfl, ?_⟩
      obtain ⟨ec, e1, e2⟩ := paired_at hp hv
      have hi' : i < ws.length := hi
      refine bite_d (fun hc => absurd hc (by omega)) (fun hc => ?_)
      refine ⟨G, L, v, ec, rfl, ex_trans hg (ex_trans x2 x3), e2, ok ec (List.mem_of_getElem? e1), ?_⟩
      exact ⟨_, _, ex_trans x2 x3, rfl⟩
    · rintro σ H2 ⟨y3, y4, x2, rfl⟩
      have hg2 := ex_trans hg x2
      refine ⟨false, ws, Evl.ex_t hg2 hs, ?_⟩
      refine lc_pure hg2 (fun i _ acc => acc = ((es.take i).map (·.1)).map V.int) ?_ rfl ?_ ?_ ?_ ?_
      · show ws.length ≤ sizeLine
        exact Nat.le_trans (by omega : ws.length ≤ 2) (szr (by decide +kernel))
      · rintro i _ acc rfl
        rw [List.length_map, List.length_map, List.length_take]
        exact Nat.min_le_left _ _
      · intro G3 H3 g3
        exact Evl.ex_t (ex_trans g3.gg g3.gh) hs
      · rintro i x G3 H3 H4 acc hi g3 rfl ⟨rfl, hx⟩ R R0 r1 r2
        obtain ⟨ec, e1, b, rfl, hb, ht⟩ := paired_at hp hx
        refine ⟨_, Evl.ex_t (ex_trans g3.gg g3.gh) hb, rfl, ?_⟩
        refine ⟨rfl, ?_⟩
        refine r1 _ G3 _ (Gr.refl g3.gh) ?_
        rw [List.take_add_one, e1]
        simp
      · rintro D G3 H3 acc g3 hD _ h3 rfl
        have tk : es.take ws.length = es := by rw [lw, List.take_length]
        rw [tk] at h3
        refine ⟨_, SqL.of h3, ?_⟩
        have x3 : Ex H H3 := ex_trans x2 g3.hh
        refine ⟨_, Or.inr (Evl.ex_t (ex_trans hg x3) hs), ?_⟩
        rw [lw]
        refine bite_d (fun hc => ?_) (fun hc => ?_)
        · have h2 : es.length = 2 := by omega
          refine bite_d (fun hc2 => ?_) (fun hc2 => ?_)
          · have h4 : reachOf es < n := hc2
            have h5 := hsum h2
            omega
          · exact q H3 x3
        · exact q H3 x3
end
end k36

namespace k36
open PySem PySem.Spec PyProof.Rows L2 Ech
open He (ga ma)
open He5 (wf)
/-! ### Song.__init__ -/
theorem sc_Song_init : FnScope ["self", "letters", "length", "echoes"] ["self", "letters", "length", "echoes"] (defScope s_Song_init) := ⟨rfl, rfl, rfl, by decide +kernel, rfl, by decide +kernel, by decide +kernel⟩
section
variable {P : Program} {w : World} {K : PySem.W.Frag} {mg : PySem.Str → Option Value} {base : Heap}
theorem F_Song_init (e : Ev K mg) : FunD K "__init__" "Song.__init__" (defArgs s_Song_init) (defBody s_Song_init) (defScope s_Song_init) [] [] (ma K (ga K "Song") "__init__") (fdA K (ma K (ga K "Song") "__init__")) := e.fun_ 39 (d := d_Song_init)
theorem bs_Song_init (kV doc pm : Value) (an : Option Addr) (cdv ct : Value) (us rest : List Value) (h : us.length = (["self", "letters", "length"] : List PySem.Str).length) : bindArgs (PySem.W.fnOf "__init__" "Song.__init__" (defArgs s_Song_init) (defBody s_Song_init) (defScope s_Song_init) .none kV doc pm an cdv ct) ⟨us ++ rest, []⟩ = (newTuple rest >>= fun t => pure ((["self", "letters", "length"] : List PySem.Str).zip us ++ [(("echoes" : PySem.Str), t)])) := match us, h, rest with | [_, _, _], _, [] => rfl | [_, _, _], _, _ :: _ => rfl
def sp_Song_init (K : PySem.W.Frag) : Sp := fun vs H Q _ => ∃ (G : Hp) (x dx : Addr) (L n : Int) (a : Addr) (ws : List V) (es : List Ec), vs = [.ref x, .int L, .int n, .ref a] ∧ Ex G H ∧ G x = none ∧ H x = some (.ins (ga K "Song") dx []) ∧ SqT K G a ws ∧ Paired (EchoAt K G) ws es ∧ 1 ≤ L ∧ L ≤ 5 ∧ 1 ≤ n ∧ n ≤ 10 ^ 30 ∧ (∀ e ∈ es, EchoOk L e) ∧ es.length ≤ 2 ∧ (es.length = 2 → n ≤ reachOf es) ∧
  ∀ H', GrM x G H G H' → H' x = some (.ins (ga K "Song") dx [("alphabet", .int L), ("size", .int n), ("voices", .ref a)]) → Q .non H'
theorem isIntV_of4 {i lo hi : Int} (h1 : lo ≤ i) (h2 : i ≤ hi) : isIntV (.int i) (.int lo) (.int hi) = true := by
  show (decide (lo ≤ i) && decide (i ≤ hi)) = true
  rw [decide_eq_true h1, decide_eq_true h2]
  rfl
theorem ok_Song_init (e : Ev K mg) : FnR P w K mg base CX0 9 (ma K (ga K "Song") "__init__") (starSp 3 (sp_Song_init K)) := by
  refine star_ok (ps := ["self", "letters", "length"]) (F_Song_init e) sc_Song_init bs_Song_init (fun cdv A outer s H vs Q E hr h => ?_)
  obtain ⟨G, x, dx, L, n, a, ws, es, rfl, hg, gx, hx, hs, hp, l1, l2, n1, n2, ok, e2, hsum, q⟩ := h
  refine ⟨_, PSs.nox (pss_cons (ps_expr (u_call (ok_need_letters e) (hr.mono (by decide)) (by rfl) (gl_need_letters e) (kp_need_letters e) (bn_need_letters_1 e) pass0 (pa_cons (uv 1) pa_nil)))
          (pss_cons (u_if (pt_not (k_tru (K := K) rfl (u_call (ok_is_integer e) (hr.mono (by decide)) (by rfl) (gl_is_integer e) (kp_is_integer e) (bn_is_integer_3 e) pass0 (pa_cons (uv 2) (pa_cons pe_int (pa_cons (u_gint (by rfl) (con_GREATEST e)) pa_nil)))))) (pss_one ps_never) pss_nil)
          (pss_cons (ps_expr (u_call (ok_need_echoes e) (hr.mono (by decide)) (by rfl) (gl_need_echoes e) (kp_need_echoes e) (bn_need_echoes_3 e) pass0 (pa_cons (uv 1) (pa_cons (uv 2) (pa_cons (uv 3) pa_nil)))))
          (pss_cons (u_setFld (cl_Song e) (na_Song_alphabet e) (uv 0) (uv 1))
          (pss_cons (u_setFld (cl_Song e) (na_Song_size e) (uv 0) (uv 2))
          (pss_one (u_setFld (cl_Song e) (na_Song_voices e) (uv 0) (pe_callTy (T := "tuple") (k_tuple (K := K) rfl) (by rfl) (fr_tuple e) (by decide +kernel) (pa_cons (uv 3) pa_nil))))))))), ?_⟩
  refine ⟨L, rfl, l1, l2, ?_⟩
  refine ⟨_, _, _, rfl, isi_int_int, isi_int_bool, Or.inr ⟨_, rfl⟩, Or.inr ⟨_, rfl⟩, ?_⟩
  rw [isIntV_of4 n1 n2]
  refine ⟨G, L, n, a, ws, es, rfl, hg, hs, hp, ok, e2, hsum, fun H1 x1 => ?_⟩
  have g1 : GrM x G H G H1 := Gr.m ⟨x1, ex_refl G, ex_trans hg x1, fun _ _ => rfl⟩ x
  refine ⟨dx, [], x1 _ _ hx, (by decide), fun H2 c2 => ?_⟩
  have g2 : GrM x G H G H2 := g1.trans (c2.grm g1.gh gx)
  have h2 := c2.at
  rw [put_alpha] at h2
  refine ⟨dx, _, h2, (by show 1 < 1000; decide), fun H3 c3 => ?_⟩
  have g3 : GrM x G H G H3 := g2.trans (c3.grm g2.gh gx)
  have h3 := c3.at
  rw [put_size] at h3
  refine ⟨_, Or.inr ⟨Evl.ex_t g3.gh hs, ?_⟩⟩
  refine ⟨dx, _, h3, (by show 2 < 1000; decide), fun H4 c4 => ?_⟩
  have g4 : GrM x G H G H4 := g3.trans (c4.grm g3.gh gx)
  have h4 := c4.at
  rw [put_voices] at h4
  exact q H4 g4 h4
end
end k36

namespace k36
open PySem PySem.Spec PyProof.Rows L2 Ech
open He (ga ma)
open He5 (wf)
/-! ### is_list -/
theorem sc_is_list : FnScope ["value"] ["value"] (defScope s_is_list) := ⟨rfl, rfl, rfl, by decide +kernel, rfl, by decide +kernel, by decide +kernel⟩
section
variable {P : Program} {w : World} {K : PySem.W.Frag} {mg : PySem.Str → Option Value} {base : Heap}
theorem F_is_list (e : Ev K mg) : FunD K "is_list" "is_list" (defArgs s_is_list) (defBody s_is_list) (defScope s_is_list) [] [] (ga K "is_list") (fdA K (ga K "is_list")) := e.fun_ 1 (d := d_is_list)
theorem kp_is_list (e : Ev K mg) : PySem.W.keepIn K (.ref (ga K "is_list")) = true := (F_is_list e).kp
theorem b_is_list (e : Ev K mg) : Binds K (fdA K (ga K "is_list")) ["value"] [] := (F_is_list e).bindsN fun _ _ _ _ _ _ us hl => match us, hl with | [_], _ => rfl
theorem bn_is_list_1 (e : Ev K mg) : Bnd K (ga K "is_list") ["value"] [] := ⟨[], .nil, b_is_list e⟩
def sp_is_list (K : PySem.W.Frag) : Sp := fun vs H Q _ => ∃ (a : Addr) (f : Bool) (xs : List V), vs = [.ref a] ∧ Sq f K H a xs ∧ ∀ H', Ex H H' → Q (.bl true) H'
theorem ok_is_list (e : Ev K mg) : FnOk P w K mg base CX0 1 (ga K "is_list") (fdA K (ga K "is_list")) ["value"] (sp_is_list K) := by
  refine (F_is_list e).ok sc_is_list (fun vs H Q E h => ?_) (fun cdv A outer s H vs Q E hr h => ?_)
  · obtain ⟨a, f, xs, rfl, _⟩ := h
    rfl
  · obtain ⟨a, f, xs, rfl, hs, q⟩ := h
    refine ⟨_, PSs.nox (pss_one (ps_ret (pe_callB (id := "isinstance") (k_isi (K := K) rfl) (by rfl) (fr_isinstance e) (by decide +kernel) (pa_cons (uv 0) (pa_cons (u_tup (pa_cons (u_ty (n := "list") (by rfl) (fr_list e) (by decide +kernel)) (pa_cons (u_ty (n := "tuple") (by rfl) (fr_tuple e) (by decide +kernel)) pa_nil))) pa_nil))))), ?_⟩
    refine ⟨szr (n := 2) (by decide +kernel), fun tp H1 nw => ?_⟩
    refine isi_seq (Sq.up nw.ex hs) nw.at ?_
    exact q H1 nw.ex
end
end k36

namespace k36
open PySem PySem.Spec PyProof.Rows L2 Ech
open He (ga ma)
open He5 (wf)
/-! ### is_price -/
theorem sc_is_price : FnScope ["value"] ["value"] (defScope s_is_price) := ⟨rfl, rfl, rfl, by decide +kernel, rfl, by decide +kernel, by decide +kernel⟩
section
variable {P : Program} {w : World} {K : PySem.W.Frag} {mg : PySem.Str → Option Value} {base : Heap}
theorem F_is_price (e : Ev K mg) : FunD K "is_price" "is_price" (defArgs s_is_price) (defBody s_is_price) (defScope s_is_price) [] [] (ga K "is_price") (fdA K (ga K "is_price")) := e.fun_ 2 (d := d_is_price)
theorem kp_is_price (e : Ev K mg) : PySem.W.keepIn K (.ref (ga K "is_price")) = true := (F_is_price e).kp
theorem b_is_price (e : Ev K mg) : Binds K (fdA K (ga K "is_price")) ["value"] [] := (F_is_price e).bindsN fun _ _ _ _ _ _ us hl => match us, hl with | [_], _ => rfl
theorem bn_is_price_1 (e : Ev K mg) : Bnd K (ga K "is_price") ["value"] [] := ⟨[], .nil, b_is_price e⟩
def sp_is_price (K : PySem.W.Frag) : Sp := fun vs H Q _ => ∃ (v : V) (f : Bool) (d : PyData), vs = [v] ∧ Dq K H f v d ∧ Q (.bl (isPriceD d)) H
theorem price_V {K : PySem.W.Frag} {H : Hp} {f : Bool} {v : V} {d : PyData} (h : Dq K H f v d) (n : d ≠ .none) : isIntV v (.int 0) .non = isPriceD d := by
  cases h with
  | non => exact absurd rfl n
  | int i => show (decide (0 ≤ i) && true) = decide (0 ≤ i); rw [Bool.and_true]
  | _ => rfl
theorem ok_is_price (e : Ev K mg) : FnOk P w K mg base CX0 2 (ga K "is_price") (fdA K (ga K "is_price")) ["value"] (sp_is_price K) := by
  refine (F_is_price e).ok sc_is_price (fun vs H Q E h => ?_) (fun cdv A outer s H vs Q E hr h => ?_)
  · obtain ⟨v, f, d, rfl, _⟩ := h
    rfl
  · obtain ⟨v, f, d, rfl, dv, q⟩ := h
    refine ⟨_, PSs.nox (pss_one (ps_ret (u_or (u_cmp o_is (uv 0) pe_non (nomark _)) (pe_one (u_call (ok_is_integer e) (hr.mono (by decide)) (by rfl) (gl_is_integer e) (kp_is_integer e) (bn_is_integer_2 e) pass0 (pa_cons (uv 0) (pa_cons pe_int pa_nil))))))), ?_⟩
    have go : d ≠ .none → sp_is_integer K [v, .int 0, .non] H Q E0 := fun hn => by
      refine ⟨_, _, _, rfl, dv.isiV.1, dv.isiV.2, Or.inr ⟨_, rfl⟩, Or.inl rfl, ?_⟩
      rw [price_V dv hn]
      exact q
    cases dv with
    | non => exact q
    | bl b => exact go (fun z => nomatch z)
    | int i => exact go (fun z => nomatch z)
    | str x => exact go (fun z => nomatch z)
    | lst _ _ _ => exact go (fun z => nomatch z)
    | tup _ _ => exact go (fun z => nomatch z)
    | dct _ _ _ => exact go (fun z => nomatch z)
    | dtu _ _ _ => exact go (fun z => nomatch z)
    | dbo _ _ _ => exact go (fun z => nomatch z)
end
end k36

namespace k36
open PySem PySem.Spec PyProof.Rows L2 Ech
open He (ga ma)
open He5 (wf)
/-! ### are_rows -/
theorem sc_are_rows : FnScope ["value", "row", "price"] ["value"] (defScope s_are_rows) := ⟨rfl, rfl, rfl, by decide +kernel, rfl, by decide +kernel, by decide +kernel⟩
section
variable {P : Program} {w : World} {K : PySem.W.Frag} {mg : PySem.Str → Option Value} {base : Heap}
theorem F_are_rows (e : Ev K mg) : FunD K "are_rows" "are_rows" (defArgs s_are_rows) (defBody s_are_rows) (defScope s_are_rows) [] [] (ga K "are_rows") (fdA K (ga K "are_rows")) := e.fun_ 21 (d := d_are_rows)
theorem kp_are_rows (e : Ev K mg) : PySem.W.keepIn K (.ref (ga K "are_rows")) = true := (F_are_rows e).kp
theorem b_are_rows (e : Ev K mg) : Binds K (fdA K (ga K "are_rows")) ["value"] [] := (F_are_rows e).bindsN fun _ _ _ _ _ _ us hl => match us, hl with | [_], _ => rfl
theorem bn_are_rows_1 (e : Ev K mg) : Bnd K (ga K "are_rows") ["value"] [] := ⟨[], .nil, b_are_rows e⟩
def sp_are_rows (K : PySem.W.Frag) : Sp := fun vs H Q _ => ∃ (G : Hp) (v : V) (rows : List (List (Option Int))), vs = [v] ∧ Ex G H ∧ RowsAt K G v rows ∧ SqR rows ∧ 1 ≤ rows.length ∧ rows.length ≤ 5 ∧ (∀ r ∈ rows, ∀ x ∈ r, ∀ i, x = some i → 0 ≤ i) ∧ ∀ H', Ex H H' → Q (.bl true) H'
theorem all_true2 (n : Nat) : (List.replicate n true).all id = true := by
  rw [List.all_replicate]
  split <;> rfl
theorem ok_are_rows (e : Ev K mg) : FnOk P w K mg base CX0 3 (ga K "are_rows") (fdA K (ga K "are_rows")) ["value"] (sp_are_rows K) := by
  refine (F_are_rows e).ok sc_are_rows (fun vs H Q E h => ?_) (fun cdv A outer s H vs Q E hr h => ?_)
  · obtain ⟨G, v, rows, rfl, _⟩ := h
    rfl
  · obtain ⟨G, v, rows, rfl, hg, ⟨a, f, vs, rfl, hs, hp⟩, hq, h1, h5, hn, q⟩ := h
    refine ⟨_, PSs.nox (pss_cons (u_if (PW.pt (u_orT (pt_not (k_tru (K := K) rfl (u_call (ok_is_list e) (hr.mono (by decide)) (by rfl) (gl_is_list e) (kp_is_list e) (bn_is_list_1 e) pass0 (pa_cons (uv 0) pa_nil)))) (u_or1 (pt_not (u_chainT o_le o_le pe_int (pe_callB (id := "len") (k_len (K := K) rfl) (by rfl) (fr_len e) (by decide +kernel) (pa_cons (uv 0) pa_nil)) (u_gint (by rfl) (con_MAX_LETTERS e))))))) (pss_one (ps_ret pe_bl)) pss_nil)
            (pss_cons (u_for PassesOwn.never (by rfl) (k_seq (K := K) rfl (uv 0)) (pg_name (i := 1) sc_are_rows.nd (by rfl) (by first | exact Or.inl rfl | exact Or.inr rfl)) (pss_one (u_if (PW.pt (u_orT (pt_not (k_tru (K := K) rfl (u_call (ok_is_list e) (hr.mono (by decide)) (by rfl) (gl_is_list e) (kp_is_list e) (bn_is_list_1 e) pass0 (pa_cons (uv 1) pa_nil)))) (u_orT (u_cmpT (k_ne (K := K) rfl hr.units) (pe_callB (id := "len") (k_len (K := K) rfl) (by rfl) (fr_len e) (by decide +kernel) (pa_cons (uv 1) pa_nil)) (pe_callB (id := "len") (k_len (K := K) rfl) (by rfl) (fr_len e) (by decide +kernel) (pa_cons (uv 0) pa_nil)) (nomark _)) (u_or1 (pt_not (k_tru (K := K) rfl (pe_callB (id := "all") (k_all (K := K) rfl (by rfl)) (by rfl) (fr_all e) (by decide +kernel) (pa_cons (u_lc (own := [("price", 2)]) (by rfl) sc_are_rows.nd (k_seq (K := K) rfl (uv 1)) (blkOk_by (by kernel_rfl)) (fun _ _ _ _ _ => (pg_name (i := 2) sc_are_rows.nd (by rfl) (by first | exact Or.inl rfl | exact Or.inr rfl))) (fun _ _ _ _ _ => pts_nil) (fun _ _ _ _ _ => (u_call (ok_is_price e) (hr.mono (by decide)) (by rfl) (gl_is_price e) (kp_is_price e) (bn_is_price_1 e) pass0 (pa_cons (uv 2) pa_nil)))) pa_nil)))))))) (pss_one (ps_ret pe_bl)) pss_nil)))
            (pss_one (ps_ret pe_bl)))), ?_⟩
    have lv : vs.length = rows.length := paired_len hp
    refine ⟨a, f, vs, rfl, Sq.up hg hs, fun H1 x1 => ?_⟩
    have hg1 : Ex G H1 := fun a o e => x1 a o (hg a o e)
    refine ⟨_, (Sq.up hg1 hs).or, ?_⟩
    rw [lv]
    refine bite_d (fun hc => ?_) (fun hc => absurd (by omega) hc)
    refine bite_nd (fun hc => absurd (by omega) hc) (fun hc => ?_)
    refine ⟨f, vs, Sq.up hg1 hs, ?_⟩
    refine ⟨fun i σ H' => ∃ (y z : Option V), Ex H H' ∧ σ = [some (.ref a), y, z], ?_, ?_, ?_, ?_⟩
    · exact ⟨none, none, x1, rfl⟩
    · rintro i σ H' _ ⟨y, z, x2, _⟩
      exact Sq.up (fun a o e => x2 a o (hg a o e)) hs
    · rintro i x σ H2 H' hi ⟨y, z, x2, rfl⟩ ⟨rfl, hx⟩
      have hg2 : Ex G H' := fun a o e => x2 a o (hg a o e)
      obtain ⟨r, e1, b, g, rfl, sb⟩ := paired_at hp hx
      have mr : r ∈ rows := List.mem_of_getElem? e1
      refine ⟨b, g, _, rfl, Sq.up hg2 sb, fun H3 x3 => ?_⟩
      have x3' : Ex H H3 := fun a o e => x3 a o (x2 a o e)
      have hg3 : Ex G H3 := fun a o e => x3' a o (hg a o e)
      refine ⟨_, (Sq.up hg3 sb).or, ?_⟩
      refine ⟨_, (Sq.up hg3 hs).or, ?_⟩
      have lr : (List.map pV r).length = rows.length := by rw [List.length_map]; exact hq r mr
      rw [lr, lv]
      refine bite_nd (fun hc => absurd rfl hc) (fun hc => ?_)
      refine ⟨g, _, Sq.up hg3 sb, ?_⟩
      refine lc_pure hg3 (fun j _ acc => acc = (List.replicate j true).map V.bl) ?_ rfl ?_ ?_ ?_ ?_
      · show (List.map pV r).length ≤ sizeLine
        rw [lr]
        exact Nat.le_trans h5 (szr (by decide +kernel))
      · rintro i _ acc rfl
        rw [List.length_map, List.length_replicate]
        exact Nat.le_refl _
      · intro G4 H4 g4
        exact Sq.up (fun a o e => g4.gh a o (g4.gg a o e)) sb
      · rintro j x G4 H4 H5 acc hj g4 rfl ⟨rfl, hx⟩ R R0 r1 r2
        rw [List.getElem?_map] at hx
        cases ez : r[j]? with
        | none => rw [ez] at hx; cases hx
        | some pr =>
          rw [ez] at hx
          obtain rfl := Option.some.inj hx
          refine ⟨rfl, ?_⟩
          have ep : isPriceD (pD pr) = true := by
            cases pr with
            | none => rfl
            | some i => exact decide_eq_true (hn r mr (some i) (List.mem_of_getElem? ez) i rfl)
          refine ⟨pV pr, false, pD pr, rfl, Dq.ofDp (dp_pV pr), ?_⟩
          rw [ep]
          refine r1 _ G4 _ (Gr.refl g4.gh) ?_
          rw [List.replicate_succ']
          simp
      · rintro D G4 H4 acc g4 hD _ h3 rfl
        refine ⟨_, SqL.of h3, ?_⟩
        rw [all_true2]
        exact ⟨_, _, fun a o e => g4.hh a o (x3' a o e), rfl⟩
    · rintro σ H2 ⟨y, z, x2, rfl⟩
      exact q H2 x2
end
end k36

namespace k36
open PySem PySem.Spec PyProof.Rows L2 Ech
open He (ga ma)
open He5 (wf)
/-! ### Table.__init__ -/
theorem sc_Table_init : FnScope ["self", "rows", "row"] ["self", "rows"] (defScope s_Table_init) := ⟨rfl, rfl, rfl, by decide +kernel, rfl, by decide +kernel, by decide +kernel⟩
section
variable {P : Program} {w : World} {K : PySem.W.Frag} {mg : PySem.Str → Option Value} {base : Heap}
theorem F_Table_init (e : Ev K mg) : FunD K "__init__" "Table.__init__" (defArgs s_Table_init) (defBody s_Table_init) (defScope s_Table_init) [] [] (ma K (ga K "Table") "__init__") (fdA K (ma K (ga K "Table") "__init__")) := e.fun_ 25 (d := d_Table_init)
theorem b_Table_init (e : Ev K mg) : Binds K (fdA K (ma K (ga K "Table") "__init__")) ["self", "rows"] [] := (F_Table_init e).bindsN fun _ _ _ _ _ _ us hl => match us, hl with | [_, _], _ => rfl
def sp_Table_init (K : PySem.W.Frag) : Sp := fun vs H Q _ => ∃ (G : Hp) (x dx : Addr) (v : V) (rows : List (List (Option Int))), vs = [.ref x, v] ∧ Ex G H ∧ G x = none ∧ H x = some (.ins (ga K "Table") dx []) ∧ RowsAt K G v rows ∧ SqR rows ∧ 1 ≤ rows.length ∧ rows.length ≤ 5 ∧ (∀ r ∈ rows, ∀ x ∈ r, ∀ i, x = some i → 0 ≤ i) ∧
  ∀ ent G' H', GrM x G H G' H' → H' x = some (.ins (ga K "Table") dx [("entries", ent)]) → Dp K G' ent (tabD rows) → Q .non H'
theorem ok_Table_init (e : Ev K mg) : FnOk P w K mg base CX0 4 (ma K (ga K "Table") "__init__") (fdA K (ma K (ga K "Table") "__init__")) ["self", "rows"] (sp_Table_init K) := by
  refine (F_Table_init e).ok sc_Table_init (fun vs H Q E h => ?_) (fun cdv A outer s H vs Q E hr h => ?_)
  · obtain ⟨G, x, dx, v, rows, rfl, _⟩ := h
    rfl
  · obtain ⟨G, x, dx, v, rows, rfl, hg, gx, hx, hR, hq, h1, h5, hn, q⟩ := h
    refine ⟨_, PSs.nox (pss_cons (u_if (pt_not (k_tru (K := K) rfl (u_call (ok_are_rows e) (hr.mono (by decide)) (by rfl) (gl_are_rows e) (kp_are_rows e) (bn_are_rows_1 e) pass0 (pa_cons (uv 1) pa_nil)))) (pss_one ps_never) pss_nil)
            (pss_one (u_setFld (cl_Table e) (na_Table_entries e) (uv 0) (pe_callTy (T := "tuple") (k_tuple (K := K) rfl) (by rfl) (fr_tuple e) (by decide +kernel) (pa_cons (u_lc (own := [("row", 2)]) (by rfl) sc_Table_init.nd (k_seq (K := K) rfl (uv 1)) (blkOk_by (by kernel_rfl)) (fun _ _ _ _ _ => (pg_name (i := 2) sc_Table_init.nd (by rfl) (by first | exact Or.inl rfl | exact Or.inr rfl))) (fun _ _ _ _ _ => pts_nil) (fun _ _ _ _ _ => (pe_callTy (T := "tuple") (k_tuple (K := K) rfl) (by rfl) (fr_tuple e) (by decide +kernel) (pa_cons (uv 2) pa_nil)))) pa_nil))))), ?_⟩
    obtain ⟨a, f, vs, rfl, hs, hp⟩ := id hR
    refine ⟨G, _, rows, rfl, hg, hR, hq, h1, h5, hn, fun H1 x1 => ?_⟩
    have g1 : Gr G H G H1 := ⟨x1, fun _ _ e => e, fun a o e => x1 a o (hg a o e), fun _ _ => rfl⟩
    have lv : vs.length = rows.length := paired_len hp
    refine ⟨f, vs, Sq.up g1.gh hs, ?_⟩
    refine lc_pure g1.gh (fun i G acc => DpAll K G acc ((rows.take i).map rowD)) ?_ ?_ ?_ ?_ ?_ ?_
    · show vs.length ≤ sizeLine
      rw [lv]
      exact Nat.le_trans h5 (szr (by decide +kernel))
    · exact .nil
    · intro i G2 acc hd
      rw [dpAll_len hd, List.length_map, List.length_take]
      exact Nat.min_le_left _ _
    · intro G2 H2 g2
      exact Sq.up (fun a o e => g2.gh a o (g2.gg a o e)) hs
    · rintro i w G2 H2 H3 acc hi g2 hd ⟨rfl, hw⟩ R R0 r1 r2
      obtain ⟨r, e1, b, g, rfl, sb⟩ := paired_at hp hw
      have tk : (rows.take (i + 1)).map rowD = (rows.take i).map rowD ++ [rowD r] := by
        rw [List.take_add_one, e1, List.map_append]
        rfl
      refine ⟨rfl, ?_⟩
      have sb2 := Sq.up g2.gg sb
      cases g with
      | true =>
        refine ⟨_, Or.inl ⟨Evl.ex_l g2.gh sb2, fun l H4 nw => ?_⟩⟩
        have g4 := nw.gr g2.gh
        refine r1 _ _ _ g4 ?_
        rw [tk]
        exact dpAll_snoc (dpAll_up g4.gg hd) (.tup (SqT.of upd_same) (dpAll_pV r))
      | false =>
        refine ⟨_, Or.inr ⟨Evl.ex_t g2.gh sb2, ?_⟩⟩
        refine r1 _ _ _ (Gr.refl g2.gh) ?_
        rw [tk]
        exact dpAll_snoc hd (.tup sb2 (dpAll_pV r))
    · intro D G2 H2 acc g2 hD hG h3 hd
      refine ⟨_, Or.inl ⟨SqL.of h3, fun l H4 nw => ?_⟩⟩
      have g4 := nw.gr g2.gh
      have gs : Gr G H _ H4 := g1.trans (g2.trans g4)
      refine ⟨dx, [], gs.hh _ _ hx, (by decide), fun H5 ch => ?_⟩
      have lr : (rows.take vs.length).map rowD = rows.map rowD := by rw [lv, List.take_length]
      rw [lr] at hd
      have gx4 := gs.free (some_ne hx) gx
      refine q _ _ H5 ((gs.m x).trans (ch.grm gs.gh gx4)) (by rw [ch.at]; rfl) (.tup (SqT.of upd_same) (dpAll_up g4.gg hd))
end
end k36

namespace k36
open PySem PySem.Spec PyProof.Rows L2 Ech
open He (ga ma)
open He5 (wf)
/-! ### _law_made -/
theorem sc__law_made : FnScope ["_law_score", "_law_echoes", "_law_delay", "_law_rows_here"] ["_law_score"] (defScope s__law_made) := ⟨rfl, rfl, rfl, by decide +kernel, rfl, by decide +kernel, by decide +kernel⟩
section
variable {P : Program} {w : World} {K : PySem.W.Frag} {mg : PySem.Str → Option Value} {base : Heap}
theorem F__law_made (e : Ev K mg) : FunD K "_law_made" "_law_made" (defArgs s__law_made) (defBody s__law_made) (defScope s__law_made) [] [] (ga K "_law_made") (fdA K (ga K "_law_made")) := e.fun_ 74 (d := d__law_made)
theorem kp__law_made (e : Ev K mg) : PySem.W.keepIn K (.ref (ga K "_law_made")) = true := (F__law_made e).kp
theorem b__law_made (e : Ev K mg) : Binds K (fdA K (ga K "_law_made")) ["_law_score"] [] := (F__law_made e).bindsN fun _ _ _ _ _ _ us hl => match us, hl with | [_], _ => rfl
theorem bn__law_made_1 (e : Ev K mg) : Bnd K (ga K "_law_made") ["_law_score"] [] := ⟨[], .nil, b__law_made e⟩
def sp__law_made (K : PySem.W.Frag) : Sp := fun vs H Q _ => ∃ (G : Hp) (v : V) (L n : Int) (es : List Lot), vs = [v] ∧ Ex G H ∧ ScoreAt K G v L n es ∧ ScoreOk L n es ∧
  ∀ a (ec : List Ec) G' H', ec.map (fun e => (e.1, e.2.2)) = es → SongAt K G' a L n ec → Gr G H G' H' → Q (.ref a) H'
theorem paired_snoc2 {α β : Type} {R : α → β → Prop} : ∀ {as : List α} {bs : List β} {a : α} {b : β}, Paired R as bs → R a b → Paired R (as ++ [a]) (bs ++ [b])
  | _, _, _, _, .nil, h => .cons h .nil
  | _, _, _, _, .cons x t, h => .cons x (paired_snoc2 t h)
theorem ok__law_made (e : Ev K mg) : FnG P w K mg base CX0 11 (ga K "_law_made") (fdA K (ga K "_law_made")) ["_law_score"] (sp__law_made K) := by
  refine FnG.body (F__law_made e) sc__law_made (fun vs H Q E h => ?_) (fun cdv A outer s H vs Q E hr hq h => ?_)
  · obtain ⟨G, v, L, n, es, rfl, _⟩ := h
    rfl
  · obtain ⟨G, v, L, n, es, rfl, hg, ⟨a, kvs, le, ws, rfl, s1, s2, s3, s4, s5, s6⟩, ok, q⟩ := h
    refine ⟨_, PSs.nox (pss_cons (u_setLc (i := 1) (own := [("_law_delay", 2), ("_law_rows_here", 3)]) (by rfl) sc__law_made.nd (by rfl) (by rfl) (sw_true rfl rfl rfl (by kernel_rfl)) (k_seq (K := K) rfl (u_dget (hu_of hr) (uv 0) pe_str)) (blkOk_by (by kernel_rfl)) (fun _ _ _ _ _ => (u_pgtup (K := K) rfl rfl (PGL.cons (pg_name (i := 2) sc__law_made.nd (by rfl) (by first | exact Or.inl rfl | exact Or.inr rfl)) (PGL.cons (pg_name (i := 3) sc__law_made.nd (by rfl) (by first | exact Or.inl rfl | exact Or.inr rfl)) PGL.nil (by rfl)) (by rfl)))) (fun _ _ _ _ _ => pts_nil) (fun _ _ _ _ _ => (u_tup (pa_cons (uv 2) (pa_cons (u_make (mk_Table e) (ok_Table_init e) (hr.mono (by decide)) (by rfl) (gl_Table e) (b_Table_init e) .nil pass0 (pa_cons (uv 3) pa_nil)) pa_nil)))))
            (pss_cons (u_if (u_cmpT (k_eq (K := K) rfl hr.units) (uv 1) (u_lst pa_nil) (nomark _)) (pss_one (ps_ret (u_makeR (mk_Song e) (ok_Song_init e) (hr.mono (by decide)) (by rfl) (gl_Song e) pass0 (pa_cons (u_dget (hu_of hr) (uv 0) pe_str) (pa_cons (u_dget (hu_of hr) (uv 0) pe_str) pa_nil))))) pss_nil)
            (pss_cons (u_if (u_cmpT (k_eq (K := K) rfl hr.units) (pe_callB (id := "len") (k_len (K := K) rfl) (by rfl) (fr_len e) (by decide +kernel) (pa_cons (uv 1) pa_nil)) pe_int (nomark _)) (pss_one (ps_ret (u_makeR (mk_Song e) (ok_Song_init e) (hr.mono (by decide)) (by rfl) (gl_Song e) pass0 (pa_cons (u_dget (hu_of hr) (uv 0) pe_str) (pa_cons (u_dget (hu_of hr) (uv 0) pe_str) (pa_cons (pe_ix (ix_k (K := K) rfl) (uv 1) pe_int (fun _ _ => rfl)) pa_nil)))))) pss_nil)
            (pss_one (ps_ret (u_makeR (mk_Song e) (ok_Song_init e) (hr.mono (by decide)) (by rfl) (gl_Song e) pass0 (pa_cons (u_dget (hu_of hr) (uv 0) pe_str) (pa_cons (u_dget (hu_of hr) (uv 0) pe_str) (pa_cons (pe_ix (ix_k (K := K) rfl) (uv 1) pe_int (fun _ _ => rfl)) (pa_cons (pe_ix (ix_k (K := K) rfl) (uv 1) pe_int (fun _ _ => rfl)) pa_nil)))))))))), ?_⟩
    have lw : ws.length = es.length := paired_len s6
    refine ⟨_, dget_of (hg _ _ s1) s4, ?_⟩
    refine ⟨true, _, Evl.ex_l hg s5, ?_⟩
    refine lc_pure hg (fun i G acc => ∃ ec : List Ec, Paired (EchoAt K G) acc ec ∧ ec.map (fun e => (e.1, e.2.2)) = es.take i) ?_ ⟨[], .nil, rfl⟩ ?_ ?_ ?_ ?_
    · show ws.length ≤ sizeLine
      rw [lw]
      exact Nat.le_trans ok.few (szr (by decide +kernel))
    · rintro i _ acc ⟨ec, h1, h2⟩
      have h3 := congrArg List.length h2
      rw [List.length_map, List.length_take] at h3
      rw [paired_len h1]
      omega
    · intro G4 H4 g4
      exact Evl.ex_l (ex_trans g4.gg g4.gh) s5
    · rintro i x G4 H4 H5 acc hi g4 ⟨ec, h1, h2⟩ ⟨rfl, hx⟩ R R0 r1 r2
      obtain ⟨lot, e1, b, r, rfl, tb, rb⟩ := paired_at s6 hx
      have eo := ok.each lot (List.mem_of_getElem? e1)
      refine ⟨_, Evl.ex_t (ex_trans g4.gg g4.gh) tb, rfl, ?_⟩
      refine ⟨rfl, ?_⟩
      refine fun y dy H6 md => ⟨G4, y, dy, r, lot.2, rfl, ex_trans g4.gh md.ex, ex_none g4.gh md.nx, md.at, rb.up g4.gg, eo.2.2.2.1, by have := eo.2.2.1; have := ok.l1; omega, by have := eo.2.2.1; have := ok.l5; omega, eo.2.2.2.2, fun ent G7 H7 g7 hx7 d7 => ⟨rfl, ?_⟩⟩
      have g8 := made_gr md g4.gh g7 hx7
      have t8 : TabAt K (upd G7 y (.ins (ga K "Table") dy [("entries", ent)])) y lot.2 := ⟨dy, ent, upd_same, dp_up (Evl.Ex.new ((g7.fix y (some_ne md.at)).trans (ex_none g4.gh md.nx))) d7⟩
      refine ⟨szr (n := 2) (by decide +kernel), fun tt H9 nw9 => ?_⟩
      have g9 := nw9.gr g8.gh
      refine r1 _ _ H9 (g8.trans g9) ⟨ec ++ [(lot.1, y, lot.2)], paired_snoc2 (echoes_up (ex_trans g8.gg g9.gg) h1) ⟨tt, rfl, SqT.of upd_same, t8.up g9.gg⟩, ?_⟩
      rw [List.map_append, h2, List.take_add_one, e1]
      rfl
    · rintro D G4 H4 acc g4 hD hGD h4 ⟨ec, e1, e2⟩
      rw [show (ws.length) = es.length from lw, List.take_length] at e2
      have le : ec.length = es.length := by
        have h3 := congrArg List.length e2
        rwa [List.length_map] at h3
      have la : acc.length = ec.length := paired_len e1
      have x4 : Ex G H4 := ex_trans g4.gg g4.gh
      have dL : ∀ H5, Ex H4 H5 → DGet H5 a (.str "letters") (some (.int L)) := fun H5 x5 => dget_of (x5 _ _ (x4 _ _ s1)) s2
      have dN : ∀ H5, Ex H4 H5 → DGet H5 a (.str "length") (some (.int n)) := fun H5 x5 => dget_of (x5 _ _ (x4 _ _ s1)) s3
      have eok : ∀ e ∈ ec, EchoOk L e := by
        intro e he
        have hm : (e.1, e.2.2) ∈ es := by rw [← e2]; exact List.mem_map_of_mem (f := fun e : Ec => (e.1, e.2.2)) he
        have h5 := ok.each _ hm
        exact ⟨h5.1, h5.2.1, h5.2.2.1⟩
      have esum : reachOf ec = lotSum es := by
        rw [← e2]
        unfold reachOf lotSum
        rw [List.map_map]
        rfl
      have fin : ∀ H6, Ex H4 H6 → ∀ x dx H7, Made H6 x dx (ga K "Song") H7 → ∀ E, starSp 3 (sp_Song_init K) (.ref x :: .int L :: .int n :: acc) H7 (fun v H8 => v = .non ∧ Q (.ref x) H8) E := by
        intro H6 x6 x dx H7 md E
        have g46 : Gr G4 H4 G4 H6 := ⟨x6, ex_refl _, ex_trans g4.gh x6, fun _ _ => rfl⟩
        refine ⟨[.ref x, .int L, .int n], acc, rfl, rfl, Nat.le_trans (by rw [la, le]; exact ok.few) (szr (n := 2) (by decide +kernel)), fun pp H8 nw8 => ?_⟩
        have g8 := nw8.gr (ex_trans g46.gh md.ex)
        have px : pp ≠ x := fun z => by have := nw8.fresh; rw [z, md.at] at this; cases this
        have xG4 : G4 x = none := ex_none g46.gh md.nx
        refine ⟨upd G4 pp (.tup acc), x, dx, L, n, pp, acc, ec, rfl, g8.gh, (by rw [upd_ne px.symm]; exact xG4), nw8.ex _ _ md.at, SqT.of upd_same, echoes_up g8.gg e1, ok.l1, ok.l5, ok.n1, ok.n30, eok, by rw [le]; exact ok.few, fun h => by rw [esum]; exact ok.sum (by omega), fun H9 g9 hx9 => ⟨rfl, ?_⟩⟩
        have g10 := made_gr md g46.gh ((g8.m x).trans g9) hx9
        have xG5 : upd G4 pp (.tup acc) x = none := by rw [upd_ne px.symm]; exact xG4
        refine q x ec _ H9 e2 ⟨dx, pp, acc, upd_same, ?_, ?_⟩ (g4.trans (g46.trans g10))
        · exact Evl.ex_t (Evl.Ex.new xG5) (SqT.of upd_same)
        · exact echoes_up (ex_trans g8.gg (Evl.Ex.new xG5)) e1
      have l2 : acc.length ≤ 2 := by rw [la, le]; exact ok.few
      refine ⟨szr (n := 0) (by decide +kernel), fun z H5 nw5 => ?_⟩
      have x5 : Ex H4 H5 := nw5.ex
      have sL : SqL K H5 D acc := SqL.of (nw5.ex _ _ h4)
      rcases acc with _ | ⟨a1, _ | ⟨a2, _ | ⟨a3, t⟩⟩⟩
      · refine eq_nil sL (SqL.of nw5.at) ?_
        refine ⟨_, dL H5 x5, ?_⟩
        refine ⟨_, dN H5 x5, ?_⟩
        exact fun x dx H7 md => fin H5 x5 x dx H7 md _
      · refine eq_nil sL (SqL.of nw5.at) ?_
        refine ⟨_, Or.inl sL, ?_⟩
        refine ⟨_, dL H5 x5, ?_⟩
        refine ⟨_, dN H5 x5, ?_⟩
        refine ⟨_, _, Or.inl sL, rfl, ?_⟩
        exact fun x dx H7 md => fin H5 x5 x dx H7 md _
      · refine eq_nil sL (SqL.of nw5.at) ?_
        refine ⟨_, Or.inl sL, ?_⟩
        refine ⟨_, dL H5 x5, ?_⟩
        refine ⟨_, dN H5 x5, ?_⟩
        refine ⟨_, _, Or.inl sL, rfl, ?_⟩
        refine ⟨_, _, Or.inl sL, rfl, ?_⟩
        exact fun x dx H7 md => fin H5 x5 x dx H7 md _
      · simp only [List.length_cons] at l2
        omega
end
end k36

namespace k36
open PySem PySem.Spec PyProof.Rows L2 Ech
open He (ga ma)
open He5 (wf)
/-! ### _law_any_value -/
theorem sc__law_any_value : FnScope ["_law_pen_here", "_law_some"] ["_law_pen_here"] (defScope s__law_any_value) := ⟨rfl, rfl, rfl, by decide +kernel, rfl, by decide +kernel, by decide +kernel⟩
section
variable {P : Program} {w : World} {K : PySem.W.Frag} {mg : PySem.Str → Option Value} {base : Heap}
theorem F__law_any_value (e : Ev K mg) : FunD K "_law_any_value" "_law_any_value" (defArgs s__law_any_value) (defBody s__law_any_value) (defScope s__law_any_value) [] [] (ga K "_law_any_value") (fdA K (ga K "_law_any_value")) := e.fun_ 77 (d := d__law_any_value)
theorem kp__law_any_value (e : Ev K mg) : PySem.W.keepIn K (.ref (ga K "_law_any_value")) = true := (F__law_any_value e).kp
theorem b__law_any_value (e : Ev K mg) : Binds K (fdA K (ga K "_law_any_value")) ["_law_pen_here"] [] := (F__law_any_value e).bindsN fun _ _ _ _ _ _ us hl => match us, hl with | [_], _ => rfl
theorem bn__law_any_value_1 (e : Ev K mg) : Bnd K (ga K "_law_any_value") ["_law_pen_here"] [] := ⟨[], .nil, b__law_any_value e⟩
def sp__law_any_value (K : PySem.W.Frag) : Sp := fun vs H Q _ => ∃ (G : Hp) (p : Addr) (b : Nat), vs = [.ref p] ∧ Ex G H ∧ Pen K ("index" : PySem.Str) ("left" : PySem.Str) G H p b ∧ b < 2 ^ 60 ∧
  ∀ v d G' H', AnyQ K G' true 6 4000 v d → PyData.strOk d.shown = true → GrM p G H G' H' → Pen K ("index" : PySem.Str) ("left" : PySem.Str) G' H' p (b + 1) → Q v H'
theorem frz_at {G H H' : Hp} {a : Addr} {o : HO} (f : H a = none) (e : H' a = some o) : frzAll G H H' a = some o := by
  unfold frzAll
  rw [f]
  exact e
theorem disp_ex {K K1 K2 : Hp} {a : Addr} {o o' : HO} (f : K a = none) (e : K1 = upd K a o) (x : Ex K1 K2) : Ex K (upd K2 a o') := fun b u eb => by
  have ne : b ≠ a := ne_of_none eb f
  rw [upd_ne ne]
  exact x _ _ (by rw [e, upd_ne ne]; exact eb)
theorem ok__law_any_value (e : Ev K mg) : FnG P w K mg base CX0 3 (ga K "_law_any_value") (fdA K (ga K "_law_any_value")) ["_law_pen_here"] (sp__law_any_value K) := by
  refine FnG.body (F__law_any_value e) sc__law_any_value (fun vs H Q E h => ?_) (fun cdv A outer s H vs Q E hr hq h => ?_)
  · obtain ⟨G, p, b, rfl, _⟩ := h
    rfl
  · obtain ⟨G, p, b, rfl, hg, pn, hb, q⟩ := h
    refine ⟨_, PSs.nox (pss_cons (ps_set (i := 1) sc__law_any_value.nd (by rfl) (Or.inl rfl) (u_lst (pa_cons pe_non (pa_cons pe_bl (pa_cons pe_bl (pa_cons pe_int (pa_cons pe_int (pa_cons (pe_un o_neg pe_int) (pa_cons pe_int (pa_cons pe_int (pa_cons (pe_op o_pow pe_int pe_int) (pa_cons pe_str (pa_cons pe_str (pa_cons pe_str (pa_cons (u_tup pa_nil) (pa_cons (u_lstQ pa_nil) (pa_cons pe_dnewK (pa_cons (u_tup (pa_cons pe_int pa_nil)) (pa_cons (u_lstQ (pa_cons pe_int pa_nil)) (pa_cons (u_tup (pa_cons pe_int (pa_cons pe_int pa_nil))) (pa_cons (u_tup (pa_cons pe_bl pa_nil)) (pa_cons (u_tup (pa_cons pe_non pa_nil)) pa_nil))))))))))))))))))))))
            (pss_cons (ps_set (i := 1) sc__law_any_value.nd (by rfl) (Or.inl rfl) (pe_op (k_add (K := K) rfl) (uv 1) (u_lst (pa_cons (u_tup (pa_cons pe_int (pa_cons pe_int (pa_cons pe_int pa_nil)))) (pa_cons (u_lstQ (pa_cons pe_int (pa_cons pe_int pa_nil))) (pa_cons (pe_disp (pps_cons pe_int pe_int pps_nil) (by rfl) (by rfl) (fun z => by cases z) (by decide)) (pa_cons (pe_disp (pps_cons pe_int (u_tup (pa_cons pe_int (pa_cons pe_int pa_nil))) pps_nil) (by rfl) (by rfl) (fun z => by cases z) (by decide)) (pa_cons (pe_disp (pps_cons pe_str (u_tup (pa_cons pe_int pa_nil)) pps_nil) (by rfl) (by rfl) (fun z => by cases z) (by decide)) (pa_cons (u_tup (pa_cons (u_tup (pa_cons pe_int pa_nil)) pa_nil)) (pa_cons (u_lstQ (pa_cons (u_tup (pa_cons pe_int (pa_cons pe_int pa_nil))) pa_nil)) (pa_cons (u_tup (pa_cons pe_int (pa_cons (u_tup (pa_cons pe_int pa_nil)) pa_nil))) (pa_cons (pe_disp (pps_cons (pe_un o_neg pe_int) (u_tup (pa_cons pe_int pa_nil)) pps_nil) (by rfl) (by rfl) (fun z => by cases z) (by decide)) pa_nil))))))))))))
            (pss_cons (ps_set (i := 1) sc__law_any_value.nd (by rfl) (Or.inl rfl) (pe_op (k_add (K := K) rfl) (uv 1) (u_lst (pa_cons (u_tup (pa_cons pe_int (pa_cons (pe_un o_neg pe_int) pa_nil))) (pa_cons (pe_dispB (pps_cons pe_bl (u_tup (pa_cons pe_int (pa_cons pe_int pa_nil))) pps_nil) (by rfl) (by rfl) (fun z => by cases z) (by decide)) (pa_cons (pe_disp (pps_cons pe_int (u_lstQ (pa_cons pe_int (pa_cons pe_int pa_nil))) pps_nil) (by rfl) (by rfl) (fun z => by cases z) (by decide)) (pa_cons (pe_disp (pps_cons pe_int (u_tup (pa_cons pe_int (pa_cons pe_bl pa_nil))) pps_nil) (by rfl) (by rfl) (fun z => by cases z) (by decide)) (pa_cons (pe_disp (pps_cons pe_int pe_bl pps_nil) (by rfl) (by rfl) (fun z => by cases z) (by decide)) (pa_cons (pe_disp (pps_cons pe_int pe_non pps_nil) (by rfl) (by rfl) (fun z => by cases z) (by decide)) (pa_cons (u_tup (pa_cons pe_str (pa_cons pe_str pa_nil))) (pa_cons (pe_op o_pow pe_int pe_int) pa_nil)))))))))))
            (pss_one (ps_ret (u_callQ (ok__law_pick e) (hr.mono (by decide)) hq (by rfl) (gl__law_pick e) (kp__law_pick e) (bn__law_pick_2 e) pass0 (pa_cons (uv 0) (pa_cons (uv 1) pa_nil)))))))), ?_⟩
    refine ⟨⟨by decide, by decide, by decide⟩, ?_⟩
    refine ⟨szr (n := 0) (by decide +kernel), fun a1 K1 n1 => ?_⟩
    refine ⟨szr (n := 0) (by decide +kernel), fun a2 K2 n2 z2 => ?_⟩
    refine fun a3 f3 => ?_
    obtain ⟨K3, e3⟩ : ∃ K, K = upd K2 a3 (.dK []) := ⟨_, rfl⟩
    rw [← e3]
    have n3 : New K2 a3 (.dK []) K3 := ⟨f3, e3⟩
    clear e3
    refine ⟨szr (n := 1) (by decide +kernel), fun a4 K4 n4 => ?_⟩
    refine ⟨szr (n := 1) (by decide +kernel), fun a5 K5 n5 z5 => ?_⟩
    refine ⟨szr (n := 2) (by decide +kernel), fun a6 K6 n6 => ?_⟩
    refine ⟨szr (n := 1) (by decide +kernel), fun a7 K7 n7 => ?_⟩
    refine ⟨szr (n := 1) (by decide +kernel), fun a8 K8 n8 => ?_⟩
    refine ⟨szr (n := 20) (by decide +kernel), fun a9 K9 n9 => ?_⟩
    refine ⟨szr (n := 3) (by decide +kernel), fun a10 K10 n10 => ?_⟩
    refine ⟨szr (n := 2) (by decide +kernel), fun a11 K11 n11 z11 => ?_⟩
    refine fun a12 f12 => ?_
    obtain ⟨K12, e12⟩ : ∃ K, K = upd K11 a12 (.dK []) := ⟨_, rfl⟩
    rw [← e12]
    have n12 : New K11 a12 (.dK []) K12 := ⟨f12, e12⟩
    refine ⟨n12.at, [(.inl 0, .int 0)], rfl, (show 1 ≤ 15 by decide), ?_⟩
    obtain ⟨K13, e13⟩ : ∃ K, K = upd K12 a12 (.dK (mergeK [] [(.inl 0, .int 0)])) := ⟨_, rfl⟩
    rw [← e13]
    have c13 : K13 a12 = some (.dK [(.inl 0, .int 0)]) := by rw [e13]; exact upd_same
    have x13 : Ex K11 K13 := by rw [e13]; exact disp_ex f12 e12 (ex_refl _)
    clear e12 e13
    refine fun a14 f14 => ?_
    obtain ⟨K14, e14⟩ : ∃ K, K = upd K13 a14 (.dK []) := ⟨_, rfl⟩
    rw [← e14]
    have n14 : New K13 a14 (.dK []) K14 := ⟨f14, e14⟩
    refine ⟨szr (n := 2) (by decide +kernel), fun a15 K15 n15 => ?_⟩
    refine ⟨(n15.ex) _ _ n14.at, [(.inl 0, .ref a15)], rfl, (show 1 ≤ 15 by decide), ?_⟩
    obtain ⟨K16, e16⟩ : ∃ K, K = upd K15 a14 (.dK (mergeK [] [(.inl 0, .ref a15)])) := ⟨_, rfl⟩
    rw [← e16]
    have c16 : K16 a14 = some (.dK [(.inl 0, .ref a15)]) := by rw [e16]; exact upd_same
    have x16 : Ex K13 K16 := by rw [e16]; exact disp_ex f14 e14 (n15.ex)
    have c15 : K16 a15 = some (.tup [.int 0, .int 0]) := by rw [e16, upd_ne (ne_of_none n14.at n15.fresh).symm]; exact n15.at
    clear e14 e16
    refine fun a17 f17 => ?_
    obtain ⟨K17, e17⟩ : ∃ K, K = upd K16 a17 (.dK []) := ⟨_, rfl⟩
    rw [← e17]
    have n17 : New K16 a17 (.dK []) K17 := ⟨f17, e17⟩
    refine ⟨szr (n := 1) (by decide +kernel), fun a18 K18 n18 => ?_⟩
    refine ⟨(n18.ex) _ _ n17.at, [(.inr "0", .ref a18)], rfl, (show 1 ≤ 15 by decide), ?_⟩
    obtain ⟨K19, e19⟩ : ∃ K, K = upd K18 a17 (.dK (mergeK [] [(.inr "0", .ref a18)])) := ⟨_, rfl⟩
    rw [← e19]
    have c19 : K19 a17 = some (.dK [(.inr "0", .ref a18)]) := by rw [e19]; exact upd_same
    have x19 : Ex K16 K19 := by rw [e19]; exact disp_ex f17 e17 (n18.ex)
    have c18 : K19 a18 = some (.tup [.int 0]) := by rw [e19, upd_ne (ne_of_none n17.at n18.fresh).symm]; exact n18.at
    clear e17 e19
    refine ⟨szr (n := 1) (by decide +kernel), fun a20 K20 n20 => ?_⟩
    refine ⟨szr (n := 1) (by decide +kernel), fun a21 K21 n21 => ?_⟩
    refine ⟨szr (n := 2) (by decide +kernel), fun a22 K22 n22 => ?_⟩
    refine ⟨szr (n := 1) (by decide +kernel), fun a23 K23 n23 z23 => ?_⟩
    refine ⟨szr (n := 1) (by decide +kernel), fun a24 K24 n24 => ?_⟩
    refine ⟨szr (n := 2) (by decide +kernel), fun a25 K25 n25 => ?_⟩
    refine fun a26 f26 => ?_
    obtain ⟨K26, e26⟩ : ∃ K, K = upd K25 a26 (.dK []) := ⟨_, rfl⟩
    rw [← e26]
    have n26 : New K25 a26 (.dK []) K26 := ⟨f26, e26⟩
    refine ⟨szr (n := 1) (by decide +kernel), fun a27 K27 n27 => ?_⟩
    refine ⟨(n27.ex) _ _ n26.at, [(.inl (-1), .ref a27)], rfl, (show 1 ≤ 15 by decide), ?_⟩
    obtain ⟨K28, e28⟩ : ∃ K, K = upd K27 a26 (.dK (mergeK [] [(.inl (-1), .ref a27)])) := ⟨_, rfl⟩
    rw [← e28]
    have c28 : K28 a26 = some (.dK [(.inl (-1), .ref a27)]) := by rw [e28]; exact upd_same
    have x28 : Ex K25 K28 := by rw [e28]; exact disp_ex f26 e26 (n27.ex)
    have c27 : K28 a27 = some (.tup [.int 0]) := by rw [e28, upd_ne (ne_of_none n26.at n27.fresh).symm]; exact n27.at
    clear e26 e28
    refine ⟨szr (n := 9) (by decide +kernel), fun a29 K29 n29 => ?_⟩
    refine Or.inl ⟨_, _, (ex_trans n10.ex (ex_trans n11.ex (ex_trans x13 (ex_trans x16 (ex_trans x19 (ex_trans n20.ex (ex_trans n21.ex (ex_trans n22.ex (ex_trans n23.ex (ex_trans n24.ex (ex_trans n25.ex (ex_trans x28 n29.ex)))))))))))) _ _ n9.at, n29.at, szr (n := 29) (by decide +kernel), fun a30 K30 n30 => ?_⟩
    refine ⟨szr (n := 2) (by decide +kernel), fun a31 K31 n31 => ?_⟩
    refine fun a32 f32 => ?_
    obtain ⟨K32, e32⟩ : ∃ K, K = upd K31 a32 (.dK []) := ⟨_, rfl⟩
    rw [← e32]
    have n32 : New K31 a32 (.dK []) K32 := ⟨f32, e32⟩
    refine ⟨szr (n := 2) (by decide +kernel), fun a33 K33 n33 => ?_⟩
    refine ⟨(n33.ex) _ _ n32.at, true, .ref a33, rfl, ?_⟩
    obtain ⟨K34, e34⟩ : ∃ K, K = upd K33 a32 (BdD a32 [(true, .ref a33)]) := ⟨_, rfl⟩
    rw [← e34]
    have c34 : K34 a32 = some (BdD a32 [(true, .ref a33)]) := by rw [e34]; exact upd_same
    have x34 : Ex K31 K34 := by rw [e34]; exact disp_ex f32 e32 (n33.ex)
    have c33 : K34 a33 = some (.tup [.int 0, .int 0]) := by rw [e34, upd_ne (ne_of_none n32.at n33.fresh).symm]; exact n33.at
    clear e32 e34
    refine fun a35 f35 => ?_
    obtain ⟨K35, e35⟩ : ∃ K, K = upd K34 a35 (.dK []) := ⟨_, rfl⟩
    rw [← e35]
    have n35 : New K34 a35 (.dK []) K35 := ⟨f35, e35⟩
    refine ⟨szr (n := 2) (by decide +kernel), fun a36 K36 n36 z36 => ?_⟩
    refine ⟨(n36.ex) _ _ n35.at, [(.inl 0, .ref a36)], rfl, (show 1 ≤ 15 by decide), ?_⟩
    obtain ⟨K37, e37⟩ : ∃ K, K = upd K36 a35 (.dK (mergeK [] [(.inl 0, .ref a36)])) := ⟨_, rfl⟩
    rw [← e37]
    have c37 : K37 a35 = some (.dK [(.inl 0, .ref a36)]) := by rw [e37]; exact upd_same
    have x37 : Ex K34 K37 := by rw [e37]; exact disp_ex f35 e35 (n36.ex)
    have c36 : K37 a36 = some (.lst [.int 0, .int 0]) := by rw [e37, upd_ne (ne_of_none n35.at n36.fresh).symm]; exact n36.at
    clear e35 e37
    refine fun a38 f38 => ?_
    obtain ⟨K38, e38⟩ : ∃ K, K = upd K37 a38 (.dK []) := ⟨_, rfl⟩
    rw [← e38]
    have n38 : New K37 a38 (.dK []) K38 := ⟨f38, e38⟩
    refine ⟨szr (n := 2) (by decide +kernel), fun a39 K39 n39 => ?_⟩
    refine ⟨(n39.ex) _ _ n38.at, [(.inl 0, .ref a39)], rfl, (show 1 ≤ 15 by decide), ?_⟩
    obtain ⟨K40, e40⟩ : ∃ K, K = upd K39 a38 (.dK (mergeK [] [(.inl 0, .ref a39)])) := ⟨_, rfl⟩
    rw [← e40]
    have c40 : K40 a38 = some (.dK [(.inl 0, .ref a39)]) := by rw [e40]; exact upd_same
    have x40 : Ex K37 K40 := by rw [e40]; exact disp_ex f38 e38 (n39.ex)
    have c39 : K40 a39 = some (.tup [.int 0, .bl true]) := by rw [e40, upd_ne (ne_of_none n38.at n39.fresh).symm]; exact n39.at
    clear e38 e40
    refine fun a41 f41 => ?_
    obtain ⟨K41, e41⟩ : ∃ K, K = upd K40 a41 (.dK []) := ⟨_, rfl⟩
    rw [← e41]
    have n41 : New K40 a41 (.dK []) K41 := ⟨f41, e41⟩
    refine ⟨n41.at, [(.inl 0, .bl true)], rfl, (show 1 ≤ 15 by decide), ?_⟩
    obtain ⟨K42, e42⟩ : ∃ K, K = upd K41 a41 (.dK (mergeK [] [(.inl 0, .bl true)])) := ⟨_, rfl⟩
    rw [← e42]
    have c42 : K42 a41 = some (.dK [(.inl 0, .bl true)]) := by rw [e42]; exact upd_same
    have x42 : Ex K40 K42 := by rw [e42]; exact disp_ex f41 e41 (ex_refl _)
    clear e41 e42
    refine fun a43 f43 => ?_
    obtain ⟨K43, e43⟩ : ∃ K, K = upd K42 a43 (.dK []) := ⟨_, rfl⟩
    rw [← e43]
    have n43 : New K42 a43 (.dK []) K43 := ⟨f43, e43⟩
    refine ⟨n43.at, [(.inl 0, .non)], rfl, (show 1 ≤ 15 by decide), ?_⟩
    obtain ⟨K44, e44⟩ : ∃ K, K = upd K43 a43 (.dK (mergeK [] [(.inl 0, .non)])) := ⟨_, rfl⟩
    rw [← e44]
    have c44 : K44 a43 = some (.dK [(.inl 0, .non)]) := by rw [e44]; exact upd_same
    have x44 : Ex K42 K44 := by rw [e44]; exact disp_ex f43 e43 (ex_refl _)
    clear e43 e44
    refine ⟨szr (n := 2) (by decide +kernel), fun a45 K45 n45 => ?_⟩
    refine ⟨⟨by decide, by decide, by decide⟩, ?_⟩
    refine ⟨szr (n := 8) (by decide +kernel), fun a46 K46 n46 => ?_⟩
    refine Or.inl ⟨_, _, (ex_trans n31.ex (ex_trans x34 (ex_trans x37 (ex_trans x40 (ex_trans x42 (ex_trans x44 (ex_trans n45.ex n46.ex))))))) _ _ n30.at, n46.at, szr (n := 37) (by decide +kernel), fun a47 K47 n47 => ?_⟩
    have X31 := ex_refl K47
    have X30 := ex_trans n47.ex X31
    have X29 := ex_trans n46.ex X30
    have X28 := ex_trans n45.ex X29
    have X27 := ex_trans x44 X28
    have X26 := ex_trans x42 X27
    have X25 := ex_trans x40 X26
    have X24 := ex_trans x37 X25
    have X23 := ex_trans x34 X24
    have X22 := ex_trans n31.ex X23
    have X21 := ex_trans n30.ex X22
    have X20 := ex_trans n29.ex X21
    have X19 := ex_trans x28 X20
    have X18 := ex_trans n25.ex X19
    have X17 := ex_trans n24.ex X18
    have X16 := ex_trans n23.ex X17
    have X15 := ex_trans n22.ex X16
    have X14 := ex_trans n21.ex X15
    have X13 := ex_trans n20.ex X14
    have X12 := ex_trans x19 X13
    have X11 := ex_trans x16 X12
    have X10 := ex_trans x13 X11
    have X9 := ex_trans n11.ex X10
    have X8 := ex_trans n10.ex X9
    have X7 := ex_trans n9.ex X8
    have X6 := ex_trans n8.ex X7
    have X5 := ex_trans n7.ex X6
    have X4 := ex_trans n6.ex X5
    have X3 := ex_trans n5.ex X4
    have X2 := ex_trans n4.ex X3
    have X1 := ex_trans n3.ex X2
    have X0 := ex_trans n2.ex X1
    have Y0 := ex_refl H
    have Y1 := ex_trans Y0 n1.ex
    have Y2 := ex_trans Y1 n2.ex
    have Y3 := ex_trans Y2 n3.ex
    have Y4 := ex_trans Y3 n4.ex
    have Y5 := ex_trans Y4 n5.ex
    have Y6 := ex_trans Y5 n6.ex
    have Y7 := ex_trans Y6 n7.ex
    have Y8 := ex_trans Y7 n8.ex
    have Y9 := ex_trans Y8 n9.ex
    have Y10 := ex_trans Y9 n10.ex
    have Y11 := ex_trans Y10 n11.ex
    have Y12 := ex_trans Y11 x13
    have Y13 := ex_trans Y12 x16
    have Y14 := ex_trans Y13 x19
    have Y15 := ex_trans Y14 n20.ex
    have Y16 := ex_trans Y15 n21.ex
    have Y17 := ex_trans Y16 n22.ex
    have Y18 := ex_trans Y17 n23.ex
    have Y19 := ex_trans Y18 n24.ex
    have Y20 := ex_trans Y19 n25.ex
    have Y21 := ex_trans Y20 x28
    have Y22 := ex_trans Y21 n29.ex
    have Y23 := ex_trans Y22 n30.ex
    have Y24 := ex_trans Y23 n31.ex
    have Y25 := ex_trans Y24 x34
    have Y26 := ex_trans Y25 x37
    have Y27 := ex_trans Y26 x40
    have Y28 := ex_trans Y27 x42
    have Y29 := ex_trans Y28 x44
    have Y30 := ex_trans Y29 n45.ex
    have Y31 := ex_trans Y30 n46.ex
    have Y32 := ex_trans Y31 n47.ex
    have gg := Gr_all hg Y32
    have q1 := frz_at (G := G) (ex_none Y0 n1.fresh) (X0 _ _ n1.at)
    have q2 := frz_at (G := G) (ex_none Y1 n2.fresh) (X1 _ _ n2.at)
    have q3 := frz_at (G := G) (ex_none Y2 n3.fresh) (X2 _ _ n3.at)
    have q4 := frz_at (G := G) (ex_none Y3 n4.fresh) (X3 _ _ n4.at)
    have q5 := frz_at (G := G) (ex_none Y4 n5.fresh) (X4 _ _ n5.at)
    have q6 := frz_at (G := G) (ex_none Y5 n6.fresh) (X5 _ _ n6.at)
    have q7 := frz_at (G := G) (ex_none Y6 n7.fresh) (X6 _ _ n7.at)
    have q8 := frz_at (G := G) (ex_none Y7 n8.fresh) (X7 _ _ n8.at)
    have q10 := frz_at (G := G) (ex_none Y9 n10.fresh) (X9 _ _ n10.at)
    have q11 := frz_at (G := G) (ex_none Y10 n11.fresh) (X10 _ _ n11.at)
    have q12 := frz_at (G := G) (ex_none Y11 f12) (X11 _ _ c13)
    have q14 := frz_at (G := G) (ex_none Y12 f14) (X12 _ _ c16)
    have q15 := frz_at (G := G) (ex_none Y12 (ex_none n14.ex n15.fresh)) (X12 _ _ c15)
    have q17 := frz_at (G := G) (ex_none Y13 f17) (X13 _ _ c19)
    have q18 := frz_at (G := G) (ex_none Y13 (ex_none n17.ex n18.fresh)) (X13 _ _ c18)
    have q20 := frz_at (G := G) (ex_none Y14 n20.fresh) (X14 _ _ n20.at)
    have q21 := frz_at (G := G) (ex_none Y15 n21.fresh) (X15 _ _ n21.at)
    have q22 := frz_at (G := G) (ex_none Y16 n22.fresh) (X16 _ _ n22.at)
    have q23 := frz_at (G := G) (ex_none Y17 n23.fresh) (X17 _ _ n23.at)
    have q24 := frz_at (G := G) (ex_none Y18 n24.fresh) (X18 _ _ n24.at)
    have q25 := frz_at (G := G) (ex_none Y19 n25.fresh) (X19 _ _ n25.at)
    have q26 := frz_at (G := G) (ex_none Y20 f26) (X20 _ _ c28)
    have q27 := frz_at (G := G) (ex_none Y20 (ex_none n26.ex n27.fresh)) (X20 _ _ c27)
    have q31 := frz_at (G := G) (ex_none Y23 n31.fresh) (X23 _ _ n31.at)
    have q32 := frz_at (G := G) (ex_none Y24 f32) (X24 _ _ c34)
    have q33 := frz_at (G := G) (ex_none Y24 (ex_none n32.ex n33.fresh)) (X24 _ _ c33)
    have q35 := frz_at (G := G) (ex_none Y25 f35) (X25 _ _ c37)
    have q36 := frz_at (G := G) (ex_none Y25 (ex_none n35.ex n36.fresh)) (X25 _ _ c36)
    have q38 := frz_at (G := G) (ex_none Y26 f38) (X26 _ _ c40)
    have q39 := frz_at (G := G) (ex_none Y26 (ex_none n38.ex n39.fresh)) (X26 _ _ c39)
    have q41 := frz_at (G := G) (ex_none Y27 f41) (X27 _ _ c42)
    have q43 := frz_at (G := G) (ex_none Y28 f43) (X28 _ _ c44)
    have q45 := frz_at (G := G) (ex_none Y29 n45.fresh) (X29 _ _ n45.at)
    have ql := frz_at (G := G) (ex_none Y31 n47.fresh) (X31 _ _ n47.at)
    have pl := pn.gr gg
    have all : ∀ v, (v = V.non ∨ v = V.bl true ∨ v = V.bl false ∨ v = V.int 0 ∨ v = V.int 1 ∨ v = V.int (-1) ∨ v = V.int 2 ∨ v = V.int 5 ∨ v = V.int (10 ^ (20 : Int).toNat) ∨ v = V.str "" ∨ v = V.str "0" ∨ v = V.str "a" ∨ v = V.ref a1 ∨ v = V.ref a2 ∨ v = V.ref a3 ∨ v = V.ref a4 ∨ v = V.ref a5 ∨ v = V.ref a6 ∨ v = V.ref a7 ∨ v = V.ref a8 ∨ v = V.ref a10 ∨ v = V.ref a11 ∨ v = V.ref a12 ∨ v = V.ref a14 ∨ v = V.ref a17 ∨ v = V.ref a21 ∨ v = V.ref a23 ∨ v = V.ref a25 ∨ v = V.ref a26 ∨ v = V.ref a31 ∨ v = V.ref a32 ∨ v = V.ref a35 ∨ v = V.ref a38 ∨ v = V.ref a41 ∨ v = V.ref a43 ∨ v = V.ref a45 ∨ v = V.int (10 ^ (40 : Int).toNat)) → ∃ d, AnyQ K (frzAll G H K47) true 6 4000 v d ∧ PyData.strOk d.shown = true := by
      rintro v (rfl | rfl | rfl | rfl | rfl | rfl | rfl | rfl | rfl | rfl | rfl | rfl | rfl | rfl | rfl | rfl | rfl | rfl | rfl | rfl | rfl | rfl | rfl | rfl | rfl | rfl | rfl | rfl | rfl | rfl | rfl | rfl | rfl | rfl | rfl | rfl | rfl)
      · exact ⟨PyData.none, ⟨.non, fun _ => rfl, ⟨by decide +kernel, by decide +kernel, by decide +kernel, by decide +kernel⟩⟩, by decide +kernel⟩
      · exact ⟨PyData.bool true, ⟨(.bl _), fun _ => rfl, ⟨by decide +kernel, by decide +kernel, by decide +kernel, by decide +kernel⟩⟩, by decide +kernel⟩
      · exact ⟨PyData.bool false, ⟨(.bl _), fun _ => rfl, ⟨by decide +kernel, by decide +kernel, by decide +kernel, by decide +kernel⟩⟩, by decide +kernel⟩
      · exact ⟨PyData.int 0, ⟨(.int _), fun _ => rfl, ⟨by decide +kernel, by decide +kernel, by decide +kernel, by decide +kernel⟩⟩, by decide +kernel⟩
      · exact ⟨PyData.int 1, ⟨(.int _), fun _ => rfl, ⟨by decide +kernel, by decide +kernel, by decide +kernel, by decide +kernel⟩⟩, by decide +kernel⟩
      · exact ⟨PyData.int (-1), ⟨(.int _), fun _ => rfl, ⟨by decide +kernel, by decide +kernel, by decide +kernel, by decide +kernel⟩⟩, by decide +kernel⟩
      · exact ⟨PyData.int 2, ⟨(.int _), fun _ => rfl, ⟨by decide +kernel, by decide +kernel, by decide +kernel, by decide +kernel⟩⟩, by decide +kernel⟩
      · exact ⟨PyData.int 5, ⟨(.int _), fun _ => rfl, ⟨by decide +kernel, by decide +kernel, by decide +kernel, by decide +kernel⟩⟩, by decide +kernel⟩
      · exact ⟨PyData.int (10 ^ (20 : Int).toNat), ⟨(.int _), fun _ => rfl, ⟨by decide +kernel, by decide +kernel, by decide +kernel, by decide +kernel⟩⟩, by decide +kernel⟩
      · exact ⟨PyData.str "", ⟨(.str _), fun _ => rfl, ⟨by decide +kernel, by decide +kernel, by decide +kernel, by decide +kernel⟩⟩, by decide +kernel⟩
      · exact ⟨PyData.str "0", ⟨(.str _), fun _ => rfl, ⟨by decide +kernel, by decide +kernel, by decide +kernel, by decide +kernel⟩⟩, by decide +kernel⟩
      · exact ⟨PyData.str "a", ⟨(.str _), fun _ => rfl, ⟨by decide +kernel, by decide +kernel, by decide +kernel, by decide +kernel⟩⟩, by decide +kernel⟩
      · exact ⟨PyData.tuple [], ⟨(.tup (SqT.of q1) .nil), fun _ => rfl, ⟨by decide +kernel, by decide +kernel, by decide +kernel, by decide +kernel⟩⟩, by decide +kernel⟩
      · exact ⟨PyData.list [], ⟨(.lst (SqL.of q2) (fun _ => z2) .nil), fun _ => rfl, ⟨by decide +kernel, by decide +kernel, by decide +kernel, by decide +kernel⟩⟩, by decide +kernel⟩
      · exact ⟨PyData.dict [], ⟨(.dct (kvs := []) (.inl q3) ⟨List.nodup_nil, by decide⟩ .nil), fun _ => rfl, ⟨by decide +kernel, by decide +kernel, by decide +kernel, by decide +kernel⟩⟩, by decide +kernel⟩
      · exact ⟨PyData.tuple [.int 0], ⟨(.tup (SqT.of q4) (.cons (.int _) .nil)), fun _ => rfl, ⟨by decide +kernel, by decide +kernel, by decide +kernel, by decide +kernel⟩⟩, by decide +kernel⟩
      · exact ⟨PyData.list [.int 0], ⟨(.lst (SqL.of q5) (fun _ => z5) (.cons (.int _) .nil)), fun _ => rfl, ⟨by decide +kernel, by decide +kernel, by decide +kernel, by decide +kernel⟩⟩, by decide +kernel⟩
      · exact ⟨PyData.tuple [.int 0, .int 1], ⟨(.tup (SqT.of q6) (.cons (.int _) (.cons (.int _) .nil))), fun _ => rfl, ⟨by decide +kernel, by decide +kernel, by decide +kernel, by decide +kernel⟩⟩, by decide +kernel⟩
      · exact ⟨PyData.tuple [.bool true], ⟨(.tup (SqT.of q7) (.cons (.bl _) .nil)), fun _ => rfl, ⟨by decide +kernel, by decide +kernel, by decide +kernel, by decide +kernel⟩⟩, by decide +kernel⟩
      · exact ⟨PyData.tuple [.none], ⟨(.tup (SqT.of q8) (.cons .non .nil)), fun _ => rfl, ⟨by decide +kernel, by decide +kernel, by decide +kernel, by decide +kernel⟩⟩, by decide +kernel⟩
      · exact ⟨PyData.tuple [.int 0, .int 0, .int 0], ⟨(.tup (SqT.of q10) (.cons (.int _) (.cons (.int _) (.cons (.int _) .nil)))), fun _ => rfl, ⟨by decide +kernel, by decide +kernel, by decide +kernel, by decide +kernel⟩⟩, by decide +kernel⟩
      · exact ⟨PyData.list [.int 0, .int 1], ⟨(.lst (SqL.of q11) (fun _ => z11) (.cons (.int _) (.cons (.int _) .nil))), fun _ => rfl, ⟨by decide +kernel, by decide +kernel, by decide +kernel, by decide +kernel⟩⟩, by decide +kernel⟩
      · exact ⟨PyData.dict [(.int 0, .int 0)], ⟨(.dct (kvs := [(.inl 0, .int 0)]) (.inl q12) ⟨(List.nodup_cons.mpr ⟨(fun z => nomatch z), List.nodup_nil⟩), (show 1 ≤ 1000 by decide)⟩ (.cons (.int _) .nil)), fun _ => rfl, ⟨by decide +kernel, by decide +kernel, by decide +kernel, by decide +kernel⟩⟩, by decide +kernel⟩
      · exact ⟨PyData.dict [(.int 0, .tuple [.int 0, .int 0])], ⟨(.dct (kvs := [(.inl 0, .ref a15)]) (.inl q14) ⟨(List.nodup_cons.mpr ⟨(fun z => nomatch z), List.nodup_nil⟩), (show 1 ≤ 1000 by decide)⟩ (.cons (.tup (SqT.of q15) (.cons (.int _) (.cons (.int _) .nil))) .nil)), fun _ => rfl, ⟨by decide +kernel, by decide +kernel, by decide +kernel, by decide +kernel⟩⟩, by decide +kernel⟩
      · exact ⟨PyData.dict [(.str "0", .tuple [.int 0])], ⟨(.dct (kvs := [(.inr "0", .ref a18)]) (.inl q17) ⟨(List.nodup_cons.mpr ⟨(fun z => nomatch z), List.nodup_nil⟩), (show 1 ≤ 1000 by decide)⟩ (.cons (.tup (SqT.of q18) (.cons (.int _) .nil)) .nil)), fun _ => rfl, ⟨by decide +kernel, by decide +kernel, by decide +kernel, by decide +kernel⟩⟩, by decide +kernel⟩
      · exact ⟨PyData.tuple [.tuple [.int 0]], ⟨(.tup (SqT.of q21) (.cons (.tup (SqT.of q20) (.cons (.int _) .nil)) .nil)), fun _ => rfl, ⟨by decide +kernel, by decide +kernel, by decide +kernel, by decide +kernel⟩⟩, by decide +kernel⟩
      · exact ⟨PyData.list [.tuple [.int 0, .int 0]], ⟨(.lst (SqL.of q23) (fun _ => z23) (.cons (.tup (SqT.of q22) (.cons (.int _) (.cons (.int _) .nil))) .nil)), fun _ => rfl, ⟨by decide +kernel, by decide +kernel, by decide +kernel, by decide +kernel⟩⟩, by decide +kernel⟩
      · exact ⟨PyData.tuple [.int 1, .tuple [.int 0]], ⟨(.tup (SqT.of q25) (.cons (.int _) (.cons (.tup (SqT.of q24) (.cons (.int _) .nil)) .nil))), fun _ => rfl, ⟨by decide +kernel, by decide +kernel, by decide +kernel, by decide +kernel⟩⟩, by decide +kernel⟩
      · exact ⟨PyData.dict [(.int (-1), .tuple [.int 0])], ⟨(.dct (kvs := [(.inl (-1), .ref a27)]) (.inl q26) ⟨(List.nodup_cons.mpr ⟨(fun z => nomatch z), List.nodup_nil⟩), (show 1 ≤ 1000 by decide)⟩ (.cons (.tup (SqT.of q27) (.cons (.int _) .nil)) .nil)), fun _ => rfl, ⟨by decide +kernel, by decide +kernel, by decide +kernel, by decide +kernel⟩⟩, by decide +kernel⟩
      · exact ⟨PyData.tuple [.int 0, .int (-1)], ⟨(.tup (SqT.of q31) (.cons (.int _) (.cons (.int _) .nil))), fun _ => rfl, ⟨by decide +kernel, by decide +kernel, by decide +kernel, by decide +kernel⟩⟩, by decide +kernel⟩
      · exact ⟨PyData.dict [(.bool true, .tuple [.int 0, .int 0])], ⟨(.dbo (kvs := [(true, .ref a33)]) (.inl q32) ⟨(fun z => nomatch z), (show 1 ≤ 1000 by decide)⟩ (.cons (.tup (SqT.of q33) (.cons (.int _) (.cons (.int _) .nil))) .nil)), fun _ => rfl, ⟨by decide +kernel, by decide +kernel, by decide +kernel, by decide +kernel⟩⟩, by decide +kernel⟩
      · exact ⟨PyData.dict [(.int 0, .list [.int 0, .int 0])], ⟨(.dct (kvs := [(.inl 0, .ref a36)]) (.inl q35) ⟨(List.nodup_cons.mpr ⟨(fun z => nomatch z), List.nodup_nil⟩), (show 1 ≤ 1000 by decide)⟩ (.cons (.lst (SqL.of q36) (fun _ => z36) (.cons (.int _) (.cons (.int _) .nil))) .nil)), fun _ => rfl, ⟨by decide +kernel, by decide +kernel, by decide +kernel, by decide +kernel⟩⟩, by decide +kernel⟩
      · exact ⟨PyData.dict [(.int 0, .tuple [.int 0, .bool true])], ⟨(.dct (kvs := [(.inl 0, .ref a39)]) (.inl q38) ⟨(List.nodup_cons.mpr ⟨(fun z => nomatch z), List.nodup_nil⟩), (show 1 ≤ 1000 by decide)⟩ (.cons (.tup (SqT.of q39) (.cons (.int _) (.cons (.bl _) .nil))) .nil)), fun _ => rfl, ⟨by decide +kernel, by decide +kernel, by decide +kernel, by decide +kernel⟩⟩, by decide +kernel⟩
      · exact ⟨PyData.dict [(.int 0, .bool true)], ⟨(.dct (kvs := [(.inl 0, .bl true)]) (.inl q41) ⟨(List.nodup_cons.mpr ⟨(fun z => nomatch z), List.nodup_nil⟩), (show 1 ≤ 1000 by decide)⟩ (.cons (.bl _) .nil)), fun _ => rfl, ⟨by decide +kernel, by decide +kernel, by decide +kernel, by decide +kernel⟩⟩, by decide +kernel⟩
      · exact ⟨PyData.dict [(.int 0, .none)], ⟨(.dct (kvs := [(.inl 0, .non)]) (.inl q43) ⟨(List.nodup_cons.mpr ⟨(fun z => nomatch z), List.nodup_nil⟩), (show 1 ≤ 1000 by decide)⟩ (.cons .non .nil)), fun _ => rfl, ⟨by decide +kernel, by decide +kernel, by decide +kernel, by decide +kernel⟩⟩, by decide +kernel⟩
      · exact ⟨PyData.tuple [.str "0", .str "1"], ⟨(.tup (SqT.of q45) (.cons (.str _) (.cons (.str _) .nil))), fun _ => rfl, ⟨by decide +kernel, by decide +kernel, by decide +kernel, by decide +kernel⟩⟩, by decide +kernel⟩
      · exact ⟨PyData.int (10 ^ (40 : Int).toNat), ⟨(.int _), fun _ => rfl, ⟨by decide +kernel, by decide +kernel, by decide +kernel, by decide +kernel⟩⟩, by decide +kernel⟩
    refine ⟨_, p, a47, b, _, rfl, gg.gh, SqL.of ql, pl, hb, (show 0 < 37 by decide), (show 37 < 2000 by decide), fun v G9 H9 hv g9 pn9 => ?_⟩
    obtain ⟨d, av, so⟩ := all v (by simpa only [List.cons_append, List.nil_append, List.append_assoc, List.mem_cons, List.not_mem_nil, or_false] using hv)
    exact q v d G9 H9 (av.up g9.gg) so ((gg.m p).trans g9) pn9
end
end k36

namespace k36
open PySem PySem.Spec PyProof.Rows L2 Ech
open He (ga ma)
open He5 (wf)
/-! ### _law_row -/
theorem sc__law_row : FnScope ["_law_pen_here", "_law_score", "_law_place"] ["_law_pen_here", "_law_score"] (defScope s__law_row) := ⟨rfl, rfl, rfl, by decide +kernel, rfl, by decide +kernel, by decide +kernel⟩
section
variable {P : Program} {w : World} {K : PySem.W.Frag} {mg : PySem.Str → Option Value} {base : Heap}
theorem F__law_row (e : Ev K mg) : FunD K "_law_row" "_law_row" (defArgs s__law_row) (defBody s__law_row) (defScope s__law_row) [] [] (ga K "_law_row") (fdA K (ga K "_law_row")) := e.fun_ 75 (d := d__law_row)
theorem kp__law_row (e : Ev K mg) : PySem.W.keepIn K (.ref (ga K "_law_row")) = true := (F__law_row e).kp
theorem b__law_row (e : Ev K mg) : Binds K (fdA K (ga K "_law_row")) ["_law_pen_here", "_law_score"] [] := (F__law_row e).bindsN fun _ _ _ _ _ _ us hl => match us, hl with | [_, _], _ => rfl
theorem bn__law_row_2 (e : Ev K mg) : Bnd K (ga K "_law_row") ["_law_pen_here", "_law_score"] [] := ⟨[], .nil, b__law_row e⟩
def sp__law_row (K : PySem.W.Frag) : Sp := fun vs H Q _ => ∃ (G : Hp) (p : Addr) (b : Nat) (v : V) (L n : Int) (es : List Lot), vs = [.ref p, v] ∧ Ex G H ∧ ScoreAt K G v L n es ∧ Pen K ("index" : PySem.Str) ("left" : PySem.Str) G H p b ∧ b + 1000 < 2 ^ 60 ∧ 1 ≤ L ∧ L ≤ 5 ∧ 1 ≤ n ∧ n ≤ 1000 ∧
  ∀ (t : Addr) (ns : List Int) (G' H' : Hp), SqT K G' t (ns.map V.int) → (ns.length : Int) = n → (∀ i ∈ ns, 0 ≤ i ∧ i < L) → GrM p G H G' H' → Pen K ("index" : PySem.Str) ("left" : PySem.Str) G' H' p (b + 1000) → Q (.ref t) H'
theorem ok__law_row (e : Ev K mg) : FnG P w K mg base CX0 2 (ga K "_law_row") (fdA K (ga K "_law_row")) ["_law_pen_here", "_law_score"] (sp__law_row K) := by
  refine FnG.body (F__law_row e) sc__law_row (fun vs H Q E h => ?_) (fun cdv A outer s H vs Q E hr hq h => ?_)
  · obtain ⟨G, p, b, v, L, n, es, rfl, _⟩ := h
    rfl
  · obtain ⟨G, p, b, v, L, n, es, rfl, hg, ⟨a, kvs, le, ws, rfl, s1, s2, s3, s4, s5, s6⟩, hp, hb, l1, l5, n1, n2, q⟩ := h
    refine ⟨_, PSs.nox (pss_one (ps_ret (pe_callTy (T := "tuple") (k_tuple (K := K) rfl) (by rfl) (fr_tuple e) (by decide +kernel) (pa_cons (u_lc (own := [("_law_place", 2)]) (by rfl) sc__law_row.nd (piu_range1 (by rfl) (fr_range e) (pa_cons (u_dget (hu_of hr) (uv 1) pe_str) pa_nil)) (blkOk_by (by kernel_rfl)) (fun _ _ _ _ _ => (pg_name (i := 2) sc__law_row.nd (by rfl) (by first | exact Or.inl rfl | exact Or.inr rfl))) (fun _ _ _ _ _ => pts_nil) (fun _ _ _ _ _ => (u_callQ (ok__law_draw e) (hr.mono (by decide)) hq (by rfl) (gl__law_draw e) (kp__law_draw e) (bn__law_draw_2 e) pass0 (pa_cons (uv 0) (pa_cons (u_dget (hu_of hr) (uv 1) pe_str) pa_nil))))) pa_nil)))), ?_⟩
    refine ⟨_, dget_of (hg _ _ s1) s3, ?_⟩
    refine ⟨⟨by omega, by omega⟩, ?_⟩
    refine lc_pen 1 hp hg (fun i _ acc => ∃ ns : List Int, acc = ns.map V.int ∧ ns.length = i ∧ ∀ x ∈ ns, 0 ≤ x ∧ x < L) ?_ ⟨[], rfl, rfl, fun x hx => by cases hx⟩ ?_ (fun _ _ _ => trivial) ?_ ?_
    · exact Nat.le_trans (by omega : n.toNat ≤ 1000) (szr (by decide +kernel))
    · rintro i _ acc ⟨ns, rfl, e, _⟩
      rw [List.length_map, e]
      exact Nat.le_refl _
    · rintro i x G5 H5 H6 acc hi g5 pn5 ⟨ns, rfl, e, hr⟩ ⟨rfl, rfl⟩ R R0 r1 r2
      have hi' : i < n.toNat := hi
      refine ⟨rfl, ?_⟩
      refine ⟨_, dget_of (g5.gh _ _ (g5.gg _ _ s1)) s2, ?_⟩
      refine ⟨G5, p, _, L, rfl, g5.gh, pn5, by omega, by omega, by omega, fun v G6 H6 g6 pn6 v0 v1 => ?_⟩
      refine r1 _ G6 H6 g6 (pn6.up (by omega)) ⟨ns ++ [v], by simp, by simp [e], fun x hx => ?_⟩
      rcases List.mem_append.mp hx with hx | hx
      · exact hr x hx
      · rw [List.mem_singleton.mp hx]
        exact ⟨v0, v1⟩
    · rintro D2 G5 H5 acc g5 pn5 hpD2 hD2 hGD2 h5 ⟨ns, rfl, ln, hn⟩
      refine ⟨_, Or.inl ⟨SqL.of h5, fun t H6 nw => ?_⟩⟩
      have g6 := nw.gr g5.gh
      exact q t ns _ H6 (SqT.of upd_same) (by omega) hn (g5.trans (g6.m p)) ((pn5.gr g6).up (by omega))
end
end k36

namespace k36
open PySem PySem.Spec PyProof.Rows L2 Ech
open He (ga ma)
open He5 (wf)
/-! ### _law_shuffled -/
theorem sc__law_shuffled : FnScope ["_law_pen_here", "_law_items", "_law_left", "_law_found"] ["_law_pen_here", "_law_items"] (defScope s__law_shuffled) := ⟨rfl, rfl, rfl, by decide +kernel, rfl, by decide +kernel, by decide +kernel⟩
section
variable {P : Program} {w : World} {K : PySem.W.Frag} {mg : PySem.Str → Option Value} {base : Heap}
theorem F__law_shuffled (e : Ev K mg) : FunD K "_law_shuffled" "_law_shuffled" (defArgs s__law_shuffled) (defBody s__law_shuffled) (defScope s__law_shuffled) [] [] (ga K "_law_shuffled") (fdA K (ga K "_law_shuffled")) := e.fun_ 70 (d := d__law_shuffled)
theorem kp__law_shuffled (e : Ev K mg) : PySem.W.keepIn K (.ref (ga K "_law_shuffled")) = true := (F__law_shuffled e).kp
theorem b__law_shuffled (e : Ev K mg) : Binds K (fdA K (ga K "_law_shuffled")) ["_law_pen_here", "_law_items"] [] := (F__law_shuffled e).bindsN fun _ _ _ _ _ _ us hl => match us, hl with | [_, _], _ => rfl
theorem bn__law_shuffled_2 (e : Ev K mg) : Bnd K (ga K "_law_shuffled") ["_law_pen_here", "_law_items"] [] := ⟨[], .nil, b__law_shuffled e⟩
def sp__law_shuffled (K : PySem.W.Frag) : Sp := fun vs H Q _ => ∃ (G : Hp) (p o : Addr) (b : Nat) (xs : List V), vs = [.ref p, .ref o] ∧ Ex G H ∧ SqL K G o xs ∧ xs.length ≤ 1000 ∧ Pen K ("index" : PySem.Str) ("left" : PySem.Str) G H p b ∧ b + 1000 < 2 ^ 60 ∧
  ∀ l ys G' H', SqL K G' l ys → ys.Perm xs → GrM p G H G' H' → Pen K ("index" : PySem.Str) ("left" : PySem.Str) G' H' p (b + 1000) → Q (.ref l) H'
theorem erase_perm {α : Type} : ∀ {l : List α} {i : Nat} (h : i < l.length), (l[i] :: l.eraseIdx i).Perm l
  | [], i, h => absurd h (by simp)
  | x :: l, 0, _ => List.Perm.refl _
  | x :: l, i + 1, h => by
    have h' : i < l.length := by simpa using h
    have ih := erase_perm h'
    show (l[i] :: x :: l.eraseIdx i).Perm (x :: l)
    exact (List.Perm.swap _ _ _).trans (List.Perm.cons _ ih)
theorem ok__law_shuffled (e : Ev K mg) : FnG P w K mg base CX0 2 (ga K "_law_shuffled") (fdA K (ga K "_law_shuffled")) ["_law_pen_here", "_law_items"] (sp__law_shuffled K) := by
  refine FnG.body (F__law_shuffled e) sc__law_shuffled (fun vs H Q E h => ?_) (fun cdv A outer s H vs Q E hr hq h => ?_)
  · obtain ⟨G, p, o, b, xs, rfl, _⟩ := h
    rfl
  · obtain ⟨G, p, o, b, xs, rfl, hg, hs, l5, hp, hb, q⟩ := h
    refine ⟨_, PSs.nox (pss_cons (u_par (i := 2) (j := 3) (by rfl) sc__law_shuffled.nd (by rfl) (by rfl) (by decide) (by rfl) (by rfl) (pa_cons (pe_callTy (T := "list") (k_list (K := K) rfl) (by rfl) (fr_list e) (by decide +kernel) (pa_cons (uv 1) pa_nil)) (pa_cons (u_lst pa_nil) pa_nil)) (by rfl))
            (pss_cons (u_while PassesOwn.never (u_cmpT (k_ne (K := K) rfl hr.units) (uv 2) (u_lst pa_nil) (nomark _)) (pss_one (ps_expr (k_append (K := K) rfl (uv 3) (pa_cons (u_popAt (K := K) rfl (uv 2) (pa_cons (u_callQ (ok__law_draw e) (hr.mono (by decide)) hq (by rfl) (gl__law_draw e) (kp__law_draw e) (bn__law_draw_2 e) pass0 (pa_cons (uv 0) (pa_cons (pe_callB (id := "len") (k_len (K := K) rfl) (by rfl) (fr_len e) (by decide +kernel) (pa_cons (uv 2) pa_nil)) pa_nil))) pa_nil)) pa_nil)))))
            (pss_one (ps_ret (uv 3))))), ?_⟩
    refine ⟨xs, Or.inl (Evl.ex_l hg hs), fun le H1 nw1 => ?_⟩
    refine ⟨szr (n := 0) (by decide +kernel), fun fo H2 nw2 => ?_⟩
    have g1 := nw1.gr0 hg
    have g2 := nw2.gr0 g1.gh
    have nlf : le ≠ fo := ne_of_none nw1.at nw2.fresh
    have plE : p ≠ le := hp.off nw1.fresh
    have pfO : p ≠ fo := (hp.gr g1).off nw2.fresh
    have foH : H fo = none := g1.new nw2.fresh
    refine ⟨fun m σ H' => ∃ (G1 : Hp) (ls fs : List V), GrM p G H G1 H' ∧ Pen K ("index" : PySem.Str) ("left" : PySem.Str) G1 H' p (b + fs.length) ∧ σ = [some (.ref p), some (.ref o), some (.ref le), some (.ref fo)] ∧ G1 le = none ∧ G1 fo = none ∧ H' le = some (.lst ls) ∧ H' fo = some (.lst fs) ∧ (fs ++ ls).Perm xs ∧ m = ls.length, ⟨xs.length, G, xs, [], (g1.trans g2).m p, hp.gr (g1.trans g2), rfl, ex_none hg nw1.fresh, ex_none g1.gh nw2.fresh, nw2.ex _ _ nw1.at, nw2.at, List.Perm.refl _, rfl⟩, ?_⟩
    rintro m σ H3 ⟨G3, ls, fs, g3, pn3, rfl, u1, u2, u3, u4, pm, rfl⟩
    have lall := pm.length_eq
    rw [List.length_append] at lall
    refine ⟨szr (n := 0) (by decide +kernel), fun z H4 nw4 => ?_⟩
    have g4 := nw4.gr0 g3.gh
    have pn4 := pn3.gr g4
    have v3 : H4 le = some (.lst ls) := nw4.ex _ _ u3
    have v4 : H4 fo = some (.lst fs) := nw4.ex _ _ u4
    refine eq_nil (SqL.of v3) (SqL.of nw4.at) ?_
    cases ls with
    | nil =>
      rw [List.append_nil] at pm
      have s4 := g3.trans (g4.m p)
      exact q fo fs _ H4 (SqL.of upd_same) pm (s4.frz foH u2 v4) ((pn4.frz pfO u2).up (by simp at lall; omega))
    | cons y0 r0 =>
      refine ⟨⟨_, SqL.of v4⟩, ⟨_, SqL.of v3⟩, ?_⟩
      refine ⟨_, Or.inl (SqL.of v3), ?_⟩
      simp only [List.length_cons] at lall
      refine ⟨G3, p, _, _, rfl, g4.gh, pn4, by omega, by simp only [List.length_cons]; omega, by simp only [List.length_cons]; omega, fun i G5 H5 g5 pn5 i0 i1 => ?_⟩
      have w3 : H5 le = some (.lst (y0 :: r0)) := g5.hh _ _ plE.symm v3
      have w4 : H5 fo = some (.lst fs) := g5.hh _ _ pfO.symm v4
      have t1 : G5 le = none := g5.free (some_ne v3) u1
      have t2 : G5 fo = none := g5.free (some_ne v4) u2
      refine ⟨_, w3, i0, i1, by simp only [List.length_cons]; omega, fun y hy H6 ch6 => ?_⟩
      have x4 : H6 fo = some (.lst fs) := by rw [ch6.off nlf.symm]; exact w4
      refine ⟨_, x4, Nat.lt_of_le_of_lt (show fs.length ≤ 1000 by omega) (Nat.lt_of_lt_of_le (by decide : 1000 < 1001) (szr (by decide +kernel))), fun H7 ch7 => ?_⟩
      have hil : i.toNat < (y0 :: r0).length := by simp only [List.length_cons] at i1 ⊢; omega
      have s5 := g3.trans ((g4.m p).trans g5)
      have s6 := s5.loc (o := .lst ((y0 :: r0).eraseIdx i.toNat)) nw1.fresh t1
      rw [← ch6.eq] at s6
      have s7 := s6.loc (o := .lst (fs ++ [y])) foH t2
      rw [← ch7.eq] at s7
      have le2 : ((y0 :: r0).eraseIdx i.toNat).length = r0.length := by
        rw [List.length_eraseIdx, if_pos hil]
        simp
      refine ⟨r0.length, by simp, G5, (y0 :: r0).eraseIdx i.toNat, fs ++ [y], s7, ?_, rfl, t1, t2, ?_, ch7.at, ?_, le2.symm⟩
      · rw [List.length_append]
        exact ((pn5.mut ch6 plE).mut ch7 pfO).up (by simp; omega)
      · rw [ch7.off nlf, ch6.at]
      · have hy' : (y0 :: r0)[i.toNat] = y := by
          rw [List.getElem?_eq_getElem hil] at hy
          exact Option.some.inj hy
        refine List.Perm.trans ?_ pm
        rw [List.append_assoc]
        refine List.Perm.append_left _ ?_
        have := erase_perm hil
        rw [hy'] at this
        exact this
end
end k36

namespace k36
open PySem PySem.Spec PyProof.Rows L2 Ech
open He (ga ma)
open He5 (wf)
/-! ### _law_wishes -/
theorem sc__law_wishes : FnScope ["_law_pen_here", "_law_score", "_law_found", "_law_share", "_law_bars", "_law_most", "_law_place", "_law_prices", "_law_k"] ["_law_pen_here", "_law_score"] (defScope s__law_wishes) := ⟨rfl, rfl, rfl, by decide +kernel, rfl, by decide +kernel, by decide +kernel⟩
section
variable {P : Program} {w : World} {K : PySem.W.Frag} {mg : PySem.Str → Option Value} {base : Heap}
theorem F__law_wishes (e : Ev K mg) : FunD K "_law_wishes" "_law_wishes" (defArgs s__law_wishes) (defBody s__law_wishes) (defScope s__law_wishes) [] [] (ga K "_law_wishes") (fdA K (ga K "_law_wishes")) := e.fun_ 76 (d := d__law_wishes)
theorem kp__law_wishes (e : Ev K mg) : PySem.W.keepIn K (.ref (ga K "_law_wishes")) = true := (F__law_wishes e).kp
theorem b__law_wishes (e : Ev K mg) : Binds K (fdA K (ga K "_law_wishes")) ["_law_pen_here", "_law_score"] [] := (F__law_wishes e).bindsN fun _ _ _ _ _ _ us hl => match us, hl with | [_, _], _ => rfl
theorem bn__law_wishes_2 (e : Ev K mg) : Bnd K (ga K "_law_wishes") ["_law_pen_here", "_law_score"] [] := ⟨[], .nil, b__law_wishes e⟩
def sp__law_wishes (K : PySem.W.Frag) : Sp := fun vs H Q _ => ∃ (G : Hp) (p : Addr) (b : Nat) (v : V) (L n : Int) (es : List Lot), vs = [.ref p, v] ∧ Ex G H ∧ ScoreAt K G v L n es ∧ Pen K ("index" : PySem.Str) ("left" : PySem.Str) G H p b ∧ b + 20000 < 2 ^ 60 ∧ 1 ≤ L ∧ L ≤ 5 ∧ 1 ≤ n ∧ n ≤ 1000 ∧
  ∀ (d : Addr) (kvs : List (Key × V)) (ws : List Wish) (G' H' : Hp), GrM p G H G' H' → p ≠ d → H d = none → G' d = none → H' d = some (.dK kvs) → Paired (WishKV K G') kvs ws → WishOk L n ws → (ws.length : Int) ≤ n → (∀ w ∈ ws, ∀ x ∈ w.2, ∀ i, x = some i → i ≤ 2000) → Pen K ("index" : PySem.Str) ("left" : PySem.Str) G' H' p (b + 20000) → Q (.ref d) H'
theorem wish_fresh {K : PySem.W.Frag} {G : Hp} {k : Int} : ∀ {kvs : List (Key × V)} {ws : List Wish}, Paired (WishKV K G) kvs ws → k ∉ ws.map (·.1) → valV kvs (Sum.inl k : Key) = none
  | _, _, .nil, _ => rfl
  | _, _, .cons h t, hn => by
    rename_i kv w kvs ws
    have hne : ¬ k = w.1 := fun z => hn (by rw [z, List.map_cons]; exact List.mem_cons_self ..)
    rw [valV_neg (fun z => hne (by rw [h.1] at z; exact (Sum.inl.inj z).symm))]
    exact wish_fresh t fun m => hn (List.mem_cons_of_mem _ m)
theorem ok__law_wishes (e : Ev K mg) : FnG P w K mg base CX0 3 (ga K "_law_wishes") (fdA K (ga K "_law_wishes")) ["_law_pen_here", "_law_score"] (sp__law_wishes K) := by
  refine FnG.body (F__law_wishes e) sc__law_wishes (fun vs H Q E h => ?_) (fun cdv A outer s H vs Q E hr hq h => ?_)
  · obtain ⟨G, p, b, v, L, n, es, rfl, _⟩ := h
    rfl
  · obtain ⟨G, p, b, v, L, n, es, rfl, hg, ⟨a, kv0, le, vs, rfl, s1, s2, s3, s4, s5, s6⟩, hp, hb, l1, l5, n1, n2, q⟩ := h
    refine ⟨_, PSs.nox (pss_cons (u_par (i := 2) (j := 3) (by rfl) sc__law_wishes.nd (by rfl) (by rfl) (by decide) (by rfl) (by rfl) (pa_cons pe_dnewK (pa_cons (u_callQ (ok__law_pick e) (hr.mono (by decide)) hq (by rfl) (gl__law_pick e) (kp__law_pick e) (bn__law_pick_2 e) pass0 (pa_cons (uv 0) (pa_cons (u_lst (pa_cons pe_int (pa_cons pe_int (pa_cons pe_int (pa_cons pe_int pa_nil))))) pa_nil))) pa_nil)) (by rfl))
            (pss_cons (ps_asg (u_tup (pa_cons (u_callQ (ok__law_pick e) (hr.mono (by decide)) hq (by rfl) (gl__law_pick e) (kp__law_pick e) (bn__law_pick_2 e) pass0 (pa_cons (uv 0) (pa_cons (u_lst (pa_cons pe_int (pa_cons pe_int (pa_cons pe_int (pa_cons pe_int pa_nil))))) pa_nil))) (pa_cons (u_callQ (ok__law_pick e) (hr.mono (by decide)) hq (by rfl) (gl__law_pick e) (kp__law_pick e) (bn__law_pick_2 e) pass0 (pa_cons (uv 0) (pa_cons (u_lst (pa_cons pe_int (pa_cons pe_int (pa_cons pe_int pa_nil)))) pa_nil))) pa_nil))) (u_pgtup (K := K) rfl rfl (PGL.cons (pg_name (i := 4) sc__law_wishes.nd (by rfl) (by first | exact Or.inl rfl | exact Or.inr rfl)) (PGL.cons (pg_name (i := 5) sc__law_wishes.nd (by rfl) (by first | exact Or.inl rfl | exact Or.inr rfl)) PGL.nil (by rfl)) (by rfl))))
            (pss_cons (u_for PassesOwn.never (by rfl) (k_seq (K := K) rfl (u_callQ (ok__law_shuffled e) (hr.mono (by decide)) hq (by rfl) (gl__law_shuffled e) (kp__law_shuffled e) (bn__law_shuffled_2 e) pass0 (pa_cons (uv 0) (pa_cons (u_listRg (by rfl) (by rfl) (fr_list e) (by rfl) (fr_range e) (u_dget (hu_of hr) (uv 1) pe_str)) pa_nil)))) (pg_name (i := 6) sc__law_wishes.nd (by rfl) (by first | exact Or.inl rfl | exact Or.inr rfl)) (pss_one (u_if (u_cmpT o_lt (u_callQ (ok__law_draw e) (hr.mono (by decide)) hq (by rfl) (gl__law_draw e) (kp__law_draw e) (bn__law_draw_2 e) pass0 (pa_cons (uv 0) (pa_cons pe_int pa_nil))) (uv 3) (nomark _)) (pss_cons (u_setLc (i := 7) (own := [("_law_k", 8)]) (by rfl) sc__law_wishes.nd (by rfl) (by rfl) (sw_true rfl rfl rfl (by kernel_rfl)) (piu_range1 (by rfl) (fr_range e) (pa_cons (u_dget (hu_of hr) (uv 1) pe_str) pa_nil)) (blkOk_by (by kernel_rfl)) (fun _ _ _ _ _ => (pg_name (i := 8) sc__law_wishes.nd (by rfl) (by first | exact Or.inl rfl | exact Or.inr rfl))) (fun _ _ _ _ _ => pts_nil) (fun _ _ _ _ _ => (u_ifExp (u_cmpT o_lt (u_callQ (ok__law_draw e) (hr.mono (by decide)) hq (by rfl) (gl__law_draw e) (kp__law_draw e) (bn__law_draw_2 e) pass0 (pa_cons (uv 0) (pa_cons pe_int pa_nil))) (uv 4) (nomark _)) pe_non (u_callQ (ok__law_draw e) (hr.mono (by decide)) hq (by rfl) (gl__law_draw e) (kp__law_draw e) (bn__law_draw_2 e) pass0 (pa_cons (uv 0) (pa_cons (pe_op (k_add (K := K) rfl) (uv 5) pe_int) pa_nil))))))
            (pss_one (u_dput (hu_of hr) (uv 2) (uv 6) (pe_callTy (T := "tuple") (k_tuple (K := K) rfl) (by rfl) (fr_tuple e) (by decide +kernel) (pa_cons (uv 7) pa_nil))))) pss_nil)))
            (pss_one (ps_ret (uv 2)))))), ?_⟩
    intro d hd0
    have nwd : New H d (.dK []) (upd H d (.dK [])) := ⟨hd0, rfl⟩
    have gd := nwd.gr0 hg
    have pnd := hp.gr gd
    have pd : p ≠ d := hp.off hd0
    have dG : G d = none := ex_none hg hd0
    generalize upd H d (.dK []) = H0 at nwd gd pnd
    refine ⟨szr (n := 4) (by decide +kernel), fun o1 H1 nw1 => ?_⟩
    have g1 := nw1.gr gd.gh
    refine ⟨_, p, o1, _, _, rfl, g1.gh, SqL.of upd_same, pnd.gr g1, by omega, (by show 0 < 4; decide), (by show 4 < 2000; decide), fun v1 G2 H2 hv1 g2 pn2 => ?_⟩
    have hsh : ∃ sh : Int, v1 = .int sh := by
      simp only [List.mem_cons, List.not_mem_nil, or_false] at hv1
      rcases hv1 with rfl | rfl | rfl | rfl
      all_goals exact ⟨_, rfl⟩
    obtain ⟨sh, rfl⟩ := hsh
    refine ⟨szr (n := 4) (by decide +kernel), fun o2 H3 nw3 => ?_⟩
    have g3 := nw3.gr g2.gh
    refine ⟨_, p, o2, _, _, rfl, g3.gh, SqL.of upd_same, pn2.gr g3, by omega, (by show 0 < 4; decide), (by show 4 < 2000; decide), fun v2 G4 H4 hv2 g4 pn4 => ?_⟩
    have hba : ∃ ba : Int, v2 = .int ba := by
      simp only [List.mem_cons, List.not_mem_nil, or_false] at hv2
      rcases hv2 with rfl | rfl | rfl | rfl
      all_goals exact ⟨_, rfl⟩
    obtain ⟨ba, rfl⟩ := hba
    refine ⟨szr (n := 3) (by decide +kernel), fun o3 H5 nw5 => ?_⟩
    have g5 := nw5.gr g4.gh
    refine ⟨_, p, o3, _, _, rfl, g5.gh, SqL.of upd_same, pn4.gr g5, by omega, (by show 0 < 3; decide), (by show 3 < 2000; decide), fun v3 G6 H6 hv3 g6 pn6 => ?_⟩
    have hmo : ∃ mo : Int, v3 = .int mo ∧ 0 ≤ mo ∧ mo ≤ 2000 := by
      simp only [List.mem_cons, List.not_mem_nil, or_false] at hv3
      rcases hv3 with rfl | rfl | rfl
      · exact ⟨_, rfl, by decide, by decide⟩
      · exact ⟨_, rfl, by decide, by decide⟩
      · exact ⟨_, rfl, by decide, by decide⟩
    obtain ⟨mo, rfl, mo0, mo1⟩ := hmo
    refine ⟨szr (n := 2) (by decide +kernel), fun t7 H7 nw7 => ?_⟩
    refine ⟨_, SqT.of nw7.at, rfl, ?_⟩
    have g7 := nw7.gr0 g6.gh
    have s7 : GrM p G H0 G6 H7 := (g1.m p).trans (g2.trans ((g3.m p).trans (g4.trans ((g5.m p).trans (g6.trans (g7.m p))))))
    have pn7 := pn6.gr g7
    have x7 := s7.gg
    refine ⟨_, dget_of (s7.gh _ _ (x7 _ _ s1)) s3, ?_⟩
    refine ⟨⟨by omega, by omega⟩, fun rl H8 nw8 => ?_⟩
    have g8 := nw8.gr s7.gh
    refine ⟨_, p, rl, _, _, rfl, g8.gh, SqL.of upd_same, by rw [List.length_map, List.length_range]; omega, pn7.gr g8, by omega, fun sl ys G9 H9 ssl pm g9 pn9 => ?_⟩
    have s9 : GrM p G H0 G9 H9 := s7.trans ((g8.m p).trans g9)
    -- the places in their drawn order
    obtain ⟨ps, rfl, pps⟩ : ∃ ps : List Int, ys = ps.map V.int ∧ ps.Perm ((List.range n.toNat).map fun i : Nat => (i : Int)) := by
      have e : ((List.range n.toNat).map fun i : Nat => V.int (i : Int)) = ((List.range n.toNat).map fun i : Nat => (i : Int)).map V.int := by rw [List.map_map]; rfl
      rw [e] at pm
      refine ⟨ys.map fun v => match v with | .int i => i | _ => 0, ?_, ?_⟩
      · rw [List.map_map]
        have : ∀ y ∈ ys, (V.int ∘ fun v => match v with | .int i => i | _ => 0) y = y := by
          intro y hy
          obtain ⟨i, _, rfl⟩ := List.mem_map.mp (pm.mem_iff.mp hy)
          rfl
        exact (List.map_congr_left this).symm ▸ (List.map_id ys).symm
      · have := pm.map (fun v : V => match v with | .int i => i | _ => 0)
        rw [List.map_map] at this
        exact this.trans (List.Perm.of_eq (List.map_id _))
    have psnd : ps.Nodup := by
      refine pps.nodup_iff.mpr ?_
      exact List.pairwise_map.mpr (List.nodup_range.imp fun h => by omega)
    have psin : ∀ x ∈ ps, 0 ≤ x ∧ x < n := by
      intro x hx
      obtain ⟨i, hi, rfl⟩ := List.mem_map.mp (pps.mem_iff.mp hx)
      have := List.mem_range.mp hi
      omega
    have lps : ps.length = n.toNat := by rw [pps.length_eq, List.length_map, List.length_range]
    have hd9 : H9 d = some (.dK []) := s9.hh _ _ pd.symm nwd.at
    have dG9 : G9 d = none := s9.free (some_ne nwd.at) dG
    refine ⟨true, _, Evl.ex_l g9.gh ssl, ?_⟩
    have lm : (ps.map V.int).length = ps.length := List.length_map _
    rw [lm]
    refine ⟨fun i σ H' => ∃ (G1 : Hp) (kvs : List (Key × V)) (ws : List Wish) (y6 y7 : Option V), Ex G9 G1 ∧ Ex G1 H' ∧ GrM p G H G1 H' ∧ Pen K ("index" : PySem.Str) ("left" : PySem.Str) G1 H' p (b + 1500 + 11 * i) ∧ σ = [some (.ref p), some (.ref a), some (.ref d), some (.int sh), some (.int ba), some (.int mo), y6, y7, none] ∧ G1 d = none ∧ H' d = some (.dK kvs) ∧ Paired (WishKV K G1) kvs ws ∧ WishOk L n ws ∧ (∀ w ∈ ws, w.1 ∈ ps.take i) ∧ ws.length ≤ i ∧ (∀ w ∈ ws, ∀ x ∈ w.2, ∀ i, x = some i → i ≤ 2000), ?_, ?_, ?_, ?_⟩
    · exact ⟨G9, [], [], none, none, ex_refl _, g9.gh, (gd.m p).trans s9, pn9.up (by omega), rfl, dG9, hd9, .nil, ⟨fun w hw => (by cases hw), List.nodup_nil⟩, fun w hw => (by cases hw), Nat.le_refl _, fun w hw => (by cases hw)⟩
    · rintro i σ H' _ ⟨G1, kvs, ws, y6, y7, k1, k2, _⟩
      exact Evl.ex_l (ex_trans k1 k2) ssl
    · rintro i x σ H10 H' hi ⟨G10, kvs, ws, y6, y7, k1, k2, k3, pn10, rfl, k4, k5, k6, k7, k8, k9, k10⟩ ⟨rfl, hx⟩
      have hi' : i < ps.length := hi
      rw [List.getElem?_map, List.getElem?_eq_getElem hi'] at hx
      obtain rfl := Option.some.inj hx
      have hpl := psin _ (List.getElem_mem hi')
      have hpt : ∀ w ∈ ws, w.1 ∈ ps.take (i + 1) := fun w hw => List.mem_of_mem_take (l := ps.take (i + 1)) (i := i) (by rw [List.take_take, Nat.min_eq_left (Nat.le_succ _)]; exact k8 w hw)
      refine ⟨G10, p, _, _, rfl, k2, pn10, by omega, by decide, by decide, fun dr G11 H11 g11 pn11 dr0 dr1 => ?_⟩
      have d11 : H11 d = some (.dK kvs) := g11.hh _ _ pd.symm k5
      have dG11 : G11 d = none := g11.free (some_ne k5) k4
      refine bite_d (fun hc => ?_) (fun hc => ?_)
      · have x11 : Ex G G11 := ex_trans k3.gg g11.gg
        refine ⟨_, dget_of (g11.gh _ _ (x11 _ _ s1)) s2, ?_⟩
        refine ⟨⟨by omega, by omega⟩, ?_⟩
        refine lc_pen 2 pn11 g11.gh (fun j _ acc => ∃ r : List (Option Int), acc = r.map pV ∧ r.length = j ∧ ∀ x ∈ r, ∀ i, x = some i → 0 ≤ i ∧ i ≤ 2000) ?_ ⟨[], rfl, rfl, fun x hx => by cases hx⟩ ?_ (fun _ _ _ => trivial) ?_ ?_
        · exact Nat.le_trans (by omega : L.toNat ≤ 5) (szr (by decide +kernel))
        · rintro j _ acc ⟨r, rfl, e, _⟩
          rw [List.length_map, e]
          exact Nat.le_refl _
        · rintro j x G12 H12 H13 acc hj g12 pn12 ⟨r, rfl, e, hr⟩ ⟨rfl, rfl⟩ R R0 r1 r2
          have hj' : j < L.toNat := hj
          refine ⟨rfl, ?_⟩
          refine ⟨G12, p, _, _, rfl, g12.gh, pn12, by omega, by decide, by decide, fun a1 G13 H13 g13 pn13 a10 a11 => ?_⟩
          refine bite_d (fun hc => ?_) (fun hc => ?_)
          · refine r1 _ G13 H13 g13 (pn13.up (by omega)) ⟨r ++ [none], by simp [pV], by simp [e], fun x hx i ei => ?_⟩
            rcases List.mem_append.mp hx with hx | hx
            · exact hr x hx i ei
            · rw [List.mem_singleton.mp hx] at ei
              cases ei
          · refine ⟨G13, p, _, _, rfl, g13.gh, pn13, by omega, by omega, by omega, fun a2 G14 H14 g14 pn14 a20 a21 => ?_⟩
            refine r1 _ G14 H14 (g13.trans g14) (pn14.up (by omega)) ⟨r ++ [some a2], by simp [pV], by simp [e], fun x hx i ei => ?_⟩
            rcases List.mem_append.mp hx with hx | hx
            · exact hr x hx i ei
            · rw [List.mem_singleton.mp hx] at ei
              cases ei
              omega
        · rintro D G12 H12 acc g12 pn12 hpD hD hGD h12 ⟨r, rfl, lr, hr⟩
          refine ⟨_, Or.inl ⟨SqL.of h12, fun tt H13 nw13 => ?_⟩⟩
          have g13 := nw13.gr g12.gh
          have d13 : H13 d = some (.dK kvs) := g13.hh _ _ (g12.hh _ _ pd.symm d11)
          have dG13 := g13.free (some_ne (g12.hh _ _ pd.symm d11)) (g12.free (some_ne d11) dG11)
          have lkv : kvs.length = ws.length := paired_len k6
          have notin : ps[i] ∉ ws.map (·.1) := by
            intro hm
            obtain ⟨w, hw, ew⟩ := List.mem_map.mp hm
            have h1 := k8 w hw
            rw [ew] at h1
            obtain ⟨j, hj, ej⟩ := List.mem_iff_getElem.mp h1
            rw [List.length_take] at hj
            rw [List.getElem_take] at ej
            exact List.pairwise_iff_getElem.mp psnd j i (by omega) hi' (by omega) ej
          refine ⟨_, DPut.k (k := .inl ps[i]) d13 (by rw [lkv]; exact Nat.lt_of_le_of_lt (show ws.length ≤ 1000 by omega) (Nat.lt_of_lt_of_le (by decide : 1000 < 1001) (szr (by decide +kernel)))), ?_⟩
          have k6' := wishes_up (ex_trans g11.gg (ex_trans g12.gg g13.gg)) k6
          rw [putK_new _ (wish_fresh k6' notin)]
          have s13 : GrM p G H _ H13 := k3.trans (g11.trans (g12.trans (g13.m p)))
          have chd : Chg H13 d (.dK (kvs ++ [(Sum.inl ps[i], .ref tt)])) (upd H13 d (.dK (kvs ++ [(Sum.inl ps[i], .ref tt)]))) := ⟨rfl⟩
          refine ⟨_, kvs ++ [(.inl ps[i], .ref tt)], ws ++ [(ps[i], r)], _, _, ex_trans k1 (ex_trans g11.gg (ex_trans g12.gg g13.gg)), (chd.grm s13.gh dG13).gh, s13.loc hd0 dG13, ((pn12.gr g13).loc pd).up (by omega), rfl, dG13, upd_same, ?_, ?_, ?_, ?_, ?_⟩
          · exact paired_one k6' ⟨rfl, tt, rfl, SqT.of upd_same⟩
          · refine ⟨fun w hw => ?_, ?_⟩
            · rcases List.mem_append.mp hw with hw | hw
              · exact k7.each w hw
              · rw [List.mem_singleton.mp hw]
                exact ⟨hpl.1, hpl.2, by show (r.length : Int) = L; omega, fun x hx i ei => (hr x hx i ei).1⟩
            · rw [List.map_append]
              refine List.nodup_append.mpr ⟨k7.nodup, by simp, fun a ha b hb => ?_⟩
              rw [List.mem_singleton.mp hb]
              intro z
              rw [z] at ha
              exact notin ha
          · intro w hw
            rcases List.mem_append.mp hw with hw | hw
            · exact hpt w hw
            · rw [List.mem_singleton.mp hw, List.take_add_one, List.getElem?_eq_getElem hi']
              exact List.mem_append_right _ (by simp)
          · rw [List.length_append]
            show ws.length + 1 ≤ i + 1
            omega
          · intro w hw
            rcases List.mem_append.mp hw with hw | hw
            · exact k10 w hw
            · rw [List.mem_singleton.mp hw]
              exact fun x hx i ei => (hr x hx i ei).2
      · exact ⟨G11, kvs, ws, _, _, ex_trans k1 g11.gg, g11.gh, k3.trans g11, pn11.up (by omega), rfl, dG11, d11, wishes_up g11.gg k6, k7, hpt, by omega, k10⟩
    · rintro σ H10 ⟨G10, kvs, ws, y6, y7, k1, k2, k3, pn10, rfl, k4, k5, k6, k7, k8, k9, k10⟩
      exact q d kvs ws G10 H10 k3 pd hd0 k4 k5 k6 k7 (by omega) k10 (pn10.up (by omega))
end
end k36

namespace k36
open PySem PySem.Spec PyProof.Rows L2 Ech
open He (ga ma)
open He5 (wf)
/-! ### _law_value_text -/
theorem sc__law_value_text : FnScope ["_law_value"] ["_law_value"] (defScope s__law_value_text) := ⟨rfl, rfl, rfl, by decide +kernel, rfl, by decide +kernel, by decide +kernel⟩
section
variable {P : Program} {w : World} {K : PySem.W.Frag} {mg : PySem.Str → Option Value} {base : Heap}
theorem F__law_value_text (e : Ev K mg) : FunD K "_law_value_text" "_law_value_text" (defArgs s__law_value_text) (defBody s__law_value_text) (defScope s__law_value_text) [] [] (ga K "_law_value_text") (fdA K (ga K "_law_value_text")) := e.fun_ 79 (d := d__law_value_text)
theorem kp__law_value_text (e : Ev K mg) : PySem.W.keepIn K (.ref (ga K "_law_value_text")) = true := (F__law_value_text e).kp
theorem b__law_value_text (e : Ev K mg) : Binds K (fdA K (ga K "_law_value_text")) ["_law_value"] [] := (F__law_value_text e).bindsN fun _ _ _ _ _ _ us hl => match us, hl with | [_], _ => rfl
theorem bn__law_value_text_1 (e : Ev K mg) : Bnd K (ga K "_law_value_text") ["_law_value"] [] := ⟨[], .nil, b__law_value_text e⟩
theorem kitAny_two {K : PySem.W.Frag} {t a b : Value} (h1 : PySem.W.kitOne K t a = some false) (h2 : PySem.W.kitOne K t b = some false) : PySem.W.kitAny K t [a, b] = some false := kitAny_cons h1 (fun _ => kitAny_cons h2 (fun _ => rfl) (fun z => by cases z)) (fun z => by cases z)
theorem not_own2 {K : PySem.W.Frag} {H : Hp} {f : Bool} {v : V} {d : PyData} {Q : VK} (h : Dq K H f v d) {C1 C2 tp : Addr} (k : NoKin K C1) (m : NoKin K C2) (ht : H tp = some (.tup [.ref C1, .ref C2])) (q : Q (.bl false) H) : rIsiU K [v, .ref tp] H Q := by
  have go : ∀ t, TyX K H v t → PySem.W.kitOne K t (.ref C1) = some false → PySem.W.kitOne K t (.ref C2) = some false → rIsiU K [v, .ref tp] H Q := fun t h1 h2 h3 => Or.inr (Or.inl ⟨v, tp, _, t, [.ref C1, .ref C2], false, rfl, ht, .cons (.own C1) (.cons (.own C2) .nil), h1, kitAny_two h2 h3, q⟩)
  have gq : ∀ a, v = .ref a → DictQ H a → rIsiU K [v, .ref tp] H Q := fun a ha hd => by
    subst ha
    exact Or.inr (Or.inr (Or.inr ⟨a, tp, _, [.ref C1, .ref C2], false, rfl, ht, .cons (.own C1) (.cons (.own C2) .nil), hd, kitAny_two k.dict m.dict, q⟩))
  cases h with
  | non => exact go _ (.base .non) k.none m.none
  | bl b => exact go _ (.base (.bl b)) k.bool m.bool
  | int i => exact go _ (.base (.int i)) k.int m.int
  | str x => exact go _ (.base (.str x)) k.str m.str
  | lst h _ _ => exact go _ (ty_lst h) k.list m.list
  | tup h _ => exact go _ (ty_tup h) k.tuple m.tuple
  | dct h _ _ =>
    rcases h with h | ⟨o, h⟩
    · exact go _ (.base (.dK h)) k.dict m.dict
    · exact go _ (.fDict h) k.dict m.dict
  | dtu h _ _ => exact gq _ rfl (.inr ⟨_, h⟩)
  | dbo h _ _ => exact gq _ rfl (.inl ⟨_, h⟩)
def sp__law_value_text (K : PySem.W.Frag) : Sp := fun vs H Q _ => ∃ (v : V) (f : Bool) (k n : Nat) (d : PyData), vs = [v] ∧ AnyQ K H f k n v d ∧ k ≤ 40 ∧ n ≤ 150000 ∧ ∀ H', Ex H H' → Q (.str d.shown) H'
theorem ok__law_value_text (e : Ev K mg) : FnGH P w K mg base 1 (ga K "_law_value_text") (fdA K (ga K "_law_value_text")) ["_law_value"] (sp__law_value_text K) := by
  refine FnGH.body (F__law_value_text e) sc__law_value_text (fun vs H Q E h => ?_) (fun cdv A outer s H vs Q c hr hq h => ?_)
  · obtain ⟨v, f, k, n, d, rfl, _⟩ := h
    rfl
  · obtain ⟨v, f, k, n, d, rfl, av, hk, hn, q⟩ := h
    refine ⟨_, (pss_one (ps_ret (u_ifExp (k_tru (K := K) rfl (pe_callB (id := "isinstance") (k_isi (K := K) rfl) (by rfl) (fr_isinstance e) (by decide +kernel) (pa_cons (uv 0) (pa_cons (u_tup (pa_cons (pe_glob (v := .ref (ga K "Song")) (by rfl) (gl_Song e) rfl) (pa_cons (pe_glob (v := .ref (ga K "Table")) (by rfl) (gl_Table e) rfl) pa_nil))) pa_nil)))) pe_str (pe_callB (id := "repr") (k_reprQ (K := K) rfl hq hr.units) (by rfl) (fr_repr e) (by decide +kernel) (pa_cons (uv 0) pa_nil))))), ?_⟩
    refine ⟨szr (n := 2) (by decide +kernel), fun tp H1 n1 => ?_⟩
    refine not_own2 (av.dq.up n1.ex) ⟨kin_Song_NoneType e, kin_Song_bool e, kin_Song_int e, kin_Song_str e, kin_Song_list e, kin_Song_tuple e, kin_Song_dict e⟩ ⟨kin_Table_NoneType e, kin_Table_bool e, kin_Table_int e, kin_Table_str e, kin_Table_list e, kin_Table_tuple e, kin_Table_dict e⟩ n1.at ?_
    exact ⟨f, k, n, d, av.up n1.ex, hk, hn, q H1 n1.ex⟩
end
end k36

namespace k36
open PySem PySem.Spec PyProof.Rows L2 Ech
open He (ga ma)
open He5 (wf)
/-! ### InvalidSong.__init__ -/
theorem sc_InvalidSong_init : FnScope ["self", "value"] ["self", "value"] (defScope s_InvalidSong_init) := ⟨rfl, rfl, rfl, by decide +kernel, rfl, by decide +kernel, by decide +kernel⟩
section
variable {P : Program} {w : World} {K : PySem.W.Frag} {mg : PySem.Str → Option Value} {base : Heap}
theorem F_InvalidSong_init (e : Ev K mg) : FunD K "__init__" "InvalidSong.__init__" (defArgs s_InvalidSong_init) (defBody s_InvalidSong_init) (defScope s_InvalidSong_init) [] [] (ma K (ga K "InvalidSong") "__init__") (fdA K (ma K (ga K "InvalidSong") "__init__")) := e.fun_ 11 (d := d_InvalidSong_init)
theorem b_InvalidSong_init (e : Ev K mg) : Binds K (fdA K (ma K (ga K "InvalidSong") "__init__")) ["self", "value"] [] := (F_InvalidSong_init e).bindsN fun _ _ _ _ _ _ us hl => match us, hl with | [_, _], _ => rfl
def sp_InvalidSong_init (K : PySem.W.Frag) : Sp := spErr K (ga K "InvalidSong") "value"
theorem ok_InvalidSong_init (e : Ev K mg) : FnOk P w K mg base CX0 1 (ma K (ga K "InvalidSong") "__init__") (fdA K (ma K (ga K "InvalidSong") "__init__")) ["self", "value"] (sp_InvalidSong_init K) := by
  refine (F_InvalidSong_init e).ok sc_InvalidSong_init (fun vs H Q E h => ?_) (fun cdv A outer s H vs Q E hr h => ?_)
  · obtain ⟨a, v, rfl, _⟩ := h
    rfl
  · obtain ⟨a, v, rfl, ha, q⟩ := h
    refine ⟨_, PSs.nox (pss_cons (ps_expr (pe_veinit (by rfl) (fr_ValueError e) (er_InvalidSong e).vei (pa_cons (uv 0) (pa_cons pe_str pa_nil))))
            (pss_one (ps_ost (uv 0) (uv 1)))), ?_⟩
    refine ⟨a, (ga K "InvalidSong"), _, rfl, by decide, (er_InvalidSong e).oex, ha, ?_⟩
    exact ⟨a, (ga K "InvalidSong"), rfl, (er_InvalidSong e).oex, (er_InvalidSong e).none_, Or.inl ⟨ha, fun dx h1 h2 => q dx h1 h2⟩⟩
end
end k36

namespace k36
open PySem PySem.Spec PyProof.Rows L2 Ech
open He (ga ma)
open He5 (wf)
/-! ### need_song -/
theorem sc_need_song : FnScope ["song"] ["song"] (defScope s_need_song) := ⟨rfl, rfl, rfl, by decide +kernel, rfl, by decide +kernel, by decide +kernel⟩
section
variable {P : Program} {w : World} {K : PySem.W.Frag} {mg : PySem.Str → Option Value} {base : Heap}
theorem F_need_song (e : Ev K mg) : FunD K "need_song" "need_song" (defArgs s_need_song) (defBody s_need_song) (defScope s_need_song) [] [] (ga K "need_song") (fdA K (ga K "need_song")) := e.fun_ 51 (d := d_need_song)
theorem kp_need_song (e : Ev K mg) : PySem.W.keepIn K (.ref (ga K "need_song")) = true := (F_need_song e).kp
theorem b_need_song (e : Ev K mg) : Binds K (fdA K (ga K "need_song")) ["song"] [] := (F_need_song e).bindsN fun _ _ _ _ _ _ us hl => match us, hl with | [_], _ => rfl
theorem bn_need_song_1 (e : Ev K mg) : Bnd K (ga K "need_song") ["song"] [] := ⟨[], .nil, b_need_song e⟩
def sp_need_song (K : PySem.W.Frag) : Sp := fun vs H Q E => ∃ (v : V), vs = [v] ∧ ((∃ (G : Hp) (a : Addr) (L n : Int) (es : List Ec), v = .ref a ∧ Ex G H ∧ SongAt K G a L n es ∧ Q .non H) ∨ (∃ f d, Dq K H f v d ∧ RaisesQ K "InvalidSong" v H E))
theorem ok_need_song (e : Ev K mg) : FnOk P w K mg base (L2.CX P w) 3 (ga K "need_song") (fdA K (ga K "need_song")) ["song"] (sp_need_song K) := by
  refine (F_need_song e).ok sc_need_song (fun vs H Q E h => ?_) (fun cdv A outer s H vs Q E hr h => ?_)
  · obtain ⟨v, rfl, _⟩ := h
    rfl
  · obtain ⟨v, rfl, h⟩ := h
    refine ⟨_, (pss_one (u_if (pt_not (k_tru (K := K) rfl (pe_callB (id := "isinstance") (k_isi (K := K) rfl) (by rfl) (fr_isinstance e) (by decide +kernel) (pa_cons (uv 0) (pa_cons (pe_glob (v := .ref (ga K "Song")) (by rfl) (gl_Song e) rfl) pa_nil))))) (pss_one (u_raise (by rfl) (takes_of rfl rfl rfl rfl) (er_InvalidSong e).oex (er_InvalidSong e).ini (er_InvalidSong e).fun_ (ok_InvalidSong_init e) (hr.mono (by decide)) (b_InvalidSong_init e) pass0 (by rfl) (gl_InvalidSong e) (pa_cons (uv 0) pa_nil))) pss_nil)), ?_⟩
    rcases h with ⟨G, a, L, n, es, rfl, hg, ⟨dx, vo, ws, h1, h2, h3⟩, q⟩ | ⟨f, d, dv, q⟩
    · refine Or.inl ⟨_, _, _, _, true, rfl, .own _, in_Song e (hg _ _ h1), kit_self, ?_⟩
      exact q
    · refine dv.not_own ⟨kin_Song_NoneType e, kin_Song_bool e, kin_Song_int e, kin_Song_str e, kin_Song_list e, kin_Song_tuple e, kin_Song_dict e⟩ ?_
      exact fun d H2 n2 => q d H H2 (ex_refl _) n2
end
end k36

namespace k36
open PySem PySem.Spec PyProof.Rows L2 Ech
open He (ga ma)
open He5 (wf)
/-! ### TooFar.__init__ -/
theorem sc_TooFar_init : FnScope ["self", "limit"] ["self", "limit"] (defScope s_TooFar_init) := ⟨rfl, rfl, rfl, by decide +kernel, rfl, by decide +kernel, by decide +kernel⟩
section
variable {P : Program} {w : World} {K : PySem.W.Frag} {mg : PySem.Str → Option Value} {base : Heap}
theorem F_TooFar_init (e : Ev K mg) : FunD K "__init__" "TooFar.__init__" (defArgs s_TooFar_init) (defBody s_TooFar_init) (defScope s_TooFar_init) [] [] (ma K (ga K "TooFar") "__init__") (fdA K (ma K (ga K "TooFar") "__init__")) := e.fun_ 20 (d := d_TooFar_init)
theorem b_TooFar_init (e : Ev K mg) : Binds K (fdA K (ma K (ga K "TooFar") "__init__")) ["self", "limit"] [] := (F_TooFar_init e).bindsN fun _ _ _ _ _ _ us hl => match us, hl with | [_, _], _ => rfl
def sp_TooFar_init (K : PySem.W.Frag) : Sp := spErr K (ga K "TooFar") "limit"
theorem ok_TooFar_init (e : Ev K mg) : FnOk P w K mg base CX0 1 (ma K (ga K "TooFar") "__init__") (fdA K (ma K (ga K "TooFar") "__init__")) ["self", "limit"] (sp_TooFar_init K) := by
  refine (F_TooFar_init e).ok sc_TooFar_init (fun vs H Q E h => ?_) (fun cdv A outer s H vs Q E hr h => ?_)
  · obtain ⟨a, v, rfl, _⟩ := h
    rfl
  · obtain ⟨a, v, rfl, ha, q⟩ := h
    refine ⟨_, PSs.nox (pss_cons (ps_expr (u_ginit be_OverflowError (er_TooFar e).oex (by rfl) (fr_OverflowError e) (by rfl) (er_TooFar e).vei (pa_cons (uv 0) (pa_cons pe_str pa_nil))))
            (pss_one (u_gset be_OverflowError (er_TooFar e).oex (er_TooFar e).none_ (uv 0) (uv 1)))), ?_⟩
    refine ⟨by decide, ha, ?_⟩
    exact ⟨ha, fun dx h1 h2 => q dx h1 h2⟩
end
end k36

namespace k36
open PySem PySem.Spec PyProof.Rows L2 Ech
open He (ga ma)
open He5 (wf)
/-! ### Song.is_near -/
theorem sc_Song_is_near : FnScope ["self"] ["self"] (defScope s_Song_is_near) := ⟨rfl, rfl, rfl, by decide +kernel, rfl, by decide +kernel, by decide +kernel⟩
section
variable {P : Program} {w : World} {K : PySem.W.Frag} {mg : PySem.Str → Option Value} {base : Heap}
theorem F_Song_is_near (e : Ev K mg) : FunD K "is_near" "Song.is_near" (defArgs s_Song_is_near) (defBody s_Song_is_near) (defScope s_Song_is_near) [] [] (wf K (ga K "Song") "property" "is_near") (fdA K (wf K (ga K "Song") "property" "is_near")) := e.fun_ 45 (d := d_Song_is_near)
theorem b_Song_is_near (e : Ev K mg) : Binds K (fdA K (wf K (ga K "Song") "property" "is_near")) ["self"] [] := (F_Song_is_near e).bindsN fun _ _ _ _ _ _ us hl => match us, hl with | [_], _ => rfl
def sp_Song_is_near (K : PySem.W.Frag) : Sp := fun vs H Q _ => ∃ (G : Hp) (a : Addr) (L n : Int) (es : List Ec), vs = [.ref a] ∧ Ex G H ∧ SongAt K G a L n es ∧ Q (.bl (decide (n ≤ 40))) H
theorem ok_Song_is_near (e : Ev K mg) : FnOk P w K mg base CX0 1 (wf K (ga K "Song") "property" "is_near") (fdA K (wf K (ga K "Song") "property" "is_near")) ["self"] (sp_Song_is_near K) := by
  refine (F_Song_is_near e).ok sc_Song_is_near (fun vs H Q E h => ?_) (fun cdv A outer s H vs Q E hr h => ?_)
  · obtain ⟨G, a, L, n, es, rfl, _⟩ := h
    rfl
  · obtain ⟨G, a, L, n, es, rfl, hg, ⟨dx, vo, ws, h1, h2, h3⟩, q⟩ := h
    refine ⟨_, PSs.nox (pss_one (ps_ret (u_cmp o_le (u_fld (cl_Song e) (na_Song_size e) (uv 0)) (u_con (cl_Song e) (cc_Song_NEAR e) (uv 0)) (nomark _)))), ?_⟩
    refine ⟨dx, _, _, hg _ _ h1, look_size _ _ _, ?_⟩
    exact ⟨dx, _, hg _ _ h1, by rfl, q⟩
end
end k36

namespace k36
open PySem PySem.Spec PyProof.Rows L2 Ech
open He (ga ma)
open He5 (wf)
/-! ### need_near -/
theorem sc_need_near : FnScope ["song"] ["song"] (defScope s_need_near) := ⟨rfl, rfl, rfl, by decide +kernel, rfl, by decide +kernel, by decide +kernel⟩
section
variable {P : Program} {w : World} {K : PySem.W.Frag} {mg : PySem.Str → Option Value} {base : Heap}
theorem F_need_near (e : Ev K mg) : FunD K "need_near" "need_near" (defArgs s_need_near) (defBody s_need_near) (defScope s_need_near) [] [] (ga K "need_near") (fdA K (ga K "need_near")) := e.fun_ 52 (d := d_need_near)
theorem kp_need_near (e : Ev K mg) : PySem.W.keepIn K (.ref (ga K "need_near")) = true := (F_need_near e).kp
theorem b_need_near (e : Ev K mg) : Binds K (fdA K (ga K "need_near")) ["song"] [] := (F_need_near e).bindsN fun _ _ _ _ _ _ us hl => match us, hl with | [_], _ => rfl
theorem bn_need_near_1 (e : Ev K mg) : Bnd K (ga K "need_near") ["song"] [] := ⟨[], .nil, b_need_near e⟩
def RaisesFar (K : PySem.W.Frag) (H : Hp) (E : XK) : Prop := ∀ d H1 H2, Ex H H1 → New H1 d (.xd [("limit", .int 40)]) H2 → E (.ref (ga K "TooFar")) (some d) H2
def BadSong (K : PySem.W.Frag) (G H : Hp) (v : V) (E : XK) : Prop := (∃ (a : Addr) (L n : Int) (es : List Ec), v = .ref a ∧ SongAt K G a L n es ∧ 40 < n ∧ RaisesFar K H E) ∨ (∃ f d, Dq K G f v d ∧ RaisesQ K "InvalidSong" v H E)
def sp_need_near (K : PySem.W.Frag) : Sp := fun vs H Q E => ∃ (G : Hp) (v : V), vs = [v] ∧ Ex G H ∧ ((∃ (a : Addr) (L n : Int) (es : List Ec), v = .ref a ∧ SongAt K G a L n es ∧ n ≤ 40 ∧ Q .non H) ∨ BadSong K G H v E)
theorem ok_need_near (e : Ev K mg) : FnOk P w K mg base (L2.CX P w) 4 (ga K "need_near") (fdA K (ga K "need_near")) ["song"] (sp_need_near K) := by
  refine (F_need_near e).ok sc_need_near (fun vs H Q E h => ?_) (fun cdv A outer s H vs Q E hr h => ?_)
  · obtain ⟨G, v, rfl, _⟩ := h
    rfl
  · obtain ⟨G, v, rfl, hg, h⟩ := h
    refine ⟨_, (pss_cons (ps_expr (u_callT (takes_of rfl rfl rfl rfl) (ok_need_song e) (hr.mono (by decide)) (by rfl) (gl_need_song e) (kp_need_song e) (bn_need_song_1 e) (pa_cons (uv 0) pa_nil)))
            (pss_one (u_if (pt_not (k_tru (K := K) rfl (u_prop (uv 0) (cl_Song e) (pr_Song_is_near e) (ok_Song_is_near e) (hr.mono (by decide)) (b_Song_is_near e) pass0))) (pss_one (u_raiseG be_OverflowError (by rfl) (takes_of rfl rfl rfl rfl) (er_TooFar e).oex (er_TooFar e).ini (er_TooFar e).fun_ (ok_TooFar_init e) (hr.mono (by decide)) (b_TooFar_init e) pass0 (by rfl) (gl_TooFar e) (pa_cons (u_con (cl_Song e) (cc_Song_NEAR e) (uv 0)) pa_nil))) pss_nil))), ?_⟩
    rcases h with ⟨a, L, n, es, rfl, hs, n2, q⟩ | ⟨a, L, n, es, rfl, hs, n2, q⟩ | ⟨f, d, dv, q⟩
    · obtain ⟨dx, vo, ws, h1, h2, h3⟩ := id hs
      refine ⟨_, rfl, Or.inl ⟨G, a, L, n, es, rfl, hg, hs, ?_⟩⟩
      refine ⟨dx, _, hg _ _ h1, ?_⟩
      refine ⟨G, a, L, n, es, rfl, hg, hs, ?_⟩
      refine bite_nd (fun hc => absurd n2 hc) (fun hc => ?_)
      exact q
    · obtain ⟨dx, vo, ws, h1, h2, h3⟩ := id hs
      refine ⟨_, rfl, Or.inl ⟨G, a, L, n, es, rfl, hg, hs, ?_⟩⟩
      refine ⟨dx, _, hg _ _ h1, ?_⟩
      refine ⟨G, a, L, n, es, rfl, hg, hs, ?_⟩
      refine bite_nd (fun hc => ?_) (fun hc => absurd hc (by omega))
      refine ⟨dx, _, hg _ _ h1, by rfl, ?_⟩
      exact fun d H2 n2 => q d H H2 (ex_refl _) n2
    · exact ⟨_, rfl, Or.inr ⟨f, d, dv.up hg, q⟩⟩
end
end k36

namespace k36
open PySem PySem.Spec PyProof.Rows L2 Ech
open He (ga ma)
open He5 (wf)
/-! ### _law_told -/
theorem sc__law_told : FnScope ["_law_call", "e"] ["_law_call"] (defScope s__law_told) := ⟨rfl, rfl, rfl, by decide +kernel, rfl, by decide +kernel, by decide +kernel⟩
section
variable {P : Program} {w : World} {K : PySem.W.Frag} {mg : PySem.Str → Option Value} {base : Heap}
theorem F__law_told (e : Ev K mg) : FunD K "_law_told" "_law_told" (defArgs s__law_told) (defBody s__law_told) (defScope s__law_told) [] [] (ga K "_law_told") (fdA K (ga K "_law_told")) := e.fun_ 78 (d := d__law_told)
theorem kp__law_told (e : Ev K mg) : PySem.W.keepIn K (.ref (ga K "_law_told")) = true := (F__law_told e).kp
theorem b__law_told (e : Ev K mg) : Binds K (fdA K (ga K "_law_told")) ["_law_call"] [] := (F__law_told e).bindsN fun _ _ _ _ _ _ us hl => match us, hl with | [_], _ => rfl
def ToldE (K : PySem.W.Frag) (Q : VK) : XK := fun cls d H' => (∃ word : PySem.Str, ((cls = .ref (ga K "InvalidSong") ∧ word = "song") ∨ (cls = .ref (ga K "InvalidRow") ∧ word = "row") ∨ (cls = .ref (ga K "InvalidWishes") ∧ word = "wishes")) ∧ ∃ dd v f k n dat, d = some dd ∧ H' dd = some (.xd [("value", v)]) ∧ AnyQ K H' f k n v dat ∧ k ≤ 40 ∧ n ≤ 150000 ∧ ∀ T H2, Ex H' H2 → H2 T = some (.tup [.str word, .str dat.shown, .bl true]) → Q (.ref T) H2) ∨
  (cls = .ref (ga K "TooFar") ∧ ∃ dd, d = some dd ∧ H' dd = some (.xd [("limit", .int 40)]) ∧ ∀ T H2, Ex H' H2 → H2 T = some (.tup [.str "far", .int 40, .bl true]) → Q (.ref T) H2)
def tt__law_told (K : PySem.W.Frag) : (XK → Hp → VK → Prop) → Hp → VK → Prop := fun tl H Q => tl (ToldE K Q) H (fun v H' => ∀ T H2, New H' T (.tup [.str "made", v]) H2 → Q (.ref T) H2)
theorem told_raise {K : PySem.W.Frag} {C word : PySem.Str} (hw : (C = "InvalidSong" ∧ word = "song") ∨ (C = "InvalidRow" ∧ word = "row") ∨ (C = "InvalidWishes" ∧ word = "wishes")) {G H : Hp} {v : V} {f : Bool} {k n : Nat} {dat : PyData} {Q : VK} (av : AnyQ K G f k n v dat) (hk : k ≤ 40) (hn : n ≤ 150000) (x : Ex G H)
    (q : ∀ T H2, Ex H H2 → H2 T = some (.tup [.str word, .str dat.shown, .bl true]) → Q (.ref T) H2) : RaisesQ K C v H (ToldE K Q) := fun d H1 H2 x1 n2 => by
  have x2 := ex_trans x1 n2.ex
  refine Or.inl ⟨word, ?_, d, v, f, k, n, dat, rfl, n2.at, av.up (ex_trans x x2), hk, hn, fun T H3 x3 h3 => q T H3 (ex_trans x2 x3) h3⟩
  rcases hw with ⟨rfl, h⟩ | ⟨rfl, h⟩ | ⟨rfl, h⟩
  · exact Or.inl ⟨rfl, h⟩
  · exact Or.inr (Or.inl ⟨rfl, h⟩)
  · exact Or.inr (Or.inr ⟨rfl, h⟩)
theorem told_far {K : PySem.W.Frag} {H : Hp} {Q : VK} (q : ∀ T H2, Ex H H2 → H2 T = some (.tup [.str "far", .int 40, .bl true]) → Q (.ref T) H2) : RaisesFar K H (ToldE K Q) := fun d H1 H2 x1 n2 =>
  Or.inr ⟨rfl, d, rfl, n2.at, fun T H3 x3 h3 => q T H3 (ex_trans (ex_trans x1 n2.ex) x3) h3⟩
theorem gv__law_told {X : Cx} (e : Ev X.K X.mg) (hr0 : Room 9 X.A) (hq0 : X.A.guards = some []) (cdg : Value) {q : PySem.Str} : GivesW X ["_law_call", "e"] "_law_told" (defScope s__law_told) (ga X.K "_law_told") cdg (defBody s__law_told) "_law_call" q (tt__law_told X.K) := by
  intro f c' s H Q tl act hc h
  have hr : Room 8 (X.A.deeper (envOfC "_law_told" (defScope s__law_told) s.heap.objs.size (ga X.K "_law_told") cdg)) := hr0.deeper _
  have hq : (X.A.deeper (envOfC "_law_told" (defScope s__law_told) s.heap.objs.size (ga X.K "_law_told") cdg)).guards = some [] := hq0
  refine ⟨_, (pss_one (ps_try_takes rfl rfl rfl sc__law_told.nd takesF (fun W pn xe tk po => (pss_one (ps_ret (u_tup (pa_cons pe_str (pa_cons (act W pn xe _ _ tk) pa_nil)))))) (.cons (i := 1) (by rfl) (by rfl) ⟨by rfl, by decide, Or.inl (gl_InvalidSong e)⟩ (fun _ _ => (pss_one (ps_ret (u_tup (pa_cons pe_str (pa_cons (u_callH (ok__law_value_text e) (hr.mono (by decide)) hq (by rfl) (gl__law_value_text e) (kp__law_value_text e) (bn__law_value_text_1 e) (pa_cons (u_xf (er_InvalidSong e).exc (er_InvalidSong e).none_ (uv 1)) pa_nil)) (pa_cons (pe_callB (id := "isinstance") (c_isH (K := X.K) rfl (er_InvalidSong e).exc) (by rfl) (fr_isinstance e) (by decide +kernel) (pa_cons (uv 1) (pa_cons (u_ty (n := "ValueError") (by rfl) (fr_ValueError e) (by decide +kernel)) pa_nil))) pa_nil))))))) (.cons (i := 1) (by rfl) (by rfl) ⟨by rfl, by decide, Or.inl (gl_InvalidRow e)⟩ (fun _ _ => (pss_one (ps_ret (u_tup (pa_cons pe_str (pa_cons (u_callH (ok__law_value_text e) (hr.mono (by decide)) hq (by rfl) (gl__law_value_text e) (kp__law_value_text e) (bn__law_value_text_1 e) (pa_cons (u_xf (er_InvalidRow e).exc (er_InvalidRow e).none_ (uv 1)) pa_nil)) (pa_cons (pe_callB (id := "isinstance") (c_isH (K := X.K) rfl (er_InvalidRow e).exc) (by rfl) (fr_isinstance e) (by decide +kernel) (pa_cons (uv 1) (pa_cons (u_ty (n := "ValueError") (by rfl) (fr_ValueError e) (by decide +kernel)) pa_nil))) pa_nil))))))) (.cons (i := 1) (by rfl) (by rfl) ⟨by rfl, by decide, Or.inl (gl_InvalidWishes e)⟩ (fun _ _ => (pss_one (ps_ret (u_tup (pa_cons pe_str (pa_cons (u_callH (ok__law_value_text e) (hr.mono (by decide)) hq (by rfl) (gl__law_value_text e) (kp__law_value_text e) (bn__law_value_text_1 e) (pa_cons (u_xf (er_InvalidWishes e).exc (er_InvalidWishes e).none_ (uv 1)) pa_nil)) (pa_cons (pe_callB (id := "isinstance") (c_isH (K := X.K) rfl (er_InvalidWishes e).exc) (by rfl) (fr_isinstance e) (by decide +kernel) (pa_cons (uv 1) (pa_cons (u_ty (n := "ValueError") (by rfl) (fr_ValueError e) (by decide +kernel)) pa_nil))) pa_nil))))))) (.cons (i := 1) (by rfl) (by rfl) ⟨by rfl, by decide, Or.inl (gl_InvalidPlace e)⟩ (fun _ _ => (pss_one ps_never)) (.cons (i := 1) (by rfl) (by rfl) ⟨by rfl, by decide, Or.inl (gl_TooFar e)⟩ (fun _ _ => (pss_one (ps_ret (u_tup (pa_cons pe_str (pa_cons (u_xf (er_TooFar e).exc (er_TooFar e).none_ (uv 1)) (pa_cons (pe_callB (id := "isinstance") (c_isH (K := X.K) rfl (er_TooFar e).exc) (by rfl) (fr_isinstance e) (by decide +kernel) (pa_cons (uv 1) (pa_cons (u_ty (n := "OverflowError") (by rfl) (fr_OverflowError e) (by decide +kernel)) pa_nil))) pa_nil))))))) (.cons (i := 1) (by rfl) (by rfl) ⟨by rfl, by decide, Or.inl (gl_Barred e)⟩ (fun _ _ => (pss_one ps_never)) .nil)))))))), ?_⟩
  refine ⟨_, _, fun cls d H' hE => ?_, fun v H' hR => ?_, rfl, hc, h⟩
  · rcases hE with ⟨word, hw, dd, v, f, k, n, dat, rfl, hd, av, hk, hn, q⟩ | ⟨rfl, dd, rfl, hd, q⟩
    · rcases hw with ⟨rfl, rfl⟩ | ⟨rfl, rfl⟩ | ⟨rfl, rfl⟩
      · refine ⟨true, (er_InvalidSong e).met, fun _ x hx => ?_, fun z => nomatch z⟩
        have x1 : Ex H' (upd H' x (ExH x (.ref (ga X.K "InvalidSong")) (some dd))) := Evl.Ex.new hx
        have hd1 := x1 _ _ hd
        have hx1 : (upd H' x (ExH x (.ref (ga X.K "InvalidSong")) (some dd))) x = some (ExH x (.ref (ga X.K "InvalidSong")) (some dd)) := upd_same
        generalize upd H' x (ExH x (.ref (ga X.K "InvalidSong")) (some dd)) = H1 at x1 hd1 hx1
        refine ⟨dd, _, v, hx1, hd1, by rfl, ?_⟩
        refine ⟨v, f, k, n, dat, rfl, av.up x1, hk, hn, fun H3 x3 => ?_⟩
        refine ⟨dd, _, .type "ValueError", true, x3 _ _ hx1, x3 _ _ hd1, (fun u hu => by cases hu; rfl), (er_InvalidSong e).isV, ?_⟩
        refine ⟨szr (n := 3) (by decide +kernel), fun l H2 n2 => ?_⟩
        exact q l H2 (ex_trans x1 (ex_trans x3 n2.ex)) n2.at
      · refine ⟨false, exm_InvalidRow_InvalidSong e, (fun z => nomatch z), fun _ => ?_⟩
        refine ⟨true, (er_InvalidRow e).met, fun _ x hx => ?_, fun z => nomatch z⟩
        have x1 : Ex H' (upd H' x (ExH x (.ref (ga X.K "InvalidRow")) (some dd))) := Evl.Ex.new hx
        have hd1 := x1 _ _ hd
        have hx1 : (upd H' x (ExH x (.ref (ga X.K "InvalidRow")) (some dd))) x = some (ExH x (.ref (ga X.K "InvalidRow")) (some dd)) := upd_same
        generalize upd H' x (ExH x (.ref (ga X.K "InvalidRow")) (some dd)) = H1 at x1 hd1 hx1
        refine ⟨dd, _, v, hx1, hd1, by rfl, ?_⟩
        refine ⟨v, f, k, n, dat, rfl, av.up x1, hk, hn, fun H3 x3 => ?_⟩
        refine ⟨dd, _, .type "ValueError", true, x3 _ _ hx1, x3 _ _ hd1, (fun u hu => by cases hu; rfl), (er_InvalidRow e).isV, ?_⟩
        refine ⟨szr (n := 3) (by decide +kernel), fun l H2 n2 => ?_⟩
        exact q l H2 (ex_trans x1 (ex_trans x3 n2.ex)) n2.at
      · refine ⟨false, exm_InvalidWishes_InvalidSong e, (fun z => nomatch z), fun _ => ?_⟩
        refine ⟨false, exm_InvalidWishes_InvalidRow e, (fun z => nomatch z), fun _ => ?_⟩
        refine ⟨true, (er_InvalidWishes e).met, fun _ x hx => ?_, fun z => nomatch z⟩
        have x1 : Ex H' (upd H' x (ExH x (.ref (ga X.K "InvalidWishes")) (some dd))) := Evl.Ex.new hx
        have hd1 := x1 _ _ hd
        have hx1 : (upd H' x (ExH x (.ref (ga X.K "InvalidWishes")) (some dd))) x = some (ExH x (.ref (ga X.K "InvalidWishes")) (some dd)) := upd_same
        generalize upd H' x (ExH x (.ref (ga X.K "InvalidWishes")) (some dd)) = H1 at x1 hd1 hx1
        refine ⟨dd, _, v, hx1, hd1, by rfl, ?_⟩
        refine ⟨v, f, k, n, dat, rfl, av.up x1, hk, hn, fun H3 x3 => ?_⟩
        refine ⟨dd, _, .type "ValueError", true, x3 _ _ hx1, x3 _ _ hd1, (fun u hu => by cases hu; rfl), (er_InvalidWishes e).isV, ?_⟩
        refine ⟨szr (n := 3) (by decide +kernel), fun l H2 n2 => ?_⟩
        exact q l H2 (ex_trans x1 (ex_trans x3 n2.ex)) n2.at
    · refine ⟨false, exm_TooFar_InvalidSong e, (fun z => nomatch z), fun _ => ?_⟩
      refine ⟨false, exm_TooFar_InvalidRow e, (fun z => nomatch z), fun _ => ?_⟩
      refine ⟨false, exm_TooFar_InvalidWishes e, (fun z => nomatch z), fun _ => ?_⟩
      refine ⟨false, exm_TooFar_InvalidPlace e, (fun z => nomatch z), fun _ => ?_⟩
      refine ⟨true, (er_TooFar e).met, fun _ x hx => ?_, fun z => nomatch z⟩
      have x1 : Ex H' (upd H' x (ExH x (.ref (ga X.K "TooFar")) (some dd))) := Evl.Ex.new hx
      have hd1 := x1 _ _ hd
      have hx1 : (upd H' x (ExH x (.ref (ga X.K "TooFar")) (some dd))) x = some (ExH x (.ref (ga X.K "TooFar")) (some dd)) := upd_same
      generalize upd H' x (ExH x (.ref (ga X.K "TooFar")) (some dd)) = H1 at x1 hd1 hx1
      refine ⟨dd, _, .int 40, hx1, hd1, by rfl, ?_⟩
      refine ⟨dd, _, .type "OverflowError", true, hx1, hd1, (fun u hu => by cases hu; rfl), (er_TooFar e).isV, ?_⟩
      refine ⟨szr (n := 3) (by decide +kernel), fun l H2 n2 => ?_⟩
      exact q l H2 (ex_trans x1 n2.ex) n2.at
  · exact ⟨szr (n := 2) (by decide +kernel), fun T H2 n2 => hR T H2 n2⟩
end
end k36

namespace k36
open PySem PySem.Spec PyProof.Rows L2 Ech
open He (ga ma)
open He5 (wf)
/-! ### Song.length -/
theorem sc_Song_length : FnScope ["self"] ["self"] (defScope s_Song_length) := ⟨rfl, rfl, rfl, by decide +kernel, rfl, by decide +kernel, by decide +kernel⟩
section
variable {P : Program} {w : World} {K : PySem.W.Frag} {mg : PySem.Str → Option Value} {base : Heap}
theorem F_Song_length (e : Ev K mg) : FunD K "length" "Song.length" (defArgs s_Song_length) (defBody s_Song_length) (defScope s_Song_length) [] [] (wf K (ga K "Song") "property" "length") (fdA K (wf K (ga K "Song") "property" "length")) := e.fun_ 42 (d := d_Song_length)
theorem b_Song_length (e : Ev K mg) : Binds K (fdA K (wf K (ga K "Song") "property" "length")) ["self"] [] := (F_Song_length e).bindsN fun _ _ _ _ _ _ us hl => match us, hl with | [_], _ => rfl
def sp_Song_length (K : PySem.W.Frag) : Sp := fun vs H Q _ => ∃ (G : Hp) (a : Addr) (L n : Int) (es : List Ec), vs = [.ref a] ∧ Ex G H ∧ SongAt K G a L n es ∧ Q (.int n) H
theorem ok_Song_length (e : Ev K mg) : FnOk P w K mg base CX0 1 (wf K (ga K "Song") "property" "length") (fdA K (wf K (ga K "Song") "property" "length")) ["self"] (sp_Song_length K) := by
  refine (F_Song_length e).ok sc_Song_length (fun vs H Q E h => ?_) (fun cdv A outer s H vs Q E hr h => ?_)
  · obtain ⟨G, a, L, n, es, rfl, _⟩ := h
    rfl
  · obtain ⟨G, a, L, n, es, rfl, hg, ⟨dx, vo, ws, h1, h2, h3⟩, q⟩ := h
    refine ⟨_, PSs.nox (pss_one (ps_ret (u_fld (cl_Song e) (na_Song_size e) (uv 0)))), ?_⟩
    exact ⟨dx, _, _, hg _ _ h1, look_size _ _ _, q⟩
end
end k36

namespace k36
open PySem PySem.Spec PyProof.Rows L2 Ech
open He (ga ma)
open He5 (wf)
/-! ### is_place -/
theorem sc_is_place : FnScope ["song", "value"] ["song", "value"] (defScope s_is_place) := ⟨rfl, rfl, rfl, by decide +kernel, rfl, by decide +kernel, by decide +kernel⟩
section
variable {P : Program} {w : World} {K : PySem.W.Frag} {mg : PySem.Str → Option Value} {base : Heap}
theorem F_is_place (e : Ev K mg) : FunD K "is_place" "is_place" (defArgs s_is_place) (defBody s_is_place) (defScope s_is_place) [] [] (ga K "is_place") (fdA K (ga K "is_place")) := e.fun_ 53 (d := d_is_place)
theorem kp_is_place (e : Ev K mg) : PySem.W.keepIn K (.ref (ga K "is_place")) = true := (F_is_place e).kp
theorem b_is_place (e : Ev K mg) : Binds K (fdA K (ga K "is_place")) ["song", "value"] [] := (F_is_place e).bindsN fun _ _ _ _ _ _ us hl => match us, hl with | [_, _], _ => rfl
theorem bn_is_place_2 (e : Ev K mg) : Bnd K (ga K "is_place") ["song", "value"] [] := ⟨[], .nil, b_is_place e⟩
def placeV (n : Int) : V → Bool
  | .int i => decide (0 ≤ i) && decide (i < n)
  | _ => false
def sp_is_place (K : PySem.W.Frag) : Sp := fun vs H Q _ => ∃ (G : Hp) (a : Addr) (L n : Int) (es : List Ec) (v : V), vs = [.ref a, v] ∧ Ex G H ∧ SongAt K G a L n es ∧ IsiOk K H v "int" (isI v) ∧ IsiOk K H v "bool" (isB v) ∧ Q (.bl (placeV n v)) H
theorem place_D {K : PySem.W.Frag} {H : Hp} {f : Bool} {v : V} {d : PyData} {n : Int} (h : Dq K H f v d) : placeV n v = isIntD 0 (n - 1) d := by
  cases h with
  | int i =>
    show (decide (0 ≤ i) && decide (i < n)) = (decide (0 ≤ i) && decide (i ≤ n - 1))
    congr 1
    exact decide_eq_decide.mpr (by omega)
  | _ => rfl
theorem ok_is_place (e : Ev K mg) : FnOk P w K mg base CX0 3 (ga K "is_place") (fdA K (ga K "is_place")) ["song", "value"] (sp_is_place K) := by
  refine (F_is_place e).ok sc_is_place (fun vs H Q E h => ?_) (fun cdv A outer s H vs Q E hr h => ?_)
  · obtain ⟨G, a, L, n, es, v, rfl, _⟩ := h
    rfl
  · obtain ⟨G, a, L, n, es, v, rfl, hg, hs, i1, i2, q⟩ := h
    obtain ⟨dx, vo, ws, s1, s2, s3⟩ := id hs
    refine ⟨_, PSs.nox (pss_one (ps_ret (u_and (u_call (ok_is_integer e) (hr.mono (by decide)) (by rfl) (gl_is_integer e) (kp_is_integer e) (bn_is_integer_1 e) pass0 (pa_cons (uv 1) pa_nil)) (pe_one (u_chain o_le o_lt pe_int (uv 1) (u_prop (uv 0) (cl_Song e) (pr_Song_length e) (ok_Song_length e) (hr.mono (by decide)) (b_Song_length e) pass0)))))), ?_⟩
    refine ⟨_, _, _, rfl, i1, i2, Or.inl rfl, Or.inl rfl, ?_⟩
    cases v with
    | int i =>
      refine bite_d (fun hc => ?_) (fun hc => ?_)
      · refine ⟨dx, _, hg _ _ s1, ?_⟩
        refine ⟨G, a, L, n, es, rfl, hg, hs, ?_⟩
        have e1 : placeV n (.int i) = decide (i < n) := by
          show (decide (0 ≤ i) && decide (i < n)) = _
          rw [decide_eq_true hc, Bool.true_and]
        rw [e1] at q
        exact q
      · have e1 : placeV n (.int i) = false := by
          show (decide (0 ≤ i) && decide (i < n)) = _
          rw [decide_eq_false hc, Bool.false_and]
        rw [e1] at q
        exact q
    | _ => exact q
end
end k36

namespace k36
open PySem PySem.Spec PyProof.Rows L2 Ech
open He (ga ma)
open He5 (wf)
/-! ### are_prices -/
theorem sc_are_prices : FnScope ["song", "value", "price"] ["song", "value"] (defScope s_are_prices) := ⟨rfl, rfl, rfl, by decide +kernel, rfl, by decide +kernel, by decide +kernel⟩
section
variable {P : Program} {w : World} {K : PySem.W.Frag} {mg : PySem.Str → Option Value} {base : Heap}
theorem F_are_prices (e : Ev K mg) : FunD K "are_prices" "are_prices" (defArgs s_are_prices) (defBody s_are_prices) (defScope s_are_prices) [] [] (ga K "are_prices") (fdA K (ga K "are_prices")) := e.fun_ 56 (d := d_are_prices)
theorem kp_are_prices (e : Ev K mg) : PySem.W.keepIn K (.ref (ga K "are_prices")) = true := (F_are_prices e).kp
theorem b_are_prices (e : Ev K mg) : Binds K (fdA K (ga K "are_prices")) ["song", "value"] [] := (F_are_prices e).bindsN fun _ _ _ _ _ _ us hl => match us, hl with | [_, _], _ => rfl
theorem bn_are_prices_2 (e : Ev K mg) : Bnd K (ga K "are_prices") ["song", "value"] [] := ⟨[], .nil, b_are_prices e⟩
def sp_are_prices (K : PySem.W.Frag) : Sp := fun vs H Q _ => ∃ (G : Hp) (a : Addr) (L n : Int) (es : List Ec) (v : V) (f : Bool) (d : PyData), vs = [.ref a, v] ∧ Ex G H ∧ SongAt K G a L n es ∧ Dq K G f v d ∧ L ≤ 1000 ∧ ∀ H', Ex H H' → Q (.bl (pricesD L d)) H'
theorem ok_are_prices (e : Ev K mg) : FnOk P w K mg base CX0 7 (ga K "are_prices") (fdA K (ga K "are_prices")) ["song", "value"] (sp_are_prices K) := by
  refine (F_are_prices e).ok sc_are_prices (fun vs H Q E h => ?_) (fun cdv A outer s H vs Q E hr h => ?_)
  · obtain ⟨G, a, L, n, es, v, f, d, rfl, _⟩ := h
    rfl
  · obtain ⟨G, a, L, n, es, v, f, d, rfl, hg, hs0, dv, hl, q⟩ := h
    obtain ⟨dx, vo, ws, h1, h2, h3⟩ := id hs0
    refine ⟨_, PSs.nox (pss_one (ps_ret (u_and (pe_callB (id := "isinstance") (k_isi (K := K) rfl) (by rfl) (fr_isinstance e) (by decide +kernel) (pa_cons (uv 1) (pa_cons (u_ty (n := "tuple") (by rfl) (fr_tuple e) (by decide +kernel)) pa_nil))) (u_and (u_cmp (k_eq (K := K) rfl hr.units) (pe_callB (id := "len") (k_len (K := K) rfl) (by rfl) (fr_len e) (by decide +kernel) (pa_cons (uv 1) pa_nil)) (u_prop (uv 0) (cl_Song e) (pr_Song_letters e) (ok_Song_letters e) (hr.mono (by decide)) (b_Song_letters e) pass0) (nomark _)) (pe_one (pe_callB (id := "all") (k_all (K := K) rfl (by rfl)) (by rfl) (fr_all e) (by decide +kernel) (pa_cons (u_lc (own := [("price", 2)]) (by rfl) sc_are_prices.nd (k_seq (K := K) rfl (uv 1)) (blkOk_by (by kernel_rfl)) (fun _ _ _ _ _ => (pg_name (i := 2) sc_are_prices.nd (by rfl) (by first | exact Or.inl rfl | exact Or.inr rfl))) (fun _ _ _ _ _ => pts_nil) (fun _ _ _ _ _ => (u_call (ok_is_price e) (hr.mono (by decide)) (by rfl) (gl_is_price e) (kp_is_price e) (bn_is_price_1 e) pass0 (pa_cons (uv 2) pa_nil)))) pa_nil))))))), ?_⟩
    have dh := dv.up hg
    cases dv with
    | tup hs ha =>
      rename_i t xs ds
      have hs' := Evl.ex_t hg hs
      have ll := dqAll_len ha
      have q' : ∀ b, pricesD L (.tuple ds) = b → ∀ H', Ex H H' → Q (.bl b) H' := fun b hb => hb ▸ q
      refine isi_go (isi_tup (b := true) hs' (by decide +kernel)) ?_
      refine ⟨_, Or.inr hs', ?_⟩
      refine ⟨dx, _, hg _ _ h1, ?_⟩
      refine ⟨G, a, L, n, es, rfl, hg, hs0, ?_⟩
      refine bite_d (fun hc => ?_) (fun hc => ?_)
      rotate_left
      · exact q' false (by rw [pricesD_tup, decide_eq_false (show ¬ (ds.length : Int) = L by omega), Bool.false_and]) H (ex_refl _)
      · refine ⟨false, xs, hs', ?_⟩
        refine lc_pure hg (fun i _ acc => acc = (((ds.map isPriceD).take i).map V.bl)) ?_ rfl ?_ ?_ ?_ ?_
        · exact Nat.le_trans (show xs.length ≤ 1000 by omega) (szr (n := 1000) (by decide +kernel))
        · rintro i _ acc rfl
          rw [List.length_map, List.length_take]
          exact Nat.min_le_left _ _
        · intro G1 H1 g
          exact Evl.ex_t (ex_trans g.gg g.gh) hs
        · rintro i x G1 H1 H' acc hi g rfl ⟨rfl, hx⟩ R R0 r1 r2
          obtain ⟨d, ed, dx⟩ := dqAll_at ha hx
          refine ⟨rfl, ?_⟩
          refine ⟨x, f, d, rfl, dx.up (ex_trans g.gg g.gh), ?_⟩
          refine r1 _ G1 _ (Gr.refl g.gh) ?_
          rw [List.take_add_one, List.getElem?_map, ed, List.map_append]
          rfl
        · rintro D G1 H1 acc g hD _ h3 rfl
          rw [List.take_of_length_le (by rw [List.length_map, ll]; exact Nat.le_refl _)] at h3
          refine ⟨_, SqL.of h3, ?_⟩
          have e : (ds.map isPriceD).all id = ds.all isPriceD := by rw [List.all_map]; rfl
          rw [e]
          exact q' _ (by rw [pricesD_tup, decide_eq_true (show (ds.length : Int) = L by omega), Bool.true_and]) H1 g.hh
    | non => exact isi_go (dh.isi (b := false) (by decide +kernel)) (q H (ex_refl _))
    | bl b => exact isi_go (dh.isi (b := false) (by show kitB "bool" "tuple" = _; decide +kernel)) (q H (ex_refl _))
    | int i => exact isi_go (dh.isi (b := false) (by show kitB "int" "tuple" = _; decide +kernel)) (q H (ex_refl _))
    | str x => exact isi_go (dh.isi (b := false) (by show kitB "str" "tuple" = _; decide +kernel)) (q H (ex_refl _))
    | lst _ _ _ => exact isi_go (dh.isi (b := false) (by show kitB "list" "tuple" = _; decide +kernel)) (q H (ex_refl _))
    | dct _ _ _ => exact isi_go (dh.isi (b := false) (by show kitB "dict" "tuple" = _; decide +kernel)) (q H (ex_refl _))
    | dtu _ _ _ => exact isi_go (dh.isi (b := false) (by show kitB "dict" "tuple" = _; decide +kernel)) (q H (ex_refl _))
    | dbo _ _ _ => exact isi_go (dh.isi (b := false) (by show kitB "dict" "tuple" = _; decide +kernel)) (q H (ex_refl _))
end
end k36

namespace k36
open PySem PySem.Spec PyProof.Rows L2 Ech
open He (ga ma)
open He5 (wf)
/-! ### fits_wishes -/
theorem sc_fits_wishes : FnScope ["song", "value", "place"] ["song", "value"] (defScope s_fits_wishes) := ⟨rfl, rfl, rfl, by decide +kernel, rfl, by decide +kernel, by decide +kernel⟩
section
variable {P : Program} {w : World} {K : PySem.W.Frag} {mg : PySem.Str → Option Value} {base : Heap}
theorem F_fits_wishes (e : Ev K mg) : FunD K "fits_wishes" "fits_wishes" (defArgs s_fits_wishes) (defBody s_fits_wishes) (defScope s_fits_wishes) [] [] (ga K "fits_wishes") (fdA K (ga K "fits_wishes")) := e.fun_ 57 (d := d_fits_wishes)
theorem kp_fits_wishes (e : Ev K mg) : PySem.W.keepIn K (.ref (ga K "fits_wishes")) = true := (F_fits_wishes e).kp
theorem b_fits_wishes (e : Ev K mg) : Binds K (fdA K (ga K "fits_wishes")) ["song", "value"] [] := (F_fits_wishes e).bindsN fun _ _ _ _ _ _ us hl => match us, hl with | [_, _], _ => rfl
theorem bn_fits_wishes_2 (e : Ev K mg) : Bnd K (ga K "fits_wishes") ["song", "value"] [] := ⟨[], .nil, b_fits_wishes e⟩
def sp_fits_wishes (K : PySem.W.Frag) : Sp := fun vs H Q _ => ∃ (G : Hp) (a : Addr) (L n : Int) (es : List Ec) (v : V) (f : Bool) (d : PyData), vs = [.ref a, v] ∧ Ex G H ∧ SongAt K G a L n es ∧ Dq K G f v d ∧ L ≤ 1000 ∧ ∀ H', Ex H H' → Q (.bl (wishQ L n d)) H'
theorem ok_fits_wishes (e : Ev K mg) : FnOk P w K mg base CX0 8 (ga K "fits_wishes") (fdA K (ga K "fits_wishes")) ["song", "value"] (sp_fits_wishes K) := by
  refine (F_fits_wishes e).ok sc_fits_wishes (fun vs H Q E h => ?_) (fun cdv A outer s H vs Q E hr h => ?_)
  · obtain ⟨G, a, L, n, es, v, f, d, rfl, _⟩ := h
    rfl
  · obtain ⟨G, a, L, n, es, v, f, d, rfl, hg, hs, dv, l5, q⟩ := h
    refine ⟨_, PSs.nox (pss_cons (u_if (pt_not (k_tru (K := K) rfl (pe_callB (id := "isinstance") (k_isi (K := K) rfl) (by rfl) (fr_isinstance e) (by decide +kernel) (pa_cons (uv 1) (pa_cons (u_ty (n := "dict") (by rfl) (fr_dict e) (by decide +kernel)) pa_nil))))) (pss_one (ps_ret pe_bl)) pss_nil)
            (pss_one (ps_ret (pe_callB (id := "all") (k_all (K := K) rfl (by rfl)) (by rfl) (fr_all e) (by decide +kernel) (pa_cons (pe_lockQ (u_lc (own := [("place", 2)]) (by rfl) sc_fits_wishes.nd (piu_keysQ (uv 1)) (blkOk_by (by kernel_rfl)) (fun _ _ _ _ _ => (pg_name (i := 2) sc_fits_wishes.nd (by rfl) (by first | exact Or.inl rfl | exact Or.inr rfl))) (fun _ _ _ _ _ => pts_nil) (fun _ _ _ _ _ => (u_and (u_call (ok_is_place e) (hr.mono (by decide)) (by rfl) (gl_is_place e) (kp_is_place e) (bn_is_place_2 e) pass0 (pa_cons (uv 0) (pa_cons (uv 2) pa_nil))) (pe_one (u_call (ok_are_prices e) (hr.mono (by decide)) (by rfl) (gl_are_prices e) (kp_are_prices e) (bn_are_prices_2 e) pass0 (pa_cons (uv 0) (pa_cons (u_dget (hu_of hr) (uv 1) (uv 2)) pa_nil)))))))) pa_nil))))), ?_⟩
    have dh := dv.up hg
    cases dv with
    | non => exact isi_go (dh.isi (b := false) (by decide +kernel)) (q H (ex_refl _))
    | bl b => exact isi_go (dh.isi (b := false) (by show kitB "bool" "dict" = _; decide +kernel)) (q H (ex_refl _))
    | int i => exact isi_go (dh.isi (b := false) (by show kitB "int" "dict" = _; decide +kernel)) (q H (ex_refl _))
    | str x => exact isi_go (dh.isi (b := false) (by show kitB "str" "dict" = _; decide +kernel)) (q H (ex_refl _))
    | lst _ _ _ => exact isi_go (dh.isi (b := false) (by show kitB "list" "dict" = _; decide +kernel)) (q H (ex_refl _))
    | tup _ _ => exact isi_go (dh.isi (b := false) (by show kitB "tuple" "dict" = _; decide +kernel)) (q H (ex_refl _))
    | dct h hn ha =>
      rename_i dd kvs ds
      refine isi_go (dh.isi (b := true) (by show kitB "dict" "dict" = _; decide +kernel)) ?_
      rcases h with h | h
      · have hd : H dd = some (.dK kvs) := hg _ _ h
        refine Or.inl ⟨dd, _, hd, trivial, fun od => ?_⟩
        have hg1 : Ex (upd G dd (.frz od (.dK kvs))) (upd H dd (.frz od (.dK kvs))) := ex_both hg
        have kd : DictHO dd (.dK kvs) := .inl ⟨_, rfl⟩
        have ha1 := DqAll.lock (o := od) h kd ha
        have hs1 : SongAt K (upd G dd (.frz od (.dK kvs))) a L n es := song_lock h kd hs
        have hat : (upd H dd (.frz od (.dK kvs))) dd = some (.frz od (.dK kvs)) := upd_same
        have back : ∀ H2, Ex (upd H dd (.frz od (.dK kvs))) H2 → Ex H (upd H2 dd (.dK kvs)) := fun H2 x => ex_unlock hd x
        generalize upd G dd (.frz od (.dK kvs)) = G1 at hg1 ha1 hs1
        generalize upd H dd (.frz od (.dK kvs)) = H1 at hg1 hat back
        have lk : (kvs.map (fun p : Key × V => keyD p.1)).length = ds.length := by rw [List.length_map, ← dqAll_len ha, List.length_map]
        have lz : ((kvs.map (fun p : Key × V => keyD p.1)).zip ds).length = kvs.length := by rw [List.length_zip, ← lk, List.length_map, Nat.min_self]
        refine Or.inl ⟨od, kvs, hat, ?_⟩
        refine lc_pure hg1 (fun i _ acc => acc = (((((kvs.map (fun p : Key × V => keyD p.1)).zip ds).map (fun p => isIntD 0 (n - 1) p.1 && pricesD L p.2)).take i).map V.bl)) ?_ rfl ?_ ?_ ?_ ?_
        · exact Nat.le_trans hn.2 (szr (n := 1000) (by decide +kernel))
        · rintro i _ acc rfl
          rw [List.length_map, List.length_take]
          exact Nat.min_le_left _ _
        · intro G2 H2 g
          exact g.hh _ _ hat
        · rintro i x G2 H2 H' acc hi g rfl ⟨rfl, k, w, hkv, rfl⟩ R R0 r1 r2
          have hw : (kvs.map (·.2))[i]? = some w := by rw [List.getElem?_map, hkv]; rfl
          obtain ⟨dw, edw, dqw⟩ := dqAll_at ha1 hw
          have ek : (kvs.map (fun p : Key × V => keyD p.1))[i]? = some (keyD k) := by rw [List.getElem?_map, hkv]; rfl
          have ez := zip_at ek edw
          have kq : Dq K H' f (kV k) (keyD k) := key_Dq k
          have tk : ∀ b, b = (fun p => isIntD 0 (n - 1) p.1 && pricesD L p.2) (keyD k, dw) → ((((kvs.map (fun p : Key × V => keyD p.1)).zip ds).map (fun p => isIntD 0 (n - 1) p.1 && pricesD L p.2)).take i).map V.bl ++ [V.bl b] = ((((kvs.map (fun p : Key × V => keyD p.1)).zip ds).map (fun p => isIntD 0 (n - 1) p.1 && pricesD L p.2)).take (i + 1)).map V.bl := fun b hb => by
            rw [hb, List.take_add_one, List.getElem?_map, ez, List.map_append]
            rfl
          refine ⟨rfl, ?_⟩
          refine ⟨G2, a, L, n, es, kV k, rfl, g.gh, hs1.up g.gg, kq.isiV.1, kq.isiV.2, ?_⟩
          rw [place_D kq]
          cases hz : isIntD 0 (n - 1) (keyD k) with
          | false => exact r1 _ G2 _ (Gr.refl g.gh) (tk false (by show false = (isIntD 0 (n - 1) (keyD k) && _); rw [hz]; rfl))
          | true =>
            refine ⟨_, dget_key (Or.inr ⟨od, g.hh _ _ hat⟩) (valV_nd hn.1 hkv), ?_⟩
            refine ⟨G2, a, L, n, es, w, f, dw, rfl, g.gh, hs1.up g.gg, dqw.up g.gg, l5, fun H3 x3 => ?_⟩
            exact r1 _ G2 _ (ex_gr g.gh x3) (tk _ (by show _ = (isIntD 0 (n - 1) (keyD k) && _); rw [hz]; rfl))
        · rintro D G2 H2 acc g hD _ h3 rfl
          rw [List.take_of_length_le (by rw [List.length_map, lz]; exact Nat.le_refl _)] at h3
          have e : ((((kvs.map (fun p : Key × V => keyD p.1)).zip ds).map (fun p => isIntD 0 (n - 1) p.1 && pricesD L p.2)).all id) = ((kvs.map (fun p : Key × V => keyD p.1)).zip ds).all (fun p => isIntD 0 (n - 1) p.1 && pricesD L p.2) := by rw [List.all_map]; rfl
          have hf := g.hh _ _ hat
          have nD : D ≠ dd := fun z => by rw [z, hf] at h3; cases h3
          refine ⟨hf, ?_⟩
          refine ⟨_, SqL.of (by rw [upd_ne nD]; exact h3), ?_⟩
          rw [e]
          exact q _ (back _ g.hh)
      · obtain ⟨od, h⟩ := h
        have hat := hg _ _ h
        refine Or.inr ?_
        have hg1 := hg
        have ha1 := ha
        have hs1 := hs
        have lk : (kvs.map (fun p : Key × V => keyD p.1)).length = ds.length := by rw [List.length_map, ← dqAll_len ha, List.length_map]
        have lz : ((kvs.map (fun p : Key × V => keyD p.1)).zip ds).length = kvs.length := by rw [List.length_zip, ← lk, List.length_map, Nat.min_self]
        refine Or.inl ⟨od, kvs, hat, ?_⟩
        refine lc_pure hg1 (fun i _ acc => acc = (((((kvs.map (fun p : Key × V => keyD p.1)).zip ds).map (fun p => isIntD 0 (n - 1) p.1 && pricesD L p.2)).take i).map V.bl)) ?_ rfl ?_ ?_ ?_ ?_
        · exact Nat.le_trans hn.2 (szr (n := 1000) (by decide +kernel))
        · rintro i _ acc rfl
          rw [List.length_map, List.length_take]
          exact Nat.min_le_left _ _
        · intro G2 H2 g
          exact g.hh _ _ hat
        · rintro i x G2 H2 H' acc hi g rfl ⟨rfl, k, w, hkv, rfl⟩ R R0 r1 r2
          have hw : (kvs.map (·.2))[i]? = some w := by rw [List.getElem?_map, hkv]; rfl
          obtain ⟨dw, edw, dqw⟩ := dqAll_at ha1 hw
          have ek : (kvs.map (fun p : Key × V => keyD p.1))[i]? = some (keyD k) := by rw [List.getElem?_map, hkv]; rfl
          have ez := zip_at ek edw
          have kq : Dq K H' f (kV k) (keyD k) := key_Dq k
          have tk : ∀ b, b = (fun p => isIntD 0 (n - 1) p.1 && pricesD L p.2) (keyD k, dw) → ((((kvs.map (fun p : Key × V => keyD p.1)).zip ds).map (fun p => isIntD 0 (n - 1) p.1 && pricesD L p.2)).take i).map V.bl ++ [V.bl b] = ((((kvs.map (fun p : Key × V => keyD p.1)).zip ds).map (fun p => isIntD 0 (n - 1) p.1 && pricesD L p.2)).take (i + 1)).map V.bl := fun b hb => by
            rw [hb, List.take_add_one, List.getElem?_map, ez, List.map_append]
            rfl
          refine ⟨rfl, ?_⟩
          refine ⟨G2, a, L, n, es, kV k, rfl, g.gh, hs1.up g.gg, kq.isiV.1, kq.isiV.2, ?_⟩
          rw [place_D kq]
          cases hz : isIntD 0 (n - 1) (keyD k) with
          | false => exact r1 _ G2 _ (Gr.refl g.gh) (tk false (by show false = (isIntD 0 (n - 1) (keyD k) && _); rw [hz]; rfl))
          | true =>
            refine ⟨_, dget_key (Or.inr ⟨od, g.hh _ _ hat⟩) (valV_nd hn.1 hkv), ?_⟩
            refine ⟨G2, a, L, n, es, w, f, dw, rfl, g.gh, hs1.up g.gg, dqw.up g.gg, l5, fun H3 x3 => ?_⟩
            exact r1 _ G2 _ (ex_gr g.gh x3) (tk _ (by show _ = (isIntD 0 (n - 1) (keyD k) && _); rw [hz]; rfl))
        · rintro D G2 H2 acc g hD _ h3 rfl
          rw [List.take_of_length_le (by rw [List.length_map, lz]; exact Nat.le_refl _)] at h3
          have e : ((((kvs.map (fun p : Key × V => keyD p.1)).zip ds).map (fun p => isIntD 0 (n - 1) p.1 && pricesD L p.2)).all id) = ((kvs.map (fun p : Key × V => keyD p.1)).zip ds).all (fun p => isIntD 0 (n - 1) p.1 && pricesD L p.2) := by rw [List.all_map]; rfl
          refine ⟨_, SqL.of h3, ?_⟩
          rw [e]
          exact q _ g.hh
    | dtu h hn ha =>
      rename_i dd kvs ds
      refine isi_go (dh.isi (b := true) (by show kitB "dict" "dict" = _; decide +kernel)) ?_
      rcases h with h | h
      · have hd : H dd = some (.dT kvs) := hg _ _ h
        refine Or.inl ⟨dd, _, hd, trivial, fun od => ?_⟩
        have hg1 : Ex (upd G dd (.frz od (.dT kvs))) (upd H dd (.frz od (.dT kvs))) := ex_both hg
        have kd : DictHO dd (.dT kvs) := .inr (.inl ⟨_, rfl⟩)
        have ha1 := DqAll.lock (o := od) h kd ha
        have hs1 : SongAt K (upd G dd (.frz od (.dT kvs))) a L n es := song_lock h kd hs
        have hat : (upd H dd (.frz od (.dT kvs))) dd = some (.frz od (.dT kvs)) := upd_same
        have back : ∀ H2, Ex (upd H dd (.frz od (.dT kvs))) H2 → Ex H (upd H2 dd (.dT kvs)) := fun H2 x => ex_unlock hd x
        generalize upd G dd (.frz od (.dT kvs)) = G1 at hg1 ha1 hs1
        generalize upd H dd (.frz od (.dT kvs)) = H1 at hg1 hat back
        have lk : (kvs.map (fun p : List Key × V => PyData.tuple (p.1.map keyD))).length = ds.length := by rw [List.length_map, ← dqAll_len ha, List.length_map]
        have lz : ((kvs.map (fun p : List Key × V => PyData.tuple (p.1.map keyD))).zip ds).length = kvs.length := by rw [List.length_zip, ← lk, List.length_map, Nat.min_self]
        refine Or.inr (Or.inl ⟨od, kvs, hat, ?_⟩)
        refine lc_pure hg1 (fun i _ acc => acc = (((((kvs.map (fun p : List Key × V => PyData.tuple (p.1.map keyD))).zip ds).map (fun p => isIntD 0 (n - 1) p.1 && pricesD L p.2)).take i).map V.bl)) ?_ rfl ?_ ?_ ?_ ?_
        · exact Nat.le_trans hn.2 (szr (n := 1000) (by decide +kernel))
        · rintro i _ acc rfl
          rw [List.length_map, List.length_take]
          exact Nat.min_le_left _ _
        · intro G2 H2 g
          exact g.hh _ _ hat
        · rintro i x G2 H2 H' acc hi g rfl ⟨rfl, k, w, qa, hkv, rfl, hqa⟩ R R0 r1 r2
          have hw : (kvs.map (·.2))[i]? = some w := by rw [List.getElem?_map, hkv]; rfl
          obtain ⟨dw, edw, dqw⟩ := dqAll_at ha1 hw
          have ek : (kvs.map (fun p : List Key × V => PyData.tuple (p.1.map keyD)))[i]? = some (.tuple (k.map keyD)) := by rw [List.getElem?_map, hkv]; rfl
          have ez := zip_at ek edw
          have kq : Dq K H' f (.ref qa) (.tuple (k.map keyD)) := Dq.tup (f := f) (SqT.of hqa) (keys_Dq k)
          have tk : ∀ b, b = (fun p => isIntD 0 (n - 1) p.1 && pricesD L p.2) (.tuple (k.map keyD), dw) → ((((kvs.map (fun p : List Key × V => PyData.tuple (p.1.map keyD))).zip ds).map (fun p => isIntD 0 (n - 1) p.1 && pricesD L p.2)).take i).map V.bl ++ [V.bl b] = ((((kvs.map (fun p : List Key × V => PyData.tuple (p.1.map keyD))).zip ds).map (fun p => isIntD 0 (n - 1) p.1 && pricesD L p.2)).take (i + 1)).map V.bl := fun b hb => by
            rw [hb, List.take_add_one, List.getElem?_map, ez, List.map_append]
            rfl
          refine ⟨rfl, ?_⟩
          refine ⟨G2, a, L, n, es, .ref qa, rfl, g.gh, hs1.up g.gg, kq.isiV.1, kq.isiV.2, ?_⟩
          rw [place_D kq]
          exact r1 _ G2 _ (Gr.refl g.gh) (tk false rfl)
        · rintro D G2 H2 acc g hD _ h3 rfl
          rw [List.take_of_length_le (by rw [List.length_map, lz]; exact Nat.le_refl _)] at h3
          have e : ((((kvs.map (fun p : List Key × V => PyData.tuple (p.1.map keyD))).zip ds).map (fun p => isIntD 0 (n - 1) p.1 && pricesD L p.2)).all id) = ((kvs.map (fun p : List Key × V => PyData.tuple (p.1.map keyD))).zip ds).all (fun p => isIntD 0 (n - 1) p.1 && pricesD L p.2) := by rw [List.all_map]; rfl
          have hf := g.hh _ _ hat
          have nD : D ≠ dd := fun z => by rw [z, hf] at h3; cases h3
          refine ⟨hf, ?_⟩
          refine ⟨_, SqL.of (by rw [upd_ne nD]; exact h3), ?_⟩
          rw [e]
          exact q _ (back _ g.hh)
      · obtain ⟨od, h⟩ := h
        have hat := hg _ _ h
        refine Or.inr ?_
        have hg1 := hg
        have ha1 := ha
        have hs1 := hs
        have lk : (kvs.map (fun p : List Key × V => PyData.tuple (p.1.map keyD))).length = ds.length := by rw [List.length_map, ← dqAll_len ha, List.length_map]
        have lz : ((kvs.map (fun p : List Key × V => PyData.tuple (p.1.map keyD))).zip ds).length = kvs.length := by rw [List.length_zip, ← lk, List.length_map, Nat.min_self]
        refine Or.inr (Or.inl ⟨od, kvs, hat, ?_⟩)
        refine lc_pure hg1 (fun i _ acc => acc = (((((kvs.map (fun p : List Key × V => PyData.tuple (p.1.map keyD))).zip ds).map (fun p => isIntD 0 (n - 1) p.1 && pricesD L p.2)).take i).map V.bl)) ?_ rfl ?_ ?_ ?_ ?_
        · exact Nat.le_trans hn.2 (szr (n := 1000) (by decide +kernel))
        · rintro i _ acc rfl
          rw [List.length_map, List.length_take]
          exact Nat.min_le_left _ _
        · intro G2 H2 g
          exact g.hh _ _ hat
        · rintro i x G2 H2 H' acc hi g rfl ⟨rfl, k, w, qa, hkv, rfl, hqa⟩ R R0 r1 r2
          have hw : (kvs.map (·.2))[i]? = some w := by rw [List.getElem?_map, hkv]; rfl
          obtain ⟨dw, edw, dqw⟩ := dqAll_at ha1 hw
          have ek : (kvs.map (fun p : List Key × V => PyData.tuple (p.1.map keyD)))[i]? = some (.tuple (k.map keyD)) := by rw [List.getElem?_map, hkv]; rfl
          have ez := zip_at ek edw
          have kq : Dq K H' f (.ref qa) (.tuple (k.map keyD)) := Dq.tup (f := f) (SqT.of hqa) (keys_Dq k)
          have tk : ∀ b, b = (fun p => isIntD 0 (n - 1) p.1 && pricesD L p.2) (.tuple (k.map keyD), dw) → ((((kvs.map (fun p : List Key × V => PyData.tuple (p.1.map keyD))).zip ds).map (fun p => isIntD 0 (n - 1) p.1 && pricesD L p.2)).take i).map V.bl ++ [V.bl b] = ((((kvs.map (fun p : List Key × V => PyData.tuple (p.1.map keyD))).zip ds).map (fun p => isIntD 0 (n - 1) p.1 && pricesD L p.2)).take (i + 1)).map V.bl := fun b hb => by
            rw [hb, List.take_add_one, List.getElem?_map, ez, List.map_append]
            rfl
          refine ⟨rfl, ?_⟩
          refine ⟨G2, a, L, n, es, .ref qa, rfl, g.gh, hs1.up g.gg, kq.isiV.1, kq.isiV.2, ?_⟩
          rw [place_D kq]
          exact r1 _ G2 _ (Gr.refl g.gh) (tk false rfl)
        · rintro D G2 H2 acc g hD _ h3 rfl
          rw [List.take_of_length_le (by rw [List.length_map, lz]; exact Nat.le_refl _)] at h3
          have e : ((((kvs.map (fun p : List Key × V => PyData.tuple (p.1.map keyD))).zip ds).map (fun p => isIntD 0 (n - 1) p.1 && pricesD L p.2)).all id) = ((kvs.map (fun p : List Key × V => PyData.tuple (p.1.map keyD))).zip ds).all (fun p => isIntD 0 (n - 1) p.1 && pricesD L p.2) := by rw [List.all_map]; rfl
          refine ⟨_, SqL.of h3, ?_⟩
          rw [e]
          exact q _ g.hh
    | dbo h hn ha =>
      rename_i dd kvs ds
      refine isi_go (dh.isi (b := true) (by show kitB "dict" "dict" = _; decide +kernel)) ?_
      rcases h with h | h
      · have hd : H dd = some (BdD dd kvs) := hg _ _ h
        refine Or.inl ⟨dd, _, hd, trivial, fun od => ?_⟩
        have hg1 : Ex (upd G dd (.frz od (BdD dd kvs))) (upd H dd (.frz od (BdD dd kvs))) := ex_both hg
        have kd : DictHO dd (BdD dd kvs) := .inr (.inr ⟨_, rfl⟩)
        have ha1 := DqAll.lock (o := od) h kd ha
        have hs1 : SongAt K (upd G dd (.frz od (BdD dd kvs))) a L n es := song_lock h kd hs
        have hat : (upd H dd (.frz od (BdD dd kvs))) dd = some (.frz od (BdD dd kvs)) := upd_same
        have back : ∀ H2, Ex (upd H dd (.frz od (BdD dd kvs))) H2 → Ex H (upd H2 dd (BdD dd kvs)) := fun H2 x => ex_unlock hd x
        generalize upd G dd (.frz od (BdD dd kvs)) = G1 at hg1 ha1 hs1
        generalize upd H dd (.frz od (BdD dd kvs)) = H1 at hg1 hat back
        have lk : (kvs.map (fun p : Bool × V => PyData.bool p.1)).length = ds.length := by rw [List.length_map, ← dqAll_len ha, List.length_map]
        have lz : ((kvs.map (fun p : Bool × V => PyData.bool p.1)).zip ds).length = kvs.length := by rw [List.length_zip, ← lk, List.length_map, Nat.min_self]
        refine Or.inr (Or.inr ⟨od, kvs, hat, ?_⟩)
        refine lc_pure hg1 (fun i _ acc => acc = (((((kvs.map (fun p : Bool × V => PyData.bool p.1)).zip ds).map (fun p => isIntD 0 (n - 1) p.1 && pricesD L p.2)).take i).map V.bl)) ?_ rfl ?_ ?_ ?_ ?_
        · exact Nat.le_trans hn.2 (szr (n := 1000) (by decide +kernel))
        · rintro i _ acc rfl
          rw [List.length_map, List.length_take]
          exact Nat.min_le_left _ _
        · intro G2 H2 g
          exact g.hh _ _ hat
        · rintro i x G2 H2 H' acc hi g rfl ⟨rfl, k, w, hkv, rfl⟩ R R0 r1 r2
          have hw : (kvs.map (·.2))[i]? = some w := by rw [List.getElem?_map, hkv]; rfl
          obtain ⟨dw, edw, dqw⟩ := dqAll_at ha1 hw
          have ek : (kvs.map (fun p : Bool × V => PyData.bool p.1))[i]? = some (.bool k) := by rw [List.getElem?_map, hkv]; rfl
          have ez := zip_at ek edw
          have kq : Dq K H' f (.bl k) (.bool k) := Dq.bl (f := f) k
          have tk : ∀ b, b = (fun p => isIntD 0 (n - 1) p.1 && pricesD L p.2) (.bool k, dw) → ((((kvs.map (fun p : Bool × V => PyData.bool p.1)).zip ds).map (fun p => isIntD 0 (n - 1) p.1 && pricesD L p.2)).take i).map V.bl ++ [V.bl b] = ((((kvs.map (fun p : Bool × V => PyData.bool p.1)).zip ds).map (fun p => isIntD 0 (n - 1) p.1 && pricesD L p.2)).take (i + 1)).map V.bl := fun b hb => by
            rw [hb, List.take_add_one, List.getElem?_map, ez, List.map_append]
            rfl
          refine ⟨rfl, ?_⟩
          refine ⟨G2, a, L, n, es, .bl k, rfl, g.gh, hs1.up g.gg, kq.isiV.1, kq.isiV.2, ?_⟩
          rw [place_D kq]
          exact r1 _ G2 _ (Gr.refl g.gh) (tk false rfl)
        · rintro D G2 H2 acc g hD _ h3 rfl
          rw [List.take_of_length_le (by rw [List.length_map, lz]; exact Nat.le_refl _)] at h3
          have e : ((((kvs.map (fun p : Bool × V => PyData.bool p.1)).zip ds).map (fun p => isIntD 0 (n - 1) p.1 && pricesD L p.2)).all id) = ((kvs.map (fun p : Bool × V => PyData.bool p.1)).zip ds).all (fun p => isIntD 0 (n - 1) p.1 && pricesD L p.2) := by rw [List.all_map]; rfl
          have hf := g.hh _ _ hat
          have nD : D ≠ dd := fun z => by rw [z, hf] at h3; cases h3
          refine ⟨hf, ?_⟩
          refine ⟨_, SqL.of (by rw [upd_ne nD]; exact h3), ?_⟩
          rw [e]
          exact q _ (back _ g.hh)
      · obtain ⟨od, h⟩ := h
        have hat := hg _ _ h
        refine Or.inr ?_
        have hg1 := hg
        have ha1 := ha
        have hs1 := hs
        have lk : (kvs.map (fun p : Bool × V => PyData.bool p.1)).length = ds.length := by rw [List.length_map, ← dqAll_len ha, List.length_map]
        have lz : ((kvs.map (fun p : Bool × V => PyData.bool p.1)).zip ds).length = kvs.length := by rw [List.length_zip, ← lk, List.length_map, Nat.min_self]
        refine Or.inr (Or.inr ⟨od, kvs, hat, ?_⟩)
        refine lc_pure hg1 (fun i _ acc => acc = (((((kvs.map (fun p : Bool × V => PyData.bool p.1)).zip ds).map (fun p => isIntD 0 (n - 1) p.1 && pricesD L p.2)).take i).map V.bl)) ?_ rfl ?_ ?_ ?_ ?_
        · exact Nat.le_trans hn.2 (szr (n := 1000) (by decide +kernel))
        · rintro i _ acc rfl
          rw [List.length_map, List.length_take]
          exact Nat.min_le_left _ _
        · intro G2 H2 g
          exact g.hh _ _ hat
        · rintro i x G2 H2 H' acc hi g rfl ⟨rfl, k, w, hkv, rfl⟩ R R0 r1 r2
          have hw : (kvs.map (·.2))[i]? = some w := by rw [List.getElem?_map, hkv]; rfl
          obtain ⟨dw, edw, dqw⟩ := dqAll_at ha1 hw
          have ek : (kvs.map (fun p : Bool × V => PyData.bool p.1))[i]? = some (.bool k) := by rw [List.getElem?_map, hkv]; rfl
          have ez := zip_at ek edw
          have kq : Dq K H' f (.bl k) (.bool k) := Dq.bl (f := f) k
          have tk : ∀ b, b = (fun p => isIntD 0 (n - 1) p.1 && pricesD L p.2) (.bool k, dw) → ((((kvs.map (fun p : Bool × V => PyData.bool p.1)).zip ds).map (fun p => isIntD 0 (n - 1) p.1 && pricesD L p.2)).take i).map V.bl ++ [V.bl b] = ((((kvs.map (fun p : Bool × V => PyData.bool p.1)).zip ds).map (fun p => isIntD 0 (n - 1) p.1 && pricesD L p.2)).take (i + 1)).map V.bl := fun b hb => by
            rw [hb, List.take_add_one, List.getElem?_map, ez, List.map_append]
            rfl
          refine ⟨rfl, ?_⟩
          refine ⟨G2, a, L, n, es, .bl k, rfl, g.gh, hs1.up g.gg, kq.isiV.1, kq.isiV.2, ?_⟩
          rw [place_D kq]
          exact r1 _ G2 _ (Gr.refl g.gh) (tk false rfl)
        · rintro D G2 H2 acc g hD _ h3 rfl
          rw [List.take_of_length_le (by rw [List.length_map, lz]; exact Nat.le_refl _)] at h3
          have e : ((((kvs.map (fun p : Bool × V => PyData.bool p.1)).zip ds).map (fun p => isIntD 0 (n - 1) p.1 && pricesD L p.2)).all id) = ((kvs.map (fun p : Bool × V => PyData.bool p.1)).zip ds).all (fun p => isIntD 0 (n - 1) p.1 && pricesD L p.2) := by rw [List.all_map]; rfl
          refine ⟨_, SqL.of h3, ?_⟩
          rw [e]
          exact q _ g.hh
end
end k36

namespace k36
open PySem PySem.Spec PyProof.Rows L2 Ech
open He (ga ma)
open He5 (wf)
/-! ### is_wishes -/
theorem sc_is_wishes : FnScope ["song", "value"] ["song", "value"] (defScope s_is_wishes) := ⟨rfl, rfl, rfl, by decide +kernel, rfl, by decide +kernel, by decide +kernel⟩
section
variable {P : Program} {w : World} {K : PySem.W.Frag} {mg : PySem.Str → Option Value} {base : Heap}
theorem F_is_wishes (e : Ev K mg) : FunD K "is_wishes" "is_wishes" (defArgs s_is_wishes) (defBody s_is_wishes) (defScope s_is_wishes) [] [] (ga K "is_wishes") (fdA K (ga K "is_wishes")) := e.fun_ 61 (d := d_is_wishes)
theorem kp_is_wishes (e : Ev K mg) : PySem.W.keepIn K (.ref (ga K "is_wishes")) = true := (F_is_wishes e).kp
theorem b_is_wishes (e : Ev K mg) : Binds K (fdA K (ga K "is_wishes")) ["song", "value"] [] := (F_is_wishes e).bindsN fun _ _ _ _ _ _ us hl => match us, hl with | [_, _], _ => rfl
theorem bn_is_wishes_2 (e : Ev K mg) : Bnd K (ga K "is_wishes") ["song", "value"] [] := ⟨[], .nil, b_is_wishes e⟩
def sp_is_wishes (K : PySem.W.Frag) : Sp := fun vs H Q E => ∃ (G : Hp) (s v : V) (f : Bool) (d : PyData), vs = [s, v] ∧ Ex G H ∧ Dq K G f v d ∧ ((∃ (a : Addr) (L n : Int) (es : List Ec), s = .ref a ∧ SongAt K G a L n es ∧ n ≤ 40 ∧ L ≤ 1000 ∧ ∀ H', Ex H H' → Q (.bl (wishQ L n d)) H') ∨ BadSong K G H s E)
theorem ok_is_wishes (e : Ev K mg) : FnOk P w K mg base (L2.CX P w) 9 (ga K "is_wishes") (fdA K (ga K "is_wishes")) ["song", "value"] (sp_is_wishes K) := by
  refine (F_is_wishes e).ok sc_is_wishes (fun vs H Q E h => ?_) (fun cdv A outer s H vs Q E hr h => ?_)
  · obtain ⟨G, s, v, f, d, rfl, _⟩ := h
    rfl
  · obtain ⟨G, s, v, f, d, rfl, hg, dv, h⟩ := h
    refine ⟨_, (pss_cons (ps_expr (u_callT (takes_of rfl rfl rfl rfl) (ok_need_near e) (hr.mono (by decide)) (by rfl) (gl_need_near e) (kp_need_near e) (bn_need_near_1 e) (pa_cons (uv 0) pa_nil)))
            (pss_one (ps_ret (u_call (ok_fits_wishes e) (hr.mono (by decide)) (by rfl) (gl_fits_wishes e) (kp_fits_wishes e) (bn_fits_wishes_2 e) pass0 (pa_cons (uv 0) (pa_cons (uv 1) pa_nil)))))), ?_⟩
    rcases h with ⟨a, L, n, es, rfl, hs, n2, l5, q⟩ | bad
    · refine ⟨G, _, rfl, hg, Or.inl ⟨a, L, n, es, rfl, hs, n2, ?_⟩⟩
      exact ⟨G, a, L, n, es, v, f, d, rfl, hg, hs, dv, l5, q⟩
    · exact ⟨G, _, rfl, hg, Or.inr bad⟩
end
end k36

namespace k36
open PySem PySem.Spec PyProof.Rows L2 Ech
open He (ga ma)
open He5 (wf)
/-! ### is_row_of -/
theorem sc_is_row_of : FnScope ["letters", "value", "length", "letter"] ["letters", "value", "length"] (defScope s_is_row_of) := ⟨rfl, rfl, rfl, by decide +kernel, rfl, by decide +kernel, by decide +kernel⟩
section
variable {P : Program} {w : World} {K : PySem.W.Frag} {mg : PySem.Str → Option Value} {base : Heap}
theorem F_is_row_of (e : Ev K mg) : FunD K "is_row_of" "is_row_of" (defArgs s_is_row_of) (defBody s_is_row_of) (defScope s_is_row_of) [] [] (ga K "is_row_of") (fdA K (ga K "is_row_of")) := e.fun_ 8 (d := d_is_row_of)
theorem kp_is_row_of (e : Ev K mg) : PySem.W.keepIn K (.ref (ga K "is_row_of")) = true := (F_is_row_of e).kp
theorem b_is_row_of (e : Ev K mg) : Binds K (fdA K (ga K "is_row_of")) ["letters", "value", "length"] [] := (F_is_row_of e).bindsN fun _ _ _ _ _ _ us hl => match us, hl with | [_, _, _], _ => rfl
theorem bn_is_row_of_3 (e : Ev K mg) : Bnd K (ga K "is_row_of") ["letters", "value", "length"] [] := ⟨[], .nil, b_is_row_of e⟩
def sp_is_row_of (K : PySem.W.Frag) : Sp := fun vs H Q _ => ∃ (G : Hp) (L n : Int) (v : V) (f : Bool) (d : PyData), vs = [.int L, v, .int n] ∧ Ex G H ∧ Dq K G f v d ∧ n ≤ 1000 ∧ ∀ H', Ex H H' → Q (.bl (rowQ L n d)) H'
theorem ok_is_row_of (e : Ev K mg) : FnOk P w K mg base CX0 2 (ga K "is_row_of") (fdA K (ga K "is_row_of")) ["letters", "value", "length"] (sp_is_row_of K) := by
  refine (F_is_row_of e).ok sc_is_row_of (fun vs H Q E h => ?_) (fun cdv A outer s H vs Q E hr h => ?_)
  · obtain ⟨G, L, n, v, f, d, rfl, _⟩ := h
    rfl
  · obtain ⟨G, L, n, v, f, d, rfl, hg, dv, hl, q⟩ := h
    refine ⟨_, PSs.nox (pss_cons (u_if (PW.pt (u_orT (pt_not (k_tru (K := K) rfl (pe_callB (id := "isinstance") (k_isi (K := K) rfl) (by rfl) (fr_isinstance e) (by decide +kernel) (pa_cons (uv 1) (pa_cons (u_ty (n := "tuple") (by rfl) (fr_tuple e) (by decide +kernel)) pa_nil))))) (u_or1 (u_cmpT (k_ne (K := K) rfl hr.units) (pe_callB (id := "len") (k_len (K := K) rfl) (by rfl) (fr_len e) (by decide +kernel) (pa_cons (uv 1) pa_nil)) (uv 2) (nomark _))))) (pss_one (ps_ret pe_bl)) pss_nil)
            (pss_one (ps_ret (pe_callB (id := "all") (k_all (K := K) rfl (by rfl)) (by rfl) (fr_all e) (by decide +kernel) (pa_cons (u_lc (own := [("letter", 3)]) (by rfl) sc_is_row_of.nd (k_seq (K := K) rfl (uv 1)) (blkOk_by (by kernel_rfl)) (fun _ _ _ _ _ => (pg_name (i := 3) sc_is_row_of.nd (by rfl) (by first | exact Or.inl rfl | exact Or.inr rfl))) (fun _ _ _ _ _ => pts_nil) (fun _ _ _ _ _ => (u_call (ok_is_integer e) (hr.mono (by decide)) (by rfl) (gl_is_integer e) (kp_is_integer e) (bn_is_integer_3 e) pass0 (pa_cons (uv 3) (pa_cons pe_int (pa_cons (pe_op o_sub (uv 0) pe_int) pa_nil)))))) pa_nil))))), ?_⟩
    have dh := dv.up hg
    cases dv with
    | tup hs ha =>
      rename_i a xs ds
      have hs' := Evl.ex_t hg hs
      have ll := dqAll_len ha
      have q' : ∀ b, rowQ L n (.tuple ds) = b → ∀ H', Ex H H' → Q (.bl b) H' := fun b hb => hb ▸ q
      refine isi_go (isi_tup (b := true) hs' (by decide +kernel)) ?_
      refine ⟨_, Or.inr hs', ?_⟩
      refine bite_nd (fun hc => ?_) (fun hc => ?_)
      · exact q' false (by rw [rowQ_tup, decide_eq_false (show ¬ (ds.length : Int) = n by omega), Bool.false_and]) H (ex_refl _)
      · refine ⟨false, xs, hs', ?_⟩
        refine lc_pure hg (fun i _ acc => acc = (((ds.map (isIntD 0 (L - 1))).take i).map V.bl)) ?_ rfl ?_ ?_ ?_ ?_
        · exact Nat.le_trans (show xs.length ≤ 1000 by omega) (szr (n := 1000) (by decide +kernel))
        · rintro i _ acc rfl
          rw [List.length_map, List.length_take]
          exact Nat.min_le_left _ _
        · intro G1 H1 g
          exact Evl.ex_t (fun a o e => g.gh a o (g.gg a o e)) hs
        · rintro i x G1 H1 H' acc hi g rfl ⟨rfl, hx⟩ R R0 h1 h2
          obtain ⟨d, ed, dx⟩ := dqAll_at ha hx
          have dx := dx.up (ex_trans g.gg g.gh)
          refine ⟨rfl, ?_⟩
          refine ⟨_, _, _, rfl, dx.isiV.1, dx.isiV.2, Or.inr ⟨_, rfl⟩, Or.inr ⟨_, rfl⟩, ?_⟩
          rw [intV_D dx]
          refine h1 _ G1 _ (Gr.refl g.gh) ?_
          rw [List.take_add_one, List.getElem?_map, ed, List.map_append]
          rfl
        · rintro D G1 H1 acc g hD _ h3 rfl
          rw [List.take_of_length_le (by rw [List.length_map, ll]; exact Nat.le_refl _)] at h3
          refine ⟨_, SqL.of h3, ?_⟩
          have e : (ds.map (isIntD 0 (L - 1))).all id = ds.all (isIntD 0 (L - 1)) := by rw [List.all_map]; rfl
          rw [e]
          exact q' _ (by rw [rowQ_tup, decide_eq_true (show (ds.length : Int) = n by omega), Bool.true_and]) H1 g.hh
    | non => exact isi_go (dh.isi (b := false) (by decide +kernel)) (q H (ex_refl _))
    | bl b => exact isi_go (dh.isi (b := false) (by show kitB "bool" "tuple" = _; decide +kernel)) (q H (ex_refl _))
    | int i => exact isi_go (dh.isi (b := false) (by show kitB "int" "tuple" = _; decide +kernel)) (q H (ex_refl _))
    | str x => exact isi_go (dh.isi (b := false) (by show kitB "str" "tuple" = _; decide +kernel)) (q H (ex_refl _))
    | lst _ _ _ => exact isi_go (dh.isi (b := false) (by show kitB "list" "tuple" = _; decide +kernel)) (q H (ex_refl _))
    | dct _ _ _ => exact isi_go (dh.isi (b := false) (by show kitB "dict" "tuple" = _; decide +kernel)) (q H (ex_refl _))
    | dtu _ _ _ => exact isi_go (dh.isi (b := false) (by show kitB "dict" "tuple" = _; decide +kernel)) (q H (ex_refl _))
    | dbo _ _ _ => exact isi_go (dh.isi (b := false) (by show kitB "dict" "tuple" = _; decide +kernel)) (q H (ex_refl _))
end
end k36

namespace k36
open PySem PySem.Spec PyProof.Rows L2 Ech
open He (ga ma)
open He5 (wf)
/-! ### fits_row -/
theorem sc_fits_row : FnScope ["song", "value"] ["song", "value"] (defScope s_fits_row) := ⟨rfl, rfl, rfl, by decide +kernel, rfl, by decide +kernel, by decide +kernel⟩
section
variable {P : Program} {w : World} {K : PySem.W.Frag} {mg : PySem.Str → Option Value} {base : Heap}
theorem F_fits_row (e : Ev K mg) : FunD K "fits_row" "fits_row" (defArgs s_fits_row) (defBody s_fits_row) (defScope s_fits_row) [] [] (ga K "fits_row") (fdA K (ga K "fits_row")) := e.fun_ 54 (d := d_fits_row)
theorem kp_fits_row (e : Ev K mg) : PySem.W.keepIn K (.ref (ga K "fits_row")) = true := (F_fits_row e).kp
theorem b_fits_row (e : Ev K mg) : Binds K (fdA K (ga K "fits_row")) ["song", "value"] [] := (F_fits_row e).bindsN fun _ _ _ _ _ _ us hl => match us, hl with | [_, _], _ => rfl
theorem bn_fits_row_2 (e : Ev K mg) : Bnd K (ga K "fits_row") ["song", "value"] [] := ⟨[], .nil, b_fits_row e⟩
def sp_fits_row (K : PySem.W.Frag) : Sp := fun vs H Q _ => ∃ (G : Hp) (a : Addr) (L n : Int) (es : List Ec) (v : V) (f : Bool) (d : PyData), vs = [.ref a, v] ∧ Ex G H ∧ SongAt K G a L n es ∧ Dq K G f v d ∧ n ≤ 1000 ∧ ∀ H', Ex H H' → Q (.bl (rowQ L n d)) H'
theorem ok_fits_row (e : Ev K mg) : FnOk P w K mg base CX0 7 (ga K "fits_row") (fdA K (ga K "fits_row")) ["song", "value"] (sp_fits_row K) := by
  refine (F_fits_row e).ok sc_fits_row (fun vs H Q E h => ?_) (fun cdv A outer s H vs Q E hr h => ?_)
  · obtain ⟨G, a, L, n, es, v, f, d, rfl, _⟩ := h
    rfl
  · obtain ⟨G, a, L, n, es, v, f, d, rfl, hg, hs, dv, n2, q⟩ := h
    obtain ⟨dx, vo, ws, h1, h2, h3⟩ := id hs
    refine ⟨_, PSs.nox (pss_one (ps_ret (u_call (ok_is_row_of e) (hr.mono (by decide)) (by rfl) (gl_is_row_of e) (kp_is_row_of e) (bn_is_row_of_3 e) pass0 (pa_cons (u_prop (uv 0) (cl_Song e) (pr_Song_letters e) (ok_Song_letters e) (hr.mono (by decide)) (b_Song_letters e) pass0) (pa_cons (uv 1) (pa_cons (u_prop (uv 0) (cl_Song e) (pr_Song_length e) (ok_Song_length e) (hr.mono (by decide)) (b_Song_length e) pass0) pa_nil)))))), ?_⟩
    refine ⟨dx, _, hg _ _ h1, ?_⟩
    refine ⟨G, a, L, n, es, rfl, hg, hs, ?_⟩
    refine ⟨dx, _, hg _ _ h1, ?_⟩
    refine ⟨G, a, L, n, es, rfl, hg, hs, ?_⟩
    exact ⟨G, L, n, v, f, d, rfl, hg, dv, n2, q⟩
end
end k36

namespace k36
open PySem PySem.Spec PyProof.Rows L2 Ech
open He (ga ma)
open He5 (wf)
/-! ### is_row -/
theorem sc_is_row : FnScope ["song", "value"] ["song", "value"] (defScope s_is_row) := ⟨rfl, rfl, rfl, by decide +kernel, rfl, by decide +kernel, by decide +kernel⟩
section
variable {P : Program} {w : World} {K : PySem.W.Frag} {mg : PySem.Str → Option Value} {base : Heap}
theorem F_is_row (e : Ev K mg) : FunD K "is_row" "is_row" (defArgs s_is_row) (defBody s_is_row) (defScope s_is_row) [] [] (ga K "is_row") (fdA K (ga K "is_row")) := e.fun_ 60 (d := d_is_row)
theorem kp_is_row (e : Ev K mg) : PySem.W.keepIn K (.ref (ga K "is_row")) = true := (F_is_row e).kp
theorem b_is_row (e : Ev K mg) : Binds K (fdA K (ga K "is_row")) ["song", "value"] [] := (F_is_row e).bindsN fun _ _ _ _ _ _ us hl => match us, hl with | [_, _], _ => rfl
theorem bn_is_row_2 (e : Ev K mg) : Bnd K (ga K "is_row") ["song", "value"] [] := ⟨[], .nil, b_is_row e⟩
def sp_is_row (K : PySem.W.Frag) : Sp := fun vs H Q E => ∃ (G : Hp) (s v : V) (f : Bool) (d : PyData), vs = [s, v] ∧ Ex G H ∧ Dq K G f v d ∧ ((∃ (a : Addr) (L n : Int) (es : List Ec), s = .ref a ∧ SongAt K G a L n es ∧ n ≤ 40 ∧ ∀ H', Ex H H' → Q (.bl (rowQ L n d)) H') ∨ BadSong K G H s E)
theorem ok_is_row (e : Ev K mg) : FnOk P w K mg base (L2.CX P w) 8 (ga K "is_row") (fdA K (ga K "is_row")) ["song", "value"] (sp_is_row K) := by
  refine (F_is_row e).ok sc_is_row (fun vs H Q E h => ?_) (fun cdv A outer s H vs Q E hr h => ?_)
  · obtain ⟨G, s, v, f, d, rfl, _⟩ := h
    rfl
  · obtain ⟨G, s, v, f, d, rfl, hg, dv, h⟩ := h
    refine ⟨_, (pss_cons (ps_expr (u_callT (takes_of rfl rfl rfl rfl) (ok_need_near e) (hr.mono (by decide)) (by rfl) (gl_need_near e) (kp_need_near e) (bn_need_near_1 e) (pa_cons (uv 0) pa_nil)))
            (pss_one (ps_ret (u_call (ok_fits_row e) (hr.mono (by decide)) (by rfl) (gl_fits_row e) (kp_fits_row e) (bn_fits_row_2 e) pass0 (pa_cons (uv 0) (pa_cons (uv 1) pa_nil)))))), ?_⟩
    rcases h with ⟨a, L, n, es, rfl, hs, n2, q⟩ | bad
    · refine ⟨G, _, rfl, hg, Or.inl ⟨a, L, n, es, rfl, hs, n2, ?_⟩⟩
      exact ⟨G, a, L, n, es, v, f, d, rfl, hg, hs, dv, by omega, q⟩
    · exact ⟨G, _, rfl, hg, Or.inr bad⟩
end
end k36

namespace k36
open PySem PySem.Spec PyProof.Rows L2 Ech
open He (ga ma)
open He5 (wf)
/-! ### InvalidRow.__init__ -/
theorem sc_InvalidRow_init : FnScope ["self", "value"] ["self", "value"] (defScope s_InvalidRow_init) := ⟨rfl, rfl, rfl, by decide +kernel, rfl, by decide +kernel, by decide +kernel⟩
section
variable {P : Program} {w : World} {K : PySem.W.Frag} {mg : PySem.Str → Option Value} {base : Heap}
theorem F_InvalidRow_init (e : Ev K mg) : FunD K "__init__" "InvalidRow.__init__" (defArgs s_InvalidRow_init) (defBody s_InvalidRow_init) (defScope s_InvalidRow_init) [] [] (ma K (ga K "InvalidRow") "__init__") (fdA K (ma K (ga K "InvalidRow") "__init__")) := e.fun_ 12 (d := d_InvalidRow_init)
theorem b_InvalidRow_init (e : Ev K mg) : Binds K (fdA K (ma K (ga K "InvalidRow") "__init__")) ["self", "value"] [] := (F_InvalidRow_init e).bindsN fun _ _ _ _ _ _ us hl => match us, hl with | [_, _], _ => rfl
def sp_InvalidRow_init (K : PySem.W.Frag) : Sp := spErr K (ga K "InvalidRow") "value"
theorem ok_InvalidRow_init (e : Ev K mg) : FnOk P w K mg base CX0 1 (ma K (ga K "InvalidRow") "__init__") (fdA K (ma K (ga K "InvalidRow") "__init__")) ["self", "value"] (sp_InvalidRow_init K) := by
  refine (F_InvalidRow_init e).ok sc_InvalidRow_init (fun vs H Q E h => ?_) (fun cdv A outer s H vs Q E hr h => ?_)
  · obtain ⟨a, v, rfl, _⟩ := h
    rfl
  · obtain ⟨a, v, rfl, ha, q⟩ := h
    refine ⟨_, PSs.nox (pss_cons (ps_expr (pe_veinit (by rfl) (fr_ValueError e) (er_InvalidRow e).vei (pa_cons (uv 0) (pa_cons pe_str pa_nil))))
            (pss_one (ps_ost (uv 0) (uv 1)))), ?_⟩
    refine ⟨a, (ga K "InvalidRow"), _, rfl, by decide, (er_InvalidRow e).oex, ha, ?_⟩
    exact ⟨a, (ga K "InvalidRow"), rfl, (er_InvalidRow e).oex, (er_InvalidRow e).none_, Or.inl ⟨ha, fun dx h1 h2 => q dx h1 h2⟩⟩
end
end k36

namespace k36
open PySem PySem.Spec PyProof.Rows L2 Ech
open He (ga ma)
open He5 (wf)
/-! ### need_row -/
theorem sc_need_row : FnScope ["song", "value"] ["song", "value"] (defScope s_need_row) := ⟨rfl, rfl, rfl, by decide +kernel, rfl, by decide +kernel, by decide +kernel⟩
section
variable {P : Program} {w : World} {K : PySem.W.Frag} {mg : PySem.Str → Option Value} {base : Heap}
theorem F_need_row (e : Ev K mg) : FunD K "need_row" "need_row" (defArgs s_need_row) (defBody s_need_row) (defScope s_need_row) [] [] (ga K "need_row") (fdA K (ga K "need_row")) := e.fun_ 55 (d := d_need_row)
theorem kp_need_row (e : Ev K mg) : PySem.W.keepIn K (.ref (ga K "need_row")) = true := (F_need_row e).kp
theorem b_need_row (e : Ev K mg) : Binds K (fdA K (ga K "need_row")) ["song", "value"] [] := (F_need_row e).bindsN fun _ _ _ _ _ _ us hl => match us, hl with | [_, _], _ => rfl
theorem bn_need_row_2 (e : Ev K mg) : Bnd K (ga K "need_row") ["song", "value"] [] := ⟨[], .nil, b_need_row e⟩
def sp_need_row (K : PySem.W.Frag) : Sp := fun vs H Q E => ∃ (G : Hp) (a : Addr) (L n : Int) (es : List Ec) (v : V) (f : Bool) (d : PyData), vs = [.ref a, v] ∧ Ex G H ∧ SongAt K G a L n es ∧ Dq K G f v d ∧ n ≤ 1000 ∧ (rowQ L n d = true → ∀ H', Ex H H' → Q v H') ∧ (rowQ L n d = false → RaisesQ K "InvalidRow" v H E)
theorem ok_need_row (e : Ev K mg) : FnOk P w K mg base (L2.CX P w) 8 (ga K "need_row") (fdA K (ga K "need_row")) ["song", "value"] (sp_need_row K) := by
  refine (F_need_row e).ok sc_need_row (fun vs H Q E h => ?_) (fun cdv A outer s H vs Q E hr h => ?_)
  · obtain ⟨G, a, L, n, es, v, f, d, rfl, _⟩ := h
    rfl
  · obtain ⟨G, a, L, n, es, v, f, d, rfl, hg, hs, dv, n2, q1, q2⟩ := h
    refine ⟨_, (pss_cons (u_if (pt_not (k_tru (K := K) rfl (u_call (ok_fits_row e) (hr.mono (by decide)) (by rfl) (gl_fits_row e) (kp_fits_row e) (bn_fits_row_2 e) pass0 (pa_cons (uv 0) (pa_cons (uv 1) pa_nil))))) (pss_one (u_raise (by rfl) (takes_of rfl rfl rfl rfl) (er_InvalidRow e).oex (er_InvalidRow e).ini (er_InvalidRow e).fun_ (ok_InvalidRow_init e) (hr.mono (by decide)) (b_InvalidRow_init e) pass0 (by rfl) (gl_InvalidRow e) (pa_cons (uv 1) pa_nil))) pss_nil)
            (pss_one (ps_ret (uv 1)))), ?_⟩
    refine ⟨G, a, L, n, es, v, f, d, rfl, hg, hs, dv, n2, fun H1 x1 => ?_⟩
    cases hz : rowQ L n d with
    | true => exact q1 hz H1 x1
    | false => exact fun d' H2 m2 => q2 hz d' H1 H2 x1 m2
end
end k36

namespace k36
open PySem PySem.Spec PyProof.Rows L2 Ech
open He (ga ma)
open He5 (wf)
/-! ### InvalidWishes.__init__ -/
theorem sc_InvalidWishes_init : FnScope ["self", "value"] ["self", "value"] (defScope s_InvalidWishes_init) := ⟨rfl, rfl, rfl, by decide +kernel, rfl, by decide +kernel, by decide +kernel⟩
section
variable {P : Program} {w : World} {K : PySem.W.Frag} {mg : PySem.Str → Option Value} {base : Heap}
theorem F_InvalidWishes_init (e : Ev K mg) : FunD K "__init__" "InvalidWishes.__init__" (defArgs s_InvalidWishes_init) (defBody s_InvalidWishes_init) (defScope s_InvalidWishes_init) [] [] (ma K (ga K "InvalidWishes") "__init__") (fdA K (ma K (ga K "InvalidWishes") "__init__")) := e.fun_ 13 (d := d_InvalidWishes_init)
theorem b_InvalidWishes_init (e : Ev K mg) : Binds K (fdA K (ma K (ga K "InvalidWishes") "__init__")) ["self", "value"] [] := (F_InvalidWishes_init e).bindsN fun _ _ _ _ _ _ us hl => match us, hl with | [_, _], _ => rfl
def sp_InvalidWishes_init (K : PySem.W.Frag) : Sp := spErr K (ga K "InvalidWishes") "value"
theorem ok_InvalidWishes_init (e : Ev K mg) : FnOk P w K mg base CX0 1 (ma K (ga K "InvalidWishes") "__init__") (fdA K (ma K (ga K "InvalidWishes") "__init__")) ["self", "value"] (sp_InvalidWishes_init K) := by
  refine (F_InvalidWishes_init e).ok sc_InvalidWishes_init (fun vs H Q E h => ?_) (fun cdv A outer s H vs Q E hr h => ?_)
  · obtain ⟨a, v, rfl, _⟩ := h
    rfl
  · obtain ⟨a, v, rfl, ha, q⟩ := h
    refine ⟨_, PSs.nox (pss_cons (ps_expr (pe_veinit (by rfl) (fr_ValueError e) (er_InvalidWishes e).vei (pa_cons (uv 0) (pa_cons pe_str pa_nil))))
            (pss_one (ps_ost (uv 0) (uv 1)))), ?_⟩
    refine ⟨a, (ga K "InvalidWishes"), _, rfl, by decide, (er_InvalidWishes e).oex, ha, ?_⟩
    exact ⟨a, (ga K "InvalidWishes"), rfl, (er_InvalidWishes e).oex, (er_InvalidWishes e).none_, Or.inl ⟨ha, fun dx h1 h2 => q dx h1 h2⟩⟩
end
end k36

namespace k36
open PySem PySem.Spec PyProof.Rows L2 Ech
open He (ga ma)
open He5 (wf)
/-! ### need_wishes -/
theorem sc_need_wishes : FnScope ["song", "value"] ["song", "value"] (defScope s_need_wishes) := ⟨rfl, rfl, rfl, by decide +kernel, rfl, by decide +kernel, by decide +kernel⟩
section
variable {P : Program} {w : World} {K : PySem.W.Frag} {mg : PySem.Str → Option Value} {base : Heap}
theorem F_need_wishes (e : Ev K mg) : FunD K "need_wishes" "need_wishes" (defArgs s_need_wishes) (defBody s_need_wishes) (defScope s_need_wishes) [] [] (ga K "need_wishes") (fdA K (ga K "need_wishes")) := e.fun_ 59 (d := d_need_wishes)
theorem kp_need_wishes (e : Ev K mg) : PySem.W.keepIn K (.ref (ga K "need_wishes")) = true := (F_need_wishes e).kp
theorem b_need_wishes (e : Ev K mg) : Binds K (fdA K (ga K "need_wishes")) ["song", "value"] [] := (F_need_wishes e).bindsN fun _ _ _ _ _ _ us hl => match us, hl with | [_, _], _ => rfl
theorem bn_need_wishes_2 (e : Ev K mg) : Bnd K (ga K "need_wishes") ["song", "value"] [] := ⟨[], .nil, b_need_wishes e⟩
def sp_need_wishes (K : PySem.W.Frag) : Sp := fun vs H Q E => ∃ (G : Hp) (a : Addr) (L n : Int) (es : List Ec) (v : V) (f : Bool) (d : PyData), vs = [.ref a, v] ∧ Ex G H ∧ SongAt K G a L n es ∧ L ≤ 1000 ∧ Dq K G f v d ∧
  (∀ d' kvs ws H1 H', Ex H H1 → New H1 d' (.dK kvs) H' → Paired (WishKV K G) kvs ws → WishOk L n ws → ws.length ≤ 1000 → (v = .non ∧ ws = [] ∨ ∃ dd, v = .ref dd ∧ Rd G dd (.dK kvs) ∧ wishQ L n d = true ∧ d = .dict (ws.map wishP)) → Q (.ref d') H') ∧ (v ≠ .non → wishQ L n d = false → RaisesQ K "InvalidWishes" v H E)
theorem ok_need_wishes (e : Ev K mg) : FnOk P w K mg base (L2.CX P w) 9 (ga K "need_wishes") (fdA K (ga K "need_wishes")) ["song", "value"] (sp_need_wishes K) := by
  refine (F_need_wishes e).ok sc_need_wishes (fun vs H Q E h => ?_) (fun cdv A outer s H vs Q E hr h => ?_)
  · obtain ⟨G, a, L, n, es, v, f, d, rfl, _⟩ := h
    rfl
  · obtain ⟨G, a, L, n, es, v, f, d, rfl, hg, hs, l5, dv, q1, q3⟩ := h
    refine ⟨_, (pss_cons (u_if (u_cmpT o_is (uv 1) pe_non (nomark _)) (pss_one (ps_ret pe_dnewK)) pss_nil)
            (pss_cons (u_if (pt_not (k_tru (K := K) rfl (u_call (ok_fits_wishes e) (hr.mono (by decide)) (by rfl) (gl_fits_wishes e) (kp_fits_wishes e) (bn_fits_wishes_2 e) pass0 (pa_cons (uv 0) (pa_cons (uv 1) pa_nil))))) (pss_one (u_raise (by rfl) (takes_of rfl rfl rfl rfl) (er_InvalidWishes e).oex (er_InvalidWishes e).ini (er_InvalidWishes e).fun_ (ok_InvalidWishes_init e) (hr.mono (by decide)) (b_InvalidWishes_init e) pass0 (by rfl) (gl_InvalidWishes e) (pa_cons (uv 1) pa_nil))) pss_nil)
            (pss_one (ps_ret (pe_callTy (T := "dict") c_dict (by rfl) (fr_dict e) (by decide +kernel) (pa_cons (uv 1) pa_nil)))))), ?_⟩
    have dv' := dv
    cases dv with
    | non => exact fun d' hd' => q1 d' [] [] H _ (ex_refl _) ⟨hd', rfl⟩ .nil ⟨(fun w hw => by cases hw), List.nodup_nil⟩ (Nat.zero_le _) (Or.inl ⟨rfl, rfl⟩)
    | bl b =>
      refine ⟨G, a, L, n, es, _, f, _, rfl, hg, hs, dv', l5, fun H1 x1 => ?_⟩
      cases hz : wishQ L n (.bool b) with
      | false => exact fun d' H2 m2 => q3 (fun z => nomatch z) hz d' H1 H2 x1 m2
      | true =>
        obtain ⟨dd, kvs, ws, e1, rd, pw, wok, wl, ed⟩ := wish_of dv' hz
        cases e1
    | int i =>
      refine ⟨G, a, L, n, es, _, f, _, rfl, hg, hs, dv', l5, fun H1 x1 => ?_⟩
      cases hz : wishQ L n (.int i) with
      | false => exact fun d' H2 m2 => q3 (fun z => nomatch z) hz d' H1 H2 x1 m2
      | true =>
        obtain ⟨dd, kvs, ws, e1, rd, pw, wok, wl, ed⟩ := wish_of dv' hz
        cases e1
    | str x =>
      refine ⟨G, a, L, n, es, _, f, _, rfl, hg, hs, dv', l5, fun H1 x1 => ?_⟩
      cases hz : wishQ L n (.str x) with
      | false => exact fun d' H2 m2 => q3 (fun z => nomatch z) hz d' H1 H2 x1 m2
      | true =>
        obtain ⟨dd, kvs, ws, e1, rd, pw, wok, wl, ed⟩ := wish_of dv' hz
        cases e1
    | lst _ _ _ =>
      refine ⟨G, a, L, n, es, _, f, _, rfl, hg, hs, dv', l5, fun H1 x1 => ?_⟩
      cases hz : wishQ L n (_) with
      | false => exact fun d' H2 m2 => q3 (fun z => nomatch z) hz d' H1 H2 x1 m2
      | true =>
        obtain ⟨dd, kvs, ws, e1, rd, pw, wok, wl, ed⟩ := wish_of dv' hz
        cases e1
        exact ⟨kvs, rd_ex (ex_trans hg x1) rd, fun p H2 nw => q1 p kvs ws H1 H2 x1 nw pw wok wl (Or.inr ⟨_, rfl, rd, hz, ed⟩)⟩
    | tup _ _ =>
      refine ⟨G, a, L, n, es, _, f, _, rfl, hg, hs, dv', l5, fun H1 x1 => ?_⟩
      cases hz : wishQ L n (_) with
      | false => exact fun d' H2 m2 => q3 (fun z => nomatch z) hz d' H1 H2 x1 m2
      | true =>
        obtain ⟨dd, kvs, ws, e1, rd, pw, wok, wl, ed⟩ := wish_of dv' hz
        cases e1
        exact ⟨kvs, rd_ex (ex_trans hg x1) rd, fun p H2 nw => q1 p kvs ws H1 H2 x1 nw pw wok wl (Or.inr ⟨_, rfl, rd, hz, ed⟩)⟩
    | dct _ _ _ =>
      refine ⟨G, a, L, n, es, _, f, _, rfl, hg, hs, dv', l5, fun H1 x1 => ?_⟩
      cases hz : wishQ L n (_) with
      | false => exact fun d' H2 m2 => q3 (fun z => nomatch z) hz d' H1 H2 x1 m2
      | true =>
        obtain ⟨dd, kvs, ws, e1, rd, pw, wok, wl, ed⟩ := wish_of dv' hz
        cases e1
        exact ⟨kvs, rd_ex (ex_trans hg x1) rd, fun p H2 nw => q1 p kvs ws H1 H2 x1 nw pw wok wl (Or.inr ⟨_, rfl, rd, hz, ed⟩)⟩
    | dtu _ _ _ =>
      refine ⟨G, a, L, n, es, _, f, _, rfl, hg, hs, dv', l5, fun H1 x1 => ?_⟩
      cases hz : wishQ L n (_) with
      | false => exact fun d' H2 m2 => q3 (fun z => nomatch z) hz d' H1 H2 x1 m2
      | true =>
        obtain ⟨dd, kvs, ws, e1, rd, pw, wok, wl, ed⟩ := wish_of dv' hz
        cases e1
        exact ⟨kvs, rd_ex (ex_trans hg x1) rd, fun p H2 nw => q1 p kvs ws H1 H2 x1 nw pw wok wl (Or.inr ⟨_, rfl, rd, hz, ed⟩)⟩
    | dbo _ _ _ =>
      refine ⟨G, a, L, n, es, _, f, _, rfl, hg, hs, dv', l5, fun H1 x1 => ?_⟩
      cases hz : wishQ L n (_) with
      | false => exact fun d' H2 m2 => q3 (fun z => nomatch z) hz d' H1 H2 x1 m2
      | true =>
        obtain ⟨dd, kvs, ws, e1, rd, pw, wok, wl, ed⟩ := wish_of dv' hz
        cases e1
        exact ⟨kvs, rd_ex (ex_trans hg x1) rd, fun p H2 nw => q1 p kvs ws H1 H2 x1 nw pw wok wl (Or.inr ⟨_, rfl, rd, hz, ed⟩)⟩
end
end k36

namespace k36
open PySem PySem.Spec PyProof.Rows L2 Ech
open He (ga ma)
open He5 (wf)
/-! ### sum_of -/
theorem sc_sum_of : FnScope ["prices", "total", "price"] ["prices"] (defScope s_sum_of) := ⟨rfl, rfl, rfl, by decide +kernel, rfl, by decide +kernel, by decide +kernel⟩
section
variable {P : Program} {w : World} {K : PySem.W.Frag} {mg : PySem.Str → Option Value} {base : Heap}
theorem F_sum_of (e : Ev K mg) : FunD K "sum_of" "sum_of" (defArgs s_sum_of) (defBody s_sum_of) (defScope s_sum_of) [] [] (ga K "sum_of") (fdA K (ga K "sum_of")) := e.fun_ 3 (d := d_sum_of)
theorem kp_sum_of (e : Ev K mg) : PySem.W.keepIn K (.ref (ga K "sum_of")) = true := (F_sum_of e).kp
theorem bs_sum_of (kV doc pm : Value) (an : Option Addr) (cdv ct : Value) (us rest : List Value) (h : us.length = ([] : List PySem.Str).length) : bindArgs (PySem.W.fnOf "sum_of" "sum_of" (defArgs s_sum_of) (defBody s_sum_of) (defScope s_sum_of) .none kV doc pm an cdv ct) ⟨us ++ rest, []⟩ = (newTuple rest >>= fun t => pure (([] : List PySem.Str).zip us ++ [(("prices" : PySem.Str), t)])) := match us, h, rest with | [], _, [] => rfl | [], _, _ :: _ => rfl
def sp_sum_of (K : PySem.W.Frag) : Sp := fun vs H Q _ => ∃ (t : Addr) (ps : List (Option Int)), vs = [.ref t] ∧ SqT K H t (ps.map pV) ∧ Q (pV (sumO ps)) H
theorem sumO_none {ps : List (Option Int)} {i : Nat} (h : ps[i]? = some none) : sumO ps = none := by
  unfold sumO
  rw [if_neg]
  intro z
  have := List.all_eq_true.mp z none (List.mem_of_getElem? h)
  cases this
theorem ok_sum_of (e : Ev K mg) : FnR P w K mg base CX0 1 (ga K "sum_of") (starSp 0 (sp_sum_of K)) := by
  refine star_ok (ps := []) (F_sum_of e) sc_sum_of bs_sum_of (fun cdv A outer s H vs Q E hr h => ?_)
  obtain ⟨t, ps, rfl, ht, q⟩ := h
  refine ⟨_, PSs.nox (pss_cons (ps_set (i := 1) sc_sum_of.nd (by rfl) (Or.inl rfl) pe_int)
          (pss_cons (u_for PassesOwn.never (by rfl) (k_seq (K := K) rfl (uv 0)) (pg_name (i := 2) sc_sum_of.nd (by rfl) (by first | exact Or.inl rfl | exact Or.inr rfl)) (pss_cons (u_if (u_cmpT o_is (uv 2) pe_non (nomark _)) (pss_one (ps_ret pe_non)) pss_nil)
          (pss_one (u_aug (i := 1) sc_sum_of.nd (by rfl) (Or.inl rfl) (uv 2) o_iadd))))
          (pss_one (ps_ret (uv 1))))), ?_⟩
  have lp : (ps.map pV).length = ps.length := List.length_map _
  refine ⟨false, _, ht, ?_⟩
  rw [lp]
  refine ⟨fun k σ H' => ∃ (y2 : Option V), H' = H ∧ σ = [some (.ref t), some (.int (((ps.take k).map fun x => x.getD 0).sum)), y2] ∧ (ps.take k).all (·.isSome) = true, ?_, ?_, ?_, ?_⟩
  · exact ⟨none, rfl, rfl, rfl⟩
  · rintro k σ H' _ ⟨y2, rfl, _⟩
    exact ht
  · rintro k x σ H2 H' hk ⟨y2, rfl, rfl, al⟩ ⟨rfl, hx⟩
    have hk' : k < ps.length := hk
    rw [List.getElem?_map, List.getElem?_eq_getElem hk'] at hx
    obtain rfl := Option.some.inj hx
    have hx2 := List.getElem?_eq_getElem hk'
    generalize ps[k] = x at hx2
    cases x with
    | none =>
      rw [sumO_none hx2] at q
      exact q
    | some i =>
      refine ⟨some (pV (some i)), rfl, ?_, ?_⟩
      · rw [List.take_add_one, hx2]
        simp
      · rw [List.take_add_one, hx2, List.all_append, al]
        rfl
  · rintro σ H2 ⟨y2, rfl, rfl, al⟩
    rw [List.take_length] at al ⊢
    have e : sumO ps = some ((ps.map fun x => x.getD 0).sum) := by
      unfold sumO
      rw [if_pos al]
    rw [e] at q
    exact q
end
end k36

namespace k36
open PySem PySem.Spec PyProof.Rows L2 Ech
open He (ga ma)
open He5 (wf)
/-! ### Table.price -/
theorem sc_Table_price : FnScope ["self", "first", "second", "letter"] ["self", "first", "second"] (defScope s_Table_price) := ⟨rfl, rfl, rfl, by decide +kernel, rfl, by decide +kernel, by decide +kernel⟩
section
variable {P : Program} {w : World} {K : PySem.W.Frag} {mg : PySem.Str → Option Value} {base : Heap}
theorem F_Table_price (e : Ev K mg) : FunD K "price" "Table.price" (defArgs s_Table_price) (defBody s_Table_price) (defScope s_Table_price) [] [] (ma K (ga K "Table") "price") (fdA K (ma K (ga K "Table") "price")) := e.fun_ 31 (d := d_Table_price)
theorem b_Table_price (e : Ev K mg) : Binds K (fdA K (ma K (ga K "Table") "price")) ["self", "first", "second"] [] := (F_Table_price e).bindsN fun _ _ _ _ _ _ us hl => match us, hl with | [_, _, _], _ => rfl
theorem bn_Table_price_3 (e : Ev K mg) : Bnd K (ma K (ga K "Table") "price") ["self", "first", "second"] [] := ⟨[], .nil, b_Table_price e⟩
def sp_Table_price (K : PySem.W.Frag) : Sp := fun vs H Q _ => ∃ (G : Hp) (t : Addr) (rows : List (List (Option Int))) (i j : Int), vs = [.ref t, .int i, .int j] ∧ Ex G H ∧ TabAt K G t rows ∧ SqR rows ∧ 0 ≤ i ∧ i < rows.length ∧ 0 ≤ j ∧ j < rows.length ∧ ∀ H', Ex H H' → Q (pV (entry rows i j)) H'
theorem isIntV_of5 {i lo hi : Int} (h1 : lo ≤ i) (h2 : i ≤ hi) : isIntV (.int i) (.int lo) (.int hi) = true := by
  show (decide (lo ≤ i) && decide (i ≤ hi)) = true
  rw [decide_eq_true h1, decide_eq_true h2]
  rfl
theorem ok_Table_price (e : Ev K mg) : FnOk P w K mg base CX0 7 (ma K (ga K "Table") "price") (fdA K (ma K (ga K "Table") "price")) ["self", "first", "second"] (sp_Table_price K) := by
  refine (F_Table_price e).ok sc_Table_price (fun vs H Q E h => ?_) (fun cdv A outer s H vs Q E hr h => ?_)
  · obtain ⟨G, t, rows, i, j, rfl, _⟩ := h
    rfl
  · obtain ⟨G, t, rows, i, j, rfl, hg, ht, sq, i0, i1, j0, j1, q⟩ := h
    obtain ⟨dx, ent, t1, t2⟩ := id ht
    refine ⟨_, PSs.nox (pss_cons (u_for PassesOwn.never (by rfl) (k_seq (K := K) rfl (u_tup (pa_cons (uv 1) (pa_cons (uv 2) pa_nil)))) (pg_name (i := 3) sc_Table_price.nd (by rfl) (by first | exact Or.inl rfl | exact Or.inr rfl)) (pss_one (u_if (pt_not (k_tru (K := K) rfl (u_call (ok_is_integer e) (hr.mono (by decide)) (by rfl) (gl_is_integer e) (kp_is_integer e) (bn_is_integer_3 e) pass0 (pa_cons (uv 3) (pa_cons pe_int (pa_cons (pe_op o_sub (u_prop (uv 0) (cl_Table e) (pr_Table_letters e) (ok_Table_letters e) (hr.mono (by decide)) (b_Table_letters e) pass0) pe_int) pa_nil)))))) (pss_one ps_never) pss_nil)))
            (pss_one (ps_ret (pe_ix (ix_k (K := K) rfl) (pe_ix (ix_k (K := K) rfl) (u_fld (cl_Table e) (na_Table_entries e) (uv 0)) (uv 1) (fun _ _ => rfl)) (uv 2) (fun _ _ => rfl))))), ?_⟩
    refine ⟨szr (n := 2) (by decide +kernel), fun tp H1 nw1 => ?_⟩
    refine ⟨false, _, SqT.of nw1.at, ?_⟩
    have x1 : Ex H H1 := nw1.ex
    refine ⟨fun k σ H' => ∃ (y3 : Option V), H' = H1 ∧ σ = [some (.ref t), some (.int i), some (.int j), y3], ?_, ?_, ?_, ?_⟩
    · exact ⟨none, rfl, rfl⟩
    · rintro k σ H' _ ⟨y3, rfl, _⟩
      exact SqT.of nw1.at
    · rintro k x σ H2 H' hk ⟨y3, rfl, rfl⟩ ⟨rfl, hx⟩
      have hxi : ∃ z : Int, x = .int z ∧ 0 ≤ z ∧ z < rows.length := by
        rcases k with _ | _ | k
        · exact ⟨i, (Option.some.inj hx).symm, i0, i1⟩
        · exact ⟨j, (Option.some.inj hx).symm, j0, j1⟩
        · cases hx
      obtain ⟨z, rfl, z0, z1⟩ := hxi
      refine ⟨dx, _, x1 _ _ (hg _ _ t1), ?_⟩
      refine ⟨G, t, rows, rfl, ex_trans hg x1, ht, ?_⟩
      refine ⟨_, _, _, rfl, isi_int_int, isi_int_bool, Or.inr ⟨_, rfl⟩, Or.inr ⟨_, rfl⟩, ?_⟩
      rw [isIntV_of5 z0 (show z ≤ (rows.length : Int) - 1 by omega)]
      exact ⟨_, rfl, rfl⟩
    · rintro σ H2 ⟨y3, rfl, rfl⟩
      refine ⟨dx, _, _, x1 _ _ (hg _ _ t1), look_entries _, ?_⟩
      exact ent_ix (ex_trans hg x1) sq t2 i0 i1 j0 j1 (q _ x1)
end
end k36

namespace k36
open PySem PySem.Spec PyProof.Rows L2 Ech
open He (ga ma)
open He5 (wf)
/-! ### Song.echoes -/
theorem sc_Song_echoes : FnScope ["self"] ["self"] (defScope s_Song_echoes) := ⟨rfl, rfl, rfl, by decide +kernel, rfl, by decide +kernel, by decide +kernel⟩
section
variable {P : Program} {w : World} {K : PySem.W.Frag} {mg : PySem.Str → Option Value} {base : Heap}
theorem F_Song_echoes (e : Ev K mg) : FunD K "echoes" "Song.echoes" (defArgs s_Song_echoes) (defBody s_Song_echoes) (defScope s_Song_echoes) [] [] (wf K (ga K "Song") "property" "echoes") (fdA K (wf K (ga K "Song") "property" "echoes")) := e.fun_ 43 (d := d_Song_echoes)
theorem b_Song_echoes (e : Ev K mg) : Binds K (fdA K (wf K (ga K "Song") "property" "echoes")) ["self"] [] := (F_Song_echoes e).bindsN fun _ _ _ _ _ _ us hl => match us, hl with | [_], _ => rfl
def sp_Song_echoes (K : PySem.W.Frag) : Sp := fun vs H Q _ => ∃ (G : Hp) (a : Addr) (L n : Int) (es : List Ec), vs = [.ref a] ∧ Ex G H ∧ SongAt K G a L n es ∧ ∀ vo ws, SqT K G vo ws → Paired (EchoAt K G) ws es → Q (.ref vo) H
theorem ok_Song_echoes (e : Ev K mg) : FnOk P w K mg base CX0 1 (wf K (ga K "Song") "property" "echoes") (fdA K (wf K (ga K "Song") "property" "echoes")) ["self"] (sp_Song_echoes K) := by
  refine (F_Song_echoes e).ok sc_Song_echoes (fun vs H Q E h => ?_) (fun cdv A outer s H vs Q E hr h => ?_)
  · obtain ⟨G, a, L, n, es, rfl, _⟩ := h
    rfl
  · obtain ⟨G, a, L, n, es, rfl, hg, ⟨dx, vo, ws, h1, h2, h3⟩, q⟩ := h
    refine ⟨_, PSs.nox (pss_one (ps_ret (u_fld (cl_Song e) (na_Song_voices e) (uv 0)))), ?_⟩
    exact ⟨dx, _, _, hg _ _ h1, look_voices _ _ _, q vo ws h2 h3⟩
end
end k36

namespace k36
open PySem PySem.Spec PyProof.Rows L2 Ech
open He (ga ma)
open He5 (wf)
/-! ### link_price -/
theorem sc_link_price : FnScope ["song", "row", "link", "low", "high", "index"] ["song", "row", "link"] (defScope s_link_price) := ⟨rfl, rfl, rfl, by decide +kernel, rfl, by decide +kernel, by decide +kernel⟩
section
variable {P : Program} {w : World} {K : PySem.W.Frag} {mg : PySem.Str → Option Value} {base : Heap}
theorem F_link_price (e : Ev K mg) : FunD K "link_price" "link_price" (defArgs s_link_price) (defBody s_link_price) (defScope s_link_price) [] [] (ga K "link_price") (fdA K (ga K "link_price")) := e.fun_ 64 (d := d_link_price)
theorem kp_link_price (e : Ev K mg) : PySem.W.keepIn K (.ref (ga K "link_price")) = true := (F_link_price e).kp
theorem b_link_price (e : Ev K mg) : Binds K (fdA K (ga K "link_price")) ["song", "row", "link"] [] := (F_link_price e).bindsN fun _ _ _ _ _ _ us hl => match us, hl with | [_, _, _], _ => rfl
theorem bn_link_price_3 (e : Ev K mg) : Bnd K (ga K "link_price") ["song", "row", "link"] [] := ⟨[], .nil, b_link_price e⟩
def sp_link_price (K : PySem.W.Frag) : Sp := fun vs H Q _ => ∃ (G : Hp) (a : Addr) (L n : Int) (es : List Ec) (r : Addr) (ns : List Int) (t : Addr) (low high : Int) (k : Nat) (ec : Ec), vs = [.ref a, .ref r, .ref t] ∧ Ex G H ∧ SongAt K G a L n es ∧ SqT K G r (ns.map V.int) ∧ (∀ i ∈ ns, 0 ≤ i ∧ i < L) ∧
  SqT K G t [.int low, .int high, .int k] ∧ es[k]? = some ec ∧ SqR ec.2.2 ∧ (ec.2.2.length : Int) = L ∧ 0 ≤ low ∧ low < ns.length ∧ 0 ≤ high ∧ high < ns.length ∧ ∀ H', Ex H H' → Q (pV (entry ec.2.2 (ns.getD low.toNat 0) (ns.getD high.toNat 0))) H'
theorem ok_link_price (e : Ev K mg) : FnOk P w K mg base CX0 8 (ga K "link_price") (fdA K (ga K "link_price")) ["song", "row", "link"] (sp_link_price K) := by
  refine (F_link_price e).ok sc_link_price (fun vs H Q E h => ?_) (fun cdv A outer s H vs Q E hr h => ?_)
  · obtain ⟨G, a, L, n, es, r, ns, t, low, high, k, ec, rfl, _⟩ := h
    rfl
  · obtain ⟨G, a, L, n, es, r, ns, t, low, high, k, ec, rfl, hg, hs, hr2, hin, ht, hk, sq, lr, a0, a1, b0, b1, q⟩ := h
    obtain ⟨dx, vo, ws, h1, h2, h3⟩ := id hs
    refine ⟨_, PSs.nox (pss_cons (ps_asg (uv 2) (u_pgtup (K := K) rfl rfl (PGL.cons (pg_name (i := 3) sc_link_price.nd (by rfl) (by first | exact Or.inl rfl | exact Or.inr rfl)) (PGL.cons (pg_name (i := 4) sc_link_price.nd (by rfl) (by first | exact Or.inl rfl | exact Or.inr rfl)) (PGL.cons (pg_name (i := 5) sc_link_price.nd (by rfl) (by first | exact Or.inl rfl | exact Or.inr rfl)) PGL.nil (by rfl)) (by rfl)) (by rfl))))
            (pss_one (ps_ret (u_meth (pe_ix (ix_k (K := K) rfl) (pe_ix (ix_k (K := K) rfl) (u_prop (uv 0) (cl_Song e) (pr_Song_echoes e) (ok_Song_echoes e) (hr.mono (by decide)) (b_Song_echoes e) pass0) (uv 5) (fun _ _ => rfl)) pe_int (fun _ _ => rfl)) (cl_Table e) (me_Table_price e) (ok_Table_price e) (hr.mono (by decide)) (bn_Table_price_3 e) pass0 (pa_cons (pe_ix (ix_k (K := K) rfl) (uv 1) (uv 3) (fun _ _ => rfl)) (pa_cons (pe_ix (ix_k (K := K) rfl) (uv 1) (uv 4) (fun _ _ => rfl)) pa_nil)))))), ?_⟩
    refine ⟨_, Evl.ex_t hg ht, rfl, ?_⟩
    refine ⟨dx, _, hg _ _ h1, ?_⟩
    refine ⟨G, a, L, n, es, rfl, hg, hs, fun vo ws t2 t3 => ?_⟩
    have hkl : k < ws.length := by
      rw [paired_len t3]
      exact (List.getElem?_eq_some_iff.mp hk).1
    obtain ⟨ec', e1, b, e2, tb, tab⟩ := paired_at t3 (List.getElem?_eq_getElem hkl)
    obtain rfl : ec' = ec := by
      rw [hk] at e1
      exact (Option.some.inj e1).symm
    obtain ⟨dt, ent, tab1, tab2⟩ := id tab
    refine ⟨_, _, Or.inr (Evl.ex_t hg t2), atI_nat (by rw [List.getElem?_eq_getElem hkl, e2]), ?_⟩
    refine ⟨_, _, Or.inr (Evl.ex_t hg tb), rfl, ?_⟩
    refine ⟨dt, _, hg _ _ tab1, by rfl, ?_⟩
    refine ⟨_, _, Or.inr (Evl.ex_t hg hr2), int_at (k := low.toNat) (by omega) (by omega), ?_⟩
    refine ⟨_, _, Or.inr (Evl.ex_t hg hr2), int_at (k := high.toNat) (by omega) (by omega), ?_⟩
    have m1 := hin _ (getD_mem (ns := ns) (k := low.toNat) (by omega))
    have m2 := hin _ (getD_mem (ns := ns) (k := high.toNat) (by omega))
    exact ⟨G, ec'.2.1, ec'.2.2, _, _, rfl, hg, tab, sq, m1.1, by omega, m2.1, by omega, q⟩
end
end k36

namespace k36
open PySem PySem.Spec PyProof.Rows L2 Ech
open He (ga ma)
open He5 (wf)
/-! ### links_of -/
theorem sc_links_of : FnScope ["song", "found", "index", "delay", "table", "low"] ["song"] (defScope s_links_of) := ⟨rfl, rfl, rfl, by decide +kernel, rfl, by decide +kernel, by decide +kernel⟩
section
variable {P : Program} {w : World} {K : PySem.W.Frag} {mg : PySem.Str → Option Value} {base : Heap}
theorem F_links_of (e : Ev K mg) : FunD K "links_of" "links_of" (defArgs s_links_of) (defBody s_links_of) (defScope s_links_of) [] [] (ga K "links_of") (fdA K (ga K "links_of")) := e.fun_ 63 (d := d_links_of)
theorem kp_links_of (e : Ev K mg) : PySem.W.keepIn K (.ref (ga K "links_of")) = true := (F_links_of e).kp
theorem b_links_of (e : Ev K mg) : Binds K (fdA K (ga K "links_of")) ["song"] [] := (F_links_of e).bindsN fun _ _ _ _ _ _ us hl => match us, hl with | [_], _ => rfl
theorem bn_links_of_1 (e : Ev K mg) : Bnd K (ga K "links_of") ["song"] [] := ⟨[], .nil, b_links_of e⟩
def sp_links_of (K : PySem.W.Frag) : Sp := fun vs H Q _ => ∃ (G : Hp) (a : Addr) (L n : Int) (es : List Ec), vs = [.ref a] ∧ Ex G H ∧ SongAt K G a L n es ∧ es.length ≤ 2 ∧ n ≤ 1000 ∧ (∀ e ∈ es, 1 ≤ e.1 ∧ e.1 < 2 ^ 120) ∧ -(2 ^ 61) ≤ n ∧
  ∀ l ys G' H', Gr G H G' H' → SqL K G' l ys → Paired (TupAt K G') ys (linksD n (es.map (·.1))) → Q (.ref l) H'
theorem ok_links_of (e : Ev K mg) : FnOk P w K mg base CX0 3 (ga K "links_of") (fdA K (ga K "links_of")) ["song"] (sp_links_of K) := by
  refine (F_links_of e).ok sc_links_of (fun vs H Q E h => ?_) (fun cdv A outer s H vs Q E hr h => ?_)
  · obtain ⟨G, a, L, n, es, rfl, _⟩ := h
    rfl
  · obtain ⟨G, a, L, n, es, rfl, hg, hs, l2, n2, d1, n0, q⟩ := h
    obtain ⟨dx, vo0, ws0, h1, _⟩ := id hs
    refine ⟨_, PSs.nox (pss_cons (ps_set (i := 1) sc_links_of.nd (by rfl) (Or.inl rfl) (u_lst pa_nil))
            (pss_cons (u_for PassesOwn.never (by rfl) (k_enum (K := K) rfl (by rfl) (fr_enumerate e) (pa_cons (u_prop (uv 0) (cl_Song e) (pr_Song_echoes e) (ok_Song_echoes e) (hr.mono (by decide)) (b_Song_echoes e) pass0) pa_nil)) (u_pgtup (K := K) rfl rfl (PGL.cons (pg_name (i := 2) sc_links_of.nd (by rfl) (by first | exact Or.inl rfl | exact Or.inr rfl)) (PGL.cons (u_pgtup (K := K) rfl rfl (PGL.cons (pg_name (i := 3) sc_links_of.nd (by rfl) (by first | exact Or.inl rfl | exact Or.inr rfl)) (PGL.cons (pg_name (i := 4) sc_links_of.nd (by rfl) (by first | exact Or.inl rfl | exact Or.inr rfl)) PGL.nil (by rfl)) (by rfl))) PGL.nil (by rfl)) (by rfl))) (pss_one (ps_expr (k_extend (K := K) rfl (uv 1) (pa_cons (u_lc (own := [("low", 5)]) (by rfl) sc_links_of.nd (piu_rangeL (by rfl) (fr_range e) (pa_cons (pe_op o_sub (u_prop (uv 0) (cl_Song e) (pr_Song_length e) (ok_Song_length e) (hr.mono (by decide)) (b_Song_length e) pass0) (uv 3)) pa_nil)) (blkOk_by (by kernel_rfl)) (fun _ _ _ _ _ => (pg_name (i := 5) sc_links_of.nd (by rfl) (by first | exact Or.inl rfl | exact Or.inr rfl))) (fun _ _ _ _ _ => pts_nil) (fun _ _ _ _ _ => (u_tup (pa_cons (uv 5) (pa_cons (pe_op (k_add (K := K) rfl) (uv 5) (uv 3)) (pa_cons (uv 2) pa_nil)))))) pa_nil)))))
            (pss_one (ps_ret (pe_callB (id := "sorted") (k_sorted (K := K) rfl) (by rfl) (fr_sorted e) (by decide +kernel) (pa_cons (uv 1) pa_nil)))))), ?_⟩
    refine ⟨szr (n := 0) (by decide +kernel), fun l H1 nw1 => ?_⟩
    have g1 := nw1.gr0 hg
    refine ⟨dx, _, g1.gh _ _ h1, ?_⟩
    refine ⟨G, a, L, n, es, rfl, g1.gh, hs, fun vo ws t2 t3 => ?_⟩
    have lw : ws.length = es.length := paired_len t3
    refine ⟨ws, Evl.ex_t g1.gh t2, ?_⟩
    refine ⟨fun j σ H' => ∃ (G1 : Hp) (vs : List V) (y2 y3 y4 : Option V), Gr G H G1 H' ∧ σ = [some (.ref a), some (.ref l), y2, y3, y4, none] ∧ G1 l = none ∧ H' l = some (.lst vs) ∧ Paired (TupAt K G1) vs (linksTo n (es.map (·.1)) j), ?_, ?_, ?_, ?_⟩
    · exact ⟨G, [], none, none, none, g1, rfl, nw1.gnone hg, nw1.at, .nil⟩
    · rintro j σ H' _ ⟨G1, vs, y2, y3, y4, g2, _⟩
      exact Evl.ex_t (ex_trans g2.gg g2.gh) t2
    · rintro j x σ H2 H' hj ⟨G2, vs, y2, y3, y4, g2, rfl, u1, u2, u3⟩ ⟨T, k, v, rfl, hT, rfl, hk, hv⟩
      obtain rfl := Option.some.inj hk
      have hj' : j < ws.length := hj
      obtain ⟨ec, e1, b, rfl, tb, tab⟩ := paired_at t3 hv
      have g3 : Gr G2 H2 G2 (upd H2 T (.tup [.int (j : Nat), .ref b])) := New.gr0 ⟨hT, rfl⟩ g2.gh
      have nT : l ≠ T := ne_of_none u2 hT
      have u2' : upd H2 T (.tup [.int (j : Nat), .ref b]) l = some (.lst vs) := by rw [upd_ne nT]; exact u2
      have atT : upd H2 T (.tup [.int (j : Nat), .ref b]) T = some (.tup [.int (j : Nat), .ref b]) := upd_same
      generalize upd H2 T (.tup [.int (j : Nat), .ref b]) = H3 at g3 u2' atT
      have s3 := g2.trans g3
      have x3 := ex_trans s3.gg s3.gh
      have hd : (es.map (·.1)).getD j 0 = ec.1 := by
        rw [List.getD_eq_getElem?_getD, List.getElem?_map, e1]
        rfl
      have d1' := d1 ec (List.mem_of_getElem? e1)
      refine ⟨_, SqT.of atT, rfl, ?_⟩
      refine ⟨_, Evl.ex_t x3 tb, rfl, ?_⟩
      refine ⟨⟨_, SqL.of u2'⟩, ?_⟩
      refine ⟨dx, _, x3 _ _ h1, ?_⟩
      refine ⟨G, a, L, n, es, rfl, x3, hs, ?_⟩
      refine ⟨trivial, ?_⟩
      refine lc_pure s3.gh (fun i G acc => Paired (TupAt K G) acc ((linksOf n ec.1 j).take i)) ?_ .nil ?_ (fun _ _ _ => trivial) ?_ ?_
      · exact Nat.le_trans (by omega : (n - ec.1).toNat ≤ 1000) (szr (by decide +kernel))
      · intro i _ acc h1
        rw [paired_len h1, List.length_take]
        omega
      · rintro i x G4 H4 H5 acc hi g4 h1 ⟨rfl, rfl⟩ R R0 r1 r2
        refine ⟨rfl, ?_⟩
        refine ⟨szr (n := 3) (by decide +kernel), fun t H6 nw6 => ?_⟩
        simp only [Int.zero_add] at nw6
        have g6 := nw6.gr g4.gh
        refine r1 _ _ H6 g6 ?_
        have hi' : i < (linksOf n ec.1 j).length := by rw [linksOf_len]; exact hi
        rw [List.take_add_one, List.getElem?_eq_getElem hi']
        refine paired_one (tups_up g6.gg h1) ⟨t, rfl, ?_⟩
        have ee : (linksOf n ec.1 j)[i] = [(i : Int), (i : Int) + ec.1, (j : Int)] := by
          simp only [linksOf, List.getElem_map, List.getElem_range]
        rw [ee]
        exact SqT.of upd_same
      · rintro D G4 H4 acc g4 hD hGD h4 h5
        have w2 : H4 l = some (.lst vs) := g4.hh _ _ u2'
        have w1 : G4 l = none := g4.free (some_ne u2') u1
        rw [List.take_of_length_le (by rw [linksOf_len]; exact Nat.le_refl _)] at h5
        have lv : vs.length ≤ j * 1000 := by
          rw [paired_len u3]
          refine linksTo_len (fun d hd => ?_) j (by rw [List.length_map, ← lw]; omega)
          obtain ⟨e, he, rfl⟩ := List.mem_map.mp hd
          have := d1 e he
          omega
        refine ⟨_, w2, _, h4, ?_, fun H8 ch => ?_⟩
        · rw [paired_len h5, linksOf_len]
          refine Nat.le_trans (show _ ≤ 5000 from ?_) (szr (by decide +kernel))
          omega
        · rw [ch.eq]
          refine ⟨G4, _, _, _, _, (s3.trans g4).loc nw1.fresh w1, rfl, w1, upd_same, ?_⟩
          rw [linksTo_succ, hd]
          exact paired_app (tups_up g4.gg u3) h5
    · rintro σ H2 ⟨G2, vs, y2, y3, y4, g2, rfl, u1, u2, u3⟩
      refine ⟨vs, TupAt K G2, _, SqL.of u2, u3, fun x d hx => hx.up g2.gh, linksTo_ne, fun ys p H3 pr nw => ?_⟩
      have g3 := nw.gr g2.gh
      refine q p ys _ H3 (g2.trans g3) (SqL.of upd_same) ?_
      have e3 : linksD n (es.map (·.1)) = EchS.isort (linksTo n (es.map (·.1)) ws.length) := by
        unfold linksD
        rw [List.length_map, lw]
      rw [e3]
      exact tups_up g3.gg pr
end
end k36

namespace k36
open PySem PySem.Spec PyProof.Rows L2 Ech
open He (ga ma)
open He5 (wf)
/-! ### price -/
theorem sc_price : FnScope ["song", "row", "wishes", "wanted", "prices", "link", "place"] ["song", "row", "wishes"] (defScope s_price) := ⟨rfl, rfl, rfl, by decide +kernel, rfl, by decide +kernel, by decide +kernel⟩
section
variable {P : Program} {w : World} {K : PySem.W.Frag} {mg : PySem.Str → Option Value} {base : Heap}
theorem F_price (e : Ev K mg) : FunD K "price" "price" (defArgs s_price) (defBody s_price) (defScope s_price) [.non] [] (ga K "price") (fdA K (ga K "price")) := e.fun_ 65 (d := d_price)
theorem kp_price (e : Ev K mg) : PySem.W.keepIn K (.ref (ga K "price")) = true := (F_price e).kp
theorem bn_price_2 (e : Ev K mg) : Bnd K (ga K "price") ["song", "row", "wishes"] [.non] := (F_price e).binds1 2 0 (by simp) (by decide) fun _ _ _ _ _ _ _ us its h1 h2 => match us, h1, its, h2 with | [_, _], _, [_], _ => ⟨_, rfl, rfl⟩
theorem bn_price_3 (e : Ev K mg) : Bnd K (ga K "price") ["song", "row", "wishes"] [] := (F_price e).binds1 3 1 (by simp) (by decide) fun _ _ _ _ _ _ _ us its h1 h2 => match us, h1, its, h2 with | [_, _, _], _, [_], _ => ⟨_, rfl, rfl⟩
def sp_price (K : PySem.W.Frag) : Sp := fun vs H Q E => ∃ (G : Hp) (s rv v : V) (fr fw : Bool) (rd wd : PyData), vs = [s, rv, v] ∧ Ex G H ∧ Dq K G fr rv rd ∧ Dq K G fw v wd ∧ (BadSong K G H s E ∨
  (∃ (a : Addr) (L n : Int) (es : List Ec), s = .ref a ∧ SongAt K G a L n es ∧ 1 ≤ n ∧ n ≤ 40 ∧ L ≤ 5 ∧ es.length ≤ 2 ∧ (∀ e ∈ es, 1 ≤ e.1 ∧ e.1 < 2 ^ 120 ∧ SqR e.2.2 ∧ (e.2.2.length : Int) = L) ∧
    (rowQ L n rd = false → RaisesQ K "InvalidRow" rv H E) ∧ (rowQ L n rd = true → v ≠ .non → wishQ L n wd = false → RaisesQ K "InvalidWishes" v H E) ∧
    (∀ r ns ws, rv = .ref r → SqT K G r (ns.map V.int) → rowQ L n rd = true → rd = .tuple (ns.map PyData.int) → WishOk L n ws → (v = .non ∧ ws = [] ∨ ∃ d kvs, v = .ref d ∧ Rd G d (.dK kvs) ∧ Paired (WishKV K G) kvs ws ∧ wishQ L n wd = true ∧ wd = .dict (ws.map wishP)) → ∀ H', Ex H H' → Q (pV (sumO ((linksD n (es.map (·.1))).map (linkPrice (es.map (·.2.2)) ns) ++ ws.map (wishPrice ns)))) H')))
theorem tabs_at {es : List Ec} {k : Nat} {ec : Ec} (h : es[k]? = some ec) : (es.map (·.2.2)).getD k [] = ec.2.2 := by
  rw [List.getD_eq_getElem?_getD, List.getElem?_map, h]
  rfl
theorem ok_price (e : Ev K mg) : FnOk P w K mg base (L2.CX P w) 10 (ga K "price") (fdA K (ga K "price")) ["song", "row", "wishes"] (sp_price K) := by
  refine (F_price e).ok sc_price (fun vs H Q E h => ?_) (fun cdv A outer s H vs Q E hr h => ?_)
  · obtain ⟨G, s, rv, v, fr, fw, rd, wd, rfl, _⟩ := h
    rfl
  · obtain ⟨G, s, rv, v, fr, fw, rd, wd, rfl, hg, dr, dw, h⟩ := h
    refine ⟨_, (pss_cons (ps_expr (u_callT (takes_of rfl rfl rfl rfl) (ok_need_near e) (hr.mono (by decide)) (by rfl) (gl_need_near e) (kp_need_near e) (bn_need_near_1 e) (pa_cons (uv 0) pa_nil)))
            (pss_cons (ps_expr (u_callT (takes_of rfl rfl rfl rfl) (ok_need_row e) (hr.mono (by decide)) (by rfl) (gl_need_row e) (kp_need_row e) (bn_need_row_2 e) (pa_cons (uv 0) (pa_cons (uv 1) pa_nil))))
            (pss_cons (ps_set (i := 3) sc_price.nd (by rfl) (Or.inr rfl) (u_callT (takes_of rfl rfl rfl rfl) (ok_need_wishes e) (hr.mono (by decide)) (by rfl) (gl_need_wishes e) (kp_need_wishes e) (bn_need_wishes_2 e) (pa_cons (uv 0) (pa_cons (uv 2) pa_nil))))
            (pss_cons (u_setLc (i := 4) (own := [("link", 5)]) (by rfl) sc_price.nd (by rfl) (by rfl) (sw_true rfl rfl rfl (by kernel_rfl)) (k_seq (K := K) rfl (u_call (ok_links_of e) (hr.mono (by decide)) (by rfl) (gl_links_of e) (kp_links_of e) (bn_links_of_1 e) pass0 (pa_cons (uv 0) pa_nil))) (blkOk_by (by kernel_rfl)) (fun _ _ _ _ _ => (pg_name (i := 5) sc_price.nd (by rfl) (by first | exact Or.inl rfl | exact Or.inr rfl))) (fun _ _ _ _ _ => pts_nil) (fun _ _ _ _ _ => (u_call (ok_link_price e) (hr.mono (by decide)) (by rfl) (gl_link_price e) (kp_link_price e) (bn_link_price_3 e) pass0 (pa_cons (uv 0) (pa_cons (uv 1) (pa_cons (uv 5) pa_nil))))))
            (pss_cons (ps_expr (k_extend (K := K) rfl (uv 4) (pa_cons (pe_lock (u_lc (own := [("place", 6)]) (by rfl) sc_price.nd (piu_keys (uv 3)) (blkOk_by (by kernel_rfl)) (fun _ _ _ _ _ => (pg_name (i := 6) sc_price.nd (by rfl) (by first | exact Or.inl rfl | exact Or.inr rfl))) (fun _ _ _ _ _ => pts_nil) (fun _ _ _ _ _ => (pe_ix (ix_k (K := K) rfl) (u_dget (hu_of hr) (uv 3) (uv 6)) (pe_ix (ix_k (K := K) rfl) (uv 1) (uv 6) (fun _ _ => rfl)) (fun _ _ => rfl))))) pa_nil)))
            (pss_one (ps_ret (u_callS1 (K := K) rfl (ok_sum_of e) (hr.mono (by decide)) (by rfl) (gl_sum_of e) (kp_sum_of e) pass0 (uv 4))))))))), ?_⟩
    rcases h with bad | ⟨a, L, n, es, rfl, hs, n1, n2, l5, l2, ok, q1, q2, q3⟩
    · exact ⟨G, _, rfl, hg, Or.inr bad⟩
    refine ⟨G, _, rfl, hg, Or.inl ⟨a, L, n, es, rfl, hs, n2, ?_⟩⟩
    refine ⟨G, a, L, n, es, rv, fr, rd, rfl, hg, hs, dr, by omega, fun hz H1 x1 => ?_, fun hz => q1 hz⟩
    obtain ⟨r, ns, rfl, hrow, ln, hin, hrd⟩ := row_of dr hz
    have hg1 := ex_trans hg x1
    refine ⟨G, a, L, n, es, v, fw, wd, rfl, hg1, hs, by omega, dw, fun d kvs ws Hm H2 xm nwd hp wok w5 hwv => ?_, fun hne hw => (q2 hz hne hw).up x1⟩
    have x2 := ex_trans xm nwd.ex
    have hd1 : H1 d = none := ex_none xm nwd.fresh
    have hd2 := nwd.at
    have hg2 := ex_trans hg1 x2
    have q := q3 r ns ws rfl hrow hz hrd wok (hwv.imp id fun ⟨dd, z1, z2, z3⟩ => ⟨dd, kvs, z1, z2, hp, z3⟩)
    have hdG : G d = none := ex_none hg1 hd1
    refine ⟨G, a, L, n, es, rfl, hg2, hs, l2, by omega, fun e he => ⟨(ok e he).1, (ok e he).2.1⟩, by omega, fun ll ys G3 H3 g3 sl3 pr3 => ?_⟩
    have hd3 : H3 d = some (.dK kvs) := g3.hh _ _ hd2
    have hdG3 : G3 d = none := g3.free (some_ne hd2) hdG
    have ly : ys.length = (linksD n (es.map (·.1))).length := paired_len pr3
    have lks : (linksD n (es.map (·.1))).length ≤ 2000 := by
      rw [linksD_len]
      refine Nat.le_trans (linksTo_len (m := 1000) (fun d hd => ?_) _ (Nat.le_refl _)) ?_
      · obtain ⟨e, he, rfl⟩ := List.mem_map.mp hd
        have := (ok e he).1
        omega
      · rw [List.length_map]
        omega
    have hs3 := hs.up g3.gg
    have hrow3 := Evl.ex_t g3.gg hrow
    refine ⟨true, ys, Evl.ex_l g3.gh sl3, ?_⟩
    refine lc_pure g3.gh (fun i _ acc => acc = (((linksD n (es.map (·.1))).map (linkPrice (es.map (·.2.2)) ns)).take i).map pV) ?_ rfl ?_ ?_ ?_ ?_
    · rw [ly]
      exact Nat.le_trans lks (szr (by decide +kernel))
    · rintro i _ acc rfl
      rw [List.length_map, List.length_take]
      omega
    · intro G4 H4 g4
      exact Evl.ex_l (ex_trans g4.gg g4.gh) sl3
    · rintro i x G4 H4 H5 acc hi g4 rfl ⟨rfl, hx⟩ R R0 r1 r2
      obtain ⟨l, e1, t, rfl, st⟩ := paired_at pr3 hx
      obtain ⟨low, k, hk, hlow, el⟩ := linksD_mem (List.mem_of_getElem? e1)
      have hk' : k < es.length := by rw [List.length_map] at hk; exact hk
      have hec := List.getElem?_eq_getElem hk'
      have hdk : (es.map (·.1)).getD k 0 = es[k].1 := by
        rw [List.getD_eq_getElem?_getD, List.getElem?_map, hec]
        rfl
      have oke := ok _ (List.getElem_mem hk')
      generalize es[k] = ec at hec hdk oke
      rw [hdk] at hlow el
      subst el
      refine ⟨rfl, ?_⟩
      refine ⟨G4, a, L, n, es, r, ns, t, low, low + ec.1, k, ec, rfl, g4.gh, hs3.up g4.gg, Evl.ex_t g4.gg hrow3, hin, Evl.ex_t g4.gg st, hec, oke.2.2.1, oke.2.2.2, by omega, by omega, by omega, by omega, fun H6 x6 => ?_⟩
      refine r1 _ G4 _ ⟨x6, ex_refl _, ex_trans g4.gh x6, fun _ _ => rfl⟩ ?_
      rw [List.take_add_one, List.getElem?_map, e1, List.map_append]
      congr 1
      show [pV _] = [pV (linkPrice (es.map (·.2.2)) ns _)]
      have e9 : linkPrice (es.map (·.2.2)) ns [(low : Int), low + ec.1, (k : Int)] = entry ((es.map (·.2.2)).getD ((k : Int)).toNat []) (ns.getD ((low : Int)).toNat 0) (ns.getD ((low : Int) + ec.1).toNat 0) := rfl
      rw [e9, show ((k : Int)).toNat = k from Int.toNat_natCast k, tabs_at hec]
    · rintro D G4 H4 acc g4 hD hGD h4 rfl
      rw [List.take_of_length_le (by rw [List.length_map, ly]; exact Nat.le_refl _)] at h4
      have hd4 : H4 d = some (.dK kvs) := g4.hh _ _ hd3
      have hdG4 : G4 d = none := g4.free (some_ne hd3) hdG3
      have lw : kvs.length = ws.length := paired_len hp
      have hp4 := wishes_up (ex_trans g3.gg g4.gg) hp
      have hrow4 := Evl.ex_t g4.gg hrow3
      have nDd : D ≠ d := fun z => by rw [z, hd4] at h4; cases h4
      refine ⟨⟨_, SqL.of h4⟩, ?_⟩
      refine ⟨d, _, hd4, trivial, fun od => ?_⟩
      have hg5 : Ex G4 (upd H4 d (.frz od (.dK kvs))) := ex_lock g4.gh hdG4
      refine ⟨od, kvs, upd_same, ?_⟩
      refine lc_pure hg5 (fun i _ acc => acc = ((ws.map (wishPrice ns)).take i).map pV) ?_ rfl ?_ ?_ ?_ ?_
      · rw [lw]
        exact Nat.le_trans w5 (szr (by decide +kernel))
      · rintro i _ acc rfl
        rw [List.length_map, List.length_take]
        omega
      · intro G5 H5 g5
        exact g5.hh _ _ upd_same
      · rintro i x G5 H5 H6 acc hi g5 rfl ⟨rfl, k, v, hkv, rfl⟩ R R0 r1 r2
        obtain ⟨w, e1, hk, t, hv, st⟩ := paired_at hp4 hkv
        have hk' : k = .inl w.1 := hk
        have hv' : v = .ref t := hv
        subst hk'
        subst hv'
        have ow := wok.each w (List.mem_of_getElem? e1)
        have x5 := ex_trans g5.gg g5.gh
        refine ⟨rfl, ?_⟩
        refine ⟨_, dget_key (Or.inr ⟨od, g5.hh _ _ upd_same⟩) (wish_val hp4 wok.nodup hkv), ?_⟩
        refine ⟨_, _, Or.inr (Evl.ex_t x5 hrow4), int_at (k := w.1.toNat) (by show w.1 = _; omega) (by omega), ?_⟩
        have m1 := hin _ (getD_mem (ns := ns) (k := w.1.toNat) (by omega))
        refine ⟨_, _, Or.inr (Evl.ex_t x5 st), row_at m1.1 (by omega), ?_⟩
        refine r1 _ G5 _ (Gr.refl g5.gh) ?_
        rw [List.take_add_one, List.getElem?_map, e1, List.map_append]
        rfl
      · rintro D2 G5 H5 acc g5 hD2 hGD2 h5 rfl
        rw [List.take_of_length_le (by rw [List.length_map, lw]; exact Nat.le_refl _)] at h5
        have hf := g5.hh _ _ (upd_same (H := H4) (a := d) (o := .frz od (.dK kvs)))
        have nD2 : D2 ≠ d := fun z => by rw [z, hf] at h5; cases h5
        have h4' : H5 D = some (.lst (((linksD n (es.map (·.1))).map (linkPrice (es.map (·.2.2)) ns)).map pV)) := g5.hh _ _ (by rw [upd_ne nDd]; exact h4)
        refine ⟨hf, ?_⟩
        refine ⟨_, (by rw [upd_ne nDd]; exact h4'), _, (by rw [upd_ne nD2]; exact h5), ?_, fun H6 ch => ?_⟩
        · rw [List.length_map, List.length_map, List.length_map, List.length_map]
          exact Nat.le_trans (show _ ≤ 3000 by omega) (szr (by decide +kernel))
        · have x6 : Ex H H6 := by
            have y1 : Ex H4 (upd H5 d (.dK kvs)) := ex_unlock hd4 g5.hh
            have y2 : Ex H H4 := ex_trans x1 (ex_trans x2 (ex_trans g3.hh g4.hh))
            intro b o e
            have hb : b ≠ D := fun z => by
              have := ex_trans x1 (ex_trans x2 g3.hh) b o e
              rw [z, hD] at this
              cases this
            rw [ch.off hb]
            exact y1 b o (y2 b o e)
          refine ⟨_, Or.inr (SqL.of ch.at), ?_⟩
          refine ⟨[], _, rfl, rfl, ?_, fun p H7 nw7 => ?_⟩
          · show (_ ++ _ : List V).length ≤ sizeLine
            rw [List.length_append, List.length_map, List.length_map, List.length_map, List.length_map]
            exact Nat.le_trans (show _ ≤ 3000 by omega) (szr (by decide +kernel))
          · refine ⟨p, (linksD n (es.map (·.1))).map (linkPrice (es.map (·.2.2)) ns) ++ ws.map (wishPrice ns), rfl, ?_, q H7 (ex_trans x6 nw7.ex)⟩
            rw [List.map_append]
            exact SqT.of nw7.at
end
end k36

namespace k36
open PySem PySem.Spec PyProof.Rows L2 Ech
open He (ga ma)
open He5 (wf)
/-! ### faults -/
theorem sc_faults : FnScope ["song", "row", "link"] ["song", "row"] (defScope s_faults) := ⟨rfl, rfl, rfl, by decide +kernel, rfl, by decide +kernel, by decide +kernel⟩
section
variable {P : Program} {w : World} {K : PySem.W.Frag} {mg : PySem.Str → Option Value} {base : Heap}
theorem F_faults (e : Ev K mg) : FunD K "faults" "faults" (defArgs s_faults) (defBody s_faults) (defScope s_faults) [] [] (ga K "faults") (fdA K (ga K "faults")) := e.fun_ 66 (d := d_faults)
theorem kp_faults (e : Ev K mg) : PySem.W.keepIn K (.ref (ga K "faults")) = true := (F_faults e).kp
theorem b_faults (e : Ev K mg) : Binds K (fdA K (ga K "faults")) ["song", "row"] [] := (F_faults e).bindsN fun _ _ _ _ _ _ us hl => match us, hl with | [_, _], _ => rfl
theorem bn_faults_2 (e : Ev K mg) : Bnd K (ga K "faults") ["song", "row"] [] := ⟨[], .nil, b_faults e⟩
def sp_faults (K : PySem.W.Frag) : Sp := fun vs H Q E => ∃ (G : Hp) (s rv : V) (fr : Bool) (rd : PyData), vs = [s, rv] ∧ Ex G H ∧ Dq K G fr rv rd ∧ (BadSong K G H s E ∨
  (∃ (a : Addr) (L n : Int) (es : List Ec), s = .ref a ∧ SongAt K G a L n es ∧ 1 ≤ n ∧ n ≤ 40 ∧ L ≤ 5 ∧ es.length ≤ 2 ∧ (∀ e ∈ es, 1 ≤ e.1 ∧ e.1 < 2 ^ 120 ∧ SqR e.2.2 ∧ (e.2.2.length : Int) = L) ∧
    (rowQ L n rd = false → RaisesQ K "InvalidRow" rv H E) ∧ (rowQ L n rd = true → ∀ l G' H', Gr G H G' H' → Q (.ref l) H')))
theorem tabs_at2 {es : List Ec} {k : Nat} {ec : Ec} (h : es[k]? = some ec) : (es.map (·.2.2)).getD k [] = ec.2.2 := by
  rw [List.getD_eq_getElem?_getD, List.getElem?_map, h]
  rfl
theorem filter_take {α : Type} {p : α → Bool} {l : List α} {i : Nat} {a : α} (h : l[i]? = some a) : (l.take (i + 1)).filter p = (l.take i).filter p ++ (if p a then [a] else []) := by
  rw [List.take_add_one, h, List.filter_append]
  cases e : p a
  · simp [e]
  · simp [e]
theorem ok_faults (e : Ev K mg) : FnOk P w K mg base (L2.CX P w) 9 (ga K "faults") (fdA K (ga K "faults")) ["song", "row"] (sp_faults K) := by
  refine (F_faults e).ok sc_faults (fun vs H Q E h => ?_) (fun cdv A outer s H vs Q E hr h => ?_)
  · obtain ⟨G, s, rv, fr, rd, rfl, _⟩ := h
    rfl
  · obtain ⟨G, s, rv, fr, rd, rfl, hg, dr, h⟩ := h
    refine ⟨_, (pss_cons (ps_expr (u_callT (takes_of rfl rfl rfl rfl) (ok_need_near e) (hr.mono (by decide)) (by rfl) (gl_need_near e) (kp_need_near e) (bn_need_near_1 e) (pa_cons (uv 0) pa_nil)))
            (pss_cons (ps_expr (u_callT (takes_of rfl rfl rfl rfl) (ok_need_row e) (hr.mono (by decide)) (by rfl) (gl_need_row e) (kp_need_row e) (bn_need_row_2 e) (pa_cons (uv 0) (pa_cons (uv 1) pa_nil))))
            (pss_one (ps_ret (u_lc (own := [("link", 2)]) (by rfl) sc_faults.nd (k_seq (K := K) rfl (u_call (ok_links_of e) (hr.mono (by decide)) (by rfl) (gl_links_of e) (kp_links_of e) (bn_links_of_1 e) pass0 (pa_cons (uv 0) pa_nil))) (blkOk_by (by kernel_rfl)) (fun _ _ _ _ _ => (pg_name (i := 2) sc_faults.nd (by rfl) (by first | exact Or.inl rfl | exact Or.inr rfl))) (fun _ _ _ _ _ => (pts_one (u_cmpT o_is (u_call (ok_link_price e) (hr.mono (by decide)) (by rfl) (gl_link_price e) (kp_link_price e) (bn_link_price_3 e) pass0 (pa_cons (uv 0) (pa_cons (uv 1) (pa_cons (uv 2) pa_nil)))) pe_non (nomark _)))) (fun _ _ _ _ _ => (uv 2))))))), ?_⟩
    rcases h with bad | ⟨a, L, n, es, rfl, hs, n1, n2, l5, l2, ok, q1, q2⟩
    · exact ⟨G, _, rfl, hg, Or.inr bad⟩
    refine ⟨G, _, rfl, hg, Or.inl ⟨a, L, n, es, rfl, hs, n2, ?_⟩⟩
    refine ⟨G, a, L, n, es, rv, fr, rd, rfl, hg, hs, dr, by omega, fun hz H1 x1 => ?_, fun hz => q1 hz⟩
    obtain ⟨r, ns, rfl, hrow, ln, hin, _⟩ := row_of dr hz
    have q : ∀ l ys G' H', Gr G H G' H' → H l = none → G' l = none → H' l = some (.lst ys) → Paired (TupAt K G') ys ((linksD n (es.map (·.1))).filter fun l => !(linkPrice (es.map (·.2.2)) ns l).isSome) → Q (.ref l) H' := fun l ys G' H' g _ _ _ _ => q2 hz l G' H' g
    have g1 : Gr G H G H1 := ⟨x1, ex_refl _, ex_trans hg x1, fun _ _ => rfl⟩
    refine ⟨G, a, L, n, es, rfl, g1.gh, hs, l2, by omega, fun e he => ⟨(ok e he).1, (ok e he).2.1⟩, by omega, fun ll ys G3 H3 g3 sl3 pr3 => ?_⟩
    have ly : ys.length = (linksD n (es.map (·.1))).length := paired_len pr3
    have lks : (linksD n (es.map (·.1))).length ≤ 2000 := by
      rw [linksD_len]
      refine Nat.le_trans (linksTo_len (m := 1000) (fun d hd => ?_) _ (Nat.le_refl _)) ?_
      · obtain ⟨e, he, rfl⟩ := List.mem_map.mp hd
        have := (ok e he).1
        omega
      · rw [List.length_map]
        omega
    have hs3 := hs.up g3.gg
    have hrow3 := Evl.ex_t g3.gg hrow
    refine ⟨true, ys, Evl.ex_l g3.gh sl3, ?_⟩
    refine lc_pure g3.gh (fun i G acc => Paired (TupAt K G) acc (((linksD n (es.map (·.1))).take i).filter fun l => !(linkPrice (es.map (·.2.2)) ns l).isSome)) ?_ .nil ?_ ?_ ?_ ?_
    · rw [ly]
      exact Nat.le_trans lks (szr (by decide +kernel))
    · intro i _ acc h1
      rw [paired_len h1]
      refine Nat.le_trans (List.length_filter_le _ _) ?_
      rw [List.length_take]
      omega
    · intro G4 H4 g4
      exact Evl.ex_l (ex_trans g4.gg g4.gh) sl3
    · rintro i x G4 H4 H5 acc hi g4 h1 ⟨rfl, hx⟩ R R0 r1 r2
      obtain ⟨l, e1, t, rfl, st⟩ := paired_at pr3 hx
      obtain ⟨low, k, hk, hlow, el⟩ := linksD_mem (List.mem_of_getElem? e1)
      have hk' : k < es.length := by rw [List.length_map] at hk; exact hk
      have hec := List.getElem?_eq_getElem hk'
      have hdk : (es.map (·.1)).getD k 0 = es[k].1 := by
        rw [List.getD_eq_getElem?_getD, List.getElem?_map, hec]
        rfl
      have oke := ok _ (List.getElem_mem hk')
      generalize es[k] = ec at hec hdk oke
      rw [hdk] at hlow el
      have e9 : linkPrice (es.map (·.2.2)) ns l = entry ec.2.2 (ns.getD ((low : Int)).toNat 0) (ns.getD ((low : Int) + ec.1).toNat 0) := by
        rw [el]
        have e9' : linkPrice (es.map (·.2.2)) ns [(low : Int), low + ec.1, (k : Int)] = entry ((es.map (·.2.2)).getD ((k : Int)).toNat []) (ns.getD ((low : Int)).toNat 0) (ns.getD ((low : Int) + ec.1).toNat 0) := rfl
        rw [e9', show ((k : Int)).toNat = k from Int.toNat_natCast k, tabs_at2 hec]
      have st4 := Evl.ex_t g4.gg st
      refine ⟨rfl, ?_⟩
      refine ⟨G4, a, L, n, es, r, ns, t, low, low + ec.1, k, ec, rfl, g4.gh, hs3.up g4.gg, Evl.ex_t g4.gg hrow3, hin, by rw [el] at st4; exact st4, hec, oke.2.2.1, oke.2.2.2, by omega, by omega, by omega, by omega, fun H6 x6 => ?_⟩
      have g6 : Gr G4 H5 G4 H6 := ⟨x6, ex_refl _, ex_trans g4.gh x6, fun _ _ => rfl⟩
      rw [← e9]
      refine bite_mk (fun hc => ?_) (fun hc => ?_)
      · have hc' : (!(linkPrice (es.map (·.2.2)) ns l).isSome) = true := by
          have h : Ech.isNon (pV (linkPrice (es.map (·.2.2)) ns l)) = true := hc
          rwa [isNon_pV] at h
        refine r1 _ G4 _ g6 ?_
        rw [filter_take e1, if_pos hc']
        exact paired_one h1 ⟨t, rfl, st4⟩
      · have hc' : ¬ (!(linkPrice (es.map (·.2.2)) ns l).isSome) = true := by
          have h : Ech.isNon (pV (linkPrice (es.map (·.2.2)) ns l)) = false := hc
          rw [isNon_pV] at h
          rw [h]
          decide
        refine r2 G4 _ g6 ?_
        rw [filter_take e1, if_neg hc', List.append_nil]
        exact h1
    · rintro D G4 H4 acc g4 hD hGD h4 h5
      rw [List.take_of_length_le (by rw [ly]; exact Nat.le_refl _)] at h5
      exact q D acc G4 H4 (g1.trans (g3.trans g4)) ((g1.trans g3).new hD) hGD h4 h5
end
end k36

namespace k36
open PySem PySem.Spec PyProof.Rows L2 Ech
open He (ga ma)
open He5 (wf)
/-! ### fits_fixed -/
theorem sc_fits_fixed : FnScope ["song", "value", "place"] ["song", "value"] (defScope s_fits_fixed) := ⟨rfl, rfl, rfl, by decide +kernel, rfl, by decide +kernel, by decide +kernel⟩
section
variable {P : Program} {w : World} {K : PySem.W.Frag} {mg : PySem.Str → Option Value} {base : Heap}
theorem F_fits_fixed (e : Ev K mg) : FunD K "fits_fixed" "fits_fixed" (defArgs s_fits_fixed) (defBody s_fits_fixed) (defScope s_fits_fixed) [] [] (ga K "fits_fixed") (fdA K (ga K "fits_fixed")) := e.fun_ 58 (d := d_fits_fixed)
theorem kp_fits_fixed (e : Ev K mg) : PySem.W.keepIn K (.ref (ga K "fits_fixed")) = true := (F_fits_fixed e).kp
theorem b_fits_fixed (e : Ev K mg) : Binds K (fdA K (ga K "fits_fixed")) ["song", "value"] [] := (F_fits_fixed e).bindsN fun _ _ _ _ _ _ us hl => match us, hl with | [_, _], _ => rfl
theorem bn_fits_fixed_2 (e : Ev K mg) : Bnd K (ga K "fits_fixed") ["song", "value"] [] := ⟨[], .nil, b_fits_fixed e⟩
def sp_fits_fixed (K : PySem.W.Frag) : Sp := fun vs H Q _ => ∃ (G : Hp) (a : Addr) (L n : Int) (es : List Ec) (v : V) (f : Bool) (d : PyData), vs = [.ref a, v] ∧ Ex G H ∧ SongAt K G a L n es ∧ Dq K G f v d ∧ L ≤ 1000 ∧ ∀ H', Ex H H' → Q (.bl (fixQ L n d)) H'
theorem ok_fits_fixed (e : Ev K mg) : FnOk P w K mg base CX0 7 (ga K "fits_fixed") (fdA K (ga K "fits_fixed")) ["song", "value"] (sp_fits_fixed K) := by
  refine (F_fits_fixed e).ok sc_fits_fixed (fun vs H Q E h => ?_) (fun cdv A outer s H vs Q E hr h => ?_)
  · obtain ⟨G, a, L, n, es, v, f, d, rfl, _⟩ := h
    rfl
  · obtain ⟨G, a, L, n, es, v, f, d, rfl, hg, hs, dv, l5, q⟩ := h
    refine ⟨_, PSs.nox (pss_cons (u_if (pt_not (k_tru (K := K) rfl (pe_callB (id := "isinstance") (k_isi (K := K) rfl) (by rfl) (fr_isinstance e) (by decide +kernel) (pa_cons (uv 1) (pa_cons (u_ty (n := "dict") (by rfl) (fr_dict e) (by decide +kernel)) pa_nil))))) (pss_one (ps_ret pe_bl)) pss_nil)
            (pss_one (ps_ret (pe_callB (id := "all") (k_all (K := K) rfl (by rfl)) (by rfl) (fr_all e) (by decide +kernel) (pa_cons (pe_lockQ (u_lc (own := [("place", 2)]) (by rfl) sc_fits_fixed.nd (piu_keysQ (uv 1)) (blkOk_by (by kernel_rfl)) (fun _ _ _ _ _ => (pg_name (i := 2) sc_fits_fixed.nd (by rfl) (by first | exact Or.inl rfl | exact Or.inr rfl))) (fun _ _ _ _ _ => pts_nil) (fun _ _ _ _ _ => (u_and (u_call (ok_is_place e) (hr.mono (by decide)) (by rfl) (gl_is_place e) (kp_is_place e) (bn_is_place_2 e) pass0 (pa_cons (uv 0) (pa_cons (uv 2) pa_nil))) (pe_one (u_call (ok_is_integer e) (hr.mono (by decide)) (by rfl) (gl_is_integer e) (kp_is_integer e) (bn_is_integer_3 e) pass0 (pa_cons (u_dget (hu_of hr) (uv 1) (uv 2)) (pa_cons pe_int (pa_cons (pe_op o_sub (u_prop (uv 0) (cl_Song e) (pr_Song_letters e) (ok_Song_letters e) (hr.mono (by decide)) (b_Song_letters e) pass0) pe_int) pa_nil))))))))) pa_nil))))), ?_⟩
    have dh := dv.up hg
    cases dv with
    | non => exact isi_go (dh.isi (b := false) (by decide +kernel)) (q H (ex_refl _))
    | bl b => exact isi_go (dh.isi (b := false) (by show kitB "bool" "dict" = _; decide +kernel)) (q H (ex_refl _))
    | int i => exact isi_go (dh.isi (b := false) (by show kitB "int" "dict" = _; decide +kernel)) (q H (ex_refl _))
    | str x => exact isi_go (dh.isi (b := false) (by show kitB "str" "dict" = _; decide +kernel)) (q H (ex_refl _))
    | lst _ _ _ => exact isi_go (dh.isi (b := false) (by show kitB "list" "dict" = _; decide +kernel)) (q H (ex_refl _))
    | tup _ _ => exact isi_go (dh.isi (b := false) (by show kitB "tuple" "dict" = _; decide +kernel)) (q H (ex_refl _))
    | dct h hn ha =>
      rename_i dd kvs ds
      refine isi_go (dh.isi (b := true) (by show kitB "dict" "dict" = _; decide +kernel)) ?_
      rcases h with h | h
      · have hd : H dd = some (.dK kvs) := hg _ _ h
        refine Or.inl ⟨dd, _, hd, trivial, fun od => ?_⟩
        have hg1 : Ex (upd G dd (.frz od (.dK kvs))) (upd H dd (.frz od (.dK kvs))) := ex_both hg
        have kd : DictHO dd (.dK kvs) := .inl ⟨_, rfl⟩
        have ha1 := DqAll.lock (o := od) h kd ha
        have hs1 : SongAt K (upd G dd (.frz od (.dK kvs))) a L n es := song_lock h kd hs
        have hat : (upd H dd (.frz od (.dK kvs))) dd = some (.frz od (.dK kvs)) := upd_same
        have back : ∀ H2, Ex (upd H dd (.frz od (.dK kvs))) H2 → Ex H (upd H2 dd (.dK kvs)) := fun H2 x => ex_unlock hd x
        generalize upd G dd (.frz od (.dK kvs)) = G1 at hg1 ha1 hs1
        generalize upd H dd (.frz od (.dK kvs)) = H1 at hg1 hat back
        have lk : (kvs.map (fun p : Key × V => keyD p.1)).length = ds.length := by rw [List.length_map, ← dqAll_len ha, List.length_map]
        have lz : ((kvs.map (fun p : Key × V => keyD p.1)).zip ds).length = kvs.length := by rw [List.length_zip, ← lk, List.length_map, Nat.min_self]
        refine Or.inl ⟨od, kvs, hat, ?_⟩
        refine lc_pure hg1 (fun i _ acc => acc = (((((kvs.map (fun p : Key × V => keyD p.1)).zip ds).map (fun p => isIntD 0 (n - 1) p.1 && isIntD 0 (L - 1) p.2)).take i).map V.bl)) ?_ rfl ?_ ?_ ?_ ?_
        · exact Nat.le_trans hn.2 (szr (n := 1000) (by decide +kernel))
        · rintro i _ acc rfl
          rw [List.length_map, List.length_take]
          exact Nat.min_le_left _ _
        · intro G2 H2 g
          exact g.hh _ _ hat
        · rintro i x G2 H2 H' acc hi g rfl ⟨rfl, k, w, hkv, rfl⟩ R R0 r1 r2
          have hw : (kvs.map (·.2))[i]? = some w := by rw [List.getElem?_map, hkv]; rfl
          obtain ⟨dw, edw, dqw⟩ := dqAll_at ha1 hw
          have ek : (kvs.map (fun p : Key × V => keyD p.1))[i]? = some (keyD k) := by rw [List.getElem?_map, hkv]; rfl
          have ez := zip_at ek edw
          have kq : Dq K H' f (kV k) (keyD k) := key_Dq k
          have tk : ∀ b, b = (fun p => isIntD 0 (n - 1) p.1 && isIntD 0 (L - 1) p.2) (keyD k, dw) → ((((kvs.map (fun p : Key × V => keyD p.1)).zip ds).map (fun p => isIntD 0 (n - 1) p.1 && isIntD 0 (L - 1) p.2)).take i).map V.bl ++ [V.bl b] = ((((kvs.map (fun p : Key × V => keyD p.1)).zip ds).map (fun p => isIntD 0 (n - 1) p.1 && isIntD 0 (L - 1) p.2)).take (i + 1)).map V.bl := fun b hb => by
            rw [hb, List.take_add_one, List.getElem?_map, ez, List.map_append]
            rfl
          refine ⟨rfl, ?_⟩
          refine ⟨G2, a, L, n, es, kV k, rfl, g.gh, hs1.up g.gg, kq.isiV.1, kq.isiV.2, ?_⟩
          rw [place_D kq]
          cases hz : isIntD 0 (n - 1) (keyD k) with
          | false => exact r1 _ G2 _ (Gr.refl g.gh) (tk false (by show false = (isIntD 0 (n - 1) (keyD k) && _); rw [hz]; rfl))
          | true =>
            refine ⟨_, dget_key (Or.inr ⟨od, g.hh _ _ hat⟩) (valV_nd hn.1 hkv), ?_⟩
            obtain ⟨dx, vo, wss, k1, k2, k3⟩ := id hs1
            have x2 := ex_trans g.gg g.gh
            refine ⟨dx, _, x2 _ _ k1, ?_⟩
            refine ⟨G2, a, L, n, es, rfl, g.gh, hs1.up g.gg, ?_⟩
            have dqH := dqw.up x2
            refine ⟨_, _, _, rfl, dqH.isiV.1, dqH.isiV.2, Or.inr ⟨_, rfl⟩, Or.inr ⟨_, rfl⟩, ?_⟩
            rw [intV_D dqH]
            exact r1 _ G2 _ (Gr.refl g.gh) (tk _ (by show _ = (isIntD 0 (n - 1) (keyD k) && _); rw [hz]; rfl))
        · rintro D G2 H2 acc g hD _ h3 rfl
          rw [List.take_of_length_le (by rw [List.length_map, lz]; exact Nat.le_refl _)] at h3
          have e : ((((kvs.map (fun p : Key × V => keyD p.1)).zip ds).map (fun p => isIntD 0 (n - 1) p.1 && isIntD 0 (L - 1) p.2)).all id) = ((kvs.map (fun p : Key × V => keyD p.1)).zip ds).all (fun p => isIntD 0 (n - 1) p.1 && isIntD 0 (L - 1) p.2) := by rw [List.all_map]; rfl
          have hf := g.hh _ _ hat
          have nD : D ≠ dd := fun z => by rw [z, hf] at h3; cases h3
          refine ⟨hf, ?_⟩
          refine ⟨_, SqL.of (by rw [upd_ne nD]; exact h3), ?_⟩
          rw [e]
          exact q _ (back _ g.hh)
      · obtain ⟨od, h⟩ := h
        have hat := hg _ _ h
        refine Or.inr ?_
        have hg1 := hg
        have ha1 := ha
        have hs1 := hs
        have lk : (kvs.map (fun p : Key × V => keyD p.1)).length = ds.length := by rw [List.length_map, ← dqAll_len ha, List.length_map]
        have lz : ((kvs.map (fun p : Key × V => keyD p.1)).zip ds).length = kvs.length := by rw [List.length_zip, ← lk, List.length_map, Nat.min_self]
        refine Or.inl ⟨od, kvs, hat, ?_⟩
        refine lc_pure hg1 (fun i _ acc => acc = (((((kvs.map (fun p : Key × V => keyD p.1)).zip ds).map (fun p => isIntD 0 (n - 1) p.1 && isIntD 0 (L - 1) p.2)).take i).map V.bl)) ?_ rfl ?_ ?_ ?_ ?_
        · exact Nat.le_trans hn.2 (szr (n := 1000) (by decide +kernel))
        · rintro i _ acc rfl
          rw [List.length_map, List.length_take]
          exact Nat.min_le_left _ _
        · intro G2 H2 g
          exact g.hh _ _ hat
        · rintro i x G2 H2 H' acc hi g rfl ⟨rfl, k, w, hkv, rfl⟩ R R0 r1 r2
          have hw : (kvs.map (·.2))[i]? = some w := by rw [List.getElem?_map, hkv]; rfl
          obtain ⟨dw, edw, dqw⟩ := dqAll_at ha1 hw
          have ek : (kvs.map (fun p : Key × V => keyD p.1))[i]? = some (keyD k) := by rw [List.getElem?_map, hkv]; rfl
          have ez := zip_at ek edw
          have kq : Dq K H' f (kV k) (keyD k) := key_Dq k
          have tk : ∀ b, b = (fun p => isIntD 0 (n - 1) p.1 && isIntD 0 (L - 1) p.2) (keyD k, dw) → ((((kvs.map (fun p : Key × V => keyD p.1)).zip ds).map (fun p => isIntD 0 (n - 1) p.1 && isIntD 0 (L - 1) p.2)).take i).map V.bl ++ [V.bl b] = ((((kvs.map (fun p : Key × V => keyD p.1)).zip ds).map (fun p => isIntD 0 (n - 1) p.1 && isIntD 0 (L - 1) p.2)).take (i + 1)).map V.bl := fun b hb => by
            rw [hb, List.take_add_one, List.getElem?_map, ez, List.map_append]
            rfl
          refine ⟨rfl, ?_⟩
          refine ⟨G2, a, L, n, es, kV k, rfl, g.gh, hs1.up g.gg, kq.isiV.1, kq.isiV.2, ?_⟩
          rw [place_D kq]
          cases hz : isIntD 0 (n - 1) (keyD k) with
          | false => exact r1 _ G2 _ (Gr.refl g.gh) (tk false (by show false = (isIntD 0 (n - 1) (keyD k) && _); rw [hz]; rfl))
          | true =>
            refine ⟨_, dget_key (Or.inr ⟨od, g.hh _ _ hat⟩) (valV_nd hn.1 hkv), ?_⟩
            obtain ⟨dx, vo, wss, k1, k2, k3⟩ := id hs1
            have x2 := ex_trans g.gg g.gh
            refine ⟨dx, _, x2 _ _ k1, ?_⟩
            refine ⟨G2, a, L, n, es, rfl, g.gh, hs1.up g.gg, ?_⟩
            have dqH := dqw.up x2
            refine ⟨_, _, _, rfl, dqH.isiV.1, dqH.isiV.2, Or.inr ⟨_, rfl⟩, Or.inr ⟨_, rfl⟩, ?_⟩
            rw [intV_D dqH]
            exact r1 _ G2 _ (Gr.refl g.gh) (tk _ (by show _ = (isIntD 0 (n - 1) (keyD k) && _); rw [hz]; rfl))
        · rintro D G2 H2 acc g hD _ h3 rfl
          rw [List.take_of_length_le (by rw [List.length_map, lz]; exact Nat.le_refl _)] at h3
          have e : ((((kvs.map (fun p : Key × V => keyD p.1)).zip ds).map (fun p => isIntD 0 (n - 1) p.1 && isIntD 0 (L - 1) p.2)).all id) = ((kvs.map (fun p : Key × V => keyD p.1)).zip ds).all (fun p => isIntD 0 (n - 1) p.1 && isIntD 0 (L - 1) p.2) := by rw [List.all_map]; rfl
          refine ⟨_, SqL.of h3, ?_⟩
          rw [e]
          exact q _ g.hh
    | dtu h hn ha =>
      rename_i dd kvs ds
      refine isi_go (dh.isi (b := true) (by show kitB "dict" "dict" = _; decide +kernel)) ?_
      rcases h with h | h
      · have hd : H dd = some (.dT kvs) := hg _ _ h
        refine Or.inl ⟨dd, _, hd, trivial, fun od => ?_⟩
        have hg1 : Ex (upd G dd (.frz od (.dT kvs))) (upd H dd (.frz od (.dT kvs))) := ex_both hg
        have kd : DictHO dd (.dT kvs) := .inr (.inl ⟨_, rfl⟩)
        have ha1 := DqAll.lock (o := od) h kd ha
        have hs1 : SongAt K (upd G dd (.frz od (.dT kvs))) a L n es := song_lock h kd hs
        have hat : (upd H dd (.frz od (.dT kvs))) dd = some (.frz od (.dT kvs)) := upd_same
        have back : ∀ H2, Ex (upd H dd (.frz od (.dT kvs))) H2 → Ex H (upd H2 dd (.dT kvs)) := fun H2 x => ex_unlock hd x
        generalize upd G dd (.frz od (.dT kvs)) = G1 at hg1 ha1 hs1
        generalize upd H dd (.frz od (.dT kvs)) = H1 at hg1 hat back
        have lk : (kvs.map (fun p : List Key × V => PyData.tuple (p.1.map keyD))).length = ds.length := by rw [List.length_map, ← dqAll_len ha, List.length_map]
        have lz : ((kvs.map (fun p : List Key × V => PyData.tuple (p.1.map keyD))).zip ds).length = kvs.length := by rw [List.length_zip, ← lk, List.length_map, Nat.min_self]
        refine Or.inr (Or.inl ⟨od, kvs, hat, ?_⟩)
        refine lc_pure hg1 (fun i _ acc => acc = (((((kvs.map (fun p : List Key × V => PyData.tuple (p.1.map keyD))).zip ds).map (fun p => isIntD 0 (n - 1) p.1 && isIntD 0 (L - 1) p.2)).take i).map V.bl)) ?_ rfl ?_ ?_ ?_ ?_
        · exact Nat.le_trans hn.2 (szr (n := 1000) (by decide +kernel))
        · rintro i _ acc rfl
          rw [List.length_map, List.length_take]
          exact Nat.min_le_left _ _
        · intro G2 H2 g
          exact g.hh _ _ hat
        · rintro i x G2 H2 H' acc hi g rfl ⟨rfl, k, w, qa, hkv, rfl, hqa⟩ R R0 r1 r2
          have hw : (kvs.map (·.2))[i]? = some w := by rw [List.getElem?_map, hkv]; rfl
          obtain ⟨dw, edw, dqw⟩ := dqAll_at ha1 hw
          have ek : (kvs.map (fun p : List Key × V => PyData.tuple (p.1.map keyD)))[i]? = some (.tuple (k.map keyD)) := by rw [List.getElem?_map, hkv]; rfl
          have ez := zip_at ek edw
          have kq : Dq K H' f (.ref qa) (.tuple (k.map keyD)) := Dq.tup (f := f) (SqT.of hqa) (keys_Dq k)
          have tk : ∀ b, b = (fun p => isIntD 0 (n - 1) p.1 && isIntD 0 (L - 1) p.2) (.tuple (k.map keyD), dw) → ((((kvs.map (fun p : List Key × V => PyData.tuple (p.1.map keyD))).zip ds).map (fun p => isIntD 0 (n - 1) p.1 && isIntD 0 (L - 1) p.2)).take i).map V.bl ++ [V.bl b] = ((((kvs.map (fun p : List Key × V => PyData.tuple (p.1.map keyD))).zip ds).map (fun p => isIntD 0 (n - 1) p.1 && isIntD 0 (L - 1) p.2)).take (i + 1)).map V.bl := fun b hb => by
            rw [hb, List.take_add_one, List.getElem?_map, ez, List.map_append]
            rfl
          refine ⟨rfl, ?_⟩
          refine ⟨G2, a, L, n, es, .ref qa, rfl, g.gh, hs1.up g.gg, kq.isiV.1, kq.isiV.2, ?_⟩
          rw [place_D kq]
          exact r1 _ G2 _ (Gr.refl g.gh) (tk false rfl)
        · rintro D G2 H2 acc g hD _ h3 rfl
          rw [List.take_of_length_le (by rw [List.length_map, lz]; exact Nat.le_refl _)] at h3
          have e : ((((kvs.map (fun p : List Key × V => PyData.tuple (p.1.map keyD))).zip ds).map (fun p => isIntD 0 (n - 1) p.1 && isIntD 0 (L - 1) p.2)).all id) = ((kvs.map (fun p : List Key × V => PyData.tuple (p.1.map keyD))).zip ds).all (fun p => isIntD 0 (n - 1) p.1 && isIntD 0 (L - 1) p.2) := by rw [List.all_map]; rfl
          have hf := g.hh _ _ hat
          have nD : D ≠ dd := fun z => by rw [z, hf] at h3; cases h3
          refine ⟨hf, ?_⟩
          refine ⟨_, SqL.of (by rw [upd_ne nD]; exact h3), ?_⟩
          rw [e]
          exact q _ (back _ g.hh)
      · obtain ⟨od, h⟩ := h
        have hat := hg _ _ h
        refine Or.inr ?_
        have hg1 := hg
        have ha1 := ha
        have hs1 := hs
        have lk : (kvs.map (fun p : List Key × V => PyData.tuple (p.1.map keyD))).length = ds.length := by rw [List.length_map, ← dqAll_len ha, List.length_map]
        have lz : ((kvs.map (fun p : List Key × V => PyData.tuple (p.1.map keyD))).zip ds).length = kvs.length := by rw [List.length_zip, ← lk, List.length_map, Nat.min_self]
        refine Or.inr (Or.inl ⟨od, kvs, hat, ?_⟩)
        refine lc_pure hg1 (fun i _ acc => acc = (((((kvs.map (fun p : List Key × V => PyData.tuple (p.1.map keyD))).zip ds).map (fun p => isIntD 0 (n - 1) p.1 && isIntD 0 (L - 1) p.2)).take i).map V.bl)) ?_ rfl ?_ ?_ ?_ ?_
        · exact Nat.le_trans hn.2 (szr (n := 1000) (by decide +kernel))
        · rintro i _ acc rfl
          rw [List.length_map, List.length_take]
          exact Nat.min_le_left _ _
        · intro G2 H2 g
          exact g.hh _ _ hat
        · rintro i x G2 H2 H' acc hi g rfl ⟨rfl, k, w, qa, hkv, rfl, hqa⟩ R R0 r1 r2
          have hw : (kvs.map (·.2))[i]? = some w := by rw [List.getElem?_map, hkv]; rfl
          obtain ⟨dw, edw, dqw⟩ := dqAll_at ha1 hw
          have ek : (kvs.map (fun p : List Key × V => PyData.tuple (p.1.map keyD)))[i]? = some (.tuple (k.map keyD)) := by rw [List.getElem?_map, hkv]; rfl
          have ez := zip_at ek edw
          have kq : Dq K H' f (.ref qa) (.tuple (k.map keyD)) := Dq.tup (f := f) (SqT.of hqa) (keys_Dq k)
          have tk : ∀ b, b = (fun p => isIntD 0 (n - 1) p.1 && isIntD 0 (L - 1) p.2) (.tuple (k.map keyD), dw) → ((((kvs.map (fun p : List Key × V => PyData.tuple (p.1.map keyD))).zip ds).map (fun p => isIntD 0 (n - 1) p.1 && isIntD 0 (L - 1) p.2)).take i).map V.bl ++ [V.bl b] = ((((kvs.map (fun p : List Key × V => PyData.tuple (p.1.map keyD))).zip ds).map (fun p => isIntD 0 (n - 1) p.1 && isIntD 0 (L - 1) p.2)).take (i + 1)).map V.bl := fun b hb => by
            rw [hb, List.take_add_one, List.getElem?_map, ez, List.map_append]
            rfl
          refine ⟨rfl, ?_⟩
          refine ⟨G2, a, L, n, es, .ref qa, rfl, g.gh, hs1.up g.gg, kq.isiV.1, kq.isiV.2, ?_⟩
          rw [place_D kq]
          exact r1 _ G2 _ (Gr.refl g.gh) (tk false rfl)
        · rintro D G2 H2 acc g hD _ h3 rfl
          rw [List.take_of_length_le (by rw [List.length_map, lz]; exact Nat.le_refl _)] at h3
          have e : ((((kvs.map (fun p : List Key × V => PyData.tuple (p.1.map keyD))).zip ds).map (fun p => isIntD 0 (n - 1) p.1 && isIntD 0 (L - 1) p.2)).all id) = ((kvs.map (fun p : List Key × V => PyData.tuple (p.1.map keyD))).zip ds).all (fun p => isIntD 0 (n - 1) p.1 && isIntD 0 (L - 1) p.2) := by rw [List.all_map]; rfl
          refine ⟨_, SqL.of h3, ?_⟩
          rw [e]
          exact q _ g.hh
    | dbo h hn ha =>
      rename_i dd kvs ds
      refine isi_go (dh.isi (b := true) (by show kitB "dict" "dict" = _; decide +kernel)) ?_
      rcases h with h | h
      · have hd : H dd = some (BdD dd kvs) := hg _ _ h
        refine Or.inl ⟨dd, _, hd, trivial, fun od => ?_⟩
        have hg1 : Ex (upd G dd (.frz od (BdD dd kvs))) (upd H dd (.frz od (BdD dd kvs))) := ex_both hg
        have kd : DictHO dd (BdD dd kvs) := .inr (.inr ⟨_, rfl⟩)
        have ha1 := DqAll.lock (o := od) h kd ha
        have hs1 : SongAt K (upd G dd (.frz od (BdD dd kvs))) a L n es := song_lock h kd hs
        have hat : (upd H dd (.frz od (BdD dd kvs))) dd = some (.frz od (BdD dd kvs)) := upd_same
        have back : ∀ H2, Ex (upd H dd (.frz od (BdD dd kvs))) H2 → Ex H (upd H2 dd (BdD dd kvs)) := fun H2 x => ex_unlock hd x
        generalize upd G dd (.frz od (BdD dd kvs)) = G1 at hg1 ha1 hs1
        generalize upd H dd (.frz od (BdD dd kvs)) = H1 at hg1 hat back
        have lk : (kvs.map (fun p : Bool × V => PyData.bool p.1)).length = ds.length := by rw [List.length_map, ← dqAll_len ha, List.length_map]
        have lz : ((kvs.map (fun p : Bool × V => PyData.bool p.1)).zip ds).length = kvs.length := by rw [List.length_zip, ← lk, List.length_map, Nat.min_self]
        refine Or.inr (Or.inr ⟨od, kvs, hat, ?_⟩)
        refine lc_pure hg1 (fun i _ acc => acc = (((((kvs.map (fun p : Bool × V => PyData.bool p.1)).zip ds).map (fun p => isIntD 0 (n - 1) p.1 && isIntD 0 (L - 1) p.2)).take i).map V.bl)) ?_ rfl ?_ ?_ ?_ ?_
        · exact Nat.le_trans hn.2 (szr (n := 1000) (by decide +kernel))
        · rintro i _ acc rfl
          rw [List.length_map, List.length_take]
          exact Nat.min_le_left _ _
        · intro G2 H2 g
          exact g.hh _ _ hat
        · rintro i x G2 H2 H' acc hi g rfl ⟨rfl, k, w, hkv, rfl⟩ R R0 r1 r2
          have hw : (kvs.map (·.2))[i]? = some w := by rw [List.getElem?_map, hkv]; rfl
          obtain ⟨dw, edw, dqw⟩ := dqAll_at ha1 hw
          have ek : (kvs.map (fun p : Bool × V => PyData.bool p.1))[i]? = some (.bool k) := by rw [List.getElem?_map, hkv]; rfl
          have ez := zip_at ek edw
          have kq : Dq K H' f (.bl k) (.bool k) := Dq.bl (f := f) k
          have tk : ∀ b, b = (fun p => isIntD 0 (n - 1) p.1 && isIntD 0 (L - 1) p.2) (.bool k, dw) → ((((kvs.map (fun p : Bool × V => PyData.bool p.1)).zip ds).map (fun p => isIntD 0 (n - 1) p.1 && isIntD 0 (L - 1) p.2)).take i).map V.bl ++ [V.bl b] = ((((kvs.map (fun p : Bool × V => PyData.bool p.1)).zip ds).map (fun p => isIntD 0 (n - 1) p.1 && isIntD 0 (L - 1) p.2)).take (i + 1)).map V.bl := fun b hb => by
            rw [hb, List.take_add_one, List.getElem?_map, ez, List.map_append]
            rfl
          refine ⟨rfl, ?_⟩
          refine ⟨G2, a, L, n, es, .bl k, rfl, g.gh, hs1.up g.gg, kq.isiV.1, kq.isiV.2, ?_⟩
          rw [place_D kq]
          exact r1 _ G2 _ (Gr.refl g.gh) (tk false rfl)
        · rintro D G2 H2 acc g hD _ h3 rfl
          rw [List.take_of_length_le (by rw [List.length_map, lz]; exact Nat.le_refl _)] at h3
          have e : ((((kvs.map (fun p : Bool × V => PyData.bool p.1)).zip ds).map (fun p => isIntD 0 (n - 1) p.1 && isIntD 0 (L - 1) p.2)).all id) = ((kvs.map (fun p : Bool × V => PyData.bool p.1)).zip ds).all (fun p => isIntD 0 (n - 1) p.1 && isIntD 0 (L - 1) p.2) := by rw [List.all_map]; rfl
          have hf := g.hh _ _ hat
          have nD : D ≠ dd := fun z => by rw [z, hf] at h3; cases h3
          refine ⟨hf, ?_⟩
          refine ⟨_, SqL.of (by rw [upd_ne nD]; exact h3), ?_⟩
          rw [e]
          exact q _ (back _ g.hh)
      · obtain ⟨od, h⟩ := h
        have hat := hg _ _ h
        refine Or.inr ?_
        have hg1 := hg
        have ha1 := ha
        have hs1 := hs
        have lk : (kvs.map (fun p : Bool × V => PyData.bool p.1)).length = ds.length := by rw [List.length_map, ← dqAll_len ha, List.length_map]
        have lz : ((kvs.map (fun p : Bool × V => PyData.bool p.1)).zip ds).length = kvs.length := by rw [List.length_zip, ← lk, List.length_map, Nat.min_self]
        refine Or.inr (Or.inr ⟨od, kvs, hat, ?_⟩)
        refine lc_pure hg1 (fun i _ acc => acc = (((((kvs.map (fun p : Bool × V => PyData.bool p.1)).zip ds).map (fun p => isIntD 0 (n - 1) p.1 && isIntD 0 (L - 1) p.2)).take i).map V.bl)) ?_ rfl ?_ ?_ ?_ ?_
        · exact Nat.le_trans hn.2 (szr (n := 1000) (by decide +kernel))
        · rintro i _ acc rfl
          rw [List.length_map, List.length_take]
          exact Nat.min_le_left _ _
        · intro G2 H2 g
          exact g.hh _ _ hat
        · rintro i x G2 H2 H' acc hi g rfl ⟨rfl, k, w, hkv, rfl⟩ R R0 r1 r2
          have hw : (kvs.map (·.2))[i]? = some w := by rw [List.getElem?_map, hkv]; rfl
          obtain ⟨dw, edw, dqw⟩ := dqAll_at ha1 hw
          have ek : (kvs.map (fun p : Bool × V => PyData.bool p.1))[i]? = some (.bool k) := by rw [List.getElem?_map, hkv]; rfl
          have ez := zip_at ek edw
          have kq : Dq K H' f (.bl k) (.bool k) := Dq.bl (f := f) k
          have tk : ∀ b, b = (fun p => isIntD 0 (n - 1) p.1 && isIntD 0 (L - 1) p.2) (.bool k, dw) → ((((kvs.map (fun p : Bool × V => PyData.bool p.1)).zip ds).map (fun p => isIntD 0 (n - 1) p.1 && isIntD 0 (L - 1) p.2)).take i).map V.bl ++ [V.bl b] = ((((kvs.map (fun p : Bool × V => PyData.bool p.1)).zip ds).map (fun p => isIntD 0 (n - 1) p.1 && isIntD 0 (L - 1) p.2)).take (i + 1)).map V.bl := fun b hb => by
            rw [hb, List.take_add_one, List.getElem?_map, ez, List.map_append]
            rfl
          refine ⟨rfl, ?_⟩
          refine ⟨G2, a, L, n, es, .bl k, rfl, g.gh, hs1.up g.gg, kq.isiV.1, kq.isiV.2, ?_⟩
          rw [place_D kq]
          exact r1 _ G2 _ (Gr.refl g.gh) (tk false rfl)
        · rintro D G2 H2 acc g hD _ h3 rfl
          rw [List.take_of_length_le (by rw [List.length_map, lz]; exact Nat.le_refl _)] at h3
          have e : ((((kvs.map (fun p : Bool × V => PyData.bool p.1)).zip ds).map (fun p => isIntD 0 (n - 1) p.1 && isIntD 0 (L - 1) p.2)).all id) = ((kvs.map (fun p : Bool × V => PyData.bool p.1)).zip ds).all (fun p => isIntD 0 (n - 1) p.1 && isIntD 0 (L - 1) p.2) := by rw [List.all_map]; rfl
          refine ⟨_, SqL.of h3, ?_⟩
          rw [e]
          exact q _ g.hh
end
end k36

namespace k36
open PySem PySem.Spec PyProof.Rows L2 Ech
open He (ga ma)
open He5 (wf)
/-! ### is_fixed -/
theorem sc_is_fixed : FnScope ["song", "value"] ["song", "value"] (defScope s_is_fixed) := ⟨rfl, rfl, rfl, by decide +kernel, rfl, by decide +kernel, by decide +kernel⟩
section
variable {P : Program} {w : World} {K : PySem.W.Frag} {mg : PySem.Str → Option Value} {base : Heap}
theorem F_is_fixed (e : Ev K mg) : FunD K "is_fixed" "is_fixed" (defArgs s_is_fixed) (defBody s_is_fixed) (defScope s_is_fixed) [] [] (ga K "is_fixed") (fdA K (ga K "is_fixed")) := e.fun_ 62 (d := d_is_fixed)
theorem kp_is_fixed (e : Ev K mg) : PySem.W.keepIn K (.ref (ga K "is_fixed")) = true := (F_is_fixed e).kp
theorem b_is_fixed (e : Ev K mg) : Binds K (fdA K (ga K "is_fixed")) ["song", "value"] [] := (F_is_fixed e).bindsN fun _ _ _ _ _ _ us hl => match us, hl with | [_, _], _ => rfl
theorem bn_is_fixed_2 (e : Ev K mg) : Bnd K (ga K "is_fixed") ["song", "value"] [] := ⟨[], .nil, b_is_fixed e⟩
def sp_is_fixed (K : PySem.W.Frag) : Sp := fun vs H Q E => ∃ (G : Hp) (s v : V) (f : Bool) (d : PyData), vs = [s, v] ∧ Ex G H ∧ Dq K G f v d ∧ ((∃ (a : Addr) (L n : Int) (es : List Ec), s = .ref a ∧ SongAt K G a L n es ∧ n ≤ 40 ∧ L ≤ 1000 ∧ ∀ H', Ex H H' → Q (.bl (fixQ L n d)) H') ∨ BadSong K G H s E)
theorem ok_is_fixed (e : Ev K mg) : FnOk P w K mg base (L2.CX P w) 8 (ga K "is_fixed") (fdA K (ga K "is_fixed")) ["song", "value"] (sp_is_fixed K) := by
  refine (F_is_fixed e).ok sc_is_fixed (fun vs H Q E h => ?_) (fun cdv A outer s H vs Q E hr h => ?_)
  · obtain ⟨G, s, v, f, d, rfl, _⟩ := h
    rfl
  · obtain ⟨G, s, v, f, d, rfl, hg, dv, h⟩ := h
    refine ⟨_, (pss_cons (ps_expr (u_callT (takes_of rfl rfl rfl rfl) (ok_need_near e) (hr.mono (by decide)) (by rfl) (gl_need_near e) (kp_need_near e) (bn_need_near_1 e) (pa_cons (uv 0) pa_nil)))
            (pss_one (ps_ret (u_call (ok_fits_fixed e) (hr.mono (by decide)) (by rfl) (gl_fits_fixed e) (kp_fits_fixed e) (bn_fits_fixed_2 e) pass0 (pa_cons (uv 0) (pa_cons (uv 1) pa_nil)))))), ?_⟩
    rcases h with ⟨a, L, n, es, rfl, hs, n2, l5, q⟩ | bad
    · refine ⟨G, _, rfl, hg, Or.inl ⟨a, L, n, es, rfl, hs, n2, ?_⟩⟩
      exact ⟨G, a, L, n, es, v, f, d, rfl, hg, hs, dv, l5, q⟩
    · exact ⟨G, _, rfl, hg, Or.inr bad⟩
end
end k36

namespace k36
open PySem PySem.Spec PyProof.Rows L2 Ech
open He (ga ma)
open He5 (wf)
/-! ### law -/
theorem sc_law : FnScope ["_law_script", "_law_pen_here", "_law_turn", "_law_score", "_law_song", "_law_value", "_law_odd", "_law_far", "_law_row_here", "_law_wishes_here", "_law_one", "_law_due", "_law_told_here", "_law_bad"] ["_law_script"] (defScope s_law) := ⟨rfl, rfl, rfl, by decide +kernel, rfl, by decide +kernel, by decide +kernel⟩
section
variable {P : Program} {w : World} {K : PySem.W.Frag} {mg : PySem.Str → Option Value} {base : Heap}
theorem F_law (e : Ev K mg) : FunD K "law" "law" (defArgs s_law) (defBody s_law) (defScope s_law) [] [] (ga K "law") (fdA K (ga K "law")) := e.fun_ 80 (d := d_law)
set_option maxHeartbeats 40000000
def sp_law (K : PySem.W.Frag) : Sp := fun vs H Q _ => ∃ (a : Addr) (ns : List Int), vs = [.ref a] ∧ SqL K H a (ns.map V.int) ∧ ns.length ≤ 63 ∧ (∀ p ∈ T_, H p.1 = some (.tbl #[])) ∧ ∀ H', Q (.bl true) H'
def rMulN (K : PySem.W.Frag) : R2 := fun x y H Q => match x, y with
  | .ref l, .int k => ∃ xs, SqT K H l xs ∧ xs ≠ [] ∧ 1 ≤ k ∧ k ≤ 1000 ∧ xs.length ≤ 1000 ∧ (k = 1 → Q (.ref l) H) ∧ ∀ p, H p = none → Q (.ref p) (upd H p (.tup (List.replicate k.toNat xs).flatten))
  | _, _ => False
theorem o_mulN {X : Cx} {K : PySem.W.Frag} (hK : X.K = K) : OpR X (binaryOp .Mult) (rMulN K) := by
  subst hK
  refine op_wk (op_rep1.or op_repT) fun x y H Q h => ?_
  unfold rMulN at h
  split at h
  · obtain ⟨xs, h1, h2, h3, h4, h5, h6, h7⟩ := h
    rename_i l k
    by_cases e : k = 1
    · subst e
      exact .inl ⟨l, xs, rfl, rfl, h1, h6 rfl⟩
    · exact .inr ⟨l, k, xs, rfl, rfl, h1, h2, by omega, h4, h5, h7⟩
  · exact h.elim
theorem wish_pri {K : PySem.W.Frag} {G : Hp} : ∀ {kvs : List (Key × V)} {ws : List Wish}, Paired (WishKV K G) kvs ws → DqAll K G false (kvs.map (·.2)) (ws.map fun w => PyData.tuple (w.2.map pD))
  | _, _, .nil => .nil
  | _, _, .cons (a := kv) h t => by
    obtain ⟨_, tt, h2, h3⟩ := h
    refine .cons ?_ (wish_pri t)
    show Dq K G false kv.2 _
    rw [h2]
    exact .tup h3 (dqs _)
where dqs : ∀ ps : List (Option Int), DqAll K G false (ps.map pV) (ps.map pD)
  | [] => .nil
  | p :: ps => .cons (Dq.ofDp (dp_pV p)) (dqs ps)
theorem wish_Dq {K : PySem.W.Frag} {G : Hp} {d : Addr} {kvs : List (Key × V)} {ws : List Wish} {L n : Int} (h : G d = some (.dK kvs)) (p : Paired (WishKV K G) kvs ws) (ok : WishOk L n ws) (l : ws.length ≤ 1000) : ∃ e, Dq K G false (.ref d) e := by
  refine ⟨_, .dct (.inl h) ⟨?_, by rw [paired_len p]; exact l⟩ (wish_pri p)⟩
  rw [wish_fst p]
  have := ok.nodup
  rw [List.nodup_iff_pairwise_ne] at this ⊢
  rw [List.pairwise_map] at this ⊢
  exact this.imp fun h e => h (Sum.inl.inj e)
theorem tb_frz {T : List (Addr × PySem.Str)} {G H : Hp} {d : Addr} {kvs : List (Key × V)} (h : Tb T G H) (hd : H d = some (.dK kvs)) : Tb T (upd G d (.dK kvs)) H := ⟨h.tabs, fun p hp => by
  obtain ⟨ps, e, _⟩ := h.tabs p hp
  rw [upd_ne (fun z => by rw [z, hd] at e; cases e)]
  exact h.un p hp⟩
theorem tb_frz2 {T : List (Addr × PySem.Str)} {G H : Hp} {d : Addr} {o : HO} (h : Tb T G H) (hd : H d = some o) (ho : ∀ ps, o ≠ .tbl ps) : Tb T (upd G d o) H := ⟨h.tabs, fun p hp => by
  obtain ⟨ps, e, _⟩ := h.tabs p hp
  rw [upd_ne (fun z => by rw [z, hd] at e; cases e; exact ho _ rfl)]
  exact h.un p hp⟩
theorem mulN_all {K : PySem.W.Frag} {H : Hp} {l : Addr} {xs : List V} {k : Int} {Q : VK} (h : H l = some (.tup xs)) (h1 : xs ≠ []) (h2 : xs.length ≤ 1000) (k1 : 1 ≤ k) (k2 : k ≤ 1000)
    (q : ∀ t H', Ex H H' → (t = l ∨ H t = none) → H' t = some (.tup (List.replicate k.toNat xs).flatten) → Q (.ref t) H') : rMulN K (.ref l) (.int k) H Q := by
  refine ⟨xs, SqT.of h, h1, k1, k2, h2, fun e => ?_, fun p hp => ?_⟩
  · subst e
    refine q l H (ex_refl _) (Or.inl rfl) ?_
    rw [h]
    simp
  · exact q p _ (Evl.Ex.new hp) (Or.inr hp) upd_same
theorem tC_add {K : PySem.W.Frag} {i j : Int} {σ : L2.St} {H : Hp} {Q : VK} (q : Q (.int (i + j)) H) : tC (.int j) σ H (fun y H2 => rAddU K (.int i) y H2 Q) := q
theorem uVar_at {i : Nat} {σ : L2.St} {H : Hp} {Q : VK} {v : V} (h : slot σ i = some v) (q : Q v H) : uVar i σ H Q := by
  unfold uVar
  rw [h]
  exact q
theorem smq_dct1 {k n : Nat} {x y : PyData} (hx : SmQ k n x) (hy : SmQ k n y) : SmQ (k + 1) (2 * n + 2) (.dict [(x, y)]) := by
  have h1 := hx.dp
  have h2 := hy.dp
  have h3 := hx.w
  have h4 := hy.w
  refine ⟨by simp [PyData.showable, PyData.showableKv, hx.sh, hy.sh], ?_, by simp [PyData.leavesShort, PyData.leavesShortKv, hx.lv, hy.lv], ?_⟩
  · simp only [PyData.depth, PyData.depthKv]; omega
  · simp only [PyData.weight, PyData.weightKv]; omega
structure LSt (K : PySem.W.Frag) (T_ : List (Addr × PySem.Str)) (G H : Hp) (p : Addr) (b : Nat) (l : Addr) (xs T3 : List V) : Prop where
  gh : Ex G H
  pn : Pen K ("index" : PySem.Str) ("left" : PySem.Str) G H p b
  tb : Tb T_ G H
  gl : G l = none
  pl : p ≠ l
  hl : H l = some (.lst xs)
  ts : ∀ x ∈ xs, ∃ t, x = .ref t ∧ H t = some (.tup T3)
theorem LSt.start {K : PySem.W.Frag} {T_ : List (Addr × PySem.Str)} {G H H1 : Hp} {p T l : Addr} {b : Nat} {T3 : List V} (gh : Ex G H) (pn : Pen K ("index" : PySem.Str) ("left" : PySem.Str) G H p b) (tb : Tb T_ G H) (hT : H T = some (.tup T3)) (n : New H l (.lst [.ref T]) H1) : LSt K T_ G H1 p b l [.ref T] T3 :=
  have g := n.gr0 gh
  ⟨g.gh, pn.gr g, tb.gr g, n.gnone gh, pn.off n.fresh, n.at, fun x hx => ⟨T, List.mem_singleton.mp hx, n.ex _ _ hT⟩⟩
theorem LSt.lam {K : PySem.W.Frag} {T_ : List (Addr × PySem.Str)} {G H H1 : Hp} {p P l : Addr} {b : Nat} {xs T3 : List V} (s : LSt K T_ G H p b l xs T3) (inT : ∃ q, (P, q) ∈ T_) (k : ∀ b o, b ≠ P → H b = some o → H1 b = some o) (t : LamX.Tabs T_ H1) : LSt K T_ G H1 p b l xs T3 := by
  obtain ⟨g, tb⟩ := s.tb.lam inT k t s.gh
  have pn := s.pn.tab s.tb inT g
  obtain ⟨q, hq⟩ := inT
  obtain ⟨ps, e, _⟩ := s.tb.tabs _ hq
  refine ⟨g.gh, pn, tb, s.gl, s.pl, k _ _ (fun z => by have := s.hl; rw [z, e] at this; cases this) s.hl, fun x hx => ?_⟩
  obtain ⟨u, h1, h2⟩ := s.ts x hx
  exact ⟨u, h1, k _ _ (fun z => by rw [z, e] at h2; cases h2) h2⟩
theorem LSt.app {K : PySem.W.Frag} {T_ : List (Addr × PySem.Str)} {G H H1 H2 : Hp} {p T l : Addr} {b : Nat} {xs T3 : List V} (s : LSt K T_ G H p b l xs T3) (x : Ex H H1) (hT : H1 T = some (.tup T3)) (c : Chg H1 l (.lst (xs ++ [.ref T])) H2) : LSt K T_ G H2 p b l (xs ++ [.ref T]) T3 := by
  have g := ex_gr s.gh x
  have hl1 := x _ _ s.hl
  have nt : ∀ u, H1 u = some (.tup T3) → u ≠ l := fun u hu z => by rw [z, hl1] at hu; cases hu
  refine ⟨fun a u e => ?_, (s.pn.gr g).step c.keep s.pl, (s.tb.gr g).step c.keep hl1, s.gl, s.pl, by rw [c.eq]; exact upd_same, fun y hy => ?_⟩
  · exact c.keep _ _ (fun z => by rw [z, s.gl] at e; cases e) (g.gh _ _ e)
  · rcases List.mem_append.mp hy with hy | hy
    · obtain ⟨u, h1, h2⟩ := s.ts y hy
      exact ⟨u, h1, c.keep _ _ (nt u (x _ _ h2)) (x _ _ h2)⟩
    · exact ⟨T, List.mem_singleton.mp hy, c.keep _ _ (nt T hT) hT⟩
theorem tups_dp {K : PySem.W.Frag} {H : Hp} {T3 : List V} {d3 : List PyData} (hd : DpAll K H T3 d3) : ∀ {xs : List V}, (∀ x ∈ xs, ∃ t, x = .ref t ∧ SqT K H t T3) → DpAll K H xs (List.replicate xs.length (.tuple d3))
  | [], _ => .nil
  | x :: xs, h => by
    obtain ⟨t, rfl, ht⟩ := h x List.mem_cons_self
    exact .cons (.tup ht hd) (tups_dp hd fun y hy => h y (List.mem_cons_of_mem _ hy))
theorem tups_ne {K : PySem.W.Frag} {H : Hp} {a b : Addr} {xs ys T3 : List V} {d3 : List PyData} {Q : VK} (hd : DpAll K H T3 d3) (lay : ∀ m, PyData.canLayAll0 (List.replicate m (.tuple d3)) = true ∧ PyData.depthAll (List.replicate m (.tuple d3)) ≤ 8 ∧ PyData.eqvAll (List.replicate m (.tuple d3)) (List.replicate m (.tuple d3)) = true) (l : xs.length = ys.length)
    (ha : SqL K H a xs) (hb : SqL K H b ys) (hx : ∀ x ∈ xs, ∃ t, x = .ref t ∧ SqT K H t T3) (hy : ∀ x ∈ ys, ∃ t, x = .ref t ∧ SqT K H t T3) (q : Q (.bl false) H) : rEqU K true (.ref a) (.ref b) H Q := by
  obtain ⟨l1, l2, l3⟩ := lay xs.length
  have sh : SeqAt.shaped (.list (List.replicate xs.length (.tuple d3))) = true := by
    show (PyData.canLay0 (.list _) && decide (PyData.depth (.list _) ≤ 64)) = true
    rw [Bool.and_eq_true]
    exact ⟨by simp only [PyData.canLay0]; exact l1, decide_eq_true (by simp only [PyData.depth]; omega)⟩
  have dy := tups_dp hd hy
  rw [← l] at dy
  refine Or.inr ⟨_, _, .lst ha (tups_dp hd hx), .lst hb dy, sh, sh, ?_⟩
  show Q (.bl (!PyData.eqv (.list _) (.list _))) H
  simp only [PyData.eqv, l3, Bool.not_true]
  exact q
theorem lay_rep {d3 : List PyData} (h1 : PyData.canLayAll0 d3 = true) (h2 : PyData.depthAll d3 ≤ 4) (h3 : PyData.eqvAll d3 d3 = true) : ∀ m, PyData.canLayAll0 (List.replicate m (.tuple d3)) = true ∧ PyData.depthAll (List.replicate m (.tuple d3)) ≤ 8 ∧ PyData.eqvAll (List.replicate m (.tuple d3)) (List.replicate m (.tuple d3)) = true
  | 0 => ⟨by simp [PyData.canLayAll0], by simp [PyData.depthAll], by simp [PyData.eqvAll]⟩
  | m + 1 => by
    obtain ⟨a, b, c⟩ := lay_rep h1 h2 h3 m
    rw [List.replicate_succ]
    refine ⟨by simp [PyData.canLayAll0, PyData.canLay0, a, h1], ?_, by simp [PyData.eqvAll, PyData.eqv, c, h3]⟩
    simp only [PyData.depthAll, PyData.depth]
    omega
theorem told_lay {x y : PySem.Str} (hx : PyData.strOk x = true) (hy : PyData.strOk y = true) : ∀ m, PyData.canLayAll0 (List.replicate m (.tuple [.str x, .str y, .bool true])) = true ∧ PyData.depthAll (List.replicate m (.tuple [.str x, .str y, .bool true])) ≤ 8 ∧ PyData.eqvAll (List.replicate m (.tuple [.str x, .str y, .bool true])) (List.replicate m (.tuple [.str x, .str y, .bool true])) = true :=
  lay_rep (by simp [PyData.canLayAll0, PyData.canLay0, hx, hy]) (by simp [PyData.depthAll, PyData.depth]) (by simp [PyData.eqvAll, PyData.eqv])
theorem far_lay : ∀ m, PyData.canLayAll0 (List.replicate m (.tuple [.str "far", .int 40, .bool true])) = true ∧ PyData.depthAll (List.replicate m (.tuple [.str "far", .int 40, .bool true])) ≤ 8 ∧ PyData.eqvAll (List.replicate m (.tuple [.str "far", .int 40, .bool true])) (List.replicate m (.tuple [.str "far", .int 40, .bool true])) = true :=
  lay_rep (by decide +kernel) (by decide +kernel) (by decide +kernel)
def BadRow (K : PySem.W.Frag) (G : Hp) (L n : Int) (x : V) : Prop := ∃ f d, AnyQ K G f 6 13000 x d ∧ rowQ L n d = false ∧ PyData.strOk d.shown = true
theorem ints_txt (ns : List Int) : ∀ d ∈ ns.map PyData.int, PyData.strOk d.shown = true := fun d hd => by
  obtain ⟨i, _, rfl⟩ := List.mem_map.mp hd
  exact strOk_pD (some i)
theorem ints_smQ {ns : List Int} (h : ∀ i ∈ ns, 0 ≤ i ∧ i < 10) : ∀ d ∈ ns.map PyData.int, Sm 0 300 d := fun d hd => by
  obtain ⟨i, hi, rfl⟩ := List.mem_map.mp hd
  have := h i hi
  exact sm_int (by omega)
theorem map_inj {α β : Type} {f : α → β} (hf : ∀ x y, f x = f y → x = y) : ∀ {xs ys : List α}, xs.map f = ys.map f → xs = ys
  | [], [], _ => rfl
  | x :: xs, y :: ys, h => by
    rw [List.map_cons, List.map_cons, List.cons.injEq] at h
    rw [hf _ _ h.1, map_inj hf h.2]
  | [], _ :: _, h => by simp at h
  | _ :: _, [], h => by simp at h
theorem pD_inj : ∀ x y : Option Int, pD x = pD y → x = y
  | none, none, _ => rfl
  | some i, some j, h => by cases h; rfl
  | none, some _, h => nomatch h
  | some _, none, h => nomatch h
theorem wishP_inj (x y : Wish) (h : wishP x = wishP y) : x = y := by
  obtain ⟨i, a⟩ := x
  obtain ⟨j, b⟩ := y
  have h1 : PyData.int i = .int j := congrArg (·.1) h
  have h2 : PyData.tuple (a.map pD) = .tuple (b.map pD) := congrArg (·.2) h
  cases h1
  rw [map_inj pD_inj (PyData.tuple.inj h2)]
theorem ints_inj {ns ms : List Int} (h : PyData.tuple (ns.map PyData.int) = .tuple (ms.map PyData.int)) : ns = ms := map_inj (fun _ _ h => PyData.int.inj h) (PyData.tuple.inj h)
theorem made_lay (x : Option Int) : ∀ m, PyData.canLayAll0 (List.replicate m (.tuple [.str "made", pD x])) = true ∧ PyData.depthAll (List.replicate m (.tuple [.str "made", pD x])) ≤ 8 ∧ PyData.eqvAll (List.replicate m (.tuple [.str "made", pD x])) (List.replicate m (.tuple [.str "made", pD x])) = true := by
  have h : PyData.strOk "made" = true := by decide +kernel
  cases x with
  | none => exact lay_rep (by simp [pD, PyData.canLayAll0, PyData.canLay0, h]) (by simp [pD, PyData.depthAll, PyData.depth]) (by simp [pD, PyData.eqvAll, PyData.eqv])
  | some i => exact lay_rep (by simp [pD, PyData.canLayAll0, PyData.canLay0, h]) (by simp [pD, PyData.depthAll, PyData.depth]) (by simp [pD, PyData.eqvAll, PyData.eqv])
theorem rowQ_ints {L n : Int} {ns : List Int} (l : (ns.length : Int) = n) (h : ∀ i ∈ ns, 0 ≤ i ∧ i < L) : rowQ L n (.tuple (ns.map PyData.int)) = true := by
  rw [rowQ_tup, List.length_map, Bool.and_eq_true, decide_eq_true_eq]
  refine ⟨l, List.all_eq_true.mpr fun d hd => ?_⟩
  obtain ⟨i, hi, rfl⟩ := List.mem_map.mp hd
  have := h i hi
  show (decide (0 ≤ i) && decide (i ≤ L - 1)) = true
  rw [Bool.and_eq_true, decide_eq_true_eq, decide_eq_true_eq]
  omega
def CandQ (K : PySem.W.Frag) (G : Hp) (x : V) : Prop := ∃ f d, AnyQ K G f 6 13000 x d ∧ PyData.strOk d.shown = true
theorem cand {K : PySem.W.Frag} {G : Hp} {x : V} {d : PyData} {k n : Nat} (h : Dp K G x d) (s : Sm k n d) (hk : k ≤ 6 := by decide) (hn : n ≤ 13000 := by decide) (t : PyData.strOk d.shown = true) : CandQ K G x :=
  ⟨false, d, ⟨Dq.ofDp h, fun z => (by rw [s.nd] at z; cases z), (SmQ.ofSm s).up hk hn⟩, t⟩
theorem cand_zeros {K : PySem.W.Frag} {G : Hp} {a t : Addr} {i m : Int} (ha : G a = some (.dK [(.inl i, .ref t)])) (ht : G t = some (.tup (List.replicate m.toNat [V.int 0]).flatten)) (hi : 0 ≤ i ∧ i < 50) (hm : m ≤ 10) : ∃ f d, AnyQ K G f 6 13000 (.ref a) d ∧ PyData.strOk d.shown = true := by
  have ez : (List.replicate m.toNat [V.int 0]).flatten = (List.replicate m.toNat (0 : Int)).map V.int := by
    generalize m.toNat = k
    induction k with
    | zero => rfl
    | succ k ih => rw [List.replicate_succ, List.replicate_succ, List.flatten_cons, ih]; rfl
  rw [ez] at ht
  have zs : ∀ x ∈ List.replicate m.toNat (0 : Int), 0 ≤ x ∧ x < 10 := fun x hx => by rw [List.eq_of_mem_replicate hx]; decide
  have dqt : ∀ ns : List Int, DqAll K G true (ns.map V.int) (ns.map PyData.int) := fun ns => by
    induction ns with
    | nil => exact .nil
    | cons x ns ih => exact .cons (.int x) ih
  refine ⟨true, .dict [(.int i, .tuple ((List.replicate m.toNat (0 : Int)).map PyData.int))], ⟨.dct (kvs := [(.inl i, .ref t)]) (.inl ha) ⟨(List.nodup_cons.mpr ⟨(fun z => nomatch z), List.nodup_nil⟩), (show 1 ≤ 1000 by decide)⟩ (.cons (.tup (SqT.of ht) (dqt _)) .nil), fun _ => rfl, ?_⟩, strOk_dict1 (strOk_pD (some i)) (strOk_tuple (ints_txt _))⟩
  refine (smq_dct1 (k := 1) (n := 12 * 301) ((SmQ.ofSm (sm_int (by omega))).up (by decide) (by decide)) (SmQ.ofSm (sm_tup (k := 0) (n := 300) 12 (by rw [List.length_map, List.length_replicate]; omega) fun d hd => ?_))).up (by decide) (by decide)
  obtain ⟨x, hx, rfl⟩ := List.mem_map.mp hd
  have := zs x hx
  exact sm_int (by omega)
theorem tup_ne {K : PySem.W.Frag} {H : Hp} {a b : Addr} {T3 : List V} {d3 : List PyData} {Q : VK} (hd : DpAll K H T3 d3) (lay : ∀ m, PyData.canLayAll0 (List.replicate m (.tuple d3)) = true ∧ PyData.depthAll (List.replicate m (.tuple d3)) ≤ 8 ∧ PyData.eqvAll (List.replicate m (.tuple d3)) (List.replicate m (.tuple d3)) = true)
    (ha : SqT K H a T3) (hb : SqT K H b T3) (q : Q (.bl false) H) : rEqU K true (.ref a) (.ref b) H Q := by
  obtain ⟨l1, l2, l3⟩ := lay 1
  have l1 : PyData.canLay0 (.tuple d3) = true := by simpa [PyData.canLayAll0] using l1
  have l2 : PyData.depth (.tuple d3) ≤ 8 := by
    have : PyData.depthAll [.tuple d3] ≤ 8 := l2
    simp only [PyData.depthAll] at this
    omega
  have l3 : PyData.eqv (.tuple d3) (.tuple d3) = true := by
    have : PyData.eqvAll [.tuple d3] [.tuple d3] = true := l3
    simpa [PyData.eqvAll] using this
  have sh : SeqAt.shaped (.tuple d3) = true := by
    show (PyData.canLay0 (.tuple d3) && decide (PyData.depth (.tuple d3) ≤ 64)) = true
    rw [l1, decide_eq_true (show PyData.depth (.tuple d3) ≤ 64 by omega)]
    rfl
  refine Or.inr ⟨_, _, .tup ha hd, .tup hb hd, sh, sh, ?_⟩
  show Q (.bl (!PyData.eqv (.tuple d3) (.tuple d3))) H
  rw [l3]
  exact q
theorem ok_law (e : Ev K mg) (tb : TBs base mg) : FnG P w K mg base CX0 16 (ga K "law") (fdA K (ga K "law")) ["_law_script"] (sp_law K) := by
  refine FnG.bodyC (F_law e) sc_law (fun vs H Q E h => ?_) (fun cdv A outer s H vs Q E hcd hr hq h => ?_)
  · obtain ⟨a, ns, rfl, _⟩ := h
    rfl
  · obtain ⟨a, ns0, rfl, hS, hl, hT, q⟩ := h
    refine ⟨_, PSs.nox (pss_cons (ps_set (i := 1) sc_law.nd (by rfl) (Or.inl rfl) (u_callQ (ok__law_pen e) (hr.mono (by decide)) hq (by rfl) (gl__law_pen e) (kp__law_pen e) (bn__law_pen_1 e) pass0 (pa_cons (uv 0) pa_nil)))
            (pss_cons (u_for PassesOwn.never (by rfl) (piu_range1 (by rfl) (fr_range e) (pa_cons (pe_op (k_add (K := K) rfl) pe_int (pe_callB (id := "min") (c_min (by rfl)) (by rfl) (fr_min e) (by decide +kernel) (pa_cons pe_int (pa_cons (pe_callB (id := "len") (k_len (K := K) rfl) (by rfl) (fr_len e) (by decide +kernel) (pa_cons (uv 0) pa_nil)) pa_nil)))) pa_nil)) (pg_name (i := 2) sc_law.nd (by rfl) (by first | exact Or.inl rfl | exact Or.inr rfl)) (pss_cons (ps_set (i := 3) sc_law.nd (by rfl) (Or.inl rfl) (u_callQ (ok__law_plain e) (hr.mono (by decide)) hq (by rfl) (gl__law_plain e) (kp__law_plain e) (bn__law_plain_3 e) pass0 (pa_cons (uv 1) (pa_cons (u_callQ (ok__law_pick e) (hr.mono (by decide)) hq (by rfl) (gl__law_pick e) (kp__law_pick e) (bn__law_pick_2 e) pass0 (pa_cons (uv 1) (pa_cons (u_lst (pa_cons pe_int (pa_cons pe_int pa_nil))) pa_nil))) (pa_cons pe_int pa_nil)))))
            (pss_cons (ps_set (i := 4) sc_law.nd (by rfl) (Or.inr rfl) (u_callQ (ok__law_made e) (hr.mono (by decide)) hq (by rfl) (gl__law_made e) (kp__law_made e) (bn__law_made_1 e) pass0 (pa_cons (uv 3) pa_nil)))
            (pss_cons (ps_asg (u_tup (pa_cons (u_callQ (ok__law_any_value e) (hr.mono (by decide)) hq (by rfl) (gl__law_any_value e) (kp__law_any_value e) (bn__law_any_value_1 e) pass0 (pa_cons (uv 1) pa_nil)) (pa_cons (u_callQ (ok__law_any_value e) (hr.mono (by decide)) hq (by rfl) (gl__law_any_value e) (kp__law_any_value e) (bn__law_any_value_1 e) pass0 (pa_cons (uv 1) pa_nil)) pa_nil))) (u_pgtup (K := K) rfl rfl (PGL.cons (pg_name (i := 5) sc_law.nd (by rfl) (by first | exact Or.inl rfl | exact Or.inr rfl)) (PGL.cons (pg_name (i := 6) sc_law.nd (by rfl) (by first | exact Or.inl rfl | exact Or.inr rfl)) PGL.nil (by rfl)) (by rfl))))
            (pss_cons (ps_set (i := 7) sc_law.nd (by rfl) (Or.inl rfl) (u_makeR (mk_Song e) (ok_Song_init e) (hr.mono (by decide)) (by rfl) (gl_Song e) pass0 (pa_cons pe_int (pa_cons (u_callQ (ok__law_pick e) (hr.mono (by decide)) hq (by rfl) (gl__law_pick e) (kp__law_pick e) (bn__law_pick_2 e) pass0 (pa_cons (uv 1) (pa_cons (u_lst (pa_cons pe_int (pa_cons pe_int (pa_cons (pe_op o_pow pe_int pe_int) pa_nil)))) pa_nil))) pa_nil))))
            (pss_cons (ps_asg (u_tup (pa_cons (u_callQ (ok__law_row e) (hr.mono (by decide)) hq (by rfl) (gl__law_row e) (kp__law_row e) (bn__law_row_2 e) pass0 (pa_cons (uv 1) (pa_cons (uv 3) pa_nil))) (pa_cons (u_callQ (ok__law_wishes e) (hr.mono (by decide)) hq (by rfl) (gl__law_wishes e) (kp__law_wishes e) (bn__law_wishes_2 e) pass0 (pa_cons (uv 1) (pa_cons (uv 3) pa_nil))) pa_nil))) (u_pgtup (K := K) rfl rfl (PGL.cons (pg_name (i := 8) sc_law.nd (by rfl) (by first | exact Or.inl rfl | exact Or.inr rfl)) (PGL.cons (pg_name (i := 9) sc_law.nd (by rfl) (by first | exact Or.inl rfl | exact Or.inr rfl)) PGL.nil (by rfl)) (by rfl))))
            (pss_cons (u_for PassesOwn.never (by rfl) (k_seq (K := K) rfl (u_lst (pa_cons (u_tup (pa_cons (uv 5) (pa_cons (u_tup (pa_cons pe_str (pa_cons (pe_callB (id := "repr") (k_reprQ (K := K) rfl hq hr.units) (by rfl) (fr_repr e) (by decide +kernel) (pa_cons (uv 5) pa_nil)) (pa_cons pe_bl pa_nil)))) pa_nil))) (pa_cons (u_tup (pa_cons (uv 7) (pa_cons (u_tup (pa_cons pe_str (pa_cons pe_int (pa_cons pe_bl pa_nil)))) pa_nil))) pa_nil)))) (u_pgtup (K := K) rfl rfl (PGL.cons (pg_name (i := 10) sc_law.nd (by rfl) (by first | exact Or.inl rfl | exact Or.inr rfl)) (PGL.cons (pg_name (i := 11) sc_law.nd (by rfl) (by first | exact Or.inl rfl | exact Or.inr rfl)) PGL.nil (by rfl)) (by rfl))) (pss_cons (ps_set (i := 12) sc_law.nd (by rfl) (Or.inl rfl) (u_lst (pa_cons (u_lam (k := 12) (T := T_) hq (by rfl) (gl__law_told e) (kp__law_told e) (F__law_told e) (b__law_told e) sc__law_told (by rfl) (by first | exact Or.inl rfl | exact Or.inr (Or.inl rfl)) (fun cdg => gv__law_told e (hr.mono (by decide)) hq cdg) (tb _ mem_law) (codeB_ok (cd_law e) hcd) inT_law oneT_law (hr.mono (by decide)) (LamX.lamS_by (by kernel_rfl)) (by rfl) (fun _ _ _ _ _ => rfl) (fun A outer s H E f c' hr hq => (u_callT (takes_of rfl rfl rfl rfl) (ok_price e) (hr.mono (by decide)) (by rfl) (gl_price e) (kp_price e) (bn_price_3 e) (pa_cons (uv 10) (pa_cons (uv 8) (pa_cons (uv 6) pa_nil)))))) pa_nil)))
            (pss_cons (ps_expr (k_append (K := K) rfl (uv 12) (pa_cons (u_lam (k := 12) (T := T_) hq (by rfl) (gl__law_told e) (kp__law_told e) (F__law_told e) (b__law_told e) sc__law_told (by rfl) (by first | exact Or.inl rfl | exact Or.inr (Or.inl rfl)) (fun cdg => gv__law_told e (hr.mono (by decide)) hq cdg) (tb _ mem_law) (codeB_ok (cd_law e) hcd) inT_law oneT_law (hr.mono (by decide)) (LamX.lamS_by (by kernel_rfl)) (by rfl) (fun _ _ _ _ _ => rfl) (fun A outer s H E f c' hr hq => (u_callT (takes_of rfl rfl rfl rfl) (ok_price e) (hr.mono (by decide)) (by rfl) (gl_price e) (kp_price e) (bn_price_2 e) (pa_cons (uv 10) (pa_cons (uv 6) pa_nil))))) pa_nil)))
            (pss_cons (ps_expr (k_append (K := K) rfl (uv 12) (pa_cons (u_lam (k := 11) (T := T_) hq (by rfl) (gl__law_told e) (kp__law_told e) (F__law_told e) (b__law_told e) sc__law_told (by rfl) (by first | exact Or.inl rfl | exact Or.inr (Or.inl rfl)) (fun cdg => gv__law_told e (hr.mono (by decide)) hq cdg) (tb _ mem_law) (codeB_ok (cd_law e) hcd) inT_law oneT_law (hr.mono (by decide)) (LamX.lamS_by (by kernel_rfl)) (by rfl) (fun _ _ _ _ _ => rfl) (fun A outer s H E f c' hr hq => (u_callT (takes_of rfl rfl rfl rfl) (ok_faults e) (hr.mono (by decide)) (by rfl) (gl_faults e) (kp_faults e) (bn_faults_2 e) (pa_cons (uv 10) (pa_cons (uv 6) pa_nil))))) pa_nil)))
            (pss_cons (ps_expr (k_append (K := K) rfl (uv 12) (pa_cons (u_lam (k := 10) (T := T_) hq (by rfl) (gl__law_told e) (kp__law_told e) (F__law_told e) (b__law_told e) sc__law_told (by rfl) (by first | exact Or.inl rfl | exact Or.inr (Or.inl rfl)) (fun cdg => gv__law_told e (hr.mono (by decide)) hq cdg) (tb _ mem_law) (codeB_ok (cd_law e) hcd) inT_law oneT_law (hr.mono (by decide)) (LamX.lamS_by (by kernel_rfl)) (by rfl) (fun _ _ _ _ _ => rfl) (fun A outer s H E f c' hr hq => (u_callT (takes_of rfl rfl rfl rfl) (ok_is_row e) (hr.mono (by decide)) (by rfl) (gl_is_row e) (kp_is_row e) (bn_is_row_2 e) (pa_cons (uv 10) (pa_cons (uv 6) pa_nil))))) pa_nil)))
            (pss_cons (ps_expr (k_append (K := K) rfl (uv 12) (pa_cons (u_lam (k := 11) (T := T_) hq (by rfl) (gl__law_told e) (kp__law_told e) (F__law_told e) (b__law_told e) sc__law_told (by rfl) (by first | exact Or.inl rfl | exact Or.inr (Or.inl rfl)) (fun cdg => gv__law_told e (hr.mono (by decide)) hq cdg) (tb _ mem_law) (codeB_ok (cd_law e) hcd) inT_law oneT_law (hr.mono (by decide)) (LamX.lamS_by (by kernel_rfl)) (by rfl) (fun _ _ _ _ _ => rfl) (fun A outer s H E f c' hr hq => (u_callT (takes_of rfl rfl rfl rfl) (ok_is_wishes e) (hr.mono (by decide)) (by rfl) (gl_is_wishes e) (kp_is_wishes e) (bn_is_wishes_2 e) (pa_cons (uv 10) (pa_cons (uv 6) pa_nil))))) pa_nil)))
            (pss_cons (ps_expr (k_append (K := K) rfl (uv 12) (pa_cons (u_lam (k := 10) (T := T_) hq (by rfl) (gl__law_told e) (kp__law_told e) (F__law_told e) (b__law_told e) sc__law_told (by rfl) (by first | exact Or.inl rfl | exact Or.inr (Or.inl rfl)) (fun cdg => gv__law_told e (hr.mono (by decide)) hq cdg) (tb _ mem_law) (codeB_ok (cd_law e) hcd) inT_law oneT_law (hr.mono (by decide)) (LamX.lamS_by (by kernel_rfl)) (by rfl) (fun _ _ _ _ _ => rfl) (fun A outer s H E f c' hr hq => (u_callT (takes_of rfl rfl rfl rfl) (ok_is_fixed e) (hr.mono (by decide)) (by rfl) (gl_is_fixed e) (kp_is_fixed e) (bn_is_fixed_2 e) (pa_cons (uv 10) (pa_cons (uv 6) pa_nil))))) pa_nil)))
            (pss_one (u_if (u_cmpT (k_ne (K := K) rfl hr.units) (uv 12) (pe_op o_mul (u_lst (pa_cons (uv 11) pa_nil)) pe_int) (nomark _)) (pss_one (ps_ret pe_bl)) pss_nil)))))))))
            (pss_cons (u_setLc (i := 13) (own := [("_law_one", 10)]) (by rfl) sc_law.nd (by rfl) (by rfl) (sw_true rfl rfl rfl (by kernel_rfl)) (k_seq (K := K) rfl (u_tup (pa_cons (uv 5) (pa_cons (pe_slice (sl_k (K := K) rfl) (uv 8) (u_part pe_int) po_none) (pa_cons (pe_callTy (T := "list") (k_list (K := K) rfl) (by rfl) (fr_list e) (by decide +kernel) (pa_cons (uv 8) pa_nil)) (pa_cons (pe_op (k_addT (K := K) rfl) (uv 8) (u_tup (pa_cons pe_int pa_nil))) pa_nil)))))) (blkOk_by (by kernel_rfl)) (fun _ _ _ _ _ => (pg_name (i := 10) sc_law.nd (by rfl) (by first | exact Or.inl rfl | exact Or.inr rfl))) (fun _ _ _ _ _ => (pts_one (pt_not (k_tru (K := K) rfl (u_call (ok_is_row e) (hr.mono (by decide)) (by rfl) (gl_is_row e) (kp_is_row e) (bn_is_row_2 e) passF (pa_cons (uv 4) (pa_cons (uv 10) pa_nil))))))) (fun _ _ _ _ _ => (uv 10)))
            (pss_cons (u_for PassesOwn.never (by rfl) (k_seq (K := K) rfl (uv 13)) (pg_name (i := 10) sc_law.nd (by rfl) (by first | exact Or.inl rfl | exact Or.inr rfl)) (pss_cons (ps_set (i := 11) sc_law.nd (by rfl) (Or.inl rfl) (u_tup (pa_cons pe_str (pa_cons (pe_callB (id := "repr") (k_reprQ (K := K) rfl hq hr.units) (by rfl) (fr_repr e) (by decide +kernel) (pa_cons (uv 10) pa_nil)) (pa_cons pe_bl pa_nil)))))
            (pss_cons (ps_set (i := 12) sc_law.nd (by rfl) (Or.inl rfl) (u_lst (pa_cons (u_lam (k := 12) (T := T_) hq (by rfl) (gl__law_told e) (kp__law_told e) (F__law_told e) (b__law_told e) sc__law_told (by rfl) (by first | exact Or.inl rfl | exact Or.inr (Or.inl rfl)) (fun cdg => gv__law_told e (hr.mono (by decide)) hq cdg) (tb _ mem_law) (codeB_ok (cd_law e) hcd) inT_law oneT_law (hr.mono (by decide)) (LamX.lamS_by (by kernel_rfl)) (by rfl) (fun _ _ _ _ _ => rfl) (fun A outer s H E f c' hr hq => (u_callT (takes_of rfl rfl rfl rfl) (ok_price e) (hr.mono (by decide)) (by rfl) (gl_price e) (kp_price e) (bn_price_3 e) (pa_cons (uv 4) (pa_cons (uv 10) (pa_cons (uv 6) pa_nil)))))) pa_nil)))
            (pss_cons (ps_expr (k_append (K := K) rfl (uv 12) (pa_cons (u_lam (k := 11) (T := T_) hq (by rfl) (gl__law_told e) (kp__law_told e) (F__law_told e) (b__law_told e) sc__law_told (by rfl) (by first | exact Or.inl rfl | exact Or.inr (Or.inl rfl)) (fun cdg => gv__law_told e (hr.mono (by decide)) hq cdg) (tb _ mem_law) (codeB_ok (cd_law e) hcd) inT_law oneT_law (hr.mono (by decide)) (LamX.lamS_by (by kernel_rfl)) (by rfl) (fun _ _ _ _ _ => rfl) (fun A outer s H E f c' hr hq => (u_callT (takes_of rfl rfl rfl rfl) (ok_faults e) (hr.mono (by decide)) (by rfl) (gl_faults e) (kp_faults e) (bn_faults_2 e) (pa_cons (uv 4) (pa_cons (uv 10) pa_nil))))) pa_nil)))
            (pss_one (u_if (PW.pt (u_orT (u_cmpT (k_ne (K := K) rfl hr.units) (uv 12) (u_lst (pa_cons (uv 11) (pa_cons (uv 11) pa_nil))) (nomark _)) (u_or1 (u_cmpT (k_ne (K := K) rfl hr.units) (u_lam (k := 12) (T := T_) hq (by rfl) (gl__law_told e) (kp__law_told e) (F__law_told e) (b__law_told e) sc__law_told (by rfl) (by first | exact Or.inl rfl | exact Or.inr (Or.inl rfl)) (fun cdg => gv__law_told e (hr.mono (by decide)) hq cdg) (tb _ mem_law) (codeB_ok (cd_law e) hcd) inT_law oneT_law (hr.mono (by decide)) (LamX.lamS_by (by kernel_rfl)) (by rfl) (fun _ _ _ _ _ => rfl) (fun A outer s H E f c' hr hq => (u_callT (takes_of rfl rfl rfl rfl) (ok_price e) (hr.mono (by decide)) (by rfl) (gl_price e) (kp_price e) (bn_price_3 e) (pa_cons (uv 4) (pa_cons (uv 10) (pa_cons (uv 9) pa_nil)))))) (uv 11) (nomark _))))) (pss_one (ps_ret pe_bl)) pss_nil))))))
            (pss_one (u_for PassesOwn.never (by rfl) (k_seq (K := K) rfl (u_lst (pa_cons (uv 6) (pa_cons (pe_disp (pps_cons (u_dget (hu_of hr) (uv 3) pe_str) (pe_op (o_mulN (K := K) rfl) (u_tup (pa_cons pe_int pa_nil)) (u_dget (hu_of hr) (uv 3) pe_str)) pps_nil) (by rfl) (by rfl) (fun z => by cases z) (by decide)) (pa_cons (pe_disp (pps_cons pe_int (pe_op (o_mulN (K := K) rfl) (u_tup (pa_cons pe_int pa_nil)) (pe_op (k_add (K := K) rfl) (u_dget (hu_of hr) (uv 3) pe_str) pe_int)) pps_nil) (by rfl) (by rfl) (fun z => by cases z) (by decide)) pa_nil))))) (pg_name (i := 10) sc_law.nd (by rfl) (by first | exact Or.inl rfl | exact Or.inr rfl)) (pss_cons (ps_set (i := 12) sc_law.nd (by rfl) (Or.inl rfl) (u_lam (k := 12) (T := T_) hq (by rfl) (gl__law_told e) (kp__law_told e) (F__law_told e) (b__law_told e) sc__law_told (by rfl) (by first | exact Or.inl rfl | exact Or.inr (Or.inl rfl)) (fun cdg => gv__law_told e (hr.mono (by decide)) hq cdg) (tb _ mem_law) (codeB_ok (cd_law e) hcd) inT_law oneT_law (hr.mono (by decide)) (LamX.lamS_by (by kernel_rfl)) (by rfl) (fun _ _ _ _ _ => rfl) (fun A outer s H E f c' hr hq => (u_callT (takes_of rfl rfl rfl rfl) (ok_price e) (hr.mono (by decide)) (by rfl) (gl_price e) (kp_price e) (bn_price_3 e) (pa_cons (uv 4) (pa_cons (uv 8) (pa_cons (uv 10) pa_nil)))))))
            (pss_one (u_if (PW.pt (u_orT (u_cmpT o_is (uv 10) pe_non (nomark _)) (u_or1 (k_tru (K := K) rfl (u_call (ok_is_wishes e) (hr.mono (by decide)) (by rfl) (gl_is_wishes e) (kp_is_wishes e) (bn_is_wishes_2 e) passF (pa_cons (uv 4) (pa_cons (uv 10) pa_nil))))))) (pss_one (u_if (u_cmpT (k_ne (K := K) rfl hr.units) (uv 12) (u_tup (pa_cons pe_str (pa_cons (u_call (ok_price e) (hr.mono (by decide)) (by rfl) (gl_price e) (kp_price e) (bn_price_3 e) passF (pa_cons (uv 4) (pa_cons (uv 8) (pa_cons (uv 10) pa_nil)))) pa_nil))) (nomark _)) (pss_one (ps_ret pe_bl)) pss_nil)) (pss_one (u_if (u_cmpT (k_ne (K := K) rfl hr.units) (uv 12) (u_tup (pa_cons pe_str (pa_cons (pe_callB (id := "repr") (k_reprQ (K := K) rfl hq hr.units) (by rfl) (fr_repr e) (by decide +kernel) (pa_cons (uv 10) pa_nil)) (pa_cons pe_bl pa_nil)))) (nomark _)) (pss_one (ps_ret pe_bl)) pss_nil))))))))))))))))
            (pss_one (ps_ret pe_bl)))), ?_⟩
    refine ⟨a, ns0, rfl, hS, hl, fun G1 H1 p x1 gh1 x1' pn1 => ?_⟩
    have tb1 : Tb T_ (dropT G1) H1 := Tb.start hT x1' gh1
    have gd1 : Ex (dropT G1) H1 := ex_trans dropT_ex gh1
    have pd1 := pn1.dropT
    clear pn1
    refine ⟨_, Or.inl (Evl.ex_l x1' hS), ?_⟩
    have ln0 : (ns0.map V.int).length = ns0.length := List.length_map _
    rw [ln0]
    refine ⟨⟨by omega, by omega⟩, ?_⟩
    refine ⟨fun i σ H' => ∃ (G : Hp) (y2 y3 y4 y5 y6 y7 y8 y9 y10 y11 y12 y13 : Option V), Ex G H' ∧ Pen K ("index" : PySem.Str) ("left" : PySem.Str) G H' p (100000 * i) ∧ Tb T_ G H' ∧ σ = [some (.ref a), some (.ref p), y2, y3, y4, y5, y6, y7, y8, y9, y10, y11, y12, y13], ⟨dropT G1, _, _, _, _, _, _, _, _, _, _, _, _, gd1, pd1, tb1, rfl⟩, fun _ _ _ _ _ => trivial, ?_, ?_⟩
    · rintro i x σ H2' H2 hi ⟨G2, y2, y3, y4, y5, y6, y7, y8, y9, y10, y11, y12, y13, gh2, pn2, tb2, rfl⟩ ⟨rfl, rfl⟩
      have hi18 : i < 18 := by
        have hi' : i < (6 + min 12 (ns0.length : Int)).toNat := hi
        omega
      refine ⟨szr (n := 2) (by decide +kernel), fun l3 H3 n3 => ?_⟩
      have g3 := n3.gr gh2
      refine ⟨_, p, l3, _, _, rfl, g3.gh, SqL.of upd_same, pn2.gr g3, by omega, (show 0 < 2 by decide), (show 2 < 2000 by decide), fun v4 G4 H4 hv4 g4 pn4 => ?_⟩
      obtain ⟨m, rfl, m1, m40⟩ : ∃ m : Int, v4 = .int m ∧ 1 ≤ m ∧ m ≤ 40 := by
        simp only [List.mem_cons, List.not_mem_nil, or_false] at hv4
        rcases hv4 with rfl | rfl
        · exact ⟨5, rfl, by decide, by decide⟩
        · exact ⟨40, rfl, by decide, by decide⟩
      refine ⟨G4, p, _, m, 3, rfl, g4.gh, pn4, by omega, m1, by omega, by decide, by decide, fun sc5 L n es G5 H5 sc ok nm L3 dl g5 pn5 => ?_⟩
      have n1 := ok.n1
      have l1 := ok.l1
      have l5 := ok.l5
      have few := ok.few
      have n40 : n ≤ 40 := by omega
      have T5 := ((g3.m p).trans g4).trans g5
      have tb5 := tb2.pen pn2 T5
      refine ⟨G5, sc5, L, n, es, rfl, g5.gh, sc, ok, fun so ec G6 H6 e6 so6 g6 => ?_⟩
      have pn6 := pn5.gr g6
      have tb6 := tb5.gr g6
      refine ⟨G6, p, _, rfl, g6.gh, pn6, by omega, fun vv vd G7 H7 av7 okv g7 pn7 => ?_⟩
      refine ⟨G7, p, _, rfl, g7.gh, pn7, by omega, fun ov od G8 H8 av8 oko g8 pn8 => ?_⟩
      refine ⟨szr (n := 2) (by decide +kernel), fun t9 H9 n9 => ?_⟩
      refine ⟨_, SqT.of n9.at, rfl, ?_⟩
      have g9 := n9.gr0 g8.gh
      have pn9 := pn8.gr g9
      have tb9 := ((tb6.pen pn6 g7).pen pn7 g8).gr g9
      refine ⟨⟨by decide, by decide, by decide⟩, ?_⟩
      refine ⟨szr (n := 3) (by decide +kernel), fun l10 H10 n10 => ?_⟩
      have g10 := n10.gr g9.gh
      have pn10 := pn9.gr g10
      have tb10 := tb9.gr g10
      refine ⟨_, p, l10, _, _, rfl, g10.gh, SqL.of upd_same, pn10, by omega, (show 0 < 3 by decide), (show 3 < 2000 by decide), fun v11 G11 H11 hv11 g11 pn11 => ?_⟩
      have tb11 := tb10.pen pn10 g11
      obtain ⟨nf, rfl, nf41, nf30⟩ : ∃ nf : Int, v11 = .int nf ∧ 41 ≤ nf ∧ nf ≤ 10 ^ 30 := by
        simp only [List.mem_cons, List.not_mem_nil, or_false] at hv11
        rcases hv11 with rfl | rfl | rfl
        · exact ⟨41, rfl, by decide, by decide⟩
        · exact ⟨100, rfl, by decide, by decide⟩
        · exact ⟨10 ^ (30 : Int).toNat, rfl, by decide, by decide⟩
      intro x12 dx12 H12 md
      refine ⟨[.ref x12, .int 1, .int nf], [], rfl, rfl, Nat.zero_le _, fun pp H13 n13 => ?_⟩
      have g13 := n13.gr (ex_trans g11.gh md.ex)
      have px : pp ≠ x12 := fun z => by have := n13.fresh; rw [z, md.at] at this; cases this
      have xG11 : G11 x12 = none := ex_none g11.gh md.nx
      refine ⟨upd G11 pp (.tup []), x12, dx12, 1, nf, pp, [], [], rfl, g13.gh, (by rw [upd_ne px.symm]; exact xG11), n13.ex _ _ md.at, SqT.of upd_same, .nil, by decide, by decide, by omega, nf30, (fun e he => by cases he), by decide, (fun h => by cases h), fun H14 g14 hx14 => ⟨rfl, ?_⟩⟩
      have g15 := made_gr md g11.gh ((g13.m x12).trans g14) hx14
      have xG13 : upd G11 pp (.tup []) x12 = none := by rw [upd_ne px.symm]; exact xG11
      obtain ⟨G15, g15, fa15⟩ : ∃ G15, Gr G11 H11 G15 H14 ∧ SongAt K G15 x12 1 nf [] := ⟨_, g15, ⟨dx12, pp, [], upd_same, Evl.ex_t (Evl.Ex.new xG13) (SqT.of upd_same), .nil⟩⟩
      have pn15 := pn11.gr g15
      have tb15 := tb11.gr g15
      have x5 : Ex G5 G11 := ex_trans g6.gg (ex_trans g7.gg (ex_trans g8.gg (ex_trans g9.gg (ex_trans g10.gg g11.gg))))
      have x6 : Ex G6 G11 := ex_trans g7.gg (ex_trans g8.gg (ex_trans g9.gg (ex_trans g10.gg g11.gg)))
      have x8 : Ex G8 G11 := ex_trans g9.gg (ex_trans g10.gg g11.gg)
      refine ⟨G15, p, _, sc5, L, n, es, rfl, g15.gh, sc.up (ex_trans x5 g15.gg), pn15, by omega, l1, l5, n1, by omega, fun r8 ns G16 H16 sr ln nin g16 pn16 => ?_⟩
      refine ⟨G16, p, _, sc5, L, n, es, rfl, g16.gh, sc.up (ex_trans x5 (ex_trans g15.gg g16.gg)), pn16, by omega, l1, l5, n1, by omega, fun d9 kvs9 ws9 G17 H17 g17 pd9 dH9 dG9 d9h pw9 wok9 wl9 wb9 pn17 => ?_⟩
      have tb17 := (tb15.pen pn15 g16).pen pn16 g17
      refine ⟨szr (n := 2) (by decide +kernel), fun t18 H18 n18 => ?_⟩
      refine ⟨_, SqT.of n18.at, rfl, ?_⟩
      have g18 := n18.gr0 g17.gh
      obtain ⟨Gb, ghb, pnb, tbb, scb, sob, fab, avv, avo, srb, hwd, pwb⟩ : ∃ Gb, Ex Gb H18 ∧ Pen K ("index" : PySem.Str) ("left" : PySem.Str) Gb H18 p (100000 * i + 50000) ∧ Tb T_ Gb H18 ∧ ScoreAt K Gb sc5 L n es ∧ SongAt K Gb so L n ec ∧ SongAt K Gb x12 1 nf [] ∧ AnyQ K Gb true 6 4000 vv vd ∧ AnyQ K Gb true 6 4000 ov od ∧ SqT K Gb r8 (ns.map V.int) ∧ Gb d9 = some (.dK kvs9) ∧ Paired (WishKV K Gb) kvs9 ws9 := by
        have xf : Ex G17 (upd G17 d9 (.dK kvs9)) := Evl.Ex.new dG9
        have y15 : Ex G15 (upd G17 d9 (.dK kvs9)) := ex_trans g16.gg (ex_trans g17.gg xf)
        have y11 := ex_trans g15.gg y15
        refine ⟨upd G17 d9 (.dK kvs9), ex_frz g18.gh (n18.ex _ _ d9h), ((pn17.gr g18).frz pd9 dG9).up (by omega), tb_frz (tb17.gr g18) (n18.ex _ _ d9h), sc.up (ex_trans x5 y11), so6.up (ex_trans x6 y11), fa15.up y15, av7.up (ex_trans g8.gg (ex_trans x8 y11)), av8.up (ex_trans x8 y11), Evl.ex_t (ex_trans g17.gg xf) sr, upd_same, wishes_up xf pw9⟩
      have okc : ScoreOk L n (ec.map lotOf) := by rw [show ec.map lotOf = es from e6]; exact ok
      clear g3 g4 g5 g6 g7 g8 g9 g10 g11 g13 g14 g15 g16 g17 g18 pn4 pn5 pn6 pn7 pn8 pn9 pn10 pn11 pn15 pn16 pn17 tb5 tb6 tb9 tb10 tb11 tb15 tb17 T5 x5 x6 x8 av7 av8 sc so6 fa15 sr pw9 d9h dG9 dH9 hx14 xG13 xG11 md n3 n9 n10 n13 n18 hv4 hv11
      obtain ⟨wd9, dq9⟩ := wish_Dq hwd pwb wok9 (by omega)
      have dqr : Dq K Gb false (.ref r8) (.tuple (ns.map PyData.int)) := Dq.ofDp (.tup srb (dpAll_int ns))
      have inT : ∃ q, ((780 : Addr), q) ∈ T_ := ⟨_, inT_law⟩
      -- the first loop
      refine ⟨true, 6, 4000, vd, avv.up ghb, by decide, by decide, ?_⟩
      refine ⟨szr (n := 3) (by decide +kernel), fun t19 H19 n19 => ?_⟩
      refine ⟨szr (n := 2) (by decide +kernel), fun t20 H20 n20 => ?_⟩
      refine ⟨szr (n := 3) (by decide +kernel), fun t21 H21 n21 => ?_⟩
      refine ⟨szr (n := 2) (by decide +kernel), fun t22 H22 n22 => ?_⟩
      refine ⟨szr (n := 2) (by decide +kernel), fun l23 H23 n23 => ?_⟩
      obtain ⟨G23, g23, s19, s20, s21, s22, s23⟩ : ∃ G23, Gr Gb H18 G23 H23 ∧ SqT K G23 t19 [.str "song", .str vd.shown, .bl true] ∧ SqT K G23 t20 [vv, .ref t19] ∧ SqT K G23 t21 [.str "far", .int 40, .bl true] ∧ SqT K G23 t22 [.ref x12, .ref t21] ∧ SqL K G23 l23 [.ref t20, .ref t22] := by
        have g19 := n19.gr ghb
        have g20 := n20.gr g19.gh
        have g21 := n21.gr g20.gh
        have g22 := n22.gr g21.gh
        have g23 := n23.gr g22.gh
        have c22 := g23.gg
        have c21 := ex_trans g22.gg c22
        have c20 := ex_trans g21.gg c21
        have c19 := ex_trans g20.gg c20
        exact ⟨_, g19.trans (g20.trans (g21.trans (g22.trans g23))), Evl.ex_t c19 (SqT.of upd_same), Evl.ex_t c20 (SqT.of upd_same), Evl.ex_t c21 (SqT.of upd_same), Evl.ex_t c22 (SqT.of upd_same), SqL.of upd_same⟩
      have pn23 := pnb.gr g23
      have tb23 := tbb.gr g23
      have gh23 := g23.gh
      have x23 := g23.gg
      refine ⟨true, _, SqL.of n23.at, ?_⟩
      refine ⟨fun j σ H' => ∃ (G : Hp) (y10 y11 y12 : Option V), Ex G23 G ∧ Ex G H' ∧ Pen K ("index" : PySem.Str) ("left" : PySem.Str) G H' p (100000 * i + 50000) ∧ Tb T_ G H' ∧ σ = [some (.ref a), some (.ref p), some (.int (0 + (i : Int))), some sc5, some (.ref so), some vv, some ov, some (.ref x12), some (.ref r8), some (.ref d9), y10, y11, y12, y13], ⟨G23, y10, y11, y12, ex_refl _, gh23, pn23, tb23, rfl⟩, ?_, ?_, ?_⟩
      · rintro j σ H' _ ⟨G, z10, z11, z12, xG, gG, _⟩
        exact Evl.ex_l gG (Evl.ex_l xG s23)
      · rintro j x σ H' H0' hj ⟨G24, z10, z11, z12, xG, gh24, pn24, tb24, rfl⟩ ⟨rfl, hx⟩
        obtain ⟨one, tt, T1, T2, hxt, st, sd, badS⟩ : ∃ (one : V) (tt : Addr) (T1 T2 : V), (∃ tu, x = .ref tu ∧ SqT K G24 tu [one, .ref tt]) ∧ SqT K G24 tt [T1, T2, .bl true] ∧ (∃ s d2, (∀ H : Hp, DpAll K H [T1, T2, .bl true] [.str s, d2, .bool true]) ∧ ∀ m, PyData.canLayAll0 (List.replicate m (.tuple [.str s, d2, .bool true])) = true ∧ PyData.depthAll (List.replicate m (.tuple [.str s, d2, .bool true])) ≤ 8 ∧ PyData.eqvAll (List.replicate m (.tuple [.str s, d2, .bool true])) (List.replicate m (.tuple [.str s, d2, .bool true])) = true) ∧ ∀ (Gc Hc : Hp) (Q : VK), Ex G24 Gc → Ex Gc Hc → (∀ T H2, Ex Hc H2 → H2 T = some (.tup [T1, T2, .bl true]) → Q (.ref T) H2) → BadSong K Gc Hc one (ToldE K Q) := by
          have hj2 : j = 0 ∨ j = 1 := by
            have : j < 2 := hj
            omega
          rcases hj2 with rfl | rfl
          · cases hx
            exact ⟨vv, t19, .str "song", .str vd.shown, ⟨t20, rfl, Evl.ex_t xG s20⟩, Evl.ex_t xG s19, ⟨_, _, fun _ => .cons (.str _) (.cons (.str _) (.cons (.bl true) .nil)), told_lay (by decide +kernel) okv⟩, fun Gc Hc Q x1 x2 q => Or.inr ⟨true, vd, (avv.up (ex_trans x23 (ex_trans xG x1))).dq, told_raise (Or.inl ⟨rfl, rfl⟩) (avv.up (ex_trans x23 (ex_trans xG x1))) (by decide) (by decide) x2 q⟩⟩
          · cases hx
            exact ⟨.ref x12, t21, .str "far", .int 40, ⟨t22, rfl, Evl.ex_t xG s22⟩, Evl.ex_t xG s21, ⟨_, _, fun _ => .cons (.str _) (.cons (.int _) (.cons (.bl true) .nil)), far_lay⟩, fun Gc Hc Q x1 x2 q => Or.inl ⟨x12, 1, nf, [], rfl, fab.up (ex_trans x23 (ex_trans xG x1)), by omega, told_far q⟩⟩
        obtain ⟨tu, rfl, stu⟩ := hxt
        refine ⟨_, Evl.ex_t gh24 stu, rfl, ?_⟩
        obtain ⟨sw, d2, d3p, layp⟩ := sd
        have xb := ex_trans x23 xG
        have inTc := inT
        refine ⟨tb24.tabs, fun Ha ka ta => ?_⟩
        obtain ⟨ga, tba⟩ := tb24.lam inT ka ta gh24
        have pna := pn24.tab tb24 inT ga
        have gha := ga.gh
        refine ⟨G24, one, .ref r8, ov, false, true, .tuple (ns.map PyData.int), od, rfl, gha, (dqr.up xb), (avo.up xb).dq, Or.inl (badS G24 Ha _ (ex_refl _) gha fun Ta Hb xab hb => ?_)⟩
        refine ⟨szr (n := 1) (by decide +kernel), fun lc Hc nc => ?_⟩
        have gab := ex_gr gha xab
        have s1 := LSt.start gab.gh (pna.gr gab) (tba.gr gab) hb nc
        clear pna tba gab ga
        refine ⟨⟨_, SqL.of s1.hl⟩, ?_⟩
        refine ⟨s1.tb.tabs, fun Ha ka ta => ?_⟩
        have sa := s1.lam inT ka ta
        have gha := sa.gh
        refine ⟨G24, one, ov, .non, true, false, od, .none, rfl, gha, (avo.up xb).dq, .non, Or.inl (badS G24 Ha _ (ex_refl _) gha fun Ta Hb xab hb => ?_)⟩
        refine ⟨_, xab _ _ sa.hl, (show 1 < sizeLine from Nat.lt_of_lt_of_le (by decide) (szr (n := 100) (by decide +kernel))), fun Hc cc => ?_⟩
        have s2 := sa.app xab hb cc
        clear sa
        refine ⟨⟨_, SqL.of s2.hl⟩, ?_⟩
        refine ⟨s2.tb.tabs, fun Ha ka ta => ?_⟩
        have sa := s2.lam inT ka ta
        have gha := sa.gh
        refine ⟨G24, one, ov, true, od, rfl, gha, (avo.up xb).dq, Or.inl (badS G24 Ha _ (ex_refl _) gha fun Ta Hb xab hb => ?_)⟩
        refine ⟨_, xab _ _ sa.hl, (show 2 < sizeLine from Nat.lt_of_lt_of_le (by decide) (szr (n := 100) (by decide +kernel))), fun Hc cc => ?_⟩
        have s3 := sa.app xab hb cc
        clear sa
        refine ⟨⟨_, SqL.of s3.hl⟩, ?_⟩
        refine ⟨s3.tb.tabs, fun Ha ka ta => ?_⟩
        have sa := s3.lam inT ka ta
        have gha := sa.gh
        refine ⟨G24, one, ov, true, od, rfl, gha, (avo.up xb).dq, Or.inr (badS G24 Ha _ (ex_refl _) gha fun Ta Hb xab hb => ?_)⟩
        refine ⟨_, xab _ _ sa.hl, (show 3 < sizeLine from Nat.lt_of_lt_of_le (by decide) (szr (n := 100) (by decide +kernel))), fun Hc cc => ?_⟩
        have s4 := sa.app xab hb cc
        clear sa
        refine ⟨⟨_, SqL.of s4.hl⟩, ?_⟩
        refine ⟨s4.tb.tabs, fun Ha ka ta => ?_⟩
        have sa := s4.lam inT ka ta
        have gha := sa.gh
        refine ⟨G24, one, ov, true, od, rfl, gha, (avo.up xb).dq, Or.inr (badS G24 Ha _ (ex_refl _) gha fun Ta Hb xab hb => ?_)⟩
        refine ⟨_, xab _ _ sa.hl, (show 4 < sizeLine from Nat.lt_of_lt_of_le (by decide) (szr (n := 100) (by decide +kernel))), fun Hc cc => ?_⟩
        have s5 := sa.app xab hb cc
        clear sa
        refine ⟨⟨_, SqL.of s5.hl⟩, ?_⟩
        refine ⟨s5.tb.tabs, fun Ha ka ta => ?_⟩
        have sa := s5.lam inT ka ta
        have gha := sa.gh
        refine ⟨G24, one, ov, true, od, rfl, gha, (avo.up xb).dq, Or.inr (badS G24 Ha _ (ex_refl _) gha fun Ta Hb xab hb => ?_)⟩
        refine ⟨_, xab _ _ sa.hl, (show 5 < sizeLine from Nat.lt_of_lt_of_le (by decide) (szr (n := 100) (by decide +kernel))), fun Hc cc => ?_⟩
        have s6 := sa.app xab hb cc
        clear sa
        refine ⟨szr (n := 1) (by decide +kernel), fun ld Hd nd => ?_⟩
        refine ⟨_, nd.at, by decide, by decide, (show 1 * 6 ≤ sizeLine from szr (n := 6) (by decide +kernel)), fun le He ne => ?_⟩
        have xe := ex_trans nd.ex ne.ex
        have st6 := Evl.ex_t (ex_trans s6.gh xe) st
        refine tups_ne (d3p He) layp (by rfl) (SqL.of (xe _ _ s6.hl)) (SqL.of ne.at) (fun x hx => ?_) (fun x hx => ?_) ?_
        · obtain ⟨u, h1, h2⟩ := s6.ts x hx
          exact ⟨u, h1, SqT.of (xe _ _ h2)⟩
        · have hx : x ∈ List.replicate 6 (V.ref tt) := by
            have e : (List.replicate (6 : Int).toNat [V.ref tt]).flatten = List.replicate 6 (V.ref tt) := rfl
            rw [← e]
            exact hx
          exact ⟨tt, List.eq_of_mem_replicate hx, st6⟩
        have g6 := ex_gr s6.gh xe
        exact ⟨G24, _, _, _, xG, g6.gh, s6.pn.gr g6, s6.tb.gr g6, rfl⟩
      rintro σ H30 ⟨G30, z10, z11, z12, xG30, gh30, pn30, tb30, rfl⟩
      have xb := ex_trans x23 xG30
      have srb30 := Evl.ex_t xb srb
      have nsB : ∀ i ∈ ns, 0 ≤ i ∧ i < 10 := fun i hi => by have := nin i hi; omega
      have ne0 : ns.map V.int ≠ [] := fun z => by
        have := congrArg List.length z
        rw [List.length_map] at this
        have h0 : ns.length = 0 := this
        omega
      have okE : ∀ e ∈ ec, 1 ≤ e.1 ∧ e.1 < 2 ^ 120 ∧ SqR e.2.2 ∧ (e.2.2.length : Int) = L := fun e he => by
        have k := okc.each (lotOf e) (List.mem_map_of_mem he)
        have k2 : e.1 ≤ 10 ^ 30 := k.2.1
        exact ⟨k.1, by omega, k.2.2.2.1, k.2.2.1⟩
      have fewE : ec.length ≤ 2 := by have := okc.few; rwa [List.length_map] at this
      clear s19 s20 s21 s22 s23 n19 n20 n21 n22 n23 pn23 tb23
      refine ⟨_, Or.inr ⟨Evl.ex_t gh30 srb30, ?_, fun a31 H31 n31 => ?_⟩⟩
      · intro h
        have h1 := h.1
        unfold HT.sIx at h1
        simp only [List.length_map] at h1
        rw [if_neg (by decide)] at h1
        have h0 : 1 ≤ ns.length := by omega
        omega
      have g31 := n31.gr gh30
      refine ⟨_, Or.inr (Evl.ex_t g31.gh (Evl.ex_t g31.gg srb30)), fun a32 H32 n32 => ?_⟩
      have g32 := n32.gr g31.gh
      refine ⟨szr (n := 1) (by decide +kernel), fun a33 H33 n33 => ?_⟩
      have g33 := n33.gr g32.gh
      have x33 := ex_trans g31.gg (ex_trans g32.gg g33.gg)
      refine ⟨_, _, Evl.ex_t g33.gh (Evl.ex_t x33 srb30), SqT.of n33.at, (by rw [List.length_map]; exact Nat.le_trans (show ns.length + 1 ≤ 41 by omega) (szr (n := 41) (by decide +kernel))), (fun z => absurd z ne0), (fun _ z => nomatch z), fun _ _ a34 H34 n34 => ?_⟩
      have g34 := n34.gr g33.gh
      refine ⟨szr (n := 4) (by decide +kernel), fun a35 H35 n35 => ?_⟩
      obtain ⟨G35, g35, s31, s32, s34, s35⟩ : ∃ G35, Gr G30 H30 G35 H35 ∧ SqT K G35 a31 (cutV (ns.map V.int) (some 1) none) ∧ SqL K G35 a32 (ns.map V.int) ∧ SqT K G35 a34 (ns.map V.int ++ [V.int 0]) ∧ SqT K G35 a35 [vv, .ref a31, .ref a32, .ref a34] := by
        have g35 := n35.gr g34.gh
        have c34 := g35.gg
        have c33 := ex_trans g34.gg c34
        have c32 := ex_trans g33.gg c33
        have c31 := ex_trans g32.gg c32
        exact ⟨_, g31.trans (g32.trans (g33.trans (g34.trans g35))), Evl.ex_t c31 (SqT.of upd_same), Evl.ex_l c32 (SqL.of upd_same), Evl.ex_t c34 (SqT.of upd_same), SqT.of upd_same⟩
      have pn35 := pn30.gr g35
      have tb35 := tb30.gr g35
      have xb35 := ex_trans xb g35.gg
      have c35 : ∀ x ∈ [vv, V.ref a31, .ref a32, .ref a34], CandQ K G35 x := by
        have dp34 : DpAll K G35 (ns.map V.int ++ [V.int 0]) ((ns ++ [0]).map PyData.int) := by
          have h := dpAll_int (K := K) (H := G35) (ns ++ [0])
          rw [List.map_append (f := V.int)] at h
          exact h
        have nsB0 : ∀ i ∈ ns ++ [0], 0 ≤ i ∧ i < 10 := fun i hi => by
          rcases List.mem_append.mp hi with hi | hi
          · exact nsB i hi
          · rw [List.mem_singleton.mp hi]
            decide
        rw [show (cutV (ns.map V.int) (some 1) none) = (ns.drop 1).map V.int from by rw [List.map_drop]; exact cutV_from (d := 1) (by rw [List.length_map]; omega)] at s31
        intro x hx
        simp only [List.mem_cons, List.not_mem_nil, or_false] at hx
        rcases hx with rfl | rfl | rfl | rfl
        · exact ⟨true, vd, ⟨(avv.up xb35).dq, avv.fd, avv.sm.up (by decide) (by decide)⟩, okv⟩
        · exact cand (.tup s31 (dpAll_int _)) (sm_tup (k := 0) (n := 300) 42 (by rw [List.length_map, List.length_drop]; omega) (ints_smQ fun i hi => nsB i (List.mem_of_mem_drop hi))) (by decide) (by decide) (strOk_tuple (ints_txt _))
        · exact cand (.lst s32 (dpAll_int _)) (sm_lst (k := 0) (n := 300) 42 (by rw [List.length_map]; omega) (ints_smQ nsB)) (by decide) (by decide) (strOk_list (ints_txt _))
        · exact cand (.tup s34 dp34) (sm_tup (k := 0) (n := 300) 42 (by rw [List.length_map, List.length_append]; show ns.length + 1 ≤ 42; omega) (ints_smQ nsB0)) (by decide) (by decide) (strOk_tuple (ints_txt _))
      refine ⟨false, _, SqT.of n35.at, ?_⟩
      refine lc_pure g35.gh (fun i _ acc => acc.length ≤ i ∧ ∀ x ∈ acc, BadRow K G35 L n x) (szr (n := 4) (by decide +kernel)) ⟨Nat.zero_le _, fun x hx => by cases hx⟩ (fun i _ acc h => h.1) ?_ ?_ ?_
      · intro G4 H4 g4
        exact Evl.ex_t (ex_trans g4.gg g4.gh) s35
      · rintro k x G36 H36' H36 acc hk g36 ⟨l36, b36⟩ ⟨rfl, hx⟩ R R0 r1 r2
        obtain ⟨f, d, av36, ok36⟩ := c35 x (List.mem_of_getElem? hx)
        refine ⟨rfl, ?_⟩
        refine ⟨G36, _, x, f, d, rfl, g36.gh, (av36.up g36.gg).dq, Or.inl ⟨so, L, n, ec, rfl, sob.up (ex_trans xb35 g36.gg), n40, fun H37 x37 => ?_⟩⟩
        cases hz : rowQ L n d with
        | true => exact r2 G36 _ ⟨x37, ex_refl _, ex_trans g36.gh x37, fun _ _ => rfl⟩ ⟨Nat.le_succ_of_le l36, b36⟩
        | false =>
          refine r1 x G36 _ ⟨x37, ex_refl _, ex_trans g36.gh x37, fun _ _ => rfl⟩ ⟨by rw [List.length_append]; exact Nat.succ_le_succ l36, fun y hy => ?_⟩
          rcases List.mem_append.mp hy with hy | hy
          · exact b36 y hy
          · rw [List.mem_singleton.mp hy]
            exact ⟨f, d, av36, hz, ok36⟩
      rintro D G36 H36 acc g36 hD hGD h36 ⟨l36, b36⟩
      have l36' : acc.length ≤ 4 := l36
      have gh36 : Ex (upd G36 D (.lst acc)) H36 := ex_frz g36.gh h36
      have pnD : p ≠ D := pn35.off hD
      have pn36 := ((pn35.gr g36).frz (o := .lst acc) pnD hGD)
      have tb36 := tb_frz2 (tb35.gr g36) h36 (fun _ z => nomatch z)
      have s36 : SqL K (upd G36 D (.lst acc)) D acc := SqL.of upd_same
      have x36 : Ex G35 (upd G36 D (.lst acc)) := ex_trans g36.gg (Evl.Ex.new hGD)
      have xb36 := ex_trans xb35 x36
      have b36' : ∀ x ∈ acc, BadRow K (upd G36 D (.lst acc)) L n x := fun x hx => by
        obtain ⟨f, d, h1, h2, h3⟩ := b36 x hx
        exact ⟨f, d, h1.up x36, h2, h3⟩
      generalize upd G36 D (.lst acc) = G37 at gh36 pn36 tb36 s36 x36 xb36 b36'
      clear b36 hGD h36 g36 c35 s31 s32 s34 s35 n35 n34 n33 n32 n31
      refine ⟨true, acc, Evl.ex_l gh36 s36, ?_⟩
      refine ⟨fun j σ H' => ∃ (G : Hp) (y10 y11 y12 : Option V), Ex G37 G ∧ Ex G H' ∧ Pen K ("index" : PySem.Str) ("left" : PySem.Str) G H' p (100000 * i + 50000) ∧ Tb T_ G H' ∧ σ = [some (.ref a), some (.ref p), some (.int (0 + (i : Int))), some sc5, some (.ref so), some vv, some ov, some (.ref x12), some (.ref r8), some (.ref d9), y10, y11, y12, some (.ref D)], ⟨G37, _, _, _, ex_refl _, gh36, pn36, tb36, rfl⟩, ?_, ?_, ?_⟩
      · rintro j σ H' _ ⟨G, z10, z11, z12, xG, gG, _⟩
        exact Evl.ex_l gG (Evl.ex_l xG s36)
      · rintro j x σ H' H0' hj ⟨G40, z10, z11, z12, xG, gh40, pn40, tb40, rfl⟩ ⟨rfl, hx⟩
        obtain ⟨f, d, av40, bad40, ok40⟩ := b36' x (List.mem_of_getElem? hx)
        have xc := ex_trans xb36 xG
        have av40 := av40.up xG
        refine ⟨f, 6, 13000, d, av40.up gh40, by decide, by decide, ?_⟩
        refine ⟨szr (n := 3) (by decide +kernel), fun t41 H41 n41 => ?_⟩
        have g41 := n41.gr gh40
        have s41 : SqT K (upd G40 t41 (.tup [.str "row", .str d.shown, .bl true])) t41 [.str "row", .str d.shown, .bl true] := SqT.of upd_same
        have pn41 := pn40.gr g41
        have tb41 := tb40.gr g41
        have gh41 := g41.gh
        have xc41 := ex_trans xc g41.gg
        have xG41 := ex_trans xG g41.gg
        have av41 := av40.up g41.gg
        generalize upd G40 t41 (.tup [.str "row", .str d.shown, .bl true]) = G41 at s41 pn41 tb41 gh41 xc41 xG41 av41 g41
        have inTc := inT
        have layp := told_lay (x := "row") (y := d.shown) (by decide +kernel) ok40
        have d3p : ∀ H : Hp, DpAll K H [.str "row", .str d.shown, .bl true] [.str "row", .str d.shown, .bool true] := fun _ => .cons (.str _) (.cons (.str _) (.cons (.bl true) .nil))
        have tr : ∀ (Hc : Hp) (Q : VK), Ex G41 Hc → (∀ T H2, Ex Hc H2 → H2 T = some (.tup [.str "row", .str d.shown, .bl true]) → Q (.ref T) H2) → RaisesQ K "InvalidRow" x Hc (ToldE K Q) := fun Hc Q xh q => told_raise (Or.inr (Or.inl ⟨rfl, rfl⟩)) av41 (by decide) (by decide) xh q
        refine ⟨tb41.tabs, fun Ha ka ta => ?_⟩
        obtain ⟨ga, tba⟩ := tb41.lam inT ka ta gh41
        have pna := pn41.tab tb41 inT ga
        have gha := ga.gh
        refine ⟨G41, _, x, ov, f, true, d, od, rfl, gha, av41.dq, (avo.up xc41).dq, Or.inr ⟨so, L, n, ec, rfl, sob.up xc41, n1, n40, l5, fewE, okE, fun _ => tr Ha _ gha fun Ta Hb xab hb => ?_, fun (hz : rowQ L n d = true) => absurd (hz.symm.trans bad40) (by decide), fun r ns ws _ _ (hz : rowQ L n d = true) => absurd (hz.symm.trans bad40) (by decide)⟩⟩
        refine ⟨szr (n := 1) (by decide +kernel), fun lc Hc nc => ?_⟩
        have gab := ex_gr gha xab
        have s1 := LSt.start gab.gh (pna.gr gab) (tba.gr gab) hb nc
        clear pna tba gab ga
        refine ⟨⟨_, SqL.of s1.hl⟩, ?_⟩
        refine ⟨s1.tb.tabs, fun Ha ka ta => ?_⟩
        have sa := s1.lam inT ka ta
        have gha := sa.gh
        refine ⟨G41, _, x, f, d, rfl, gha, av41.dq, Or.inr ⟨so, L, n, ec, rfl, sob.up xc41, n1, n40, l5, fewE, okE, fun _ => tr Ha _ gha fun Ta Hb xab hb => ?_, fun (hz : rowQ L n d = true) => absurd (hz.symm.trans bad40) (by decide)⟩⟩
        refine ⟨_, xab _ _ sa.hl, (show 1 < sizeLine from Nat.lt_of_lt_of_le (by decide) (szr (n := 100) (by decide +kernel))), fun Hc cc => ?_⟩
        have s2 := sa.app xab hb cc
        clear sa
        refine ⟨szr (n := 2) (by decide +kernel), fun le He ne => ?_⟩
        have st2 := Evl.ex_t (ex_trans s2.gh ne.ex) s41
        refine tups_ne (d3p He) layp (by rfl) (SqL.of (ne.ex _ _ s2.hl)) (SqL.of ne.at) (fun x hx => ?_) (fun x hx => ?_) ?_
        · obtain ⟨u, h1, h2⟩ := s2.ts x hx
          exact ⟨u, h1, SqT.of (ne.ex _ _ h2)⟩
        · simp only [List.mem_cons, List.not_mem_nil, or_false, or_self] at hx
          exact ⟨t41, hx, st2⟩
        have g2 := ex_gr s2.gh ne.ex
        have pn2 := s2.pn.gr g2
        have tb2 := s2.tb.gr g2
        have gh2 := g2.gh
        clear s2 s1
        refine ⟨tb2.tabs, fun Ha ka ta => ?_⟩
        obtain ⟨ga, tba⟩ := tb2.lam inT ka ta gh2
        have pna := pn2.tab tb2 inT ga
        have gha := ga.gh
        refine ⟨G41, _, x, .ref d9, f, false, d, wd9, rfl, gha, av41.dq, dq9.up xc41, Or.inr ⟨so, L, n, ec, rfl, sob.up xc41, n1, n40, l5, fewE, okE, fun _ => tr Ha _ gha fun Ta Hb xab hb => ?_, fun (hz : rowQ L n d = true) => absurd (hz.symm.trans bad40) (by decide), fun r ns ws _ _ (hz : rowQ L n d = true) => absurd (hz.symm.trans bad40) (by decide)⟩⟩
        have gab := ex_gr gha xab
        refine uVar_at rfl ?_
        refine tup_ne (d3p Hb) layp (SqT.of hb) (Evl.ex_t gab.gh s41) ?_
        exact ⟨G41, _, _, _, xG41, gab.gh, pna.gr gab, tba.gr gab, rfl⟩
      rintro σ H50 ⟨G50, z10, z11, z12, xG50, gh50, pn50, tb50, rfl⟩
      have xc50 := ex_trans xb36 xG50
      obtain ⟨sa, skv, le, sws, esd, sc1, sc2, sc3, _⟩ := id (scb.up xc50)
      cases esd
      refine fun a51 f51 => ?_
      obtain ⟨K51, e51⟩ : ∃ K, K = upd H50 a51 (.dK []) := ⟨_, rfl⟩
      rw [← e51]
      have n51 : New H50 a51 (.dK []) K51 := ⟨f51, e51⟩
      have gh51 := ex_trans gh50 n51.ex
      refine ⟨_, dget_of (gh51 _ _ sc1) sc3, ?_⟩
      refine ⟨szr (n := 1) (by decide +kernel), fun t52 H52 n52 => ?_⟩
      have gh52 := ex_trans gh51 n52.ex
      refine ⟨_, dget_of (gh52 _ _ sc1) sc2, ?_⟩
      refine mulN_all n52.at (by decide) (by decide) l1 (by omega) fun t53 H53 x53 o53 s53 => ?_
      refine ⟨x53 _ _ (n52.ex _ _ n51.at), [(.inl n, .ref t53)], rfl, (show 1 ≤ 15 by decide), ?_⟩
      obtain ⟨K54, e54⟩ : ∃ K, K = upd H53 a51 (.dK (mergeK [] [(.inl n, .ref t53)])) := ⟨_, rfl⟩
      rw [← e54]
      have c54 : K54 a51 = some (.dK [(.inl n, .ref t53)]) := by rw [e54]; exact upd_same
      have x54 : Ex H50 K54 := by rw [e54]; exact disp_ex f51 e51 (ex_trans n52.ex x53)
      have f53 : H50 t53 = none := by
        rcases o53 with rfl | o53
        · exact ex_none n51.ex n52.fresh
        · exact ex_none n51.ex (ex_none n52.ex o53)
      have c53 : K54 t53 = some (.tup (List.replicate L.toNat [V.int 0]).flatten) := by
        rw [e54, upd_ne (fun z => by rw [z, x53 _ _ (n52.ex _ _ n51.at)] at s53; cases s53)]
        exact s53
      have gh54 := ex_trans gh50 x54
      clear e51 e54 n51 n52 gh51 gh52 x53 s53 o53
      refine fun a55 f55 => ?_
      obtain ⟨K55, e55⟩ : ∃ K, K = upd K54 a55 (.dK []) := ⟨_, rfl⟩
      rw [← e55]
      have n55 : New K54 a55 (.dK []) K55 := ⟨f55, e55⟩
      have gh55 := ex_trans gh54 n55.ex
      refine ⟨szr (n := 1) (by decide +kernel), fun t56 H56 n56 => ?_⟩
      have gh56 := ex_trans gh55 n56.ex
      refine ⟨_, dget_of (gh56 _ _ sc1) sc2, ?_⟩
      refine tC_add ?_
      refine mulN_all (k := L + 1) n56.at (by decide) (by decide) (by omega) (by omega) fun t57 H57 x57 o57 s57 => ?_
      refine ⟨x57 _ _ (n56.ex _ _ n55.at), [(.inl 0, .ref t57)], rfl, (show 1 ≤ 15 by decide), ?_⟩
      obtain ⟨K58, e58⟩ : ∃ K, K = upd H57 a55 (.dK (mergeK [] [(.inl 0, .ref t57)])) := ⟨_, rfl⟩
      rw [← e58]
      have c58 : K58 a55 = some (.dK [(.inl 0, .ref t57)]) := by rw [e58]; exact upd_same
      have x58 : Ex K54 K58 := by rw [e58]; exact disp_ex f55 e55 (ex_trans n56.ex x57)
      have f57 : K54 t57 = none := by
        rcases o57 with rfl | o57
        · exact ex_none n55.ex n56.fresh
        · exact ex_none n55.ex (ex_none n56.ex o57)
      have c57 : K58 t57 = some (.tup (List.replicate (L + 1).toNat [V.int 0]).flatten) := by
        rw [e58, upd_ne (fun z => by rw [z, x57 _ _ (n56.ex _ _ n55.at)] at s57; cases s57)]
        exact s57
      clear e55 e58 n55 n56 gh55 gh56 x57 s57 o57
      refine ⟨szr (n := 3) (by decide +kernel), fun l59 H59 n59 => ?_⟩
      obtain ⟨G60, g60, c60, s60⟩ : ∃ G60, Gr G50 H50 G60 H59 ∧ (∀ x ∈ [ov, V.ref a51, .ref a55], CandQ K G60 x) ∧ SqL K G60 l59 [ov, V.ref a51, .ref a55] := by
        have y58 := n59.ex
        have y54 := ex_trans x58 y58
        have y50 := ex_trans x54 y54
        have fr : ∀ {b : Addr} {o : HO}, K54 b = none → H59 b = some o → frzAll G50 H50 H59 b = some o := fun {b o} f e => by
          rw [frz_new (ex_none x54 f)]
          exact e
        have fr0 : ∀ {b : Addr} {o : HO}, H50 b = none → H59 b = some o → frzAll G50 H50 H59 b = some o := fun {b o} f e => by
          rw [frz_new f]
          exact e
        have gg := Gr_all gh50 y50
        refine ⟨_, gg, fun x hx => ?_, SqL.of (fr0 (ex_none x54 (ex_none x58 n59.fresh)) n59.at)⟩
        simp only [List.mem_cons, List.not_mem_nil, or_false] at hx
        rcases hx with rfl | rfl | rfl
        · exact ⟨true, od, ⟨(avo.up (ex_trans xc50 gg.gg)).dq, avo.fd, avo.sm.up (by decide) (by decide)⟩, oko⟩
        · exact cand_zeros (fr0 f51 (y54 _ _ c54)) (fr0 f53 (y54 _ _ c53)) ⟨by omega, by omega⟩ (by omega)
        · exact cand_zeros (fr f55 (y58 _ _ c58)) (fr f57 (y58 _ _ c57)) ⟨by omega, by omega⟩ (by omega)
      have pn60 := pn50.gr g60
      have tb60 := tb50.gr g60
      have gh60 := g60.gh
      have xc60 := ex_trans xc50 g60.gg
      clear c53 c54 c57 c58 x54 x58 f51 f53 f55 f57 n59 gh54 g60
      refine ⟨true, _, Evl.ex_l gh60 s60, ?_⟩
      refine ⟨fun j σ H' => ∃ (G : Hp) (y10 y12 : Option V), Ex G60 G ∧ Ex G H' ∧ Pen K ("index" : PySem.Str) ("left" : PySem.Str) G H' p (100000 * i + 50000) ∧ Tb T_ G H' ∧ σ = [some (.ref a), some (.ref p), some (.int (0 + (i : Int))), some (.ref sa), some (.ref so), some vv, some ov, some (.ref x12), some (.ref r8), some (.ref d9), y10, z11, y12, some (.ref D)], ⟨G60, _, _, ex_refl _, gh60, pn60, tb60, rfl⟩, ?_, ?_, ?_⟩
      · rintro j σ H' _ ⟨G, z10, z12, xG, gG, _⟩
        exact Evl.ex_l gG (Evl.ex_l xG s60)
      · rintro j x σ H' H0' hj ⟨G61, z10, z12, xG, gh61, pn61, tb61, rfl⟩ ⟨rfl, hx⟩
        obtain ⟨f, d, av61, ok61⟩ := c60 x (List.mem_of_getElem? hx)
        have xc := ex_trans xc60 xG
        have av61 := av61.up xG
        have hrq : rowQ L n (.tuple (ns.map PyData.int)) = true := rowQ_ints ln nin
        refine ⟨tb61.tabs, fun Ha ka ta => ?_⟩
        obtain ⟨ga, tba⟩ := tb61.lam inT ka ta gh61
        have pna := pn61.tab tb61 inT ga
        have gha := ga.gh
        refine ⟨G61, _, .ref r8, x, false, f, _, d, rfl, gha, dqr.up xc, av61.dq, Or.inr ⟨so, L, n, ec, rfl, sob.up xc, n1, n40, l5, fewE, okE, fun (hz : rowQ L n (.tuple (ns.map PyData.int)) = false) => absurd (hrq.symm.trans hz) (by decide), fun _ (hne : x ≠ .non) (hz : wishQ L n d = false) => told_raise (Or.inr (Or.inr ⟨rfl, rfl⟩)) av61 (by decide) (by decide) gha fun Ta Hb xab hb => ?_, fun r ns' ws _ _ _ (hrd : PyData.tuple (ns.map PyData.int) = .tuple (ns'.map PyData.int)) wok hw H' xh => fun Ta Hb nT => ?_⟩⟩
        · have gab := ex_gr gha xab
          have pnb := pna.gr gab
          have tbb := tba.gr gab
          have ghb := gab.gh
          have layp := told_lay (x := "wishes") (y := d.shown) (by decide +kernel) ok61
          have d3p : ∀ H : Hp, DpAll K H [.str "wishes", .str d.shown, .bl true] [.str "wishes", .str d.shown, .bool true] := fun _ => .cons (.str _) (.cons (.str _) (.cons (.bl true) .nil))
          cases x <;> first | exact absurd rfl hne | skip
          all_goals
            refine ⟨G61, _, _, f, d, rfl, ghb, av61.dq, Or.inl ⟨so, L, n, ec, rfl, sob.up xc, n40, by omega, fun H62 x62 => ?_⟩⟩
            rw [hz]
            have g62 := ex_gr ghb x62
            refine ⟨f, 6, 13000, d, av61.up g62.gh, by decide, by decide, ?_⟩
            refine ⟨szr (n := 3) (by decide +kernel), fun t63 H63 n63 => ?_⟩
            have g63 := g62.trans (ex_gr g62.gh n63.ex)
            refine tup_ne (d3p H63) layp (SqT.of (g63.hh _ _ hb)) (SqT.of n63.at) ?_
            exact ⟨G61, _, _, xG, g63.gh, pnb.gr g63, tbb.gr g63, rfl⟩
        · have xab := ex_trans xh nT.ex
          have gab := ex_gr gha xab
          have hb := nT.at
          have e1 := ints_inj hrd
          subst e1
          have pnb := pna.gr gab
          have tbb := tba.gr gab
          have ghb := gab.gh
          have bad : ∀ {E : XK} {Hc : Hp}, rowQ L n (.tuple (ns.map PyData.int)) = false → RaisesQ K "InvalidRow" (.ref r8) Hc E := fun hz => absurd (hrq.symm.trans hz) (by decide)
          generalize eS : sumO ((linksD n (ec.map (·.1))).map (linkPrice (ec.map (·.2.2)) ns) ++ ws.map (wishPrice ns)) = S at hb
          have layp := made_lay S
          have d3p : ∀ H : Hp, DpAll K H [.str "made", pV S] [.str "made", pD S] := fun _ => .cons (.str _) (.cons (dp_pV S) .nil)
          rcases hw with ⟨rfl, rfl⟩ | ⟨dx, kx, rfl, rdx, pwx, hwq, edx⟩
          · refine ⟨G61, _, .ref r8, .non, false, f, _, d, rfl, ghb, dqr.up xc, av61.dq, Or.inr ⟨so, L, n, ec, rfl, sob.up xc, n1, n40, l5, fewE, okE, bad, fun _ (hne : V.non ≠ .non) => absurd rfl hne, fun r ns' ws _ _ _ (hrd : PyData.tuple (ns.map PyData.int) = .tuple (ns'.map PyData.int)) wok hw H62 x62 => ?_⟩⟩
            have e1 := ints_inj hrd
            subst e1
            rcases hw with ⟨_, rfl⟩ | ⟨_, _, z, _⟩
            · rw [eS]
              have g62 := ex_gr ghb x62
              refine ⟨szr (n := 2) (by decide +kernel), fun t63 H63 n63 => ?_⟩
              have g63 := g62.trans (ex_gr g62.gh n63.ex)
              refine tup_ne (d3p H63) layp (SqT.of (g63.hh _ _ hb)) (SqT.of n63.at) ?_
              exact ⟨G61, _, _, xG, g63.gh, pnb.gr g63, tbb.gr g63, rfl⟩
            · cases z
          · refine ⟨G61, _, _, f, d, rfl, ghb, av61.dq, Or.inl ⟨so, L, n, ec, rfl, sob.up xc, n40, by omega, fun H62 x62 => ?_⟩⟩
            rw [hwq]
            have g62 := ex_gr ghb x62
            refine ⟨G61, _, .ref r8, .ref dx, false, f, _, d, rfl, g62.gh, dqr.up xc, av61.dq, Or.inr ⟨so, L, n, ec, rfl, sob.up xc, n1, n40, l5, fewE, okE, bad, fun _ _ (hz : wishQ L n d = false) => absurd (hwq.symm.trans hz) (by decide), fun r ns' ws' _ _ _ (hrd : PyData.tuple (ns.map PyData.int) = .tuple (ns'.map PyData.int)) wok hw H63 x63 => ?_⟩⟩
            have e1 := ints_inj hrd
            subst e1
            rcases hw with ⟨z, _⟩ | ⟨_, _, _, _, _, _, edy⟩
            · cases z
            · have e2 : ws = ws' := map_inj wishP_inj (PyData.dict.inj (edx.symm.trans edy))
              subst e2
              rw [eS]
              have g63 := g62.trans (ex_gr g62.gh x63)
              refine ⟨szr (n := 2) (by decide +kernel), fun t64 H64 n64 => ?_⟩
              have g64 := g63.trans (ex_gr g63.gh n64.ex)
              refine tup_ne (d3p H64) layp (SqT.of (g64.hh _ _ hb)) (SqT.of n64.at) ?_
              exact ⟨G61, _, _, xG, g64.gh, pnb.gr g64, tbb.gr g64, rfl⟩
      rintro σ H70 ⟨G70, z10, z12, xG70, gh70, pn70, tb70, rfl⟩
      exact ⟨G70, _, _, _, _, _, _, _, _, _, _, _, _, gh70, pn70.up (by omega), tb70, rfl⟩
    · rintro σ H2 _
      exact q _
end
end k36

set_option maxHeartbeats 4000000
namespace k36
open PySem PySem.Spec PyProof.Rows L2 Ech
open He (ga ma)
theorem facts {P : Program} {w : World} {K : PySem.W.Frag} {h : Heap} {mg : PySem.Str → Option Value} {f : Addr} (X : K.In h) (G : h.Ns mainGlobals mg) (hfa : mg ("law" : PySem.Str) = some (.ref f)) (c : SaysB fa fn K) :
    ∃ fd : FuncData, (∀ (s : Shared) (v : Value), BindsTo s fd ⟨[v], []⟩ [("_law_script", v)]) ∧ ∀ base : Heap, TBs base mg → FnG P w K mg base CX0 16 f fd ["_law_script"] (sp_law K) := by
  have e : Ev K mg := ⟨c, h, X, G⟩
  have z := hfa.symm.trans (gl_law e)
  cases z
  have b := FunD.bindsA (ps := ["_law_script"]) (F_law e) fun _ _ _ _ _ _ us hl => match us, hl with | [_], _ => rfl
  exact ⟨_, fun s v => b s [v] rfl, fun base tb => ok_law e tb⟩
end k36
open PySem PySem.W PySem.Calls PyProof.Rows
theorem PySem.Challenge.cw_echofold_k36_errors_of_prices_holds : PySem.Challenge.rw_echofold_k36_errors_of_prices.Holds := by
  w_on; o_law
  refine HandSHeadRun.head_any (r := OpenLaw.row PySem.Challenge.rw_echofold_k36_errors_of_prices) (q := view (OpenLaw.row PySem.Challenge.rw_echofold_k36_errors_of_prices).prog [76]) (H := k36.hk) (ob := k36.ob) (M := 20000) (loose := k36.lo) (d := HandSHeadRun.topDef (OpenLaw.row PySem.Challenge.rw_echofold_k36_errors_of_prices).prog 76) (kwd := []) k36.ob_eq
    (by kernel_rfl) (fun s => by kernel_rfl) k36.run (by kernel_rfl) (by kernel_rfl) (by kernel_rfl) (by rfl) (by first | assumption | decide +kernel) (by decide +kernel) ⟨rfl, rfl, rfl, rfl, rfl, by decide +kernel⟩ ?hw ?hc
  case hw => w_witness2
  case hc =>
    refine Ech.law_endT (l := PySem.Challenge.rw_echofold_k36_errors_of_prices) (n := 63) (k := 16) (x := "_law_script") rfl (by decide) (by kernel_rfl) ⟨rfl, by decide, by decide⟩ ?F
    intro w mg fa h Y G hmg0
    obtain ⟨K, KX, c, tabs⟩ := Y
    have hmg : mg ("law" : PySem.Str) = some (.ref fa) := by
      have e : (HandSHeadRun.topDef (OpenLaw.row PySem.Challenge.rw_echofold_k36_errors_of_prices).prog 76).name = ("law" : PySem.Str) := by kernel_rfl
      rw [← e]
      exact hmg0
    obtain ⟨fd, hb, hF⟩ := k36.facts (P := (PySem.Challenge.rw_echofold_k36_errors_of_prices).prog) (w := w) KX G hmg c
    have e : k36.Ev K mg := ⟨c, h, KX, G⟩
    refine ⟨K, fd, k36.sp_law K, k36.cs_, KX, ?_, hb, fun H a ns hl et hS => ⟨a, ns, rfl, hS, hl, ?_, fun _ => rfl⟩, fun base _ _ tb => hF base tb⟩
    · intro z hz
      simp only [k36.cs_, List.mem_cons, List.not_mem_nil, or_false] at hz
      rcases hz with rfl
      · exact ⟨tabs _ (by simp [k36.ts_]), Option.isNone_iff_eq_none.mp (k36.nt_law e), Ech.codeHdB_ok KX (k36.chd_law e)⟩
    · intro z hz
      simp only [k36.T_, List.mem_cons, List.not_mem_nil, or_false] at hz
      rcases hz with rfl
      · exact et _ k36.mem_law

