import PyProof.Rows.All
import Wide.All
import OpenK.AllK
import Wide.FinOn
import KE.KStateDown
import HandS.ForMost
import HandS.Defaults
import HandS.HeadNt
import HandS.Head2
import HandS.HeadEnd
import PyProof.NeKinds
import PyProof.EqAt
import HandS.Wide
import HandS.IsInst
import HandS.Property
import HandS.ClsMeth
import HandS.Evl
import HandS.Walk
import HandS.Zip
import HandS.Deep
import KE.GoesZip
import KE.KDictZip
import KE.KItemsList
import HandS.ListItems
import KE.KSuper
import HandS.Nested
import HandS.ExcInit
import HandS.ExcField
import HandS.ExcIs
import HandS.CallSlots
import HandS.TryMany
import KE.KExcIs
import KE.GoesMore
import KE.GoesEnum
import HandS.Star
import HandS.SortRule
import HandS.MethStar
import HandS.More
import KE.KOpsOwn
import HandS.OwnEq
import HandS.Conv
import HandS.Style
import PyProof.InstEq
import PyProof.LongRange
import HandS.FStr
import HandS.Text
import HandS.Strs
import HandS.SetFor
import HandS.Lambda
import HandS.EndTab
import PySem.Challenge.RW_echofold_k03_tables_composed_added_turne
import HandS.TupAny
import HandS.DictComp
import HandS.WideMore
import HandS.TupMul
import KE.KExcInit
import PyProof.ExcBaseAll.OverflowError
import PyProof.ExcBaseAll.IndexError
import PyProof.ExcBaseAll.LookupError
import PyProof.ExcBaseAll.RuntimeError
import PyProof.ExcBaseAll.ValueError
import KE.SortData
import HandS.TupSets
import PyProof.SeqI3
import HandS.Sort
import HandS.MapSum
import HandS.WideBits
import HandS.Finally
set_option Elab.async false
set_option linter.all false
set_option maxRecDepth 100000
namespace Ech
open PySem PySem.W PySem.Calls PyProof.Rows He He5

abbrev Ft : Type := Frag → Bool
def obsB (fa : List Ft) (fn : List DefA) (K : Frag) : He.AlD := ((fa.all fun f => f K) && fn.all fun d => d.ok K, fn.map fun d => fnA K (d.at_ K))
def SaysB (fa : List Ft) (fn : List DefA) (K : Frag) : Prop := obsB fa fn K = valA fn
section
variable {fa : List Ft} {fn : List DefA} {K : Frag}
theorem SaysB.fact (c : SaysB fa fn K) (i : Nat) {f : Ft} (h : fa[i]? = some f := by rfl) : f K = true := by
  have c1 := (ba (show ((fa.all fun f => f K) && fn.all fun d => d.ok K) = true from congrArg (fun z : He.AlD => z.1) c)).1
  exact List.all_eq_true.mp c1 f (List.mem_of_getElem? h)
theorem SaysB.def_ (c : SaysB fa fn K) (i : Nat) {d : DefA} (h : fn[i]? = some d := by rfl) : ∃ fd, L2.FunD K d.name d.qual d.params d.body d.scope (d.dvs K) (d.kws K) (d.at_ K) fd := by
  have c2 := (ba (show ((fa.all fun f => f K) && fn.all fun d => d.ok K) = true from congrArg (fun z : He.AlD => z.1) c)).2
  have e : fn.map (fun d => fnA K (d.at_ K)) = fn.map DefA.val := congrArg (fun z : He.AlD => z.2) c
  have e2 : (fn.map fun d => fnA K (d.at_ K))[i]? = (fn.map DefA.val)[i]? := by rw [e]
  rw [List.getElem?_map, List.getElem?_map, h] at e2
  exact DefA.funD (Option.some.inj e2) (List.all_eq_true.mp c2 d (List.mem_of_getElem? h))
end
end Ech

set_option maxHeartbeats 1000000
namespace Ech
open PySem PySem.Spec PyProof.Rows L2

section
variable {X : Cx}
/-! ### consequence -/
theorem pe_wk {e : Expr} {t t' : TE} (h : PE X e t) (i : ∀ σ H Q, t' σ H Q → t σ H Q) : PE X e t' := ⟨fun pins s σ H Q I q => h.run pins s σ H Q I (i σ H Q q)⟩
theorem pt_wk {e : Expr} {t t' : TT} (h : PT X e t) (i : ∀ σ H Q, t' σ H Q → t σ H Q) : PT X e t' := ⟨fun pins s σ H Q I q => h.run pins s σ H Q I (i σ H Q q)⟩
theorem ps_wk {st : Stmt} {t t' : TS} (h : PS X st t) (i : ∀ D σ H, t' D σ H → t D σ H) : PS X st t' := ⟨fun pins s σ H D I q => h.run pins s σ H D I (i D σ H q)⟩
theorem op_wk {f : Value → Value → Sem Value} {r r' : R2} (h : OpR X f r) (i : ∀ x y H Q, r' x y H Q → r x y H Q) : OpR X f r' := fun pins s σ H x y v u Q I a b q => h pins s σ H x y v u Q I a b (i x y H Q q)
theorem call_wk {f : Value} {r r' : List V → Hp → VK → Prop} (h : CallR X f r) (i : ∀ xs H Q, r' xs H Q → r xs H Q) : CallR X f r' := fun pins s σ H xs us Q I a q => h pins s σ H xs us Q I a (i xs H Q q)
theorem call_or {f : Value} {r r' : List V → Hp → VK → Prop} (h : CallR X f r) (h' : CallR X f r') : CallR X f (fun xs H Q => r xs H Q ∨ r' xs H Q) := fun pins s σ H xs us Q I a q => q.elim (h pins s σ H xs us Q I a) (h' pins s σ H xs us Q I a)
theorem ix_wk {r r' : R2} (h : IxR X r) (i : ∀ x y H Q, r' x y H Q → r x y H Q) : IxR X r' := fun value slice pins s σ H x y v u Q I a b q => h value slice pins s σ H x y v u Q I a b (i x y H Q q)
theorem pg_wk {e : Expr} {t t' : TG} (h : PG X e t) (i : ∀ v σ H Q, t' v σ H Q → t v σ H Q) : PG X e t' := ⟨fun pins s σ H v u Q I r q => h.run pins s σ H v u Q I r (i v σ H Q q)⟩
theorem sl_wk {r r' : V → Option Int → Option Int → Hp → VK → Prop} (h : SlR X r) (i : ∀ x l u H Q, r' x l u H Q → r x l u H Q) : SlR X r' := fun pins s σ H x v vl vu lo hi sl Q I a b c d q => h pins s σ H x v vl vu lo hi sl Q I a b c d (i x lo hi H Q q)
end

/-! ### two ways by a Bool -/
def bite (c : Bool) (A B : Prop) : Prop := match c with | true => A | false => B
theorem bite_mk {c : Bool} {A B : Prop} (h1 : c = true → A) (h2 : c = false → B) : bite c A B := by
  cases c
  · exact h2 rfl
  · exact h1 rfl
theorem bite_if {c : Bool} {A B : Prop} (h : bite c A B) : if c = true then A else B := by
  cases c
  · exact (if_neg Bool.false_ne_true).mpr h
  · exact (if_pos rfl).mpr h
theorem bite_d {p : Prop} {dp : Decidable p} {A B : Prop} (h1 : p → A) (h2 : ¬ p → B) : bite (decide p) A B := bite_mk (fun h => h1 (of_decide_eq_true h)) (fun h => h2 (of_decide_eq_false h))
theorem bite_nd {p : Prop} {dp : Decidable p} {A B : Prop} (h1 : ¬ p → A) (h2 : p → B) : bite (!decide p) A B := bite_mk (fun h => h1 (of_decide_eq_false (by simpa using h))) (fun h => h2 (of_decide_eq_true (by simpa using h)))

/-! ### new objects, changed objects -/
structure New (H : Hp) (p : Addr) (o : HO) (H1 : Hp) : Prop where
  fresh : H p = none
  eq : H1 = upd H p o
structure Chg (H : Hp) (p : Addr) (o : HO) (H1 : Hp) : Prop where
  eq : H1 = upd H p o
abbrev Ex := Evl.Ex

/-! ### names -/
def slot : L2.St → Nat → Option V
  | [], _ => none
  | x :: _, 0 => x
  | _ :: r, n + 1 => slot r n
theorem slot_ok : ∀ {σ : L2.St} {i : Nat} {v : V}, slot σ i = some v → σ[i]? = some (some v)
  | [], _, _, h => by cases h
  | x :: _, 0, v, h => by
    have e : x = some v := h
    rw [e]
    rfl
  | _ :: r, n + 1, v, h => by
    have e : slot r n = some v := h
    simpa using slot_ok e
def uVar (i : Nat) : TE := fun σ H Q => match slot σ i with | some v => Q v H | none => False
theorem uVar_to {i : Nat} {σ : L2.St} {H : Hp} {Q : VK} (h : uVar i σ H Q) : tVar i σ H Q := by
  unfold uVar at h
  cases e : slot σ i with
  | none => rw [e] at h; exact h.elim
  | some v => rw [e] at h; exact ⟨v, slot_ok e, h⟩
section
variable {X : Cx}
theorem uv (i : Nat) {x : Str} {pos : Pos} (hN : X.N[i]? = some x := by rfl) (hv : Vis X.env.scope x := by first | exact Or.inl rfl | exact Or.inr (Or.inl rfl) | exact Or.inr (Or.inr rfl)) (hd : (x == ("__debug__" : Str)) = false := by decide)
    (hcd : (x == ("__classdict__" : Str)) = false := by decide) : PE X (.Name x pos) (uVar i) := pe_wk (pe_var hN hv hd hcd) fun _ _ _ h => uVar_to h
end

/-! ### operators -/
def CMulU (i j : Int) : Prop := CMul i j ∨ CMulW i j
def rAddU (K : PySem.W.Frag) : R2 := fun x y H Q => match x, y with
  | .int i, .int j => Q (.int (i + j)) H
  | .str a, .str b => a.length + b.length ≤ sizeLine ∧ Q (.str (a ++ b)) H
  | .ref a, .ref b => (∃ xs ys, H a = some (.lst xs) ∧ H b = some (.lst ys) ∧ xs.length + ys.length ≤ sizeLine ∧ ∀ p H1, New H p (.lst (xs ++ ys)) H1 → Q (.ref p) H1) ∨ rCatT K (.ref a) (.ref b) H Q
  | _, _ => False
def rSubU : R2 := fun x y H Q => match x, y with
  | .int i, .int j => Q (.int (i - j)) H
  | _, _ => False
def rMulU : R2 := fun x y H Q => match x, y with
  | .int i, .int j => CMulU i j ∧ Q (.int (i * j)) H
  | .ref l, .int k => ∃ xs, H l = some (.lst xs) ∧ -(2 ^ 63) ≤ k ∧ k < 2 ^ 63 ∧ xs.length * k.toNat ≤ sizeLine ∧ ∀ p H1, New H p (.lst (List.replicate k.toNat xs).flatten) H1 → Q (.ref p) H1
  | _, _ => False
def rModU : R2 := fun x y H Q => match x, y with
  | .int i, .int j => 0 < j ∧ Q (.int (i % j)) H
  | _, _ => False
def rDivU : R2 := fun x y H Q => match x, y with
  | .int i, .int j => (0 < j ∧ j < 2 ^ 1000) ∧ Q (.int (i / j)) H
  | _, _ => False
def rPowU : R2 := fun x y H Q => match x, y with
  | .int i, .int j => (0 ≤ j ∧ j ≤ 1000000 ∧ i.natAbs < 2 ^ 64) ∧ Q (.int (i ^ j.toNat)) H
  | _, _ => False
def rCmpI (f : Int → Int → Bool) : R2 := fun x y H Q => match x, y with
  | .int i, .int j => Q (.bl (f i j)) H
  | _, _ => False
def isNon : V → Bool
  | .non => true
  | _ => false
theorem isNon_eq (x : V) : decide (x = .non) = isNon x := by cases x <;> rfl
def rIsU (neg : Bool) : R2 := fun x y H Q => match y with
  | .non => Q (.bl (if neg then !isNon x else isNon x)) H
  | _ => False
def rLens (K : PySem.W.Frag) (neg : Bool) : R2 := fun x y H Q => ∃ l b xs ys, x = .ref l ∧ y = .ref b ∧ SqL K H l xs ∧ SqL K H b ys ∧ xs.length ≠ ys.length ∧ Q (.bl neg) H
def rEqU (K : PySem.W.Frag) (neg : Bool) : R2 := fun x y H Q => match x, y with
  | .int i, .int j => Q (.bl (if neg then !decide (i = j) else decide (i = j))) H
  | .str i, .str j => Q (.bl (if neg then !decide (i = j) else decide (i = j))) H
  | .bl i, .bl j => Q (.bl (if neg then !decide (i = j) else decide (i = j))) H
  | x, y => ((scal x y = true ∧ Q (.bl (if neg then !decide (x = y) else decide (x = y))) H) ∨ rLens K neg x y H Q) ∨ (∃ d e, Dp K H x d ∧ Dp K H y e ∧ SeqAt.shaped d = true ∧ SeqAt.shaped e = true ∧ Q (.bl (if neg then !PyData.eqv d e else PyData.eqv d e)) H)
section
variable {X : Cx}
theorem o_add : OpR X (binaryOp .Add) (rAddU X.K) := by
  refine op_wk (op_add.or (op_add_str.or (op_cat.or op_catT))) fun x y H Q h => ?_
  unfold rAddU at h
  split at h
  · exact .inl ⟨_, _, rfl, rfl, h⟩
  · exact .inr (.inl ⟨_, _, rfl, rfl, h.1, h.2⟩)
  · rcases h with ⟨xs, ys, h1, h2, h3, h4⟩ | h
    · exact .inr (.inr (.inl ⟨_, _, xs, ys, rfl, rfl, h1, h2, h3, fun p hp => h4 p _ ⟨hp, rfl⟩⟩))
    · exact .inr (.inr (.inr h))
  · exact h.elim
theorem o_sub : OpR X (binaryOp .Sub) rSubU := by
  refine op_wk op_sub fun x y H Q h => ?_
  unfold rSubU at h
  split at h
  · exact ⟨_, _, rfl, rfl, h⟩
  · exact h.elim
theorem o_mul : OpR X (binaryOp .Mult) rMulU := by
  refine op_wk (op_mul.or (op_mulW.or op_rep)) fun x y H Q h => ?_
  unfold rMulU at h
  split at h
  · rcases h with ⟨h | h, q⟩
    · exact .inl ⟨_, _, rfl, rfl, h, q⟩
    · exact .inr (.inl ⟨_, _, rfl, rfl, h, q⟩)
  · obtain ⟨xs, h1, h2, h3, h4, h5⟩ := h
    exact .inr (.inr ⟨_, _, xs, rfl, rfl, h1, h2, h3, h4, fun p hp => h5 p _ ⟨hp, rfl⟩⟩)
  · exact h.elim
theorem o_mod : OpR X (binaryOp .Mod) rModU := by
  refine op_wk op_mod fun x y H Q h => ?_
  unfold rModU at h
  split at h
  · exact ⟨_, _, rfl, rfl, h.1, h.2⟩
  · exact h.elim
theorem div_lt {j : Int} (h1 : 0 < j) (h2 : j < 2 ^ 1000) : j.natAbs < 2 ^ 1000 := by
  have e : (j.natAbs : Int) = j := by omega
  have h3 : (j.natAbs : Int) < ((2 ^ 1000 : Nat) : Int) := by rw [e]; exact_mod_cast h2
  exact_mod_cast h3
theorem o_div : OpR X (binaryOp .FloorDiv) rDivU := by
  refine op_wk op_fdivW fun x y H Q h => ?_
  unfold rDivU at h
  split at h
  · exact ⟨_, _, rfl, rfl, wide_div (b := 1000) h.1.1 (div_lt h.1.1 h.1.2) (by omega) (by omega), h.2⟩
  · exact h.elim
theorem o_pow : OpR X (binaryOp .Pow) rPowU := by
  refine op_wk op_pow fun x y H Q h => ?_
  unfold rPowU at h
  split at h
  · exact ⟨_, _, rfl, rfl, h.1, h.2⟩
  · exact h.elim
theorem o_cmp {op : CmpOp} {f : Int → Int → Bool} (h : OpR X (compareOp op) (rI0 fun i j => .bl (f i j))) : OpR X (compareOp op) (rCmpI f) := by
  refine op_wk h fun x y H Q h => ?_
  unfold rCmpI at h
  split at h
  · exact ⟨_, _, rfl, rfl, h⟩
  · exact h.elim
theorem o_lt : OpR X (compareOp .Lt) (rCmpI fun i j => decide (i < j)) := o_cmp op_lt
theorem o_le : OpR X (compareOp .LtE) (rCmpI fun i j => decide (i ≤ j)) := o_cmp op_le
theorem o_gt : OpR X (compareOp .Gt) (rCmpI fun i j => decide (j < i)) := o_cmp op_gt
theorem o_ge : OpR X (compareOp .GtE) (rCmpI fun i j => decide (j ≤ i)) := o_cmp op_ge
theorem o_is : OpR X (compareOp .Is) (rIsU false) := by
  refine op_wk op_isN fun x y H Q h => ?_
  unfold rIsU at h
  split at h
  · exact ⟨rfl, by rw [isNon_eq]; exact h⟩
  · exact h.elim
theorem o_isnot : OpR X (compareOp .IsNot) (rIsU true) := by
  refine op_wk op_notN fun x y H Q h => ?_
  unfold rIsU at h
  split at h
  · exact ⟨rfl, by rw [isNon_eq]; exact h⟩
  · exact h.elim
theorem o_lens (hu : X.A.units < cLine) : OpR X (compareOp .Eq) (rLens X.K false) := by
  intro pins s σ H x y v u Q I rx ry h
  obtain ⟨l, b, xs, ys, rfl, rfl, hl, hb, hn, q⟩ := h
  cases rx
  cases ry
  obtain ⟨its, r, e, _⟩ := I.list hl
  obtain ⟨its2, r2, e2, _⟩ := I.list hb
  have h1 := r.length
  have h2 := r2.length
  exact PySem.SeqAt.RcAt.lists_lengths e.isList e2.isList (by simp; omega) hu _ _ _ _ ⟨.bl false, H, I, rfl, q⟩
theorem o_lensN (hu : X.A.units < cLine) : OpR X (compareOp .NotEq) (rLens X.K true) := by
  intro pins s σ H x y v u Q I rx ry h
  obtain ⟨l, b, xs, ys, rfl, rfl, hl, hb, hn, q⟩ := h
  cases rx
  cases ry
  obtain ⟨its, r, e, _⟩ := I.list hl
  obtain ⟨its2, r2, e2, _⟩ := I.list hb
  have h1 := r.length
  have h2 := r2.length
  exact PySem.SeqAt.RcNeAt.lists_lengths e.isList e2.isList (by simp; omega) hu _ _ _ _ ⟨.bl true, H, I, rfl, q⟩
theorem o_eq (hu : X.A.units + 64 < cLine) : OpR X (compareOp .Eq) (rEqU X.K false) := by
  refine op_wk ((op_eq.or (op_eqD hu)).or (o_lens (by omega))) fun x y H Q h => ?_
  unfold rEqU at h
  split at h
  · exact .inl (.inl ⟨rfl, by simpa using h⟩)
  · exact .inl (.inl ⟨rfl, by simpa using h⟩)
  · exact .inl (.inl ⟨rfl, by simpa using h⟩)
  · rcases h with (h | h) | ⟨d, e, h1, h2, h3, h4, h5⟩
    · exact .inl (.inl h)
    · exact .inr h
    · exact .inl (.inr ⟨d, e, h1, h2, h3, h4, h5⟩)
theorem o_ne (hu : X.A.units + 64 < cLine) : OpR X (compareOp .NotEq) (rEqU X.K true) := by
  refine op_wk ((op_ne.or (op_neD hu)).or (o_lensN (by omega))) fun x y H Q h => ?_
  unfold rEqU at h
  split at h
  · exact .inl (.inl ⟨rfl, by simpa using h⟩)
  · exact .inl (.inl ⟨rfl, by simpa using h⟩)
  · exact .inl (.inl ⟨rfl, by simpa using h⟩)
  · rcases h with (h | h) | ⟨d, e, h1, h2, h3, h4, h5⟩
    · exact .inl (.inl h)
    · exact .inr h
    · exact .inl (.inr ⟨d, e, h1, h2, h3, h4, h5⟩)
end
end Ech

namespace Ech
open PySem PySem.Spec PyProof.Rows L2

/-! ### defs whose frames know that no repr is under way -/
structure FnG (P : Program) (w : World) (K : PySem.W.Frag) (mg : PySem.Str → Option Value) (base : Heap) (CX : CXT) (k : Nat) (f : Addr) (fd : FuncData) (ps : List PySem.Str) (sp : Sp) : Prop where
  len : ∀ vs H Q E, sp vs H Q E → vs.length = ps.length
  run : ∀ (A : Around) (outer : List Env) (s : Shared) (H : Hp) (args : Args) (us : List Value) (vs : List V) (Q : VK) (E : XK),
    Room k A → A.guards = some [] → Env0 P w K mg base A outer s H → BindsTo s fd args (ps.zip us) → Vals vs us → sp vs H Q E →
    codeAny (model P w) A (.call (.ref f) args) (CR CX outer P w H s Q E) s

section
variable {P : Program} {w : World} {K : PySem.W.Frag} {mg : PySem.Str → Option Value} {base : Heap} {CX : CXT} {k : Nat} {f : Addr} {fd : FuncData} {ps : List PySem.Str} {sp : Sp}
theorem FnG.of (F : FnOk P w K mg base CX k f fd ps sp) : FnG P w K mg base CX k f fd ps sp :=
  ⟨F.len, fun A o s H a us vs Q E hr _ e b v q => F.run A o s H a us vs Q E hr e b v q⟩
theorem FnG.up {j : Nat} (F : FnG P w K mg base CX j f fd ps sp) (h : j ≤ k) : FnG P w K mg base CX k f fd ps sp :=
  ⟨F.len, fun A o s H a us vs Q E hr => F.run A o s H a us vs Q E (hr.mono h)⟩
theorem FnG.imp {sp' : Sp} (F : FnG P w K mg base CX k f fd ps sp) (h : ∀ vs H Q E, sp' vs H Q E → sp vs H Q E) : FnG P w K mg base CX k f fd ps sp' :=
  ⟨fun vs H Q E q => F.len vs H Q E (h vs H Q E q), fun A o s H a us vs Q E hr hg e b v q => F.run A o s H a us vs Q E hr hg e b v (h vs H Q E q)⟩

def CodeAt (K : PySem.W.Frag) (f : Addr) (cdv : Value) : Prop := ∃ oc od d osl, K.lookup f = some ⟨oc, od, .func d, osl⟩ ∧ d.code = cdv
theorem FnG.bodyC {x qual : PySem.Str} {params : Arguments} {body : List Stmt} {scope : Scope} {dvs : List V} {kws : List (PySem.Str × V)} {N : List PySem.Str}
    (F : FunD K x qual params body scope dvs kws f fd) (S : FnScope N ps scope) (len : ∀ vs H Q E, sp vs H Q E → vs.length = ps.length)
    (hbody : ∀ (cdv : Value) (A : Around) (outer : List Env) (s : Shared) (H : Hp) (vs : List V) (Q : VK) (E : XK), CodeAt K f cdv →
      Room k (A.deeper (envOfC qual scope s.heap.objs.size f cdv)) → (A.deeper (envOfC qual scope s.heap.objs.size f cdv)).guards = some [] → sp vs H Q E →
      ∃ t, PSs (cxOf CX P w K mg base N qual scope f cdv A outer s H E) body t ∧ t { nx := fun _ H' => Q .non H', rt := Q } (start N vs) H) :
    FnG P w K mg base CX (k + 1) f fd ps sp := by
  obtain ⟨oc, od, dV, kV, doc, pm, an, cdv, ct, osl, hfd, lk, hcd, _, _⟩ := F.ex
  have known : CodeAt K f cdv := ⟨oc, od, fd, osl, lk, by rw [hfd]⟩
  subst hfd
  refine ⟨len, ?_⟩
  intro A outer s H args us vs Q E room quiet e0 bt rel want
  have inK : K.In s.heap := e0.mod.kin.keeps (fun b o z => (e0.bs b o z).1)
  have nl : s.heap.NoLimit := e0.mod.nolimit.keeps (fun b o z => (e0.bs b o z).1)
  have kinds : ∀ y ∈ ps.zip us, scope.names.lookup y.1 = some .local ∨
      (scope.names.lookup y.1 = some .cell ∧ ((cellsFrom (s.heap.objs.size + 1) scope.names []).lookup y.1).isSome = true) := by
    rintro ⟨n, v⟩ hy
    have hp := (List.of_mem_zip hy).1
    cases S.par n hp with
    | inl q => exact Or.inl q
    | inr q => exact Or.inr ⟨q, PySem.W.cellsFrom_some _ _ _ (Or.inl q)⟩
  have start_at := inK _ _ lk
  have rec_at := PySem.W.codeRec_of inK hcd
  refine codeAny_call_function room.depth start_at rfl S.co S.gen rfl rec_at (bt _ _ _ _ ?_)
  refine wpAny_newFunctionEnv_cells S.kind kinds ?_
  intro env henv s1 entered
  subst henv
  refine ⟨nl.keeps entered.toInCall.keep, codeAny_func ?_⟩
  obtain ⟨t, derive, reading⟩ := hbody cdv A outer s H vs Q E known (room.deeper _) quiet want
  have inv := inv_start (CX := CX) (N := N) (E := E) S room.hd e0 (len _ _ _ _ want) rel entered
  refine wpAny_mono (derive.run [] s1 (start N vs) H _ inv reading) ?_ (fun _ _ z => z)
  intro fl s' ended
  cases fl with
  | ret u =>
    obtain ⟨v, _, H', J, rv, q⟩ := ended
    exact ⟨v, H', J.os, J.bare, J.base, J.hok, rv, q⟩
  | next =>
    obtain ⟨_, H', J, q⟩ := ended
    exact ⟨V.non, H', J.os, J.bare, J.base, J.hok, rfl, q⟩
  | brk => exact (ended.elim fun _ z => z.elim fun _ z => z.2).elim
  | cont => exact (ended.elim fun _ z => z.elim fun _ z => z.2).elim
theorem FnG.body {x qual : PySem.Str} {params : Arguments} {body : List Stmt} {scope : Scope} {dvs : List V} {kws : List (PySem.Str × V)} {N : List PySem.Str}
    (F : FunD K x qual params body scope dvs kws f fd) (S : FnScope N ps scope) (len : ∀ vs H Q E, sp vs H Q E → vs.length = ps.length)
    (hbody : ∀ (cdv : Value) (A : Around) (outer : List Env) (s : Shared) (H : Hp) (vs : List V) (Q : VK) (E : XK),
      Room k (A.deeper (envOfC qual scope s.heap.objs.size f cdv)) → (A.deeper (envOfC qual scope s.heap.objs.size f cdv)).guards = some [] → sp vs H Q E →
      ∃ t, PSs (cxOf CX P w K mg base N qual scope f cdv A outer s H E) body t ∧ t { nx := fun _ H' => Q .non H', rt := Q } (start N vs) H) :
    FnG P w K mg base CX (k + 1) f fd ps sp := by
  exact FnG.bodyC F S len fun cdv A outer s H vs Q E _ => hbody cdv A outer s H vs Q E
end

/-! ### such a def called -/
section
variable {X : Cx} {CX : CXT} {k : Nat} {f : Addr} {fd : FuncData} {ps : List PySem.Str} {sp : Sp} {dvs : List V} {ds : List Value} {E : XK}
theorem runG {pins : List (Addr × Obj)} {σ : L2.St} {H : Hp} {s : Shared} {Q : VK} {us : List Value} {vs : List V} (F : FnG X.prog X.w X.K X.mg X.base CX k f fd ps sp) (room : Room k X.A) (quiet : X.A.guards = some [])
    (hb : Binds X.K fd ps ds) (hd : Vals dvs ds) (hx : Passes CX X E) (I : Inv X pins σ H s) (r : Vals vs us) (h : sp (vs ++ dvs) H Q E) :
    wpAny (model X.prog X.w) X.A (call (.ref f) us) (EP X pins σ Q) X.xe s := by
  have rr : Vals (vs ++ dvs) (us ++ ds) := r.append hd
  have lens : (us ++ ds).length = ps.length := (rr.length.symm.trans (F.len _ _ _ _ h))
  have go := F.run X.A X.stack s H ⟨us, []⟩ (us ++ ds) (vs ++ dvs) Q E room quiet I.env0 (hb s us I.kIn lens) rr h
  refine wpAny_call (codeAny_mono go ?_)
  intro res s' hq
  cases res with
  | error er => exact hx pins σ H s er s' I hq
  | ok fl =>
    cases fl with
    | ret u => exact I.after hq
    | next => exact hq.elim
    | brk => exact hq.elim
    | cont => exact hq.elim
theorem u_callG {x : PySem.Str} {p pos : Pos} {e : Expr} {es : List Expr} {t : TA} (F : FnG X.prog X.w X.K X.mg X.base CX k f fd ps sp) (room : Room k X.A) (quiet : X.A.guards = some [])
    (hg : Gl X x) (hm : X.mg x = some (.ref f)) (hk : PySem.W.keepIn X.K (.ref f) = true) (hb : Binds X.K fd ps ds) (hd : Vals dvs ds) (hx : Passes CX X E) (ha : PA X (e :: es) t)
    (hdb : (x == ("__debug__" : PySem.Str)) = false := by decide) (he : starEach (e :: es) X.env = (false, eval e X.env) :: starEach es X.env := by rfl)
    (hpl : (backTo pos (starEach es X.env)).any (·.1) = false := by rfl) : PE X (.Call (.Name x p) (e :: es) [] pos) (tCall sp dvs E t) := by
  constructor
  intro pins s σ H Q I h
  refine wpAny_Call_Name_kw (ld_glob I hg hm ?_ hdb)
  have args := ha.run pos pins s σ H _ I h
  refine PySem.W.callWith_K (h₀ := X.base) I.ok.mod.kin hk (thn args ?_) he hpl
  rintro us s1 ⟨vs, H1, I1, r, q⟩
  exact ⟨I1.kIn, runG F room quiet hb hd hx I1 r q⟩
end

/-! ### the law's end -/
/-! ### repr -/
section
variable {X : Cx}
def rRepr (K : PySem.W.Frag) : List V → Hp → VK → Prop := fun xs H Q => ∃ x d, xs = [x] ∧ Dp K H x d ∧ d.showable = true ∧ d.hasDict = false ∧ d.depth ≤ 60 ∧ d.shown.length ≤ sizeLine ∧ Q (.str d.shown) H
theorem c_repr (quiet : X.A.guards = some []) (hu : X.A.units + 64 < cLine) : CallR X (.builtin "repr") (rRepr X.K) := by
  intro pins s σ H xs us Q I r h
  obtain ⟨x, d, rfl, hd, sh, nd, dp, sz, q⟩ := h
  obtain ⟨u, rfl, rx⟩ := vals1 r
  cases hd with
  | non =>
    cases rx
    exact PySem.P.repr_of_none ⟨.str _, H, I.tok _, ⟨_, rfl⟩, q⟩
  | bl b =>
    cases rx
    exact PySem.P.repr_of_bool ⟨.str _, H, I.tok _, ⟨_, rfl⟩, q⟩
  | int i =>
    obtain ⟨t, rfl⟩ := rx
    exact PySem.P.repr_of_int (by simpa [PyData.showable] using sh) ⟨.str _, H, I.tok _, ⟨_, rfl⟩, q⟩
  | str y =>
    obtain ⟨t, rfl⟩ := rx
    exact PySem.P.repr_of_str ⟨.str _, H, I.tok _, ⟨_, rfl⟩, q⟩ sz
  | @lst a xs ds h1 h2 =>
    cases rx
    obtain ⟨as, rd⟩ := Dp.reads I _ _ _ (Dp.lst h1 h2) (show RelV (.ref a) (.ref a) from rfl)
    exact repr_of_reads' rd sh (PyData.noDict_hsm nd) quiet (by omega) (fun _ _ e => e) (fun h' u tk hk => ⟨.str _, H, I.kept hk, ⟨_, rfl⟩, q⟩) sz
  | @tup a xs ds h1 h2 =>
    cases rx
    obtain ⟨as, rd⟩ := Dp.reads I _ _ _ (Dp.tup h1 h2) (show RelV (.ref a) (.ref a) from rfl)
    exact repr_of_reads' rd sh (PyData.noDict_hsm nd) quiet (by omega) (fun _ _ e => e) (fun h' u tk hk => ⟨.str _, H, I.kept hk, ⟨_, rfl⟩, q⟩) sz
end
end Ech

namespace Ech
open PySem PySem.Spec PyProof.Rows L2

/-! ### tests -/
def boolOf (z : V) (H : Hp) (Q : Bool → Hp → Prop) : Prop := match z with
  | .bl k => Q k H
  | _ => False
theorem boolOf_to {z : V} {H : Hp} {Q : Bool → Hp → Prop} (h : boolOf z H Q) : ∃ k, z = .bl k ∧ Q k H := by
  cases z with
  | bl k => exact ⟨k, rfl, h⟩
  | _ => exact h.elim
def uTest (t : TE) : TT := fun σ H Q => t σ H fun z H1 => boolOf z H1 Q
def truOf (K : PySem.W.Frag) (x : V) (H : Hp) (Q : Bool → Hp → Prop) : Prop := match x with
  | .bl b => Q b H
  | .non => Q false H
  | .int i => Q (i != 0) H
  | .str y => y.length ≤ sizeLine ∧ Q ((y.length : Int) != 0) H
  | x => ∃ k, TruV K x H k ∧ Q k H
def uTru (K : PySem.W.Frag) (t : TE) : TT := fun σ H Q => t σ H fun z H1 => truOf K z H1 Q
theorem truOf_to {K : PySem.W.Frag} {x : V} {H : Hp} {Q : Bool → Hp → Prop} (h : truOf K x H Q) : ∃ k, TruV K x H k ∧ Q k H := by
  cases x with
  | bl b => exact ⟨b, rfl, h⟩
  | non => exact ⟨false, rfl, h⟩
  | int i => exact ⟨_, rfl, h⟩
  | str y => exact ⟨_, ⟨h.1, rfl⟩, h.2⟩
  | _ => exact h
def uChain (r r' : R2) (ta tb tc : TE) : TE := fun σ H Q => ta σ H fun x H1 => tb σ H1 fun y H2 => r x y H2 fun z H3 => boolOf z H3 fun k H4 => bite k (tc σ H4 fun w H5 => r' y w H5 Q) (Q (.bl false) H4)
def uAnd (t u : TT) : TT := fun σ H Q => t σ H fun c H1 => bite c (u σ H1 Q) (Q false H1)
def uOr (t u : TT) : TT := fun σ H Q => t σ H fun c H1 => bite c (Q true H1) (u σ H1 Q)
def uAndV (ta tb : TE) : TE := fun σ H Q => ta σ H fun x H1 => boolOf x H1 fun c H2 => bite c (tb σ H2 Q) (Q (.bl false) H2)
def uOrV (ta tb : TE) : TE := fun σ H Q => ta σ H fun x H1 => boolOf x H1 fun c H2 => bite c (Q (.bl true) H2) (tb σ H2 Q)
def uNotV (ta : TE) : TE := fun σ H Q => ta σ H fun x H1 => boolOf x H1 fun c H2 => Q (.bl (!c)) H2
def uIf (t : TT) (ta tb : TE) : TE := fun σ H Q => t σ H fun c H1 => bite c (ta σ H1 Q) (tb σ H1 Q)
def uIfS (c : TT) (t u : TS) : TS := fun D σ H => c σ H fun b H1 => bite b (t D σ H1) (u D σ H1)
def uWhile (c : TT) (tb : TS) : TS := fun D σ H => ∃ W : Nat → L2.St → Hp → Prop, (∃ m, W m σ H) ∧ ∀ m σ H, W m σ H →
  c σ H fun b H1 => bite b (tb { D with nx := fun σ' H' => ∃ m', m' < m ∧ W m' σ' H', ct := fun σ' H' => ∃ m', m' < m ∧ W m' σ' H', bk := D.nx } σ H1) (D.nx σ H1)

/-! readings grow with what is wanted -/
section
variable {X : Cx} {a b c e : Expr} {ta tb tc : TE} {tA tB' : TT} {rest : List Expr} {pos : Pos}
theorem u_cmpT {op : CmpOp} {r : R2} (ho : OpR X (compareOp op) r) (ha : PE X a ta) (hb : PE X b tb) (hm : behindInMarks op b = false) : PT X (.Compare a [op] [b] pos) (uTest (tOp r ta tb)) := by
  constructor
  intro pins s σ H Q I h
  have k : ∀ (pins' : List (Addr × Obj)) (s' : Shared) (H' : Hp) (x y : V) (v u : Value), Inv X pins' σ H' s' → RelV x v → RelV y u → r x y H' (fun z H1 => boolOf z H1 Q) →
      wpAny (model X.prog X.w) X.A (compareOp op v u) (EP X pins' σ fun z H1 => ∃ k, z = .bl k ∧ Q k H1) X.xe s' := fun pins' s' H' x y v u I' rx ry q =>
    thn (ho pins' s' σ H' x y v u _ I' rx ry q) fun w s2 ⟨z, H2, I2, r2, q2⟩ => ⟨z, H2, I2, r2, boolOf_to q2⟩
  refine wpAny_isTrue_Compare1 (thn (ha.run pins s σ H _ I h) fun v s1 ⟨x, H1, I1, r1, q1⟩ => thn (hb.run pins s1 σ H1 _ I1 q1) fun u s2 ⟨y, H2, I2, r2, q2⟩ =>
    thn (k pins s2 H2 x y v u I2 r1 r2 q2) fun w s3 ⟨z, H3, I3, r3, kk, e3, q3⟩ => ?_) hm
  subst e3
  cases r3
  exact wpAny_truthy_bool ⟨H3, I3, q3⟩
theorem u_cmp {op : CmpOp} {r : R2} (ho : OpR X (compareOp op) r) (ha : PE X a ta) (hb : PE X b tb) (hm : behindInMarks op b = false) : PE X (.Compare a [op] [b] pos) (tOp r ta tb) := pe_cmpR ho ha hb hm
theorem u_tru (h : PE X e ta) (he : ∀ whole, isTrue e X.env whole = (do let v ← whole; standAt e.pos; holding [v] (truthy v)) := by intro _; rfl) : PT X e (uTru X.K ta) := by
  constructor
  intro pins s σ H Q I hw
  refine isTrue_plain (thn (h.run pins s σ H _ I hw) fun v s1 ⟨x, H1, I1, r1, q1⟩ => ?_) (he _)
  exact tru_ok pins s1 σ H1 x v Q I1 r1 (truOf_to q1)
theorem u_and1 (ha : PT X a tA) : PW X (.BoolOp .And [a] pos) tA := pw_and1 ha
theorem u_or1 (ha : PT X a tA) : PW X (.BoolOp .Or [a] pos) tA := pw_or1 ha
theorem u_andT (ha : PT X a tA) (hb : PW X (.BoolOp .And (b :: rest) pos) tB') : PW X (.BoolOp .And (a :: b :: rest) pos) (uAnd tA tB') := by
  constructor
  intro wh pins s σ H Q I h
  refine isTrue_and (thn (ha.run pins s σ H _ I h) fun c s1 ⟨H1, I1, q1⟩ => ?_)
  cases c with
  | true => exact hb.run wh pins s1 σ H1 Q I1 q1
  | false => exact ⟨H1, I1, q1⟩
theorem u_orT (ha : PT X a tA) (hb : PW X (.BoolOp .Or (b :: rest) pos) tB') : PW X (.BoolOp .Or (a :: b :: rest) pos) (uOr tA tB') := by
  constructor
  intro wh pins s σ H Q I h
  refine isTrue_or (thn (ha.run pins s σ H _ I h) fun c s1 ⟨H1, I1, q1⟩ => ?_)
  cases c with
  | true => exact ⟨H1, I1, q1⟩
  | false => exact hb.run wh pins s1 σ H1 Q I1 q1
theorem u_and (ha : PE X a ta) (hb : PE X (.BoolOp .And (b :: rest) pos) tb) : PE X (.BoolOp .And (a :: b :: rest) pos) (uAndV ta tb) := by
  constructor
  intro pins s σ H Q I h
  refine BoolOp_and (thn (ha.run pins s σ H _ I h) fun v s1 ⟨x, H1, I1, r1, q1⟩ => ?_)
  obtain ⟨c, rfl, q1⟩ := boolOf_to q1
  cases r1
  refine wpAny_truthy_bool ?_
  cases c with
  | true => exact hb.run pins s1 σ H1 Q I1 q1
  | false => exact ⟨.bl false, H1, I1, rfl, q1⟩
theorem u_or (ha : PE X a ta) (hb : PE X (.BoolOp .Or (b :: rest) pos) tb) : PE X (.BoolOp .Or (a :: b :: rest) pos) (uOrV ta tb) := by
  constructor
  intro pins s σ H Q I h
  refine BoolOp_or (thn (ha.run pins s σ H _ I h) fun v s1 ⟨x, H1, I1, r1, q1⟩ => ?_)
  obtain ⟨c, rfl, q1⟩ := boolOf_to q1
  cases r1
  refine wpAny_truthy_bool ?_
  cases c with
  | false => exact hb.run pins s1 σ H1 Q I1 q1
  | true => exact ⟨.bl true, H1, I1, rfl, q1⟩
theorem u_not (ha : PE X a ta) : PE X (.UnaryOp .Not a pos) (uNotV ta) := by
  constructor
  intro pins s σ H Q I h
  refine UnaryOp_ (thn (ha.run pins s σ H _ I h) fun v s1 ⟨x, H1, I1, r1, q1⟩ => ?_)
  obtain ⟨c, rfl, q1⟩ := boolOf_to q1
  cases r1
  exact not_of (wpAny_truthy_bool ⟨.bl (!c), H1, I1, rfl, q1⟩)
theorem u_ifExp (hc : PT X c tA) (ha : PE X a ta) (hb : PE X b tb) : PE X (.IfExp c a b pos) (uIf tA ta tb) := by
  constructor
  intro pins s σ H Q I h
  refine wpAny_IfExp (thn (hc.run pins s σ H _ I h) fun d s1 ⟨H1, I1, q1⟩ => ?_)
  cases d with
  | true => exact ha.run pins s1 σ H1 Q I1 q1
  | false => exact hb.run pins s1 σ H1 Q I1 q1
theorem u_if {p q : List Stmt} {t u : TS} (hc : PT X c tA) (ha : PSs X p t) (hb : PSs X q u) : PS X (.If c p q pos) (uIfS tA t u) := by
  constructor
  intro pins s σ H D I h
  refine wpAny_If (thn (hc.run pins s σ H _ I h) fun d s1 ⟨H1, I1, q1⟩ => ?_)
  cases d with
  | true => exact ha.run pins s1 σ H1 D I1 q1
  | false => exact hb.run pins s1 σ H1 D I1 q1
theorem pt_in {t : TT} {Q Q' : Bool → Hp → Prop} (h : PT X e t) (i : ∀ v H', Q v H' → Q' v H') : ∀ pins s σ H, Inv X pins σ H s → t σ H Q → wpAny (model X.prog X.w) X.A (isTrue e X.env (eval e X.env)) (TP X pins σ Q') X.xe s :=
  fun pins s σ H I q => thn (h.run pins s σ H Q I q) fun _ _ ⟨H1, I1, q1⟩ => ⟨H1, I1, i _ _ q1⟩
end

/-! ### displays -/
def uTup (t : TA) : TE := fun σ H Q => t σ H fun xs H1 => xs.length ≤ sizeLine ∧ ∀ p H2, New H1 p (.tup xs) H2 → Q (.ref p) H2
def uLst (t : TA) : TE := fun σ H Q => t σ H fun xs H1 => xs.length ≤ sizeLine ∧ ∀ p H2, New H1 p (.lst xs) H2 → Q (.ref p) H2
section
variable {X : Cx} {es : List Expr} {t : TA} {pos : Pos}
def clA (t : TA) : TA := fun σ H Q => ∃ R : List V → Hp → Prop, t σ H R ∧ ∀ v H', R v H' → Q v H'
def clE (t : TE) : TE := fun σ H Q => ∃ R : VK, t σ H R ∧ ∀ v H', R v H' → Q v H'
theorem pa_cl (h : PA X es t) : PA X es (clA t) := ⟨fun p pins s σ H Q I ⟨R, q, i⟩ => thn (h.run p pins s σ H R I q) fun _ _ ⟨vs, H1, I1, r1, q1⟩ => ⟨vs, H1, I1, r1, i _ _ q1⟩⟩
theorem pe_cl {e : Expr} {te : TE} (h : PE X e te) : PE X e (clE te) := ⟨fun pins s σ H Q I ⟨R, q, i⟩ => thn (h.run pins s σ H R I q) fun _ _ ⟨v, H1, I1, r1, q1⟩ => ⟨v, H1, I1, r1, i _ _ q1⟩⟩
theorem u_tup {x1} (h : PA X es t) : PE X (.Tuple es x1 pos) (uTup t) :=
  pe_wk (pe_tup (pa_cl h)) fun σ H Q q => ⟨_, q, fun xs H1 q1 => ⟨q1.1, fun p hp => q1.2 p _ ⟨hp, rfl⟩⟩⟩
theorem u_lst (h : PA X es t) : PE X (.List es pos) (uLst t) :=
  pe_wk (pe_lst (pa_cl h)) fun σ H Q q => ⟨_, q, fun xs H1 q1 => ⟨q1.1, fun p hp => q1.2 p _ ⟨hp, rfl⟩⟩⟩
end
end Ech

namespace Ech
open PySem PySem.W PySem.Calls PyProof.Rows
open PySem (Draws)

theorem loop_list {α β : Type} {M : Model} {A : Around} {body : α → β → Sem (ForInStep β)} {Q : β → Shared → Prop} {E : Value → Shared → Prop} (I : List α → β → Shared → Prop)
    (step : ∀ x rest b s, I (x :: rest) b s → wpAny M A (body x b) (fun r s' => match r with | .yield b' => I rest b' s' | .done b' => Q b' s') E s)
    (fin : ∀ b s, I [] b s → Q b s) : ∀ (l : List α) (b : β) (s : Shared), I l b s → wpAny M A (forIn l b body) Q E s
  | [], b, s, h => by
    simp only [List.forIn_nil]
    exact wpAny_pure (fin b s h)
  | x :: l, b, s, h => by
    simp only [List.forIn_cons]
    refine wpAny_bind (wpAny_mono (step x l b s h) (fun r s' q => ?_) (fun _ _ z => z))
    cases r with
    | done b' => exact wpAny_pure q
    | yield b' => exact loop_list I step fin l b' s' q

structure Src (prog : Program) (w : World) (A : Around) where
  it : Addr
  fp : List Addr
  n : Nat
  P : Nat → Value → Prop
  St : Nat → Heap → Prop
  D : Draws prog w A it fp n P St

def ZipF (h : Heap) (z : Addr) (f0 f1 : Value) (TI TO : Addr) : Prop := h.get? z = some { cls := .type "zip", dict := none, data := .fields #[f0, f1, .bool false, .ref TI, .ref TO], slots := #[] }
def TupF (h : Heap) (t : Addr) (vs : List Value) : Prop := h.get? t = some { cls := .type "tuple", data := .seq vs.toArray }

structure SepZ {prog : Program} {w : World} {A : Around} (ss : List (Src prog w A)) (z TI TO : Addr) : Prop where
  TIz : TI ≠ z
  TOz : TO ≠ z
  TITO : TI ≠ TO
  mem : ∀ s ∈ ss, s.it ∈ s.fp
  zf : ∀ s ∈ ss, z ∉ s.fp
  If : ∀ s ∈ ss, TI ∉ s.fp
  Of : ∀ s ∈ ss, TO ∉ s.fp
  pw : ss.Pairwise fun a b => a.it ∉ b.fp ∧ b.it ∉ a.fp

section
variable {prog : Program} {w : World} {A : Around} {E : Value → Shared → Prop} {s : Shared} {ss : List (Src prog w A)} {z TI TO : Addr} {i : Nat}

theorem Src.keep (a : Src prog w A) {i : Nat} {h h' : Heap} {x : Addr} (st : a.St i h) (hs : Heap.SameBut x h h') (hx : x ∉ a.fp) : a.St i h' :=
  a.D.frame i h h' st fun b hb o e => hs.extBut b o (fun q => hx (q ▸ hb)) e

theorem paired_snoc {α β : Type} {F : α → β → Prop} : ∀ {xs : List α} {ys : List β} {x : α} {y : β}, Paired F xs ys → F x y → Paired F (xs ++ [x]) (ys ++ [y])
  | _, _, _, _, .nil, h => .cons h .nil
  | _, _, _, _, .cons r t, h => .cons r (paired_snoc t h)

theorem zip_held {T : Addr} {f : Bool} {oT : Obj} {Q : Value → Shared → Prop} (S : SepZ ss z TI TO) (ne : ss ≠ []) (hz : ZipF s.heap z (rawInt T) (.bool f) TI TO) (hT : s.heap.get? T = some oT)
    (hTI : TupF s.heap TI (ss.map fun a => .ref a.it)) (st : ∀ a ∈ ss, a.St i s.heap) (lt : ∀ a ∈ ss, i < a.n) (small : ss.length ≤ sizeLine)
    (hQ : ∀ xs h' tk, Paired (fun (a : Src prog w A) x => a.P i x) ss xs → ZipF h' z (rawInt T) (.bool true) TI TO → (∀ a ∈ ss, a.St (i + 1) h') → TupF h' s.heap.objs.size xs → h'.objs.size = s.heap.objs.size + 1 →
      (∀ c o, c ≠ z → (∀ a ∈ ss, c ≠ a.it) → s.heap.get? c = some o → h'.get? c = some o) → Q (.ref s.heap.objs.size) { s with heap := h', toks := tk }) :
    wpAny (model prog w) A (Builtin.«zip.__next__» ⟨[.ref z], []⟩) (fun fin s' => ∃ v, fin = .done (.ret v) ∧ Q v s') E s := by
  obtain ⟨hp, g, d, tk0, os⟩ := s
  show wpAny _ _ (field (.ref z) 2 >>= _) _ _ _
  refine wpAny_bind (wpAny_field hz rfl (x := .bool false) rfl ?_)
  show wpAny _ _ (field (.ref z) 3 >>= _) _ _ _
  refine wpAny_bind (wpAny_field hz rfl (x := .ref TI) rfl ?_)
  refine wpAny_bind (wpAny_seqItems hTI rfl ?_)
  have hne : ((ss.map fun a => Value.ref a.it).toArray.isEmpty) = false := by
    cases ss with
    | nil => exact absurd rfl ne
    | cons a r => rfl
  dsimp only
  rw [hne]
  simp only [Bool.false_eq_true, if_false]
  refine wpAny_bind (wpAny_tupleHeld_zip hz hT fun h1 hz1 hs1 => ?_)
  simp only [Bool.false_eq_true, if_false]
  refine wpAny_bind ?_
  rw [← Array.forIn_toList]
  have hs1' : Heap.SameBut z hp h1 := hs1
  refine loop_list (fun l b s' => ∃ (ts us : List (Src prog w A)) (xs : List Value) (h' : Heap) (tk' : Nat), ss = ts ++ us ∧ l = us.map (fun a => Value.ref a.it) ∧ b = (none, xs.toArray) ∧ s' = ⟨h', g, d, tk', os⟩ ∧
      Paired (fun (a : Src prog w A) x => a.P i x) ts xs ∧ ZipF h' z (rawInt T) (.bool true) TI TO ∧ (∀ a ∈ ts, a.St (i + 1) h') ∧ (∀ a ∈ us, a.St i h') ∧ h'.objs.size = hp.objs.size ∧
      (∀ c o, c ≠ z → (∀ a ∈ ss, c ≠ a.it) → hp.get? c = some o → h'.get? c = some o)) ?_ ?_ _ _ _ ?_
  · rintro x rest b s' ⟨ts, us, xs, h', tk', e1, e2, rfl, rfl, pr, hz', st1, st2, sz, kp⟩
    cases us with
    | nil => cases e2
    | cons a us =>
      have ex : x = .ref a.it := (List.cons.inj e2).1
      have er : rest = us.map (fun a => Value.ref a.it) := (List.cons.inj e2).2
      subst ex
      have am : a ∈ ss := by rw [e1]; simp
      refine wpAny_bind (wpAny_holding ?_)
      show wpAny _ _ (Builtin.SmallTypes.nextOf (.ref a.it) >>= _) _ _ _
      refine wpAny_bind (a.D.item i _ _ _ (lt a am) (st2 a List.mem_cons_self) fun x h2 tk2 px stn hs2 => wpAny_pure ?_)
      have hs2' : Heap.SameBut a.it h' h2 := hs2
      have pw := S.pw
      rw [e1] at pw
      have pw2 := List.pairwise_append.mp pw
      refine wpAny_pure ⟨ts ++ [a], us, xs ++ [x], h2, tk2, by rw [e1]; simp, er, by simp, rfl, paired_snoc pr px, hs2'.extBut _ _ (fun q => S.zf a am (q ▸ S.mem a am)) hz', ?_, ?_, by rw [hs2'.1, sz], ?_⟩
      · intro b hb
        rcases List.mem_append.mp hb with hb | hb
        · exact b.keep (st1 b hb) hs2' (pw2.2.2 b hb a List.mem_cons_self).2
        · rw [List.mem_singleton.mp hb]
          exact stn
      · intro b hb
        exact b.keep (st2 b (List.mem_cons_of_mem _ hb)) hs2' ((List.pairwise_cons.mp pw2.2.1).1 b hb).1
      · intro c o hc hs e
        exact hs2'.extBut _ _ (hs a am) (kp c o hc hs e)
  · rintro b s' ⟨ts, us, xs, h', tk', e1, e2, rfl, rfl, pr, hz', st1, st2, sz, kp⟩
    cases us with
    | cons a us => cases e2
    | nil =>
      rw [List.append_nil] at e1
      subst e1
      have lx : xs.length = ss.length := (Paired.length pr).symm
      refine wpAny_bind (wpAny_newTuple ?_ (by simpa [lx] using small))
      refine wpAny_pure ⟨_, rfl, ?_⟩
      show Q (.ref h'.objs.size) _
      have hp2 : TupF (h'.push { cls := .type "tuple", data := .seq xs.toArray }) h'.objs.size xs := Heap.get?_push_size _ rfl
      have sz2 : (h'.push { cls := .type "tuple", data := .seq xs.toArray }).objs.size = h'.objs.size + 1 := Heap.size_push ..
      rw [sz] at hp2 sz2 ⊢
      exact hQ xs _ tk' pr (Heap.get?_push_of_some _ hz') (fun a ha => a.D.frame _ _ _ (st1 a ha) fun b _ o e => Heap.get?_push_of_some _ e) hp2 sz2 (fun c o hc hs e => Heap.get?_push_of_some _ (kp c o hc hs e))
  · exact ⟨[], ss, [], h1, tk0, rfl, by simp, rfl, rfl, .nil, hz1, fun _ h => absurd h List.not_mem_nil, fun a ha => a.keep (st a ha) hs1' (S.zf a ha), hs1'.1, fun c o hc _ e => hs1'.extBut _ _ hc e⟩
theorem zip_held_end {T : Addr} {f : Bool} {oT : Obj} {Q : Fin → Shared → Prop} (S : SepZ ss z TI TO) (ne : ss ≠ []) (hz : ZipF s.heap z (rawInt T) (.bool f) TI TO) (hT : s.heap.get? T = some oT)
    (hTI : TupF s.heap TI (ss.map fun a => .ref a.it)) (st : ∀ a ∈ ss, a.St i s.heap) (le : ∀ a ∈ ss, i ≤ a.n) (some_end : ∃ a ∈ ss, i = a.n)
    (hE : ∀ h' tk e, (∀ c o, c ≠ z → (∀ a ∈ ss, c ≠ a.it) → s.heap.get? c = some o → h'.get? c = some o) → (∃ o, h'.get? e = some o ∧ o.cls = .type "StopIteration") → E (.ref e) { s with heap := h', toks := tk }) :
    wpAny (model prog w) A (Builtin.«zip.__next__» ⟨[.ref z], []⟩) Q E s := by
  obtain ⟨hp, g, d, tk0, os⟩ := s
  show wpAny _ _ (field (.ref z) 2 >>= _) _ _ _
  refine wpAny_bind (wpAny_field hz rfl (x := .bool false) rfl ?_)
  show wpAny _ _ (field (.ref z) 3 >>= _) _ _ _
  refine wpAny_bind (wpAny_field hz rfl (x := .ref TI) rfl ?_)
  refine wpAny_bind (wpAny_seqItems hTI rfl ?_)
  have hne : ((ss.map fun a => Value.ref a.it).toArray.isEmpty) = false := by
    cases ss with
    | nil => exact absurd rfl ne
    | cons a r => rfl
  dsimp only
  rw [hne]
  simp only [Bool.false_eq_true, if_false]
  refine wpAny_bind (wpAny_tupleHeld_zip hz hT fun h1 hz1 hs1 => ?_)
  simp only [Bool.false_eq_true, if_false]
  refine wpAny_bind ?_
  rw [← Array.forIn_toList]
  have hs1' : Heap.SameBut z hp h1 := hs1
  refine loop_list (fun l b s' => ∃ (ts us : List (Src prog w A)) (h' : Heap) (tk' : Nat), ss = ts ++ us ∧ l = us.map (fun a => Value.ref a.it) ∧ s' = ⟨h', g, d, tk', os⟩ ∧
      (∀ a ∈ us, a.St i h') ∧ (∃ a ∈ us, i = a.n) ∧
      (∀ c o, c ≠ z → (∀ a ∈ ss, c ≠ a.it) → hp.get? c = some o → h'.get? c = some o)) ?_ ?_ _ _ _ ?_
  · rintro x rest b s' ⟨ts, us, h', tk', e1, e2, rfl, st2, se, kp⟩
    cases us with
    | nil => cases e2
    | cons a us =>
      have ex : x = .ref a.it := (List.cons.inj e2).1
      have er : rest = us.map (fun a => Value.ref a.it) := (List.cons.inj e2).2
      subst ex
      have am : a ∈ ss := by rw [e1]; simp
      have pw := S.pw
      rw [e1] at pw
      have pw2 := List.pairwise_append.mp pw
      refine wpAny_bind (wpAny_holding ?_)
      show wpAny _ _ (Builtin.SmallTypes.nextOf (.ref a.it) >>= _) _ _ _
      by_cases hi : i = a.n
      · refine wpAny_bind (a.D.done _ _ _ (by rw [← hi]; exact st2 a List.mem_cons_self) fun h2 e hs2 he => ?_)
        exact hE h2 tk' e (fun c o hc hs q => hs2 _ _ (hs a am) (kp c o hc hs q)) he
      · have lt : i < a.n := Nat.lt_of_le_of_ne (le a am) hi
        refine wpAny_bind (a.D.item i _ _ _ lt (st2 a List.mem_cons_self) fun x h2 tk2 px stn hs2 => wpAny_pure ?_)
        have hs2' : Heap.SameBut a.it h' h2 := hs2
        refine wpAny_pure ⟨ts ++ [a], us, h2, tk2, by rw [e1]; simp, er, rfl, ?_, ?_, ?_⟩
        · intro b hb
          exact b.keep (st2 b (List.mem_cons_of_mem _ hb)) hs2' ((List.pairwise_cons.mp pw2.2.1).1 b hb).1
        · obtain ⟨b, hb, q⟩ := se
          rcases List.mem_cons.mp hb with hb | hb
          · subst hb
            exact absurd q hi
          · exact ⟨b, hb, q⟩
        · intro c o hc hs e
          exact hs2'.extBut _ _ (hs a am) (kp c o hc hs e)
  · rintro b s' ⟨ts, us, h', tk', e1, e2, rfl, st2, ⟨a, ha, _⟩, kp⟩
    cases us with
    | cons a us => cases e2
    | nil => cases ha
  · exact ⟨[], ss, h1, tk0, rfl, by simp, rfl, fun a ha => a.keep (st a ha) hs1' (S.zf a ha), some_end, fun c o hc _ e => hs1'.extBut _ _ hc e⟩

theorem TupF.upd {t : Addr} {vs : List Value} {k : Nat} {x : Value} {Q : Unit → Shared → Prop} (hT : TupF s.heap t vs) (hz : vs.length ≤ sizeLine)
    (h : ∀ h', TupF h' t (vs.set k x) → Heap.SameBut t s.heap h' → Q () { s with heap := h' }) : wpAny (model prog w) A (updateSeq t (·.setIfInBounds k x)) Q E s := by
  refine wpAny_updateSeq hT rfl (h _ ?_ (Heap.SameBut.update ..)) (by simp; omega) (by simp; omega)
  unfold TupF
  rw [Heap.get?_update_self _ hT rfl]
  simp [Obj.mapSeq]

theorem dead_alive {a : Addr} {Q : Option Obj → Shared → Prop} (ho : s.heap.get? a = none) (h : Q none s) : wpAny (model prog w) A (loadIfAlive a) Q E s := by
  have h' : Q (s.heap.get? a) s := by rw [ho]; exact h
  exact fun _ _ _ => h'
def Freed (h : Heap) (f0 : Value) : Prop := f0 = .none ∨ ∃ T : Addr, f0 = rawInt T ∧ h.get? T = none
theorem owned_free {f0 f1 : Value} {Q : Bool → Shared → Prop} (hz : ZipF s.heap z f0 f1 TI TO) (hf : Freed s.heap f0) (h : Q true s) : wpAny (model prog w) A (Builtin.SmallTypes.ownedTupleIsFree (.ref z)) Q E s := by
  unfold Builtin.SmallTypes.ownedTupleIsFree
  rcases hf with rfl | ⟨T, rfl, hT⟩
  · exact wpAny_bind (wpAny_field hz rfl (x := .none) rfl (wpAny_pure h))
  · refine wpAny_bind (wpAny_field hz rfl (x := rawInt T) rfl ?_)
    show wpAny _ _ (loadIfAlive ((T : Int).toNat) >>= _) _ _ _
    rw [Int.toNat_natCast]
    refine wpAny_bind (dead_alive hT ?_)
    simp only [Option.isNone_none, if_true]
    exact wpAny_pure h
theorem zip_free {Q : Value → Shared → Prop} {nn : List Value} {f0 f1 : Value} (S : SepZ ss z TI TO) (ne : ss ≠ []) (hz : ZipF s.heap z f0 f1 TI TO) (hf : Freed s.heap f0)
    (hTI : TupF s.heap TI (ss.map fun a => .ref a.it)) (hTO : TupF s.heap TO nn) (hnn : nn.length = ss.length) (st : ∀ a ∈ ss, a.St i s.heap) (lt : ∀ a ∈ ss, i < a.n) (small : ss.length ≤ sizeLine)
    (hQ : ∀ xs h' tk, Paired (fun (a : Src prog w A) x => a.P i x) ss xs → ZipF h' z (rawInt s.heap.objs.size) (.bool false) TI TO → (∀ a ∈ ss, a.St (i + 1) h') → TupF h' s.heap.objs.size xs → TupF h' TO xs → h'.objs.size = s.heap.objs.size + 1 →
      (∀ c o, c ≠ z → c ≠ TO → (∀ a ∈ ss, c ≠ a.it) → s.heap.get? c = some o → h'.get? c = some o) → Q (.ref s.heap.objs.size) { s with heap := h', toks := tk }) :
    wpAny (model prog w) A (Builtin.«zip.__next__» ⟨[.ref z], []⟩) (fun fin s' => ∃ v, fin = .done (.ret v) ∧ Q v s') E s := by
  obtain ⟨hp, g, d, tk0, os⟩ := s
  show wpAny _ _ (field (.ref z) 2 >>= _) _ _ _
  refine wpAny_bind (wpAny_field hz rfl (x := .bool false) rfl ?_)
  show wpAny _ _ (field (.ref z) 3 >>= _) _ _ _
  refine wpAny_bind (wpAny_field hz rfl (x := .ref TI) rfl ?_)
  refine wpAny_bind (wpAny_seqItems hTI rfl ?_)
  have hne : ((ss.map fun a => Value.ref a.it).toArray.isEmpty) = false := by
    cases ss with
    | nil => exact absurd rfl ne
    | cons a r => rfl
  dsimp only
  rw [hne]
  simp only [Bool.false_eq_true, if_false]
  refine wpAny_bind ?_
  refine owned_free hz hf ?_
  simp only [if_true]
  refine wpAny_bind (wpAny_rule ?_)
  refine wpAny_bind (wpAny_field hz rfl (x := .ref TO) rfl ?_)
  refine wpAny_bind (wpAny_setField_rec hz (by simp) fun g0 hz0 hs0 => ?_)
  replace hz0 : ZipF g0 z .ellipsis f1 TI TO := hz0
  replace hs0 : Heap.SameBut z hp g0 := hs0
  refine wpAny_bind ?_
  refine loop_list (fun l b s' => ∃ (ts us : List (Src prog w A)) (xs ys : List Value) (h' : Heap) (tk' : Nat), ss = ts ++ us ∧ l = (us.map (fun a => Value.ref a.it)).zipIdx ts.length ∧ b = (none, ()) ∧ s' = ⟨h', g, d, tk', os⟩ ∧
      Paired (fun (a : Src prog w A) x => a.P i x) ts xs ∧ ys.length = us.length ∧ TupF h' TO (xs ++ ys) ∧ ZipF h' z .ellipsis f1 TI TO ∧ (∀ a ∈ ts, a.St (i + 1) h') ∧ (∀ a ∈ us, a.St i h') ∧ h'.objs.size = hp.objs.size ∧
      (∀ c o, c ≠ z → c ≠ TO → (∀ a ∈ ss, c ≠ a.it) → hp.get? c = some o → h'.get? c = some o)) ?_ ?_ _ _ _ ?_
  · rintro x rest b s' ⟨ts, us, xs, ys, h', tk', e1, e2, rfl, rfl, pr, ly, hO, hz', st1, st2, sz, kp⟩
    cases us with
    | nil => cases e2
    | cons a us =>
      simp only [List.map_cons, List.zipIdx_cons] at e2
      have ex : x = (Value.ref a.it, ts.length) := (List.cons.inj e2).1
      have er := (List.cons.inj e2).2
      subst ex
      have am : a ∈ ss := by rw [e1]; simp
      have pw := S.pw
      rw [e1] at pw
      have pw2 := List.pairwise_append.mp pw
      have lx : xs.length = ts.length := (Paired.length pr).symm
      cases ys with
      | nil => cases ly
      | cons y ys =>
      refine wpAny_bind (wpAny_onRaise ?_)
      show wpAny _ _ (Builtin.SmallTypes.nextOf (.ref a.it) >>= _) _ _ _
      refine wpAny_bind (a.D.item i _ _ _ (lt a am) (st2 a List.mem_cons_self) fun x h2 tk2 px stn hs2 => wpAny_pure ?_)
      have hs2' : Heap.SameBut a.it h' h2 := hs2
      have TOi : TO ≠ a.it := fun q => S.Of a am (q ▸ S.mem a am)
      have zi : z ≠ a.it := fun q => S.zf a am (q ▸ S.mem a am)
      have hO2 : TupF h2 TO (xs ++ y :: ys) := hs2'.extBut _ _ TOi hO
      refine wpAny_bind (wpAny_seqItems (s := ⟨h2, g, d, tk2, os⟩) hO2 rfl ?_)
      have tot : (xs ++ y :: ys).length ≤ sizeLine := by
        have e3 := congrArg List.length e1
        simp only [List.length_append, List.length_cons] at e3 ly ⊢
        omega
      refine wpAny_bind (TupF.upd (s := ⟨h2, g, d, tk2, os⟩) hO2 tot fun h3 hO3 hs3 => ?_)
      have hs3' : Heap.SameBut TO h2 h3 := hs3
      have hset : (xs ++ y :: ys).set ts.length x = (xs ++ [x]) ++ ys := by
        rw [← lx, List.set_append_right _ _ (Nat.le_refl _)]
        simp
      rw [hset] at hO3
      refine wpAny_bind (wpAny_letGo (wpAny_pure ?_))
      refine ⟨ts ++ [a], us, xs ++ [x], ys, h3, tk2, by rw [e1]; simp, by rw [List.length_append]; exact er, rfl, rfl, paired_snoc pr px, by simpa using ly, hO3, hs3'.extBut _ _ (fun q => S.TOz q.symm) (hs2'.extBut _ _ zi hz'), ?_, ?_, by rw [hs3'.1, hs2'.1, sz], ?_⟩
      · intro b hb
        have hbs : b ∈ ss := by
          rw [e1]
          rcases List.mem_append.mp hb with hb | hb
          · exact List.mem_append_left _ hb
          · rw [List.mem_singleton.mp hb]; simp
        refine b.keep ?_ hs3' (S.Of b hbs)
        rcases List.mem_append.mp hb with hb | hb
        · exact b.keep (st1 b hb) hs2' (pw2.2.2 b hb a List.mem_cons_self).2
        · rw [List.mem_singleton.mp hb]
          exact stn
      · intro b hb
        have hbs : b ∈ ss := by rw [e1]; simp [hb]
        exact b.keep (b.keep (st2 b (List.mem_cons_of_mem _ hb)) hs2' ((List.pairwise_cons.mp pw2.2.1).1 b hb).1) hs3' (S.Of b hbs)
      · intro c o hc hcO hs e
        exact hs3'.extBut _ _ hcO (hs2'.extBut _ _ (hs a am) (kp c o hc hcO hs e))
  · rintro b s' ⟨ts, us, xs, ys, h', tk', e1, e2, rfl, rfl, pr, ly, hO, hz', st1, st2, sz, kp⟩
    cases us with
    | cons a us => simp at e2
    | nil =>
      rw [List.append_nil] at e1
      subst e1
      have hy : ys = [] := List.length_eq_zero_iff.mp ly
      subst hy
      rw [List.append_nil] at hO
      have lx : xs.length = ss.length := (Paired.length pr).symm
      refine wpAny_bind (wpAny_seqItems (s := ⟨h', g, d, tk', os⟩) hO rfl ?_)
      refine wpAny_bind (wpAny_newTuple ?_ (by simpa [lx] using small))
      have hzlt : z < h'.objs.size := Heap.lt_size hz'
      show wpAny _ _ (Builtin.SmallTypes.ownedTupleHandOut (.ref z) (.ref h'.objs.size) >>= _) _ _ ⟨h'.push { cls := .type "tuple", data := .seq xs.toArray }, g, d, tk', os⟩
      refine wpAny_bind ?_
      unfold Builtin.SmallTypes.ownedTupleHandOut
      have hz6 : ZipF (h'.push { cls := .type "tuple", data := .seq xs.toArray }) z .ellipsis f1 TI TO := Heap.get?_push_of_some _ hz'
      refine wpAny_bind (wpAny_setField_rec hz6 (by simp) fun h7 hz7 hs7 => ?_)
      replace hz7 : ZipF h7 z (rawInt h'.objs.size) f1 TI TO := hz7
      refine wpAny_setField_rec hz7 (by simp) fun h8 hz8 hs8 => ?_
      replace hz8 : ZipF h8 z (rawInt h'.objs.size) (.bool false) TI TO := hz8
      replace hs7 : Heap.SameBut z (h'.push { cls := .type "tuple", data := .seq xs.toArray }) h7 := hs7
      replace hs8 : Heap.SameBut z h7 h8 := hs8
      have up : ∀ c o, c ≠ z → h'.get? c = some o → h8.get? c = some o := fun c o c1 e => hs8.extBut _ _ c1 (hs7.extBut _ _ c1 (Heap.get?_push_of_some _ e))
      have hT8 : TupF h8 h'.objs.size xs := hs8.extBut _ _ (Nat.ne_of_gt hzlt) (hs7.extBut _ _ (Nat.ne_of_gt hzlt) (Heap.get?_push_size _ rfl))
      have s8 : h8.objs.size = h'.objs.size + 1 := by rw [hs8.1, hs7.1, Heap.size_push]
      refine wpAny_pure ⟨_, rfl, ?_⟩
      show Q (.ref h'.objs.size) ⟨h8, g, d, tk', os⟩
      rw [sz] at hz8 hT8 s8 ⊢
      exact hQ xs h8 tk' pr hz8 (fun a ha => a.D.frame _ _ _ (st1 a ha) fun b hb o e => up b o (fun q => S.zf a ha (q ▸ hb)) e) hT8 (up TO _ S.TOz hO) s8 (fun c o hc hcO hs e => up c o hc (kp c o hc hcO hs e))
  · exact ⟨[], ss, [], nn, g0, tk0, rfl, by simp, rfl, rfl, .nil, hnn, hs0.extBut _ _ S.TOz hTO, hz0, fun _ h => absurd h List.not_mem_nil, fun a ha => a.keep (st a ha) hs0 (S.zf a ha), hs0.1, fun c o hc _ _ e => hs0.extBut _ _ hc e⟩
theorem zip_free_end {Q : Fin → Shared → Prop} {nn : List Value} {f0 f1 : Value} (S : SepZ ss z TI TO) (ne : ss ≠ []) (hz : ZipF s.heap z f0 f1 TI TO) (hf : Freed s.heap f0)
    (hTI : TupF s.heap TI (ss.map fun a => .ref a.it)) (hTO : TupF s.heap TO nn) (hnn : nn.length = ss.length) (st : ∀ a ∈ ss, a.St i s.heap) (le : ∀ a ∈ ss, i ≤ a.n) (some_end : ∃ a ∈ ss, i = a.n) (small : ss.length ≤ sizeLine)
    (hE : ∀ h' tk e, (∀ c o, c ≠ z → c ≠ TO → (∀ a ∈ ss, c ≠ a.it) → s.heap.get? c = some o → h'.get? c = some o) → (∃ o, h'.get? e = some o ∧ o.cls = .type "StopIteration") → E (.ref e) { s with heap := h', toks := tk }) :
    wpAny (model prog w) A (Builtin.«zip.__next__» ⟨[.ref z], []⟩) Q E s := by
  obtain ⟨hp, g, d, tk0, os⟩ := s
  show wpAny _ _ (field (.ref z) 2 >>= _) _ _ _
  refine wpAny_bind (wpAny_field hz rfl (x := .bool false) rfl ?_)
  show wpAny _ _ (field (.ref z) 3 >>= _) _ _ _
  refine wpAny_bind (wpAny_field hz rfl (x := .ref TI) rfl ?_)
  refine wpAny_bind (wpAny_seqItems hTI rfl ?_)
  have hne : ((ss.map fun a => Value.ref a.it).toArray.isEmpty) = false := by
    cases ss with
    | nil => exact absurd rfl ne
    | cons a r => rfl
  dsimp only
  rw [hne]
  simp only [Bool.false_eq_true, if_false]
  refine wpAny_bind ?_
  refine owned_free hz hf ?_
  simp only [if_true]
  refine wpAny_bind (wpAny_rule ?_)
  refine wpAny_bind (wpAny_field hz rfl (x := .ref TO) rfl ?_)
  refine wpAny_bind (wpAny_setField_rec hz (by simp) fun g0 hz0 hs0 => ?_)
  replace hz0 : ZipF g0 z .ellipsis f1 TI TO := hz0
  replace hs0 : Heap.SameBut z hp g0 := hs0
  refine wpAny_bind ?_
  refine loop_list (fun l b s' => ∃ (ts us : List (Src prog w A)) (ys : List Value) (h' : Heap) (tk' : Nat), ss = ts ++ us ∧ l = (us.map (fun a => Value.ref a.it)).zipIdx ts.length ∧ s' = ⟨h', g, d, tk', os⟩ ∧
      ys.length = ss.length ∧ TupF h' TO ys ∧ ZipF h' z .ellipsis f1 TI TO ∧ (∀ a ∈ us, a.St i h') ∧ (∃ a ∈ us, i = a.n) ∧
      (∀ c o, c ≠ z → c ≠ TO → (∀ a ∈ ss, c ≠ a.it) → hp.get? c = some o → h'.get? c = some o)) ?_ ?_ _ _ _ ?_
  · rintro x rest b s' ⟨ts, us, ys, h', tk', e1, e2, rfl, ly, hO, hz', st2, se, kp⟩
    cases us with
    | nil => cases e2
    | cons a us =>
      simp only [List.map_cons, List.zipIdx_cons] at e2
      have ex : x = (Value.ref a.it, ts.length) := (List.cons.inj e2).1
      have er := (List.cons.inj e2).2
      subst ex
      have am : a ∈ ss := by rw [e1]; simp
      have pw := S.pw
      rw [e1] at pw
      have pw2 := List.pairwise_append.mp pw
      have TOi : TO ≠ a.it := fun q => S.Of a am (q ▸ S.mem a am)
      have zi : z ≠ a.it := fun q => S.zf a am (q ▸ S.mem a am)
      refine wpAny_bind (wpAny_onRaise ?_)
      show wpAny _ _ (Builtin.SmallTypes.nextOf (.ref a.it) >>= _) _ _ _
      by_cases hi : i = a.n
      · refine wpAny_bind (a.D.done _ _ _ (by rw [← hi]; exact st2 a List.mem_cons_self) fun h2 e hs2 he => ?_)
        have hz2 : ZipF h2 z .ellipsis f1 TI TO := hs2 _ _ zi hz'
        refine wpAny_setField_rec (s := ⟨h2, g, d, tk', os⟩) hz2 (by simp) fun h3 hz3 hs3 => ?_
        replace hs3 : Heap.SameBut z h2 h3 := hs3
        obtain ⟨oe, ho, hc⟩ := he
        refine hE h3 tk' e (fun c o hc hcO hs q => hs3.extBut _ _ hc (hs2 _ _ (hs a am) (kp c o hc hcO hs q))) ⟨oe, hs3.extBut _ _ ?_ ho, hc⟩
        intro q
        rw [q, hz2] at ho
        cases ho
        have hc2 : Value.type "zip" = Value.type "StopIteration" := hc
        exact absurd hc2 (by decide)
      · have lt : i < a.n := Nat.lt_of_le_of_ne (le a am) hi
        refine wpAny_bind (a.D.item i _ _ _ lt (st2 a List.mem_cons_self) fun x h2 tk2 px stn hs2 => wpAny_pure ?_)
        have hs2' : Heap.SameBut a.it h' h2 := hs2
        have hO2 : TupF h2 TO ys := hs2'.extBut _ _ TOi hO
        refine wpAny_bind (wpAny_seqItems (s := ⟨h2, g, d, tk2, os⟩) hO2 rfl ?_)
        refine wpAny_bind (TupF.upd (s := ⟨h2, g, d, tk2, os⟩) hO2 (by omega) fun h3 hO3 hs3 => ?_)
        have hs3' : Heap.SameBut TO h2 h3 := hs3
        refine wpAny_bind (wpAny_letGo (wpAny_pure ?_))
        refine ⟨ts ++ [a], us, _, h3, tk2, by rw [e1]; simp, by rw [List.length_append]; exact er, rfl, by rw [List.length_set]; exact ly, hO3, hs3'.extBut _ _ (fun q => S.TOz q.symm) (hs2'.extBut _ _ zi hz'), ?_, ?_, ?_⟩
        · intro b hb
          have hbs : b ∈ ss := by rw [e1]; simp [hb]
          exact b.keep (b.keep (st2 b (List.mem_cons_of_mem _ hb)) hs2' ((List.pairwise_cons.mp pw2.2.1).1 b hb).1) hs3' (S.Of b hbs)
        · obtain ⟨b, hb, q⟩ := se
          rcases List.mem_cons.mp hb with hb | hb
          · subst hb
            exact absurd q hi
          · exact ⟨b, hb, q⟩
        · intro c o hc hcO hs e
          exact hs3'.extBut _ _ hcO (hs2'.extBut _ _ (hs a am) (kp c o hc hcO hs e))
  · rintro b s' ⟨ts, us, ys, h', tk', e1, e2, rfl, ly, hO, hz', st2, ⟨a, ha, _⟩, kp⟩
    cases us with
    | cons a us => simp at e2
    | nil => cases ha
  · exact ⟨[], ss, nn, g0, tk0, rfl, by simp, rfl, hnn, hs0.extBut _ _ S.TOz hTO, hz0, fun a ha => a.keep (st a ha) hs0 (S.zf a ha), some_end, fun c o hc _ _ e => hs0.extBut _ _ hc e⟩
end

/-! ### any stream gathered into a list -/
structure Stream (prog : Program) (w : World) (A : Around) (I S : Addr) (n : Nat) (J : Nat → List Value → Heap → Prop) : Prop where
  item : ∀ k acc (s : Shared) (Q : Option Value → Shared → Prop) (E : Value → Shared → Prop), k < n → J k acc s.heap →
    (∀ v h' tk, J (k + 1) (acc ++ [v]) h' → (∀ o, s.heap.get? S = some o → h'.get? S = some o) → Q (some v) { s with heap := h', toks := tk }) → wpAny (model prog w) A (pyNext (.ref I)) Q E s
  done : ∀ acc (s : Shared) (Q : Option Value → Shared → Prop) (E : Value → Shared → Prop), J n acc s.heap →
    (∀ h' tk, J (n + 1) acc h' → (∀ o, s.heap.get? S = some o → h'.get? S = some o) → Q none { s with heap := h', toks := tk }) → wpAny (model prog w) A (pyNext (.ref I)) Q E s
  len : ∀ k acc h, k ≤ n → J k acc h → acc.length = k
  off : ∀ k acc h f o, J k acc h → h.get? S = some o → J k acc (h.update S f)

section
variable {prog : Program} {w : World} {A : Around} {R : Result → Shared → Prop} {s : Shared} {S I : Addr} {n : Nat} {J : Nat → List Value → Heap → Prop}
theorem gather_loop (K : Stream prog w A.in1 I S n J) (hn : n ≤ sizeLine) (res : Value)
    (hR : ∀ h' tk acc c, J (n + 1) acc h' → acc.length = n → h'.get? S = some { cls := .type "list", dict := none, data := .seq acc.toArray c, slots := #[] } → R (.ok (.ret res)) { s with heap := h', toks := tk }) :
    ∀ (m k : Nat) (h : Heap) (tk c : Nat) (acc : List Value), n - k = m → k ≤ n → J k acc h → h.get? S = some { cls := .type "list", dict := none, data := .seq acc.toArray c, slots := #[] } →
      codeAny (model prog w) A (.builtin "list.extend.loop" ⟨[.ref S, .ref I, res], []⟩) R { s with heap := h, toks := tk } := by
  intro m
  induction m with
  | zero =>
    intro k h tk c acc hm hk hJ hS
    have hkn : k = n := by omega
    subst hkn
    refine codeAny_builtin PySem.F.entry_extend_loop ?_
    rw [Around.under_plainId PySem.F.plain_extend_loop _]
    show wpAny _ A.in1 (pyNext (.ref I) >>= _) _ _ _
    refine wpAny_bind (K.done acc { s with heap := h, toks := tk } _ _ hJ fun h' tk' hJ' kS => ?_)
    exact wpAny_pure (hR h' tk' acc c hJ' (K.len _ _ _ (Nat.le_refl _) hJ) (kS _ hS))
  | succ m ih =>
    intro k h tk c acc hm hk hJ hS
    have hlt : k < n := by omega
    have la := K.len _ _ _ hk hJ
    refine codeAny_builtin PySem.F.entry_extend_loop ?_
    rw [Around.under_plainId PySem.F.plain_extend_loop _]
    show wpAny _ A.in1 (pyNext (.ref I) >>= _) _ _ _
    refine wpAny_bind (K.item k acc { s with heap := h, toks := tk } _ _ hlt hJ fun v h' tk' hJ' kS => ?_)
    have hS' := kS _ hS
    show wpAny _ A.in1 (updateSeq S (·.push v) >>= _) _ _ _
    refine wpAny_bind (wpAny_updateSeq hS' rfl (wpAny_pure ⟨plainId_quiet PySem.F.plain_extend_loop _, ?_⟩) (by simp; omega) (by simp; omega))
    have e := Heap.get?_update_self (Obj.mapSeq (·.push v)) hS' rfl
    have ea : acc.toArray.push v = (acc ++ [v]).toArray := by simp
    obtain ⟨c2, e2⟩ : ∃ c2, (h'.update S (Obj.mapSeq (·.push v))).get? S = some { cls := .type "list", dict := none, data := .seq (acc ++ [v]).toArray c2, slots := #[] } := by
      rw [← ea]
      exact ⟨_, e⟩
    exact ih (k + 1) _ tk' c2 (acc ++ [v]) (by omega) hlt (K.off _ _ _ _ _ hJ' hS') e2
end
end Ech

namespace Ech
open PySem PySem.W PySem.Calls PyProof.Rows
open PySem (Draws)

theorem zip_len_none : typeLookup (.type "zip") "__len__" = pure none := am_miss_of_fast (by decide +kernel)
theorem zip_hint_none : typeLookup (.type "zip") "__length_hint__" = pure none := am_miss_of_fast (by decide +kernel)

section
variable {prog : Program} {w : World} {A : Around} {E : Value → Shared → Prop} {s : Shared} {z TI TO : Addr}
theorem zip_hint {Q : Bool → Shared → Prop} (hT : s.TypeIs (.ref z) "zip") (h : Q true s) : wpAny (model prog w) A (Builtin.List.listLengthHint (.ref z)) Q E s := by
  unfold Builtin.List.listLengthHint
  refine wpAny_bind (wpAny_specialOf hT zip_len_none ?_)
  show wpAny _ _ (specialOf (.ref z) "__length_hint__" >>= _) _ _ _
  refine wpAny_bind (wpAny_specialOf hT zip_hint_none ?_)
  exact wpAny_pure h

theorem gather_ext {R : Result → Shared → Prop} {n : Nat} {J : Nat → List Value → Heap → Prop} {f0 f1 : Value} (S : Addr) (K : Stream prog w A.in1 z S n J) (hn : n ≤ sizeLine) (hz : ZipF s.heap z f0 f1 TI TO) (hSz : S ≠ z) (res : Value) (c0 : Nat)
    (hS : s.heap.get? S = some { cls := .type "list", data := .seq #[] c0 }) (hJ : J 0 [] s.heap)
    (hR : ∀ h' tk acc c, J (n + 1) acc h' → acc.length = n → h'.get? S = some { cls := .type "list", dict := none, data := .seq acc.toArray c, slots := #[] } → R (.ok (.ret res)) { s with heap := h', toks := tk }) :
    wpAny (model prog w) A.in1 (Builtin.List.listExtendWith (.ref S) (.ref z) res)
      (fun fin s' => match fin with | .done f => R (.ok f) s' | .again c' => c'.quiet = true ∧ codeAny (model prog w) A c' R s') (fun e s' => R (.error e) s') s := by
  have hT : s.TypeIs (.ref z) "zip" := ⟨_, hz, rfl⟩
  unfold Builtin.List.listExtendWith
  refine wpAny_bind (wpAny_typeOf (T := "zip") hT ?_)
  have h1 : Builtin.List.listSameRef (.ref S) (.ref z) = false := by simp [Builtin.List.listSameRef, hSz]
  have h2 : (Value.type "zip" == Value.type "list") = false := by decide
  have h3 : (Value.type "zip" == Value.type "tuple") = false := by decide
  simp only [h1, h2, h3, Bool.or_false, Bool.false_eq_true, if_false]
  have iter : ∀ {Q : Value → Shared → Prop}, Q (.ref z) s → wpAny (model prog w) A.in1 (pyIter (.ref z)) Q (fun e s' => R (.error e) s') s := fun {Q} q => by
    refine wpAny_pyIter_slot hT PySem.F.slot_zip_iter (wpAny_call_entry PySem.F.slot_zip_iter hT PySem.F.entry_zip_iter ?_ (PySem.F.args_zip_iter_1 _))
    show wpAny _ _ (ret (.ref z)) _ _ s
    exact wpAny_pure ⟨_, rfl, "zip", _, hT, PySem.F.slot_zip_next.lookup, q⟩
  refine wpAny_bind (iter ?_)
  refine wpAny_bind (wpAny_holding (zip_hint hT ?_))
  simp only [Bool.true_or, if_true]
  refine wpAny_bind (wpAny_rule ?_)
  refine wpAny_bind ?_
  show wpAny _ _ (updateSeq S (·.push .none) >>= fun _ => updateSeq S (·.pop)) _ _ _
  refine wpAny_bind (wpAny_updateSeq hS rfl ?_)
  have hS2 := Heap.get?_update_self (Obj.mapSeq (·.push Value.none)) hS rfl
  refine wpAny_updateSeq (hz := by seq_fits) hS2 rfl ?_
  have hS3 := Heap.get?_update_self (Obj.mapSeq (·.pop)) hS2 rfl
  refine wpAny_pure ⟨plainId_quiet PySem.F.plain_extend_loop _, ?_⟩
  exact gather_loop (s := s) K hn res hR n 0 _ s.toks _ [] (by omega) (Nat.zero_le _) (K.off _ _ _ _ _ (K.off _ _ _ _ _ hJ hS) hS2) hS3
theorem gather_list {Q : Value → Shared → Prop} {n : Nat} {J : Nat → List Value → Heap → Prop} {f0 f1 : Value} (K : Stream prog w A.in1.in1 z s.heap.objs.size n J) (hn : n ≤ sizeLine) (hz : ZipF s.heap z f0 f1 TI TO)
    (hJ : J 0 [] (s.heap.push { cls := .type "list", data := .seq #[] }))
    (hQ : ∀ h' tk acc c, J (n + 1) acc h' → acc.length = n → h'.get? s.heap.objs.size = some { cls := .type "list", dict := none, data := .seq acc.toArray c, slots := #[] } → Q (.ref s.heap.objs.size) { s with heap := h', toks := tk }) :
    wpAny (model prog w) A (call (.type "list") [.ref z]) Q E s := by
  refine callType_codes (Q₁ := fun obj s1 => obj = .ref s.heap.objs.size ∧ s1 = { s with heap := s.heap.push { cls := .type "list", data := .seq #[] } }) PySem.F.called_list (PySem.F.typeCall_list_1 _) PySem.F.entry_list_init
    (code_list_new _ ⟨rfl, rfl⟩) ?_
  rintro obj s1 ⟨rfl, rfl⟩
  have hS : (s.heap.push { cls := .type "list", data := .seq #[] }).get? s.heap.objs.size = some { cls := .type "list", data := .seq #[] } := Heap.get?_push_size _ rfl
  have hzl : z < s.heap.objs.size := Heap.lt_size hz
  have hz1 : ZipF (s.heap.push { cls := .type "list", data := .seq #[] }) z f0 f1 TI TO := Heap.get?_push_of_some _ hz
  refine ⟨⟨_, hS, rfl⟩, PySem.F.args_list_init_2 _ _, ?_⟩
  show wpAny _ _ (do let old ← Builtin.List.listItems (.ref s.heap.objs.size); Builtin.List.listUpdate (.ref s.heap.objs.size) (fun _ => #[]); letGo old.toList.reverse; Builtin.List.listExtendWith (.ref s.heap.objs.size) (.ref z) .none) _ _ _
  refine wpAny_bind ?_
  unfold Builtin.List.listItems
  refine wpAny_bind (wpAny_seqItems hS rfl (wpAny_pure ?_))
  show wpAny _ _ (updateSeq s.heap.objs.size (fun _ => #[]) >>= fun _ => letGo (#[] : Array Value).toList.reverse >>= fun _ => Builtin.List.listExtendWith (.ref s.heap.objs.size) (.ref z) .none) _ _ _
  refine wpAny_bind (wpAny_updateSeq hS rfl ?_)
  have hS2 := Heap.get?_update_self (Obj.mapSeq (fun _ => (#[] : Array Value))) hS rfl
  have hz2 : ZipF ((s.heap.push { cls := .type "list", data := .seq #[] }).update s.heap.objs.size (Obj.mapSeq (fun _ => (#[] : Array Value)))) z f0 f1 TI TO := (Heap.get?_update_other _ _ (Nat.ne_of_gt hzl)).trans hz1
  refine wpAny_bind (wpAny_letGo ?_)
  refine gather_ext (A := A.in1) (TI := TI) (TO := TO) s.heap.objs.size K hn hz2 (Nat.ne_of_gt hzl) .none _ hS2 (K.off _ _ _ _ _ hJ hS) ?_
  intro h' tk acc c a b d
  exact ⟨rfl, hQ h' tk acc c a b d⟩
end
end Ech

namespace Ech
open PySem PySem.W PySem.Calls PyProof.Rows
open PySem (Draws)

theorem paired_mem {α β : Type} {F : α → β → Prop} : ∀ {xs : List α} {ys : List β}, Paired F xs ys → ∀ x ∈ xs, ∃ y ∈ ys, F x y
  | _, _, .cons r t, x, hx => by
    rcases List.mem_cons.mp hx with e | hx
    · rw [e]; exact ⟨_, List.mem_cons_self, r⟩
    · obtain ⟨y, hy, q⟩ := paired_mem t x hx
      exact ⟨y, List.mem_cons_of_mem _ hy, q⟩
theorem paired_imp {α β : Type} {F G : α → β → Prop} : ∀ {xs : List α} {ys : List β}, Paired F xs ys → (∀ x ∈ xs, ∀ y, F x y → G x y) → Paired G xs ys
  | _, _, .nil, _ => .nil
  | _, _, .cons r t, f => .cons (f _ List.mem_cons_self _ r) (paired_imp t fun x hx => f x (List.mem_cons_of_mem _ hx))

section
variable {prog : Program} {w : World} {A : Around}
structure ZJ (ss : List (Src prog w A)) (z TI TO S : Addr) (hb : Heap) (n k : Nat) (acc : List Value) (h : Heap) : Prop where
  ex : ∃ (as : List Addr) (rows : List (List Value)), acc = as.map Value.ref ∧ Paired (TupF h) as rows ∧ (∀ j row, rows[j]? = some row → Paired (fun (a : Src prog w A) x => a.P j x) ss row) ∧ (∀ a ∈ as, S < a ∧ a < h.objs.size) ∧ as.Pairwise (· < ·) ∧
    (k ≤ n → as.length = k) ∧ (k ≤ n → (k = 0 ∧ ZipF h z .none (.bool false) TI TO ∧ ∃ nn, TupF h TO nn ∧ nn.length = ss.length) ∨ (∃ T f, T ∈ as ∧ ZipF h z (rawInt T) (.bool f) TI TO))
  old : ∀ c o, c ≠ S → c ≠ z → c ≠ TO → (∀ a ∈ ss, c ≠ a.it) → hb.get? c = some o → h.get? c = some o
  big : k ≤ n → S < h.objs.size
  ti : k ≤ n → TupF h TI (ss.map fun a => .ref a.it)
  st : k ≤ n → ∀ a ∈ ss, a.St k h
structure SepL (ss : List (Src prog w A)) (z TI TO S : Addr) (n : Nat) : Prop extends SepZ ss z TI TO where
  zS : z < S
  IS : TI < S
  OS : TO < S
  iS : ∀ a ∈ ss, a.it < S
  fS : ∀ a ∈ ss, S ∉ a.fp
  ne : ss ≠ []
  small : ss.length ≤ sizeLine
  le : ∀ a ∈ ss, n ≤ a.n
  eq : ∃ a ∈ ss, n = a.n
  Ii : ∀ a ∈ ss, TI ≠ a.it

theorem SepL.far {ss : List (Src prog w A)} {z TI TO S : Addr} {n : Nat} (L : SepL ss z TI TO S n) {c : Addr} (h : S ≤ c) : c ≠ z ∧ c ≠ TO ∧ ∀ a ∈ ss, c ≠ a.it :=
  ⟨Nat.ne_of_gt (Nat.lt_of_lt_of_le L.zS h), Nat.ne_of_gt (Nat.lt_of_lt_of_le L.OS h), fun a ha => Nat.ne_of_gt (Nat.lt_of_lt_of_le (L.iS a ha) h)⟩
theorem zip_stream {A : Around} {ss : List (Src prog w A.in1)} {z TI TO S : Addr} {hb : Heap} {n : Nat} (L : SepL ss z TI TO S n) : Stream prog w A z S n (ZJ ss z TI TO S hb n) where
  item := by
    intro k acc s Q E hk J hQ
    obtain ⟨⟨as, rows, e1, pr, pp, bd, rise, len, zz⟩, old, big, ti, st⟩ := J
    have hk' : k ≤ n := Nat.le_of_lt hk
    have lk := len hk'
    have lt : ∀ a ∈ ss, k < a.n := fun a ha => Nat.lt_of_lt_of_le hk (L.le a ha)
    have fin : ∀ (xs : List Value) (h' : Heap) (tk : Nat) (T : Addr) (f : Bool), T ∈ as ++ [s.heap.objs.size] → Paired (fun (a : Src prog w A.in1) x => a.P k x) ss xs → ZipF h' z (rawInt T) (.bool f) TI TO → (∀ a ∈ ss, a.St (k + 1) h') → TupF h' s.heap.objs.size xs → h'.objs.size = s.heap.objs.size + 1 →
        (∀ c o, c ≠ z → c ≠ TO → (∀ a ∈ ss, c ≠ a.it) → s.heap.get? c = some o → h'.get? c = some o) → Q (some (.ref s.heap.objs.size)) { s with heap := h', toks := tk } := by
      intro xs h' tk T f hT px hz' st' ht sz kp
      refine hQ (.ref s.heap.objs.size) h' tk ⟨⟨as ++ [s.heap.objs.size], rows ++ [xs], by rw [e1]; simp, ?_, ?_, ?_, ?_, fun _ => by rw [List.length_append, lk]; rfl, fun _ => Or.inr ⟨T, f, hT, hz'⟩⟩, ?_, fun _ => by rw [sz]; exact Nat.lt_succ_of_lt (big hk'), ?_, fun _ => st'⟩ ?_
      · refine paired_snoc (paired_imp pr fun a ha row hr => ?_) ht
        have b1 := (bd a ha).1
        exact (let q := L.far (Nat.le_of_lt b1); kp a _ q.1 q.2.1 q.2.2 hr)
      · intro j row hj
        have lr : rows.length = k := by rw [← lk]; exact (Paired.length pr).symm
        rcases Nat.lt_trichotomy j rows.length with q | q | q
        · rw [List.getElem?_append_left q] at hj
          exact pp j row hj
        · subst q
          have e : xs = row := by simpa using hj
          rw [← e, lr]
          exact px
        · rw [List.getElem?_eq_none (by rw [List.length_append, List.length_singleton]; omega)] at hj
          cases hj
      · intro a ha
        rcases List.mem_append.mp ha with ha | ha
        · have := bd a ha
          exact ⟨this.1, by rw [sz]; exact Nat.lt_succ_of_lt this.2⟩
        · rw [List.mem_singleton.mp ha]
          exact ⟨big hk', by rw [sz]; exact Nat.lt_succ_self _⟩
      · refine List.pairwise_append.mpr ⟨rise, List.pairwise_singleton _ _, fun a ha b hb => ?_⟩
        rw [List.mem_singleton.mp hb]
        exact (bd a ha).2
      · intro c o c1 c2 c3 c4 e
        exact kp c o c2 c3 c4 (old c o c1 c2 c3 c4 e)
      · intro _
        exact kp TI _ L.TIz L.TITO L.Ii (ti hk')
      · intro o e
        exact (let q := L.far (Nat.le_refl S); kp S o q.1 q.2.1 q.2.2 e)
    rcases zz hk' with ⟨k0, hz, nn, hO, hnn⟩ | ⟨T, f, hT, hz⟩
    · have hTy : s.TypeIs (.ref z) "zip" := ⟨_, hz, rfl⟩
      unfold pyNext
      refine wpAny_bind (wpAny_attempt (wpAny_callSpecial?_slot (name := Str.ofString "__next__") hTy PySem.F.slot_zip_next
        (wpAny_call_entry PySem.F.slot_zip_next hTy PySem.F.entry_zip_next
          (zip_free (i := k) L.toSepZ L.ne hz (.inl rfl) (ti hk') hO hnn (st hk') lt L.small fun xs h' tk px hz' st' ht _ sz kp => wpAny_pure (fin xs h' tk _ false (by simp) px hz' st' ht sz kp)) (PySem.F.args_zip_next_1 _))))
    · obtain ⟨row, hrow, hTr⟩ := paired_mem pr T hT
      have hTy : s.TypeIs (.ref z) "zip" := ⟨_, hz, rfl⟩
      unfold pyNext
      refine wpAny_bind (wpAny_attempt (wpAny_callSpecial?_slot (name := Str.ofString "__next__") hTy PySem.F.slot_zip_next
        (wpAny_call_entry PySem.F.slot_zip_next hTy PySem.F.entry_zip_next
          (zip_held (i := k) L.toSepZ L.ne hz hTr (ti hk') (st hk') lt L.small fun xs h' tk px hz' st' ht sz kp => wpAny_pure (fin xs h' tk T true (List.mem_append_left _ hT) px hz' st' ht sz fun c o c1 _ c3 e => kp c o c1 c3 e)) (PySem.F.args_zip_next_1 _))))
  done := by
    intro acc s Q E J hQ
    obtain ⟨⟨as, rows, e1, pr, pp, bd, rise, len, zz⟩, old, big, ti, st⟩ := J
    have fin : ∀ (h' : Heap) (tk : Nat) (e : Addr), (∀ c o, c ≠ z → c ≠ TO → (∀ a ∈ ss, c ≠ a.it) → s.heap.get? c = some o → h'.get? c = some o) → Q none { s with heap := h', toks := tk } := by
      intro h' tk e kp
      have grow : ∀ c o, s.heap.get? c = some o → c < s.heap.objs.size := fun c o q => Heap.lt_size q
      have keepS : ∀ o, s.heap.get? S = some o → h'.get? S = some o := fun o e => let q := L.far (Nat.le_refl S); kp S o q.1 q.2.1 q.2.2 e
      refine hQ h' tk ⟨⟨as, rows, e1, paired_imp pr fun a ha row hr => ?_, pp, ?_, rise, fun q => absurd q (by omega), fun q => absurd q (by omega)⟩, fun c o c1 c2 c3 c4 q => kp c o c2 c3 c4 (old c o c1 c2 c3 c4 q), fun q => absurd q (by omega), fun q => absurd q (by omega), fun q => absurd q (by omega)⟩ keepS
      · have b1 := (bd a ha).1
        exact (let q := L.far (Nat.le_of_lt b1); kp a _ q.1 q.2.1 q.2.2 hr)
      · intro a ha
        obtain ⟨row, _, hr⟩ := paired_mem pr a ha
        have b1 := (bd a ha).1
        exact ⟨b1, Heap.lt_size (let q := L.far (Nat.le_of_lt b1); kp a _ q.1 q.2.1 q.2.2 hr)⟩
    have stop : ∀ (h' : Heap) (tk : Nat) (e : Addr), (∀ c o, c ≠ z → c ≠ TO → (∀ a ∈ ss, c ≠ a.it) → s.heap.get? c = some o → h'.get? c = some o) → (∃ o, h'.get? e = some o ∧ o.cls = .type "StopIteration") →
        wpAny (model prog w) A (isInstance (.ref e) (.type "StopIteration")) (fun b s' => b = true ∧ s' = { s with heap := h', toks := tk }) E { s with heap := h', toks := tk } := by
      intro h' tk e _ he
      obtain ⟨o, ho, hc⟩ := he
      exact wpAny_isInstance (T := "StopIteration") (b := true) ⟨o, ho, hc⟩ isSubtype_stop ⟨rfl, rfl⟩
    rcases zz (Nat.le_refl n) with ⟨k0, hz, nn, hO, hnn⟩ | ⟨T, f, hT, hz⟩
    · have hTy : s.TypeIs (.ref z) "zip" := ⟨_, hz, rfl⟩
      unfold pyNext
      refine wpAny_bind (wpAny_attempt (wpAny_callSpecial?_slot (name := Str.ofString "__next__") hTy PySem.F.slot_zip_next
        (wpAny_call_entry PySem.F.slot_zip_next hTy PySem.F.entry_zip_next
          (zip_free_end (i := n) L.toSepZ L.ne hz (.inl rfl) (ti (Nat.le_refl n)) hO hnn (st (Nat.le_refl n)) L.le L.eq L.small fun h' tk e kp he => ?_) (PySem.F.args_zip_next_1 _))))
      obtain ⟨o, ho, hc⟩ := he
      refine wpAny_bind (wpAny_isInstance (T := "StopIteration") (b := true) ⟨o, ho, hc⟩ isSubtype_stop ?_)
      exact wpAny_pure (fin h' tk e kp)
    · obtain ⟨row, hrow, hTr⟩ := paired_mem pr T hT
      have hTy : s.TypeIs (.ref z) "zip" := ⟨_, hz, rfl⟩
      unfold pyNext
      refine wpAny_bind (wpAny_attempt (wpAny_callSpecial?_slot (name := Str.ofString "__next__") hTy PySem.F.slot_zip_next
        (wpAny_call_entry PySem.F.slot_zip_next hTy PySem.F.entry_zip_next
          (zip_held_end (i := n) L.toSepZ L.ne hz hTr (ti (Nat.le_refl n)) (st (Nat.le_refl n)) L.le L.eq fun h' tk e kp he => ?_) (PySem.F.args_zip_next_1 _))))
      obtain ⟨o, ho, hc⟩ := he
      refine wpAny_bind (wpAny_isInstance (T := "StopIteration") (b := true) ⟨o, ho, hc⟩ isSubtype_stop ?_)
      exact wpAny_pure (fin h' tk e fun c o c1 _ c3 q => kp c o c1 c3 q)
  len := by
    intro k acc h hk J
    obtain ⟨⟨as, rows, e1, pr, pp, bd, rise, len, zz⟩, _⟩ := J
    rw [e1, List.length_map]
    exact len hk
  off := by
    intro k acc h f o J hS
    obtain ⟨⟨as, rows, e1, pr, pp, bd, rise, len, zz⟩, old, big, ti, st⟩ := J
    have oth : ∀ c q, c ≠ S → h.get? c = some q → (h.update S f).get? c = some q := fun c q hc e => (Heap.get?_update_other _ _ (Ne.symm hc)).trans e
    have sz : (h.update S f).objs.size = h.objs.size := Heap.size_update ..
    have nS : ∀ {c : Addr}, c < S → c ≠ S := fun q => Nat.ne_of_lt q
    refine ⟨⟨as, rows, e1, paired_imp pr fun a ha row hr => oth a _ (Nat.ne_of_gt (bd a ha).1) hr, pp, fun a ha => by rw [sz]; exact bd a ha, rise, len, fun q => ?_⟩, fun c o c1 c2 c3 c4 e => oth c _ c1 (old c o c1 c2 c3 c4 e), fun q => by rw [sz]; exact big q, fun q => oth TI _ (nS L.IS) (ti q), fun q a ha => ?_⟩
    · rcases zz q with ⟨k0, hz, nn, hO, hnn⟩ | ⟨T, g, hT, hz⟩
      · exact Or.inl ⟨k0, oth z _ (nS L.zS) hz, nn, oth TO _ (nS L.OS) hO, hnn⟩
      · exact Or.inr ⟨T, g, hT, oth z _ (nS L.zS) hz⟩
    · exact a.D.frame k h _ (st q a ha) fun b hb o e => oth b o (fun z => L.fS a ha (z ▸ hb)) e
end
end Ech

namespace Ech
open PySem PySem.W PySem.Calls PyProof.Rows
open PySem (Draws)

section
variable {prog : Program} {w : World} {A : Around} {E : Value → Shared → Prop} {s : Shared}
theorem zip_cls (us : List Value) : Builtin.SmallTypes.newClass "zip" ⟨.type "zip" :: us, []⟩ = pure (.type "zip", us) := by
  unfold Builtin.SmallTypes.newClass
  show (isType (.type "zip") >>= _) = _
  rw [show isType (.type "zip") = pure true from rfl]
  simp only [pure_bind, Bool.not_true, Bool.false_eq_true, if_false, PySem.sub_zip]
theorem zip_new {us : List Value} {Q : Fin → Shared → Prop} (h : wpAny (model prog w) A (Builtin.SmallTypes.iterAll us) (fun its s1 => its.length ≤ sizeLine ∧ ∀ h', h' = ((s1.heap.push { cls := .type "tuple", data := .seq its.toArray }).push { cls := .type "tuple", data := .seq (its.map fun _ => Value.none).toArray }).push
      { cls := .type "zip", data := .fields #[.none, .bool false, .bool false, .ref s1.heap.objs.size, .ref (s1.heap.push { cls := .type "tuple", data := .seq its.toArray }).objs.size] } →
      Q (.done (.ret (.ref ((s1.heap.push { cls := .type "tuple", data := .seq its.toArray }).push { cls := .type "tuple", data := .seq (its.map fun _ => Value.none).toArray }).objs.size))) { s1 with heap := h' }) E s) :
    wpAny (model prog w) A (Builtin.«zip.__new__» ⟨.type "zip" :: us, []⟩) Q E s := by
  unfold Builtin.«zip.__new__»
  rw [zip_cls]
  refine wpAny_bind (wpAny_pure ?_)
  show wpAny _ _ (Builtin.SmallTypes.iterAll us >>= _) _ _ _
  refine wpAny_bind (wpAny_mono h (fun its s1 q => ?_) fun _ _ z => z)
  obtain ⟨sz, q⟩ := q
  refine wpAny_bind (wpAny_newTuple ?_ (by simpa using sz))
  refine wpAny_bind (wpAny_newTuple ?_ (by simpa using sz))
  refine wpAny_bind ?_
  unfold Builtin.SmallTypes.newRecord
  refine wpAny_newObj_type ?_ (by show (5 : Nat) ≤ _; decide)
  exact wpAny_pure (q _ rfl)

inductive SrcIs (h : Heap) (l : Addr) (vs : List Value) : Prop
  | lst : h.IsList l vs.toArray → SrcIs h l vs
  | tup : h.IsTuple l vs.toArray → SrcIs h l vs
theorem SrcIs.lt {h : Heap} {l : Addr} {vs : List Value} (x : SrcIs h l vs) : l < h.objs.size := by
  cases x with
  | lst q => obtain ⟨o, e, _⟩ := q; exact Heap.lt_size e
  | tup q => obtain ⟨o, e, _⟩ := q; exact Heap.lt_size e
theorem SrcIs.at {h h' : Heap} {l : Addr} {vs : List Value} (x : SrcIs h l vs) (k : ∀ o, h.get? l = some o → h'.get? l = some o) : SrcIs h' l vs := by
  cases x with
  | lst q => exact .lst (q.at k)
  | tup q => obtain ⟨o, e, r⟩ := q; exact .tup ⟨o, k _ e, r⟩
inductive ItIs (h : Heap) (i l : Addr) (vs : List Value) (k : Nat) : Prop
  | lst : h.IsListIter i l k → h.IsList l vs.toArray → ItIs h i l vs k
  | tup : h.IsTupleIter i l k → h.IsTuple l vs.toArray → ItIs h i l vs k
theorem ItIs.at {h h' : Heap} {i l : Addr} {vs : List Value} {k : Nat} (x : ItIs h i l vs k) (a : ∀ o, h.get? i = some o → h'.get? i = some o) (b : ∀ o, h.get? l = some o → h'.get? l = some o) : ItIs h' i l vs k := by
  cases x with
  | lst p q => exact .lst (p.at a) (q.at b)
  | tup p q => obtain ⟨o, e, r⟩ := q; exact .tup (p.at a) ⟨o, b _ e, r⟩
theorem draws_it {A : Around} (hh : A.handled = none) (i l : Addr) (hne : l ≠ i) (vs : List Value) : Draws prog w A i [i, l] vs.length (fun k v => vs[k]? = some v) (fun k h => ItIs h i l vs k) where
  live := fun _ h st => by
    cases st with
    | lst p q => obtain ⟨o, ho, _⟩ := p; exact ⟨o, ho⟩
    | tup p q => obtain ⟨o, ho, _⟩ := p; exact ⟨o, ho⟩
  frame := fun k h h' st hk => st.at (fun o e => hk i (by simp) o e) (fun o e => hk l (by simp) o e)
  item := fun k s Q E hi st hQ => by
    cases st with
    | lst p q =>
      refine wpAny_nextOf_list_item p q (x := vs[k]) (by simp [hi]) fun h' p' hs => ?_
      exact hQ _ h' s.toks (by simp [hi]) (.lst p' (q.extBut hs.extBut hne)) hs
    | tup p q =>
      refine RZ.nextOf_tuple_item p q (x := vs[k]) (by simp [hi]) fun h' p' hs => ?_
      obtain ⟨o, e, r⟩ := q
      exact hQ _ h' s.toks (by simp [hi]) (.tup p' ⟨o, hs.extBut _ _ hne e, r⟩) hs
  done := fun s Q E st hE => by
    cases st with
    | lst p q => exact wpAny_nextOf_list_end hh p q (by simp) hE
    | tup p q => exact RZ.nextOf_tuple_end hh p q (by simp) hE
end
end Ech

namespace Ech
open PySem PySem.W PySem.Calls PyProof.Rows
open PySem (Draws)

section
variable {prog : Program} {w : World} {A : Around} {E : Value → Shared → Prop} {s : Shared}
theorem SrcIs.iter {l : Addr} {vs : List Value} {Q : Value → Shared → Prop} (x : SrcIs s.heap l vs)
    (h : ∀ h', ItIs h' s.heap.objs.size l vs 0 → h'.objs.size = s.heap.objs.size + 1 → (∀ c o, s.heap.get? c = some o → h'.get? c = some o) → Q (.ref s.heap.objs.size) { s with heap := h' }) : wpAny (model prog w) A (pyIter (.ref l)) Q E s := by
  cases x with
  | lst q =>
    refine wpAny_pyIter_list q (h _ (.lst ⟨_, Heap.get?_push_size _ rfl, rfl, rfl⟩ (q.push _)) (Heap.size_push ..) fun c o e => Heap.get?_push_of_some _ e)
  | tup q =>
    refine wpAny_pyIter_tuple q (h _ (.tup ⟨_, Heap.get?_push_size _ rfl, rfl, rfl⟩ (q.push _)) (Heap.size_push ..) fun c o e => Heap.get?_push_of_some _ e)

theorem iter_all {ls : List (Addr × List Value)} {Q : List Value → Shared → Prop} (hs : ∀ p ∈ ls, SrcIs s.heap p.1 p.2)
    (h : ∀ (is : List Addr) h', Paired (fun i (p : Addr × List Value) => ItIs h' i p.1 p.2 0) is ls → (∀ i ∈ is, s.heap.objs.size ≤ i ∧ i < h'.objs.size) → is.Pairwise (· < ·) → s.heap.objs.size ≤ h'.objs.size →
      (∀ c o, s.heap.get? c = some o → h'.get? c = some o) → Q (is.map Value.ref) { s with heap := h' }) :
    wpAny (model prog w) A (Builtin.SmallTypes.iterAll (ls.map fun p => .ref p.1)) Q E s := by
  obtain ⟨hp, g, d, tk0, os⟩ := s
  unfold Builtin.SmallTypes.iterAll
  refine wpAny_bind ?_
  refine loop_list (fun l b s' => ∃ (ts us : List (Addr × List Value)) (is : List Addr) (h' : Heap), ls = ts ++ us ∧ l = us.map (fun p => Value.ref p.1) ∧ b = (is.map Value.ref).toArray ∧ s' = ⟨h', g, d, tk0, os⟩ ∧
      Paired (fun i (p : Addr × List Value) => ItIs h' i p.1 p.2 0) is ts ∧ (∀ i ∈ is, hp.objs.size ≤ i ∧ i < h'.objs.size) ∧ is.Pairwise (· < ·) ∧ hp.objs.size ≤ h'.objs.size ∧
      (∀ c o, hp.get? c = some o → h'.get? c = some o)) ?_ ?_ _ _ _ ?_
  · rintro x rest b s' ⟨ts, us, is, h', e1, e2, rfl, rfl, pr, bd, rise, sz, kp⟩
    cases us with
    | nil => cases e2
    | cons p us =>
      have ex : x = .ref p.1 := (List.cons.inj e2).1
      have er : rest = us.map (fun p => Value.ref p.1) := (List.cons.inj e2).2
      subst ex
      have pm : p ∈ ls := by rw [e1]; simp
      have src : SrcIs h' p.1 p.2 := (hs p pm).at fun o e => kp p.1 o e
      refine wpAny_bind (wpAny_holding (SrcIs.iter (s := ⟨h', g, d, tk0, os⟩) src fun h2 it sz2 kp2 => ?_))
      replace sz2 : h2.objs.size = h'.objs.size + 1 := sz2
      refine wpAny_pure ⟨ts ++ [p], us, is ++ [h'.objs.size], h2, by rw [e1]; simp, er, by simp, rfl, paired_snoc (paired_imp pr fun i hi q hq => hq.at (fun o e => kp2 i o e) fun o e => kp2 q.1 o e) it, ?_, ?_, ?_, fun c o e => kp2 c o (kp c o e)⟩
      · intro i hi
        rcases List.mem_append.mp hi with hi | hi
        · have := bd i hi
          exact ⟨this.1, by rw [sz2]; exact Nat.lt_succ_of_lt this.2⟩
        · rw [List.mem_singleton.mp hi]
          exact ⟨sz, by rw [sz2]; exact Nat.lt_succ_self _⟩
      · refine List.pairwise_append.mpr ⟨rise, List.pairwise_singleton _ _, fun a ha b hb => ?_⟩
        rw [List.mem_singleton.mp hb]
        exact (bd a ha).2
      · rw [sz2]
        exact Nat.le_succ_of_le sz
  · rintro b s' ⟨ts, us, is, h', e1, e2, rfl, rfl, pr, bd, rise, sz, kp⟩
    cases us with
    | cons p us => cases e2
    | nil =>
      rw [List.append_nil] at e1
      subst e1
      exact wpAny_pure (by simpa using h is h' pr bd rise sz kp)
  · exact ⟨[], ls, [], hp, rfl, rfl, rfl, rfl, .nil, fun _ h => absurd h List.not_mem_nil, List.Pairwise.nil, Nat.le_refl _, fun _ _ e => e⟩
end

/-! zip(..) of one to five -/
theorem zip_tc : ∀ (us : List Value), 0 < us.length → us.length ≤ 5 → checkTypeCall "zip" ⟨us, []⟩ = pure ()
  | [_], _, _ => by kernel_rfl
  | [_, _], _, _ => by kernel_rfl
  | [_, _, _], _, _ => by kernel_rfl
  | [_, _, _, _], _, _ => by kernel_rfl
  | [_, _, _, _, _], _, _ => by kernel_rfl
  | [], h, _ => absurd h (by decide)
  | _ :: _ :: _ :: _ :: _ :: _ :: r, _, h => absurd h (by simp only [List.length_cons]; omega)
theorem zip_nc : ∀ (us : List Value), 0 < us.length → us.length ≤ 5 → checkBuiltinCall "zip.__new__" ⟨.type "zip" :: us, []⟩ = pure ()
  | [_], _, _ => by kernel_rfl
  | [_, _], _, _ => by kernel_rfl
  | [_, _, _], _, _ => by kernel_rfl
  | [_, _, _, _], _, _ => by kernel_rfl
  | [_, _, _, _, _], _, _ => by kernel_rfl
  | [], h, _ => absurd h (by decide)
  | _ :: _ :: _ :: _ :: _ :: _ :: r, _, h => absurd h (by simp only [List.length_cons]; omega)
theorem zip_oi (obj : Value) : ∀ (us : List Value), 0 < us.length → us.length ≤ 5 → argsOk "object.__init__" ⟨obj :: us, []⟩ := by
  intro us h1 h2
  unfold argsOk
  rw [signature?_of (id := "object.__init__") (n := ['_', '_', 't', 'i', 'n', 'i', '_', '_']) (o := ['t', 'c', 'e', 'j', 'b', 'o']) (by kernel_rfl) PySem.F.owner_object]
  match us, h1, h2 with
  | [_], _, _ => kernel_rfl
  | [_, _], _, _ => kernel_rfl
  | [_, _, _], _, _ => kernel_rfl
  | [_, _, _, _], _, _ => kernel_rfl
  | [_, _, _, _, _], _, _ => kernel_rfl
  | [], h, _ => exact absurd h (by decide)
  | _ :: _ :: _ :: _ :: _ :: _ :: r, _, h => exact absurd h (by simp only [List.length_cons]; omega)

section
variable {prog : Program} {w : World} {A : Around} {E : Value → Shared → Prop} {s : Shared}
theorem zip_call {ls : List (Addr × List Value)} {Q : Value → Shared → Prop} (h0 : 0 < ls.length) (h5 : ls.length ≤ 5) (hs : ∀ p ∈ ls, SrcIs s.heap p.1 p.2)
    (h : ∀ (is : List Addr) h' TI, Paired (fun i (p : Addr × List Value) => ItIs h' i p.1 p.2 0) is ls → (∀ i ∈ is, s.heap.objs.size ≤ i ∧ i < TI) → is.Pairwise (· < ·) → s.heap.objs.size ≤ TI → h'.objs.size = TI + 3 →
      ZipF h' (TI + 2) .none (.bool false) TI (TI + 1) → TupF h' TI (is.map Value.ref) → TupF h' (TI + 1) (is.map fun _ => Value.none) → (∀ c o, s.heap.get? c = some o → h'.get? c = some o) → Q (.ref (TI + 2)) { s with heap := h' }) :
    wpAny (model prog w) A (call (.type "zip") (ls.map fun p => .ref p.1)) Q E s := by
  have lu : (ls.map fun p => Value.ref p.1).length = ls.length := List.length_map ..
  have meets : Meets (Builtin.«zip.__new__» ⟨.type "zip" :: (ls.map fun p => Value.ref p.1), []⟩) (fun _ R s => (∀ p ∈ ls, SrcIs s.heap p.1 p.2) ∧
      ∀ (is : List Addr) h' TI, Paired (fun i (p : Addr × List Value) => ItIs h' i p.1 p.2 0) is ls → (∀ i ∈ is, s.heap.objs.size ≤ i ∧ i < TI) → is.Pairwise (· < ·) → s.heap.objs.size ≤ TI → h'.objs.size = TI + 3 →
      ZipF h' (TI + 2) .none (.bool false) TI (TI + 1) → TupF h' TI (is.map Value.ref) → TupF h' (TI + 1) (is.map fun _ => Value.none) → (∀ c o, s.heap.get? c = some o → h'.get? c = some o) → R (.ok (.ret (.ref (TI + 2)))) { s with heap := h' }) := by
    intro prog w A R s ⟨hs, h⟩
    refine zip_new (iter_all hs fun is h' pr bd rise sz kp => ⟨?_, fun h2 e => ?_⟩)
    · rw [List.length_map, Paired.length pr]
      exact Nat.le_trans h5 (by decide)
    · have s1 : (h'.push { cls := .type "tuple", data := .seq (is.map Value.ref).toArray }).objs.size = h'.objs.size + 1 := Heap.size_push ..
      have s2 : ((h'.push { cls := .type "tuple", data := .seq (is.map Value.ref).toArray }).push { cls := .type "tuple", data := .seq ((is.map Value.ref).map fun _ => Value.none).toArray }).objs.size = h'.objs.size + 2 := by rw [Heap.size_push, s1]
      have key := h is h2 h'.objs.size ?_ bd rise sz ?_ ?_ ?_ ?_ ?_
      · dsimp only at s1 s2 ⊢
        rw [s2]
        exact key
      · subst e
        exact paired_imp pr fun i hi p hq => hq.at (fun o q => Heap.get?_push_of_some _ (Heap.get?_push_of_some _ (Heap.get?_push_of_some _ q))) fun o q => Heap.get?_push_of_some _ (Heap.get?_push_of_some _ (Heap.get?_push_of_some _ q))
      · subst e
        rw [Heap.size_push, s2]
      · subst e
        have q := Heap.get?_push_size ((h'.push { cls := .type "tuple", data := .seq (is.map Value.ref).toArray }).push { cls := .type "tuple", data := .seq ((is.map Value.ref).map fun _ => Value.none).toArray }) (o := { cls := .type "zip", data := .fields #[.none, .bool false, .bool false, .ref h'.objs.size, .ref (h'.push { cls := .type "tuple", data := .seq (is.map Value.ref).toArray }).objs.size] }) rfl
        rw [s2] at q
        unfold ZipF
        rw [show (Value.ref (h'.objs.size + 1)) = Value.ref (h'.push { cls := .type "tuple", data := .seq (is.map Value.ref).toArray }).objs.size from by rw [s1]]
        exact q
      · subst e
        exact Heap.get?_push_of_some _ (Heap.get?_push_of_some _ (Heap.get?_push_size _ rfl))
      · subst e
        have q := Heap.get?_push_size (h'.push { cls := .type "tuple", data := .seq (is.map Value.ref).toArray }) (o := { cls := .type "tuple", data := .seq ((is.map Value.ref).map fun _ => Value.none).toArray }) rfl
        rw [s1] at q
        unfold TupF
        rw [show (is.map fun _ => Value.none) = (is.map Value.ref).map fun _ => Value.none from by simp]
        exact Heap.get?_push_of_some _ q
      · subst e
        intro c o q
        exact Heap.get?_push_of_some _ (Heap.get?_push_of_some _ (Heap.get?_push_of_some _ (kp c o q)))
  refine callType_new PySem.F.called_zip (by decide) (zip_tc _ (by omega) (by omega)) (zip_nc _ (by omega) (by omega)) (fun obj => zip_oi obj _ (by omega) (by omega)) PySem.F.entry_zip_new meets ⟨hs, ?_⟩
  intro is h' TI pr bd rise sz sz2 hz hI hO kp
  exact ⟨⟨_, hz, rfl⟩, h is h' TI pr bd rise sz sz2 hz hI hO kp⟩
end
end Ech

namespace Ech
open PySem PySem.W PySem.Calls PyProof.Rows
open PySem (Draws)
open L2 (V Hp HO Cx Inv PE PA TE TA VK RelV Vals upd SqL SqT EP AP thn)

def minLen : List (List V) → Nat
  | [] => 0
  | [l] => l.length
  | l :: r => min l.length (minLen r)
theorem minLen_le : ∀ {ls : List (List V)} {l : List V}, l ∈ ls → minLen ls ≤ l.length
  | [_], _, h => by rw [List.mem_singleton.mp h]; exact Nat.le_refl _
  | a :: b :: r, l, h => by
    rcases List.mem_cons.mp h with e | h
    · rw [e]; exact Nat.min_le_left _ _
    · exact Nat.le_trans (Nat.min_le_right _ _) (minLen_le h)
theorem minLen_eq : ∀ {ls : List (List V)}, ls ≠ [] → ∃ l ∈ ls, minLen ls = l.length
  | [l], _ => ⟨l, List.mem_cons_self, rfl⟩
  | a :: b :: r, _ => by
    obtain ⟨l, hl, e⟩ := minLen_eq (ls := b :: r) (by simp)
    by_cases h : a.length ≤ minLen (b :: r)
    · exact ⟨a, List.mem_cons_self, Nat.min_eq_left h⟩
    · exact ⟨l, List.mem_cons_of_mem _ hl, by show min a.length (minLen (b :: r)) = _; rw [Nat.min_eq_right (by omega), e]⟩
def zipRow (ls : List (List V)) (j : Nat) : List V := ls.map fun l => l.getD j .non
def zipV (ls : List (List V)) : List (List V) := (List.range (minLen ls)).map (zipRow ls)

def uLZ (K : PySem.W.Frag) (t : TA) : TE := fun σ H Q => t σ H fun vs H1 => ∃ srcs : List (Addr × List V), vs = srcs.map (fun p => .ref p.1) ∧ 0 < srcs.length ∧ srcs.length ≤ 5 ∧ (∀ p ∈ srcs, SqL K H1 p.1 p.2 ∨ SqT K H1 p.1 p.2) ∧
  ∀ H2 p ts, Ex H1 H2 → H1 p = none → (∀ t ∈ ts, H1 t = none) → p ∉ ts → H2 p = some (.lst (ts.map V.ref)) → Paired (fun t row => H2 t = some (.tup row)) ts (zipV (srcs.map (·.2))) → Q (.ref p) H2

def putTs : Hp → List Addr → List (List V) → Hp
  | H, a :: as, p :: ps => putTs (upd H a (.tup p)) as ps
  | H, _, _ => H
theorem putTs_off {b : Addr} : ∀ (as : List Addr) (ps : List (List V)) (H : Hp), b ∉ as → putTs H as ps b = H b
  | [], _, _, _ => rfl
  | _ :: _, [], _, _ => rfl
  | a :: as, p :: ps, H, h => by
    show putTs (upd H a (.tup p)) as ps b = H b
    rw [putTs_off as ps _ (fun z => h (List.mem_cons_of_mem _ z)), L2.upd_ne (fun z => h (by rw [z]; exact List.mem_cons_self))]
theorem putTs_at : ∀ (as : List Addr) (ps : List (List V)) (H : Hp), as.length = ps.length → as.Nodup → Paired (fun t p => putTs H as ps t = some (.tup p)) as ps
  | [], [], _, _, _ => .nil
  | [], _ :: _, _, h, _ => by cases h
  | _ :: _, [], _, h, _ => by cases h
  | a :: as, p :: ps, H, h, hn => by
    have hn' := List.nodup_cons.mp hn
    refine .cons ?_ (putTs_at as ps (upd H a (.tup p)) (Nat.succ.inj h) hn'.2)
    show putTs (upd H a (.tup p)) as ps a = some (.tup p)
    rw [putTs_off as ps _ hn'.1, L2.upd_same]
theorem refs_vals (as : List Addr) : Vals (as.map V.ref) (as.map Value.ref) := by
  induction as with
  | nil => exact .nil
  | cons a r ih => exact .cons rfl ih
theorem paired_ix {α β : Type} {F : α → β → Prop} : ∀ {xs : List α} {ys : List β}, Paired F xs ys → ∀ {j : Nat} {x : α}, xs[j]? = some x → ∃ y, ys[j]? = some y ∧ F x y := by
  intro xs ys h
  induction h with
  | nil => intro j x e; simp at e
  | cons r t ih =>
    intro j x e
    cases j with
    | zero => simp at e; subst e; exact ⟨_, by simp, r⟩
    | succ j => simpa using ih (by simpa using e)

section
variable {X : Cx}
theorem track {pins : List (Addr × Obj)} {σ : L2.St} {H H' : Hp} {s : Shared} {h' : Heap} {tk : Nat} (I : Inv X pins σ H s) (grown : ∀ b o, s.heap.get? b = some o → h'.get? b = some o) (more : Ex H H')
    (apart : ∀ b o, s.heap.get? b = some o → H b = none → H' b = none) (new : ∀ b u, H' b = some u → H b = none → L2.ObjOk X.prog X.w H' h' b u) : Inv X pins σ H' { s with heap := h', toks := tk } := by
  have un : L2.Un (L2.frs X.stack) [] H H' s.heap h' := {
    keep := fun b o q _ _ _ => grown b o q
    slot := fun b o q _ _ _ => ⟨o.slots, grown b o q⟩
    free := fun b o q n _ => apart b o q n
    there := fun b o q _ => ⟨o, grown b o q⟩
    tups := fun b xs q => more b _ q
    frzs := fun b o u q => more b _ q
    tbls := fun b ps q => ⟨#[], by rw [more b _ q]; simp⟩ }
  have ok : L2.HOk X.prog X.w H' h' := by
    intro b u q
    cases e : H b with
    | none => exact new b u q e
    | some v =>
      have same : v = u := Option.some.inj ((more b v e).symm.trans q)
      subst same
      exact (I.hok b v e).stay (fun c o _ z => grown c o z) (fun c z => more c _ z) (fun c xs z => more c _ z)
  exact I.call (h' := h') (g' := s.gens) (d' := s.drawn) (t' := tk) (ch := []) un ok I.bare (fun b z => absurd z List.not_mem_nil)

theorem rows_in {pins : List (Addr × Obj)} {σ : L2.St} {H : Hp} {s : Shared} {h' : Heap} {tk S : Nat} {as : List Addr} {rows : List (List Value)} {vrows : List (List V)} {c : Nat} (I : Inv X pins σ H s) (hS0 : s.heap.objs.size ≤ S)
    (grown : ∀ b o, s.heap.get? b = some o → h'.get? b = some o) (hS : h'.get? S = some { cls := .type "list", dict := none, data := .seq (as.map Value.ref).toArray c, slots := #[] }) (small : as.length ≤ sizeLine)
    (bd : ∀ a ∈ as, S < a) (rise : as.Pairwise (· < ·)) (pr : Paired (TupF h') as rows) (rel : Paired Vals vrows rows) (wide : ∀ r ∈ vrows, r.length ≤ sizeLine) :
    ∃ H' : Hp, Ex H H' ∧ H S = none ∧ (∀ t ∈ as, H t = none) ∧ S ∉ as ∧ H' S = some (.lst (as.map V.ref)) ∧ Paired (fun t row => H' t = some (.tup row)) as vrows ∧ Inv X pins σ H' { s with heap := h', toks := tk } := by
  have lens : as.length = vrows.length := by rw [Paired.length pr, Paired.length rel]
  have offS : S ∉ as := fun z => absurd (bd S z) (Nat.lt_irrefl S)
  have nodup : as.Nodup := rise.imp fun q => Nat.ne_of_lt q
  have nS : H S = none := I.hok.fresh hS0
  have nA : ∀ t ∈ as, H t = none := fun t ht => I.hok.fresh (Nat.le_trans hS0 (Nat.le_of_lt (bd t ht)))
  let H1 : Hp := upd H S (.lst (as.map V.ref))
  have tups := putTs_at as vrows H1 lens nodup
  have list_at : putTs H1 as vrows S = some (.lst (as.map V.ref)) := (putTs_off as vrows H1 offS).trans L2.upd_same
  have else_ : ∀ b, b ∉ as → b ≠ S → putTs H1 as vrows b = H b := fun b q1 q2 => (putTs_off as vrows H1 q1).trans (L2.upd_ne q2)
  have more : Ex H (putTs H1 as vrows) := by
    intro b u e
    have b1 : b ∉ as := fun z => by rw [nA b z] at e; cases e
    have b2 : b ≠ S := fun z => by rw [z, nS] at e; cases e
    rw [else_ b b1 b2]
    exact e
  refine ⟨putTs H1 as vrows, more, nS, nA, offS, list_at, tups, track I grown more ?_ ?_⟩
  · intro b o e n
    have lt := Nat.lt_of_lt_of_le (Heap.lt_size e) hS0
    rw [else_ b (fun z => absurd (Nat.lt_trans lt (bd b z)) (Nat.lt_irrefl b)) (Nat.ne_of_lt lt)]
    exact n
  · intro b u e n
    by_cases hb : b ∈ as
    · obtain ⟨j, hj⟩ := List.getElem?_of_mem hb
      obtain ⟨vr, e1, e2⟩ := paired_ix tups hj
      obtain ⟨r, e3, e4⟩ := paired_ix pr hj
      obtain ⟨r', e5, e6⟩ := paired_ix rel e1
      have er : r' = r := Option.some.inj (e5.symm.trans e3)
      subst er
      have eu : u = .tup vr := Option.some.inj (e.symm.trans e2)
      subst eu
      exact ⟨wide vr (List.mem_of_getElem? e1), r', e6, ⟨_, e4, rfl, _, rfl⟩⟩
    · by_cases hb2 : b = S
      · subst hb2
        have eu : u = .lst (as.map V.ref) := Option.some.inj (e.symm.trans list_at)
        subst eu
        exact ⟨by rw [List.length_map]; exact small, as.map Value.ref, c, refs_vals as, hS⟩
      · rw [else_ b hb hb2, n] at e
        cases e
end
end Ech

namespace Ech
open PySem PySem.W PySem.Calls PyProof.Rows
open PySem (Draws)
open L2 (V Hp HO Cx Inv PE PA TE TA VK RelV Vals upd SqL SqT EP AP thn Gl ld_blt)

section
variable {X : Cx}
theorem src_of {pins : List (Addr × Obj)} {σ : L2.St} {H : Hp} {s : Shared} {a : Addr} {xs : List V} (I : Inv X pins σ H s) (h : SqL X.K H a xs ∨ SqT X.K H a xs) : ∃ its : List Value, Vals xs its ∧ SrcIs s.heap a its ∧ xs.length ≤ sizeLine := by
  rcases h with h | h
  · obtain ⟨its, r, p, z⟩ := I.list h
    exact ⟨its, r, .lst p.isList, z⟩
  · obtain ⟨its, r, p, z⟩ := I.tuple h
    exact ⟨its, r, .tup (show s.heap.IsTuple a its.toArray from p), z⟩
theorem srcs_of {pins : List (Addr × Obj)} {σ : L2.St} {H : Hp} {s : Shared} (I : Inv X pins σ H s) : ∀ (srcs : List (Addr × List V)), (∀ p ∈ srcs, SqL X.K H p.1 p.2 ∨ SqT X.K H p.1 p.2) →
    ∃ ls : List (Addr × List Value), Paired (fun (p : Addr × List V) (q : Addr × List Value) => p.1 = q.1 ∧ Vals p.2 q.2 ∧ p.2.length ≤ sizeLine) srcs ls ∧ ∀ q ∈ ls, SrcIs s.heap q.1 q.2
  | [], _ => ⟨[], .nil, fun _ h => absurd h List.not_mem_nil⟩
  | p :: r, h => by
    obtain ⟨ls, h1, h2⟩ := srcs_of I r fun q hq => h q (List.mem_cons_of_mem _ hq)
    obtain ⟨its, r1, r2, r3⟩ := src_of I (h p List.mem_cons_self)
    refine ⟨(p.1, its) :: ls, .cons ⟨rfl, r1, r3⟩ h1, fun q hq => ?_⟩
    rcases List.mem_cons.mp hq with e | hq
    · rw [e]; exact r2
    · exact h2 q hq
theorem vals_src : ∀ {srcs : List (Addr × List V)} {ls : List (Addr × List Value)} {us : List Value}, Paired (fun (p : Addr × List V) (q : Addr × List Value) => p.1 = q.1 ∧ Vals p.2 q.2 ∧ p.2.length ≤ sizeLine) srcs ls → Vals (srcs.map fun p => V.ref p.1) us → us = ls.map fun q => Value.ref q.1
  | _, _, _, .nil, .nil => rfl
  | _, _, _, .cons r t, .cons q u => by
    have e : _ = Value.ref _ := q
    rw [List.map_cons, e, r.1, vals_src t u]
theorem row_vals : ∀ {srcs : List (Addr × List V)} {ls : List (Addr × List Value)} {j : Nat} {row : List Value}, Paired (fun (p : Addr × List V) (q : Addr × List Value) => p.1 = q.1 ∧ Vals p.2 q.2 ∧ p.2.length ≤ sizeLine) srcs ls →
    (∀ p ∈ srcs, j < p.2.length) → Paired (fun (q : Addr × List Value) x => q.2[j]? = some x) ls row → Vals (zipRow (srcs.map (·.2)) j) row
  | _, _, _, _, .nil, _, .nil => .nil
  | p :: srcs, q :: ls, j, x :: row, .cons r t, lt, .cons u v => by
    have lj := lt p List.mem_cons_self
    have rest := row_vals t (fun p hp => lt p (List.mem_cons_of_mem _ hp)) v
    obtain ⟨w, e1, e2⟩ := Vals.get r.2.1 (i := j) (List.getElem?_eq_getElem lj)
    rw [u] at e1
    cases e1
    refine .cons ?_ rest
    show RelV (p.2.getD j .non) x
    rw [List.getD_eq_getElem?_getD, List.getElem?_eq_getElem lj]
    exact e2

end
structure SrcAt {prog : Program} {w : World} {A : Around} (a : Src prog w A) (p : Addr × List Value) : Prop where
  fp : a.fp = [a.it, p.1]
  n : a.n = p.2.length
  P : ∀ k x, a.P k x ↔ p.2[k]? = some x
  St : ∀ k h, a.St k h ↔ ItIs h a.it p.1 p.2 k
theorem mk_srcs {prog : Program} {w : World} {A : Around} (hh : A.handled = none) {h' : Heap} {B : Nat} : ∀ {is : List Addr} {ls : List (Addr × List Value)}, Paired (fun i (p : Addr × List Value) => ItIs h' i p.1 p.2 0) is ls → (∀ i ∈ is, B ≤ i) → (∀ p ∈ ls, p.1 < B) →
    ∃ ss : List (Src prog w A), ss.map (·.it) = is ∧ Paired SrcAt ss ls
  | _, _, .nil, _, _ => ⟨[], rfl, .nil⟩
  | i :: is, p :: ls, .cons r t, h1, h2 => by
    obtain ⟨ss, e, q⟩ := mk_srcs (prog := prog) (w := w) hh t (fun i hi => h1 i (List.mem_cons_of_mem _ hi)) (fun p hp => h2 p (List.mem_cons_of_mem _ hp))
    have ne : p.1 ≠ i := Nat.ne_of_lt (Nat.lt_of_lt_of_le (h2 p List.mem_cons_self) (h1 i List.mem_cons_self))
    exact ⟨⟨i, [i, p.1], p.2.length, _, _, draws_it hh i p.1 ne p.2⟩ :: ss, by rw [List.map_cons, e], .cons ⟨rfl, rfl, fun _ _ => Iff.rfl, fun _ _ => Iff.rfl⟩ q⟩
theorem paired_flip {α β : Type} {F : α → β → Prop} : ∀ {xs : List α} {ys : List β}, Paired F xs ys → Paired (fun y x => F x y) ys xs
  | _, _, .nil => .nil
  | _, _, .cons r t => .cons r (paired_flip t)
theorem paired_trans {α β γ : Type} {F : α → β → Prop} {G : β → γ → Prop} : ∀ {xs : List α} {ys : List β} {zs : List γ}, Paired F xs ys → Paired G ys zs → Paired (fun x z => ∃ y, F x y ∧ G y z) xs zs
  | _, _, _, .nil, .nil => .nil
  | _, _, _, .cons r t, .cons r' t' => .cons ⟨_, r, r'⟩ (paired_trans t t')

section
variable {X : Cx} {e : Expr} {es : List Expr} {t : TA} {p p2 pos pos2 : Pos}
def ZCall (X : Cx) (as : List Expr) (pos2 : Pos) (t : TA) : Prop := ∀ (pins : List (Addr × Obj)) (s : Shared) (σ : L2.St) (H : Hp) (P : List V → Hp → Prop) (R : Value → Shared → Prop), Inv X pins σ H s → t σ H P →
  (∀ us s1, (∃ vs H1, Inv X pins σ H1 s1 ∧ Vals vs us ∧ P vs H1) → wpAny (model X.prog X.w) X.A (call (.type "zip") us []) R X.xe s1) → wpAny (model X.prog X.w) X.A (callWith pos2 (.type "zip") [] (backTo pos2 (starEach as X.env)) []) R X.xe s
theorem zcall_plain (ha : PA X (e :: es) t)
    (hs2 : starEach (e :: es) X.env = (false, eval e X.env) :: starEach es X.env := by rfl) (hpl : (backTo pos2 (starEach es X.env)).any (·.1) = false := by rfl) : ZCall X (e :: es) pos2 t :=
  fun pins s σ H P R I h k => callWith_type1 (thn (ha.run pos2 pins s σ H P I h) fun us s1 z => k us s1 z) hs2 hpl
theorem u_lz_of {as : List Expr} (hc : X.calm = true) (hg : Gl X "list") (hm : X.mg "list" = none) (hg2 : Gl X "zip") (hm2 : X.mg "zip" = none) (hz : ZCall X as pos2 t)
    (hs : starEach [.Call (.Name "zip" p2) as [] pos2] X.env = (false, eval (.Call (.Name "zip" p2) as [] pos2) X.env) :: starEach [] X.env := by rfl) :
    PE X (.Call (.Name "list" p) [.Call (.Name "zip" p2) as [] pos2] [] pos) (uLZ X.K t) := by
  constructor
  intro pins s σ H Q I h
  refine wpAny_Call_Name_kw (ld_blt I hg hm (by decide +kernel : bootBuiltins "list" = some (.type "list")) ?_)
  refine callWith_type1 ?_ hs rfl
  rw [hs]
  show wpAny _ _ (spliced ((false, eval (.Call (.Name "zip" p2) as [] pos2) X.env) :: backTo pos (starEach [] X.env))) _ _ s
  refine spliced_cons ?_
  refine Call_ (ld_blt I hg2 hm2 boot_zip (hz pins s σ H _ _ I h ?_))
  rintro us s1 ⟨vs, H1, I1, r1, srcs, ev, n0, n5, hsrc, q⟩
  subst ev
  obtain ⟨ls, pr, src⟩ := srcs_of I1 srcs hsrc
  have eu := vals_src pr r1
  subst eu
  have ln : srcs.length = ls.length := Paired.length pr
  refine zip_call (by omega) (by omega) src ?_
  intro is h' TI prI bd rise szT sz2 hz hI hO kp
  refine spliced_nil ?_
  have hh : X.A.handled = none := I1.ok.hd hc
  have low : ∀ q ∈ ls, q.1 < s1.heap.objs.size := fun q hq => (src q hq).lt
  obtain ⟨ss, eit, at_⟩ := mk_srcs (prog := X.prog) (w := X.w) (A := X.A.in1.in1.in1) hh prI (fun i hi => (bd i hi).1) low
  have lss : ss.length = ls.length := Paired.length at_
  have src_at : ∀ a ∈ ss, ∃ q ∈ ls, SrcAt a q := fun a ha => paired_mem at_ a ha
  have it_in : ∀ a ∈ ss, a.it ∈ is := fun a ha => by rw [← eit]; exact List.mem_map_of_mem ha
  have hTIlt : TI < h'.objs.size := by rw [sz2]; exact Nat.lt_succ_of_le (Nat.le_succ_of_le (Nat.le_succ TI))
  have nlen : minLen (srcs.map (·.2)) ≤ sizeLine := by
    obtain ⟨l, hl, e2⟩ := minLen_eq (ls := srcs.map (·.2)) (by intro z; have := congrArg List.length z; simp at this; rw [this] at n0; exact absurd n0 (by decide))
    obtain ⟨p, hp, e3⟩ := List.mem_map.mp hl
    obtain ⟨q, hq, e4⟩ := paired_mem pr p hp
    rw [e2, ← e3]
    exact e4.2.2
  have L : SepL ss (TI + 2) TI (TI + 1) h'.objs.size (minLen (srcs.map (·.2))) := by
    have far : ∀ a ∈ ss, ∀ c ∈ a.fp, c < TI := by
      intro a ha c hc'
      obtain ⟨q, hq, sa⟩ := src_at a ha
      rw [sa.fp] at hc'
      rcases List.mem_cons.mp hc' with e | hc'
      · rw [e]; exact (bd _ (it_in a ha)).2
      · rw [List.mem_singleton.mp hc']; exact Nat.lt_of_lt_of_le (low q hq) szT
    have lens : ∀ a ∈ ss, ∃ p ∈ srcs, a.n = p.2.length := by
      intro a ha
      obtain ⟨q, hq, sa⟩ := src_at a ha
      obtain ⟨p, hp, e2⟩ := paired_mem (paired_flip pr) q hq
      exact ⟨p, hp, by rw [sa.n]; exact e2.2.1.length.symm⟩
    have inP : ∀ a ∈ ss, a.it ∈ a.fp := fun a ha => by
      obtain ⟨q, hq, sa⟩ := src_at a ha
      rw [sa.fp]
      exact List.mem_cons_self
    have c1 : TI ≠ TI + 2 := Nat.ne_of_lt (Nat.lt_succ_of_lt (Nat.lt_succ_self TI))
    have c2 : TI + 1 ≠ TI + 2 := Nat.ne_of_lt (Nat.lt_succ_self (TI + 1))
    have c3 : TI ≠ TI + 1 := Nat.ne_of_lt (Nat.lt_succ_self TI)
    have f1 : ∀ a ∈ ss, TI + 2 ∉ a.fp := fun a ha z => absurd (far a ha _ z) (Nat.not_lt.mpr (Nat.le_succ_of_le (Nat.le_succ TI)))
    have f2 : ∀ a ∈ ss, TI ∉ a.fp := fun a ha z => absurd (far a ha _ z) (Nat.lt_irrefl TI)
    have f3 : ∀ a ∈ ss, TI + 1 ∉ a.fp := fun a ha z => absurd (far a ha _ z) (Nat.not_lt.mpr (Nat.le_succ TI))
    have f4 : ∀ a ∈ ss, h'.objs.size ∉ a.fp := fun a ha z => absurd (Nat.lt_trans (far a ha _ z) hTIlt) (Nat.lt_irrefl _)
    have f5 : ∀ a ∈ ss, a.it < h'.objs.size := fun a ha => Nat.lt_trans (bd _ (it_in a ha)).2 hTIlt
    have f6 : ∀ a ∈ ss, TI ≠ a.it := fun a ha => Ne.symm (Nat.ne_of_lt (bd _ (it_in a ha)).2)
    refine ⟨⟨c1, c2, c3, inP, f1, f2, f3, ?_⟩, ?_, hTIlt, ?_, f5, f4, ?_, ?_, ?_, ?_, f6⟩
    · have rise2 := rise
      rw [← eit, List.pairwise_map] at rise2
      refine rise2.imp_of_mem ?_
      intro a b ha hb hab
      have na : ∀ (c d : Src X.prog X.w X.A.in1.in1.in1), c ∈ ss → d ∈ ss → c.it ≠ d.it → c.it ∉ d.fp := by
        intro c d hc' hd ne z
        obtain ⟨q, hq, sd⟩ := src_at d hd
        rw [sd.fp] at z
        rcases List.mem_cons.mp z with z | z
        · exact ne z
        · have e3 := List.mem_singleton.mp z
          have h1 := (bd _ (it_in c hc')).1
          rw [e3] at h1
          exact absurd (Nat.lt_of_lt_of_le (low q hq) h1) (Nat.lt_irrefl _)
      exact ⟨na a b ha hb (Nat.ne_of_lt hab), na b a hb ha (Nat.ne_of_gt hab)⟩
    · rw [sz2]; exact Nat.lt_succ_self _
    · rw [sz2]; exact Nat.lt_succ_of_lt (Nat.lt_succ_self _)
    · intro z
      rw [z] at lss
      have : ls.length = 0 := lss.symm
      omega
    · exact Nat.le_trans (by omega) (by decide : 5 ≤ sizeLine)
    · intro a ha
      obtain ⟨p, hp, e2⟩ := lens a ha
      rw [e2]
      exact minLen_le (List.mem_map_of_mem hp)
    · obtain ⟨l, hl, e2⟩ := minLen_eq (ls := srcs.map (·.2)) (by intro z; have := congrArg List.length z; simp at this; rw [this] at n0; exact absurd n0 (by decide))
      obtain ⟨p, hp, e3⟩ := List.mem_map.mp hl
      obtain ⟨q, hq, e4⟩ := paired_mem pr p hp
      obtain ⟨a, ha, sa⟩ := paired_mem (paired_flip at_) q hq
      exact ⟨a, ha, by rw [sa.n, e2, ← e3]; exact e4.2.1.length⟩
  have eits : ss.map (fun a => Value.ref a.it) = is.map Value.ref := by rw [← eit, List.map_map]; rfl
  refine gather_list (n := minLen (srcs.map (·.2))) (J := ZJ ss (TI + 2) TI (TI + 1) h'.objs.size h' (minLen (srcs.map (·.2)))) (zip_stream L) nlen hz ?_ ?_
  · have up : ∀ c o, h'.get? c = some o → (h'.push { cls := .type "list", data := .seq #[] }).get? c = some o := fun c o q => Heap.get?_push_of_some _ q
    refine ⟨⟨[], [], rfl, .nil, fun j row hj => by simp at hj, fun a ha => absurd ha List.not_mem_nil, List.Pairwise.nil, fun _ => rfl, fun _ => Or.inl ⟨rfl, up _ _ hz, _, up _ _ hO, ?_⟩⟩, fun c o _ _ _ _ q => up c o q, fun _ => ?_, fun _ => ?_, fun _ a ha => ?_⟩
    · rw [List.length_map, ← eit, List.length_map]
    · show h'.objs.size < (h'.push _).objs.size
      rw [Heap.size_push]
      exact Nat.lt_succ_self _
    · rw [eits]
      exact up _ _ hI
    · obtain ⟨j, hj⟩ := List.getElem?_of_mem ha
      obtain ⟨qs, hq, sa⟩ := paired_ix at_ hj
      have hi : is[j]? = some a.it := by rw [← eit, List.getElem?_map, hj]; rfl
      obtain ⟨q2, hq2, itis⟩ := paired_ix prI hi
      rw [hq] at hq2
      cases hq2
      exact (sa.St 0 _).mpr (itis.at (fun o z => up _ o z) fun o z => up _ o z)
  · rintro h2 tk acc c ⟨⟨as, rows, e1, prR, pp, bdA, riseA, _, _⟩, old, _, _, _⟩ hlen hS
    have kp2 : ∀ b o, s1.heap.get? b = some o → h2.get? b = some o := by
      intro b o z
      have lt : b < s1.heap.objs.size := Heap.lt_size z
      have ltT : b < TI := Nat.lt_of_lt_of_le lt szT
      exact old b o (Nat.ne_of_lt (Nat.lt_trans ltT hTIlt)) (Nat.ne_of_lt (Nat.lt_succ_of_lt (Nat.lt_succ_of_lt ltT))) (Nat.ne_of_lt (Nat.lt_succ_of_lt ltT)) (fun a ha => Nat.ne_of_lt (Nat.lt_of_lt_of_le lt (bd _ (it_in a ha)).1)) (kp b o z)
    have la : as.length = minLen (srcs.map (·.2)) := by rw [← hlen, e1, List.length_map]
    have lr : rows.length = minLen (srcs.map (·.2)) := by rw [← la]; exact (Paired.length prR).symm
    have rel : Paired Vals (zipV (srcs.map (·.2))) rows := by
      have go : ∀ (m : Nat) (rs : List (List Value)), rs.length + m = minLen (srcs.map (·.2)) → (∀ j row, rs[j]? = some row → Vals (zipRow (srcs.map (·.2)) (m + j)) row) → Paired Vals ((List.range' m rs.length).map (zipRow (srcs.map (·.2)))) rs := by
        intro m rs
        induction rs generalizing m with
        | nil => intro _ _; exact .nil
        | cons r rs ih =>
          intro hl hv
          refine .cons (by simpa using hv 0 r rfl) (ih (m + 1) (by simp only [List.length_cons] at hl; omega) fun j row hj => ?_)
          have := hv (j + 1) row (by simpa using hj)
          rw [show m + 1 + j = m + (j + 1) by omega]
          exact this
      have full := go 0 rows (by omega) (fun j row hj => by
        have hj2 : j < minLen (srcs.map (·.2)) := by rw [← lr]; exact (List.getElem?_eq_some_iff.mp hj).1
        rw [Nat.zero_add]
        refine row_vals pr (fun p hp => Nat.lt_of_lt_of_le hj2 (minLen_le (List.mem_map_of_mem hp))) ?_
        have pj := pp j row hj
        have tr := paired_trans (paired_flip at_) pj
        exact paired_imp tr fun q hq x ⟨a, sa, hx⟩ => (sa.P j x).mp hx)
      unfold zipV
      rw [List.range_eq_range', ← lr]
      exact full
    have wide : ∀ r ∈ zipV (srcs.map (·.2)), r.length ≤ sizeLine := by
      intro r hr
      obtain ⟨j, _, e2⟩ := List.mem_map.mp hr
      rw [← e2]
      unfold zipRow
      rw [List.length_map, List.length_map]
      exact Nat.le_trans n5 (by decide)
    have hS0 : s1.heap.objs.size ≤ h'.objs.size := Nat.le_of_lt (Nat.lt_of_le_of_lt szT hTIlt)
    rw [e1] at hS
    obtain ⟨H2, x1, x2, x3, x4, x5, x6, J2⟩ := rows_in (tk := tk) I1 hS0 kp2 hS (by rw [la]; exact nlen) (fun a ha => (bdA a ha).1) riseA prR rel wide
    exact ⟨.ref h'.objs.size, H2, J2, rfl, q H2 _ as x1 x2 x3 x4 x5 x6⟩
theorem u_lz (hc : X.calm = true) (hg : Gl X "list") (hm : X.mg "list" = none) (hg2 : Gl X "zip") (hm2 : X.mg "zip" = none) (ha : PA X (e :: es) t)
    (hs : starEach [.Call (.Name "zip" p2) (e :: es) [] pos2] X.env = (false, eval (.Call (.Name "zip" p2) (e :: es) [] pos2) X.env) :: starEach [] X.env := by rfl)
    (hs2 : starEach (e :: es) X.env = (false, eval e X.env) :: starEach es X.env := by rfl) (hpl : (backTo pos2 (starEach es X.env)).any (·.1) = false := by rfl) :
    PE X (.Call (.Name "list" p) [.Call (.Name "zip" p2) (e :: es) [] pos2] [] pos) (uLZ X.K t) := u_lz_of hc hg hm hg2 hm2 (zcall_plain ha hs2 hpl) hs
end
end Ech

namespace Ech
open PySem PySem.Spec PyProof.Rows L2

/-! ### chains, while -/
section
variable {X : Cx} {a b c : Expr} {ta tb tc : TE} {pos : Pos}
theorem op_cl {f : Value → Value → Sem Value} {r : R2} (h : OpR X f r) : OpR X f (fun x y H Q => ∃ R : VK, r x y H R ∧ ∀ v H', R v H' → Q v H') :=
  fun pins s σ H x y v u Q I rx ry ⟨R, q, i⟩ => thn (h pins s σ H x y v u R I rx ry q) fun _ _ ⟨z, H1, I1, r1, q1⟩ => ⟨z, H1, I1, r1, i _ _ q1⟩
theorem u_chainT {op op' : CmpOp} {r r' : R2} (ho : OpR X (compareOp op) r) (ho' : OpR X (compareOp op') r') (ha : PE X a ta) (hb : PE X b tb) (hc : PE X c tc)
    (hm : lastMarks [op, op'] [b, c] = false := by with_unfolding_all rfl) : PT X (.Compare a [op, op'] [b, c] pos) (uTest (uChain r r' ta tb tc)) := by
  refine pt_wk (pt_chain (op_cl ho) (op_cl ho') (pe_cl ha) (pe_cl hb) (pe_cl hc) hm) fun σ H Q q => ?_
  refine ⟨_, q, fun x H1 q1 => ⟨_, q1, fun y H2 q2 => ⟨_, q2, fun z H3 q3 => ?_⟩⟩⟩
  obtain ⟨k, e, q4⟩ := boolOf_to q3
  refine ⟨k, e, ?_⟩
  cases k with
  | true => exact (if_pos rfl).mpr ⟨_, q4, fun w H4 q5 => ⟨_, q5, fun v H5 q6 => boolOf_to q6⟩⟩
  | false => exact (if_neg Bool.false_ne_true).mpr ⟨false, rfl, q4⟩
theorem u_while {tA : TT} {body : List Stmt} {t : TS} (hp : PassesOwn (model X.prog X.w) X.A X.env X.xe) (hc : PT X c tA) (hb : PSs X body t) : PS X (.While c body [] pos) (uWhile tA t) := by
  have hc' : PT X c (fun σ H Q => ∃ R : Bool → Hp → Prop, tA σ H R ∧ ∀ v H', R v H' → Q v H') := ⟨fun pins s σ H Q I ⟨R, q, i⟩ => pt_in hc i pins s σ H I q⟩
  refine ps_wk (ps_while hp hc' hb) fun D σ H ⟨W, h0, step⟩ => ⟨W, h0, fun m σ H w => ⟨_, step m σ H w, fun b H1 q => bite_if ?_⟩⟩
  cases b with
  | true => exact ⟨_, fun _ _ z => z, q⟩
  | false => exact q
end

/-! ### fields, objects -/
def uFld (C : Addr) (ta : TE) (f : PySem.Str) : TE := fun σ H Q => ta σ H fun x H1 => match x with
  | .ref a => ∃ dx fs v, H1 a = some (.ins C dx fs) ∧ fs.lookup f = some v ∧ Q v H1
  | _ => False
def uSetFld (C : Addr) (ta tv : TE) (f : PySem.Str) : TS := fun D σ H => tv σ H fun y H1 => ta σ H1 fun x H2 => match x with
  | .ref a => ∃ dx fs, H2 a = some (.ins C dx fs) ∧ fs.length < 1000 ∧ ∀ H3, Chg H2 a (.ins C dx (putF f y fs)) H3 → D.nx σ H3
  | _ => False
structure Made (H : Hp) (x dx C : Addr) (H1 : Hp) : Prop where
  nx : H x = none
  ndx : H dx = none
  ne : dx ≠ x
  eq : H1 = upd (upd H dx (.own x)) x (.ins C dx [])
def uMake (C : Addr) (sp : Sp) (dvs : List V) (E : XK) (t : TA) : TE := fun σ H Q => t σ H fun vs H1 => ∀ x dx H2, Made H1 x dx C H2 → sp (.ref x :: (vs ++ dvs)) H2 (fun v H3 => v = .non ∧ Q (.ref x) H3) E
def uProp (C : Addr) (sp : Sp) (E : XK) (ta : TE) : TE := fun σ H Q => ta σ H fun x H1 => match x with
  | .ref a => ∃ dx fs, H1 a = some (.ins C dx fs) ∧ sp [.ref a] H1 Q E
  | _ => False
section
variable {X : Cx} {e o value : Expr} {es : List Expr} {ta tv : TE} {t : TA} {pos pos' p apos : Pos} {C f : Addr} {n m x : PySem.Str} {CX : CXT} {k : Nat} {fd : FuncData} {ps : List PySem.Str} {sp : Sp} {dvs : List V} {ds : List Value} {E : XK}
theorem u_fld (c : Cls X.K C) (na : NoAttr X.K C n) (he : PE X e ta) (hb : attributeBase e n X.env (eval e X.env) = eval e X.env := by rfl) : PE X (.Attribute e n pos) (uFld C ta n) := by
  refine pe_wk (pe_fld (pe_cl he) hb) fun σ H Q q => ⟨_, q, fun v H1 q1 => ?_⟩
  cases v with
  | ref a =>
    obtain ⟨dx, fs, v, h1, h2, h3⟩ := q1
    exact ⟨a, C, dx, fs, v, rfl, h1, c, na, h2, h3⟩
  | _ => exact q1.elim
theorem u_setFld (c : Cls X.K C) (na : NoAttr X.K C n) (ha : PE X o ta) (hv : PE X value tv) (hs : swapsWith value (some (.Attribute o n pos')) pos.line X.env = pure false := by rfl) : PS X (.Assign [.Attribute o n pos'] value pos) (uSetFld C ta tv n) := by
  refine ps_wk (ps_fld (pe_cl ha) (pe_cl hv) hs) fun D σ H q => ⟨_, q, fun y H1 q1 => ⟨_, q1, fun v H2 q2 => ?_⟩⟩
  cases v with
  | ref a =>
    obtain ⟨dx, fs, h1, h2, h3⟩ := q2
    exact ⟨a, C, dx, fs, rfl, h1, c, na, h2, h3 _ ⟨rfl⟩⟩
  | _ => exact q2.elim
theorem u_make (M : Mk X.K C f) (F : FnOk X.prog X.w X.K X.mg X.base CX k f fd ps sp) (hr : Room (k + 1) X.A) (hg : Gl X x) (hm : X.mg x = some (.ref C)) (hb : Binds X.K fd ps ds) (hd : Vals dvs ds) (hx : Passes CX X E) (ha : PA X (e :: es) t)
    (hdb : (x == ("__debug__" : PySem.Str)) = false := by decide) (he : starEach (e :: es) X.env = (false, eval e X.env) :: starEach es X.env := by rfl) (hpl : (backTo pos (starEach es X.env)).any (·.1) = false := by rfl) :
    PE X (.Call (.Name x p) (e :: es) [] pos) (uMake C sp dvs E t) :=
  pe_wk (pe_make M F hr hg hm hb hd hx (pa_cl ha) hdb he hpl) fun σ H Q q => ⟨_, q, fun vs H1 q1 a dx h1 h2 h3 => q1 a dx _ ⟨h1, h2, h3, rfl⟩⟩
theorem u_prop {pp g : Addr} (he : PE X e ta) (c : Cls X.K C) (hp : PropOf X.K C n pp g) (F : FnOk X.prog X.w X.K X.mg X.base CX k g fd ps sp) (hr : Room (k + 1) X.A) (hb : Binds X.K fd ps []) (hx : Passes CX X.nox E)
    (hab : attributeBase e n X.env (eval e X.env) = eval e X.env := by rfl) : PE X (.Attribute e n pos) (uProp C sp E ta) := by
  refine pe_wk (pe_prop (pe_cl he) c hp F hr hb .nil hx hab) fun σ H Q q => ⟨_, q, fun v H1 q1 => ?_⟩
  cases v with
  | ref a =>
    obtain ⟨dx, fs, h1, h2⟩ := q1
    exact ⟨a, dx, fs, rfl, h1, h2⟩
  | _ => exact q1.elim
end

/-! ### calls of built-in things -/
def rLenU (K : PySem.W.Frag) : List V → Hp → VK → Prop := fun xs H Q => match xs with
  | [.str y] => y.length ≤ sizeLine ∧ Q (.int y.length) H
  | [.ref p] => ∃ ys, (SqL K H p ys ∨ SqT K H p ys) ∧ Q (.int ys.length) H
  | _ => False
def rIntU : List V → Hp → VK → Prop := fun xs H Q => match xs with
  | [.int i] => Q (.int i) H
  | [.bl k] => Q (.int (if k then 1 else 0)) H
  | [.str a] => ∃ n, PySem.intText? a = some n ∧ a.length ≤ 640 ∧ Q (.int n) H
  | _ => False
def rAbsU : List V → Hp → VK → Prop := fun xs H Q => match xs with
  | [.int i] => Q (.int i.natAbs) H
  | _ => False
def rMinU : List V → Hp → VK → Prop := fun xs H Q => match xs with
  | [.int i, .int j] => Q (.int (min i j)) H
  | _ => False
def rTupleU (K : PySem.W.Frag) : List V → Hp → VK → Prop := fun xs H Q => match xs with
  | [.ref p] => ∃ ys, (SqL K H p ys ∧ ∀ l H1, New H l (.tup ys) H1 → Q (.ref l) H1) ∨ (SqT K H p ys ∧ Q (.ref p) H)
  | _ => False
def rListU (K : PySem.W.Frag) : List V → Hp → VK → Prop := fun xs H Q => match xs with
  | [.ref p] => ∃ ys, (SqL K H p ys ∨ SqT K H p ys) ∧ ∀ l H1, New H l (.lst ys) H1 → Q (.ref l) H1
  | _ => False
def rAllU (K : PySem.W.Frag) : List V → Hp → VK → Prop := fun xs H Q => match xs with
  | [.ref p] => ∃ bs : List Bool, SqL K H p (bs.map V.bl) ∧ Q (.bl (bs.all id)) H
  | _ => False
def rIsiU (K : PySem.W.Frag) : List V → Hp → VK → Prop := fun xs H Q => rIsi K xs H Q ∨ rIsiT K xs H Q
section
variable {X : Cx}
theorem c_len : CallR X (.builtin "len") (rLenU X.K) := by
  refine call_wk call_len fun xs H Q h => ?_
  unfold rLenU at h
  split at h
  · exact ⟨_, _, rfl, ⟨h.1, rfl⟩, h.2⟩
  · obtain ⟨ys, h1 | h1, q⟩ := h
    · exact ⟨_, _, rfl, Or.inl ⟨ys, h1, rfl⟩, q⟩
    · exact ⟨_, _, rfl, Or.inr ⟨ys, h1, rfl⟩, q⟩
  · exact h.elim
theorem c_int : CallR X (.type "int") rIntU := by
  refine call_wk (call_or call_int1 call_int_str) fun xs H Q h => ?_
  unfold rIntU at h
  split at h
  · exact .inl (.inl ⟨_, rfl, h⟩)
  · exact .inl (.inr ⟨_, rfl, h⟩)
  · obtain ⟨n, h1, h2, h3⟩ := h
    exact .inr ⟨_, n, rfl, h1, h2, h3⟩
  · exact h.elim
theorem c_abs : CallR X (.builtin "abs") rAbsU := by
  refine call_wk call_abs fun xs H Q h => ?_
  unfold rAbsU at h
  split at h
  · rename_i i
    refine ⟨i, rfl, ?_⟩
    have e : (if i < 0 then -i else i) = (i.natAbs : Int) := by split <;> omega
    rw [e]
    exact h
  · exact h.elim
theorem c_min (hc : X.calm = true) : CallR X (.builtin "min") rMinU := by
  refine call_wk (call_min2 hc) fun xs H Q h => ?_
  unfold rMinU at h
  split at h
  · rename_i i j
    refine ⟨i, j, rfl, ?_⟩
    have e : (if j < i then j else i) = min i j := by split <;> omega
    rw [e]
    exact h
  · exact h.elim
theorem c_tuple : CallR X (.type "tuple") (rTupleU X.K) := by
  refine call_wk call_tuple_of fun xs H Q h => ?_
  unfold rTupleU at h
  split at h
  · obtain ⟨ys, ⟨h1, h2⟩ | ⟨h1, h2⟩⟩ := h
    · exact ⟨_, ys, rfl, .inl ⟨h1, fun l hl => h2 l _ ⟨hl, rfl⟩⟩⟩
    · exact ⟨_, ys, rfl, .inr ⟨h1, h2⟩⟩
  · exact h.elim
theorem c_list : CallR X (.type "list") (rListU X.K) := by
  refine call_wk call_list_of fun xs H Q h => ?_
  unfold rListU at h
  split at h
  · obtain ⟨ys, h1, h2⟩ := h
    exact ⟨_, ys, rfl, h1, fun l hl => h2 l _ ⟨hl, rfl⟩⟩
  · exact h.elim
theorem c_all (hc : X.calm = true) : CallR X (.builtin "all") (rAllU X.K) := by
  refine call_wk (cr_all hc) fun xs H Q h => ?_
  unfold rAllU at h
  split at h
  · obtain ⟨bs, h1, h2⟩ := h
    exact ⟨_, bs, rfl, h1, h2⟩
  · exact h.elim
theorem c_isi : CallR X (.builtin "isinstance") (rIsiU X.K) := call_or call_isi call_isiT
end

/-! ### subscripts, slices, stores -/
def rIxU (K : PySem.W.Frag) : R2 := fun x y H Q => match x, y with
  | .ref p, .int i => ∃ xs v, (SqL K H p xs ∨ SqT K H p xs) ∧ atI xs i = some v ∧ Q v H
  | .str z, .int i => ∃ c, z.length ≤ sizeLine ∧ atI z.cps.toList i = some c ∧ Q (.str ⟨#[c]⟩) H
  | _, _ => False
def rSlU (K : PySem.W.Frag) : V → Option Int → Option Int → Hp → VK → Prop := fun x lo hi H Q => match x with
  | .ref a => ∃ xs, (SqL K H a xs ∧ ∀ p H1, New H p (.lst (cutV xs lo hi)) H1 → Q (.ref p) H1) ∨
      (SqT K H a xs ∧ ¬ (HT.sIx xs.length 0 lo = 0 ∧ HT.sIx xs.length xs.length hi = xs.length) ∧ ∀ p H1, New H p (.tup (cutV xs lo hi)) H1 → Q (.ref p) H1)
  | _ => False
def uDGet (td ty : TE) : TE := fun σ H Q => td σ H fun x H1 => ty σ H1 fun y H2 => match x with
  | .ref a => ∃ v, DGet H2 a y (some v) ∧ Q v H2
  | _ => False
def uDPut (td ty tv : TE) : TS := fun D σ H => tv σ H fun v H1 => td σ H1 fun x H2 => ty σ H2 fun y H3 => match x with
  | .ref a => ∃ H4, DPut H3 a y v H4 ∧ D.nx σ H4
  | _ => False
def uSetIx (K : PySem.W.Frag) : V → V → V → Hp → (Hp → Prop) → Prop := fun o i v H Q => match o, i with
  | .ref p, .int k => ∃ xs j, H p = some (.lst xs) ∧ ixN xs.length k = some j ∧ ∀ H1, Chg H p (.lst (xs.set j v)) H1 → Q H1
  | _, _ => False
end Ech

namespace Ech
open PySem PySem.Spec PyProof.Rows L2

section
variable {X : Cx} {a b o i value e : Expr} {es : List Expr} {ta tb td ty tv te to : TE} {t : TA} {pos pos' apos cpos : Pos}
theorem ix_u : IxR X (rIxU X.K) := by
  refine ix_wk ix_seq fun x y H Q h => ?_
  unfold rIxU at h
  split at h
  · obtain ⟨xs, v, h1 | h1, h2, h3⟩ := h
    · exact .inl ⟨_, xs, _, v, rfl, rfl, h1, h2, h3⟩
    · exact .inr (.inl ⟨_, xs, _, v, rfl, rfl, h1, h2, h3⟩)
  · obtain ⟨c, h1, h2, h3⟩ := h
    exact .inr (.inr ⟨_, _, c, rfl, rfl, h1, h2, h3⟩)
  · exact h.elim
theorem sl_u : SlR X (rSlU X.K) := by
  refine sl_wk (sl_list.or sl_tup) fun x lo hi H Q h => ?_
  unfold rSlU at h
  split at h
  · obtain ⟨xs, ⟨h1, h2⟩ | ⟨h1, h2, h3⟩⟩ := h
    · exact .inl ⟨_, xs, rfl, h1, fun p hp => h2 p _ ⟨hp, rfl⟩⟩
    · exact .inr ⟨_, xs, rfl, h1, h2, fun p hp => h3 p _ ⟨hp, rfl⟩⟩
  · exact h.elim
theorem u_dget (hu : X.A.units + 1 < cLine) (ho : PE X o td) (hi : PE X i ty) (hs : NoSl i := by exact fun _ _ => rfl) : PE X (.Subscript o i pos) (uDGet td ty) := by
  refine pe_wk (pe_dget hu (pe_cl ho) (pe_cl hi) hs) fun σ H Q q => ⟨_, q, fun x H1 q1 => ⟨_, q1, fun y H2 q2 => ?_⟩⟩
  cases x with
  | ref d =>
    obtain ⟨v, h1, h2⟩ := q2
    exact ⟨d, v, rfl, h1, h2⟩
  | _ => exact q2.elim
theorem u_dput (hu : X.A.units + 1 < cLine) (ho : PE X o td) (hi : PE X i ty) (hv : PE X value tv) (hs : swapsWith value (some (.Subscript o i pos')) pos.line X.env = pure false := by rfl) : PS X (.Assign [.Subscript o i pos'] value pos) (uDPut td ty tv) := by
  refine ps_wk (ps_dput hu (pe_cl ho) (pe_cl hi) (pe_cl hv) hs) fun D σ H q => ⟨_, q, fun v H1 q1 => ⟨_, q1, fun x H2 q2 => ⟨_, q2, fun y H3 q3 => ?_⟩⟩⟩
  cases x with
  | ref d =>
    obtain ⟨H4, h1, h2⟩ := q3
    exact ⟨d, H4, rfl, h1, h2⟩
  | _ => exact q3.elim
theorem set_u : PSet X (uSetIx X.K) := by
  intro pins s σ H o i v ov iv u Q I ro ri rv h
  refine set_list pins s σ H o i v ov iv u Q I ro ri rv ?_
  unfold uSetIx at h
  split at h
  · obtain ⟨xs, j, h1, h2, h3⟩ := h
    exact ⟨_, xs, _, j, rfl, rfl, h1, h2, h3 _ ⟨rfl⟩⟩
  · exact h.elim
end

/-! ### methods of lists -/
def uMut (K : PySem.W.Frag) (to : TE) (t : TA) (r : Addr → List V → List V → Hp → (List V → Prop) → Prop) : TE := fun σ H Q => to σ H fun x H1 => match x with
  | .ref l => (∃ xs, SqL K H1 l xs) ∧ t σ H1 fun ys H2 => ∃ xs, H2 l = some (.lst xs) ∧ r l xs ys H2 fun zs => ∀ H3, Chg H2 l (.lst zs) H3 → Q .non H3
  | _ => False
def mApp : Addr → List V → List V → Hp → (List V → Prop) → Prop := fun _ xs ys _ k => match ys with
  | [y] => xs.length < sizeLine ∧ k (xs ++ [y])
  | _ => False
section
variable {X : Cx} {o e : Expr} {es : List Expr} {to : TE} {t : TA} {apos cpos : Pos}
theorem u_append (ho : PE X o to) (ha : PA X (e :: es) t) (hb : attributeBase o "append" X.env (eval o X.env) = eval o X.env := by rfl)
    (hfew : methodCallForm (e :: es).length (backTo cpos (starEach (e :: es) X.env)) (backToKw cpos (keywordEach [] X.env)) = true := by rfl) (hl : (apos.endLine == cpos.line) = true := by rfl)
    (hs : starEach (e :: es) X.env = (false, eval e X.env) :: starEach es X.env := by rfl) (hpl : (backTo cpos (starEach es X.env)).any (·.1) = false := by rfl) :
    PE X (.Call (.Attribute o "append" apos) (e :: es) [] cpos) (uMut X.K to t mApp) := by
  refine pe_wk (pe_bm PySem.F.plainAttrs_list PySem.F.slot_list_append PySem.F.type_list_append mt_append (pe_cl ho) (pa_cl ha) hb hfew hl hs hpl) fun σ H Q q => ⟨_, q, fun x H1 q1 => ?_⟩
  cases x with
  | ref l =>
    obtain ⟨⟨xs, hx⟩, q2⟩ := q1
    refine ⟨Or.inl ⟨rfl, xs, hx⟩, _, q2, fun ys H2 ⟨xs, h1, h2⟩ => ?_⟩
    unfold mApp at h2
    split at h2
    · exact ⟨l, xs, _, rfl, rfl, h1, h2.1, h2.2 _ ⟨rfl⟩⟩
    · exact h2.elim
  | _ => exact q1.elim
end

/-! ### what is walked -/
abbrev WC := Nat → (Hp → Prop) → (Nat → Hp → V → Hp → Prop) → Hp → Prop
abbrev TW := L2.St → Hp → WC → Prop
structure PIU (X : Cx) (tg iter : Expr) (w : TW) : Prop where
  run : ∀ (pins : List (Addr × Obj)) (s : Shared) (σ : L2.St) (H : Hp) (C : WC), Inv X pins σ H s → w σ H C →
    wpAny (model X.prog X.w) X.A (eval iter X.env) (fun v s1 => wpAny (model X.prog X.w) X.A (pyIter v) (PIE X pins σ tg fun J H1 => ∃ n G Y, Walk J n G Y ∧ C n G Y H1) X.xe s1) X.xe s
def Sq (b : Bool) (K : PySem.W.Frag) (H : Hp) (a : Addr) (xs : List V) : Prop := match b with
  | true => SqL K H a xs
  | false => SqT K H a xs
def wSeq (K : PySem.W.Frag) (tl : TE) : TW := fun σ H C => tl σ H fun x H1 => match x with
  | .ref a => ∃ b xs, Sq b K H1 a xs ∧ C xs.length (fun H => Sq b K H a xs) (YAt xs) H1
  | _ => False
def wRange1 (t : TA) : TW := fun σ H C => t σ H fun vs H1 => match vs with
  | [.int j] => (-(2 ^ 62) ≤ j ∧ j < 2 ^ 62) ∧ C j.toNat (fun _ => True) (YFn fun i => .int (0 + i)) H1
  | _ => False
def wZip (K : PySem.W.Frag) (t : TA) : TW := fun σ H C => t σ H fun vs H1 => match vs with
  | [.ref a, .ref b] => ∃ f xs ys, Sq f K H1 a xs ∧ Sq f K H1 b ys ∧ C (min xs.length ys.length) (fun H => Sq f K H a xs ∧ Sq f K H b ys) (YPair (fun i => xs[i]?) (fun i => ys[i]?)) H1
  | _ => False
section
variable {X : Cx} {tg e e2 : Expr} {tl : TE} {t : TA} {p pos tpos : Pos}
theorem pie_mono {pins : List (Addr × Obj)} {σ : L2.St} {R R' : It → Hp → Prop} {v : Value} {s : Shared} (h : PIE X pins σ tg R v s) (i : ∀ J H, R J H → R' J H) : PIE X pins σ tg R' v s := by
  obtain ⟨it, fp, tn, J, H', e, I, T, st, f, r⟩ := h
  exact ⟨it, fp, tn, J, H', e, I, T, st, f, i J H' r⟩
theorem piu_of {wi : TI} {w : TW} (h : PI X tg e wi) (i : ∀ σ H C, w σ H C → wi σ H fun J H1 => ∃ n G Y, Walk J n G Y ∧ C n G Y H1) : PIU X tg e w :=
  ⟨fun pins s σ H C I q => h.run pins s σ H _ I (i σ H C q)⟩
theorem piu_seq (hl : PE X e tl) : PIU X tg e (wSeq X.K tl) := by
  constructor
  intro pins s σ H C I h
  refine thn (hl.run pins s σ H _ I h) ?_
  rintro v s1 ⟨x, H1, I1, r1, q1⟩
  cases x with
  | ref a =>
    obtain ⟨b, xs, hq, q⟩ := q1
    cases r1
    have fresh : ∀ c ∈ [s1.heap.objs.size], FpOk X pins H1 c := fun c hc => by
      rw [List.mem_singleton.mp hc]
      exact I1.fpOk (Nat.le_refl _) (I1.hok.fresh (Nat.le_refl _))
    cases b with
    | true =>
      obtain ⟨its, rv, pl, hz⟩ := I1.list hq
      refine wpAny_pyIter_list pl.isList ?_
      have I2 := I1.kept (h' := s1.heap.push { cls := .type "list_iterator", data := .fields #[.ref a, .int 0 0] }) (t' := s1.toks) fun b o z => Heap.get?_push_of_some _ z
      exact ⟨_, _, _, _, H1, rfl, I2, turn_list a _, ⟨_, Heap.get?_push_size _ rfl, rfl, rfl⟩, fresh, _, _, _, walk_list, q⟩
    | false =>
      obtain ⟨its, rv, pl, hz⟩ := I1.tuple hq
      refine wpAny_pyIter_tuple (show s1.heap.IsTuple a its.toArray from pl) ?_
      have I2 := I1.kept (h' := s1.heap.push { cls := .type "tuple_iterator", data := .fields #[.ref a, .int 0 0] }) (t' := s1.toks) fun b o z => Heap.get?_push_of_some _ z
      exact ⟨_, _, _, _, H1, rfl, I2, turn_tuple a _, ⟨_, Heap.get?_push_size _ rfl, rfl, rfl⟩, fresh, _, _, _, walk_tup, q⟩
  | _ => exact q1.elim
theorem piu_range1 (hg : Gl X "range") (hm : X.mg "range" = none) (ha : PA X [e] t) (hs : starEach [e] X.env = [(false, eval e X.env)] := by rfl) : PIU X tg (.Call (.Name "range" p) [e] [] pos) (wRange1 t) := by
  refine piu_of (pi_range1 hg hm (pa_cl ha) hs) fun σ H C q => ⟨_, q, fun vs H1 q1 => ?_⟩
  split at q1
  · exact ⟨_, rfl, q1.1.1, q1.1.2, _, _, _, walk_range, q1.2⟩
  · exact q1.elim
theorem walk_zipT {K : PySem.W.Frag} {a b : Addr} {xs ys : List V} : Walk (RZ.ItzT K a b) (min xs.length ys.length) (fun H => SqT K H a xs ∧ SqT K H b ys) (YPair (fun i => xs[i]?) (fun i => ys[i]?)) := by
  refine ⟨fun i _ hi q => ?_, fun _ q => ⟨xs, ys, q.1, q.2, by omega⟩, fun i H v H' _ q y => ?_⟩
  · have h1 : i < xs.length := by omega
    have h2 : i < ys.length := by omega
    exact ⟨xs, ys, xs[i], ys[i], q.1, q.2, by simp [h1], by simp [h2]⟩
  · obtain ⟨T, x, z, h1, h2, h3, h4, h5⟩ := y
    exact ⟨T, x, z, h1, h2, h3, h4 xs q.1, h5 ys q.2⟩
theorem piu_zip {elts : List Expr} {kk : Nat} (hg : Gl X "zip") (hm : X.mg "zip" = none) (ha : PA X [e, e2] t) (hs : starEach [e, e2] X.env = (false, eval e X.env) :: starEach [e2] X.env := by rfl) (hpl : (backTo pos (starEach [e2] X.env)).any (·.1) = false := by rfl) :
    PIU X (.Tuple elts kk tpos) (.Call (.Name "zip" p) [e, e2] [] pos) (wZip X.K t) := by
  refine piu_of (RZ.pi_zipA hg hm (pa_cl ha) hs hpl) fun σ H C q => ⟨_, q, fun vs H1 q1 => ?_⟩
  split at q1
  · obtain ⟨f, xs, ys, h1, h2, h3⟩ := q1
    cases f with
    | true => exact ⟨_, _, xs, ys, rfl, .inl ⟨h1, h2, _, _, _, walk_zip rfl, h3⟩⟩
    | false => exact ⟨_, _, xs, ys, rfl, .inr ⟨h1, h2, _, _, _, walk_zipT, h3⟩⟩
  · exact q1.elim
end

/-! ### for, comprehensions -/
def uFor (w : TW) (g : TG) (tb : TS) : TS := fun D σ H => w σ H fun n G Y H1 => ∃ Pv : Nat → L2.St → Hp → Prop, Pv 0 σ H1 ∧ (∀ i σ H, i ≤ n → Pv i σ H → G H) ∧
  (∀ i x σ H H', i < n → Pv i σ H → Y i H x H' → g x σ H' fun σ2 H2 => tb { D with nx := Pv (i + 1), ct := Pv (i + 1), bk := D.nx } σ2 H2) ∧ ∀ σ H, Pv n σ H → D.nx σ H
def lcGo (g : TG) (tt : TT) (te : TE) (vs : List Nat) (σ : L2.St) (Q : VK) (n : Nat) (G : Hp → Prop) (Y : Nat → Hp → V → Hp → Prop) (H1 : Hp) : Prop := ∀ D H2, New H1 D (.lst []) H2 → ∃ Pv : Nat → Hp → Prop, Pv 0 H2 ∧ (∀ i H, i ≤ n → Pv i H → G H) ∧
  (∀ i x H H', i < n → Pv i H → Y i H x H' → g x (wipe σ vs) H' fun σ2 H3 => wipe σ2 vs = wipe σ vs ∧ tt σ2 H3 fun c H4 =>
    bite c (te σ2 H4 fun y H5 => ∃ acc, H5 D = some (.lst acc) ∧ acc.length < sizeLine ∧ ∀ H6, Chg H5 D (.lst (acc ++ [y])) H6 → Pv (i + 1) H6) (Pv (i + 1) H4)) ∧ ∀ H, Pv n H → Q (.ref D) H
def uLc (w : TW) (g : TG) (tt : TT) (te : TE) (vs : List Nat) : TE := fun σ H Q => w σ H (lcGo g tt te vs σ Q)
section
variable {X : Cx} {tg iter elt : Expr} {w : TW} {g : TG} {pos py spos : Pos}
theorem PIU.pi (h : PIU X tg iter w) : PI X tg iter (fun σ H R => ∃ C : WC, w σ H C ∧ ∀ J n G Y H1, Walk J n G Y → C n G Y H1 → R J H1) :=
  ⟨fun pins s σ H R I ⟨C, q, i⟩ => thn (h.run pins s σ H C I q) fun _ _ z => thn z fun _ _ y => pie_mono y fun J H1 ⟨n, G, Y, a, b⟩ => i J n G Y H1 a b⟩
theorem pg_cl (h : PG X tg g) : PG X tg (fun v σ H Q => ∃ R : L2.St → Hp → Prop, g v σ H R ∧ ∀ σ' H', R σ' H' → Q σ' H') :=
  ⟨fun pins s σ H v u Q I r ⟨R, q, i⟩ => thn (h.run pins s σ H v u R I r q) fun _ _ ⟨σ', H', I', z⟩ => ⟨σ', H', I', i _ _ z⟩⟩
theorem u_for {body : List Stmt} {tb : TS} (hp : PassesOwn (model X.prog X.w) X.A X.env X.xe) (hc : X.calm = true) (hi : PIU X tg iter w) (hg : PG X tg g) (hb : PSs X body tb)
    (hs : ∀ x, foldedSetIterable iter X.env x = pure x := by intro _; rfl) : PS X (.For tg iter body [] pos) (uFor w g tb) := by
  refine ps_wk (ps_for hp hc hi.pi hg hb hs) fun D σ H q => ⟨_, q, fun J n G Y H1 wk ⟨Pv, h0, hG, hstep, hd⟩ => ?_⟩
  exact for_it wk Pv h0 hG hstep hd
variable {ifs : List Expr} {scope : Scope} {own : List (PySem.Str × Nat)} {tt : TT} {te : TE}
theorem lc_cl {wi : TI} {vs : List Nat} {σ : L2.St} {H : Hp} {Q : VK} (h : uLc w g tt te vs σ H Q) :
    tLc (fun σ H R => ∃ C : WC, w σ H C ∧ ∀ J n G Y H1, Walk J n G Y → C n G Y H1 → R J H1) (fun v σ H Q => ∃ R : L2.St → Hp → Prop, g v σ H R ∧ ∀ σ' H', R σ' H' → Q σ' H')
      (fun σ H Q => ∃ R : Bool → Hp → Prop, tt σ H R ∧ ∀ b H', R b H' → Q b H') (clE te) vs σ H Q := by
  refine ⟨_, h, fun J n G Y H1 wk q D hD => ?_⟩
  obtain ⟨Pv, h0, hG, hstep, hd⟩ := q D _ ⟨hD, rfl⟩
  refine lc_it (g := fun v σ H Q => ∃ R : L2.St → Hp → Prop, g v σ H R ∧ ∀ σ' H', R σ' H' → Q σ' H') (tt := fun σ H Q => ∃ R : Bool → Hp → Prop, tt σ H R ∧ ∀ b H', R b H' → Q b H') (te := clE te) (vs := vs) (σ := σ) wk Pv h0 hG (fun i x H2 H' hi p y => ⟨_, hstep i x H2 H' hi p y, fun σ2 H3 ⟨e1, q1⟩ => ⟨e1, _, q1, fun c H4 q2 => bite_if ?_⟩⟩) hd
  cases c with
  | false => exact q2
  | true => exact ⟨_, q2, fun v H5 ⟨acc, a1, a2, a3⟩ => ⟨acc, a1, a2, a3 _ ⟨rfl⟩⟩⟩
theorem pts_cl {X : Cx} {ifs : List Expr} {tt : TT} (h : PTs X ifs tt) : PTs X ifs (fun σ H Q => ∃ R : Bool → Hp → Prop, tt σ H R ∧ ∀ b H', R b H' → Q b H') :=
  ⟨fun pins s σ H Q I ⟨R, q, i⟩ => thn (h.run pins s σ H R I q) fun _ _ ⟨H1, I1, q1⟩ => ⟨H1, I1, i _ _ q1⟩⟩
theorem u_lc (hc : X.calm = true) (hN : X.N.Nodup) (hi : PIU X tg iter w) (ok : BlkOk X.N X.env.scope scope own)
    (hg : ∀ (s : Shared) (H : Hp) (C : Addr) (cl : List (PySem.Str × Addr)) (fp : List Addr), PG (X.blk s H scope (compEnvC scope cl C X.env) fp) tg g) (ht : ∀ (s : Shared) (H : Hp) (C : Addr) (cl : List (PySem.Str × Addr)) (fp : List Addr), PTs (X.blk s H scope (compEnvC scope cl C X.env) fp) ifs tt)
    (he : ∀ (s : Shared) (H : Hp) (C : Addr) (cl : List (PySem.Str × Addr)) (fp : List Addr), PE (X.blk s H scope (compEnvC scope cl C X.env) fp) elt te) (hs : ∀ x, foldedSetIterable iter X.env x = pure x := by intro _; rfl) :
    PE X (.ListComp elt [⟨tg, iter, ifs, 0⟩] scope pos) (uLc w g tt te (own.map (·.2))) :=
  pe_wk (pe_lc hc hN hi.pi ok (fun s H C cl fp => pg_cl (hg s H C cl fp)) (fun s H C cl fp => pts_cl (ht s H C cl fp)) (fun s H C cl fp => pe_cl (he s H C cl fp)) hs) fun σ H Q q => lc_cl (wi := fun _ _ _ => True) q
theorem u_setLc {i : Nat} {y : PySem.Str} (hc : X.calm = true) (hN : X.N.Nodup) (hy : X.N[i]? = some y) (hyl : X.env.scope.names.lookup y = some .local)
    (hsw : swapsWith (.ListComp elt [⟨tg, iter, ifs, 0⟩] scope pos) (some (.Name y py)) spos.line X.env = pure true) (hi : PIU X tg iter w) (ok : BlkOk X.N X.env.scope scope own)
    (hg : ∀ (s : Shared) (H : Hp) (C : Addr) (cl : List (PySem.Str × Addr)) (fp : List Addr), PG (X.blk s H scope (compEnvC scope cl C X.env) fp) tg g) (ht : ∀ (s : Shared) (H : Hp) (C : Addr) (cl : List (PySem.Str × Addr)) (fp : List Addr), PTs (X.blk s H scope (compEnvC scope cl C X.env) fp) ifs tt)
    (he : ∀ (s : Shared) (H : Hp) (C : Addr) (cl : List (PySem.Str × Addr)) (fp : List Addr), PE (X.blk s H scope (compEnvC scope cl C X.env) fp) elt te) (hs : ∀ x, foldedSetIterable iter X.env x = pure x := by intro _; rfl) :
    PS X (.Assign [.Name y py] (.ListComp elt [⟨tg, iter, ifs, 0⟩] scope pos) spos) (tAsg (uLc w g tt te (own.map (·.2))) (gName i)) :=
  ps_wk (ps_setLc hc hN hy hyl hsw hi.pi ok (fun s H C cl fp => pg_cl (hg s H C cl fp)) (fun s H C cl fp => pts_cl (ht s H C cl fp)) (fun s H C cl fp => pe_cl (he s H C cl fp)) hs) fun D σ H q => lc_cl (wi := fun _ _ _ => True) q
end
end Ech

namespace Ech
open PySem PySem.Spec PyProof.Rows L2
open He (ga ma)
open He5 (wf wrapB)

/-! ### the written part's defs by their addresses -/
def fdA (K : PySem.W.Frag) (f : Addr) : FuncData := match K.lookup f with
  | some ⟨_, _, .func fd, _⟩ => fd
  | _ => PySem.W.fnOf "" "" ⟨[], [], none, [], [], none, []⟩ [] ⟨.function, [], false, false, []⟩ .none .none .none .none none .none .none
theorem fdA_eq {K : PySem.W.Frag} {x qual : PySem.Str} {params : Arguments} {body : List Stmt} {scope : Scope} {dvs : List V} {kws : List (PySem.Str × V)} {f : Addr} {fd : FuncData} (F : FunD K x qual params body scope dvs kws f fd) : FunD K x qual params body scope dvs kws f (fdA K f) := by
  obtain ⟨oc, od, dV, kV, doc, pm, an, cdv, ct, osl, e1, lk, _⟩ := F.ex
  have e : fdA K f = fd := by unfold fdA; rw [lk]
  rw [e]
  exact F
structure EnvOf (fa : List Ft) (fn : List He5.DefA) (K : PySem.W.Frag) (mg : PySem.Str → Option Value) : Prop where
  says : SaysB fa fn K
  ns : ∃ h, K.In h ∧ h.Ns mainGlobals mg
section
variable {fa : List Ft} {fn : List He5.DefA} {K : PySem.W.Frag} {mg : PySem.Str → Option Value}
theorem EnvOf.glo (e : EnvOf fa fn K mg) (i : Nat) {x : PySem.Str} (h : fa[i]? = some (fun K => (He.Fa.glo x).ok K) := by rfl) : mg x = some (.ref (ga K x)) := e.ns.elim fun _ q => He.glo_ok q.1 q.2 (e.says.fact i h)
theorem EnvOf.free (e : EnvOf fa fn K mg) (i : Nat) {x : PySem.Str} (h : fa[i]? = some (fun K => (He.Fa.free x).ok K) := by rfl) : mg x = none := e.ns.elim fun _ q => He.free_ok q.1 q.2 (e.says.fact i h)
theorem EnvOf.int (e : EnvOf fa fn K mg) (i : Nat) {x : PySem.Str} {n : Int} (h : fa[i]? = some (fun K => (He.Fa.int x n).ok K) := by rfl) : ∃ t, mg x = some (.int n t) := e.ns.elim fun _ q => He.int_ok q.1 q.2 (e.says.fact i h)
theorem EnvOf.str (e : EnvOf fa fn K mg) (i : Nat) {x z : PySem.Str} (h : fa[i]? = some (fun K => (He.Fa.str x z).ok K) := by rfl) : ∃ t, mg x = some (.str z t) := e.ns.elim fun _ q => He.str_ok q.1 q.2 (e.says.fact i h)
theorem EnvOf.cls (e : EnvOf fa fn K mg) (i : Nat) {x : PySem.Str} (h : fa[i]? = some (fun K => (He.Fa.cls x).ok K) := by rfl) : Cls K (ga K x) := He.cls_ok (e.says.fact i h)
theorem EnvOf.noat (e : EnvOf fa fn K mg) (i : Nat) {x f : PySem.Str} (h : fa[i]? = some (fun K => (He.Fa.noat x f).ok K) := by rfl) : NoAttr K (ga K x) f := He.noat_ok (e.says.fact i h)
theorem EnvOf.meth (e : EnvOf fa fn K mg) (i : Nat) {x f : PySem.Str} (h : fa[i]? = some (fun K => (He.Fa.meth x f).ok K) := by rfl) : Meth K (ga K x) f (ma K (ga K x) f) := He.meth_ok (e.says.fact i h)
theorem EnvOf.mkr (e : EnvOf fa fn K mg) (i : Nat) {x : PySem.Str} (h : fa[i]? = some (fun K => (He.Fa.mkr x).ok K) := by rfl) : Mk K (ga K x) (ma K (ga K x) "__init__") := He.mkr_ok (e.says.fact i h)
theorem EnvOf.fun_ (e : EnvOf fa fn K mg) (i : Nat) {d : He5.DefA} (h : fn[i]? = some d := by rfl) : FunD K d.name d.qual d.params d.body d.scope (d.dvs K) (d.kws K) (d.at_ K) (fdA K (d.at_ K)) := (e.says.def_ i h).elim fun _ q => fdA_eq q
end
def insB (K : PySem.W.Frag) (C : Addr) : Bool := He.eqO (PySem.W.findIn K (.ref C) "__class__") (some (some (.builtin "object.__class__"))) && (He.eqO (PySem.W.specialIn K (.builtin "object.__class__") "__get__") (some (some (.builtin "getset_descriptor.__get__"))) &&
  (decide (PySem.W.takesIn K (.builtin "object.__class__") = some true) && decide (PySem.W.mroIn K C (.type "object") = some true)))
theorem insB_ok {K : PySem.W.Frag} {C : Addr} (h : insB K C = true) (c : Cls K C) {H : Hp} {a dx : Addr} {fs : List (PySem.Str × V)} (e : H a = some (.ins C dx fs)) : TyX K H (.ref a) (.ref C) := by
  obtain ⟨h1, h⟩ := He.ba h
  obtain ⟨h2, h⟩ := He.ba h
  obtain ⟨h3, h4⟩ := He.ba h
  exact .base (.ins e c (He.eqO_ok h1) (He.eqO_ok h2) (of_decide_eq_true h3) (of_decide_eq_true h4))
theorem isi_own {K : PySem.W.Frag} {C : Addr} {H : Hp} {a : Addr} {Q : VK} (h : TyX K H (.ref a) (.ref C)) (q : Q (.bl true) H) : rIsiU K [.ref a, .ref C] H Q :=
  Or.inl ⟨.ref a, .ref C, .ref C, .ref C, true, rfl, .own C, h, by unfold PySem.W.kitOne; rw [if_pos (by simp)], q⟩
def propB (K : PySem.W.Frag) (C : Addr) (f : PySem.Str) : Bool := He.eqO (PySem.W.findIn K (.ref C) f) (some (some (.ref (ma K C f)))) && (He.eqO (PySem.W.specialIn K (.ref (ma K C f)) "__get__") (some (some (.builtin "property.__get__"))) &&
  (decide (PySem.W.takesIn K (.ref (ma K C f)) = some true) && (match PySem.W.recIn K (ma K C f) "property" with
    | some (.ref _ :: _) => true
    | _ => false)))
theorem propB_ok {K : PySem.W.Frag} {C : Addr} {f : PySem.Str} (h : propB K C f = true) : PropOf K C f (ma K C f) (wf K C "property" f) := by
  obtain ⟨h1, h⟩ := He.ba h
  obtain ⟨h2, h⟩ := He.ba h
  obtain ⟨h3, h4⟩ := He.ba h
  refine ⟨He.eqO_ok h1, He.eqO_ok h2, of_decide_eq_true h3, ?_⟩
  unfold He5.wf
  cases e : PySem.W.recIn K (ma K C f) "property" with
  | none => rw [e] at h4; cases h4
  | some l =>
    rw [e] at h4
    cases l with
    | nil => cases h4
    | cons v r =>
      cases v with
      | ref a => exact ⟨r, rfl⟩
      | _ => cases h4

section
variable {X : Cx}
/-! ### names of the module -/
theorem u_gint {x : PySem.Str} {n : Int} {pos : Pos} (hg : Gl X x) (hm : ∃ t, X.mg x = some (.int n t)) (hd : (x == ("__debug__" : PySem.Str)) = false := by decide) : PE X (.Name x pos) (tC (.int n)) := hm.elim fun t e => pe_glob hg e ⟨t, rfl⟩ hd
theorem u_ty {x : PySem.Str} {n : String} {pos : Pos} (hg : Gl X x) (hm : X.mg x = none) (hv : bootBuiltins x = some (.type n)) (hn : x ≠ "__name__" := by decide) (hd : (x == ("__debug__" : PySem.Str)) = false := by decide) : PE X (.Name x pos) (tC (.ty n)) := pe_bltn hg hm hv rfl hn hd
/-! ### calls of defs, the defaults known to be somewhere -/
def Bnd (K : PySem.W.Frag) (f : Addr) (ps : List PySem.Str) (dvs : List V) : Prop := ∃ ds, Vals dvs ds ∧ Binds K (fdA K f) ps ds
variable {CX : CXT} {k : Nat} {f : Addr} {ps : List PySem.Str} {sp : Sp} {dvs : List V} {E : XK} {x : PySem.Str} {p pos : Pos} {e : Expr} {es : List Expr} {t : TA}
theorem u_call (F : FnOk X.prog X.w X.K X.mg X.base CX k f (fdA X.K f) ps sp) (hr : Room k X.A) (hg : Gl X x) (hm : X.mg x = some (.ref f)) (hk : PySem.W.keepIn X.K (.ref f) = true) (hb : Bnd X.K f ps dvs) (hx : Passes CX X E)
    (ha : PA X (e :: es) t) (hdb : (x == ("__debug__" : PySem.Str)) = false := by decide) (he : starEach (e :: es) X.env = (false, eval e X.env) :: starEach es X.env := by rfl) (hpl : (backTo pos (starEach es X.env)).any (·.1) = false := by rfl) :
    PE X (.Call (.Name x p) (e :: es) [] pos) (tCall sp dvs E t) := hb.elim fun ds q => pe_call F hr hg hm hk q.2 q.1 hx ha hdb he hpl
theorem u_callQ (F : FnG X.prog X.w X.K X.mg X.base CX k f (fdA X.K f) ps sp) (hr : Room k X.A) (quiet : X.A.guards = some []) (hg : Gl X x) (hm : X.mg x = some (.ref f)) (hk : PySem.W.keepIn X.K (.ref f) = true) (hb : Bnd X.K f ps dvs) (hx : Passes CX X E)
    (ha : PA X (e :: es) t) (hdb : (x == ("__debug__" : PySem.Str)) = false := by decide) (he : starEach (e :: es) X.env = (false, eval e X.env) :: starEach es X.env := by rfl) (hpl : (backTo pos (starEach es X.env)).any (·.1) = false := by rfl) :
    PE X (.Call (.Name x p) (e :: es) [] pos) (tCall sp dvs E t) := hb.elim fun ds q => u_callG F hr quiet hg hm hk q.2 q.1 hx ha hdb he hpl
/-! ### targets that are tuples -/
def seqG : List TG → List V → L2.St → Hp → (L2.St → Hp → Prop) → Prop
  | [], [], σ, H, Q => Q σ H
  | g :: gs, x :: xs, σ, H, Q => g x σ H fun σ' H' => seqG gs xs σ' H' Q
  | _, _, _, _, _ => False
inductive PGL (X : Cx) : List Expr → List TG → Prop
  | nil : PGL X [] []
  | cons {e : Expr} {es : List Expr} {g : TG} {gs : List TG} : PG X e g → PGL X es gs → ((assignEach (e :: es) X.env).map (·.2) = assign e X.env :: (assignEach es X.env).map (·.2)) → PGL X (e :: es) (g :: gs)
theorem PGL.pgs {es : List Expr} {gs : List TG} (h : PGL X es gs) : PGs X es (fun vs σ H Q => vs.length = gs.length ∧ ∃ R : L2.St → Hp → Prop, seqG gs vs σ H R ∧ ∀ σ' H', R σ' H' → Q σ' H') := by
  induction h with
  | nil =>
    constructor
    rintro pins s σ H vs us Q I r ⟨l, R, q, i⟩
    cases vs with
    | nil => exact pgs_nil.run pins s σ H [] us Q I r ⟨rfl, i _ _ q⟩
    | cons v vs => cases l
  | cons h1 h2 hs ih =>
    constructor
    rintro pins s σ H vs us Q I r ⟨l, R, q, i⟩
    cases vs with
    | nil => cases l
    | cons v vs => exact (pgs_cons (pg_cl h1) ih hs).run pins s σ H (v :: vs) us Q I r ⟨v, vs, rfl, _, q, fun σ' H' q' => ⟨Nat.succ.inj l, R, q', i⟩⟩
def gTupL (K : PySem.W.Frag) (gs : List TG) : TG := fun v σ H Q => match v with
  | .ref a => ∃ xs, SqT K H a xs ∧ xs.length = gs.length ∧ seqG gs xs σ H Q
  | _ => False
theorem u_pgtup {es : List Expr} {kk : Nat} {gs : List TG} {K : PySem.W.Frag} (hK : X.K = K) (hc : X.calm = true) (h : PGL X es gs) (hn : (assignEach es X.env).length = gs.length := by rfl) (hst : (assignEach es X.env).findIdx? (·.1) = none := by rfl) :
    PG X (.Tuple es kk pos) (gTupL K gs) := by
  subst hK
  refine pg_wk (pg_tup (n := gs.length) hc h.pgs hn hst) fun v σ H Q q => ?_
  cases v with
  | ref a =>
    obtain ⟨xs, h1, h2, h3⟩ := q
    exact ⟨a, xs, rfl, h1, h2, h2, _, h3, fun _ _ z => z⟩
  | _ => exact q.elim
/-! ### others -/
def uPart (te : TE) : TO := fun σ H Q => te σ H fun x H1 => match x with
  | .int i => Q (some i) H1
  | _ => False
theorem u_part {te : TE} (h : PE X e te) : PO X (some e) (uPart te) := by
  constructor
  intro pins s σ H Q I hw
  refine (po_some (pe_cl h)).run pins s σ H Q I ⟨_, hw, fun v H1 q => ?_⟩
  cases v with
  | int i => exact ⟨i, rfl, q⟩
  | _ => exact q.elim
/-! ### the same with the written part by a name of its own -/
section
variable {K : PySem.W.Frag} (hK : X.K = K) {a b o e e2 : Expr} {es : List Expr} {ta tb te to tl : TE} {t : TA} {pos p tpos apos cpos p2 pos2 : Pos} {tg : Expr}
include hK
theorem ix_k : IxR X (rIxU K) := by subst hK; exact ix_u
theorem sl_k : SlR X (rSlU K) := by subst hK; exact sl_u
theorem set_k : PSet X (uSetIx K) := by subst hK; exact set_u
theorem k_len : CallR X (.builtin "len") (rLenU K) := by subst hK; exact c_len
theorem k_tuple : CallR X (.type "tuple") (rTupleU K) := by subst hK; exact c_tuple
theorem k_list : CallR X (.type "list") (rListU K) := by subst hK; exact c_list
theorem k_all (hc : X.calm = true) : CallR X (.builtin "all") (rAllU K) := by subst hK; exact c_all hc
theorem k_isi : CallR X (.builtin "isinstance") (rIsiU K) := by subst hK; exact c_isi
theorem k_repr (quiet : X.A.guards = some []) (hu : X.A.units + 64 < cLine) : CallR X (.builtin "repr") (rRepr K) := by subst hK; exact c_repr quiet hu
theorem k_add : OpR X (binaryOp .Add) (rAddU K) := by subst hK; exact o_add
theorem k_eq (hu : X.A.units + 64 < cLine) : OpR X (compareOp .Eq) (rEqU K false) := by subst hK; exact o_eq hu
theorem k_ne (hu : X.A.units + 64 < cLine) : OpR X (compareOp .NotEq) (rEqU K true) := by subst hK; exact o_ne hu
theorem k_tru (h : PE X e ta) (he : ∀ whole, isTrue e X.env whole = (do let v ← whole; standAt e.pos; holding [v] (truthy v)) := by intro _; rfl) : PT X e (uTru K ta) := by subst hK; exact u_tru h he
theorem k_seq (hl : PE X e tl) : PIU X tg e (wSeq K tl) := by subst hK; exact piu_seq hl
theorem k_zip {elts : List Expr} {kk : Nat} (hg : Gl X "zip") (hm : X.mg "zip" = none) (ha : PA X [e, e2] t) (hs : starEach [e, e2] X.env = (false, eval e X.env) :: starEach [e2] X.env := by rfl) (hpl : (backTo pos (starEach [e2] X.env)).any (·.1) = false := by rfl) :
    PIU X (.Tuple elts kk tpos) (.Call (.Name "zip" p) [e, e2] [] pos) (wZip K t) := by subst hK; exact piu_zip hg hm ha hs hpl
theorem k_append (ho : PE X o to) (ha : PA X (e :: es) t) (hb : attributeBase o "append" X.env (eval o X.env) = eval o X.env := by rfl)
    (hfew : methodCallForm (e :: es).length (backTo cpos (starEach (e :: es) X.env)) (backToKw cpos (keywordEach [] X.env)) = true := by rfl) (hl : (apos.endLine == cpos.line) = true := by rfl)
    (hs : starEach (e :: es) X.env = (false, eval e X.env) :: starEach es X.env := by rfl) (hpl : (backTo cpos (starEach es X.env)).any (·.1) = false := by rfl) :
    PE X (.Call (.Attribute o "append" apos) (e :: es) [] cpos) (uMut K to t mApp) := by subst hK; exact u_append ho ha hb hfew hl hs hpl
theorem k_lz (hc : X.calm = true) (hg : Gl X "list") (hm : X.mg "list" = none) (hg2 : Gl X "zip") (hm2 : X.mg "zip" = none) (ha : PA X (e :: es) t)
    (hs : starEach [.Call (.Name "zip" p2) (e :: es) [] pos2] X.env = (false, eval (.Call (.Name "zip" p2) (e :: es) [] pos2) X.env) :: starEach [] X.env := by rfl)
    (hs2 : starEach (e :: es) X.env = (false, eval e X.env) :: starEach es X.env := by rfl) (hpl : (backTo pos2 (starEach es X.env)).any (·.1) = false := by rfl) :
    PE X (.Call (.Name "list" p) [.Call (.Name "zip" p2) (e :: es) [] pos2] [] pos) (uLZ K t) := by subst hK; exact u_lz hc hg hm hg2 hm2 ha hs hs2 hpl
end
end
end Ech

namespace Ech
open PySem PySem.Spec PyProof.Rows L2
open He (ga ma)
/-! ### tests over the written part that the head makes -/
def conB (K : PySem.W.Frag) (C : Addr) (f : PySem.Str) (n : Int) : Bool := match PySem.W.findIn K (.ref C) f with
  | some (some (.int i t)) => decide (i = n) && (He.eqO (PySem.W.specialIn K (.int i t) "__get__") (some none) && !PySem.W.copiedNames.contains f)
  | _ => false
def crdB (K : PySem.W.Frag) (C : Addr) : Bool := PySem.W.readsIn K C (.type "type") && He.eqO (PySem.W.specialIn K (.ref C) "__getattribute__") (some (some (.builtin "type.__getattribute__")))
/-! ### the facts over a written list of places -/
open PySem.W He5 in
def obsCG (as : List Addr) (fa : List Ft) (fn : List He5.DefA) (g : Addr → Option Obj) : He.AlD := obsB fa fn (He.frG g as)
end Ech

set_option maxHeartbeats 4000000
/-! what the head tests: small, so that its own run can stand far ahead -/
namespace Ech
open PySem PySem.Spec PyProof.Rows L2
open He (ga ma)
open PySem.W (ksFn ksEnv)
/-! ### what the head tells of such a method -/
def exfB (K : PySem.W.Frag) (C : Addr) : Bool := He.eqO (PySem.W.findIn K (.ref C) "__getattribute__") (some (some (.builtin "BaseException.__getattribute__"))) && (decide (PySem.W.findIn K (.ref C) "__getattr__" = some none) && (decide (PySem.W.subIn K (.ref C) (.type "BaseException") = some true) && (PySem.W.hasDictIn K C &&
  (He.eqO (PySem.W.findIn K (.ref C) "__class__") (some (some (.builtin "object.__class__"))) && (He.eqO (PySem.W.specialIn K (.builtin "object.__class__") "__get__") (some (some (.builtin "getset_descriptor.__get__"))) && (decide (PySem.W.takesIn K (.builtin "object.__class__") = some true) && decide (PySem.W.mroIn K C (.type "object") = some true)))))))
def gxoB (K : PySem.W.Frag) (C : Addr) (N : String) (tl : List Value) : Bool := match K.lookup C with
  | some ⟨.type "type", _, .cls cd, sl⟩ => (match cd.mro, sl.toList with
    | .ref C' :: bm, [_, _, _, _, some (.builtin n), _] => C' == C && n == N && !cd.hasDel && cd.hasDict && bm == tl
    | _, _ => false)
  | _ => false
def gexB (K : PySem.W.Frag) (C : Addr) (N : String) (tl : List Value) : Bool := gxoB K C N tl && (He.eqO (PySem.W.findIn K (.ref C) "__setattr__") (some (some (.builtin "object.__setattr__"))) && (decide (PySem.W.subIn K (.ref C) (.type "BaseException") = some true) && (decide (PySem.W.typeIn K (.ref C) = some (.type "type")) && PySem.W.keepIn K (.ref C))))
def ginitB (K : PySem.W.Frag) (B I : String) : Bool := match PySem.W.findCls K (.type B) (.type "type") "__init__" with
  | some (.val (.builtin n)) => n == I
  | _ => false
def gerrB (K : PySem.W.Frag) (C : Addr) (f : PySem.Str) (B N I : String) (tl : List Value) : Bool := gexB K C N tl && (exfB K C && (He.eqO (PySem.W.findIn K (.ref C) "__init__") (some (some (.ref (ma K C "__init__")))) && (decide (PySem.W.typeIn K (.ref (ma K C "__init__")) = some (.type "function")) && (decide (PySem.W.findIn K (.ref C) f = some none) &&
  (decide (PySem.W.exmOne K (.ref C) (.ref C) = some true) && (decide (PySem.W.kitOne K (.ref C) (.type B) = some true) && ginitB K B I))))))
/-! ### the head's run in parts: each sees a part of the facts -/
end Ech

set_option maxHeartbeats 1000000
namespace Ech
open PySem PySem.Spec PyProof.Rows L2

theorem szr {n : Nat} (h : Nat.ble n sizeLine = true) : n ≤ sizeLine := Nat.le_of_ble_eq_true h

/-! ### heaps that grow: G what never changes, H all -/
structure Gr (G H G' H' : Hp) : Prop where
  hh : Ex H H'
  gg : Ex G G'
  gh : Ex G' H'
  fix : ∀ a, H a ≠ none → G' a = G a
theorem Gr.refl {G H : Hp} (h : Ex G H) : Gr G H G H := ⟨fun _ _ e => e, fun _ _ e => e, h, fun _ _ => rfl⟩
theorem Gr.trans {G H G1 H1 G2 H2 : Hp} (a : Gr G H G1 H1) (b : Gr G1 H1 G2 H2) : Gr G H G2 H2 :=
  ⟨fun x o e => b.hh x o (a.hh x o e), fun x o e => b.gg x o (a.gg x o e), b.gh, fun x hx => (b.fix x (by
    cases e : H x with
    | none => exact absurd e hx
    | some o => rw [a.hh x o e]; intro z; cases z)).trans (a.fix x hx)⟩
theorem New.at {H H1 : Hp} {p : Addr} {o : HO} (n : New H p o H1) : H1 p = some o := by rw [n.eq]; exact upd_same
theorem New.ex {H H1 : Hp} {p : Addr} {o : HO} (n : New H p o H1) : Ex H H1 := fun a u e => by rw [n.eq, upd_ne (ne_of_none e n.fresh)]; exact e
theorem New.gr {G H H1 : Hp} {p : Addr} {o : HO} (n : New H p o H1) (h : Ex G H) : Gr G H (upd G p o) H1 := by
  have np : G p = none := by
    cases e : G p with
    | none => rfl
    | some u => have := h p u e; rw [n.fresh] at this; cases this
  refine ⟨n.ex, fun a u e => by rw [upd_ne (ne_of_none e np)]; exact e, fun a u e => ?_, fun a ha => upd_ne (fun z => ha (z ▸ n.fresh))⟩
  by_cases hp : a = p
  · subst hp; rw [upd_same] at e; rw [n.at]; exact e
  · rw [upd_ne hp] at e; exact n.ex a u (h a u e)
theorem New.gr0 {G H H1 : Hp} {p : Addr} {o : HO} (n : New H p o H1) (h : Ex G H) : Gr G H G H1 := ⟨n.ex, fun _ _ e => e, fun a u e => n.ex a u (h a u e), fun _ _ => rfl⟩
theorem New.gnone {G H H1 : Hp} {p : Addr} {o : HO} (n : New H p o H1) (h : Ex G H) : G p = none := by
  cases e : G p with
  | none => rfl
  | some u => have := h p u e; rw [n.fresh] at this; cases this

/-! ### data in a heap, kept while it grows -/
theorem Sq.up {b : Bool} {K : PySem.W.Frag} {H H' : Hp} {a : Addr} {xs : List V} (h : Ex H H') (q : Sq b K H a xs) : Sq b K H' a xs := by
  cases b with
  | true => exact Evl.ex_l h q
  | false => exact Evl.ex_t h q
mutual
theorem dp_up {K : PySem.W.Frag} {H H' : Hp} (h : Ex H H') : ∀ {v : V} {d : PyData}, Dp K H v d → Dp K H' v d
  | _, _, .non => .non
  | _, _, .bl b => .bl b
  | _, _, .int i => .int i
  | _, _, .str x => .str x
  | _, _, .lst a b => .lst (Evl.ex_l h a) (dpAll_up h b)
  | _, _, .tup a b => .tup (Evl.ex_t h a) (dpAll_up h b)
theorem dpAll_up {K : PySem.W.Frag} {H H' : Hp} (h : Ex H H') : ∀ {vs : List V} {ds : List PyData}, DpAll K H vs ds → DpAll K H' vs ds
  | _, _, .nil => .nil
  | _, _, .cons a b => .cons (dp_up h a) (dpAll_up h b)
end

/-! ### isinstance -/
def IsiOk (K : PySem.W.Frag) (H : Hp) (v : V) (n : String) (b : Bool) : Prop := ∃ t, TyX K H v t ∧ PySem.W.kitOne K t (.type n) = some b
theorem isi_go {K : PySem.W.Frag} {H : Hp} {v : V} {n : String} {b : Bool} {Q : VK} (h : IsiOk K H v n b) (q : Q (.bl b) H) : rIsiU K [v, .ty n] H Q := h.elim fun t z => Or.inl ⟨v, .ty n, t, .type n, b, rfl, .ty n, z.1, z.2, q⟩
theorem isi_int_int {K : PySem.W.Frag} {H : Hp} {i : Int} : IsiOk K H (.int i) "int" true := ⟨_, .base (.int i), kit_ty (by decide +kernel)⟩
theorem isi_int_bool {K : PySem.W.Frag} {H : Hp} {i : Int} : IsiOk K H (.int i) "bool" false := ⟨_, .base (.int i), kit_ty (by decide +kernel)⟩
theorem isi_tup {K : PySem.W.Frag} {H : Hp} {a : Addr} {xs : List V} {n : String} {b : Bool} (h : SqT K H a xs) (k : kitB "tuple" n = some b) : IsiOk K H (.ref a) n b := by
  refine ⟨.type "tuple", ?_, kit_ty k⟩
  rcases h with (h | ⟨o, h⟩) | ⟨o, its, m, h, hc, _⟩
  · exact .base (.tup h)
  · exact .fTuple h
  · exact .kTuple h hc
theorem isi_lst {K : PySem.W.Frag} {H : Hp} {a : Addr} {xs : List V} {n : String} {b : Bool} (h : SqL K H a xs) (k : kitB "list" n = some b) : IsiOk K H (.ref a) n b := by
  refine ⟨.type "list", ?_, kit_ty k⟩
  rcases h with (h | ⟨o, h⟩) | ⟨o, its, m, h, hc, _⟩
  · exact .base (.lst h)
  · exact .base (.frz h)
  · exact .kList h hc

/-! ### growth beside one object that changes -/
structure GrM (p : Addr) (G H G' H' : Hp) : Prop where
  hh : ∀ a o, a ≠ p → H a = some o → H' a = some o
  gg : Ex G G'
  gh : Ex G' H'
  fix : ∀ a, H a ≠ none → G' a = G a
  there : H p ≠ none → H' p ≠ none
theorem Gr.m {G H G' H' : Hp} (g : Gr G H G' H') (p : Addr) : GrM p G H G' H' := ⟨fun a o _ e => g.hh a o e, g.gg, g.gh, g.fix, fun h => by
  cases e : H p with
  | none => exact absurd e h
  | some o => rw [g.hh p o e]; intro z; cases z⟩
theorem GrM.trans {p : Addr} {G H G1 H1 G2 H2 : Hp} (a : GrM p G H G1 H1) (b : GrM p G1 H1 G2 H2) : GrM p G H G2 H2 := by
  have keep : ∀ x, H x ≠ none → H1 x ≠ none := fun x hx => by
    by_cases hp : x = p
    · subst hp; exact a.there hx
    · cases e : H x with
      | none => exact absurd e hx
      | some o => rw [a.hh x o hp e]; intro z; cases z
  exact ⟨fun x o hp e => b.hh x o hp (a.hh x o hp e), fun x o e => b.gg x o (a.gg x o e), b.gh, fun x hx => (b.fix x (keep x hx)).trans (a.fix x hx), fun h => b.there (a.there h)⟩
theorem GrM.refl {p : Addr} {G H : Hp} (h : Ex G H) : GrM p G H G H := (Gr.refl h).m p

/-! ### the law's pen -/
structure Pen (K : PySem.W.Frag) (ku kr : PySem.Str) (G H : Hp) (p : Addr) (b : Nat) : Prop where
  ex : ∃ (kvs : List (Key × V)) (c : Addr) (ns : List Int) (u r : Int), H p = some (.dK kvs) ∧ kvs.length ≤ 3 ∧ valV kvs (.inr "cells") = some (.ref c) ∧ SqL K G c (ns.map V.int) ∧ ns.length ≤ 63 ∧
    valV kvs (.inr ku) = some (.int u) ∧ 0 ≤ u ∧ u ≤ b ∧ valV kvs (.inr kr) = some (.int r) ∧ 0 ≤ r
  un : G p = none
theorem Pen.up {K : PySem.W.Frag} {ku kr : PySem.Str} {G H : Hp} {p : Addr} {b b' : Nat} (h : Pen K ku kr G H p b) (le : b ≤ b') : Pen K ku kr G H p b' := by
  obtain ⟨⟨kvs, c, ns, u, r, h1, h2, h3, h4, h5, h6, h7, h8, h9, h10⟩, un⟩ := h
  exact ⟨⟨kvs, c, ns, u, r, h1, h2, h3, h4, h5, h6, h7, by omega, h9, h10⟩, un⟩
theorem Pen.gr {K : PySem.W.Frag} {ku kr : PySem.Str} {G H G' H' : Hp} {p : Addr} {b : Nat} (h : Pen K ku kr G H p b) (g : Gr G H G' H') : Pen K ku kr G' H' p b := by
  obtain ⟨⟨kvs, c, ns, u, r, h1, h2, h3, h4, h5, h6, h7, h8, h9, h10⟩, un⟩ := h
  exact ⟨⟨kvs, c, ns, u, r, g.hh _ _ h1, h2, h3, Evl.ex_l g.gg h4, h5, h6, h7, h8, h9, h10⟩, by rw [g.fix p (by rw [h1]; intro z; cases z)]; exact un⟩
theorem Pen.mut {K : PySem.W.Frag} {ku kr : PySem.Str} {G H H' : Hp} {p l : Addr} {o : HO} {b : Nat} (h : Pen K ku kr G H p b) (g : Chg H l o H') (hl : p ≠ l) : Pen K ku kr G H' p b := by
  obtain ⟨⟨kvs, c, ns, u, r, h1, h⟩, un⟩ := h
  exact ⟨⟨kvs, c, ns, u, r, by rw [g.eq, upd_ne hl]; exact h1, h⟩, un⟩
theorem length_putK_some {kvs : List (Key × V)} {k : Key} {x v : V} (h : valV kvs k = some x) : (putK kvs k v).length = kvs.length := by
  unfold putK
  rw [valV_any, h]
  simp
theorem Chg.at {H H1 : Hp} {p : Addr} {o : HO} (n : Chg H p o H1) : H1 p = some o := by rw [n.eq]; exact upd_same
theorem Chg.off {H H1 : Hp} {p a : Addr} {o : HO} (n : Chg H p o H1) (h : a ≠ p) : H1 a = H a := by rw [n.eq]; exact upd_ne h
theorem Chg.grm {G H H1 : Hp} {p : Addr} {o : HO} (n : Chg H p o H1) (h : Ex G H) (hp : G p = none) : GrM p G H G H1 :=
  ⟨fun a u ha e => by rw [n.off ha]; exact e, fun _ _ e => e, fun a u e => by rw [n.off (fun z => by rw [z, hp] at e; cases e)]; exact h a u e, fun _ _ => rfl, fun _ => by rw [n.at]; intro z; cases z⟩
theorem dget_of {H : Hp} {a : Addr} {kvs : List (Key × V)} {x : PySem.Str} {v : V} (e : H a = some (.dK kvs)) (h : valV kvs (.inr x) = some v) : DGet H a (.str x) (some v) := by
  have q := DGet.k (k := .inr x) e
  rw [h] at q
  exact q
theorem dput_of {H : Hp} {a : Addr} {kvs : List (Key × V)} {x : PySem.Str} {v : V} (e : H a = some (.dK kvs)) (h : kvs.length ≤ 3) : DPut H a (.str x) v (upd H a (.dK (putK kvs (.inr x) v))) := DPut.k (k := .inr x) e (Nat.lt_of_le_of_lt h (by decide))
end Ech

namespace Ech
open PySem PySem.Spec PyProof.Rows L2

theorem Gr.loc {G0 H0 G H : Hp} {l : Addr} {o : HO} (g : Gr G0 H0 G H) (h0 : H0 l = none) (hl : G l = none) : Gr G0 H0 G (upd H l o) :=
  ⟨fun a u e => by rw [upd_ne (fun z => by rw [z, h0] at e; cases e)]; exact g.hh a u e, g.gg, fun a u e => by rw [upd_ne (fun z => by rw [z, hl] at e; cases e)]; exact g.gh a u e, g.fix⟩
theorem Gr.frz {G0 H0 G H : Hp} {l : Addr} {o : HO} (g : Gr G0 H0 G H) (h0 : H0 l = none) (hl : G l = none) (hh : H l = some o) : Gr G0 H0 (upd G l o) H :=
  ⟨g.hh, fun a u e => by rw [upd_ne (fun z => by have := g.gg a u e; rw [z, hl] at this; cases this)]; exact g.gg a u e, fun a u e => by
    by_cases z : a = l
    · subst z; rw [upd_same] at e; rw [hh]; exact e
    · rw [upd_ne z] at e; exact g.gh a u e, fun a ha => by rw [upd_ne (fun z : a = l => ha (by rw [z]; exact h0))]; exact g.fix a ha⟩
theorem GrM.loc {p : Addr} {G0 H0 G H : Hp} {l : Addr} {o : HO} (g : GrM p G0 H0 G H) (h0 : H0 l = none) (hl : G l = none) : GrM p G0 H0 G (upd H l o) :=
  ⟨fun a u ha e => by rw [upd_ne (fun z => by rw [z, h0] at e; cases e)]; exact g.hh a u ha e, g.gg, fun a u e => by rw [upd_ne (fun z => by rw [z, hl] at e; cases e)]; exact g.gh a u e, g.fix, fun h => by
    rw [upd_ne (fun z : p = l => h (by rw [z]; exact h0))]; exact g.there h⟩
theorem GrM.frz {p : Addr} {G0 H0 G H : Hp} {l : Addr} {o : HO} (g : GrM p G0 H0 G H) (h0 : H0 l = none) (hl : G l = none) (hh : H l = some o) : GrM p G0 H0 (upd G l o) H :=
  ⟨g.hh, fun a u e => by rw [upd_ne (fun z => by have := g.gg a u e; rw [z, hl] at this; cases this)]; exact g.gg a u e, fun a u e => by
    by_cases z : a = l
    · subst z; rw [upd_same] at e; rw [hh]; exact e
    · rw [upd_ne z] at e; exact g.gh a u e, fun a ha => by rw [upd_ne (fun z : a = l => ha (by rw [z]; exact h0))]; exact g.fix a ha, g.there⟩
theorem Gr.free {G0 H0 G H : Hp} {l : Addr} (g : Gr G0 H0 G H) (h : H0 l ≠ none) (hl : G0 l = none) : G l = none := (g.fix l h).trans hl
theorem GrM.free {p : Addr} {G0 H0 G H : Hp} {l : Addr} (g : GrM p G0 H0 G H) (h : H0 l ≠ none) (hl : G0 l = none) : G l = none := (g.fix l h).trans hl
theorem some_ne {H : Hp} {l : Addr} {o : HO} (h : H l = some o) : H l ≠ none := by rw [h]; intro z; cases z
theorem Gr.new {G0 H0 G H : Hp} {l : Addr} (g : Gr G0 H0 G H) (h : H l = none) : H0 l = none := by
  cases e : H0 l with
  | none => rfl
  | some o => have := g.hh l o e; rw [h] at this; cases this
theorem GrM.new {p : Addr} {G0 H0 G H : Hp} {l : Addr} (g : GrM p G0 H0 G H) (h : H l = none) : H0 l = none := by
  cases e : H0 l with
  | none => rfl
  | some o =>
    by_cases z : l = p
    · subst z; exact absurd h (g.there (some_ne e))
    · have := g.hh l o z e; rw [h] at this; cases this
theorem ex_none {G H : Hp} {l : Addr} (h : Ex G H) (e : H l = none) : G l = none := by
  cases z : G l with
  | none => rfl
  | some o => have := h l o z; rw [e] at this; cases this
theorem Pen.loc {K : PySem.W.Frag} {ku kr : PySem.Str} {G H : Hp} {p l : Addr} {o : HO} {b : Nat} (h : Pen K ku kr G H p b) (hl : p ≠ l) : Pen K ku kr G (upd H l o) p b := h.mut ⟨rfl⟩ hl
theorem Pen.frz {K : PySem.W.Frag} {ku kr : PySem.Str} {G H : Hp} {p l : Addr} {o : HO} {b : Nat} (h : Pen K ku kr G H p b) (hl : p ≠ l) (hg : G l = none) : Pen K ku kr (upd G l o) H p b := by
  obtain ⟨⟨kvs, c, ns, u, r, h1, h2, h3, h4, h⟩, un⟩ := h
  exact ⟨⟨kvs, c, ns, u, r, h1, h2, h3, Evl.ex_l (Evl.Ex.new hg) h4, h⟩, by rw [upd_ne hl]; exact un⟩
theorem Pen.there {K : PySem.W.Frag} {ku kr : PySem.Str} {G H : Hp} {p : Addr} {b : Nat} (h : Pen K ku kr G H p b) : H p ≠ none := by
  obtain ⟨⟨kvs, c, ns, u, r, h1, _⟩, un⟩ := h
  exact some_ne h1
theorem Pen.off {K : PySem.W.Frag} {ku kr : PySem.Str} {G H : Hp} {p l : Addr} {b : Nat} (h : Pen K ku kr G H p b) (hl : H l = none) : p ≠ l := fun z => h.there (by rw [z]; exact hl)

theorem paired_imp2 {α β : Type} {R S : α → β → Prop} : ∀ {as : List α} {bs : List β}, Paired R as bs → (∀ a b, a ∈ as → R a b → S a b) → Paired S as bs
  | _, _, .nil, _ => .nil
  | _, _, .cons h t, i => .cons (i _ _ (List.mem_cons_self ..) h) (paired_imp2 t fun a b m => i a b (List.mem_cons_of_mem _ m))
def frzAll (G H H2 : Hp) : Hp := fun a => match H a with
  | none => H2 a
  | some _ => G a
theorem frz_new {G H H2 : Hp} {a : Addr} (h : H a = none) : frzAll G H H2 a = H2 a := by unfold frzAll; rw [h]
theorem Gr_all {G H H2 : Hp} (hx : Ex G H) (h2 : Ex H H2) : Gr G H (frzAll G H H2) H2 := by
  refine ⟨h2, fun a o e => ?_, fun a o e => ?_, fun a ha => ?_⟩
  · unfold frzAll; rw [hx a o e]; exact e
  · unfold frzAll at e
    cases z : H a with
    | none => rw [z] at e; exact e
    | some u => rw [z] at e; exact h2 a o (hx a o e)
  · unfold frzAll
    cases z : H a with
    | none => exact absurd z ha
    | some u => rfl
/-! ### comprehensions that leave what was -/
section
variable {n : Nat} {GG : Hp → Prop} {Y : Nat → Hp → V → Hp → Prop} {g : TG} {tt : TT} {te : TE} {vs : List Nat} {σ : L2.St} {H1 G0 : Hp} {Q : VK}
theorem lc_pure (hx : Ex G0 H1) (E : Nat → Hp → List V → Prop) (hn : n ≤ sizeLine) (hE0 : E 0 G0 []) (hlen : ∀ i G acc, E i G acc → acc.length ≤ i) (hG : ∀ G H, Gr G0 H1 G H → GG H)
    (step : ∀ i x G H H' acc, i < n → Gr G0 H1 G H → E i G acc → Y i H x H' → ∀ (R : V → Hp → Prop) (R0 : Hp → Prop), (∀ y G5 H5, Gr G H G5 H5 → E (i + 1) G5 (acc ++ [y]) → R y H5) → (∀ G5 H4, Gr G H G5 H4 → E (i + 1) G5 acc → R0 H4) →
      g x (wipe σ vs) H' fun σ2 H3 => wipe σ2 vs = wipe σ vs ∧ tt σ2 H3 fun c H4 => bite c (te σ2 H4 R) (R0 H4))
    (fin : ∀ D G H acc, Gr G0 H1 G H → H1 D = none → G D = none → H D = some (.lst acc) → E n G acc → Q (.ref D) H) :
    lcGo g tt te vs σ Q n GG Y H1 := by
  intro D H2 nw
  refine ⟨fun i H => ∃ G acc, Gr G0 H1 G H ∧ G D = none ∧ H D = some (.lst acc) ∧ E i G acc, ?_, ?_, ?_, ?_⟩
  · exact ⟨G0, [], nw.gr0 hx, nw.gnone hx, nw.at, hE0⟩
  · rintro i H _ ⟨G, acc, h1, _⟩
    exact hG G H h1
  · rintro i x H H' hi ⟨G, acc, h1, h2, h3, h4⟩ y
    refine step i x G H H' acc hi h1 h4 y _ _ (fun v G5 H5 h5 h6 => ⟨acc, h5.hh _ _ h3, Nat.lt_of_le_of_lt (hlen i G acc h4) (Nat.lt_of_lt_of_le hi hn), fun H6 ch => ?_⟩) (fun G5 H4 h5 h6 => ?_)
    · have n5 : G5 D = none := h5.free (some_ne h3) h2
      rw [ch.eq]
      exact ⟨G5, acc ++ [v], (h1.trans h5).loc nw.fresh n5, n5, upd_same, h6⟩
    · exact ⟨G5, acc, h1.trans h5, h5.free (some_ne h3) h2, h5.hh _ _ h3, h6⟩
  · rintro H ⟨G, acc, h1, h2, h3, h4⟩
    exact fin D G H acc h1 nw.fresh h2 h3 h4
theorem lc_pen {K : PySem.W.Frag} {ku kr : PySem.Str} {p : Addr} {b : Nat} (c : Nat) (hp : Pen K ku kr G0 H1 p b) (hx : Ex G0 H1) (E : Nat → Hp → List V → Prop) (hn : n ≤ sizeLine) (hE0 : E 0 G0 []) (hlen : ∀ i G acc, E i G acc → acc.length ≤ i) (hG : ∀ G H, GrM p G0 H1 G H → GG H)
    (step : ∀ i x G H H' acc, i < n → GrM p G0 H1 G H → Pen K ku kr G H p (b + i * c) → E i G acc → Y i H x H' → ∀ (R : V → Hp → Prop) (R0 : Hp → Prop), (∀ y G5 H5, GrM p G H G5 H5 → Pen K ku kr G5 H5 p (b + i * c + c) → E (i + 1) G5 (acc ++ [y]) → R y H5) → (∀ G5 H4, GrM p G H G5 H4 → Pen K ku kr G5 H4 p (b + i * c + c) → E (i + 1) G5 acc → R0 H4) →
      g x (wipe σ vs) H' fun σ2 H3 => wipe σ2 vs = wipe σ vs ∧ tt σ2 H3 fun c H4 => bite c (te σ2 H4 R) (R0 H4))
    (fin : ∀ D G H acc, GrM p G0 H1 G H → Pen K ku kr G H p (b + n * c) → p ≠ D → H1 D = none → G D = none → H D = some (.lst acc) → E n G acc → Q (.ref D) H) :
    lcGo g tt te vs σ Q n GG Y H1 := by
  intro D H2 nw
  have hd : p ≠ D := hp.off nw.fresh
  have ar : ∀ i, b + i * c + c = b + (i + 1) * c := fun i => by rw [Nat.succ_mul, Nat.add_assoc]
  refine ⟨fun i H => ∃ G acc, GrM p G0 H1 G H ∧ Pen K ku kr G H p (b + i * c) ∧ G D = none ∧ H D = some (.lst acc) ∧ E i G acc, ?_, ?_, ?_, ?_⟩
  · exact ⟨G0, [], (nw.gr0 hx).m p, (hp.gr (nw.gr0 hx)).up (Nat.le_add_right _ _), nw.gnone hx, nw.at, hE0⟩
  · rintro i H _ ⟨G, acc, h1, _⟩
    exact hG G H h1
  · rintro i x H H' hi ⟨G, acc, h1, hp', h2, h3, h4⟩ y
    refine step i x G H H' acc hi h1 hp' h4 y _ _ (fun v G5 H5 h5 hp5 h6 => ⟨acc, h5.hh _ _ hd.symm h3, Nat.lt_of_le_of_lt (hlen i G acc h4) (Nat.lt_of_lt_of_le hi hn), fun H6 ch => ?_⟩) (fun G5 H4 h5 hp5 h6 => ?_)
    · have n5 : G5 D = none := h5.free (some_ne h3) h2
      rw [ch.eq]
      exact ⟨G5, acc ++ [v], (h1.trans h5).loc nw.fresh n5, (ar i ▸ hp5).loc hd, n5, upd_same, h6⟩
    · exact ⟨G5, acc, h1.trans h5, ar i ▸ hp5, h5.free (some_ne h3) h2, h5.hh _ _ hd.symm h3, h6⟩
  · rintro H ⟨G, acc, h1, hp', h2, h3, h4⟩
    exact fin D G H acc h1 hp' hd nw.fresh h2 h3 h4
end
end Ech

namespace Ech
open PySem PySem.Spec PyProof.Rows L2
open He (ga ma)

/-! ### tables as data -/
def pV : Option Int → V
  | none => .non
  | some i => .int i
def pD : Option Int → PyData
  | none => .none
  | some i => .int i
def rowD (r : List (Option Int)) : PyData := .tuple (r.map pD)
def tabD (rows : List (List (Option Int))) : PyData := .tuple (rows.map rowD)
def TabAt (K : PySem.W.Frag) (G : Hp) (a : Addr) (rows : List (List (Option Int))) : Prop := ∃ dx ent, G a = some (.ins (ga K "Table") dx [("entries", ent)]) ∧ Dp K G ent (tabD rows)
theorem look_entries (v : V) : ([("entries", v)] : List (PySem.Str × V)).lookup ("entries" : PySem.Str) = some v := by rfl
theorem TabAt.up {K : PySem.W.Frag} {G G' : Hp} {a : Addr} {rows : List (List (Option Int))} (h : TabAt K G a rows) (x : Ex G G') : TabAt K G' a rows :=
  h.elim fun dx h => h.elim fun ent h => ⟨dx, ent, x _ _ h.1, dp_up x h.2⟩
theorem dpAll_len {K : PySem.W.Frag} {H : Hp} : ∀ {vs : List V} {ds : List PyData}, DpAll K H vs ds → vs.length = ds.length
  | _, _, .nil => rfl
  | _, _, .cons _ t => congrArg Nat.succ (dpAll_len t)
theorem dpAll_get {K : PySem.W.Frag} {H : Hp} : ∀ {vs : List V} {ds : List PyData} {i : Nat} {d : PyData}, DpAll K H vs ds → ds[i]? = some d → ∃ v, vs[i]? = some v ∧ Dp K H v d
  | _, _, 0, _, .cons h _, e => ⟨_, rfl, by cases e; exact h⟩
  | _, _, i + 1, _, .cons _ t, e => dpAll_get (i := i) t e
  | _, _, 0, _, .nil, e => by cases e
  | _, _, _ + 1, _, .nil, e => by cases e
theorem dpAll_snoc {K : PySem.W.Frag} {H : Hp} : ∀ {vs : List V} {ds : List PyData} {v : V} {d : PyData}, DpAll K H vs ds → Dp K H v d → DpAll K H (vs ++ [v]) (ds ++ [d])
  | _, _, _, _, .nil, h => .cons h .nil
  | _, _, _, _, .cons a t, h => .cons a (dpAll_snoc t h)
theorem dp_pD {K : PySem.W.Frag} {H : Hp} {v : V} {x : Option Int} (h : Dp K H v (pD x)) : v = pV x := by
  cases x with
  | none => cases h; rfl
  | some i => cases h; rfl
theorem dp_pV {K : PySem.W.Frag} {H : Hp} : ∀ x : Option Int, Dp K H (pV x) (pD x)
  | none => .non
  | some i => .int i
theorem dpAll_pV {K : PySem.W.Frag} {H : Hp} : ∀ r : List (Option Int), DpAll K H (r.map pV) (r.map pD)
  | [] => .nil
  | x :: r => .cons (dp_pV x) (dpAll_pV r)
theorem dpAll_pD {K : PySem.W.Frag} {H : Hp} : ∀ {vs : List V} {r : List (Option Int)}, DpAll K H vs (r.map pD) → vs = r.map pV
  | [], [], _ => rfl
  | v :: vs, x :: r, .cons a t => by rw [dp_pD a, dpAll_pD t]; rfl
theorem dpAll_int {K : PySem.W.Frag} {H : Hp} : ∀ r : List Int, DpAll K H (r.map V.int) (r.map PyData.int)
  | [] => .nil
  | x :: r => .cons (.int x) (dpAll_int r)
theorem atI_pos {α : Type} {xs : List α} {i : Int} {v : α} (h0 : 0 ≤ i) (h : xs[i.toNat]? = some v) : atI xs i = some v := by
  have e : ((i.toNat : Nat) : Int) = i := Int.toNat_of_nonneg h0
  rw [← e]
  exact atI_nat h
def SqR (rows : List (List (Option Int))) : Prop := ∀ r ∈ rows, r.length = rows.length
theorem SqR.at {rows : List (List (Option Int))} (h : SqR rows) {i : Nat} (hi : i < rows.length) : (rows.getD i []).length = rows.length := by
  rw [List.getD_eq_getElem?_getD, List.getElem?_eq_getElem hi]
  exact h _ (List.getElem_mem hi)
def entry (rows : List (List (Option Int))) (i j : Int) : Option Int := (rows.getD i.toNat []).getD j.toNat none
theorem int_ix {K : PySem.W.Frag} {H : Hp} {a : Addr} {ns : List Int} {i : Int} {Q : VK} (hs : SqL K H a (ns.map V.int) ∨ SqT K H a (ns.map V.int)) (h0 : 0 ≤ i) (h1 : i < ns.length) (q : Q (.int (ns.getD i.toNat 0)) H) : rIxU K (.ref a) (.int i) H Q := by
  refine ⟨_, _, hs, atI_pos h0 ?_, q⟩
  rw [List.getElem?_map, List.getD_eq_getElem?_getD, List.getElem?_eq_getElem (by omega)]
  rfl
theorem int_at {ns : List Int} {i : Int} {k : Nat} (h : i = k) (h1 : k < ns.length) : atI (ns.map V.int) i = some (.int (ns.getD k 0)) := by
  subst h
  refine atI_nat ?_
  rw [List.getElem?_map, List.getD_eq_getElem?_getD, List.getElem?_eq_getElem h1]
  rfl
theorem tab_at {K : PySem.W.Frag} {G : Hp} {v : V} {rows : List (List (Option Int))} (h : Dp K G v (tabD rows)) : ∃ a xs, v = .ref a ∧ SqT K G a xs ∧ ∀ i : Int, 0 ≤ i → i < rows.length → ∃ b, atI xs i = some (.ref b) ∧ SqT K G b ((rows.getD i.toNat []).map pV) := by
  cases h with
  | tup hs hd =>
    refine ⟨_, _, rfl, hs, fun i h0 h1 => ?_⟩
    have hl : i.toNat < rows.length := by omega
    have e : (rows.map rowD)[i.toNat]? = some (rowD (rows.getD i.toNat [])) := by
      rw [List.getElem?_map, List.getD_eq_getElem?_getD, List.getElem?_eq_getElem hl]
      rfl
    obtain ⟨w, hw, dw⟩ := dpAll_get hd e
    cases dw with
    | tup hs2 hd2 => exact ⟨_, atI_pos h0 hw, by rw [← dpAll_pD hd2]; exact hs2⟩
theorem row_at {r : List (Option Int)} {i : Int} (h0 : 0 ≤ i) (h1 : i < r.length) : atI (r.map pV) i = some (pV (r.getD i.toNat none)) := by
  refine atI_pos h0 ?_
  rw [List.getElem?_map, List.getD_eq_getElem?_getD, List.getElem?_eq_getElem (by omega)]
  rfl
/-! ### rows in lists or tuples -/
def RowsAt (K : PySem.W.Frag) (G : Hp) (v : V) (rows : List (List (Option Int))) : Prop := ∃ (a : Addr) (f : Bool) (vs : List V), v = .ref a ∧ Sq f K G a vs ∧ Paired (fun w r => ∃ (b : Addr) (g : Bool), w = V.ref b ∧ Sq g K G b (List.map pV r)) vs rows
theorem paired_at {α β : Type} {R : α → β → Prop} : ∀ {as : List α} {bs : List β} {i : Nat} {a : α}, Paired R as bs → as[i]? = some a → ∃ b, bs[i]? = some b ∧ R a b
  | _, _, 0, _, .cons h _, e => ⟨_, rfl, by cases e; exact h⟩
  | _, _, i + 1, _, .cons _ t, e => paired_at (i := i) t e
  | _, _, 0, _, .nil, e => by cases e
  | _, _, _ + 1, _, .nil, e => by cases e
theorem paired_len {α β : Type} {R : α → β → Prop} : ∀ {as : List α} {bs : List β}, Paired R as bs → as.length = bs.length
  | _, _, .nil => rfl
  | _, _, .cons _ t => congrArg Nat.succ (paired_len t)
theorem rows_of {K : PySem.W.Frag} {G : Hp} : ∀ {vs : List V} {rows : List (List (Option Int))}, DpAll K G vs (rows.map rowD) → Paired (fun w r => ∃ (b : Addr) (g : Bool), w = V.ref b ∧ Sq g K G b (List.map pV r)) vs rows
  | [], [], _ => .nil
  | v :: vs, r :: rows, .cons a t => .cons (by
      cases a with
      | tup hs hd => exact ⟨_, false, rfl, by rw [← dpAll_pD hd]; exact hs⟩) (rows_of t)
theorem RowsAt.of {K : PySem.W.Frag} {G : Hp} {v : V} {rows : List (List (Option Int))} (h : Dp K G v (tabD rows)) : RowsAt K G v rows := by
  cases h with
  | tup hs hd => exact ⟨_, false, _, rfl, hs, rows_of hd⟩
theorem Sq.or {b : Bool} {K : PySem.W.Frag} {H : Hp} {a : Addr} {xs : List V} (q : Sq b K H a xs) : SqL K H a xs ∨ SqT K H a xs := by
  cases b with
  | true => exact Or.inl q
  | false => exact Or.inr q
theorem isi_seq {K : PySem.W.Frag} {H : Hp} {a tp : Addr} {b : Bool} {xs : List V} {Q : VK} (h : Sq b K H a xs) (ht : H tp = some (.tup [.ty "list", .ty "tuple"])) (q : Q (.bl true) H) : rIsiU K [.ref a, .ref tp] H Q := by
  cases b with
  | true =>
    obtain ⟨t, h1, h2⟩ := isi_lst (n := "list") (b := true) h (by decide +kernel)
    exact Or.inr ⟨_, tp, _, t, [.type "list", .type "tuple"], true, rfl, ht, .cons (.ty _) (.cons (.ty _) .nil), h1, kitAny_cons h2 (fun z => by cases z) (fun _ => rfl), q⟩
  | false =>
    obtain ⟨t, h1, h2⟩ := isi_tup (n := "tuple") (b := true) h (by decide +kernel)
    have e : t = .type "tuple" ∨ True := Or.inr trivial
    have h3 : ∃ t, TyX K H (.ref a) t ∧ PySem.W.kitAny K t [.type "list", .type "tuple"] = some true := by
      have k1 : PySem.W.kitOne K (.type "tuple") (.type "list") = some false := kit_ty (by decide +kernel)
      have k2 : PySem.W.kitOne K (.type "tuple") (.type "tuple") = some true := kit_ty (by decide +kernel)
      refine ⟨.type "tuple", ?_, kitAny_cons k1 (fun _ => kitAny_cons k2 (fun z => by cases z) (fun _ => rfl)) (fun z => by cases z)⟩
      rcases h with (h | ⟨o, h⟩) | ⟨o, its, m, h, hc, _⟩
      · exact .base (.tup h)
      · exact .fTuple h
      · exact .kTuple h hc
    obtain ⟨t, h1, h2⟩ := h3
    exact Or.inr ⟨_, tp, _, t, [.type "list", .type "tuple"], true, rfl, ht, .cons (.ty _) (.cons (.ty _) .nil), h1, h2, q⟩
theorem made_gr {G H1 H2 G' H' : Hp} {x dx C : Addr} {o : HO} (m : Made H1 x dx C H2) (hg : Ex G H1) (g : GrM x G H2 G' H') (hx : H' x = some o) : Gr G H1 (upd G' x o) H' := by
  have e2 : ∀ a, a ≠ x → a ≠ dx → H2 a = H1 a := fun a h1 h2 => by rw [m.eq, upd_ne h1, upd_ne h2]
  have hx2 : H2 x ≠ none := by rw [m.eq, upd_same]; intro z; cases z
  have gx : G' x = none := (g.fix x hx2).trans (ex_none hg m.nx)
  have off : ∀ a u, H1 a = some u → H2 a = some u := fun a u e => by
    rw [e2 a (fun z => by rw [z, m.nx] at e; cases e) (fun z => by rw [z, m.ndx] at e; cases e)]
    exact e
  refine ⟨fun a u e => g.hh a u (fun z => by rw [z, m.nx] at e; cases e) (off a u e), fun a u e => ?_, fun a u e => ?_, fun a ha => ?_⟩
  · have := g.gg a u e
    rw [upd_ne (fun z => by rw [z, gx] at this; cases this)]
    exact this
  · by_cases z : a = x
    · subst z; rw [upd_same] at e; rw [hx]; exact e
    · rw [upd_ne z] at e; exact g.gh a u e
  · rw [upd_ne (fun z : a = x => ha (by rw [z]; exact m.nx))]
    refine g.fix a ?_
    cases e : H1 a with
    | none => exact absurd e ha
    | some u => exact some_ne (off a u e)
theorem Made.ex {H1 H2 : Hp} {x dx C : Addr} (m : Made H1 x dx C H2) : Ex H1 H2 := fun a u e => by
  rw [m.eq, upd_ne (fun z => by rw [z, m.nx] at e; cases e), upd_ne (fun z => by rw [z, m.ndx] at e; cases e)]
  exact e
theorem Made.at {H1 H2 : Hp} {x dx C : Addr} (m : Made H1 x dx C H2) : H2 x = some (.ins C dx []) := by rw [m.eq, upd_same]

/-! ### delays -/
end Ech

namespace Ech
open PySem PySem.Spec PyProof.Rows L2

/-! ### the pen's cells -/
def PenX (K : PySem.W.Frag) (ku kr : PySem.Str) (G H : Hp) (p : Addr) (b : Nat) (kvs : List (Key × V)) (c : Addr) (ns : List Int) (u r : Int) : Prop := H p = some (.dK kvs) ∧ kvs.length ≤ 3 ∧ valV kvs (.inr "cells") = some (.ref c) ∧ SqL K G c (ns.map V.int) ∧ ns.length ≤ 63 ∧
    valV kvs (.inr ku) = some (.int u) ∧ 0 ≤ u ∧ u ≤ b ∧ valV kvs (.inr kr) = some (.int r) ∧ 0 ≤ r
structure KeysOk (ku kr : PySem.Str) : Prop where
  cu : ¬ ((Sum.inr ("cells" : PySem.Str) : Key) = Sum.inr ku)
  cr : ¬ ((Sum.inr ("cells" : PySem.Str) : Key) = Sum.inr kr)
  ur : ¬ ((Sum.inr ku : Key) = Sum.inr kr)
section
variable {K : PySem.W.Frag} {ku kr : PySem.Str} {G H : Hp} {p c : Addr} {b : Nat} {kvs : List (Key × V)} {ns : List Int} {u r : Int}
theorem PenX.putR (ko : KeysOk ku kr) (h : PenX K ku kr G H p b kvs c ns u r) {r' : Int} (hr : 0 ≤ r') : PenX K ku kr G (upd H p (.dK (putK kvs (.inr kr) (.int r')))) p b (putK kvs (.inr kr) (.int r')) c ns u r' := by
  obtain ⟨h1, h2, h3, h4, h5, h6, h7, h8, h9, h10⟩ := h
  refine ⟨upd_same, by rw [length_putK_some h9]; exact h2, ?_, h4, h5, ?_, h7, h8, ?_, hr⟩
  · rw [valV_put, if_neg ko.cr]; exact h3
  · rw [valV_put, if_neg ko.ur]; exact h6
  · rw [valV_put, if_pos rfl]
theorem PenX.putU (ko : KeysOk ku kr) (h : PenX K ku kr G H p b kvs c ns u r) {u' : Int} {b' : Nat} (h0 : 0 ≤ u') (hb : u' ≤ b') : PenX K ku kr G (upd H p (.dK (putK kvs (.inr ku) (.int u')))) p b' (putK kvs (.inr ku) (.int u')) c ns u' r := by
  obtain ⟨h1, h2, h3, h4, h5, h6, h7, h8, h9, h10⟩ := h
  refine ⟨upd_same, by rw [length_putK_some h6]; exact h2, ?_, h4, h5, ?_, h0, hb, ?_, h10⟩
  · rw [valV_put, if_neg ko.cu]; exact h3
  · rw [valV_put, if_pos rfl]
  · rw [valV_put, if_neg (fun z => ko.ur z.symm)]; exact h9
theorem PenX.pen (h : PenX K ku kr G H p b kvs c ns u r) (un : G p = none) : Pen K ku kr G H p b := ⟨⟨kvs, c, ns, u, r, h⟩, un⟩
theorem PenX.gr {G' H' : Hp} (h : PenX K ku kr G H p b kvs c ns u r) (g : Gr G H G' H') : PenX K ku kr G' H' p b kvs c ns u r := by
  obtain ⟨h1, h2, h3, h4, h5, h6⟩ := h
  exact ⟨g.hh _ _ h1, h2, h3, Evl.ex_l g.gg h4, h5, h6⟩
theorem PenX.rest (h : PenX K ku kr G H p b kvs c ns u r) : DGet H p (.str kr) (some (.int r)) := dget_of h.1 h.2.2.2.2.2.2.2.2.1
theorem PenX.used (h : PenX K ku kr G H p b kvs c ns u r) : DGet H p (.str ku) (some (.int u)) := dget_of h.1 h.2.2.2.2.2.1
theorem PenX.cells (h : PenX K ku kr G H p b kvs c ns u r) : DGet H p (.str "cells") (some (.ref c)) := dget_of h.1 h.2.2.1
theorem PenX.dput (h : PenX K ku kr G H p b kvs c ns u r) (k : PySem.Str) (v : V) : DPut H p (.str k) v (upd H p (.dK (putK kvs (.inr k) v))) := dput_of h.1 h.2.1
theorem upd_grm {o : HO} (h : Ex G H) (hp : G p = none) : GrM p G H G (upd H p o) := Chg.grm ⟨rfl⟩ h hp
end

/-! ### data of ints -/
theorem ints_lay : ∀ ns : List Int, PyData.canLayAll0 (ns.map PyData.int) = true
  | [] => by simp [PyData.canLayAll0]
  | z :: zs => by simp [PyData.canLayAll0, PyData.canLay0, ints_lay zs]
theorem ints_depth : ∀ ns : List Int, PyData.depthAll (ns.map PyData.int) ≤ 2
  | [] => by simp [PyData.depthAll]
  | z :: zs => by
    have h1 := ints_depth zs
    simp only [List.map_cons, PyData.depthAll, PyData.depth]
    omega
theorem ints_shaped (ns : List Int) : SeqAt.shaped (.list (ns.map PyData.int)) = true := by
  have h1 := ints_depth ns
  have h2 : PyData.depth (.list (ns.map PyData.int)) ≤ 64 := by
    simp only [PyData.depth]
    omega
  show (PyData.canLay0 (.list (ns.map PyData.int)) && decide (PyData.depth (.list (ns.map PyData.int)) ≤ 64)) = true
  rw [Bool.and_eq_true]
  exact ⟨by simp only [PyData.canLay0]; exact ints_lay ns, decide_eq_true h2⟩
theorem ints_eqv : ∀ ns ms : List Int, PyData.eqvAll (ns.map PyData.int) (ms.map PyData.int) = decide (ns = ms)
  | [], [] => rfl
  | [], _ :: _ => rfl
  | _ :: _, [] => rfl
  | n :: ns, m :: ms => by
    show (PyData.eqv (.int n) (.int m) && PyData.eqvAll (ns.map PyData.int) (ms.map PyData.int)) = _
    rw [ints_eqv ns ms]
    show ((n == m) && _) = _
    by_cases h : n = m
    · subst h; simp
    · simp [h]
theorem ints_cmp {K : PySem.W.Frag} {H : Hp} {a c : Addr} {ns ms : List Int} {Q : VK} {neg : Bool} (h1 : SqL K H a (ns.map V.int)) (h2 : SqL K H c (ms.map V.int)) (q : Q (.bl (if neg then !decide (ns = ms) else decide (ns = ms))) H) : rEqU K neg (.ref a) (.ref c) H Q := by
  refine Or.inr ⟨.list (ns.map PyData.int), .list (ms.map PyData.int), .lst h1 (dpAll_int ns), .lst h2 (dpAll_int ms), ints_shaped ns, ints_shaped ms, ?_⟩
  rw [show PyData.eqv (.list (ns.map PyData.int)) (.list (ms.map PyData.int)) = PyData.eqvAll (ns.map PyData.int) (ms.map PyData.int) by simp only [PyData.eqv], ints_eqv]
  exact q
def rModZ : R2 := fun x y H Q => match x, y with
  | .int i, .int j => 0 < j ∧ ∀ z, 0 ≤ z → z < j → z = i % j → Q (.int z) H
  | _, _ => False
theorem o_modz {X : Cx} : OpR X (binaryOp .Mod) rModZ := by
  refine op_wk o_mod fun x y H Q h => ?_
  unfold rModZ at h
  split at h
  · exact ⟨h.1, h.2 _ (Int.emod_nonneg _ (Int.ne_of_gt h.1)) (Int.emod_lt_of_pos _ h.1) rfl⟩
  · exact h.elim
def rDivZ : R2 := fun x y H Q => match x, y with
  | .int i, .int j => (0 < j ∧ j < 2 ^ 1000) ∧ ∀ z, z = i / j → Q (.int z) H
  | _, _ => False
theorem o_divz {X : Cx} : OpR X (binaryOp .FloorDiv) rDivZ := by
  refine op_wk o_div fun x y H Q h => ?_
  unfold rDivZ at h
  split at h
  · exact ⟨h.1, h.2 _ rfl⟩
  · exact h.elim
theorem mulOk {i j : Int} (h : -(2 ^ 64) < i ∧ i < 2 ^ 64) : CMulU i j := Or.inl (Or.inl h)
theorem mulOkR {i j : Int} (h : -(2 ^ 64) < j ∧ j < 2 ^ 64) : CMulU i j := Or.inl (Or.inr h)

/-! ### repr of ints in a list -/
structure Shows (d : PyData) : Prop where
  a : d.showable = true
  b : d.hasDict = false
  c : d.depth ≤ 60
  d : d.shown.length ≤ sizeLine
end Ech

namespace Ech
open PySem PySem.Spec PyProof.Rows L2

/-! ### enumerate(tuple) -/
section
variable {prog : Program} {w : World} {A : Around} {E : Value → Shared → Prop} {s : Shared}
end
end Ech

namespace Ech
open PySem PySem.Spec PyProof.Rows L2

/-! ### defs with a starred last name -/
section
variable {P : Program} {w : World} {K : PySem.W.Frag} {mg : PySem.Str → Option Value} {base : Heap} {x qual pv : PySem.Str} {params : Arguments} {body : List Stmt} {scope : Scope} {kws : List (PySem.Str × V)} {f : Addr} {fd : FuncData} {N ps : List PySem.Str} {k : Nat} {sp : Sp}
end
end Ech

namespace Ech
open PySem PySem.Spec PyProof.Rows L2
open He (ga ma)

/-! ### songs as data -/
abbrev Ec : Type := Int × Addr × List (List (Option Int))
def EchoAt (K : PySem.W.Frag) (G : Hp) (v : V) (e : Ec) : Prop := ∃ b, v = .ref b ∧ SqT K G b [.int e.1, .ref e.2.1] ∧ TabAt K G e.2.1 e.2.2
def SongAt (K : PySem.W.Frag) (G : Hp) (a : Addr) (L n : Int) (es : List Ec) : Prop := ∃ dx vo vs, G a = some (.ins (ga K "Song") dx [("alphabet", .int L), ("size", .int n), ("voices", .ref vo)]) ∧ SqT K G vo vs ∧ Paired (EchoAt K G) vs es
theorem EchoAt.up {K : PySem.W.Frag} {G G' : Hp} {v : V} {e : Ec} (x : Ex G G') (h : EchoAt K G v e) : EchoAt K G' v e := by
  obtain ⟨b, h1, h2, h3⟩ := h
  exact ⟨b, h1, Evl.ex_t x h2, h3.up x⟩
theorem echoes_up {K : PySem.W.Frag} {G G' : Hp} {vs : List V} {es : List Ec} (x : Ex G G') (h : Paired (EchoAt K G) vs es) : Paired (EchoAt K G') vs es := paired_imp2 h fun _ _ _ z => z.up x
theorem SongAt.up {K : PySem.W.Frag} {G G' : Hp} {a : Addr} {L n : Int} {es : List Ec} (h : SongAt K G a L n es) (x : Ex G G') : SongAt K G' a L n es := by
  obtain ⟨dx, vo, vs, h1, h2, h3⟩ := h
  exact ⟨dx, vo, vs, x _ _ h1, Evl.ex_t x h2, echoes_up x h3⟩
theorem ex_refl (H : Hp) : Ex H H := fun _ _ e => e
theorem ex_trans {G H I : Hp} (a : Ex G H) (b : Ex H I) : Ex G I := fun x o e => b x o (a x o e)

/-! ### scores: what a law draws ahead of a song -/
abbrev Lot : Type := Int × List (List (Option Int))
def LotAt (K : PySem.W.Frag) (G : Hp) (w : V) (e : Lot) : Prop := ∃ b r, w = .ref b ∧ SqT K G b [.int e.1, r] ∧ RowsAt K G r e.2
def ScoreAt (K : PySem.W.Frag) (G : Hp) (v : V) (L n : Int) (es : List Lot) : Prop := ∃ a kvs le ws, v = .ref a ∧ G a = some (.dK kvs) ∧ valV kvs (.inr "letters") = some (.int L) ∧ valV kvs (.inr "length") = some (.int n) ∧ valV kvs (.inr "echoes") = some (.ref le) ∧ SqL K G le ws ∧ Paired (LotAt K G) ws es
def lotSum (es : List Lot) : Int := (es.map (·.1)).sum
structure ScoreOk (L n : Int) (es : List Lot) : Prop where
  l1 : 1 ≤ L
  l5 : L ≤ 5
  n1 : 1 ≤ n
  n30 : n ≤ 10 ^ 30
  few : es.length ≤ 2
  each : ∀ e ∈ es, 1 ≤ e.1 ∧ e.1 ≤ 10 ^ 30 ∧ (e.2.length : Int) = L ∧ SqR e.2 ∧ ∀ r ∈ e.2, ∀ x ∈ r, ∀ i, x = some i → 0 ≤ i
  sum : es.length = 2 → n ≤ lotSum es
theorem RowsAt.up {K : PySem.W.Frag} {G G' : Hp} {v : V} {rows : List (List (Option Int))} (x : Ex G G') (h : RowsAt K G v rows) : RowsAt K G' v rows := by
  obtain ⟨a, f, vs, h1, h2, h3⟩ := h
  exact ⟨a, f, vs, h1, Sq.up x h2, paired_imp2 h3 fun w r _ ⟨b, g, k1, k2⟩ => ⟨b, g, k1, Sq.up x k2⟩⟩
theorem LotAt.up {K : PySem.W.Frag} {G G' : Hp} {w : V} {e : Lot} (x : Ex G G') (h : LotAt K G w e) : LotAt K G' w e := by
  obtain ⟨b, r, h1, h2, h3⟩ := h
  exact ⟨b, r, h1, Evl.ex_t x h2, h3.up x⟩
theorem ScoreAt.up {K : PySem.W.Frag} {G G' : Hp} {v : V} {L n : Int} {es : List Lot} (x : Ex G G') (h : ScoreAt K G v L n es) : ScoreAt K G' v L n es := by
  obtain ⟨a, kvs, le, ws, h1, h2, h3, h4, h5, h6, h7⟩ := h
  exact ⟨a, kvs, le, ws, h1, x _ _ h2, h3, h4, h5, Evl.ex_l x h6, paired_imp2 h7 fun _ _ _ z => z.up x⟩
end Ech

namespace Ech
open PySem PySem.Spec PyProof.Rows L2
open He (ga ma)

/-! ### data small enough to be shown and compared -/
structure Sm (k n : Nat) (d : PyData) : Prop where
  lay : d.canLay0 = true
  sh : d.showable = true
  nd : d.hasDict = false
  dp : d.depth ≤ k
  lv : d.leavesShort 91 = true
  w : d.weight ≤ n
theorem Sm.up {k n k' n' : Nat} {d : PyData} (h : Sm k n d) (hk : k ≤ k') (hn : n ≤ n') : Sm k' n' d := ⟨h.lay, h.sh, h.nd, Nat.le_trans h.dp hk, h.lv, Nat.le_trans h.w hn⟩
theorem sm_non : Sm 0 0 .none := ⟨rfl, rfl, rfl, Nat.le_refl _, rfl, Nat.le_refl _⟩
theorem sm_int {i : Int} (h : i.natAbs < 10 ^ 90) : Sm 0 300 (.int i) := by
  have lg : i.natAbs.log2 ≤ 299 := by
    by_cases z : i.natAbs = 0
    · rw [z]; decide
    · exact Nat.le_of_lt_succ ((Nat.log2_lt z).mpr (Nat.lt_of_lt_of_le h (by decide +kernel)))
  refine ⟨by simp only [PyData.canLay0], ?_, by simp only [PyData.hasDict], by simp only [PyData.depth]; exact Nat.le_refl _, ?_, ?_⟩
  · simp only [PyData.showable]
    exact decide_eq_true (by omega)
  · simp only [PyData.leavesShort]
    refine decide_eq_true ?_
    have e := int_text_length_le10 (k := 90) (by decide) h
    show (Str.ofString (toString i)).length ≤ 91
    rw [PySem.ofString_length]
    exact e
  · simp only [PyData.weight]
    split
    · omega
    · omega
section
variable {k n : Nat}
theorem sm_all : ∀ {ds : List PyData}, (∀ d ∈ ds, Sm k n d) → PyData.canLayAll0 ds = true ∧ PyData.showableAll ds = true ∧ PyData.hasDictAll ds = false ∧ PyData.depthAll ds ≤ k ∧ PyData.leavesShortAll 91 ds = true ∧ PyData.weightAll ds ≤ ds.length * (n + 1)
  | [], _ => ⟨by simp [PyData.canLayAll0], by simp [PyData.showableAll], by simp [PyData.hasDictAll], by simp [PyData.depthAll], by simp [PyData.leavesShortAll], by simp [PyData.weightAll]⟩
  | d :: ds, h => by
    obtain ⟨a, b, c, e, f, g⟩ := sm_all (ds := ds) fun x hx => h x (List.mem_cons_of_mem _ hx)
    have q := h d (List.mem_cons_self ..)
    refine ⟨by simp [PyData.canLayAll0, a, q.lay], by simp [PyData.showableAll, b, q.sh], by simp [PyData.hasDictAll, c, q.nd], ?_, by simp [PyData.leavesShortAll, f, q.lv], ?_⟩
    · simp only [PyData.depthAll]
      have := q.dp
      omega
    · simp only [PyData.weightAll, List.length_cons]
      have := q.w
      rw [Nat.succ_mul]
      omega
theorem sm_lst {ds : List PyData} (m : Nat) (hm : ds.length ≤ m) (h : ∀ d ∈ ds, Sm k n d) : Sm (k + 1) (m * (n + 1)) (.list ds) := by
  obtain ⟨a, b, c, e, f, g⟩ := sm_all h
  exact ⟨by simpa [PyData.canLay0] using a, by simpa [PyData.showable] using b, by simpa [PyData.hasDict] using c, by simp only [PyData.depth]; omega, by simpa [PyData.leavesShort] using f, by
    simp only [PyData.weight]; exact Nat.le_trans g (Nat.mul_le_mul_right _ hm)⟩
theorem sm_tup {ds : List PyData} (m : Nat) (hm : ds.length ≤ m) (h : ∀ d ∈ ds, Sm k n d) : Sm (k + 1) (m * (n + 1)) (.tuple ds) := by
  obtain ⟨a, b, c, e, f, g⟩ := sm_all h
  exact ⟨by simpa [PyData.canLay0] using a, by simpa [PyData.showable] using b, by simpa [PyData.hasDict] using c, by simp only [PyData.depth]; omega, by simpa [PyData.leavesShort] using f, by
    simp only [PyData.weight]; exact Nat.le_trans g (Nat.mul_le_mul_right _ hm)⟩
theorem Sm.shows {d : PyData} (h : Sm k n d) (hk : k ≤ 60) (hn : n ≤ 150000) : Shows d := by
  refine ⟨h.sh, h.nd, Nat.le_trans h.dp hk, ?_⟩
  have e := PyData.shown_le 91 (by decide) d h.lv
  have w := h.w
  have e2 : sizeLine = 16777216 := by decide +kernel
  rw [e2]
  have : (91 + 2) * d.weight ≤ 93 * 150000 := Nat.mul_le_mul (by omega) (by omega)
  omega
theorem Sm.shaped {d : PyData} (h : Sm k n d) (hk : k ≤ 64) : SeqAt.shaped d = true := by
  show (PyData.canLay0 d && decide (PyData.depth d ≤ 64)) = true
  rw [Bool.and_eq_true]
  exact ⟨h.lay, decide_eq_true (Nat.le_trans h.dp hk)⟩
end
theorem sm_pD {x : Option Int} (h : ∀ i, x = some i → i.natAbs < 10 ^ 90) : Sm 0 300 (pD x) := by
  cases x with
  | none => exact sm_non.up (by omega) (by omega)
  | some i => exact sm_int (h i rfl)

/-! ### repr, told -/
/-! ### scores, done -/
end Ech

set_option maxHeartbeats 4000000
/-! ### tuples of ints in their order -/
namespace EchS
open PySem PyProof.Rows Srt SrtO
def lexLe (a b : List Int) : Bool := !HT.lexLt b a
def isort (ds : List (List Int)) : List (List Int) := ds.mergeSort lexLe
section
variable {prog : Program} {w : World} {A : Around} {E : Value → Shared → Prop} {s : Shared}
def IsInts (h : Heap) (v : Value) (ns : List Int) : Prop := ∃ a o its n, v = .ref a ∧ h.get? a = some o ∧ o.cls = .type "tuple" ∧ o.data = .seq its n ∧ IntsAre its.toList ns
theorem IsInts.keeps {h h' : Heap} {v : Value} {ns : List Int} (p : IsInts h v ns) (k : ∀ b o, h.get? b = some o → o.cls = .type "tuple" → h'.get? b = some o) : IsInts h' v ns := by
  obtain ⟨a, o, its, n, e, ho, hc, hd, hi⟩ := p
  exact ⟨a, o, its, n, e, k _ _ ho hc, hc, hd, hi⟩
theorem ints_uniq : ∀ {vs : List Value} {ns ms : List Int}, IntsAre vs ns → IntsAre vs ms → ns = ms
  | _, _, _, .nil, .nil => rfl
  | _, _, _, .cons n t r, h => by
    cases h with
    | cons _ _ r2 => rw [ints_uniq r r2]
theorem IsInts.uniq {h : Heap} {v : Value} {ns ms : List Int} (p : IsInts h v ns) (q : IsInts h v ms) : ns = ms := by
  obtain ⟨a, o, its, n, rfl, ho, hc, hd, hi⟩ := p
  obtain ⟨a', o', its', n', e, ho', hc', hd', hi'⟩ := q
  cases e
  rw [ho] at ho'
  cases ho'
  rw [hd] at hd'
  cases hd'
  exact ints_uniq hi hi'
end
end EchS
namespace Ech
open PySem PySem.Spec PyProof.Rows L2
open EchS (isort IsInts)
end Ech

namespace Ech
open PySem PySem.Spec PyProof.Rows L2
open He (ga ma)

/-! ### methods of own classes -/
section
variable {X : Cx} {o e : Expr} {es : List Expr} {ta : TE} {t : TA} {pos apos : Pos} {C f : Addr} {m x : PySem.Str} {CX : CXT} {k : Nat} {ps : List PySem.Str} {sp : Sp} {dvs : List V} {E : XK} {pl : Sem Bool}
end

/-! ### a class's int, read through an instance -/
/-! ### calls with a star -/
/-! ### in -/
section
variable {X : Cx} {K : PySem.W.Frag}
end

/-! ### dicts: copies, walks over keys -/
/-! ### more methods of lists -/
section
variable {X : Cx} {K : PySem.W.Frag} {o e : Expr} {es : List Expr} {to : TE} {t : TA} {apos cpos : Pos}
end
end Ech

set_option maxHeartbeats 1000000
namespace Ech
open PySem PySem.Spec PyProof.Rows L2
open He (ga ma)

/-! ### tuples of ints -/
def TupAt (K : PySem.W.Frag) (G : Hp) (v : V) (d : List Int) : Prop := ∃ t, v = .ref t ∧ SqT K G t (d.map V.int)
theorem TupAt.up {K : PySem.W.Frag} {G G' : Hp} {v : V} {d : List Int} (x : Ex G G') (h : TupAt K G v d) : TupAt K G' v d := by
  obtain ⟨t, h1, h2⟩ := h
  exact ⟨t, h1, Evl.ex_t x h2⟩
theorem paired_app {α β : Type} {R : α → β → Prop} : ∀ {as cs : List α} {bs ds : List β}, Paired R as bs → Paired R cs ds → Paired R (as ++ cs) (bs ++ ds)
  | _, _, _, _, .nil, h => h
  | _, _, _, _, .cons x t, h => .cons x (paired_app t h)
theorem paired_one {α β : Type} {R : α → β → Prop} {as : List α} {bs : List β} {a : α} {b : β} (h : Paired R as bs) (r : R a b) : Paired R (as ++ [a]) (bs ++ [b]) := paired_app h (.cons r .nil)
/-! ### links -/
/-! ### prices -/
/-! ### wishes -/
abbrev Wish : Type := Int × List (Option Int)
def WishKV (K : PySem.W.Frag) (G : Hp) (kv : Key × V) (w : Wish) : Prop := kv.1 = .inl w.1 ∧ ∃ t, kv.2 = .ref t ∧ SqT K G t (w.2.map pV)
theorem WishKV.up {K : PySem.W.Frag} {G G' : Hp} {kv : Key × V} {w : Wish} (x : Ex G G') (h : WishKV K G kv w) : WishKV K G' kv w := by
  obtain ⟨h1, t, h2, h3⟩ := h
  exact ⟨h1, t, h2, Evl.ex_t x h3⟩
/-! ### tables of pairs -/
/-! ### a dict under lock -/
end Ech

namespace Ech
open PySem PySem.Spec PyProof.Rows L2
open He (ga ma)

/-! ### operators of own classes -/
def rOwn2 (C : Addr) (sp : Sp) (E : XK) : R2 := fun x y H Q => match x, y with
  | .ref a, .ref b => ∃ dx fs dy gs, H a = some (.ins C dx fs) ∧ H b = some (.ins C dy gs) ∧ sp [.ref a, .ref b] H Q E
  | _, _ => False
def rOwn1 (C : Addr) (sp : Sp) (E : XK) : V → Hp → VK → Prop := fun x H Q => match x with
  | .ref a => ∃ dx fs, H a = some (.ins C dx fs) ∧ sp [.ref a] H Q E
  | _ => False
section
variable {X : Cx} {C f : Addr} {CX : CXT} {k : Nat} {ps : List PySem.Str} {sp : Sp} {E : XK}
theorem cmp_back {pins : List (Addr × Obj)} {σ : L2.St} {Q : VK} {v : Value} {s : Shared} (h : EP X pins σ Q v s) : PySem.W.CmpBack (EP X pins σ Q) v s := by
  obtain ⟨x, H, I, r, q⟩ := h
  unfold PySem.W.CmpBack
  split
  · cases x <;> first | (obtain ⟨t, r⟩ := r; cases r) | cases r
  · exact ⟨x, H, I, r, q⟩
theorem o_own2 {op : Operator} {m : PySem.Str} (hm : Meth X.K C m f) (ho : PySem.dunder op.info.2 = m) (sf : PySem.W.selfFirst X.K C = true) (F : FnOk X.prog X.w X.K X.mg X.base CX k f (fdA X.K f) ps sp) (hr : Room k X.A) (hb : Bnd X.K f ps []) (hx : Passes CX X E) : OpR X (binaryOp op) (rOwn2 C sp E) := by
  intro pins s σ H x y v u Q I rx ry h
  unfold rOwn2 at h
  split at h
  · rename_i a b
    obtain ⟨dx, fs, dy, gs, ha, hb', hsp⟩ := h
    cases rx
    cases ry
    obtain ⟨mA, J, _⟩ := ins_get I.hok ha
    obtain ⟨mB, J', _⟩ := ins_get I.hok hb'
    obtain ⟨od, J, _⟩ := J.look
    obtain ⟨od', J', _⟩ := J'.look
    obtain ⟨m', hF⟩ := I.fr
    subst ho
    refine PySem.W.binop_K hF I.ok.mod.kin J J'.type sf hm.at_ hm.fn ?_
    obtain ⟨ds, hd, hb⟩ := hb
    refine wpAny_mono (run_fn (us := [.ref a, .ref b]) (vs := [.ref a, .ref b]) F hr hb hd hx I (.cons rfl (.cons rfl .nil)) hsp) (fun v s' z => cmp_back z) fun _ _ z => z
  · exact h.elim
theorem o_own1 {m : PySem.Str} (hm : Meth X.K C m f) (ho : m = "__neg__") (F : FnOk X.prog X.w X.K X.mg X.base CX k f (fdA X.K f) ps sp) (hr : Room k X.A) (hb : Bnd X.K f ps []) (hx : Passes CX X E) : UnR X (unaryOp .USub) (rOwn1 C sp E) := by
  intro pins s σ H x v Q I rx h
  unfold rOwn1 at h
  split at h
  · rename_i a
    obtain ⟨dx, fs, ha, hsp⟩ := h
    cases rx
    obtain ⟨mA, J, _⟩ := ins_get I.hok ha
    obtain ⟨od, J, _⟩ := J.look
    obtain ⟨m', hF⟩ := I.fr
    subst ho
    refine PySem.W.ksp_neg hF I.ok.mod.kin J hm.at_ hm.fn ?_
    obtain ⟨ds, hd, hb⟩ := hb
    exact run_fn (us := [.ref a]) (vs := [.ref a]) F hr hb hd hx I (.cons rfl .nil) hsp
  · exact h.elim
end

/-! ### rows of tables in tuples -/
def RowT (K : PySem.W.Frag) (G : Hp) (w : V) (r : List (Option Int)) : Prop := ∃ t, w = V.ref t ∧ SqT K G t (r.map pV)
theorem RowT.up {K : PySem.W.Frag} {G G' : Hp} {w : V} {r : List (Option Int)} (x : Ex G G') (h : RowT K G w r) : RowT K G' w r := by
  obtain ⟨t, h1, h2⟩ := h
  exact ⟨t, h1, Evl.ex_t x h2⟩
theorem rowT_dp {K : PySem.W.Frag} {G : Hp} : ∀ {vs : List V} {rows : List (List (Option Int))}, DpAll K G vs (rows.map rowD) → Paired (RowT K G) vs rows
  | [], [], _ => .nil
  | v :: vs, r :: rows, .cons a t => .cons (by
      cases a with
      | tup hs hd => exact ⟨_, rfl, by rw [← dpAll_pD hd]; exact hs⟩) (rowT_dp t)
theorem tab_rows {K : PySem.W.Frag} {G : Hp} {v : V} {rows : List (List (Option Int))} (h : Dp K G v (tabD rows)) : ∃ a vs, v = .ref a ∧ SqT K G a vs ∧ Paired (RowT K G) vs rows := by
  cases h with
  | tup hs hd => exact ⟨_, _, rfl, hs, rowT_dp hd⟩
theorem rows_rowT {K : PySem.W.Frag} {G : Hp} {vs : List V} {rows : List (List (Option Int))} (h : Paired (RowT K G) vs rows) : Paired (fun w r => ∃ (b : Addr) (g : Bool), w = V.ref b ∧ Sq g K G b (List.map pV r)) vs rows := paired_imp2 h fun w r _ ⟨t, h1, h2⟩ => ⟨t, false, h1, h2⟩
/-! ### sums of tables -/
def add2 : Option Int → Option Int → Option Int
  | some a, some b => some (a + b)
  | _, _ => none
def addRow (r s : List (Option Int)) : List (Option Int) := List.zipWith add2 r s
def addRows (A B : List (List (Option Int))) : List (List (Option Int)) := List.zipWith addRow A B
theorem addRow_len {r s : List (Option Int)} (h : r.length = s.length) : (addRow r s).length = r.length := by unfold addRow; rw [List.length_zipWith, h, Nat.min_self]
theorem addRows_len {A B : List (List (Option Int))} (h : A.length = B.length) : (addRows A B).length = A.length := by unfold addRows; rw [List.length_zipWith, h, Nat.min_self]
theorem addRows_mem {A B : List (List (Option Int))} {r : List (Option Int)} (h : r ∈ addRows A B) : ∃ a ∈ A, ∃ b ∈ B, r = addRow a b := by
  unfold addRows at h
  obtain ⟨i, hi, rfl⟩ := List.mem_iff_getElem.mp h
  rw [List.length_zipWith] at hi
  rw [List.getElem_zipWith]
  exact ⟨_, List.getElem_mem (by omega), _, List.getElem_mem (by omega), rfl⟩
theorem addRow_mem {r s : List (Option Int)} {x : Option Int} (h : x ∈ addRow r s) : ∃ a ∈ r, ∃ b ∈ s, x = add2 a b := by
  unfold addRow at h
  obtain ⟨i, hi, rfl⟩ := List.mem_iff_getElem.mp h
  rw [List.length_zipWith] at hi
  rw [List.getElem_zipWith]
  exact ⟨_, List.getElem_mem (by omega), _, List.getElem_mem (by omega), rfl⟩
theorem addRows_sq {A B : List (List (Option Int))} (h : A.length = B.length) (hA : SqR A) (hB : SqR B) : SqR (addRows A B) := by
  intro r hr
  obtain ⟨a, ha, b, hb, rfl⟩ := addRows_mem hr
  rw [addRows_len h, addRow_len (by rw [hA a ha, hB b hb]; exact h), hA a ha]
theorem addRows_ok {A B : List (List (Option Int))} (hA : ∀ r ∈ A, ∀ x ∈ r, ∀ i, x = some i → 0 ≤ i) (hB : ∀ r ∈ B, ∀ x ∈ r, ∀ i, x = some i → 0 ≤ i) : ∀ r ∈ addRows A B, ∀ x ∈ r, ∀ i, x = some i → 0 ≤ i := by
  intro r hr x hx i e
  obtain ⟨a, ha, b, hb, rfl⟩ := addRows_mem hr
  obtain ⟨y, hy, z, hz, rfl⟩ := addRow_mem hx
  cases y with
  | none => cases e
  | some j =>
    cases z with
    | none => cases e
    | some k =>
      have e' : j + k = i := Option.some.inj e
      have := hA a ha _ hy j rfl
      have := hB b hb _ hz k rfl
      omega
theorem zipV_two {xs ys : List V} (h : xs.length = ys.length) : zipV [xs, ys] = List.zipWith (fun x y => [x, y]) xs ys := by
  have m : minLen [xs, ys] = xs.length := by
    show min xs.length ys.length = _
    omega
  unfold zipV
  rw [m]
  refine List.ext_getElem (by rw [List.length_map, List.length_range, List.length_zipWith]; omega) fun i h1 h2 => ?_
  rw [List.length_map, List.length_range] at h1
  rw [List.getElem_map, List.getElem_range, List.getElem_zipWith]
  show [xs.getD i .non, ys.getD i .non] = _
  rw [List.getD_eq_getElem?_getD, List.getD_eq_getElem?_getD, List.getElem?_eq_getElem h1, List.getElem?_eq_getElem (show i < ys.length by omega)]
  rfl
theorem paired_get {α β : Type} {R : α → β → Prop} : ∀ {as : List α} {bs : List β} {i : Nat} {b : β}, Paired R as bs → bs[i]? = some b → ∃ a, as[i]? = some a ∧ R a b
  | _, _, 0, _, .cons h _, e => ⟨_, rfl, by cases e; exact h⟩
  | _, _, i + 1, _, .cons _ t, e => paired_get (i := i) t e
  | _, _, 0, _, .nil, e => by cases e
  | _, _, _ + 1, _, .nil, e => by cases e
end Ech

namespace Ech
open PySem PySem.Spec PyProof.Rows L2
open He (ga ma)

/-! ### list(range(n)) -/
/-! ### repr of wishes -/
/-! ### lists of options, of texts -/
end Ech

namespace Ech
open PySem PySem.Spec PySem.Calls PyProof.Rows L2
open PySem (Draws)

/-! ### list(zip(*xs)) -/
def tStar (K : PySem.W.Frag) (te : TE) : TA := fun σ H P => te σ H fun y H1 => match y with
  | .ref a => ∃ xs, (SqT K H1 a xs ∨ SqL K H1 a xs) ∧ P xs H1
  | _ => False
section
variable {X : Cx} {K : PySem.W.Frag} {e : Expr} {te : TE} {sp_ p p2 pos pos2 : Pos}
theorem zcall_star (he : PE X e te) (hst : starEach [.Starred e sp_] X.env = [(true, eval e X.env)] := by rfl) : ZCall X [.Starred e sp_] pos2 (tStar X.K te) := by
  intro pins s σ H P R I h k
  rw [hst]
  refine PySem.W.ks_call (P := fun _ => True) rfl (fun _ _ => ⟨.machine, .inr (.inl rfl), fun A Q E s _ q => wpAny_pure q⟩) (PySem.W.ks_lone (thn (he.run _ s σ H _ I h) fun v2 s4 ⟨y2, H3, I4, ry2, q3⟩ => ?_))
  cases y2 with
  | ref t =>
    obtain ⟨vs, ht, hsp⟩ := q3
    obtain rfl : v2 = Value.ref t := ry2
    exact StX.star_any I4 ht fun us s5 I5 rv => ⟨trivial, k us s5 ⟨vs, _, I5, rv, hsp⟩⟩
  | _ => exact q3.elim
theorem k_lzS (hK : X.K = K) (hc : X.calm = true) (hg : Gl X "list") (hm : X.mg "list" = none) (hg2 : Gl X "zip") (hm2 : X.mg "zip" = none) (he : PE X e te)
    (hs : starEach [.Call (.Name "zip" p2) [.Starred e sp_] [] pos2] X.env = (false, eval (.Call (.Name "zip" p2) [.Starred e sp_] [] pos2) X.env) :: starEach [] X.env := by rfl)
    (hst : starEach [.Starred e sp_] X.env = [(true, eval e X.env)] := by rfl) :
    PE X (.Call (.Name "list" p) [.Call (.Name "zip" p2) [.Starred e sp_] [] pos2] [] pos) (uLZ K (tStar K te)) := by
  subst hK
  exact u_lz_of hc hg hm hg2 hm2 (zcall_star he hst) hs
end

/-! ### for x in zip(a, b), two tuples: each item a tuple of its own -/
def ZN (z TI TO i1 i2 a b : Addr) (i : Nat) (h : Heap) : Prop := (∃ f0 f1, ZipF h z f0 f1 TI TO ∧ (f0 = .none ∨ ∃ (T : Addr) (f : Bool), f0 = rawInt T ∧ f1 = .bool f)) ∧ IsPair h TI (.ref i1) (.ref i2) ∧ (∃ x y, IsPair h TO x y) ∧ h.IsTupleIter i1 a i ∧ h.IsTupleIter i2 b i
theorem ZN.type {z TI TO i1 i2 a b : Addr} {i : Nat} {s : Shared} (h : ZN z TI TO i1 i2 a b i s.heap) : s.TypeIs (.ref z) "zip" := by
  obtain ⟨⟨f0, f1, hz, _⟩, _⟩ := h
  exact ⟨_, hz, rfl⟩
theorem pair_pairs {α β : Type} {R : α → β → Prop} {a b : α} {vs : List β} (h : Paired R [a, b] vs) : ∃ x y, vs = [x, y] ∧ R a x ∧ R b y := by
  cases h with
  | cons r t =>
    cases t with
    | cons r' t' =>
      cases t'
      exact ⟨_, _, rfl, r, r'⟩
def ItzN (K : PySem.W.Frag) (a b : Addr) (xs ys : List V) : It :=
  ⟨fun i H => i < min xs.length ys.length ∧ SqT K H a xs ∧ SqT K H b ys,
    fun i H v H' => ∃ T x y, v = .ref T ∧ H T = none ∧ H' = upd H T (.tup [x, y]) ∧ xs[i]? = some x ∧ ys[i]? = some y,
    fun i H => i = min xs.length ys.length ∧ SqT K H a xs ∧ SqT K H b ys⟩
theorem turn_zipN {P : Program} {w : World} {K : PySem.W.Frag} {xn : PySem.Str} {tpos : Pos} {a b z TI TO i1 i2 : Addr} (D : ZipApart z TI TO i1 i2 a b) {xs ys : List V} (la : a ≠ TI) (lb : b ≠ TI) :
    Turn P w K (.Name xn tpos) (ItzN K a b xs ys) [z, TI, TO, i1, i2] z (ZN z TI TO i1 i2 a b) where
  mem := by simp
  obj := fun i h st c hc => by
    obtain ⟨⟨f0, f1, hz, _⟩, hTI, ⟨x, y, hTO⟩, ⟨o1, e1, _, d1⟩, ⟨o2, e2, _, d2⟩⟩ := st
    have e' : c = z ∨ c = TI ∨ c = TO ∨ c = i1 ∨ c = i2 := by simpa using hc
    rcases e' with q | q | q | q | q
    · rw [q]; exact ⟨_, hz, fun v q => nomatch q⟩
    · rw [q]; exact ⟨_, hTI, fun v q => nomatch q⟩
    · rw [q]; exact ⟨_, hTO, fun v q => nomatch q⟩
    · rw [q]; exact ⟨o1, e1, fun v q => by rw [d1] at q; cases q⟩
    · rw [q]; exact ⟨o2, e2, fun v q => by rw [d2] at q; cases q⟩
  keep := fun i h h' st k => by
    obtain ⟨⟨f0, f1, hz, hf⟩, hTI, ⟨x, y, hTO⟩, h1, h2⟩ := st
    exact ⟨⟨f0, f1, k z (by simp) _ hz, hf⟩, k TI (by simp) _ hTI, ⟨x, y, k TO (by simp) _ hTO⟩, h1.at fun o q => k i1 (by simp) o q, h2.at fun o q => k i2 (by simp) o q⟩
  item := by
    intro X hP hw hK hc i pins s σ H E I hf st hg
    subst hP hw hK
    have hTy := st.type
    obtain ⟨⟨f0, f1, hz, hff⟩, hTI, ⟨x0, y0, hTO⟩, h1, h2⟩ := st
    obtain ⟨hi, hqx, hqy⟩ := hg
    have hxl : i < xs.length := by omega
    have hyl : i < ys.length := by omega
    obtain ⟨x, hx⟩ : ∃ x, xs[i]? = some x := ⟨_, List.getElem?_eq_getElem hxl⟩
    obtain ⟨y, hy⟩ : ∃ y, ys[i]? = some y := ⟨_, List.getElem?_eq_getElem hyl⟩
    obtain ⟨its, rv, p, _⟩ := I.tuple hqx
    obtain ⟨its2, rv2, p2, _⟩ := I.tuple hqy
    have hzl : z < s.heap.objs.size := Heap.lt_size hz
    have hh : X.A.in1.handled = none := I.ok.hd hc
    have l1 := rv.length
    have l2 := rv2.length
    let s1 : Src X.prog X.w X.A.in1 := ⟨i1, [i1, a], its.length, _, _, draws_it hh i1 a D.l1i1 its⟩
    let s2 : Src X.prog X.w X.A.in1 := ⟨i2, [i2, b], its2.length, _, _, draws_it hh i2 b D.l2i2 its2⟩
    have both : ∀ {R : Src X.prog X.w X.A.in1 → Prop}, R s1 → R s2 → ∀ q ∈ [s1, s2], R q := by
      intro R r1 r2 q hq
      rcases List.mem_cons.mp hq with e | hq
      · rw [e]; exact r1
      · rw [List.mem_singleton.mp hq]; exact r2
    have no : ∀ {c d e : Addr}, c ≠ d → c ≠ e → c ∉ [d, e] := fun h1 h2 q => by
      rcases List.mem_cons.mp q with q | q
      · exact h1 q
      · exact h2 (List.mem_singleton.mp q)
    have S : SepZ [s1, s2] z TI TO := ⟨D.TIz, D.TOz, D.TITO, both List.mem_cons_self List.mem_cons_self, both (no D.i1z.symm D.l1z.symm) (no D.i2z.symm D.l2z.symm), both (no D.TIi1 la.symm) (no D.TIi2 lb.symm), both (no D.TOi1 D.l1TO.symm) (no D.TOi2 D.l2TO.symm),
      List.pairwise_cons.mpr ⟨fun q hq => by rw [List.mem_singleton.mp hq]; exact ⟨no D.i12 D.l2i1.symm, no D.i12.symm D.l1i2.symm⟩, List.pairwise_singleton _ _⟩⟩
    have st' : ∀ q ∈ [s1, s2], q.St i s.heap := both (.tup h1 p) (.tup h2 p2)
    have lt' : ∀ q ∈ [s1, s2], i < q.n := both (show i < its.length by omega) (show i < its2.length by omega)
    have fin : ∀ (vs : List Value) (h' : Heap) (tk : Nat) (g0 g1 : Value), (g0 = .none ∨ ∃ (T : Addr) (f : Bool), g0 = rawInt T ∧ g1 = .bool f) → Paired (fun (q : Src X.prog X.w X.A.in1) x => q.P i x) [s1, s2] vs → ZipF h' z g0 g1 TI TO → (∀ q ∈ [s1, s2], q.St (i + 1) h') → TupF h' s.heap.objs.size vs → (∃ x y, IsPair h' TO x y) →
        (∀ c o, c ≠ z → c ≠ TO → (∀ q ∈ [s1, s2], c ≠ q.it) → s.heap.get? c = some o → h'.get? c = some o) →
        ∃ u, some (Value.ref s.heap.objs.size) = some u ∧ wpAny (model X.prog X.w) X.A (letOwnedTupleGo (.Name xn tpos) (.ref z) u) (fun _ s2 => ∃ x H', Inv X pins σ H' s2 ∧ RelV x u ∧ (ItzN X.K a b xs ys).yld i H x H' ∧ ZN z TI TO i1 i2 a b (i + 1) s2.heap ∧ ∀ b ∈ [z, TI, TO, i1, i2], H' b = none) E { s with heap := h', toks := tk } := by
      intro vs h' tk g0 g1 hgg pr hz' stn hT hTO' hk
      obtain ⟨u, u2, rfl, hu, hu2⟩ := pair_pairs pr
      obtain ⟨v, hv, ru⟩ := rv.get hx
      obtain ⟨v2, hv2, ru2⟩ := rv2.get hy
      have e1 : v = u := Option.some.inj (hv.symm.trans hu)
      have e2 : v2 = u2 := Option.some.inj (hv2.symm.trans hu2)
      subst e1 e2
      refine ⟨_, rfl, wpAny_pure ?_⟩
      have new : ObjOk X.prog X.w (upd H s.heap.objs.size (.tup [x, y])) h' s.heap.objs.size (.tup [x, y]) :=
        ⟨by show 2 ≤ sizeLine; decide, [v, v2], .cons ru (.cons ru2 .nil), ⟨_, hT, rfl, _, rfl⟩⟩
      have hk' : ∀ c o, c ∉ [z, TI, TO, i1, i2] → s.heap.get? c = some o → h'.get? c = some o := fun c o hb q =>
        hk c o (fun q' => hb (by simp [q'])) (fun q' => hb (by simp [q'])) (both (fun q' => hb (by simp [show c = i1 from q'])) (fun q' => hb (by simp [show c = i2 from q']))) q
      have I1 : Inv X pins σ (upd H s.heap.objs.size (.tup [x, y])) { s with heap := h', toks := tk } := I.turnedNew (t' := tk) (ch := [z, TI, TO, i1, i2]) hk' hf (Nat.le_refl _) new
      have q1 : h'.IsTupleIter i1 a (i + 1) := by
        cases (show ItIs h' i1 a its (i + 1) from stn s1 List.mem_cons_self) with
        | tup q _ => exact q
        | lst q q' =>
          obtain ⟨o, e, r, _⟩ := q'
          obtain ⟨o', e', r', _⟩ := p
          have e3 := hk a o' D.l1z D.l1TO (both D.l1i1 D.l1i2) e'
          rw [e3] at e
          cases e
          rw [r'] at r
          exact absurd (Value.type.inj r) (by decide)
      have q2 : h'.IsTupleIter i2 b (i + 1) := by
        cases (show ItIs h' i2 b its2 (i + 1) from stn s2 (List.mem_cons_of_mem _ List.mem_cons_self)) with
        | tup q _ => exact q
        | lst q q' =>
          obtain ⟨o, e, r, _⟩ := q'
          obtain ⟨o', e', r', _⟩ := p2
          have e3 := hk b o' D.l2z D.l2TO (both D.l2i1 D.l2i2) e'
          rw [e3] at e
          cases e
          rw [r'] at r
          exact absurd (Value.type.inj r) (by decide)
      refine ⟨.ref s.heap.objs.size, _, I1, rfl, ⟨_, x, y, rfl, I.hok.fresh (Nat.le_refl _), rfl, hx, hy⟩, ⟨⟨g0, g1, hz', hgg⟩, ?_, hTO', q1, q2⟩, fun c hcm => ?_⟩
      · exact hk TI _ D.TIz D.TITO (both D.TIi1 D.TIi2) hTI
      · have hlt : c < s.heap.objs.size := by
          have e' : c = z ∨ c = TI ∨ c = TO ∨ c = i1 ∨ c = i2 := by simpa using hcm
          rcases e' with q | q | q | q | q
          · rw [q]; exact hzl
          · rw [q]; exact Heap.lt_size hTI
          · rw [q]; exact Heap.lt_size hTO
          · rw [q]; obtain ⟨_, e1, _⟩ := h1; exact Heap.lt_size e1
          · rw [q]; obtain ⟨_, e2, _⟩ := h2; exact Heap.lt_size e2
        rw [upd_ne (Nat.ne_of_lt hlt)]
        exact (hf c hcm).1
    have free : Freed s.heap f0 → wpAny (model X.prog X.w) X.A (pyNext (.ref z)) (fun r s1 => ∃ u, r = some u ∧ wpAny (model X.prog X.w) X.A (letOwnedTupleGo (.Name xn tpos) (.ref z) u) (fun _ s2 => ∃ x H', Inv X pins σ H' s2 ∧ RelV x u ∧ (ItzN X.K a b xs ys).yld i H x H' ∧ ZN z TI TO i1 i2 a b (i + 1) s2.heap ∧ ∀ b ∈ [z, TI, TO, i1, i2], H' b = none) E s1) E s := by
      intro hfr
      unfold pyNext
      refine wpAny_bind (wpAny_attempt (wpAny_callSpecial?_slot (name := Str.ofString "__next__") hTy PySem.F.slot_zip_next
        (wpAny_call_entry PySem.F.slot_zip_next hTy PySem.F.entry_zip_next
          (zip_free (i := i) (nn := [x0, y0]) S (by simp) hz hfr hTI hTO rfl st' lt' (by show 2 ≤ sizeLine; decide) fun xs h' tk px hz' st' ht hto sz kp => wpAny_pure (fin xs h' tk _ _ (.inr ⟨_, _, rfl, rfl⟩) px hz' st' ht ?_ kp)) (PySem.F.args_zip_next_1 _))))
      obtain ⟨u, u2, e, _⟩ := pair_pairs px
      subst e
      exact ⟨_, _, hto⟩
    rcases hff with rfl | ⟨T, f, rfl, rfl⟩
    · exact free (.inl rfl)
    · cases hT : s.heap.get? T with
      | none => exact free (.inr ⟨T, rfl, hT⟩)
      | some oT =>
        unfold pyNext
        refine wpAny_bind (wpAny_attempt (wpAny_callSpecial?_slot (name := Str.ofString "__next__") hTy PySem.F.slot_zip_next
          (wpAny_call_entry PySem.F.slot_zip_next hTy PySem.F.entry_zip_next
            (zip_held (i := i) S (by simp) hz hT hTI st' lt' (by show 2 ≤ sizeLine; decide) fun xs h' tk px hz' st' ht sz kp => wpAny_pure (fin xs h' tk _ _ (.inr ⟨T, true, rfl, rfl⟩) px hz' st' ht ⟨x0, y0, kp TO _ D.TOz (both D.TOi1 D.TOi2) hTO⟩ fun c o c1 _ c3 e => kp c o c1 c3 e)) (PySem.F.args_zip_next_1 _))))
  done := by
    intro X hP hw hK hc i pins s σ H E I hf st hg
    subst hP hw hK
    have hTy := st.type
    obtain ⟨⟨f0, f1, hz, hff⟩, hTI, ⟨x0, y0, hTO⟩, h1, h2⟩ := st
    obtain ⟨hi, hqx, hqy⟩ := hg
    obtain ⟨its, rv, p, _⟩ := I.tuple hqx
    obtain ⟨its2, rv2, p2, _⟩ := I.tuple hqy
    have hh : X.A.in1.handled = none := I.ok.hd hc
    have l1 := rv.length
    have l2 := rv2.length
    let s1 : Src X.prog X.w X.A.in1 := ⟨i1, [i1, a], its.length, _, _, draws_it hh i1 a D.l1i1 its⟩
    let s2 : Src X.prog X.w X.A.in1 := ⟨i2, [i2, b], its2.length, _, _, draws_it hh i2 b D.l2i2 its2⟩
    have both : ∀ {R : Src X.prog X.w X.A.in1 → Prop}, R s1 → R s2 → ∀ q ∈ [s1, s2], R q := by
      intro R r1 r2 q hq
      rcases List.mem_cons.mp hq with e | hq
      · rw [e]; exact r1
      · rw [List.mem_singleton.mp hq]; exact r2
    have no : ∀ {c d e : Addr}, c ≠ d → c ≠ e → c ∉ [d, e] := fun h1 h2 q => by
      rcases List.mem_cons.mp q with q | q
      · exact h1 q
      · exact h2 (List.mem_singleton.mp q)
    have S : SepZ [s1, s2] z TI TO := ⟨D.TIz, D.TOz, D.TITO, both List.mem_cons_self List.mem_cons_self, both (no D.i1z.symm D.l1z.symm) (no D.i2z.symm D.l2z.symm), both (no D.TIi1 la.symm) (no D.TIi2 lb.symm), both (no D.TOi1 D.l1TO.symm) (no D.TOi2 D.l2TO.symm),
      List.pairwise_cons.mpr ⟨fun q hq => by rw [List.mem_singleton.mp hq]; exact ⟨no D.i12 D.l2i1.symm, no D.i12.symm D.l1i2.symm⟩, List.pairwise_singleton _ _⟩⟩
    have st' : ∀ q ∈ [s1, s2], q.St i s.heap := both (.tup h1 p) (.tup h2 p2)
    have le' : ∀ q ∈ [s1, s2], i ≤ q.n := both (show i ≤ its.length by omega) (show i ≤ its2.length by omega)
    have some_end : ∃ q ∈ [s1, s2], i = q.n := by
      rcases Nat.le_total xs.length ys.length with q | q
      · exact ⟨s1, List.mem_cons_self, show i = its.length by omega⟩
      · exact ⟨s2, List.mem_cons_of_mem _ List.mem_cons_self, show i = its2.length by omega⟩
    have fin : ∀ (h' : Heap) (tk : Nat), (∀ c o, c ≠ z → c ≠ TO → (∀ q ∈ [s1, s2], c ≠ q.it) → s.heap.get? c = some o → h'.get? c = some o) → Inv X pins σ H { s with heap := h', toks := tk } := fun h' tk hk =>
      I.turnedL (t' := tk) (ch := [z, TI, TO, i1, i2]) (fun c o hb q => hk c o (fun q' => hb (by simp [q'])) (fun q' => hb (by simp [q'])) (both (fun q' => hb (by simp [show c = i1 from q'])) (fun q' => hb (by simp [show c = i2 from q']))) q) hf
    have free : Freed s.heap f0 → wpAny (model X.prog X.w) X.A (pyNext (.ref z)) (fun r s1 => r = none ∧ Inv X pins σ H s1) E s := by
      intro hfr
      unfold pyNext
      refine wpAny_bind (wpAny_attempt (wpAny_callSpecial?_slot (name := Str.ofString "__next__") hTy PySem.F.slot_zip_next
        (wpAny_call_entry PySem.F.slot_zip_next hTy PySem.F.entry_zip_next
          (zip_free_end (i := i) (nn := [x0, y0]) S (by simp) hz hfr hTI hTO rfl st' le' some_end (by show 2 ≤ sizeLine; decide) fun h' tk e kp he => ?_) (PySem.F.args_zip_next_1 _))))
      obtain ⟨o, ho, hc⟩ := he
      exact wpAny_bind (wpAny_isInstance (T := "StopIteration") (b := true) ⟨o, ho, hc⟩ isSubtype_stop (wpAny_pure ⟨rfl, fin h' tk kp⟩))
    rcases hff with rfl | ⟨T, f, rfl, rfl⟩
    · exact free (.inl rfl)
    · cases hT : s.heap.get? T with
      | none => exact free (.inr ⟨T, rfl, hT⟩)
      | some oT =>
        unfold pyNext
        refine wpAny_bind (wpAny_attempt (wpAny_callSpecial?_slot (name := Str.ofString "__next__") hTy PySem.F.slot_zip_next
          (wpAny_call_entry PySem.F.slot_zip_next hTy PySem.F.entry_zip_next
            (zip_held_end (i := i) S (by simp) hz hT hTI st' le' some_end fun h' tk e kp he => ?_) (PySem.F.args_zip_next_1 _))))
        obtain ⟨o, ho, hc⟩ := he
        exact wpAny_bind (wpAny_isInstance (T := "StopIteration") (b := true) ⟨o, ho, hc⟩ isSubtype_stop (wpAny_pure ⟨rfl, fin h' tk fun c o c1 _ c3 e => kp c o c1 c3 e⟩))
  self := fun A i s Q E st h => by
    have hT := st.type
    refine wpAny_pyIter_slot hT F.slot_zip_iter (wpAny_call_entry F.slot_zip_iter hT F.entry_zip_iter ?_ (F.args_zip_iter_1 _))
    show wpAny _ _ (ret (.ref z)) _ _ s
    exact wpAny_pure ⟨_, rfl, "zip", _, hT, F.slot_zip_next.lookup, h⟩
theorem walk_zipN {K : PySem.W.Frag} {a b : Addr} {xs ys : List V} : Walk (ItzN K a b xs ys) (min xs.length ys.length) (fun H => SqT K H a xs ∧ SqT K H b ys) (YPair (fun i => xs[i]?) (fun i => ys[i]?)) :=
  ⟨fun i _ hi q => ⟨hi, q.1, q.2⟩, fun _ q => ⟨rfl, q.1, q.2⟩, fun i H v H' _ q y => y⟩
def wZipN (K : PySem.W.Frag) (t : TA) : TW := fun σ H C => t σ H fun vs H1 => match vs with
  | [.ref a, .ref b] => ∃ xs ys, SqT K H1 a xs ∧ SqT K H1 b ys ∧ C (min xs.length ys.length) (fun H => SqT K H a xs ∧ SqT K H b ys) (YPair (fun i => xs[i]?) (fun i => ys[i]?)) H1
  | _ => False
theorem k_zipN {X : Cx} {K : PySem.W.Frag} (hK : X.K = K) {xn : PySem.Str} {e e2 : Expr} {t : TA} {p pos tpos : Pos} (hg : Gl X "zip") (hm : X.mg "zip" = none) (ha : PA X [e, e2] t) (hs : starEach [e, e2] X.env = (false, eval e X.env) :: starEach [e2] X.env := by rfl) (hpl : (backTo pos (starEach [e2] X.env)).any (·.1) = false := by rfl) :
    PIU X (.Name xn tpos) (.Call (.Name "zip" p) [e, e2] [] pos) (wZipN K t) := by
  subst hK
  refine ⟨fun pins s σ H C I h => ?_⟩
  refine Call_ (ld_blt I hg hm PyProof.Rows.boot_zip (PyProof.Rows.callWith_type1 (thn (ha.run pos pins s σ H _ I h) fun us s1 ⟨vs, H1, I1, r1, q1⟩ => ?_) hs hpl))
  dsimp only at q1
  split at q1
  case h_2 => exact q1.elim
  rename_i a b
  obtain ⟨xs, ys, hqx, hqy, q⟩ := q1
  cases r1 with
  | cons r rr =>
    cases rr with
    | cons r' rr =>
      cases rr
      cases r
      cases r'
      have fresh5 : ∀ c, c ∈ [s1.heap.objs.size + 4, s1.heap.objs.size + 2, s1.heap.objs.size + 3, s1.heap.objs.size, s1.heap.objs.size + 1] → FpOk X pins H1 c := fun c hcm => by
        have e' : c = s1.heap.objs.size + 4 ∨ c = s1.heap.objs.size + 2 ∨ c = s1.heap.objs.size + 3 ∨ c = s1.heap.objs.size ∨ c = s1.heap.objs.size + 1 := by simpa using hcm
        have hle : s1.heap.objs.size ≤ c := by
          rcases e' with z | z | z | z | z
          · rw [z]; exact Nat.le_add_right _ _
          · rw [z]; exact Nat.le_add_right _ _
          · rw [z]; exact Nat.le_add_right _ _
          · rw [z]; exact Nat.le_refl _
          · rw [z]; exact Nat.le_add_right _ _
        exact I1.fpOk hle (I1.hok.fresh hle)
      obtain ⟨its, rv, p1, _⟩ := I1.tuple hqx
      obtain ⟨its2, rv2, p2, _⟩ := I1.tuple hqy
      obtain ⟨o1, ho1, _⟩ := id p1
      obtain ⟨o2, ho2, _⟩ := id p2
      have lt1 := Heap.lt_size ho1
      have lt2 := Heap.lt_size ho2
      refine RZ.call_zipT (show s1.heap.IsTuple a its.toArray from p1) (show s1.heap.IsTuple b its2.toArray from p2) fun h' hz hTI hTO h1 h2 hsz hk => wpAny_pyIter_zip hz ?_
      have I2 : Inv X pins σ H1 { s1 with heap := h' } := I1.kept (t' := s1.toks) hk
      exact ⟨s1.heap.objs.size + 4, [s1.heap.objs.size + 4, s1.heap.objs.size + 2, s1.heap.objs.size + 3, s1.heap.objs.size, s1.heap.objs.size + 1], _, _, H1, rfl, I2, turn_zipN (PySem.W.ktu_apart s1.heap.objs.size a b lt1 lt2) (Nat.ne_of_lt (Nat.lt_of_lt_of_le lt1 (Nat.le_add_right _ _))) (Nat.ne_of_lt (Nat.lt_of_lt_of_le lt2 (Nat.le_add_right _ _))), ⟨⟨_, _, hz, .inl rfl⟩, hTI, ⟨_, _, hTO⟩, h1, h2⟩, fresh5, _, _, _, walk_zipN, q⟩
end Ech

namespace Ech
open PySem PySem.Spec PySem.Calls PyProof.Rows L2 HT

/-! ### t[::-1], a tuple -/
section
variable {prog : Program} {w : World} {A : Around} {E : Value → Shared → Prop} {s : Shared}
end
end Ech

namespace Ech
open PySem PySem.Spec PyProof.Rows L2

/-! ### least prices -/
def lessO : Option Int → Option Int → Bool
  | none, _ => false
  | some _, none => true
  | some a, some b => decide (a < b)
def minO (f p : Option Int) : Option Int := if lessO p f then p else f
def leastO (xs : List (Option Int)) : Option Int := xs.foldl minO none
theorem leastO_snoc (xs : List (Option Int)) (x : Option Int) : leastO (xs ++ [x]) = minO (leastO xs) x := by
  unfold leastO
  rw [List.foldl_append]
  rfl
theorem minO_ok {f p : Option Int} (h1 : ∀ i, f = some i → 0 ≤ i) (h2 : ∀ i, p = some i → 0 ≤ i) : ∀ i, minO f p = some i → 0 ≤ i := by
  intro i e
  unfold minO at e
  split at e
  · exact h2 i e
  · exact h1 i e
theorem foldl_ok : ∀ (xs : List (Option Int)) (f : Option Int), (∀ i, f = some i → 0 ≤ i) → (∀ x ∈ xs, ∀ i, x = some i → 0 ≤ i) → ∀ i, xs.foldl minO f = some i → 0 ≤ i
  | [], _, h, _ => h
  | x :: xs, f, h, hx => foldl_ok xs _ (minO_ok h (hx x List.mem_cons_self)) fun y hy => hx y (List.mem_cons_of_mem _ hy)
theorem leastO_ok {xs : List (Option Int)} (h : ∀ x ∈ xs, ∀ i, x = some i → 0 ≤ i) : ∀ i, leastO xs = some i → 0 ≤ i := foldl_ok xs none (fun _ e => by cases e) h
/-! ### the lesser of two tables -/
def or2 (a b : Option Int) : Option Int := leastO [a, b]
def orRow (r s : List (Option Int)) : List (Option Int) := List.zipWith or2 r s
def orRows (A B : List (List (Option Int))) : List (List (Option Int)) := List.zipWith orRow A B
theorem orRow_len {r s : List (Option Int)} (h : r.length = s.length) : (orRow r s).length = r.length := by unfold orRow; rw [List.length_zipWith, h, Nat.min_self]
theorem orRows_len {A B : List (List (Option Int))} (h : A.length = B.length) : (orRows A B).length = A.length := by unfold orRows; rw [List.length_zipWith, h, Nat.min_self]
theorem zw_mem {α β γ : Type} {f : α → β → γ} {as : List α} {bs : List β} {c : γ} (h : c ∈ List.zipWith f as bs) : ∃ a ∈ as, ∃ b ∈ bs, c = f a b := by
  obtain ⟨i, hi, rfl⟩ := List.mem_iff_getElem.mp h
  rw [List.length_zipWith] at hi
  rw [List.getElem_zipWith]
  exact ⟨_, List.getElem_mem (by omega), _, List.getElem_mem (by omega), rfl⟩
theorem orRows_sq {A B : List (List (Option Int))} (h : A.length = B.length) (hA : SqR A) (hB : SqR B) : SqR (orRows A B) := by
  intro r hr
  obtain ⟨a, ha, b, hb, rfl⟩ := zw_mem hr
  rw [orRows_len h, orRow_len (by rw [hA a ha, hB b hb]; exact h), hA a ha]
theorem orRows_ok {A B : List (List (Option Int))} (hA : ∀ r ∈ A, ∀ x ∈ r, ∀ i, x = some i → 0 ≤ i) (hB : ∀ r ∈ B, ∀ x ∈ r, ∀ i, x = some i → 0 ≤ i) : ∀ r ∈ orRows A B, ∀ x ∈ r, ∀ i, x = some i → 0 ≤ i := by
  intro r hr x hx i e
  obtain ⟨a, ha, b, hb, rfl⟩ := zw_mem hr
  obtain ⟨y, hy, z, hz, rfl⟩ := zw_mem hx
  refine leastO_ok (xs := [y, z]) (fun w hw => ?_) i e
  rcases List.mem_cons.mp hw with rfl | hw
  · exact hA a ha _ hy
  · rw [List.mem_singleton.mp hw]
    exact hB b hb _ hz
/-! ### turned tables -/
def turnRows (A : List (List (Option Int))) : List (List (Option Int)) := (List.range A.length).map fun j => A.map fun r => r.getD j none
theorem turnRows_len (A : List (List (Option Int))) : (turnRows A).length = A.length := by unfold turnRows; rw [List.length_map, List.length_range]
theorem turnRows_sq (A : List (List (Option Int))) : SqR (turnRows A) := by
  intro r hr
  obtain ⟨j, hj, rfl⟩ := List.mem_map.mp hr
  rw [List.length_map, turnRows_len]
theorem turnRows_ok {A : List (List (Option Int))} (hA : ∀ r ∈ A, ∀ x ∈ r, ∀ i, x = some i → 0 ≤ i) : ∀ r ∈ turnRows A, ∀ x ∈ r, ∀ i, x = some i → 0 ≤ i := by
  intro r hr x hx i e
  obtain ⟨j, hj, rfl⟩ := List.mem_map.mp hr
  obtain ⟨q, hq, rfl⟩ := List.mem_map.mp hx
  rw [List.getD_eq_getElem?_getD] at e
  cases h : q[j]? with
  | none => rw [h] at e; cases e
  | some y =>
    rw [h] at e
    exact hA q hq y (List.mem_of_getElem? h) i e
theorem pV_getD (r : List (Option Int)) (j : Nat) : (r.map pV).getD j .non = pV (r.getD j none) := by
  rw [List.getD_eq_getElem?_getD, List.getD_eq_getElem?_getD, List.getElem?_map]
  cases r[j]? <;> rfl
theorem minLen_all {ls : List (List V)} {n : Nat} (h0 : 0 < ls.length) (h : ∀ l ∈ ls, l.length = n) : minLen ls = n := by
  obtain ⟨l, hl, e⟩ := minLen_eq (ls := ls) (by intro z; rw [z] at h0; exact absurd h0 (by decide))
  rw [e, h l hl]
theorem zipV_turn {A : List (List (Option Int))} (h0 : 0 < A.length) (hA : SqR A) : zipV (A.map fun r => r.map pV) = (turnRows A).map fun r => r.map pV := by
  have m : minLen (A.map fun r => r.map pV) = A.length := minLen_all (by rw [List.length_map]; exact h0) fun l hl => by
    obtain ⟨r, hr, rfl⟩ := List.mem_map.mp hl
    rw [List.length_map, hA r hr]
  unfold zipV turnRows
  rw [m, List.map_map]
  refine List.map_congr_left fun j _ => ?_
  show zipRow _ j = (A.map fun r => r.getD j none).map pV
  unfold zipRow
  rw [List.map_map, List.map_map]
  exact List.map_congr_left fun r _ => pV_getD r j
theorem rowT_srcs {K : PySem.W.Frag} {G : Hp} : ∀ {vs : List V} {A : List (List (Option Int))}, Paired (RowT K G) vs A → ∃ srcs : List (Addr × List V), vs = srcs.map (fun p => V.ref p.1) ∧ srcs.map (·.2) = A.map (fun r => r.map pV) ∧ ∀ p ∈ srcs, SqT K G p.1 p.2
  | _, _, .nil => ⟨[], rfl, rfl, fun _ h => by cases h⟩
  | _, _, .cons (b := r) h t => by
    obtain ⟨a, rfl, h⟩ := h
    obtain ⟨srcs, h1, h2, h3⟩ := rowT_srcs t
    refine ⟨(a, r.map pV) :: srcs, by rw [List.map_cons, ← h1], by rw [List.map_cons, List.map_cons, h2], fun p hp => ?_⟩
    rcases List.mem_cons.mp hp with rfl | hp
    · exact h
    · exact h3 p hp
theorem zip_rows {K : PySem.W.Frag} {G : Hp} : ∀ {ts : List Addr} {rows : List (List (Option Int))}, Paired (fun t row => G t = some (.tup row)) ts (rows.map fun r => r.map pV) → Paired (RowT K G) (ts.map V.ref) rows
  | [], [], _ => .nil
  | t :: ts, r :: rows, .cons h q => .cons ⟨t, rfl, SqT.of h⟩ (zip_rows q)
/-! ### tables composed -/
def dot (r c : List (Option Int)) : Option Int := leastO (List.zipWith add2 r c)
def mulRows (A B : List (List (Option Int))) : List (List (Option Int)) := A.map fun r => (turnRows B).map fun c => dot r c
theorem mulRows_len (A B : List (List (Option Int))) : (mulRows A B).length = A.length := by unfold mulRows; rw [List.length_map]
theorem mulRows_sq {A B : List (List (Option Int))} (h : A.length = B.length) : SqR (mulRows A B) := by
  intro r hr
  obtain ⟨q, hq, rfl⟩ := List.mem_map.mp hr
  rw [List.length_map, turnRows_len, mulRows_len, h]
theorem mulRows_ok {A B : List (List (Option Int))} (hA : ∀ r ∈ A, ∀ x ∈ r, ∀ i, x = some i → 0 ≤ i) (hB : ∀ r ∈ B, ∀ x ∈ r, ∀ i, x = some i → 0 ≤ i) : ∀ r ∈ mulRows A B, ∀ x ∈ r, ∀ i, x = some i → 0 ≤ i := by
  intro r hr x hx
  obtain ⟨q, hq, rfl⟩ := List.mem_map.mp hr
  obtain ⟨c, hc, rfl⟩ := List.mem_map.mp hx
  refine leastO_ok fun y hy i e => ?_
  obtain ⟨a, ha, b, hb, rfl⟩ := zw_mem hy
  cases a with
  | none => cases e
  | some j =>
    cases b with
    | none => cases e
    | some k =>
      have e' : j + k = i := Option.some.inj e
      have := hA q hq _ ha j rfl
      have := turnRows_ok hB c hc _ hb k rfl
      omega
end Ech

namespace Ech
open PySem PySem.Spec PyProof.Rows L2
/-! entries -/
theorem zw_getD {α β γ : Type} {f : α → β → γ} {as : List α} {bs : List β} (k : Nat) {a : α} {b : β} (h : as.length = bs.length) : (List.zipWith f as bs).getD k (f a b) = f (as.getD k a) (bs.getD k b) := by
  rw [List.getD_eq_getElem?_getD, List.getD_eq_getElem?_getD, List.getD_eq_getElem?_getD, List.getElem?_zipWith]
  by_cases hk : k < as.length
  · rw [List.getElem?_eq_getElem hk, List.getElem?_eq_getElem (show k < bs.length by omega)]
    rfl
  · rw [List.getElem?_eq_none (by omega), List.getElem?_eq_none (by omega)]
    rfl
theorem getD_len {A B : List (List (Option Int))} (h : A.length = B.length) (hA : SqR A) (hB : SqR B) (k : Nat) : (A.getD k []).length = (B.getD k []).length := by
  rw [List.getD_eq_getElem?_getD, List.getD_eq_getElem?_getD]
  by_cases hk : k < A.length
  · rw [List.getElem?_eq_getElem hk, List.getElem?_eq_getElem (show k < B.length by omega)]
    show A[k].length = B[k].length
    rw [hA _ (List.getElem_mem hk), hB _ (List.getElem_mem (by omega)), h]
  · rw [List.getElem?_eq_none (by omega), List.getElem?_eq_none (by omega)]
theorem entry_add {A B : List (List (Option Int))} (h : A.length = B.length) (hA : SqR A) (hB : SqR B) (i j : Int) : entry (addRows A B) i j = add2 (entry A i j) (entry B i j) := by
  unfold entry addRows
  rw [show (List.zipWith addRow A B).getD i.toNat [] = addRow (A.getD i.toNat []) (B.getD i.toNat []) from zw_getD (f := addRow) (a := []) (b := []) _ h]
  unfold addRow
  exact zw_getD (f := add2) (a := none) (b := none) _ (getD_len h hA hB _)
theorem entry_or {A B : List (List (Option Int))} (h : A.length = B.length) (hA : SqR A) (hB : SqR B) (i j : Int) : entry (orRows A B) i j = or2 (entry A i j) (entry B i j) := by
  unfold entry orRows
  rw [show (List.zipWith orRow A B).getD i.toNat [] = orRow (A.getD i.toNat []) (B.getD i.toNat []) from zw_getD (f := orRow) (a := []) (b := []) _ h]
  unfold orRow
  exact zw_getD (f := or2) (a := none) (b := none) _ (getD_len h hA hB _)
theorem entry_turn {A : List (List (Option Int))} {i j : Int} (h1 : i < A.length) (h2 : j < A.length) : entry (turnRows A) i j = entry A j i := by
  unfold entry turnRows
  by_cases h0 : A.length = 0
  · have : A = [] := List.length_eq_zero_iff.mp h0
    subst this
    rfl
  have e1 : ((List.range A.length).map fun j => A.map fun r => r.getD j none).getD i.toNat [] = A.map fun r => r.getD i.toNat none := by
    rw [List.getD_eq_getElem?_getD, List.getElem?_map, List.getElem?_eq_getElem (show i.toNat < (List.range A.length).length by rw [List.length_range]; omega), List.getElem_range]
    rfl
  rw [e1, List.getD_eq_getElem?_getD, List.getElem?_map]
  rw [List.getD_eq_getElem?_getD (l := A), List.getElem?_eq_getElem (show j.toNat < A.length by omega)]
  rfl
/-! prices of a song -/
end Ech

namespace Ech
open PySem PySem.Spec PyProof.Rows L2
open He (ga ma)

/-! ### x != y, where the class tells == alone -/
def neB (K : PySem.W.Frag) (C : Addr) : Bool := PySem.W.findIn K (.ref C) "__ne__" == some (some (.builtin "object.__ne__")) && PySem.W.subIn K (.ref C) (.type "object") == some true
section
variable {prog : Program} {w : World} {A : Around} {E : Value → Shared → Prop} {s : Shared} {K : PySem.W.Frag} {x C L f : Addr} {h₀ : Heap} {m : PySem.Str → Option Value} {ox : Obj} {od : Option Obj} {b : Value}
theorem check_own {M : Model} {rest : List Value} {Q : Unit → Shared → Prop} (X : K.In s.heap) (I : PySem.W.InstAt s.heap x ox C od) (hs : PySem.W.subIn K (.ref C) (.type "object") = some true) (ha : argsOk "object.__ne__" ⟨.ref x :: rest, []⟩) (hq : Q () s) :
    wpAny M A (checkBuiltinCall "object.__ne__" ⟨.ref x :: rest, []⟩) Q E s := by
  simp only [checkBuiltinCall, PySem.F.cmpKind_ne, PySem.F.cmpSplit_ne]
  refine wpAny_bind ?_
  unfold isInstance
  refine wpAny_bind (I.type.here ?_)
  refine (PySem.W.looks_subIn X hs).here ?_
  cases hsig : Manifest.signature? "object.__ne__" with
  | none => exact wpAny_pure hq
  | some sig =>
    simp only [argsOk, hsig] at ha
    have h2 : Bind.checkArgs "object.__ne__" sig ⟨.ref x :: rest, []⟩ = pure () := ha
    show wpAny M A (Bind.checkArgs "object.__ne__" sig ⟨.ref x :: rest, []⟩) Q E _
    rw [h2]; exact wpAny_pure hq
theorem ifBound_ne {M : Model} {args : List Value} {Q : Option Value → Shared → Prop} (X : K.In s.heap) (I : PySem.W.InstAt s.heap x ox C od) (hs : PySem.W.findIn K (.ref C) "__ne__" = some (some (.builtin "object.__ne__")))
    (h : wpAny M A (call (.builtin "object.__ne__") (.ref x :: args)) (fun v => Q (some v)) E s) : wpAny M A (callSpecialIfBound? (.ref x) "__ne__" args) Q E s := by
  simp only [callSpecialIfBound?, bindSpecialIfBound?]
  refine wpAny_holding (wpAny_bind (wpAny_bind (wpAny_bind (I.type.here ((PySem.W.looks_findIn X hs).here ?_)))))
  simp only [PySem.F.cmp_object.ne.bind]
  refine wpAny_bind (wpAny_askSetting (wpAny_ite ?_))
  have fin : wpAny M A (call (.builtin "object.__ne__") ([.ref x] ++ args) >>= fun v => pure (some v)) Q E s := wpAny_bind (wpAny_mono h (fun v s' h' => wpAny_pure h') fun _ _ h' => h')
  split
  · exact wpAny_bind (wpAny_pure (wpAny_pure fin))
  · exact wpAny_tryCatch (wpAny_bind (wpAny_pure (wpAny_pure fin)))
end
section
variable {X : Cx} {C f : Addr} {CX : CXT} {k : Nat} {ps : List PySem.Str} {sp : Sp} {E : XK}
end
/-! ### C.m(e, ..), m a classmethod -/
end Ech

namespace Ech
open PySem PySem.Spec PyProof.Rows L2

/-! ### prices below a number tell a price -/
def below (a : Option Int) (z : Int) : Prop := ∃ i, a = some i ∧ i ≤ z
theorem below_ext {a b : Option Int} (h : ∀ z, below a z ↔ below b z) : a = b := by
  cases a with
  | none =>
    cases b with
    | none => rfl
    | some j =>
      obtain ⟨i, e, _⟩ := (h j).mpr ⟨j, rfl, Int.le_refl _⟩
      cases e
  | some i =>
    obtain ⟨j, e, l1⟩ := (h i).mp ⟨i, rfl, Int.le_refl _⟩
    subst e
    obtain ⟨k, e2, l2⟩ := (h j).mpr ⟨j, rfl, Int.le_refl _⟩
    have : i = k := Option.some.inj e2
    have : i = j := by omega
    rw [this]
theorem below_min (f p : Option Int) (z : Int) : below (minO f p) z ↔ below f z ∨ below p z := by
  unfold minO
  cases p with
  | none =>
    show below f z ↔ _
    exact ⟨Or.inl, fun h => h.elim id fun ⟨i, e, _⟩ => by cases e⟩
  | some q =>
    cases f with
    | none =>
      show below (some q) z ↔ _
      exact ⟨Or.inr, fun h => h.elim (fun ⟨i, e, _⟩ => by cases e) id⟩
    | some g =>
      show below (if decide (q < g) = true then some q else some g) z ↔ _
      by_cases hc : q < g
      · rw [if_pos (decide_eq_true hc)]
        refine ⟨Or.inr, fun h => h.elim (fun ⟨i, e, l⟩ => ⟨q, rfl, ?_⟩) id⟩
        have : g = i := Option.some.inj e
        omega
      · rw [if_neg (by simpa using hc)]
        refine ⟨Or.inl, fun h => h.elim id fun ⟨i, e, l⟩ => ⟨g, rfl, ?_⟩⟩
        have : q = i := Option.some.inj e
        omega
theorem below_fold : ∀ (xs : List (Option Int)) (f : Option Int) (z : Int), below (xs.foldl minO f) z ↔ below f z ∨ ∃ x ∈ xs, below x z
  | [], f, z => ⟨Or.inl, fun h => h.elim id fun ⟨x, h, _⟩ => by cases h⟩
  | y :: ys, f, z => by
    show below (ys.foldl minO (minO f y)) z ↔ _
    rw [below_fold ys, below_min]
    constructor
    · rintro ((h | h) | ⟨x, hx, h⟩)
      · exact .inl h
      · exact .inr ⟨y, List.mem_cons_self, h⟩
      · exact .inr ⟨x, List.mem_cons_of_mem _ hx, h⟩
    · rintro (h | ⟨x, hx, h⟩)
      · exact .inl (.inl h)
      · rcases List.mem_cons.mp hx with rfl | hx
        · exact .inl (.inr h)
        · exact .inr ⟨x, hx, h⟩
theorem below_least (xs : List (Option Int)) (z : Int) : below (leastO xs) z ↔ ∃ x ∈ xs, below x z := by
  unfold leastO
  rw [below_fold]
  exact ⟨fun h => h.elim (fun ⟨i, e, _⟩ => by cases e) id, Or.inr⟩
theorem below_or (a b : Option Int) (z : Int) : below (or2 a b) z ↔ below a z ∨ below b z := by
  unfold or2
  rw [below_least]
  constructor
  · rintro ⟨x, hx, h⟩
    rcases List.mem_cons.mp hx with rfl | hx
    · exact .inl h
    · rw [List.mem_singleton.mp hx] at h
      exact .inr h
  · rintro (h | h)
    · exact ⟨a, List.mem_cons_self, h⟩
    · exact ⟨b, List.mem_cons_of_mem _ List.mem_cons_self, h⟩
theorem below_add (a b : Option Int) (z : Int) : below (add2 a b) z ↔ ∃ u, below a u ∧ below b (z - u) := by
  constructor
  · rintro ⟨i, e, l⟩
    cases a with
    | none => cases e
    | some x =>
      cases b with
      | none => cases e
      | some y =>
        have : x + y = i := Option.some.inj e
        exact ⟨x, ⟨x, rfl, Int.le_refl _⟩, y, rfl, by omega⟩
  · rintro ⟨u, ⟨x, rfl, l1⟩, y, rfl, l2⟩
    exact ⟨x + y, rfl, by omega⟩

/-! ### entries of tables -/
def en (A : List (List (Option Int))) (i j : Nat) : Option Int := (A.getD i []).getD j none
structure Tn (n : Nat) (A : List (List (Option Int))) : Prop where
  len : A.length = n
  sq : SqR A
theorem en_ext {n : Nat} {A B : List (List (Option Int))} (hA : Tn n A) (hB : Tn n B) (h : ∀ i j, i < n → j < n → en A i j = en B i j) : A = B := by
  refine List.ext_getElem (hA.len.trans hB.len.symm) fun i h1 h2 => ?_
  have a1 : A.getD i [] = A[i] := by rw [List.getD_eq_getElem?_getD, List.getElem?_eq_getElem h1]; rfl
  have b1 : B.getD i [] = B[i] := by rw [List.getD_eq_getElem?_getD, List.getElem?_eq_getElem h2]; rfl
  have la : A[i].length = n := by rw [hA.sq _ (List.getElem_mem h1), hA.len]
  have lb : B[i].length = n := by rw [hB.sq _ (List.getElem_mem h2), hB.len]
  refine List.ext_getElem (la.trans lb.symm) fun j h3 h4 => ?_
  have := h i j (by rw [← hA.len]; exact h1) (by rw [← la]; exact h3)
  unfold en at this
  rw [a1, b1, List.getD_eq_getElem?_getD, List.getElem?_eq_getElem h3, List.getD_eq_getElem?_getD, List.getElem?_eq_getElem h4] at this
  exact this
theorem en_or {n : Nat} {A B : List (List (Option Int))} (hA : Tn n A) (hB : Tn n B) (i j : Nat) : en (orRows A B) i j = or2 (en A i j) (en B i j) := by
  have := entry_or (hA.len.trans hB.len.symm) hA.sq hB.sq (i : Int) (j : Int)
  unfold entry at this
  simp only [Int.toNat_natCast] at this
  exact this
theorem en_add {n : Nat} {A B : List (List (Option Int))} (hA : Tn n A) (hB : Tn n B) (i j : Nat) : en (addRows A B) i j = add2 (en A i j) (en B i j) := by
  have := entry_add (hA.len.trans hB.len.symm) hA.sq hB.sq (i : Int) (j : Int)
  unfold entry at this
  simp only [Int.toNat_natCast] at this
  exact this
theorem en_turn {n : Nat} {A : List (List (Option Int))} (hA : Tn n A) {i j : Nat} (hi : i < n) (hj : j < n) : en (turnRows A) i j = en A j i := by
  have := entry_turn (A := A) (i := (i : Int)) (j := (j : Int)) (by rw [hA.len]; omega) (by rw [hA.len]; omega)
  unfold entry at this
  simp only [Int.toNat_natCast] at this
  exact this
theorem Tn.or {n : Nat} {A B : List (List (Option Int))} (hA : Tn n A) (hB : Tn n B) : Tn n (orRows A B) := ⟨by rw [orRows_len (hA.len.trans hB.len.symm)]; exact hA.len, orRows_sq (hA.len.trans hB.len.symm) hA.sq hB.sq⟩
theorem Tn.add {n : Nat} {A B : List (List (Option Int))} (hA : Tn n A) (hB : Tn n B) : Tn n (addRows A B) := ⟨by rw [addRows_len (hA.len.trans hB.len.symm)]; exact hA.len, addRows_sq (hA.len.trans hB.len.symm) hA.sq hB.sq⟩
theorem Tn.turn {n : Nat} {A : List (List (Option Int))} (hA : Tn n A) : Tn n (turnRows A) := ⟨by rw [turnRows_len]; exact hA.len, turnRows_sq A⟩
theorem Tn.mul {n : Nat} {A B : List (List (Option Int))} (hA : Tn n A) (hB : Tn n B) : Tn n (mulRows A B) := ⟨by rw [mulRows_len]; exact hA.len, mulRows_sq (hA.len.trans hB.len.symm)⟩
theorem turn_get {n : Nat} {B : List (List (Option Int))} (hB : Tn n B) {j : Nat} (hj : j < n) : (turnRows B)[j]? = some (B.map fun r => r.getD j none) := by
  unfold turnRows
  rw [List.getElem?_map, List.getElem?_range (by rw [hB.len]; exact hj)]
  rfl
theorem en_mul {n : Nat} {A B : List (List (Option Int))} (hA : Tn n A) (hB : Tn n B) {i j : Nat} (hi : i < n) (hj : j < n) : en (mulRows A B) i j = leastO ((List.range n).map fun k => add2 (en A i k) (en B k j)) := by
  have h1 : i < A.length := by rw [hA.len]; exact hi
  have a1 : A.getD i [] = A[i] := by rw [List.getD_eq_getElem?_getD, List.getElem?_eq_getElem h1]; rfl
  have la : A[i].length = n := by rw [hA.sq _ (List.getElem_mem h1), hA.len]
  have e1 : (mulRows A B).getD i [] = (turnRows B).map fun c => dot A[i] c := by
    unfold mulRows
    rw [List.getD_eq_getElem?_getD, List.getElem?_map, List.getElem?_eq_getElem h1]
    rfl
  have e2 : en (mulRows A B) i j = dot A[i] (B.map fun r => r.getD j none) := by
    unfold en
    rw [e1, List.getD_eq_getElem?_getD, List.getElem?_map, turn_get hB hj]
    rfl
  rw [e2]
  unfold dot
  congr 1
  refine List.ext_getElem (by rw [List.length_zipWith, List.length_map, List.length_map, List.length_range, la, hB.len, Nat.min_self]) fun k h3 h4 => ?_
  rw [List.length_map, List.length_range] at h4
  have hkB : k < B.length := by rw [hB.len]; exact h4
  rw [List.getElem_zipWith, List.getElem_map, List.getElem_map, List.getElem_range]
  unfold en
  rw [a1, List.getD_eq_getElem?_getD (l := A[i]), List.getElem?_eq_getElem (show k < A[i].length by omega), List.getD_eq_getElem?_getD (l := B), List.getElem?_eq_getElem hkB]
  rfl
theorem below_mul {n : Nat} {A B : List (List (Option Int))} (hA : Tn n A) (hB : Tn n B) {i j : Nat} (hi : i < n) (hj : j < n) (z : Int) : below (en (mulRows A B) i j) z ↔ ∃ k, k < n ∧ ∃ u, below (en A i k) u ∧ below (en B k j) (z - u) := by
  rw [en_mul hA hB hi hj, below_least]
  constructor
  · rintro ⟨x, hx, h⟩
    obtain ⟨k, hk, rfl⟩ := List.mem_map.mp hx
    exact ⟨k, List.mem_range.mp hk, (below_add _ _ _).mp h⟩
  · rintro ⟨k, hk, h⟩
    exact ⟨_, List.mem_map.mpr ⟨k, List.mem_range.mpr hk, rfl⟩, (below_add _ _ _).mpr h⟩
def likeRow (n i : Nat) : List (Option Int) := (List.range n).map fun j => if i = j then some 0 else none
def likeRows (n : Nat) : List (List (Option Int)) := (List.range n).map (likeRow n)
def zeroRows (n : Nat) : List (List (Option Int)) := List.replicate n (List.replicate n (some 0))
theorem zeroRows_len (n : Nat) : (zeroRows n).length = n := by unfold zeroRows; rw [List.length_replicate]
theorem Tn.zero (n : Nat) : Tn n (zeroRows n) := by
  refine ⟨zeroRows_len n, fun r hr => ?_⟩
  unfold zeroRows at hr
  rw [(List.mem_replicate.mp hr).2, List.length_replicate, zeroRows_len]
theorem below_up {a : Option Int} {u v : Int} (h : below a u) (l : u ≤ v) : below a v := by
  obtain ⟨i, e, h⟩ := h
  exact ⟨i, e, by omega⟩

/-! ### what is asked of sums of tables -/
section
variable {n : Nat} {A B C : List (List (Option Int))} (hA : Tn n A) (hB : Tn n B) (hC : Tn n C)
include hA hB in
theorem turn_mul : turnRows (mulRows A B) = mulRows (turnRows B) (turnRows A) := by
  refine en_ext (hA.mul hB).turn (hB.turn.mul hA.turn) fun i j hi hj => below_ext fun z => ?_
  rw [en_turn (hA.mul hB) hi hj, below_mul hA hB hj hi, below_mul hB.turn hA.turn hi hj]
  constructor
  · rintro ⟨k, hk, u, h1, h2⟩
    exact ⟨k, hk, z - u, by rw [en_turn hB hi hk]; exact h2, by rw [en_turn hA hk hj]; exact below_up h1 (by omega)⟩
  · rintro ⟨k, hk, u, h1, h2⟩
    rw [en_turn hB hi hk] at h1
    rw [en_turn hA hk hj] at h2
    exact ⟨k, hk, z - u, h2, below_up h1 (by omega)⟩
include hA in
theorem or_self2 : orRows A A = A := by
  refine en_ext (hA.or hA) hA fun i j _ _ => below_ext fun z => ?_
  rw [en_or hA hA, below_or]
  exact or_self_iff
end
/-! ### tables as data, told apart -/
theorem pD_eqv (x y : Option Int) : PyData.eqv (pD x) (pD y) = decide (x = y) := by
  cases x with
  | none => cases y with
    | none => rfl
    | some j => rfl
  | some i => cases y with
    | none => rfl
    | some j =>
      show (i == j) = _
      by_cases h : i = j
      · subst h; simp
      · simp [h]
theorem row_eqvAll : ∀ r s : List (Option Int), PyData.eqvAll (r.map pD) (s.map pD) = decide (r = s)
  | [], [] => rfl
  | [], _ :: _ => rfl
  | _ :: _, [] => rfl
  | x :: r, y :: s => by
    show (PyData.eqv (pD x) (pD y) && PyData.eqvAll (r.map pD) (s.map pD)) = _
    rw [pD_eqv, row_eqvAll r s]
    by_cases h : x = y
    · subst h; simp
    · simp [h]
theorem tab_eqvAll : ∀ A B : List (List (Option Int)), PyData.eqvAll (A.map rowD) (B.map rowD) = decide (A = B)
  | [], [] => rfl
  | [], _ :: _ => rfl
  | _ :: _, [] => rfl
  | x :: r, y :: s => by
    show (PyData.eqv (rowD x) (rowD y) && PyData.eqvAll (r.map rowD) (s.map rowD)) = _
    rw [show PyData.eqv (rowD x) (rowD y) = PyData.eqvAll (x.map pD) (y.map pD) by simp only [rowD, PyData.eqv], row_eqvAll, tab_eqvAll r s]
    by_cases h : x = y
    · subst h; simp
    · simp [h]
theorem tab_eqv (A B : List (List (Option Int))) : PyData.eqv (tabD A) (tabD B) = decide (A = B) := by
  rw [show PyData.eqv (tabD A) (tabD B) = PyData.eqvAll (A.map rowD) (B.map rowD) by simp only [tabD, PyData.eqv], tab_eqvAll]
theorem pD_layAll : ∀ r : List (Option Int), PyData.canLayAll0 (r.map pD) = true ∧ PyData.depthAll (r.map pD) ≤ 2
  | [] => by simp [PyData.canLayAll0, PyData.depthAll]
  | x :: r => by
    have h := pD_layAll r
    have hx : PyData.canLay0 (pD x) = true ∧ PyData.depth (pD x) ≤ 1 := by cases x <;> simp [pD, PyData.canLay0, PyData.depth]
    simp only [List.map_cons, PyData.canLayAll0, PyData.depthAll, hx.1, h.1, Bool.and_true]
    exact ⟨trivial, by omega⟩
theorem rowD_layAll : ∀ A : List (List (Option Int)), PyData.canLayAll0 (A.map rowD) = true ∧ PyData.depthAll (A.map rowD) ≤ 10
  | [] => by simp [PyData.canLayAll0, PyData.depthAll]
  | x :: r => by
    have h := rowD_layAll r
    have hx : PyData.canLay0 (rowD x) = true ∧ PyData.depth (rowD x) ≤ 8 := by
      have := pD_layAll x
      simp only [rowD, PyData.canLay0, PyData.depth]
      exact ⟨this.1, by omega⟩
    simp only [List.map_cons, PyData.canLayAll0, PyData.depthAll, hx.1, h.1, Bool.and_true]
    exact ⟨trivial, by omega⟩
theorem tab_shaped (A : List (List (Option Int))) : SeqAt.shaped (tabD A) = true := by
  have h := rowD_layAll A
  show (PyData.canLay0 (tabD A) && decide (PyData.depth (tabD A) ≤ 64)) = true
  rw [Bool.and_eq_true]
  exact ⟨by simp only [tabD, PyData.canLay0]; exact h.1, decide_eq_true (by simp only [tabD, PyData.depth]; omega)⟩
theorem tab_cmp {K : PySem.W.Frag} {H : Hp} {v w : V} {A B : List (List (Option Int))} {Q : VK} (h1 : Dp K H v (tabD A)) (h2 : Dp K H w (tabD B)) (q : Q (.bl (decide (A = B))) H) : rEqU K false v w H Q := by
  have e : Q (.bl (PyData.eqv (tabD A) (tabD B))) H := by rw [tab_eqv]; exact q
  obtain ⟨a, vs, rfl, _⟩ := tab_rows h1
  obtain ⟨b, ws, rfl, _⟩ := tab_rows h2
  exact Or.inr ⟨_, _, h1, h2, tab_shaped A, tab_shaped B, e⟩
/-! ### bounds -/
theorem foldl_mem : ∀ (xs : List (Option Int)) (f : Option Int) (i : Int), xs.foldl minO f = some i → f = some i ∨ some i ∈ xs
  | [], f, i, h => .inl h
  | x :: xs, f, i, h => by
    rcases foldl_mem xs _ i h with h | h
    · unfold minO at h
      split at h
      · exact .inr (by rw [h]; exact List.mem_cons_self)
      · exact .inl h
    · exact .inr (List.mem_cons_of_mem _ h)
theorem leastO_mem {xs : List (Option Int)} {i : Int} (h : leastO xs = some i) : some i ∈ xs := by
  rcases foldl_mem xs none i h with h | h
  · cases h
  · exact h
def AllE (P : Int → Prop) (A : List (List (Option Int))) : Prop := ∀ r ∈ A, ∀ x ∈ r, ∀ i, x = some i → P i
theorem AllE.turn {P : Int → Prop} {A : List (List (Option Int))} (hA : AllE P A) : AllE P (turnRows A) := by
  intro r hr x hx i e
  obtain ⟨j, hj, rfl⟩ := List.mem_map.mp hr
  obtain ⟨q, hq, rfl⟩ := List.mem_map.mp hx
  rw [List.getD_eq_getElem?_getD] at e
  cases h : q[j]? with
  | none => rw [h] at e; cases e
  | some y =>
    rw [h] at e
    exact hA q hq y (List.mem_of_getElem? h) i e
theorem AllE.mul {p q : Int} {A B : List (List (Option Int))} (hA : AllE (· < p) A) (hB : AllE (· < q) B) : AllE (· < p + q) (mulRows A B) := by
  intro r hr x hx i e
  obtain ⟨r0, hr0, rfl⟩ := List.mem_map.mp hr
  obtain ⟨c, hc, rfl⟩ := List.mem_map.mp hx
  have hm := leastO_mem e
  obtain ⟨a, ha, b, hb, e2⟩ := zw_mem hm
  cases a with
  | none => cases e2
  | some j =>
    cases b with
    | none => cases e2
    | some k =>
      have e' : i = j + k := Option.some.inj e2
      have h1 : j < p := hA r0 hr0 _ ha j rfl
      have h2 : k < q := hB.turn c hc _ hb k rfl
      show i < p + q
      omega
theorem tab_sm {A : List (List (Option Int))} {n : Nat} (hT : Tn n A) (hn : n ≤ 5) (h0 : AllE (0 ≤ ·) A) (h1 : AllE (· < 10 ^ 80) A) : Sm 2 (5 * (5 * 301 + 1)) (tabD A) := by
  refine sm_tup 5 (by rw [List.length_map, hT.len]; exact hn) fun d hd => ?_
  obtain ⟨r, hr, rfl⟩ := List.mem_map.mp hd
  refine sm_tup 5 (by rw [List.length_map, hT.sq r hr, hT.len]; exact hn) fun d hd => ?_
  obtain ⟨x, hx, rfl⟩ := List.mem_map.mp hd
  refine sm_pD fun i e => ?_
  have a : 0 ≤ i := h0 r hr x hx i e
  have b : i < 10 ^ 80 := h1 r hr x hx i e
  omega
/-! ### rows in lists, by their entries -/
theorem rows_at {K : PySem.W.Frag} {G H : Hp} {a : Addr} {rows : List (List (Option Int))} {n : Nat} (hg : Ex G H) (h : RowsAt K G (.ref a) rows) (hT : Tn n rows) {x y : Int} {i j : Nat} (hx : x = i) (hy : y = j) (hi : i < n) (hj : j < n) :
    ∃ xs b ys, (SqL K H a xs ∨ SqT K H a xs) ∧ atI xs x = some (.ref b) ∧ (SqL K H b ys ∨ SqT K H b ys) ∧ atI ys y = some (pV (en rows i j)) := by
  subst hx hy
  obtain ⟨a', f, vs, e0, hs, hp⟩ := h
  cases e0
  have hi2 : i < rows.length := by rw [hT.len]; exact hi
  obtain ⟨w, hw, b, g, rfl, sb⟩ := paired_get hp (List.getElem?_eq_getElem hi2)
  have lr : rows[i].length = n := by rw [hT.sq _ (List.getElem_mem hi2), hT.len]
  have hj2 : j < rows[i].length := by omega
  refine ⟨_, _, _, (Sq.up hg hs).or, atI_nat hw, (Sq.up hg sb).or, atI_nat ?_⟩
  rw [List.getElem?_map, List.getElem?_eq_getElem hj2]
  unfold en
  rw [List.getD_eq_getElem?_getD (l := rows), List.getElem?_eq_getElem hi2]
  show some (pV _) = some (pV (rows[i].getD j none))
  rw [List.getD_eq_getElem?_getD, List.getElem?_eq_getElem hj2]
  rfl
theorem ints_at {ns : List Int} {i : Int} (h0 : 0 ≤ i) (h1 : i < ns.length) : atI (ns.map V.int) i = some (.int (ns.getD i.toNat 0)) := int_at (Int.toNat_of_nonneg h0).symm (by omega)
/-! ### tables of n letters in a heap -/
structure TbN (K : PySem.W.Frag) (G : Hp) (n : Nat) (a : Addr) (A : List (List (Option Int))) : Prop where
  t : TabAt K G a A
  n : Tn n A
  ok : ∀ r ∈ A, ∀ x ∈ r, ∀ i, x = some i → 0 ≤ i
theorem TbN.up {K : PySem.W.Frag} {G G' : Hp} {n : Nat} {a : Addr} {A : List (List (Option Int))} (h : TbN K G n a A) (x : Ex G G') : TbN K G' n a A := ⟨h.t.up x, h.n, h.ok⟩
theorem TbN.ins {K : PySem.W.Frag} {G : Hp} {n : Nat} {a : Addr} {A : List (List (Option Int))} (h : TbN K G n a A) : G a = some (.ins (He.ga K "Table") h.t.choose [("entries", h.t.choose_spec.choose)]) := h.t.choose_spec.choose_spec.1
theorem TbN.mul {K : PySem.W.Frag} {G G' : Hp} {n : Nat} {a b x : Addr} {A B : List (List (Option Int))} (hA : TbN K G n a A) (hB : TbN K G n b B) (h : TabAt K G' x (mulRows A B)) : TbN K G' n x (mulRows A B) := ⟨h, hA.n.mul hB.n, mulRows_ok hA.ok hB.ok⟩
theorem TbN.or {K : PySem.W.Frag} {G G' : Hp} {n : Nat} {a b x : Addr} {A B : List (List (Option Int))} (hA : TbN K G n a A) (hB : TbN K G n b B) (h : TabAt K G' x (orRows A B)) : TbN K G' n x (orRows A B) := ⟨h, hA.n.or hB.n, orRows_ok hA.ok hB.ok⟩
theorem TbN.add {K : PySem.W.Frag} {G G' : Hp} {n : Nat} {a b x : Addr} {A B : List (List (Option Int))} (hA : TbN K G n a A) (hB : TbN K G n b B) (h : TabAt K G' x (addRows A B)) : TbN K G' n x (addRows A B) := ⟨h, hA.n.add hB.n, addRows_ok hA.ok hB.ok⟩
theorem TbN.neg {K : PySem.W.Frag} {G G' : Hp} {n : Nat} {a x : Addr} {A : List (List (Option Int))} (hA : TbN K G n a A) (h : TabAt K G' x (turnRows A)) : TbN K G' n x (turnRows A) := ⟨h, hA.n.turn, turnRows_ok hA.ok⟩
end Ech

namespace Ech
open PySem PySem.Spec PyProof.Rows L2
open He (ga ma)

/-! ### ranges that end far below 0 -/
section
variable {X : Cx} {tg : Expr}
end
/-! ### texts -/
def istr (i : Int) : PySem.Str := toString i
section
variable {X : Cx} {o e : Expr} {to te : TE} {pos apos : Pos}
end
/-! ### texts of tables and songs -/
def pS : Option Int → PySem.Str
  | none => "-"
  | some i => istr i
def rowS (r : List (Option Int)) : PySem.Str := PySem.Txt.join " " (r.map pS)
def tabS (A : List (List (Option Int))) : PySem.Str := PySem.Txt.join " / " (A.map rowS)
def echoS (e : Lot) : PySem.Str := ((("echo " : PySem.Str) ++ istr e.1) ++ " ") ++ tabS e.2
def headS (L n : Int) : PySem.Str := ((("song " : PySem.Str) ++ istr L) ++ " ") ++ istr n
theorem join_len (sep : PySem.Str) (ys : List PySem.Str) : (PySem.Txt.join sep ys).length ≤ (ys.map (·.length)).sum + ys.length * sep.length := by
  have e : PySem.Txt.join sep ys = PySem.Str.join sep ys := PySem.StrLaws.glued_eq_join sep ys
  rw [e]
  exact PySem.StrLaws.join_length_le sep ys
theorem istr_len {i : Int} (h : i.natAbs < 10 ^ 40) : (istr i).length ≤ 41 := by
  have := PySem.int_text_length_le10 (k := 40) (by decide) h
  unfold istr
  rw [PySem.ofString_length]
  exact this
theorem sumN_le {α : Type} {f : α → Nat} {b : Nat} : ∀ {xs : List α}, (∀ x ∈ xs, f x ≤ b) → (xs.map f).sum ≤ xs.length * b
  | [], _ => by simp
  | x :: xs, h => by
    have h1 := h x List.mem_cons_self
    have h2 := sumN_le (xs := xs) fun y hy => h y (List.mem_cons_of_mem _ hy)
    rw [List.map_cons, List.sum_cons, List.length_cons, Nat.succ_mul]
    omega
theorem lens_le {ys : List PySem.Str} {b : Nat} (h : ∀ y ∈ ys, y.length ≤ b) : (ys.map (·.length)).sum ≤ ys.length * b := sumN_le h
def Low40 (A : List (List (Option Int))) : Prop := ∀ r ∈ A, ∀ x ∈ r, ∀ i, x = some i → i.natAbs < 10 ^ 40
theorem pS_len {x : Option Int} (h : ∀ i, x = some i → i.natAbs < 10 ^ 40) : (pS x).length ≤ 41 := by
  cases x with
  | none => decide
  | some i => exact istr_len (h i rfl)
theorem rowS_len {r : List (Option Int)} (h : ∀ x ∈ r, ∀ i, x = some i → i.natAbs < 10 ^ 40) (h5 : r.length ≤ 5) : (r.map pS |>.map (·.length)).sum + (r.map pS).length * (" " : PySem.Str).length ≤ 300 ∧ (rowS r).length ≤ 300 := by
  have h1 : ((r.map pS).map (·.length)).sum ≤ (r.map pS).length * 41 := lens_le fun y hy => by
    obtain ⟨x, hx, rfl⟩ := List.mem_map.mp hy
    exact pS_len (h x hx)
  have l1 : (r.map pS).length = r.length := List.length_map _
  have l2 : (" " : PySem.Str).length = 1 := by decide
  have h2 := join_len " " (r.map pS)
  rw [l2] at h2 ⊢
  rw [l1] at h1 h2 ⊢
  have h3 : ((r.map pS).map (·.length)).sum + r.length * 1 ≤ 300 := by omega
  exact ⟨h3, Nat.le_trans h2 h3⟩
theorem tabS_len {A : List (List (Option Int))} (h : Low40 A) (h5 : A.length ≤ 5) (hr : ∀ r ∈ A, r.length ≤ 5) : (A.map rowS |>.map (·.length)).sum + (A.map rowS).length * (" / " : PySem.Str).length ≤ 1600 ∧ (tabS A).length ≤ 1600 := by
  have h1 : ((A.map rowS).map (·.length)).sum ≤ (A.map rowS).length * 300 := lens_le fun y hy => by
    obtain ⟨r, hr', rfl⟩ := List.mem_map.mp hy
    exact (rowS_len (h r hr') (hr r hr')).2
  have l1 : (A.map rowS).length = A.length := List.length_map _
  have l2 : (" / " : PySem.Str).length = 3 := by decide
  have h2 := join_len " / " (A.map rowS)
  rw [l2] at h2 ⊢
  rw [l1] at h1 h2 ⊢
  have h3 : ((A.map rowS).map (·.length)).sum + A.length * 3 ≤ 1600 := by omega
  exact ⟨h3, Nat.le_trans h2 h3⟩
theorem echoS_len {e : Lot} (h0 : e.1.natAbs < 10 ^ 40) (h : Low40 e.2) (h5 : e.2.length ≤ 5) (hr : ∀ r ∈ e.2, r.length ≤ 5) : (echoS e).length ≤ 1700 := by
  have h1 := (tabS_len h h5 hr).2
  have h2 := istr_len h0
  have l1 : ("echo " : PySem.Str).length = 5 := by decide
  have l2 : (" " : PySem.Str).length = 1 := by decide
  unfold echoS
  rw [PySem.Str.length_append, PySem.Str.length_append, PySem.Str.length_append, l1, l2]
  omega
theorem headS_len {L n : Int} (hL : L.natAbs < 10 ^ 40) (hn : n.natAbs < 10 ^ 40) : (headS L n).length ≤ 100 := by
  have h1 := istr_len hL
  have h2 := istr_len hn
  have l1 : ("song " : PySem.Str).length = 5 := by decide
  have l2 : (" " : PySem.Str).length = 1 := by decide
  unfold headS
  rw [PySem.Str.length_append, PySem.Str.length_append, PySem.Str.length_append, l1, l2]
  omega
theorem songS_len {L n : Int} {es : List Lot} (hL : L.natAbs < 10 ^ 40) (hn : n.natAbs < 10 ^ 40) (h2 : es.length ≤ 2) (h : ∀ e ∈ es, (echoS e).length ≤ 1700) : ((headS L n :: es.map echoS).map (·.length)).sum + (headS L n :: es.map echoS).length * ("\n" : PySem.Str).length ≤ 5000 := by
  have h1 : ((es.map echoS).map (·.length)).sum ≤ (es.map echoS).length * 1700 := lens_le fun y hy => by
    obtain ⟨e, he, rfl⟩ := List.mem_map.mp hy
    exact h e he
  have l1 : (es.map echoS).length = es.length := List.length_map _
  have l2 : ("\n" : PySem.Str).length = 1 := by decide
  have h3 := headS_len hL hn
  rw [l2, List.map_cons, List.sum_cons, List.length_cons, l1]
  rw [l1] at h1
  omega
/-! ### songs that are equal -/
section
variable {X : Cx} {k : Nat} {K : PySem.W.Frag} {CX : CXT} {f : Addr} {ps : List PySem.Str} {E : XK}
end
/-! ### plain songs: tuples of letters, length and lots -/
def lotOf (e : Ec) : Lot := (e.1, e.2.2)
def turnLots (es : List Lot) : List Lot := es.map fun e => (e.1, turnRows e.2)
def PlainAt (K : PySem.W.Frag) (G : Hp) (v : V) (L n : Int) (es : List Lot) : Prop := ∃ a b ws, v = .ref a ∧ SqT K G a [.int L, .int n, .ref b] ∧ SqT K G b ws ∧ Paired (LotAt K G) ws es
theorem PlainAt.up {K : PySem.W.Frag} {G G' : Hp} {v : V} {L n : Int} {es : List Lot} (x : Ex G G') (h : PlainAt K G v L n es) : PlainAt K G' v L n es := by
  obtain ⟨a, b, ws, h1, h2, h3, h4⟩ := h
  exact ⟨a, b, ws, h1, Evl.ex_t x h2, Evl.ex_t x h3, paired_imp2 h4 fun _ _ _ z => z.up x⟩
structure TextOk (L n : Int) (es : List Lot) : Prop where
  l : L.natAbs < 10 ^ 40
  n : n.natAbs < 10 ^ 40
  few : es.length ≤ 2
  each : ∀ e ∈ es, e.1.natAbs < 10 ^ 40 ∧ Low40 e.2 ∧ e.2.length ≤ 5 ∧ ∀ r ∈ e.2, r.length ≤ 5
theorem TextOk.len {L n : Int} {es : List Lot} (h : TextOk L n es) : ((headS L n :: es.map echoS).map (·.length)).sum + (headS L n :: es.map echoS).length * ("\n" : PySem.Str).length ≤ 5000 :=
  songS_len h.l h.n h.few fun e he => echoS_len (h.each e he).1 (h.each e he).2.1 (h.each e he).2.2.1 (h.each e he).2.2.2
theorem Low40.turn {A : List (List (Option Int))} (h : Low40 A) : Low40 (turnRows A) := AllE.turn (P := fun i => i.natAbs < 10 ^ 40) h
theorem ScoreOk.turn {L n : Int} {es : List Lot} (h : ScoreOk L n es) : ScoreOk L n (turnLots es) := by
  refine ⟨h.l1, h.l5, h.n1, h.n30, by unfold turnLots; rw [List.length_map]; exact h.few, fun e he => ?_, fun h2 => ?_⟩
  · obtain ⟨e0, he0, rfl⟩ := List.mem_map.mp he
    have := h.each e0 he0
    exact ⟨this.1, this.2.1, by show ((turnRows e0.2).length : Int) = L; rw [turnRows_len]; exact this.2.2.1, turnRows_sq _, turnRows_ok this.2.2.2.2⟩
  · unfold turnLots at h2
    rw [List.length_map] at h2
    have := h.sum h2
    unfold lotSum turnLots
    rw [List.map_map]
    exact this
/-! ### links with the rows of their tables -/
abbrev LinkC : Type := Int × Int × List (List (Option Int))
def LinkAt (K : PySem.W.Frag) (G : Hp) (w : V) (t : LinkC) : Prop := ∃ b r, w = .ref b ∧ SqT K G b [.int t.1, .int t.2.1, r] ∧ RowsAt K G r t.2.2
theorem LinkAt.up {K : PySem.W.Frag} {G G' : Hp} {w : V} {t : LinkC} (x : Ex G G') (h : LinkAt K G w t) : LinkAt K G' w t := by
  obtain ⟨b, r, h1, h2, h3⟩ := h
  exact ⟨b, r, h1, Evl.ex_t x h2, h3.up x⟩
end Ech

namespace Ech
open PySem PySem.Spec PyProof.Rows L2

/-! ### t.index(i) of ints in a tuple -/
section
variable {X : Cx} {o e : Expr} {to te : TE} {apos pos cpos : Pos}
end
/-! ### tuples of which it is known that they have no dict -/
def TupN (H : Hp) (a : Addr) (xs : List V) : Prop := ∃ o : Obj, o.dict = none ∧ H a = some (.frz o (.tup xs))
theorem TupN.sq {K : PySem.W.Frag} {H : Hp} {a : Addr} {xs : List V} (h : TupN H a xs) : SqT K H a xs := h.elim fun o z => Or.inl (Or.inr ⟨o, z.2⟩)
theorem TupN.up {H H' : Hp} {a : Addr} {xs : List V} (x : Ex H H') (h : TupN H a xs) : TupN H' a xs := h.elim fun o z => ⟨o, z.1, x _ _ z.2⟩
section
variable {X : Cx} {o e : Expr} {to te : TE} {apos pos cpos : Pos}
end
/-! ### len(set(t)) of different ints in a tuple -/
/-! ### new names of letters -/
def ixOf : List Int → Int → Nat
  | [], _ => 0
  | a :: l, z => if a = z then 0 else ixOf l z + 1
theorem ix_ok : ∀ {ns : List Int} {z : Int}, z ∈ ns → ns[ixOf ns z]? = some z ∧ ∀ m, m < ixOf ns z → ns[m]? ≠ some z
  | a :: l, z, h => by
    unfold ixOf
    by_cases e : a = z
    · rw [if_pos e]
      exact ⟨by rw [e]; rfl, fun m hm => absurd hm (Nat.not_lt_zero _)⟩
    · rw [if_neg e]
      have hz : z ∈ l := (List.mem_cons.mp h).resolve_left fun w => e w.symm
      obtain ⟨h1, h2⟩ := ix_ok hz
      refine ⟨h1, fun m hm => ?_⟩
      cases m with
      | zero =>
        intro w
        exact e (Option.some.inj w)
      | succ m => exact h2 m (by omega)
theorem ix_uniq {ns : List Int} {z : Int} {j : Nat} (nd : ns.Nodup) (h : ns[j]? = some z) : ixOf ns z = j := by
  have hz := List.mem_of_getElem? h
  have h1 := (ix_ok hz).1
  obtain ⟨hj, ej⟩ := List.getElem?_eq_some_iff.mp h
  obtain ⟨hi, ei⟩ := List.getElem?_eq_some_iff.mp h1
  have pw := List.pairwise_iff_getElem.mp nd
  rcases Nat.lt_trichotomy (ixOf ns z) j with lt | eq | gt
  · exact absurd (ei.trans ej.symm) (pw _ _ hi hj lt)
  · exact eq
  · exact absurd (ej.trans ei.symm) (pw _ _ hj hi gt)
structure Nm (L : Nat) (ns : List Int) : Prop where
  len : ns.length = L
  nd : ns.Nodup
  lt : ∀ x ∈ ns, 0 ≤ x ∧ x < L
  on : ∀ c : Nat, c < L → (c : Int) ∈ ns
theorem Nm.ix {L : Nat} {ns : List Int} (h : Nm L ns) {c : Nat} (hc : c < L) : ixOf ns c < L := by
  have := (List.getElem?_eq_some_iff.mp (ix_ok (h.on c hc)).1).1
  rw [h.len] at this
  exact this
theorem Nm.at {L : Nat} {ns : List Int} (h : Nm L ns) {i : Nat} (hi : i < L) : ∃ c : Nat, c < L ∧ ns[i]? = some (c : Int) ∧ ns.getD i 0 = c ∧ ixOf ns c = i := by
  have hi' : i < ns.length := by rw [h.len]; exact hi
  have hx := h.lt _ (List.getElem_mem hi')
  refine ⟨ns[i].toNat, by omega, ?_, ?_, ?_⟩
  · rw [List.getElem?_eq_getElem hi', Int.toNat_of_nonneg hx.1]
  · rw [List.getD_eq_getElem?_getD, List.getElem?_eq_getElem hi', Int.toNat_of_nonneg hx.1]
    rfl
  · exact ix_uniq h.nd (by rw [List.getElem?_eq_getElem hi', Int.toNat_of_nonneg hx.1])
def invL (L : Nat) (ns : List Int) : List Int := (List.range L).map fun c : Nat => ((ixOf ns c : Nat) : Int)
theorem invL_len (L : Nat) (ns : List Int) : (invL L ns).length = L := by unfold invL; rw [List.length_map, List.length_range]
theorem Nm.inv {L : Nat} {ns : List Int} (h : Nm L ns) : Nm L (invL L ns) := by
  refine ⟨invL_len L ns, ?_, fun x hx => ?_, fun c hc => ?_⟩
  · unfold invL
    rw [List.nodup_iff_pairwise_ne, List.pairwise_map]
    refine List.Pairwise.imp_of_mem (fun {a b} ha hb hab e => hab ?_) (List.nodup_iff_pairwise_ne.mp List.nodup_range)
    have e' : ixOf ns a = ixOf ns b := by exact_mod_cast e
    have h1 := (ix_ok (h.on a (List.mem_range.mp ha))).1
    have h2 := (ix_ok (h.on b (List.mem_range.mp hb))).1
    rw [e', h2] at h1
    exact_mod_cast (Option.some.inj h1).symm
  · unfold invL at hx
    obtain ⟨c, hc, rfl⟩ := List.mem_map.mp hx
    have := h.ix (List.mem_range.mp hc)
    omega
  · obtain ⟨d, hd, _, _, e⟩ := h.at hc
    unfold invL
    exact List.mem_map.mpr ⟨d, List.mem_range.mpr hd, by rw [e]⟩
def nameRow (ns : List Int) (A : List (List (Option Int))) (c : Nat) : List (Option Int) := (List.range A.length).map fun d : Nat => en A (ixOf ns c) (ixOf ns d)
def nameRows (ns : List Int) (A : List (List (Option Int))) : List (List (Option Int)) := (List.range A.length).map (nameRow ns A)
theorem nameRow_len (ns : List Int) (A : List (List (Option Int))) (c : Nat) : (nameRow ns A c).length = A.length := by unfold nameRow; rw [List.length_map, List.length_range]
theorem nameRows_len (ns : List Int) (A : List (List (Option Int))) : (nameRows ns A).length = A.length := by unfold nameRows; rw [List.length_map, List.length_range]
theorem nameRows_sq (ns : List Int) (A : List (List (Option Int))) : SqR (nameRows ns A) := by
  intro r hr
  obtain ⟨c, _, rfl⟩ := List.mem_map.mp hr
  rw [nameRow_len, nameRows_len]
theorem en_mem {A : List (List (Option Int))} {i j : Nat} {v : Int} (h : en A i j = some v) : ∃ r ∈ A, some v ∈ r := by
  unfold en at h
  rw [List.getD_eq_getElem?_getD] at h
  cases z : (A.getD i [])[j]? with
  | none => rw [z] at h; cases h
  | some y =>
    rw [z] at h
    have h' : y = some v := h
    have hy := List.mem_of_getElem? z
    rw [List.getD_eq_getElem?_getD] at hy
    cases z2 : A[i]? with
    | none => rw [z2] at hy; cases hy
    | some r =>
      rw [z2] at hy
      exact ⟨r, List.mem_of_getElem? z2, h' ▸ hy⟩
theorem AllE.name {P : Int → Prop} {ns : List Int} {A : List (List (Option Int))} (h : AllE P A) : AllE P (nameRows ns A) := by
  intro r hr x hx i e
  obtain ⟨c, _, rfl⟩ := List.mem_map.mp hr
  obtain ⟨d, _, rfl⟩ := List.mem_map.mp hx
  obtain ⟨r, h1, h2⟩ := en_mem e
  exact h r h1 _ h2 i rfl
def nameLots (ns : List Int) (es : List Lot) : List Lot := es.map fun e => (e.1, nameRows ns e.2)
theorem ScoreOk.name {L n : Int} {es : List Lot} {ns : List Int} (h : ScoreOk L n es) : ScoreOk L n (nameLots ns es) := by
  refine ⟨h.l1, h.l5, h.n1, h.n30, by unfold nameLots; rw [List.length_map]; exact h.few, fun e he => ?_, fun h2 => ?_⟩
  · obtain ⟨e0, he0, rfl⟩ := List.mem_map.mp he
    have := h.each e0 he0
    exact ⟨this.1, this.2.1, by show ((nameRows ns e0.2).length : Int) = L; rw [nameRows_len]; exact this.2.2.1, nameRows_sq _ _, AllE.name (P := (0 ≤ ·)) this.2.2.2.2⟩
  · unfold nameLots at h2
    rw [List.length_map] at h2
    have := h.sum h2
    unfold lotSum nameLots
    rw [List.map_map]
    exact this
end Ech

namespace Ech
open PySem PySem.Spec PyProof.Rows L2
open He (ga ma)

/-! ### own error classes over ValueError: what the written part says, as a test -/
/-! ### a caught error as an object of the heap -/
def ExH (a : Addr) (cls : Value) (d : Option Addr) : HO := .ext fun h => ∃ oe vs, h.get? a = some oe ∧ Zc cls d oe ∧ oe.data = .fields vs
theorem exh_ok {P : Program} {w : World} {H : Hp} {h : Heap} {a : Addr} {cls : Value} {d : Option Addr} {oe : Obj} {vs : Array Value} (h1 : h.get? a = some oe) (h2 : Zc cls d oe) (h3 : oe.data = .fields vs) : ObjOk P w H h a (ExH a cls d) :=
  ⟨⟨oe, vs, h1, h2, h3⟩, ⟨oe, h1⟩, fun g1 g2 ⟨o, v, k1, k2, k3⟩ st => ⟨o, v, st o k1, k2, k3⟩⟩
section
variable {X : Cx} {pins : List (Addr × Obj)} {σ : L2.St} {H : Hp} {s : Shared} {a : Addr} {oe : Obj} {vs : Array Value} {cls : Value} {d : Option Addr}
theorem exh_at (I : Inv X pins σ H s) (h : H a = some (ExH a cls d)) : ∃ oe vs, s.heap.get? a = some oe ∧ Zc cls d oe ∧ oe.data = .fields vs := by
  have x : ObjOk X.prog X.w H s.heap a (.ext fun h => ∃ oe vs, h.get? a = some oe ∧ Zc cls d oe ∧ oe.data = .fields vs) := I.hok a _ h
  exact x.1
theorem inv_adopt (I : Inv X pins σ H s) (ha : s.heap.get? a = some oe) (hz : Zc cls d oe) (hd : oe.data = .fields vs) (na : H a = none) (nL : a ≠ X.env.locals) (n0 : X.s_0.heap.get? a = none) (np : ∀ p ∈ X.pn ++ pins, p.1 ≠ a) : Inv X pins σ (upd H a (ExH a cls d)) s := by
  have ne : ∀ b u, H b = some u → b ≠ a := fun b u e z => by rw [z, na] at e; cases e
  refine ⟨I.ok, I.os, I.bare, ⟨I.base.keep, I.base.slot, fun b o e n hx => ?_, I.base.there, fun b xs e => ?_, fun b o u e => ?_, fun b ps e => ?_⟩, I.loc, I.cell, ?_, fun y c e => ?_, fun p hp => ?_, fun b o e => ?_, I.len⟩
  · rw [upd_ne (fun z => by rw [z, n0] at e; cases e)]
    exact I.base.free b o e n hx
  · have := I.base.tups b xs e
    rw [upd_ne (ne _ _ this)]
    exact this
  · have := I.base.frzs b o u e
    rw [upd_ne (ne _ _ this)]
    exact this
  · obtain ⟨more, this⟩ := I.base.tbls b ps e
    exact ⟨more, by rw [upd_ne (ne _ _ this)]; exact this⟩
  · rw [upd_ne nL.symm]
    exact I.free
  · rw [upd_ne (fun z => ?_)]
    · exact I.freeC y c e
    · obtain ⟨v, o, ho, hc⟩ := I.cell y c e
      rw [z, ha] at ho
      cases ho
      rw [hd] at hc
      cases hc
  · obtain ⟨p1, p2, p3, p4, p5⟩ := I.pin p hp
    exact ⟨p1, by rw [upd_ne (np p hp)]; exact p2, p3, p4, p5⟩
  · by_cases hb : b = a
    · subst hb
      rw [upd_same] at e
      cases e
      exact exh_ok ha hz hd
    · rw [upd_ne hb] at e
      exact (I.hok b o e).stay (fun _ _ _ z => z) (fun c hc => by rw [upd_ne (ne _ _ hc)]; exact hc) fun c xs hc => by rw [upd_ne (ne _ _ hc)]; exact hc
end
def wTake (K : PySem.W.Frag) (c : Value) (i : Nat) (ts : TS) (Wout : WX) (D : Ends) : WX := fun cls d σ H =>
  ∃ b, PySem.W.exmOne K cls c = some b ∧ (b = true → ∀ a, H a = none → ts { nx := fun σ' H' => D.nx (σ'.set i none) H', rt := D.rt, bk := fun σ' H' => D.bk (σ'.set i none) H', ct := fun σ' H' => D.ct (σ'.set i none) H' } (σ.set i (some (.ref a))) (upd H a (ExH a cls d))) ∧
    (b = false → Wout cls d σ H)
section
variable {X : Cx} {x n : PySem.Str} {c : Value} {i : Nat} {body suite : List Stmt} {b₀ : Stmt} {np pos pos' : Pos} {tb : WX → TS} {ts : TS} {Wout : WX}
theorem ps_try_take (hs : X.stack = X.env :: X.outer) (hf : X.env.frame = some X.env.locals) (hex : X.ex = []) (hN : X.N.Nodup) (hi : X.N[i]? = some n) (hln : X.env.kindOf n = some .local) (hc : Names X x c) (tk : Takes X Wout)
    (hb : ∀ (W : WX) (pn : List (Addr × Obj)) (xe : Value → Shared → Prop), Takes (X.tr pn xe) W → PassesOwn (model X.prog X.w) X.A X.env xe → PSs (X.tr pn xe) body (tb W))
    (hsu : ∀ (a : Addr) (pn : List (Addr × Obj)), PSs (X.suite a pn) (b₀ :: suite) ts) :
    PS X (.Try body [.ExceptHandler (some (.Name x np)) (some n) (b₀ :: suite) pos'] [] [] pos) (fun D σ H => tb (wTake X.K c i ts Wout D) D σ H) := by
  refine ⟨fun pins s σ H D I h => ?_⟩
  have ok := I.ok
  have hfr : X.A.frames = some (X.env :: X.outer) := by rw [ok.frames, hs]
  refine wpAny_Try_except ?_
  refine wpAny_mono ((hb (wTake X.K c i ts Wout D) (X.pn ++ pins) (fun e s₁ => wpAny (model X.prog X.w) X.A (noteFrame e X.env) (fun _ s₂ => wpAny (model X.prog X.w) X.A (setFlight e none) (fun _ s₃ =>
    wpAny (model X.prog X.w) X.A (handleBy e X.env [.ExceptHandler (some (.Name x np)) (some n) (b₀ :: suite) pos']) (SP X pins D) X.xe s₃) X.xe s₂) X.xe s₁) (fun u s' xx => ?_) PassesOwn.looking).run [] s σ H D (I.toTry _) h) (fun f s1 hsp => ?_) (fun e s1 he => he)
  · obtain ⟨a, B, sI, pins', σ', H', cls, d, rfl, J', nb, up, sky, na, os, ag, b, hb1, hyes, hno⟩ := xx
    have J : Inv X pins σ' H' sI := J'.ofTry ok
    have sky' : Sky B (X.env :: X.outer) a (Zc cls d) X.env.locals s'.heap := by rw [← hs]; exact sky
    refine Sky.land Zc.steady hfr hf sky' fun h3 fl3 up3 => ?_
    have J3 : Inv X pins σ' H' { s' with heap := h3 } := J.landed nb fl3.1 (up.trans up3) os ag
    obtain ⟨oe3, vs3, he3, hz3, hd3⟩ := fl3.there
    have nfr : a ∉ frs (X.env :: X.outer) := fun hm => by
      obtain ⟨_, o', e', hnf⟩ := fl3.2.2.1.mem hm
      rw [he3] at e'
      cases e'
      exact hnf _ hd3
    have nL : a ≠ X.env.locals := fun z => nfr (List.mem_filterMap.mpr ⟨X.env, List.mem_cons_self, by rw [hf, z]⟩)
    have nF : a ∉ X.fs := fun hm => by
      obtain ⟨e, he, q⟩ := List.mem_filterMap.mp hm
      exact nfr (List.mem_filterMap.mpr ⟨e, List.mem_cons_of_mem _ he, q⟩)
    have nB : B.get? a = none := fl3.2.1
    have nI : sI.heap.get? a = none := by
      cases z : sI.heap.get? a with
      | none => rfl
      | some o =>
        have := nb a o z (by rw [hs]; exact nfr)
        rw [nB] at this
        cases this
    have n0 : X.s_0.heap.get? a = none := by
      cases z : X.s_0.heap.get? a with
      | none => rfl
      | some o =>
        obtain ⟨o', e'⟩ := J.base.there a o z (by rw [hex]; exact List.not_mem_nil)
        rw [nI] at e'
        cases e'
    have npn : ∀ p ∈ X.pn ++ pins, p.1 ≠ a := fun p hp z => by
      have := (J.pin p hp).1
      rw [z, nI] at this
      cases this
    have S3 := J3.suite he3 hd3 na nL nF
    refine wpAny_handleBy_cons (codeAny_handlers_test ?_) (by intro q; cases q)
    have LT : PySem.W.Looks (model X.prog X.w) h3 (typeOf (.ref a)) cls := fun A Q E s k q => wpAny_typeOf_ref (k _ _ he3) (by rw [hz3.1]; exact q)
    have LM := PySem.W.exm_one (M := model X.prog X.w) (J3.kIn) LT hb1
    have test : ∀ {Q : Value → Shared → Prop} {E : Value → Shared → Prop}, Q c { s' with heap := h3 } → wpAny (model X.prog X.w) (X.A.mark (some (.ref a))) (eval (.Name x np) X.env) Q E { s' with heap := h3 } := fun {Q E} q => by
      obtain ⟨hg, hdbg, hm | ⟨hm, hv, hnn⟩⟩ := hc
      · exact ld_glob (X := X.suite a ((a, oe3) :: (X.pn ++ pins))) S3 hg hm q hdbg
      · exact ld_blt (X := X.suite a ((a, oe3) :: (X.pn ++ pins))) S3 hg hm hv q hnn hdbg
    refine test (LM.here ?_)
    cases b with
    | true =>
      refine codeAny_handlers_suite_as ?_
      refine HandSPX.lands_againZ fl3 fun h4 fl4 up4 => ?_
      have J4 : Inv X pins σ' H' { s' with heap := h4 } := J.landed nb fl4.1 ((up.trans up3).trans up4) os ag
      obtain ⟨oe4, vs4, he4, hz4, hd4⟩ := fl4.there
      have K4 := inv_adopt J4 he4 hz4 hd4 na nL n0 npn
      have S4 : Inv (X.suite a (X.pn ++ pins)) [] σ' (upd H' a (ExH a cls d)) { s' with heap := h4 } :=
        ⟨K4.ok.suite _ _, K4.os, K4.bare, K4.base, K4.loc, K4.cell, K4.free, K4.freeC, fun p hp => K4.pin p (by rw [List.append_nil] at hp; exact hp), K4.hok, K4.len⟩
      refine store_ok (X := X.suite a (X.pn ++ pins)) (v := .ref a) S4 hN hi (.inl hln) rfl (fun s5 S5 => ?_) (.inr hln)
      refine wpAny_mono ((hsu a (X.pn ++ pins)).run [] s5 _ _ _ S5 (hyes rfl a na)) (fun f s6 hsp => ?_) (fun _ _ z => False.elim z)
      have end_ : ∀ {σ6 : L2.St} {H6 : Hp} {Q : Shared → Prop}, Inv (X.suite a (X.pn ++ pins)) [] σ6 H6 s6 → (∀ s7, Inv X pins (σ6.set i none) H6 s7 → Q s7) →
          wpAny (model X.prog X.w) X.A (do bindName X.env n .none; unbindBehindTheSuite X.env n pos') (fun _ s7 => Q s7) X.xe s6 := fun {σ6 H6 Q} S6 hq =>
        gone_ok (X := X) (pins := pins) ⟨ok, S6.os, S6.bare, S6.base, S6.loc, S6.cell, S6.free, S6.freeC, fun p hp => S6.pin p (List.mem_append_left _ hp), S6.hok, S6.len⟩ hN hi hln hq
      cases f with
      | next =>
        obtain ⟨σ6, H6, S6, q6⟩ := hsp
        exact end_ S6 fun s7 J7 => ⟨_, _, J7, q6⟩
      | brk =>
        obtain ⟨σ6, H6, S6, q6⟩ := hsp
        exact end_ S6 fun s7 J7 => ⟨_, _, J7, q6⟩
      | cont =>
        obtain ⟨σ6, H6, S6, q6⟩ := hsp
        exact end_ S6 fun s7 J7 => ⟨_, _, J7, q6⟩
      | ret u =>
        obtain ⟨v6, σ6, H6, S6, r6, q6⟩ := hsp
        exact end_ S6 fun s7 J7 => ⟨_, _, _, J7, r6, q6⟩
    | false =>
      refine wpAny_handleBy_nil ?_
      obtain ⟨k1, k2, k3, oe, vs, T, oT, ts', he, hz, hd, h1, hr⟩ := id fl3
      unfold PySem.passOn
      refine wpAny_bind (wpAny_field he hd h1 ?_)
      rw [if_neg (show ¬ ((Value.ref T == Value.none) = true) from by simp)]
      have fin : wpAny (model X.prog X.w) X.A (setFlight (.ref a) X.env.frame) (fun _ s4 => wpAny (model X.prog X.w) X.A (throw (.ref a) : Sem Flow) (SP X pins D) X.xe s4) X.xe { s' with heap := h3 } := by
        rw [hf]
        refine HandSPX.setFlight_upZ fl3 fun h4 hh4 up4 => wpAny_throw (tk _ _ ?_)
        exact ⟨a, B, sI, pins, σ', H', cls, d, rfl, J, nb, (up.trans up3).trans up4, .inr (.inr (by rw [hs]; exact hh4)), na, os, ag, hno rfl⟩
      first
        | exact wpAny_bind (wpAny_pure (wpAny_bind fin))
        | exact wpAny_bind fin
  · cases f with
    | next =>
      obtain ⟨σ', H', J', q⟩ := hsp
      exact wpAny_execs_nil ⟨σ', H', J'.ofTry ok, q⟩
    | brk =>
      obtain ⟨σ', H', J', q⟩ := hsp
      exact ⟨σ', H', J'.ofTry ok, q⟩
    | cont =>
      obtain ⟨σ', H', J', q⟩ := hsp
      exact ⟨σ', H', J'.ofTry ok, q⟩
    | ret u =>
      obtain ⟨v, σ', H', J', r, q⟩ := hsp
      exact ⟨v, σ', H', J'.ofTry ok, r, q⟩
end
/-! ### fields of such an error, isinstance -/
theorem exfB_ok {K : PySem.W.Frag} {C : Addr} (h : exfB K C = true) : ExcC K C := by
  obtain ⟨h1, h⟩ := He.ba h
  obtain ⟨h2, h⟩ := He.ba h
  obtain ⟨h3, h⟩ := He.ba h
  obtain ⟨h4, h⟩ := He.ba h
  obtain ⟨h5, h⟩ := He.ba h
  obtain ⟨h6, h⟩ := He.ba h
  obtain ⟨h7, h8⟩ := He.ba h
  exact ⟨He.eqO_ok h1, of_decide_eq_true h2, of_decide_eq_true h3, h4, He.eqO_ok h5, He.eqO_ok h6, of_decide_eq_true h7, of_decide_eq_true h8⟩
/-! ### raise C(e) -/
/-! ### calls of defs that raise -/
theorem takesF {X : Cx} : Takes X (fun _ _ _ _ => False) := fun _ _ ⟨_, _, _, _, _, _, _, _, _, _, _, _, _, _, _, _, w⟩ => w.elim
theorem passF {X : Cx} : Passes (L2.CX X.prog X.w) X (fun _ _ _ => False) := fun _ σ _ _ e s' I c => takesF (X := X) e s' (XE.of_call (W := fun _ _ _ _ => False) I (fun _ _ _ h => h) c)
theorem passW {X : Cx} {E : XK} (tk : Takes X fun cls d _ H => E cls d H) : Passes (L2.CX X.prog X.w) X E := passes_call tk fun _ _ _ _ h => h
def uCallT (sp : Sp) (dvs : List V) (W : WX) (t : TA) : TE := fun σ H Q => t σ H fun vs H1 => sp (vs ++ dvs) H1 Q fun cls d H2 => W cls d σ H2
section
variable {X : Cx} {W : WX} {k : Nat} {f : Addr} {ps : List PySem.Str} {sp : Sp} {dvs : List V} {x : PySem.Str} {p pos : Pos} {e : Expr} {es : List Expr} {t : TA}
theorem u_callT (tk : Takes X W) (F : FnOk X.prog X.w X.K X.mg X.base (L2.CX X.prog X.w) k f (fdA X.K f) ps sp) (hr : Room k X.A) (hg : Gl X x) (hm : X.mg x = some (.ref f)) (hk : PySem.W.keepIn X.K (.ref f) = true) (hb : Bnd X.K f ps dvs) (ha : PA X (e :: es) t)
    (hdb : (x == ("__debug__" : PySem.Str)) = false := by decide) (he : starEach (e :: es) X.env = (false, eval e X.env) :: starEach es X.env := by rfl) (hpl : (backTo pos (starEach es X.env)).any (·.1) = false := by rfl) :
    PE X (.Call (.Name x p) (e :: es) [] pos) (uCallT sp dvs W t) := hb.elim fun _ q => pe_callSD (E := WE W) F hr hg hm hk q.2 q.1 (fun σ => passAt tk σ) ha hdb he hpl
end
/-! ### all that is asked of an own error with one field -/
/-! ### any -/
end Ech

namespace Ech
open PySem PySem.Spec PySem.SeqAt
open AutoSeq1 (wpAny_loadPart')
open MeetsSeq MeetsSeq2 MeetsSeq3 SeqRoads2
section
variable {prog : Program} {w : World} {A : Around} {R : Result → Shared → Prop}
end
open PyProof.Rows L2
open He (ga ma)
/-! ### [x] != [y], x and y songs that are equal -/
/-! ### a statement's end by a condition that is named -/
def uCut (t : TS) : TS := fun D σ H => ∃ R : L2.St → Hp → Prop, t { D with nx := R } σ H ∧ ∀ σ' H', R σ' H' → D.nx σ' H'
theorem ps_cut {X : Cx} {st : Stmt} {t : TS} (h : PS X st t) : PS X st (uCut t) := by
  refine ⟨fun pins s σ H D I ⟨R, q, i⟩ => ?_⟩
  refine wpAny_mono (h.run pins s σ H _ I q) (fun f s1 hsp => ?_) fun _ _ x => x
  cases f with
  | next =>
    obtain ⟨σ', H', J, z⟩ := hsp
    exact ⟨σ', H', J, i _ _ z⟩
  | brk => exact hsp
  | cont => exact hsp
  | ret u => exact hsp
/-! ### plain lots as data -/
/-! ### the signs of texts -/
end Ech

namespace Ech
open PySem PySem.Spec PyProof.Rows L2
open He (ga ma)
open LamX (Tabs TabS TabB CodeO ExtN LamS lamEnv lamCx lam_start2 run_ofS)

/-! ### a lambda is made: all but its maker's table of code objects stays -/
section
variable {X : Cx} {pins : List (Addr × Obj)} {σ : L2.St} {H : Hp} {s : Shared}
end
/-! ### a lambda without parameters, handed to a def that calls it -/
abbrev inZ (X : Cx) (Ng : List PySem.Str) (x : PySem.Str) (sg : Scope) (g : Addr) (cdg : Value) (s : Shared) (H : Hp) : Cx := cxOf C8.CX0 X.prog X.w X.K X.mg X.base Ng x sg g cdg X.A X.stack s H C8.E0
def uHand (f c' : Addr) (q : PySem.Str) (tl : XK → Hp → VK → Prop) (W : WX) : TE := fun σZ HZ Q => ∃ (E : XK) (R : VK), (∀ cls d H', E cls d H' → W cls d σZ H') ∧ (∀ v H', R v H' → Q v H') ∧ slot σZ 0 = some (.ref f) ∧ HZ c' = some (CodeO c' q) ∧ tl E HZ R
section
variable {X : Cx} {pins : List (Addr × Obj)} {σ : L2.St} {H : Hp} {s : Shared}
end
def GivesW (X : Cx) (Ng : List PySem.Str) (x : PySem.Str) (sg : Scope) (g : Addr) (cdg : Value) (bg : List Stmt) (a : PySem.Str) (q : PySem.Str) (TT : (XK → Hp → VK → Prop) → Hp → VK → Prop) : Prop :=
  ∀ (f c' : Addr) (s : Shared) (H : Hp) (Q : VK) (tl : XK → Hp → VK → Prop),
    (∀ (W : WX) (pn : List (Addr × Obj)) (xe : Value → Shared → Prop) (p1 p2 : Pos), Takes ((inZ X Ng x sg g cdg s H).tr pn xe) W → PE ((inZ X Ng x sg g cdg s H).tr pn xe) (.Call (.Name a p1) [] [] p2) (uHand f c' q tl W)) →
    H c' = some (CodeO c' q) → TT tl H Q → ∃ t, PSs (inZ X Ng x sg g cdg s H).nox bg t ∧ t { nx := fun _ H' => Q .non H', rt := Q } (L2.start Ng [.ref f]) H
section
variable {X : Cx}
end
/-! ### the tables through growth -/
structure Tb (T : List (Addr × PySem.Str)) (G H : Hp) : Prop where
  tabs : Tabs T H
  un : ∀ p ∈ T, G p.1 = none
theorem Tb.gr {T : List (Addr × PySem.Str)} {G H G' H' : Hp} (h : Tb T G H) (g : Gr G H G' H') : Tb T G' H' :=
  ⟨h.tabs.ext g.hh, fun p hp => by
    obtain ⟨ps, e, _⟩ := h.tabs p hp
    rw [g.fix p.1 (some_ne e)]
    exact h.un p hp⟩
theorem Tb.grm {T : List (Addr × PySem.Str)} {G H G' H' : Hp} {p : Addr} {kvs : List (Key × V)} (h : Tb T G H) (g : GrM p G H G' H') (hp : H p = some (.dK kvs)) : Tb T G' H' := by
  refine ⟨fun t ht => ?_, fun t ht => ?_⟩
  · obtain ⟨ps, e, e2, e3⟩ := h.tabs t ht
    refine ⟨ps, g.hh _ _ (fun z => by rw [z, hp] at e; cases e) e, e2, fun pos cv hc => ?_⟩
    obtain ⟨c, q1, q2⟩ := e3 pos cv hc
    refine ⟨c, q1, g.hh _ _ (fun z => ?_) q2⟩
    rw [z, hp] at q2
    unfold LamX.CodeO at q2
    cases q2
  · obtain ⟨ps, e, _⟩ := h.tabs t ht
    rw [g.fix t.1 (some_ne e)]
    exact h.un t ht
theorem Tb.pen {T : List (Addr × PySem.Str)} {K : PySem.W.Frag} {ku kr : PySem.Str} {G H G' H' : Hp} {p : Addr} {b : Nat} (h : Tb T G H) (pn : Pen K ku kr G H p b) (g : GrM p G H G' H') : Tb T G' H' := by
  obtain ⟨⟨kvs, _, _, _, _, e, _⟩, _⟩ := pn
  exact h.grm g e
theorem Tb.lam {T : List (Addr × PySem.Str)} {G H H1 : Hp} {P : Addr} (h : Tb T G H) (hP : ∃ q, (P, q) ∈ T) (k : ∀ b o, b ≠ P → H b = some o → H1 b = some o) (t : Tabs T H1) (x : Ex G H) : GrM P G H G H1 ∧ Tb T G H1 := by
  obtain ⟨q, hP⟩ := hP
  have nP : G P = none := h.un _ hP
  refine ⟨⟨fun a o na e => k a o na e, ex_refl _, fun a o e => k a o (fun z => by rw [z, nP] at e; cases e) (x a o e), fun _ _ => rfl, fun _ => ?_⟩, ⟨t, h.un⟩⟩
  obtain ⟨ps, e, _⟩ := t _ hP
  exact some_ne e
theorem Pen.tab {K : PySem.W.Frag} {ku kr : PySem.Str} {T : List (Addr × PySem.Str)} {G H G' H' : Hp} {p P : Addr} {b : Nat} (pn : Pen K ku kr G H p b) (h : Tb T G H) (hP : ∃ q, (P, q) ∈ T) (g : GrM P G H G' H') : Pen K ku kr G' H' p b := by
  obtain ⟨q, hP⟩ := hP
  obtain ⟨ps, e, _⟩ := h.tabs _ hP
  obtain ⟨⟨kvs, c, ns, u, r, h1, h2, h3, h4, h5⟩, un⟩ := pn
  have ne : p ≠ P := fun z => by rw [z, e] at h1; cases h1
  exact ⟨⟨kvs, c, ns, u, r, g.hh _ _ ne h1, h2, h3, Evl.ex_l g.gg h4, h5⟩, by rw [g.fix p (some_ne h1)]; exact un⟩
/-! ### a def's code object and its table -/
def codeB (K : PySem.W.Frag) (f c : Addr) : Bool := match K.lookup f with
  | some ⟨_, _, .func d, _⟩ => (match d.code with | .ref c' => c' == c | _ => false)
  | _ => false
theorem codeB_ok {K : PySem.W.Frag} {f c : Addr} {cdv : Value} (h : codeB K f c = true) (a : CodeAt K f cdv) : cdv = .ref c := by
  obtain ⟨oc, od, d, osl, lk, rfl⟩ := a
  unfold codeB at h
  rw [lk] at h
  cases e : d.code with
  | ref c' =>
    simp only [e] at h
    rw [eq_of_beq h]
  | _ => simp [e] at h
def codeHdB (K : PySem.W.Frag) (c P : Addr) : Bool := match K.lookup c with
  | some ⟨cl, _, .fields vs, _⟩ => (match cl with | .type t => t == "code" | _ => false) && ((match (vs[11]? : Option Value) with | some (.ref p) => p == P | _ => false) && ((match vs.getD 11 .none with | .ref p => p == P | _ => false) &&
      ((match vs.getD 18 .none with | .str _ _ => true | _ => false) && ((match vs.getD 7 .none with | .int _ _ => true | _ => false) && ((match vs.getD 9 .none with | .bool _ => true | _ => false) && ((match vs.getD 10 .none with | .int _ _ => true | _ => false) && !(c == P)))))))
  | _ => false
theorem codeHdB_ok {K : PySem.W.Frag} {c P : Addr} {h : Heap} (X : K.In h) (z : codeHdB K c P = true) : PySem.W.CodeHd h c P := by
  unfold codeHdB at z
  split at z
  · rename_i cl dd vs sl lk
    obtain ⟨z1, z⟩ := He.ba z
    obtain ⟨z2, z⟩ := He.ba z
    obtain ⟨z3, z⟩ := He.ba z
    obtain ⟨z4, z⟩ := He.ba z
    obtain ⟨z5, z⟩ := He.ba z
    obtain ⟨z6, z⟩ := He.ba z
    obtain ⟨z7, z8⟩ := He.ba z
    have e1 : cl = .type "code" := by
      split at z1
      · rw [eq_of_beq z1]
      · cases z1
    have e2 : vs[11]? = some (.ref P) := by
      split at z2
      · rename_i q; rw [q, eq_of_beq z2]
      · cases z2
    have e3 : vs.getD 11 .none = .ref P := by
      split at z3
      · rename_i q; rw [q, eq_of_beq z3]
      · cases z3
    have e4 : ∃ x t, vs.getD 18 .none = .str x t := by
      split at z4
      · rename_i q; exact ⟨_, _, q⟩
      · cases z4
    have e5 : ∃ x t, vs.getD 7 .none = .int x t := by
      split at z5
      · rename_i q; exact ⟨_, _, q⟩
      · cases z5
    have e6 : ∃ x, vs.getD 9 .none = .bool x := by
      split at z6
      · rename_i q; exact ⟨_, q⟩
      · cases z6
    have e7 : ∃ x t, vs.getD 10 .none = .int x t := by
      split at z7
      · rename_i q; exact ⟨_, _, q⟩
      · cases z7
    obtain ⟨a1, a2, e4⟩ := e4
    obtain ⟨b1, b2, e5⟩ := e5
    obtain ⟨c1, e6⟩ := e6
    obtain ⟨d1, d2, e7⟩ := e7
    refine ⟨_, vs, a1, a2, b1, b2, c1, d1, d2, X _ _ lk, e1, rfl, e2, e3, e4, e5, e6, e7, ?_⟩
    intro q
    subst q
    simp at z8
  · cases z
/-! ### the head with tables of code objects -/
def tabOB (o : Option Obj) : Bool := match o with
  | some ⟨.none, none, .fields vs, sl⟩ => vs.size == 0 && sl.size == 0
  | _ => false
theorem tabOB_ok {o : Option Obj} (h : tabOB o = true) : o = some { cls := .none, data := .fields #[] } := by
  unfold tabOB at h
  split at h
  · rename_i vs sl
    obtain ⟨h1, h2⟩ := He.ba h
    have e1 : vs = #[] := Array.eq_empty_of_size_eq_zero (eq_of_beq h1)
    have e2 : sl = #[] := Array.eq_empty_of_size_eq_zero (eq_of_beq h2)
    rw [e1, e2]
  · cases h
open PySem.W He5 in
def obsTG (ts as : List Addr) (fa : List Ft) (fn : List He5.DefA) (g : Addr → Option Obj) : He.AlD := ((obsCG as fa fn g).1 && ts.all fun t => tabOB (g t), (obsCG as fa fn g).2)
def SaysT (ts : List Addr) (fa : List Ft) (fn : List He5.DefA) (h : Heap) : Prop := ∃ K : PySem.W.Frag, K.In h ∧ SaysB fa fn K ∧ ∀ t ∈ ts, h.get? t = some { cls := .none, data := .fields #[] }
open PySem.W He5 in
def hookT (ts as : List Addr) (fa : List Ft) (fn : List He5.DefA) : PySem.W.Hook where
  α := He.AlD
  obs := fun s => obsTG ts as fa fn s.heap.get?
  val := fun _ => He5.valA fn
  says := fun _ h => SaysT ts fa fn h
  of := fun _ s e => by
    have e1 : ((obsCG as fa fn s.heap.get?).1 && ts.all fun t => tabOB (s.heap.get? t)) = true := congrArg (fun z : He.AlD => z.1) e
    have e2 : (obsTG ts as fa fn s.heap.get?).2 = (He5.valA fn).2 := congrArg (fun z : He.AlD => z.2) e
    obtain ⟨h1, h2⟩ := He.ba e1
    refine ⟨He.frG s.heap.get? as, He.frG_in, ?_, fun t ht => tabOB_ok (List.all_eq_true.mp h2 t ht)⟩
    exact Prod.ext h1 e2
  keeps := fun _ _ _ ⟨K, hK, c, t⟩ k => ⟨K, PySem.W.Frag.In.keeps hK k, c, fun a ha => k _ _ (t a ha)⟩
theorem obsTG_eq {ts as : List Addr} {fa : List Ft} {fn : List He5.DefA} {g : Addr → Option Obj} {s : Shared} (h : ∀ a, g a = s.heap.get? a) : obsTG ts as fa fn g = (hookT ts as fa fn).obs s := by
  have e : g = s.heap.get? := funext h
  rw [e] <;> rfl
/-! ### the end of a law whose def holds lambdas -/
abbrev EmptyT (cs : List (Addr × Addr)) (H : Hp) : Prop := ∀ c ∈ cs, H c.2 = some (.tbl #[])
theorem law_endT {l : PySem.W.OpenLaw} {n k : Nat} {q : Program} {loose : List PySem.Str} {XP : (PySem.Str → Option Value) → Heap → Prop} {YP : World → Heap → Prop} {d : DefRec} {x : PySem.Str}
    (hn : l.most = some n) (hn2 : n ≤ sizeLine) (hdf : d.params.defaults = []) (room : Room k callerA)
    (F : ∀ (w : World) (mg : PySem.Str → Option Value) (fa : Addr) (h : Heap), YP w h → h.Ns mainGlobals mg → mg d.name = some (.ref fa) →
      ∃ (K : PySem.W.Frag) (fd : FuncData) (sp : Sp) (cs : List (Addr × Addr)), K.In h ∧ (∀ c ∈ cs, h.get? c.2 = some { cls := .none, data := .fields #[] } ∧ K.lookup c.2 = none ∧ PySem.W.CodeHd h c.1 c.2) ∧ (∀ (s : Shared) (u : Value), BindsTo s fd ⟨[u], []⟩ [(x, u)]) ∧
        (∀ (H : Hp) (a : Addr) (ns : List Int), ns.length ≤ n → EmptyT cs H → SqL K H a (ns.map V.int) → sp [.ref a] H (fun v _ => v = .bl true) fun _ _ _ => False) ∧
        ∀ base : Heap, K.In base → base.Ns mainGlobals mg → (∀ c ∈ cs, TabB base mg c.1 c.2) → FnG l.prog w K mg base CX0 k fa fd [x] sp) :
    PySem.W.WalkO q loose XP YP l.row.toRowW d [] (fun f vs => PySem.call f vs) := by
  refine Att.attach_call hn hdf ?_
  intro w s0 s1 mg mb fa o pm cd doc a vs ns G Y ho hd hcd hmg hobj hints hlen hgens
  obtain ⟨K, fd, sp, cs, inK, tabs, hbind, hsp, hF⟩ := F w mg fa _ Y G.T.g hmg
  have rv : Vals (ns.map V.int) vs := vals_ints hints
  have lenV := hints.length
  have small : ns.length ≤ sizeLine := Nat.le_trans hlen hn2
  let isTab : Addr → Prop := fun b => ∃ c ∈ cs, c.2 = b
  have tab_at : ∀ b, isTab b → s1.heap.get? b = some { cls := .none, data := .fields #[] } := by
    rintro b ⟨c, hc, rfl⟩
    exact (tabs c hc).1
  have script_no : ¬ isTab a := by
    intro z
    have e := tab_at a z
    rw [hobj] at e
    have e2 := congrArg Obj.data (Option.some.inj e)
    cases e2
  have main : ∀ H : Hp, EmptyT cs H → (∀ b, H b = none ∨ isTab b ∨ ∃ o xs, H b = some (.frz o (.lst xs))) → SqL K H a (ns.map V.int) → HOk l.prog w H s1.heap → (∀ b, H b ≠ none → b = a ∨ isTab b) → (H a ≠ none → K.lookup a = none) →
      codeAny (model l.prog w) callerA (.call (.ref fa) ⟨[.ref a], []⟩) (fun r s' => r = .ok (.ret (.bool true)) ∧ OldK s1.heap s'.heap ∧ s'.os = s1.os ∧ AllBare s'.gens) s1 := by
    intro H empty only hS hok only_a not_K
    have other : ∀ {b : Addr} {ob : Obj}, s1.heap.get? b = some ob → (∀ us n, ob.data ≠ .seq us n) → ob.data ≠ .fields #[] → H b = none := by
      intro b ob z d1 d2
      cases e : H b with
      | none => rfl
      | some u =>
        rcases only_a b (by rw [e]; intro y; cases y) with rfl | ht
        · rw [hobj] at z
          cases z
          exact absurd rfl (d1 _ _)
        · rw [tab_at b ht] at z
          cases z
          exact absurd rfl d2
    have see : ∀ {b : Addr} {ob : Obj}, s1.heap.get? b = some ob → H b = none → (hidT s1.heap H).get? b = some ob := fun z n => hidT_get z n
    have ns_in : ∀ {b : Addr} {m : PySem.Str → Option Value}, s1.heap.Ns b m → (hidT s1.heap H).Ns b m := by
      rintro b m ⟨ob, es, ep, z, dd, rest⟩
      refine ⟨ob, es, ep, see z (other z ?_ ?_), dd, rest⟩
      · intro us n y
        rw [dd] at y
        cases y
      · intro y
        rw [dd] at y
        cases y
    have K_in : K.In (hidT s1.heap H) := by
      intro b ob z
      refine see (inK b ob z) ?_
      cases e : H b with
      | none => rfl
      | some u =>
        rcases only_a b (by rw [e]; intro y; cases y) with rfl | ⟨c, hc, rfl⟩
        · rw [not_K (by rw [e]; intro y; cases y)] at z
          cases z
        · rw [(tabs c hc).2.1] at z
          cases z
    have modu : Mod K mg (hidT s1.heap H) := by
      obtain ⟨mc, c1, c2⟩ := G.T.nolimit
      exact ⟨K_in, ns_in G.T.g, ⟨mb, ns_in G.T.b, G.T.builtins⟩, ⟨mc, ns_in c1, c2⟩⟩
    have code_in : ∀ c ∈ cs, TabB (hidT s1.heap H) mg c.1 c.2 := by
      intro c hc
      obtain ⟨t1, t2, t3⟩ := tabs c hc
      refine ⟨?_, ?_, ?_⟩
      · obtain ⟨ob, us, file, tf, flags, tg, inF, text, tt, e1, e2, e3, e4, rest⟩ := t3
        refine ⟨ob, us, file, tf, flags, tg, inF, text, tt, see e1 (other e1 ?_ ?_), e2, e3, e4, rest⟩
        · intro vs n y
          rw [e3] at y
          cases y
        · intro y
          rw [e3] at y
          cases y
          simp at e4
      · obtain ⟨bm, ob, b1, b2, b3, b4, b5, b6⟩ := G.T.bmain
        refine ⟨bm, ob, b1, b2, ?_, ?_, see b3 (other b3 ?_ ?_), b4, b5, b6⟩
        · rintro rfl
          obtain ⟨og, es, ep, e, hdg, _⟩ := G.T.g
          rw [e] at b3
          cases b3
          rw [hdg] at b6
          cases b6
        · intro y
          rw [y, t1] at b3
          cases b3
          cases b6
        · intro us n y
          rw [b6] at y
          cases y
        · intro y
          rw [b6] at y
          cases y
      · intro y
        obtain ⟨og, es, ep, e, hdg, _⟩ := G.T.g
        rw [y, t1] at e
        cases e
        cases hdg
    have env : Env0 l.prog w K mg (hidT s1.heap H) callerA [] s1 H :=
      ⟨rfl, modu, fun b ob z => of_hidT z, Nat.le_of_eq (hidT_size _ _), trivial, fun b z => absurd z List.not_mem_nil, hok, .of_eq hgens⟩
    have go := (hF _ K_in (ns_in G.T.g) code_in).run callerA [] s1 H ⟨[.ref a], []⟩ [.ref a] [.ref a] _ _ room rfl env (hbind s1 (.ref a)) (.cons rfl .nil) (hsp H a ns hlen empty hS)
    refine codeAny_mono go ?_
    intro res s' h
    cases res with
    | error e => exact h.elim
    | ok fl =>
      cases fl with
      | next => exact h.elim
      | brk => exact h.elim
      | cont => exact h.elim
      | ret u =>
        obtain ⟨v, H', os, bare, un, hok', rel, isTrue⟩ := h
        have isTrue : v = .bl true := isTrue
        subst isTrue
        have hu : u = Value.bool true := rel
        subst hu
        have kept : ∀ b ob, ¬ isTab b → s1.heap.get? b = some ob → s'.heap.get? b = some ob := by
          intro b ob nt z
          rcases only b with n0 | ht | ⟨o2, xs, fz⟩
          · exact un.keep b ob z n0 List.not_mem_nil List.not_mem_nil
          · exact absurd ht nt
          · have after := un.frzs b o2 _ fz
            have h1 := (hok b _ fz).1
            have h2 := (hok' b _ after).1
            rw [z] at h1
            cases h1
            exact h2
        have longer : ∀ c ∈ cs, ∃ more : Array Value, s'.heap.get? c.2 = some { cls := .none, data := .fields more } := by
          intro c hc
          obtain ⟨more, z⟩ := un.tbls c.2 #[] (empty c hc)
          exact ⟨_, hok' c.2 _ z⟩
        refine ⟨rfl, ⟨?_, ?_⟩, os, bare⟩
        · intro b ob z
          by_cases ht : isTab b
          · obtain ⟨c, hc, rfl⟩ := ht
            obtain ⟨more, hm⟩ := longer c hc
            have t := tabs c hc
            rw [t.1] at z
            cases z
            refine .inr (.inl ⟨(t.2.2.tab t.1).isCodeTable, rfl, #[], more, rfl, ?_⟩)
            rw [Array.empty_append]
            exact hm
          · exact .inl (kept b ob ht z)
        · intro b ob z
          by_cases ht : isTab b
          · obtain ⟨c, hc, rfl⟩ := ht
            obtain ⟨more, hm⟩ := longer c hc
            exact ⟨_, hm⟩
          · exact ⟨ob, kept b ob ht z⟩
  haveI dec : DecidablePred isTab := fun b => Classical.propDecidable _
  by_cases hK : ∃ ok, K.lookup a = some ok
  · obtain ⟨ok, hk⟩ := hK
    have e := inK a ok hk
    rw [hobj] at e
    cases e
    let H0 : Hp := fun b => if isTab b then some (.tbl #[]) else none
    have on : ∀ {b}, isTab b → H0 b = some (.tbl #[]) := fun hb => if_pos hb
    have off : ∀ {b}, ¬ isTab b → H0 b = none := fun hb => if_neg hb
    refine main H0 (fun c hc => on ⟨c, hc, rfl⟩) (fun b => ?_) (Or.inr ⟨_, vs.toArray, _, hk, rfl, rfl, rfl, ?_, ?_⟩) (fun b u z => ?_) (fun b z => ?_) (fun z => absurd (off script_no) z)
    · by_cases hb : isTab b
      · exact .inr (.inl hb)
      · exact .inl (off hb)
    · rw [List.size_toArray, lenV]
      exact small
    · simpa using rv
    · by_cases hb : isTab b
      · rw [on hb] at z
        cases z
        exact tab_at b hb
      · rw [off hb] at z
        cases z
    · by_cases hb : isTab b
      · exact .inr hb
      · exact absurd (off hb) z
  · have hk : K.lookup a = none := by
      cases e : K.lookup a with
      | none => rfl
      | some ok => exact absurd ⟨ok, e⟩ hK
    let ob : Obj := { cls := .type "list", data := .seq vs.toArray }
    let H0 : Hp := fun b => if b = a then some (.frz ob (.lst (ns.map V.int))) else if isTab b then some (.tbl #[]) else none
    have at_a : H0 a = some (.frz ob (.lst (ns.map V.int))) := if_pos rfl
    have on : ∀ {b}, isTab b → H0 b = some (.tbl #[]) := by
      intro b hb
      have ne : ¬ b = a := by rintro rfl; exact script_no hb
      exact (if_neg ne).trans (if_pos hb)
    have off : ∀ {b}, b ≠ a → ¬ isTab b → H0 b = none := fun h1 h2 => (if_neg h1).trans (if_neg h2)
    refine main H0 (fun c hc => on ⟨c, hc, rfl⟩) (fun b => ?_) (Or.inl (Or.inr ⟨ob, at_a⟩)) (fun b u z => ?_) (fun b z => ?_) (fun _ => hk)
    · by_cases hb : b = a
      · exact .inr (.inr ⟨ob, _, by rw [hb]; exact at_a⟩)
      · by_cases ht : isTab b
        · exact .inr (.inl ht)
        · exact .inl (off hb ht)
    · by_cases hb : b = a
      · subst hb
        rw [at_a] at z
        cases z
        exact ⟨hobj, by rw [List.length_map]; exact small, vs, _, rv, hobj⟩
      · by_cases ht : isTab b
        · rw [on ht] at z
          cases z
          exact tab_at b ht
        · rw [off hb ht] at z
          cases z
    · by_cases hb : b = a
      · exact .inl hb
      · by_cases ht : isTab b
        · exact .inr ht
        · exact absurd (off hb ht) z
end Ech

set_option maxHeartbeats 0
namespace k03
open PySem PySem.Spec PyProof.Rows L2 Ech
open He (ga ma)
open He5 (wf wrapB)
def topS (i : Nat) : Stmt := PySem.Challenge.pw_echofold_k03_tables_composed_added_turne.main.body.getD i (.Pass ⟨0, 0, 0, 0⟩)
abbrev s_is_integer : Stmt := topS 5
abbrev s_is_list : Stmt := topS 6
abbrev s_is_price : Stmt := topS 7
abbrev s_sum_two : Stmt := topS 8
abbrev s_is_less : Stmt := topS 9
abbrev s_least_of : Stmt := topS 10
abbrev s_number_in : Stmt := topS 11
abbrev s_InvalidTable_init : Stmt := inClass (topS 13) 0
abbrev s_InvalidNumber_init : Stmt := inClass (topS 14) 0
abbrev s_InvalidText_init : Stmt := inClass (topS 15) 0
abbrev s_OtherLetters_init : Stmt := inClass (topS 16) 0
abbrev s_are_rows : Stmt := topS 20
abbrev s_need_letters : Stmt := topS 21
abbrev s_need_like : Stmt := topS 22
abbrev s_price_in : Stmt := topS 23
abbrev s_Table_init : Stmt := inClass (topS 24) 2
abbrev s_Table_pairs : Stmt := inClass (topS 24) 5
abbrev s_Table_read : Stmt := inClass (topS 24) 6
abbrev s_Table_rows : Stmt := inClass (topS 24) 7
abbrev s_Table_letters : Stmt := inClass (topS 24) 8
abbrev s_Table_text : Stmt := inClass (topS 24) 9
abbrev s_Table_price : Stmt := inClass (topS 24) 10
abbrev s_Table_eq : Stmt := inClass (topS 24) 12
abbrev s_Table_mul : Stmt := inClass (topS 24) 13
abbrev s_Table_add : Stmt := inClass (topS 24) 14
abbrev s_Table_or : Stmt := inClass (topS 24) 15
abbrev s_Table_neg : Stmt := inClass (topS 24) 16
abbrev s__law_pen : Stmt := topS 26
abbrev s__law_draw : Stmt := topS 27
abbrev s__law_wide : Stmt := topS 28
abbrev s__law_price : Stmt := topS 29
abbrev s__law_rows : Stmt := topS 30
abbrev s__law_sum : Stmt := topS 31
abbrev s__law_least : Stmt := topS 32
abbrev s__law_composed : Stmt := topS 33
abbrev s__law_turned : Stmt := topS 34
abbrev s__law_plain : Stmt := topS 35
abbrev s__law_refused : Stmt := topS 36
abbrev s__law_alone_right : Stmt := topS 37
abbrev s_law : Stmt := topS 38
def d_is_integer : He5.DefA := ⟨fun K => ga K "is_integer", "is_integer", "is_integer", defArgs s_is_integer, defBody s_is_integer, defScope s_is_integer, [.non, .non], []⟩
def d_is_list : He5.DefA := ⟨fun K => ga K "is_list", "is_list", "is_list", defArgs s_is_list, defBody s_is_list, defScope s_is_list, [], []⟩
def d_is_price : He5.DefA := ⟨fun K => ga K "is_price", "is_price", "is_price", defArgs s_is_price, defBody s_is_price, defScope s_is_price, [], []⟩
def d_sum_two : He5.DefA := ⟨fun K => ga K "sum_two", "sum_two", "sum_two", defArgs s_sum_two, defBody s_sum_two, defScope s_sum_two, [], []⟩
def d_is_less : He5.DefA := ⟨fun K => ga K "is_less", "is_less", "is_less", defArgs s_is_less, defBody s_is_less, defScope s_is_less, [], []⟩
def d_least_of : He5.DefA := ⟨fun K => ga K "least_of", "least_of", "least_of", defArgs s_least_of, defBody s_least_of, defScope s_least_of, [], []⟩
def d_number_in : He5.DefA := ⟨fun K => ga K "number_in", "number_in", "number_in", defArgs s_number_in, defBody s_number_in, defScope s_number_in, [], []⟩
def d_InvalidTable_init : He5.DefA := ⟨fun K => ma K (ga K "InvalidTable") "__init__", "__init__", "InvalidTable.__init__", defArgs s_InvalidTable_init, defBody s_InvalidTable_init, defScope s_InvalidTable_init, [], []⟩
def d_InvalidNumber_init : He5.DefA := ⟨fun K => ma K (ga K "InvalidNumber") "__init__", "__init__", "InvalidNumber.__init__", defArgs s_InvalidNumber_init, defBody s_InvalidNumber_init, defScope s_InvalidNumber_init, [], []⟩
def d_InvalidText_init : He5.DefA := ⟨fun K => ma K (ga K "InvalidText") "__init__", "__init__", "InvalidText.__init__", defArgs s_InvalidText_init, defBody s_InvalidText_init, defScope s_InvalidText_init, [], []⟩
def d_OtherLetters_init : He5.DefA := ⟨fun K => ma K (ga K "OtherLetters") "__init__", "__init__", "OtherLetters.__init__", defArgs s_OtherLetters_init, defBody s_OtherLetters_init, defScope s_OtherLetters_init, [], []⟩
def d_are_rows : He5.DefA := ⟨fun K => ga K "are_rows", "are_rows", "are_rows", defArgs s_are_rows, defBody s_are_rows, defScope s_are_rows, [], []⟩
def d_need_letters : He5.DefA := ⟨fun K => ga K "need_letters", "need_letters", "need_letters", defArgs s_need_letters, defBody s_need_letters, defScope s_need_letters, [], []⟩
def d_need_like : He5.DefA := ⟨fun K => ga K "need_like", "need_like", "need_like", defArgs s_need_like, defBody s_need_like, defScope s_need_like, [], []⟩
def d_price_in : He5.DefA := ⟨fun K => ga K "price_in", "price_in", "price_in", defArgs s_price_in, defBody s_price_in, defScope s_price_in, [], []⟩
def d_Table_init : He5.DefA := ⟨fun K => ma K (ga K "Table") "__init__", "__init__", "Table.__init__", defArgs s_Table_init, defBody s_Table_init, defScope s_Table_init, [], []⟩
def d_Table_pairs : He5.DefA := ⟨fun K => wf K (ga K "Table") "classmethod" "pairs", "pairs", "Table.pairs", defArgs s_Table_pairs, defBody s_Table_pairs, defScope s_Table_pairs, [], []⟩
def d_Table_read : He5.DefA := ⟨fun K => wf K (ga K "Table") "staticmethod" "read", "read", "Table.read", defArgs s_Table_read, defBody s_Table_read, defScope s_Table_read, [], []⟩
def d_Table_rows : He5.DefA := ⟨fun K => wf K (ga K "Table") "property" "rows", "rows", "Table.rows", defArgs s_Table_rows, defBody s_Table_rows, defScope s_Table_rows, [], []⟩
def d_Table_letters : He5.DefA := ⟨fun K => wf K (ga K "Table") "property" "letters", "letters", "Table.letters", defArgs s_Table_letters, defBody s_Table_letters, defScope s_Table_letters, [], []⟩
def d_Table_text : He5.DefA := ⟨fun K => wf K (ga K "Table") "property" "text", "text", "Table.text", defArgs s_Table_text, defBody s_Table_text, defScope s_Table_text, [], []⟩
def d_Table_price : He5.DefA := ⟨fun K => ma K (ga K "Table") "price", "price", "Table.price", defArgs s_Table_price, defBody s_Table_price, defScope s_Table_price, [], []⟩
def d_Table_eq : He5.DefA := ⟨fun K => ma K (ga K "Table") "__eq__", "__eq__", "Table.__eq__", defArgs s_Table_eq, defBody s_Table_eq, defScope s_Table_eq, [], []⟩
def d_Table_mul : He5.DefA := ⟨fun K => ma K (ga K "Table") "__mul__", "__mul__", "Table.__mul__", defArgs s_Table_mul, defBody s_Table_mul, defScope s_Table_mul, [], []⟩
def d_Table_add : He5.DefA := ⟨fun K => ma K (ga K "Table") "__add__", "__add__", "Table.__add__", defArgs s_Table_add, defBody s_Table_add, defScope s_Table_add, [], []⟩
def d_Table_or : He5.DefA := ⟨fun K => ma K (ga K "Table") "__or__", "__or__", "Table.__or__", defArgs s_Table_or, defBody s_Table_or, defScope s_Table_or, [], []⟩
def d_Table_neg : He5.DefA := ⟨fun K => ma K (ga K "Table") "__neg__", "__neg__", "Table.__neg__", defArgs s_Table_neg, defBody s_Table_neg, defScope s_Table_neg, [], []⟩
def d__law_pen : He5.DefA := ⟨fun K => ga K "_law_pen", "_law_pen", "_law_pen", defArgs s__law_pen, defBody s__law_pen, defScope s__law_pen, [], []⟩
def d__law_draw : He5.DefA := ⟨fun K => ga K "_law_draw", "_law_draw", "_law_draw", defArgs s__law_draw, defBody s__law_draw, defScope s__law_draw, [], []⟩
def d__law_wide : He5.DefA := ⟨fun K => ga K "_law_wide", "_law_wide", "_law_wide", defArgs s__law_wide, defBody s__law_wide, defScope s__law_wide, [], []⟩
def d__law_price : He5.DefA := ⟨fun K => ga K "_law_price", "_law_price", "_law_price", defArgs s__law_price, defBody s__law_price, defScope s__law_price, [], []⟩
def d__law_rows : He5.DefA := ⟨fun K => ga K "_law_rows", "_law_rows", "_law_rows", defArgs s__law_rows, defBody s__law_rows, defScope s__law_rows, [], []⟩
def d__law_sum : He5.DefA := ⟨fun K => ga K "_law_sum", "_law_sum", "_law_sum", defArgs s__law_sum, defBody s__law_sum, defScope s__law_sum, [], []⟩
def d__law_least : He5.DefA := ⟨fun K => ga K "_law_least", "_law_least", "_law_least", defArgs s__law_least, defBody s__law_least, defScope s__law_least, [], []⟩
def d__law_composed : He5.DefA := ⟨fun K => ga K "_law_composed", "_law_composed", "_law_composed", defArgs s__law_composed, defBody s__law_composed, defScope s__law_composed, [], []⟩
def d__law_turned : He5.DefA := ⟨fun K => ga K "_law_turned", "_law_turned", "_law_turned", defArgs s__law_turned, defBody s__law_turned, defScope s__law_turned, [], []⟩
def d__law_plain : He5.DefA := ⟨fun K => ga K "_law_plain", "_law_plain", "_law_plain", defArgs s__law_plain, defBody s__law_plain, defScope s__law_plain, [], []⟩
def d__law_refused : He5.DefA := ⟨fun K => ga K "_law_refused", "_law_refused", "_law_refused", defArgs s__law_refused, defBody s__law_refused, defScope s__law_refused, [], []⟩
def d__law_alone_right : He5.DefA := ⟨fun K => ga K "_law_alone_right", "_law_alone_right", "_law_alone_right", defArgs s__law_alone_right, defBody s__law_alone_right, defScope s__law_alone_right, [], []⟩
def d_law : He5.DefA := ⟨fun K => ga K "law", "law", "law", defArgs s_law, defBody s_law, defScope s_law, [], []⟩
def fa0 : List Ft := [fun K => (He.Fa.glo "_wall").ok K,
  fun K => (He.Fa.glo "is_integer").ok K,
  fun K => (He.Fa.glo "is_list").ok K,
  fun K => (He.Fa.glo "is_price").ok K,
  fun K => (He.Fa.glo "sum_two").ok K,
  fun K => (He.Fa.glo "is_less").ok K,
  fun K => (He.Fa.glo "least_of").ok K,
  fun K => (He.Fa.glo "number_in").ok K,
  fun K => (He.Fa.glo "are_rows").ok K,
  fun K => (He.Fa.glo "need_letters").ok K,
  fun K => (He.Fa.glo "need_like").ok K,
  fun K => (He.Fa.glo "price_in").ok K,
  fun K => (He.Fa.glo "_law_pen").ok K,
  fun K => (He.Fa.glo "_law_draw").ok K,
  fun K => (He.Fa.glo "_law_wide").ok K,
  fun K => (He.Fa.glo "_law_price").ok K,
  fun K => (He.Fa.glo "_law_rows").ok K,
  fun K => (He.Fa.glo "_law_sum").ok K,
  fun K => (He.Fa.glo "_law_least").ok K,
  fun K => (He.Fa.glo "_law_composed").ok K,
  fun K => (He.Fa.glo "_law_turned").ok K,
  fun K => (He.Fa.glo "_law_plain").ok K,
  fun K => (He.Fa.glo "_law_refused").ok K,
  fun K => (He.Fa.glo "_law_alone_right").ok K,
  fun K => (He.Fa.glo "law").ok K,
  fun K => (He.Fa.glo "InvalidTable").ok K,
  fun K => (He.Fa.glo "InvalidNumber").ok K,
  fun K => (He.Fa.glo "InvalidText").ok K,
  fun K => (He.Fa.glo "OtherLetters").ok K,
  fun K => (He.Fa.glo "Table").ok K]
def fa1 : List Ft := [fun K => (He.Fa.int "MAX_LETTERS" 5).ok K,
  fun K => (He.Fa.int "MAX_DIGITS" 60).ok K,
  fun K => (He.Fa.str "DIGITS" "0123456789").ok K,
  fun K => (He.Fa.str "BETWEEN_ROWS" " / ").ok K,
  fun K => (He.Fa.str "BARRED" "-").ok K,
  fun K => (He.Fa.free "isinstance").ok K,
  fun K => (He.Fa.free "int").ok K,
  fun K => (He.Fa.free "bool").ok K,
  fun K => (He.Fa.free "list").ok K,
  fun K => (He.Fa.free "tuple").ok K,
  fun K => (He.Fa.free "str").ok K,
  fun K => (He.Fa.free "len").ok K,
  fun K => (He.Fa.free "all").ok K,
  fun K => (He.Fa.free "range").ok K,
  fun K => (He.Fa.free "zip").ok K,
  fun K => (He.Fa.free "min").ok K,
  fun K => (He.Fa.free "abs").ok K,
  fun K => (He.Fa.free "repr").ok K,
  fun K => (He.Fa.free "ValueError").ok K,
  fun K => (He.Fa.free "property").ok K,
  fun K => (He.Fa.free "classmethod").ok K,
  fun K => (He.Fa.free "staticmethod").ok K,
  fun K => (He.Fa.cls "Table").ok K,
  fun K => (He.Fa.mkr "Table").ok K,
  fun K => Ech.insB K (ga K "Table"),
  fun K => (He.Fa.noat "Table" "entries").ok K,
  fun K => PySem.W.selfFirst K (ga K "Table"),
  fun K => neB K (ga K "Table"),
  fun K => crdB K (ga K "Table"),
  fun K => conB K (ga K "Table") "MOST_LETTERS" 5]
def fa2 : List Ft := [fun K => conB K (ga K "Table") "MOST_TIMES" 1000000000000000000000000000000,
  fun K => (He.Fa.meth "Table" "__init__").ok K,
  fun K => PySem.W.fnIn K (wf K (ga K "Table") "classmethod" "likeness"),
  fun K => wrapB K (ga K "Table") "classmethod" "classmethod.__get__" "likeness",
  fun K => PySem.W.fnIn K (wf K (ga K "Table") "classmethod" "silence"),
  fun K => wrapB K (ga K "Table") "classmethod" "classmethod.__get__" "silence",
  fun K => PySem.W.fnIn K (wf K (ga K "Table") "classmethod" "pairs"),
  fun K => wrapB K (ga K "Table") "classmethod" "classmethod.__get__" "pairs",
  fun K => wrapB K (ga K "Table") "staticmethod" "staticmethod.__get__" "read",
  fun K => Ech.propB K (ga K "Table") "rows",
  fun K => Ech.propB K (ga K "Table") "letters",
  fun K => Ech.propB K (ga K "Table") "text",
  fun K => (He.Fa.meth "Table" "price").ok K,
  fun K => (He.Fa.meth "Table" "again").ok K,
  fun K => (He.Fa.meth "Table" "__eq__").ok K,
  fun K => (He.Fa.meth "Table" "__mul__").ok K,
  fun K => (He.Fa.meth "Table" "__add__").ok K,
  fun K => (He.Fa.meth "Table" "__or__").ok K,
  fun K => (He.Fa.meth "Table" "__neg__").ok K,
  fun K => Ech.gerrB K (ga K "OtherLetters") "number" "ValueError" "ValueError.__new__" "ValueError.__init__" [.type "ValueError", .type "Exception", .type "BaseException", .type "object"],
  fun K => decide (PySem.W.kitOne K (.ref (ga K "OtherLetters")) (.ref (ga K "InvalidNumber")) = some false),
  fun K => decide (PySem.W.kitOne K (.type "NoneType") (.ref (ga K "Table")) = some false),
  fun K => decide (PySem.W.kitOne K (.type "bool") (.ref (ga K "Table")) = some false),
  fun K => decide (PySem.W.kitOne K (.type "int") (.ref (ga K "Table")) = some false),
  fun K => decide (PySem.W.kitOne K (.type "str") (.ref (ga K "Table")) = some false),
  fun K => decide (PySem.W.kitOne K (.type "list") (.ref (ga K "Table")) = some false),
  fun K => decide (PySem.W.kitOne K (.type "tuple") (.ref (ga K "Table")) = some false),
  fun K => decide (PySem.W.kitOne K (.type "dict") (.ref (ga K "Table")) = some false),
  fun K => codeB K (ga K "law") 375,
  fun K => codeHdB K 375 373]
def fa3 : List Ft := [fun K => (K.lookup 373).isNone]
def fa : List Ft := fa0 ++ fa1 ++ fa2 ++ fa3
def fn0 : List He5.DefA := [d_is_integer, d_is_list, d_is_price, d_sum_two, d_is_less, d_least_of, d_number_in, d_InvalidTable_init, d_InvalidNumber_init, d_InvalidText_init, d_OtherLetters_init, d_are_rows, d_need_letters, d_need_like, d_price_in, d_Table_init, d_Table_pairs, d_Table_read, d_Table_rows, d_Table_letters, d_Table_text, d_Table_price, d_Table_eq, d_Table_mul, d_Table_add, d_Table_or, d_Table_neg, d__law_pen, d__law_draw, d__law_wide]
def fn1 : List He5.DefA := [d__law_price, d__law_rows, d__law_sum, d__law_least, d__law_composed, d__law_turned, d__law_plain, d__law_refused, d__law_alone_right, d_law]
def fn : List He5.DefA := fn0 ++ fn1
def lo0 : List PySem.Str := ["_wall", "MAX_LETTERS", "MAX_DIGITS", "DIGITS", "is_integer", "is_list", "is_price", "sum_two", "is_less", "least_of", "number_in", "InvalidTable", "InvalidNumber", "InvalidText", "OtherLetters", "BETWEEN_ROWS", "BARRED", "are_rows", "need_letters", "need_like", "price_in", "Table", "_law_pen", "_law_draw", "_law_wide", "_law_price", "_law_rows", "_law_sum", "_law_least", "_law_composed"]
def lo1 : List PySem.Str := ["_law_turned", "_law_plain", "_law_refused", "_law_alone_right"]
def lo : List PySem.Str := lo0 ++ lo1
abbrev R : PySem.W.OpenRow := PySem.W.OpenLaw.row PySem.Challenge.rw_echofold_k03_tables_composed_added_turne
def as0 : List Addr := [3, 6, 4, 21, 29, 36, 43, 50, 57, 64, 69, 86, 106, 126, 146, 154, 161, 168, 175, 291, 302, 309, 316, 323, 328, 335, 342, 347, 352, 357, 364, 371, 376, 0, 20, 28, 22, 35, 42, 49, 56, 63, 68, 85, 105, 125, 145, 153, 160, 167, 174, 290, 301, 308, 315, 322, 327, 334, 341, 346]
def as1 : List Addr := [351, 356, 363, 370, 375, 15, 16, 17, 18, 19, 23, 24, 25, 26, 27, 30, 31, 32, 33, 34, 37, 38, 39, 40, 41, 44, 45, 46, 47, 48, 51, 52, 53, 54, 55, 58, 59, 60, 61, 62, 65, 66, 67, 83, 84, 87, 103, 104, 107, 123, 124, 127, 143, 144, 147, 150, 151, 152, 155, 156]
def as2 : List Addr := [157, 158, 159, 162, 163, 164, 165, 166, 169, 170, 171, 172, 173, 187, 196, 206, 214, 222, 231, 239, 245, 252, 259, 266, 271, 276, 281, 288, 289, 292, 293, 296, 297, 298, 299, 300, 303, 304, 305, 306, 307, 310, 311, 312, 313, 314, 317, 318, 319, 320, 321, 324, 325, 326, 329, 330, 331, 332, 333, 336]
def as3 : List Addr := [337, 338, 339, 340, 343, 344, 345, 348, 349, 350, 353, 354, 355, 358, 359, 360, 361, 362, 365, 366, 367, 368, 369, 372, 374, 82, 102, 122, 142, 186, 194, 195, 204, 205, 212, 213, 220, 221, 230, 238, 244, 251, 258, 265, 270, 275, 280, 287, 77, 78, 79, 80, 81, 97, 98, 99, 100, 101, 117, 118]
def as4 : List Addr := [119, 120, 121, 137, 138, 139, 140, 141, 183, 184, 185, 193, 197, 203, 207, 211, 215, 219, 223, 229, 237, 243, 246, 247, 248, 249, 250, 253, 254, 255, 256, 257, 260, 261, 262, 263, 264, 267, 268, 269, 272, 273, 274, 277, 278, 279, 282, 283, 284, 285, 286, 188, 189, 190, 191, 192, 198, 199, 200, 201]
def as5 : List Addr := [202, 208, 209, 210, 216, 217, 218, 224, 225, 226, 227, 228, 232, 233, 234, 235, 236, 240, 241, 242, 2]
def as_ : List Addr := as0 ++ (as1 ++ (as2 ++ (as3 ++ (as4 ++ (as5)))))
def ts_ : List Addr := [373]
abbrev hk : PySem.W.Hook := hookT ts_ as_ fa fn
def ob (s : PySem.W.SharedT) : He.AlD := obsTG ts_ as_ fa fn (HandSHeadRun.getT s)
theorem ob_eq (s : PySem.W.SharedT) : ob s = hk.obs s.abs := obsTG_eq (HandSHeadRun.getT_eq s)
theorem run (w : World) : HandSHeadRun.RunEq R (PySem.W.view R.prog [38]) hk ob 20000 lo w := by
  intro os
  kernel_rfl
end k03

/-! o.m() -/
namespace Ech
open PySem PySem.Spec PyProof.Rows L2
open He (ga ma)
end Ech

set_option maxHeartbeats 4000000
namespace Ech
open PySem PySem.Spec PyProof.Rows L2
open He (ga ma)
end Ech

set_option maxHeartbeats 1000000
namespace Ech
open PySem PySem.Spec PyProof.Rows L2
open He (ga ma)
open LamX (Tabs TabS TabB CodeO ExtN LamS lamEnv lamCx lam_start2 run_ofS)
/-! ### a lambda that is held as a value -/
def LamAt (env : Env) (params : Arguments) (body : Expr) (scope : Scope) (f : Addr) (H : Hp) : Prop := ∃ (c' : Addr) (pm ctv : Value), H f = some (.frz (PySem.W.kla_obj "<lambda>" (env.qual ++ "<lambda>") params body scope (cloFrom env.cells scope.names []) pm c' ctv) (.ext fun _ => True)) ∧ H c' = some (CodeO c' (env.qual ++ "<lambda>"))
theorem LamAt.up {env : Env} {params : Arguments} {body : Expr} {scope : Scope} {f : Addr} {H H' : Hp} (h : LamAt env params body scope f H) (x : Ex H H') : LamAt env params body scope f H' := by
  obtain ⟨c', pm, ctv, h1, h2⟩ := h
  exact ⟨c', pm, ctv, x _ _ h1, x _ _ h2⟩
/-! ### where a lambda stands in a body -/
def nstB (b : List Stmt) (i : Nat) : List Stmt := match b[i]? with
  | some (.For _ _ body _ _) => body
  | some (.If _ body _ _) => body
  | some (.While _ body _ _) => body
  | _ => []
def lamS (b : List Stmt) (i : Nat) : Expr := match b[i]? with
  | some (.Assign _ (.List [l] _) _) => l
  | some (.Expr (.Call _ [l] _ _) _) => l
  | _ => .Name "" default
def lamA : Expr → Arguments
  | .Lambda a _ _ _ => a
  | _ => ⟨[], [], none, [], [], none, []⟩
def lamB : Expr → Expr
  | .Lambda _ b _ _ => b
  | e => e
def lamC : Expr → Scope
  | .Lambda _ _ s _ => s
  | _ => default
def NoLam (o : Option HO) : Prop := (∀ ob u, o ≠ some (.frz ob u)) ∧ ∀ c q, o ≠ some (CodeO c q)
theorem noLam_lst {xs : List V} : NoLam (some (.lst xs)) := ⟨fun _ _ z => (by cases z), fun _ _ z => (by unfold CodeO at z; cases z)⟩
theorem noLam_tbl {ps : Array Value} : NoLam (some (.tbl ps)) := ⟨fun _ _ z => (by cases z), fun _ _ z => (by unfold CodeO at z; cases z)⟩
theorem LamAt.step {env : Env} {params : Arguments} {body : Expr} {scope : Scope} {f x : Addr} {H H' : Hp} (h : LamAt env params body scope f H) (k : ∀ b o, b ≠ x → H b = some o → H' b = some o) (n : NoLam (H x)) : LamAt env params body scope f H' := by
  obtain ⟨c', pm, ctv, h1, h2⟩ := h
  exact ⟨c', pm, ctv, k _ _ (fun z => n.1 _ _ (by rw [← z]; exact h1)) h1, k _ _ (fun z => n.2 _ _ (by rw [← z]; exact h2)) h2⟩
section
variable {X : Cx} {pins : List (Addr × Obj)} {σ : L2.St} {H : Hp} {s : Shared}
theorem lam_newT {T : List (Addr × PySem.Str)} {c P : Addr} {params : Arguments} {body : Expr} {scope : Scope} {pos : Pos} {E : Value → Shared → Prop} {Q : Value → Shared → Prop} (I : Inv X pins σ H s) (TB : TabB X.base X.mg c P) (code_is : X.env.code = .ref c)
    (inT : (P, X.env.qual ++ "<lambda>") ∈ T) (oneT : ∀ p ∈ T, p.1 = P → p.2 = X.env.qual ++ "<lambda>") (tabs : Tabs T H) (hdef : defaultsOf params X.env = ([], [])) (hfree : ∀ y ∈ scope.names, y.2 = .free → ∃ c, X.env.cells.lookup y.1 = some c)
    (then_ : ∀ (f : Addr) (H1 : Hp) (s' : Shared), Inv X pins σ H1 s' → (∀ b o, b ≠ P → H b = some o → H1 b = some o) → Tabs T H1 → H f = none → LamAt X.env params body scope f H1 → Q (.ref f) s') :
    wpAny (model X.prog X.w) X.A (eval (.Lambda params body scope pos) X.env) Q E s := by
  obtain ⟨ps, atP, three, each⟩ := tabs _ inT
  refine PySem.W.kla_eval hdef ?_
  have builtP : s.heap.BuiltinsAt X.mg P := TB.bm.keeps I.bk
  have objP : s.heap.get? P = some { cls := .none, data := .fields ps } := I.hok P _ atP
  have okF : ∀ {h : Heap} {f : Addr} {o : Obj} {H2 : Hp}, h.get? f = some o → ObjOk X.prog X.w H2 h f (.frz o (.ext fun _ => True)) := fun {h f o H2} e => ⟨e, trivial, ⟨o, e⟩, fun _ _ _ _ => trivial⟩
  cases found : codeAmong pos ps.toList with
  | some cv =>
    obtain ⟨c', rfl, code_at⟩ := each pos cv found
    refine PySem.W.kla_makeFunctionHit (mg := X.mg) (c := c) (P := P) (ps := ps) (closure_ok hfree) I.ok.glob (I.mod.glob.keeps I.bk) code_is (TB.code.keeps I.bk) objP three found builtP ?_
    intro ctv h' tk keep size
    have J := I.laid (t' := tk) (a := h'.objs.size) (o := .frz (PySem.W.kla_obj "<lambda>" (X.env.qual ++ "<lambda>") params body scope (cloFrom X.env.cells scope.names []) ((X.mg "__name__").getD .none) c' ctv) (.ext fun _ => True)) (h' := h'.push (PySem.W.kla_obj "<lambda>" (X.env.qual ++ "<lambda>") params body scope (cloFrom X.env.cells scope.names []) ((X.mg "__name__").getD .none) c' ctv)) (fun b o e => Heap.get?_push_of_some _ (keep b o e)) size (okF (Heap.get?_push_size _ rfl))
    have fresh : H h'.objs.size = none := I.hok.fresh size
    have ex : ∀ b o, H b = some o → upd H h'.objs.size (.frz (PySem.W.kla_obj "<lambda>" (X.env.qual ++ "<lambda>") params body scope (cloFrom X.env.cells scope.names []) ((X.mg "__name__").getD .none) c' ctv) (.ext fun _ => True)) b = some o := fun b o e => by
      rw [upd_ne (ne_of_none e fresh)]
      exact e
    refine then_ h'.objs.size _ _ J (fun b o _ e => ex b o e) (fun p hp => ?_) fresh ⟨c', _, ctv, upd_same, ex _ _ code_at⟩
    obtain ⟨ps', k1, k2, k3⟩ := tabs p hp
    exact ⟨ps', ex _ _ k1, k2, fun p' cv' among => by
      obtain ⟨c0, e1, e2⟩ := k3 p' cv' among
      exact ⟨c0, e1, ex _ _ e2⟩⟩
  | none =>
    refine PySem.W.kla_makeFunction (mg := X.mg) (c := c) (P := P) (ps := ps) (closure_ok hfree) I.ok.glob (I.mod.glob.keeps I.bk) code_is (TB.code.keeps I.bk) objP three found TB.gP builtP ?_
    intro c' ctv h' tk keep ge lt rec_ tab
    obtain ⟨c2, oc, vs, t, e2, oc_at, oc_data, oc_name⟩ := rec_
    cases e2
    have size : s.heap.objs.size ≤ h'.objs.size := by omega
    have none_c : H c' = none := I.hok.fresh ge
    have J0 := LamX.inv_table (t' := tk) (more := #[rawInt pos.line, rawInt pos.col, .ref c']) (h' := h') I atP
      (fun b o nb e => keep b o nb e) tab ge ⟨oc, vs, t, oc_at, oc_data, oc_name⟩
    have J := J0.laid (t' := tk) (a := h'.objs.size) (o := .frz (PySem.W.kla_obj "<lambda>" (X.env.qual ++ "<lambda>") params body scope (cloFrom X.env.cells scope.names []) ((X.mg "__name__").getD .none) c' ctv) (.ext fun _ => True)) (h' := h'.push (PySem.W.kla_obj "<lambda>" (X.env.qual ++ "<lambda>") params body scope (cloFrom X.env.cells scope.names []) ((X.mg "__name__").getD .none) c' ctv)) (fun b o e => Heap.get?_push_of_some _ e) (Nat.le_refl _) (okF (Heap.get?_push_size _ rfl))
    have fresh : H h'.objs.size = none := I.hok.fresh size
    have n1 : h'.objs.size ≠ c' := by omega
    have n2 : h'.objs.size ≠ P := Nat.ne_of_gt (Nat.lt_of_lt_of_le (Heap.lt_size objP) size)
    have stays0 : ∀ b o, b ≠ P → H b = some o → upd (upd H P (.tbl (ps ++ #[rawInt pos.line, rawInt pos.col, .ref c']))) c' (CodeO c' (X.env.qual ++ "<lambda>")) b = some o := by
      intro b o nb e
      rw [upd_ne (ne_of_none e none_c), upd_ne nb]
      exact e
    have stays : ∀ b o, b ≠ P → H b = some o → upd (upd (upd H P (.tbl (ps ++ #[rawInt pos.line, rawInt pos.col, .ref c']))) c' (CodeO c' (X.env.qual ++ "<lambda>"))) h'.objs.size (.frz (PySem.W.kla_obj "<lambda>" (X.env.qual ++ "<lambda>") params body scope (cloFrom X.env.cells scope.names []) ((X.mg "__name__").getD .none) c' ctv) (.ext fun _ => True)) b = some o := by
      intro b o nb e
      rw [upd_ne (ne_of_none e fresh)]
      exact stays0 b o nb e
    have longer : (ps ++ #[rawInt pos.line, rawInt pos.col, .ref c']).toList = ps.toList ++ [rawInt pos.line, rawInt pos.col, .ref c'] := by simp
    have code_ne : ∀ {b q}, H b = some (CodeO b q) → b ≠ P := by
      intro b q e z
      rw [z, atP] at e
      exact LamX.codeO_ne ps (Option.some.inj e).symm
    have code_c : upd (upd (upd H P (.tbl (ps ++ #[rawInt pos.line, rawInt pos.col, .ref c']))) c' (CodeO c' (X.env.qual ++ "<lambda>"))) h'.objs.size (.frz (PySem.W.kla_obj "<lambda>" (X.env.qual ++ "<lambda>") params body scope (cloFrom X.env.cells scope.names []) ((X.mg "__name__").getD .none) c' ctv) (.ext fun _ => True)) c' = some (CodeO c' (X.env.qual ++ "<lambda>")) := by
      rw [upd_ne n1.symm, upd_same]
    refine then_ h'.objs.size _ _ J stays ?_ fresh ⟨c', _, ctv, upd_same, code_c⟩
    intro p hp
    by_cases same : p.1 = P
    · rw [oneT p hp same, same]
      refine ⟨_, by rw [upd_ne n2.symm, upd_ne (ne_of_none atP none_c), upd_same], by rw [longer]; exact PySem.TriplesOk_snoc _ _ _ _ three, ?_⟩
      intro p' cv among
      rw [longer] at among
      rcases LamX.among_app _ three among with z | z
      · obtain ⟨c0, e1, e2⟩ := each p' cv z
        exact ⟨c0, e1, stays _ _ (code_ne e2) e2⟩
      · exact ⟨c', z, code_c⟩
    · obtain ⟨ps', k1, k2, k3⟩ := tabs p hp
      refine ⟨ps', stays _ _ same k1, k2, ?_⟩
      intro p' cv among
      obtain ⟨c0, e1, e2⟩ := k3 p' cv among
      exact ⟨c0, e1, stays _ _ (code_ne e2) e2⟩
end
def uLamN (T : List (Addr × PySem.Str)) (P : Addr) (L : Addr → Hp → Prop) : TE := fun σ H Q => Tabs T H ∧ ∀ f H1, (∀ b o, b ≠ P → H b = some o → H1 b = some o) → Tabs T H1 → H f = none → L f H1 → Q (.ref f) H1
section
variable {X : Cx}
theorem u_lamN {T : List (Addr × PySem.Str)} {c P : Addr} {params : Arguments} {body : Expr} {scope : Scope} {pos : Pos} (TB : TabB X.base X.mg c P) (hcode : X.env.code = .ref c) (hmT : (P, X.env.qual ++ "<lambda>") ∈ T) (hu : ∀ p ∈ T, p.1 = P → p.2 = X.env.qual ++ "<lambda>") (L : LamS X.env.scope scope) (hdef : defaultsOf params X.env = ([], [])) :
    PE X (.Lambda params body scope pos) (uLamN T P (LamAt X.env params body scope)) := by
  constructor
  rintro pins s σ H Q I ⟨tabs, q⟩
  exact lam_newT I TB hcode hmT hu tabs hdef (L.has I.ok) fun f H1 s' I1 k1 t1 n1 l1 => ⟨.ref f, H1, I1, rfl, q f H1 k1 t1 n1 l1⟩
end
section
variable {X : Cx} {pins : List (Addr × Obj)} {σ : L2.St} {H : Hp} {s : Shared}
theorem hand_okT {Ng : List PySem.Str} {x : PySem.Str} {sg : Scope} {g f c' : Addr} {cdg pm ctv : Value} {params : Arguments} {body : Expr} {scope : Scope} {k : Nat} {a : PySem.Str} {pn : List (Addr × Obj)} {xe : Value → Shared → Prop} {W : WX} {t : XK → TE} {p1 p2 : Pos}
    (I : Inv X pins σ H s) (L : LamS X.env.scope scope) (quiet : X.A.guards = some [])
    (at_f : H f = some (.frz (PySem.W.kla_obj "<lambda>" (X.env.qual ++ "<lambda>") params body scope (cloFrom X.env.cells scope.names []) pm c' ctv) (.ext fun _ => True)))
    (none_bound : bindArgs (PySem.W.kla_fn "<lambda>" (X.env.qual ++ "<lambda>") params body scope (cloFrom X.env.cells scope.names []) pm (.ref c') ctv) ⟨[], []⟩ = pure [])
    (tk : Takes ((inZ X Ng x sg g cdg s H).tr pn xe) W) (room : Room (k + 1) (X.A.deeper (envOfC x sg s.heap.objs.size g cdg)))
    (hbody : ∀ (A : Around) (outer : List Env) (s : Shared) (H : Hp) (E : XK), Room k (A.deeper (lamEnv X scope s.heap.objs.size f c')) → (A.deeper (lamEnv X scope s.heap.objs.size f c')).guards = some [] → PE (lamCx X A outer s H E scope f c') body (t E))
    (hN : Ng[0]? = some a) (hv : Vis sg a) (hd : (a == ("__debug__" : PySem.Str)) = false := by decide) (hcd : (a == ("__classdict__" : PySem.Str)) = false := by decide) :
    PE ((inZ X Ng x sg g cdg s H).tr pn xe) (.Call (.Name a p1) [] [] p2) (uHand f c' (X.env.qual ++ "<lambda>") (fun E H' Q' => t E σ H' Q') W) := by
  constructor
  intro pinsZ sZ σZ HZ Q IZ ⟨E, R, okE, okR, slot0, code_at, reading⟩
  have name := (pe_var (pos := p1) (i := 0) hN hv hd hcd).run pinsZ sZ σZ HZ (fun v H1 => v = .ref f ∧ H1 = HZ) IZ ⟨.ref f, slot_ok slot0, rfl, rfl⟩
  refine wpAny_Call_Name_kw (thn name ?_)
  rintro u s1 ⟨v, H1, I1, rel, rfl, rfl⟩
  cases rel
  have here := (I1.hok f _ (I1.base.frzs f _ _ at_f)).1
  refine PySem.W.callWith_F0 ⟨_, _, _, _, here⟩ ?_
  have code := I1.hok c' _ code_at
  obtain ⟨⟨oc, vs, tq, oc_at, oc_data, oc_name⟩, _, _⟩ := code
  have grown : Un (frs X.stack) [] H H1 s.heap s1.heap := I1.base
  have runs : codeAny (model X.prog X.w) (X.A.deeper (envOfC x sg s.heap.objs.size g cdg)) (.call (.ref f) ⟨[], []⟩) (CR (L2.CX X.prog X.w) (envOfC x sg s.heap.objs.size g cdg :: X.stack) X.prog X.w H1 s1 R E) s1 := by
    refine PySem.W.kla_callFunE room.depth here rfl L.co L.gen rfl ⟨c', oc, vs, tq, rfl, oc_at, oc_data, oc_name⟩ ?_
    rw [none_bound]
    refine wpAny_pure (wpAny_newFunctionEnv (fun y hy => (L.own y hy).2) (fun y hy => absurd hy (by simp)) ?_ L.kind)
    intro h1 hns hsb
    refine ⟨I1.nolimit.fresh _ hsb, ?_⟩
    show codeAny _ _ (.expr body (lamEnv X scope s1.heap.objs.size f c')) _ _
    have stays : ∀ b o, s1.heap.get? b = some o → h1.get? b = some o := by
      intro b o e
      exact hsb.extBut b o (Nat.ne_of_lt (Heap.lt_size e)) (Heap.get?_push_of_some _ e)
    have J := lam_start2 (E := E) (f := f) (c' := c') (tk := s1.toks + ([] : List (PySem.Str × Value)).length) I L I1.env0 room.hd grown hns stays
    have quietL : ((X.A.deeper (envOfC x sg s.heap.objs.size g cdg)).deeper (lamEnv X scope s1.heap.objs.size f c')).guards = some [] := quiet
    refine PySem.W.kla_codeExpr (wpAny_mono ((hbody _ _ s1 H1 E (room.deeper _) quietL).run [] _ _ H1 R J reading) ?_ (fun _ _ z => z))
    rintro v s' ⟨w', H', J', rv, q⟩
    exact ⟨w', H', J'.os, J'.bare, J'.base, J'.hok, rv, q⟩
  refine wpAny_call (codeAny_mono runs ?_)
  intro r s' ended
  cases r with
  | error e => exact tk e s' (XE.of_call I1 okE ended)
  | ok fl =>
    cases fl with
    | ret u =>
      obtain ⟨v, H2, I2, r2, q2⟩ := I1.after ended
      exact ⟨v, H2, I2, r2, okR _ _ q2⟩
    | next => exact ended.elim
    | brk => exact ended.elim
    | cont => exact ended.elim
end
/-! ### x(f), f one of the lambdas of this frame -/
abbrev LamA := (Addr → Hp → Prop) × (XK → TE)
structure AltOk (X : Cx) (k : Nat) (a : LamA) : Prop where
  is : ∃ (params : Arguments) (body : Expr) (scope : Scope), a.1 = LamAt X.env params body scope ∧ LamS X.env.scope scope ∧ (∀ (q : PySem.Str) (cl : List (PySem.Str × Addr)) (pm cv ctv : Value), bindArgs (PySem.W.kla_fn "<lambda>" q params body scope cl pm cv ctv) ⟨[], []⟩ = pure []) ∧
    ∀ (A : Around) (outer : List Env) (s : Shared) (H : Hp) (E : XK) (f c' : Addr), Room k (A.deeper (lamEnv X scope s.heap.objs.size f c')) → (A.deeper (lamEnv X scope s.heap.objs.size f c')).guards = some [] → PE (lamCx X A outer s H E scope f c') body (a.2 E)
theorem alt_of {X : Cx} {k : Nat} {t : XK → TE} {params : Arguments} {body : Expr} {scope : Scope} (L : LamS X.env.scope scope) (hbind : ∀ (q : PySem.Str) (cl : List (PySem.Str × Addr)) (pm cv ctv : Value), bindArgs (PySem.W.kla_fn "<lambda>" q params body scope cl pm cv ctv) ⟨[], []⟩ = pure [])
    (hbody : ∀ (A : Around) (outer : List Env) (s : Shared) (H : Hp) (E : XK) (f c' : Addr), Room k (A.deeper (lamEnv X scope s.heap.objs.size f c')) → (A.deeper (lamEnv X scope s.heap.objs.size f c')).guards = some [] → PE (lamCx X A outer s H E scope f c') body (t E)) : AltOk X k (LamAt X.env params body scope, t) :=
  ⟨⟨params, body, scope, rfl, L, hbind, hbody⟩⟩
inductive AltsOk (X : Cx) (k : Nat) : List LamA → Prop where
  | nil : AltsOk X k []
  | cons {a : LamA} {l : List LamA} (h : AltOk X k a) (t : AltsOk X k l) : AltsOk X k (a :: l)
def altR (TT : (XK → Hp → VK → Prop) → Hp → VK → Prop) (σ : L2.St) (q : Addr) (H : Hp) (Q : VK) : List LamA → Prop
  | [] => False
  | a :: l => (a.1 q H ∧ TT (fun E H' Q' => a.2 E σ H' Q') H Q) ∨ altR TT σ q H Q l
theorem altR_some {X : Cx} {k : Nat} {TT : (XK → Hp → VK → Prop) → Hp → VK → Prop} {σ : L2.St} {q : Addr} {H : Hp} {Q : VK} : ∀ {l : List LamA}, AltsOk X k l → altR TT σ q H Q l → ∃ a : LamA, AltOk X k a ∧ a.1 q H ∧ TT (fun E H' Q' => a.2 E σ H' Q') H Q
  | _, .nil, h => h.elim
  | a :: _, .cons h t, r => by
    rcases r with ⟨h1, h2⟩ | r
    · exact ⟨a, h, h1, h2⟩
    · exact altR_some t r
section
variable {X : Cx}
end
/-! ### one object is changed, tables and pen stay -/
theorem Pen.step {K : PySem.W.Frag} {ku kr : PySem.Str} {G H H' : Hp} {p x : Addr} {b : Nat} (pn : Pen K ku kr G H p b) (k : ∀ b o, b ≠ x → H b = some o → H' b = some o) (ne : p ≠ x) : Pen K ku kr G H' p b := by
  obtain ⟨⟨kvs, c, ns, u, r, h1, h2, h3, h4, h5⟩, un⟩ := pn
  exact ⟨⟨kvs, c, ns, u, r, k _ _ ne h1, h2, h3, h4, h5⟩, un⟩
theorem Tb.step {T : List (Addr × PySem.Str)} {G H H' : Hp} {x : Addr} {xs : List V} (h : Tb T G H) (k : ∀ b o, b ≠ x → H b = some o → H' b = some o) (hx : H x = some (.lst xs)) : Tb T G H' := by
  refine ⟨fun t ht => ?_, h.un⟩
  obtain ⟨ps, e, e2, e3⟩ := h.tabs t ht
  refine ⟨ps, k _ _ (fun z => by rw [z, hx] at e; cases e) e, e2, fun pos cv hc => ?_⟩
  obtain ⟨c, q1, q2⟩ := e3 pos cv hc
  refine ⟨c, q1, k _ _ (fun z => ?_) q2⟩
  rw [z, hx] at q2
  unfold CodeO at q2
  cases q2
theorem Chg.keep {H H' : Hp} {p : Addr} {o : HO} (c : Chg H p o H') : ∀ b u, b ≠ p → H b = some u → H' b = some u := fun b u ne e => by
  rw [c.eq, upd_ne ne]
  exact e
end Ech

namespace Ech
open PySem PySem.Spec PyProof.Rows L2
open LamX (Tabs TabS TabB CodeO ExtN LamS lamEnv lamCx lam_start2 run_ofS)
/-! ### a comprehension whose test looks back at the frame that holds it -/
section
variable {X : Cx} {elt tg iter : Expr} {ifs : List Expr} {scope : Scope} {own : List (PySem.Str × Nat)}
def Back (X : Cx) (pins : List (Addr × Obj)) (σ : L2.St) (b : Shared) (Hb : Hp) (fp : List Addr) : Prop := Inv X pins σ Hb b ∧ ∀ z ∈ fp, FpOk X pins Hb z ∧ z < b.heap.objs.size
abbrev BackT (X : Cx) (scope : Scope) (ifs : List Expr) (σ : L2.St) (tt : TT) : Prop := ∀ (pins : List (Addr × Obj)) (b : Shared) (Hb : Hp) (C : Addr) (cl : List (PySem.Str × Addr)) (fp : List Addr), Back X pins σ b Hb fp → PTs (X.blk b Hb scope (compEnvC scope cl C X.env) fp) ifs tt
abbrev AllG (X : Cx) (scope : Scope) (tg : Expr) (g : TG) : Prop := ∀ (b : Shared) (Hb : Hp) (C : Addr) (cl : List (PySem.Str × Addr)) (fp : List Addr), PG (X.blk b Hb scope (compEnvC scope cl C X.env) fp) tg g
abbrev AllEx (X : Cx) (scope : Scope) (elt : Expr) (te : TE) : Prop := ∀ (b : Shared) (Hb : Hp) (C : Addr) (cl : List (PySem.Str × Addr)) (fp : List Addr), PE (X.blk b Hb scope (compEnvC scope cl C X.env) fp) elt te
theorem lcb_run {pins : List (Addr × Obj)} {s : Shared} {σ : L2.St} {H : Hp} {Q : VK} {pos pos' : Pos} {wi : TI} {g : TG} {tt : TT} {te : TE} (hc : X.calm = true) (nd : X.N.Nodup) (I : Inv X pins σ H s) (hi : PI X tg iter wi) (bok : BlkOk X.N X.env.scope scope own)
    (hg : AllG X scope tg g) (ht : BackT X scope ifs σ tt) (he : AllEx X scope elt te) (fold : ∀ x, foldedSetIterable iter X.env x = pure x) (h : tLc wi g tt te (own.map (·.2)) σ H Q) :
    wpAny (model X.prog X.w) X.A (comprehension (.ListComp elt [⟨tg, iter, ifs, 0⟩] scope pos) scope X.env pos' (newList []) false (eval iter X.env) none) (EP X pins σ Q) X.xe s := by
  have cells_at : ∀ y ∈ scope.names, y.2 = .free → ∃ c, X.env.cells.lookup y.1 = some c := fun y hy e => (bok.free y hy e).elim (fun k => I.ok.has _ (.inl k)) fun k => I.ok.has _ (.inr k)
  refine wpAny_comprehension_free (use := none) rfl fold (closure_ok cells_at) bok.kind (fun y hy e => by rw [bok.uniq y hy, e]) (thn (hi.run pins s σ H _ I h) fun xv sx hx => thn hx fun itv sa ha => ?_)
  obtain ⟨it, fp, tn, J, Ha, rfl, Ia, T, at0, free, more⟩ := ha
  refine wpAny_newObj_type (newEnv_comp ?_) (by show 0 ≤ sizeLine; decide)
  -- the list D that is filled
  obtain ⟨D, eD⟩ : ∃ D, D = sa.heap.objs.size := ⟨_, rfl⟩
  have Dn : Ha D = none := Ia.hok.fresh (Nat.le_of_eq eD.symm)
  obtain ⟨W, ⟨m0, w0⟩, turn⟩ := more D Dn
  obtain ⟨sb, esb⟩ : ∃ sb : Shared, sb = { sa with heap := sa.heap.push { cls := .type "list", data := .seq ([] : List Value).toArray } } := ⟨_, rfl⟩
  have hb : sb.heap = sa.heap.push { cls := .type "list", data := .seq ([] : List Value).toArray } := by rw [esb]
  have laid : ∀ {b o}, sa.heap.get? b = some o → sb.heap.get? b = some o := fun e => by rw [hb]; exact Heap.get?_push_of_some _ e
  obtain ⟨Hb, eHb⟩ : ∃ Hb, Hb = upd Ha D (.lst []) := ⟨_, rfl⟩
  have Ib : Inv X pins σ Hb sb := by
    rw [esb, eHb]
    exact Ia.laid (t' := sa.toks) (fun b o e => Heap.get?_push_of_some _ e) (Nat.le_of_eq eD.symm) ⟨Nat.zero_le _, [], 0, .nil, by rw [eD]; exact Heap.get?_push_size _ rfl⟩
  have fpb : ∀ z ∈ fp, FpOk X pins Hb z ∧ z < sb.heap.objs.size := fun z hz => by
    obtain ⟨o, e, _⟩ := T.obj _ _ at0 z hz
    have small := Heap.lt_size e
    refine ⟨⟨?_, (free z hz).2⟩, by rw [hb, Heap.size_push]; exact Nat.lt_succ_of_lt small⟩
    rw [eHb, upd_ne (by rw [eD]; exact Nat.ne_of_lt small)]
    exact (free z hz).1
  rw [← eHb] at w0
  have at1 : tn 0 sb.heap := T.keep _ _ _ at0 fun b _ o e => laid e
  have Ic := block_start Ib bok nd fpb
  rw [← eD, ← esb]
  obtain ⟨cl, ecl⟩ : ∃ cl, cl = cellsFrom (sb.heap.objs.size + 1) scope.names (cloFrom X.env.cells scope.names []) := ⟨_, rfl⟩
  rw [← ecl] at Ic
  have pg := hg sb Hb sb.heap.objs.size cl fp
  have pt := ht pins sb Hb sb.heap.objs.size cl fp ⟨Ib, fpb⟩
  have pe := he sb Hb sb.heap.objs.size cl fp
  obtain ⟨sc, esc⟩ : ∃ sc : Shared, sc = { sb with heap := pushCells (sb.heap.push { cls := .type "dict", data := .dict #[] }) scope.names } := ⟨_, rfl⟩
  rw [← esc] at Ic
  have at2 : tn 0 sc.heap := T.keep _ _ _ at1 fun b _ o e => by rw [esc]; exact pushCells_keeps _ _ _ _ (Heap.get?_push_of_some _ e)
  have none0 : ∀ z ∈ fp, Hb z = none := fun z hz => (fpb z hz).1.1
  obtain ⟨ce, ece⟩ : ∃ ce, ce = compEnvC scope cl sb.heap.objs.size X.env := ⟨_, rfl⟩
  have loc : ce.locals = sb.heap.objs.size := by rw [ece]; rfl
  rw [← ece] at Ic pg pt pe
  have fps : ∀ {σ' : L2.St} {H' : Hp} {s' : Shared}, Inv (X.blk sb Hb scope ce fp) [] σ' H' s' → (∀ z ∈ fp, H' z = none) → ∀ z ∈ fp, FpOk (X.blk sb Hb scope ce fp) [] H' z := fun I' hn z hz =>
    ⟨hn z hz, (I'.ok.exf z hz).1, I'.ok.exfs z hz, .inl hz, fun x c e => (I'.ok.exf z hz).2 x c e, fun p hp => absurd (show p ∈ ([] : List (Addr × Obj)) ++ [] from hp) (by simp)⟩
  have loop : codeAny (model X.prog X.w) X.A (.compLoop (.ListComp elt [⟨tg, iter, ifs, 0⟩] scope pos) 0 (.ref it) (.ref D) ce) (compPost (model X.prog X.w) X.A X.xe none (EP X pins σ Q) (.ref D) sb.heap.objs.size) sc := by
    refine compLoop_any (fun n s' => ∃ i H', Inv (X.blk sb Hb scope ce fp) [] (wipe σ (own.map (·.2))) H' s' ∧ tn i s'.heap ∧ (∀ z ∈ fp, H' z = none) ∧ W i n H') ?_ m0 ⟨0, Hb, Ic, at2, none0, w0⟩
    rintro n s1 ⟨i, H1, I1, at_i, no1, w1⟩
    rcases turn i n H1 w1 with ⟨stop, ends⟩ | ⟨go, Nx, less, step⟩
    · refine thnF (T.done (X.blk sb Hb scope ce fp) rfl rfl rfl hc i [] s1 _ H1 (fun _ _ => False) I1 (fps I1 no1) at_i stop) fun r s2 ⟨er, I2⟩ => ?_
      subst er
      have I3 : Inv X pins σ H1 s2 := Ib.call' (ch := fp) I2.os I2.base I2.hok I2.bare fun z hz => ⟨(fpb z hz).1.2.2.2.1, (fpb z hz).1.2.1, (fpb z hz).1.2.2.2.2.1, (fpb z hz).1.2.2.2.2.2⟩
      have noC : H1 sb.heap.objs.size = none := by
        have z : H1 ce.locals = none := I2.free
        rwa [loc] at z
      obtain ⟨m, hn, _⟩ := I2.loc
      have hn : s2.heap.Ns ce.locals m := hn
      rw [loc] at hn
      obtain ⟨f0, f1, f2, f3, f4, f5⟩ := Ib.fpOk (Nat.le_refl _) noC
      exact ⟨m, hn, fun h2 same => ⟨.ref D, H1, I3.turned (t' := s2.toks) (fun b o nb e => (same.2 b nb).trans e) f0 f1 f3 f4 f5, rfl, ends⟩⟩
    · refine thnF (T.item (X.blk sb Hb scope ce fp) rfl rfl rfl hc i [] s1 _ H1 (fun _ _ => False) I1 (fps I1 no1) at_i go) fun r s2 ⟨u, er, h2⟩ => ?_
      subst er
      refine thnF h2 fun _ s3 ⟨x, H3, I3, r3, y3, at3, no3⟩ => ?_
      have I3p := I3.pinned (fps I3 no3) (T.obj _ _ at3)
      refine thnF (pg.run _ s3 _ H3 x u _ I3p r3 (step x H3 y3)) fun _ s4 ⟨σ4, H4, I4, same4, q4⟩ => ?_
      refine thnF (pt.run _ s4 σ4 H4 _ I4 q4) fun c s5 ⟨H5, I5, q5⟩ => ?_
      have again : ∀ {s' : Shared} {H' : Hp}, Inv (X.blk sb Hb scope ce fp) ([] ++ pinsAt fp s3.heap) σ4 H' s' → Nx H' → ∃ m, m < n ∧ ∃ i H', Inv (X.blk sb Hb scope ce fp) [] (wipe σ (own.map (·.2))) H' s' ∧ tn i s'.heap ∧ (∀ z ∈ fp, H' z = none) ∧ W i m H' := fun {s' H'} I' nx => by
        obtain ⟨m', lt, w'⟩ := less H' nx
        have pinned : ∀ z ∈ fp, ∀ o, s3.heap.get? z = some o → s'.heap.get? z = some o ∧ H' z = none := fun z hz o e => by
          obtain ⟨p1, p2, _⟩ := I'.pin (z, o) (List.mem_append_right _ (List.mem_append_right _ (mem_pinsAt hz e)))
          exact ⟨p1, p2⟩
        refine ⟨m', lt, i + 1, H', (I'.unpinned (pins := [])).weak (by have := congrArg List.length same4; rw [wipe_length] at this; exact this.symm) (fun j v e => ?_), T.keep _ _ _ at3 fun z hz o e => (pinned z hz o e).1, fun z hz => ?_, w'⟩
        · rw [← same4] at e
          exact (wipe_some e).1
        · obtain ⟨o, e, _⟩ := T.obj _ _ at3 z hz
          exact (pinned z hz o e).2
      cases c with
      | false =>
        simp only [Bool.false_eq_true, if_false] at q5 ⊢
        exact again I5 q5
      | true =>
        simp only [if_true] at q5 ⊢
        refine thnF (pe.run _ s5 σ4 H5 _ I5 q5) fun v s6 ⟨y, H6, I6, r6, acc, hD, few, nx⟩ => ?_
        exact app_ok (X := X.blk sb Hb scope ce fp) I6 hD few r6 fun s7 I7 => again I7 nx
  have start := codeAny_compStart_list loop (T.self X.A 0 _ _ _ at2 loop)
  rw [ece, ecl, esc] at start
  exact start
end
def uLcB (w : TW) (g : TG) (tf : L2.St → TT) (te : TE) (vs : List Nat) : TE := fun σ H Q => w σ H (lcGo g (tf σ) te vs σ Q)
section
variable {X : Cx} {tg iter elt : Expr} {w : TW} {g : TG} {pos : Pos} {ifs : List Expr} {scope : Scope} {own : List (PySem.Str × Nat)} {tf : L2.St → TT} {te : TE}
theorem u_lcB (hc : X.calm = true) (nd : X.N.Nodup) (hi : PIU X tg iter w) (bok : BlkOk X.N X.env.scope scope own) (hg : AllG X scope tg g) (ht : ∀ σ, BackT X scope ifs σ (tf σ)) (he : AllEx X scope elt te) (fold : ∀ x, foldedSetIterable iter X.env x = pure x := by intro _; rfl) :
    PE X (.ListComp elt [⟨tg, iter, ifs, 0⟩] scope pos) (uLcB w g tf te (own.map (·.2))) := by
  refine ⟨fun pins s σ H Q I q => ?_⟩
  rw [eval_ListComp]
  exact lcb_run hc nd I hi.pi bok (fun b Hb C cl fp => pg_cl (hg b Hb C cl fp)) (fun pins b Hb C cl fp k => pts_cl (ht σ pins b Hb C cl fp k)) (fun b Hb C cl fp => pe_cl (he b Hb C cl fp)) fold (lc_cl (wi := fun _ _ _ => True) q)
end
def uLamCB (TT : (XK → Hp → VK → Prop) → Hp → VK → Prop) (te : TE) (σ0 : L2.St) (alts : List LamA) : TE := fun σ H Q => te σ H fun v H1 => match v with
  | .ref q => altR TT σ0 q H1 Q alts
  | _ => False
section
variable {X : Cx}
theorem u_lamCB {TT : (XK → Hp → VK → Prop) → Hp → VK → Prop} {x a : PySem.Str} {g : Addr} {k : Nat} {pg : Arguments} {bg : List Stmt} {sg : Scope} {Ng : List PySem.Str} {ex : Expr} {te : TE} {alts : List LamA} {p pos : Pos}
    {pins0 : List (Addr × Obj)} {σ0 : L2.St} {b : Shared} {Hb : Hp} {fp : List Addr} {bscope : Scope} {ce : Env} (bk : Back X pins0 σ0 b Hb fp)
    (quiet : X.A.guards = some []) (hg : Gl (X.blk b Hb bscope ce fp) x) (hm : X.mg x = some (.ref g)) (hk : PySem.W.keepIn X.K (.ref g) = true)
    (F : FunD X.K x x pg bg sg [] [] g (fdA X.K g)) (hb : Binds X.K (fdA X.K g) [a] []) (Sg : FnScope Ng [a] sg) (hNg : Ng[0]? = some a) (hva : Vis sg a)
    (give : ∀ cdg, GivesW X Ng x sg g cdg bg a (X.env.qual ++ "<lambda>") TT) (room : Room (k + 2) X.A) (alt : AltsOk X k alts) (ha : PE (X.blk b Hb bscope ce fp) ex te)
    (hns : starEach [ex] ce = (false, eval ex ce) :: starEach [] ce := by rfl)
    (hdb : (x == ("__debug__" : PySem.Str)) = false := by decide) (hd : (a == ("__debug__" : PySem.Str)) = false := by decide) (hcd : (a == ("__classdict__" : PySem.Str)) = false := by decide) :
    PE (X.blk b Hb bscope ce fp) (.Call (.Name x p) [ex] [] pos) (uLamCB TT te σ0 alts) := by
  obtain ⟨oc, od, dV, kV, doc, pm, an, cdv, ct, osl, hfd, lk, hcg, _, _⟩ := F.ex
  rw [hfd] at hb lk
  constructor
  rintro pins s σ H Q I h
  refine wpAny_Call_Name_kw (ld_glob I hg hm ?_ hdb)
  refine PySem.W.callWith_K (h₀ := X.base) I.ok.mod.kin hk ?_ hns (by rfl)
  show wpAny _ _ (spliced (backTo pos (starEach [ex] ce))) _ _ s
  rw [hns]
  show wpAny _ _ (spliced ((false, eval ex ce) :: backTo pos (starEach [] ce))) _ _ s
  refine Calls.spliced_cons (thn (ha.run pins s σ H _ I h) ?_)
  rintro u s' ⟨v, H1, I1, rel, q1⟩
  cases v with
  | ref f =>
    cases rel
    obtain ⟨al, ⟨params, body, scope, e1, L, hbind, hbody⟩, hl, got0⟩ := altR_some alt q1
    rw [e1] at hl
    obtain ⟨c', pm', ctv, at_f, code_at⟩ := hl
    have J : Inv X pins0 σ0 H1 s' := bk.1.call' (ch := fp) I1.os I1.base I1.hok I1.bare fun z hz => ⟨(bk.2 z hz).1.2.2.2.1, (bk.2 z hz).1.2.1, (bk.2 z hz).1.2.2.2.2.1, (bk.2 z hz).1.2.2.2.2.2⟩
    refine Calls.spliced_nil ⟨I1.kIn, ?_⟩
    have runs : codeAny (model X.prog X.w) X.A (.call (.ref g) ⟨[.ref f], []⟩) (CR C8.CX0 X.stack X.prog X.w H1 s' Q C8.E0) s' := by
      refine run_ofS (N := Ng) (ps := [a]) (us := [.ref f]) (vs := [.ref f]) lk hcg Sg room J.env0 (hb s' [.ref f] J.kIn rfl) (.cons rfl .nil) rfl ?_
      intro roomG
      obtain ⟨t', derive, got⟩ := give cdv f c' s' H1 Q (fun E H' Q' => al.2 E σ0 H' Q') (fun W pn xe p1 p2 tk => hand_okT J L quiet at_f (hbind _ _ _ _ _) tk roomG (fun A outer s H E hr hq => hbody A outer s H E f c' hr hq) hNg hva hd hcd) code_at got0
      exact ⟨t', derive.nox, got⟩
    refine wpAny_call (codeAny_mono runs ?_)
    intro r s2 ended
    cases r with
    | error e => exact (show False from ended).elim
    | ok fl =>
      cases fl with
      | ret u => exact I1.after ended
      | next => exact ended.elim
      | brk => exact ended.elim
      | cont => exact ended.elim
  | _ => exact q1.elim
end
end Ech

/-! a, b, c = l, l a list -/
namespace Ech
open PySem PySem.Spec PyProof.Rows L2
open He (ga ma)
section
variable {prog : Program} {w : World} {A : Around} {E : Value → Shared → Prop} {s : Shared}
end
end Ech

namespace Ech
open PySem PySem.Spec PyProof.Rows L2
open He (ga ma)

/-! ### what never changes, without the tables -/
def dropT (G : Hp) : Hp := fun b => match G b with
  | some (.tbl _) => none
  | o => o
theorem dropT_of {G : Hp} {b : Addr} {o : HO} (h : G b = some o) (n : ∀ ps, o ≠ .tbl ps) : dropT G b = some o := by
  unfold dropT
  rw [h]
  cases o with
  | tbl ps => exact absurd rfl (n ps)
  | _ => rfl
theorem dropT_ex {G : Hp} : Ex (dropT G) G := fun b o e => by
  unfold dropT at e
  cases h : G b with
  | none => rw [h] at e; cases e
  | some u =>
    rw [h] at e
    cases u with
    | tbl ps => cases e
    | _ => exact e
theorem dropT_sql {K : PySem.W.Frag} {G : Hp} {a : Addr} {xs : List V} (h : SqL K G a xs) : SqL K (dropT G) a xs := by
  rcases h with (h | ⟨o, h⟩) | h
  · exact .inl (.inl (dropT_of h (fun _ z => by cases z)))
  · exact .inl (.inr ⟨o, dropT_of h (fun _ z => by cases z)⟩)
  · exact .inr h
theorem Pen.dropT {K : PySem.W.Frag} {ku kr : PySem.Str} {G H : Hp} {p : Addr} {b : Nat} (h : Pen K ku kr G H p b) : Pen K ku kr (dropT G) H p b := by
  obtain ⟨⟨kvs, c, ns, u, r, h1, h2, h3, h4, h5⟩, un⟩ := h
  exact ⟨⟨kvs, c, ns, u, r, h1, h2, h3, dropT_sql h4, h5⟩, by unfold Ech.dropT; rw [un]⟩
theorem Tb.start {T : List (Addr × PySem.Str)} {G H H0 : Hp} (h : ∀ p ∈ T, H0 p.1 = some (.tbl #[])) (x : Ex H0 H) (g : Ex G H) : Tb T (dropT G) H := by
  refine ⟨fun p hp => LamX.TabS.nil (x _ _ (h p hp)), fun p hp => ?_⟩
  cases e : dropT G p.1 with
  | none => rfl
  | some o =>
    have e1 := g _ _ (dropT_ex _ _ e)
    rw [x _ _ (h p hp)] at e1
    cases e1
    unfold dropT at e
    split at e
    · cases e
    · rename_i n
      exact absurd e (fun e => n _ e)
/-! repr of a dict of ints -/
def IntKV (kv : Key × V) (w : Int × Int) : Prop := kv.1 = .inl w.1 ∧ kv.2 = .int w.2
def intD (ws : List (Int × Int)) : PyData := .dict (ws.map fun w => (PyData.int w.1, PyData.int w.2))
structure IntSm (ws : List (Int × Int)) : Prop where
  few : ws.length ≤ 60
  each : ∀ w ∈ ws, w.1.natAbs < 10 ^ 90 ∧ w.2.natAbs < 10 ^ 90
/-! ### values of any kind, with the text that repr makes of them -/
inductive AnyV (K : PySem.W.Frag) (H : Hp) : V → PySem.Str → Prop where
  | dat {v : V} {d : PyData} (h : Dp K H v d) (s : Shows d) : AnyV K H v d.shown
  | dct {a : Addr} (h : H a = some (.dK [])) : AnyV K H (.ref a) "{}"
  | dci {a : Addr} {kvs : List (Key × V)} {ws : List (Int × Int)} (h : H a = some (.dK kvs)) (p : Paired IntKV kvs ws) (m : IntSm ws) : AnyV K H (.ref a) (intD ws).shown
theorem AnyV.up {K : PySem.W.Frag} {H H' : Hp} {v : V} {s : PySem.Str} (x : Ex H H') (h : AnyV K H v s) : AnyV K H' v s := by
  cases h with
  | dat h s => exact .dat (dp_up x h) s
  | dct h => exact .dct (x _ _ h)
  | dci h p m => exact .dci (x _ _ h) p m
def isIv : V → Bool
  | .int _ => true
  | .bl _ => true
  | _ => false
def isBv : V → Bool
  | .bl _ => true
  | _ => false
theorem any_int {K : PySem.W.Frag} {H : Hp} {i : Int} (h : i.natAbs < 10 ^ 90) : AnyV K H (.int i) (PyData.int i).shown := .dat (.int i) ((sm_int h).shows (by decide) (by decide))
theorem any_non {K : PySem.W.Frag} {H : Hp} : AnyV K H .non PyData.none.shown := .dat .non (sm_non.shows (by decide) (by decide))
/-! ### x //= y -/
/-! ### a table composed of itself -/
/-! ### o.m(k = v, ..) -/
section
variable {X : Cx} {CX : CXT} {k : Nat} {f C : Addr} {fd : FuncData} {ps ks : List PySem.Str} {sp : Sp} {E : XK} {m : PySem.Str} {pos apos : Pos} {o : Expr} {kws : List Keyword} {ta : TE} {tk : TA} {is : List Nat}
end
end Ech

/-! values of any kind are no objects of an own class -/
namespace Ech
open PySem PySem.Spec PyProof.Rows L2
structure NoKin (K : PySem.W.Frag) (C : Addr) : Prop where
  none : PySem.W.kitOne K (.type "NoneType") (.ref C) = some false
  bool : PySem.W.kitOne K (.type "bool") (.ref C) = some false
  int : PySem.W.kitOne K (.type "int") (.ref C) = some false
  str : PySem.W.kitOne K (.type "str") (.ref C) = some false
  list : PySem.W.kitOne K (.type "list") (.ref C) = some false
  tuple : PySem.W.kitOne K (.type "tuple") (.ref C) = some false
  dict : PySem.W.kitOne K (.type "dict") (.ref C) = some false
theorem ty_tup {K : PySem.W.Frag} {H : Hp} {a : Addr} {xs : List V} (h : SqT K H a xs) : TyX K H (.ref a) (.type "tuple") := by
  rcases h with (h | ⟨o, h⟩) | ⟨o, its, m, h, hc, _⟩
  · exact .base (.tup h)
  · exact .fTuple h
  · exact .kTuple h hc
theorem ty_lst {K : PySem.W.Frag} {H : Hp} {a : Addr} {xs : List V} (h : SqL K H a xs) : TyX K H (.ref a) (.type "list") := by
  rcases h with (h | ⟨o, h⟩) | ⟨o, its, m, h, hc, _⟩
  · exact .base (.lst h)
  · exact .base (.frz h)
  · exact .kList h hc
theorem AnyV.own {K : PySem.W.Frag} {H : Hp} {v : V} {s : PySem.Str} (h : AnyV K H v s) {C : Addr} (k : NoKin K C) : ∃ t, TyX K H v t ∧ PySem.W.kitOne K t (.ref C) = some false := by
  cases h with
  | dct h => exact ⟨_, .base (.dK h), k.dict⟩
  | dci h _ _ => exact ⟨_, .base (.dK h), k.dict⟩
  | dat h s =>
    cases h with
    | non => exact ⟨_, .base .non, k.none⟩
    | bl b => exact ⟨_, .base (.bl b), k.bool⟩
    | int i => exact ⟨_, .base (.int i), k.int⟩
    | str x => exact ⟨_, .base (.str x), k.str⟩
    | lst h _ => exact ⟨_, ty_lst h, k.list⟩
    | tup h _ => exact ⟨_, ty_tup h, k.tuple⟩
theorem AnyV.not_own {K : PySem.W.Frag} {H : Hp} {v : V} {s : PySem.Str} {Q : VK} (h : AnyV K H v s) {C : Addr} (k : NoKin K C) (q : Q (.bl false) H) : rIsiU K [v, .ref C] H Q := by
  obtain ⟨t, h1, h2⟩ := h.own k
  exact Or.inl ⟨v, .ref C, t, .ref C, false, rfl, .own C, h1, h2, q⟩
end Ech

namespace Ech
open PySem PySem.Spec PyProof.Rows L2
open He (ga ma)
/-! ### x == v and x != v, x of an own class, v any value -/
section
variable {prog : Program} {w : World} {A : Around} {E : Value → Shared → Prop} {s : Shared} {K : PySem.W.Frag} {x C L f : Addr} {h₀ : Heap} {m : PySem.Str → Option Value} {ox : Obj} {od : Option Obj} {b tb : Value}
theorem ne_entryA {Q : Fin → Shared → Prop} (hu : A.units < cLine) (X : K.In s.heap) (I : PySem.W.InstAt s.heap x ox C od) (hs : PySem.W.findIn K (.ref C) "__eq__" = some (some (.ref f))) (hf : PySem.W.isFn K (.ref f) = true)
    (h : wpAny (model prog w) A (call (.ref f) [.ref x, b]) (fun v s' => ∃ r, v = .bool r ∧ Q (.done (.ret (.bool (!r)))) s') E s) : wpAny (model prog w) A (Builtin.«object.__ne__» ⟨[.ref x, b], []⟩) Q E s := by
  unfold Builtin.«object.__ne__»
  repeat (first | with_reducible refine wpAny_cRoomFor hu ?_ | (with_reducible refine PySem.W.ifBound_K X I hs hf (wpAny_mono h (fun v s' z => ?_) fun _ _ z => z)) | wp_step)
  obtain ⟨r, e, q⟩ := z
  subst e
  repeat (first | wp_step)
  exact q
theorem ne_KA {Q : Value → Shared → Prop} (hu : A.units + 1 < cLine) (F : Fr h₀ L s.heap m) (X₀ : K.In h₀) (I : PySem.W.InstAt s.heap x ox C od) (hb : PySem.W.Looks (model prog w) s.heap (typeOf b) tb) (nf : PySem.W.notFirst K C tb = true) (hn : neB K C = true)
    (hs : PySem.W.findIn K (.ref C) "__eq__" = some (some (.ref f))) (hf : PySem.W.isFn K (.ref f) = true)
    (h : wpAny (model prog w) A.in1 (call (.ref f) [.ref x, b]) (fun v s' => ∃ r, v = .bool r ∧ Q (.bool (!r)) s') E s) : wpAny (model prog w) A (richCompare .NotEq (.ref x) b) Q E s := by
  have X := X₀.keeps F.keep
  have n1 : PySem.W.findIn K (.ref C) "__ne__" = some (some (.builtin "object.__ne__")) := beq_iff_eq.mp (Bool.and_eq_true_iff.mp hn).1
  have n2 : PySem.W.subIn K (.ref C) (.type "object") = some true := beq_iff_eq.mp (Bool.and_eq_true_iff.mp hn).2
  have one : wpAny (model prog w) A (tryCompare (.ref x) (cmpInfo .NotEq).2.1 b) (fun r s' => ∃ v, r = some v ∧ Q v s') E s := by
    unfold tryCompare
    refine wpAny_bind (ifBound_ne X I n1 (wpAny_call (codeAny_call_builtin PySem.F.cmp_object.ne.plain PySem.F.cmpEntry_ne (check_own X I n2 (PySem.F.cmpArgs_ne _ _) (ne_entryA hu X I hs hf (wpAny_mono h (fun v s' ⟨r, e, q⟩ => ⟨r, e, ?_⟩) fun _ _ z => z))))))
    exact wpAny_pure ⟨_, rfl, q⟩
  unfold richCompare
  simp only [oneThing_ref]
  refine wpAny_holding (wpAny_bind (wpAny_cRoomFor (by omega) ?_))
  refine wpAny_bind (I.type.here (wpAny_bind (hb.here ?_)))
  split
  · rename_i other
    have e : PySem.W.subIn K tb (.ref C) = some false := by
      rcases Bool.or_eq_true_iff.mp nf with z | z
      · rw [beq_iff_eq.mp z] at other
        simp at other
      · exact beq_iff_eq.mp z
    refine wpAny_bind ((PySem.W.looks_subIn X e).here ?_)
    simp only [Bool.false_eq_true, if_false]
    refine wpAny_bind (wpAny_mono one (fun r s' z => ?_) fun _ _ e => e)
    obtain ⟨v, rfl, hq⟩ := z
    exact wpAny_pure hq
  · refine wpAny_bind (wpAny_pure ?_)
    simp only [Bool.false_eq_true, if_false]
    refine wpAny_bind (wpAny_mono one (fun r s' z => ?_) fun _ _ e => e)
    obtain ⟨v, rfl, hq⟩ := z
    exact wpAny_pure hq
end
def SideOk (K : PySem.W.Frag) (C : Addr) (H : Hp) (y : V) : Prop := (∃ b dy gs, y = .ref b ∧ H b = some (.ins C dy gs)) ∨ ∃ t, TyX K H y t ∧ PySem.W.notFirst K C t = true
theorem side_own {K : PySem.W.Frag} {C b dy : Addr} {H : Hp} {gs : List (PySem.Str × V)} (h : H b = some (.ins C dy gs)) : SideOk K C H (.ref b) := Or.inl ⟨b, dy, gs, rfl, h⟩
theorem side_any {K : PySem.W.Frag} {C : Addr} {H : Hp} {v : V} {s : PySem.Str} (h : AnyV K H v s) : SideOk K C H v := by
  refine Or.inr ?_
  cases h with
  | dct h => exact ⟨_, .base (.dK h), rfl⟩
  | dci h _ _ => exact ⟨_, .base (.dK h), rfl⟩
  | dat h s =>
    cases h with
    | non => exact ⟨_, .base .non, rfl⟩
    | bl b => exact ⟨_, .base (.bl b), rfl⟩
    | int i => exact ⟨_, .base (.int i), rfl⟩
    | str x => exact ⟨_, .base (.str x), rfl⟩
    | lst h _ => exact ⟨_, ty_lst h, rfl⟩
    | tup h _ => exact ⟨_, ty_tup h, rfl⟩
def rOwn2A (K : PySem.W.Frag) (C : Addr) (sp : Sp) (E : XK) : R2 := fun x y H Q => match x with
  | .ref a => (∃ dx fs, H a = some (.ins C dx fs)) ∧ SideOk K C H y ∧ sp [.ref a, y] H Q E
  | _ => False
def rOwnNeA (K : PySem.W.Frag) (C : Addr) (sp : Sp) (E : XK) : R2 := fun x y H Q => match x with
  | .ref a => (∃ dx fs, H a = some (.ins C dx fs)) ∧ SideOk K C H y ∧ sp [.ref a, y] H (fun v H' => match v with | .bl r => Q (.bl (!r)) H' | _ => False) E
  | _ => False
section
variable {X : Cx} {C f : Addr} {CX : CXT} {k : Nat} {ps : List PySem.Str} {sp : Sp} {E : XK}
theorem side_looks {pins : List (Addr × Obj)} {σ : L2.St} {H : Hp} {s : Shared} {y : V} {u : Value} (I : Inv X pins σ H s) (ry : RelV y u) (h : SideOk X.K C H y) : ∃ t, PySem.W.Looks (model X.prog X.w) s.heap (typeOf u) t ∧ PySem.W.notFirst X.K C t = true := by
  rcases h with ⟨b, dy, gs, rfl, hb⟩ | ⟨t, ty, nf⟩
  · cases ry
    obtain ⟨mB, J, _⟩ := ins_get I.hok hb
    obtain ⟨od, J, _⟩ := J.look
    exact ⟨.ref C, J.type, by simp [PySem.W.notFirst]⟩
  · obtain ⟨P, kx, hP, _⟩ := kit_of I ry ty
    exact ⟨t, kx.ty _ _ I.kIn hP, nf⟩
theorem o_ownEqA {m : PySem.Str} (hm : Meth X.K C m f) (ho : m = "__eq__") (F : FnOk X.prog X.w X.K X.mg X.base CX k f (fdA X.K f) ps sp) (hr : Room k X.A) (hb : Bnd X.K f ps []) (hx : Passes CX X E) : OpR X (compareOp .Eq) (rOwn2A X.K C sp E) := by
  intro pins s σ H x y v u Q I rx ry h
  unfold rOwn2A at h
  split at h
  · rename_i a
    obtain ⟨⟨dx, fs, ha⟩, side, hsp⟩ := h
    cases rx
    obtain ⟨mA, J, _⟩ := ins_get I.hok ha
    obtain ⟨od, J, _⟩ := J.look
    obtain ⟨t, lk, nf⟩ := side_looks I ry side
    obtain ⟨m', hF⟩ := I.fr
    subst ho
    refine PySem.W.cmp_K (op := .Eq) (tb := t) hr.units0 hF I.ok.mod.kin J lk nf hm.at_ hm.fn ?_
    obtain ⟨ds, hd, hb⟩ := hb
    exact wpAny_mono (run_fn (us := [.ref a, u]) (vs := [.ref a, y]) F hr hb hd hx I (.cons rfl (.cons ry .nil)) hsp) (fun v s' z => cmp_back z) fun _ _ z => z
  · exact h.elim
theorem o_ownNeA {m : PySem.Str} (hn : neB X.K C = true) (hm : Meth X.K C m f) (ho : m = "__eq__") (F : FnOk X.prog X.w X.K X.mg X.base CX k f (fdA X.K f) ps sp) (hr : Room (k + 1) X.A) (hb : Bnd X.K f ps []) (hx : Passes CX X E) : OpR X (compareOp .NotEq) (rOwnNeA X.K C sp E) := by
  intro pins s σ H x y v u Q I rx ry h
  unfold rOwnNeA at h
  split at h
  · rename_i a
    obtain ⟨⟨dx, fs, ha⟩, side, hsp⟩ := h
    cases rx
    obtain ⟨mA, J, _⟩ := ins_get I.hok ha
    obtain ⟨od, J, _⟩ := J.look
    obtain ⟨t, lk, nf⟩ := side_looks I ry side
    obtain ⟨m', hF⟩ := I.fr
    subst ho
    have hu : X.A.units + 1 < cLine := by have := hr.un; omega
    refine ne_KA hu hF I.ok.mod.kin J lk nf hn hm.at_ hm.fn ?_
    obtain ⟨ds, hd, hb⟩ := hb
    cases hd
    have sb : Sub X k X.A.in1 := Sub.in1 ⟨hr, rfl⟩
    have e0 : Env0 X.prog X.w X.K X.mg X.base X.A.in1 X.stack s H := by
      have e := I.env0
      exact ⟨by rw [sb.fr]; exact e.frames, e.mod, e.bs, e.bsz, e.funs, e.frf, e.hok, e.bare⟩
    have hl := F.len _ _ _ _ hsp
    have r2 : Vals [V.ref a, y] [Value.ref a, u] := .cons rfl (.cons ry .nil)
    refine wpAny_call (codeAny_mono (F.run X.A.in1 X.stack s H ⟨[.ref a, u], []⟩ [.ref a, u] [.ref a, y] _ E sb.room e0 (by
      have := hb s [.ref a, u] I.kIn (by simpa using hl)
      simpa using this) r2 hsp) fun r s' hq => ?_)
    cases r with
    | error e => exact hx pins σ H s e s' I hq
    | ok fl =>
      cases fl with
      | ret w =>
        obtain ⟨z, H', I', rz, q⟩ := I.after hq
        cases z with
        | bl r =>
          cases rz
          exact ⟨r, rfl, .bl (!r), H', I', rfl, q⟩
        | _ => exact q.elim
      | next => exact False.elim hq
      | brk => exact False.elim hq
      | cont => exact False.elim hq
  · exact h.elim
theorem k_ownEqA {K : PySem.W.Frag} {m : PySem.Str} (hK : X.K = K) (hm : Meth X.K C m f) (ho : m = "__eq__") (F : FnOk X.prog X.w X.K X.mg X.base CX k f (fdA X.K f) ps sp) (hr : Room k X.A) (hb : Bnd X.K f ps []) (hx : Passes CX X E) : OpR X (compareOp .Eq) (rOwn2A K C sp E) := by
  subst hK
  exact o_ownEqA hm ho F hr hb hx
theorem k_ownNeA {K : PySem.W.Frag} {m : PySem.Str} (hK : X.K = K) (hn : neB X.K C = true) (hm : Meth X.K C m f) (ho : m = "__eq__") (F : FnOk X.prog X.w X.K X.mg X.base CX k f (fdA X.K f) ps sp) (hr : Room (k + 1) X.A) (hb : Bnd X.K f ps []) (hx : Passes CX X E) : OpR X (compareOp .NotEq) (rOwnNeA K C sp E) := by
  subst hK
  exact o_ownNeA hn hm ho F hr hb hx
end
end Ech

set_option maxHeartbeats 4000000
namespace Ech
open PySem PySem.Spec PyProof.Rows L2
open He (ga ma)
/-! ### a tuple times an int -/
/-! ### C.f, a number of the class -/
/-! ### C.m(..), m a classmethod with *rest, or by keywords -/
/-! ### defs with *rest that raise -/
section
variable {P : Program} {w : World} {K : PySem.W.Frag} {mg : PySem.Str → Option Value} {base : Heap} {x qual pv : PySem.Str} {params : Arguments} {body : List Stmt} {scope : Scope} {kws : List (PySem.Str × V)} {f : Addr} {fd : FuncData} {N ps : List PySem.Str} {k : Nat} {sp : Sp}
end
end Ech

set_option maxHeartbeats 1000000
namespace Ech
open PySem PySem.Spec PyProof.Rows L2
open He (ga ma)

/-! ### x(e, ..), x a def of the module with *rest alone -/
/-! ### == of the echoes of two songs -/
/-! ### t == (), t a tuple of anything -/
/-! ### max(xs), xs a list of ints -/
/-! ### weaving -/
def PieceAt (K : PySem.W.Frag) (G : Hp) (L : Int) (es : List Lot) (v : V) (n : Int) : Prop := ∃ x ec, v = .ref x ∧ SongAt K G x L n ec ∧ ec.map lotOf = es
theorem PieceAt.up {K : PySem.W.Frag} {G G' : Hp} {L n : Int} {es : List Lot} {v : V} (x : Ex G G') (h : PieceAt K G L es v n) : PieceAt K G' L es v n := by
  obtain ⟨a, ec, h1, h2, h3⟩ := h
  exact ⟨a, ec, h1, h2.up x, h3⟩
end Ech

set_option maxHeartbeats 4000000
namespace Ech
open PySem PySem.Spec PyProof.Rows L2
open He (ga ma)

/-! ### own error classes right below one of Python's errors -/
structure BaseE (B N I : String) (tl : List Value) : Prop where
  base : ExcBaseFacts B N I tl
  store : StoreFacts B tl "object.__setattr__" "object"
  obj : tl.contains (.type "object") = true
  typ : typeOf (.type B) = pure (.type "type")
  stub : Manifest.isStub B = false
  hand : PySem.W.handedIn (.builtin I) = true
theorem be_ValueError : BaseE "ValueError" "ValueError.__new__" "ValueError.__init__" [.type "ValueError", .type "Exception", .type "BaseException", .type "object"] := ⟨PySem.F.excBase_ValueError, PySem.F.store_ValueError, by decide +kernel, by kernel_rfl, by decide +kernel, by decide +kernel⟩
structure GexC (K : PySem.W.Frag) (C : Addr) (N : String) (tl : List Value) : Prop where
  cls : ∃ nm q Nn bs sn sub ab col dd k0 k1 k2 k3 k5, K.lookup C = some (excClassObj nm q C Nn bs tl true sn sub ab col dd k0 k1 k2 k3 k5 N)
  sa : PySem.W.findIn K (.ref C) "__setattr__" = some (some (.builtin "object.__setattr__"))
  exC : PySem.W.subIn K (.ref C) (.type "BaseException") = some true
  tyC : PySem.W.typeIn K (.ref C) = some (.type "type")
  kC : PySem.W.keepIn K (.ref C) = true
theorem gexB_ok {K : PySem.W.Frag} {C : Addr} {N : String} {tl : List Value} (h : gexB K C N tl = true) : GexC K C N tl := by
  obtain ⟨h1, h⟩ := He.ba h
  obtain ⟨h2, h⟩ := He.ba h
  obtain ⟨h3, h⟩ := He.ba h
  obtain ⟨h4, h5⟩ := He.ba h
  refine ⟨?_, He.eqO_ok h2, of_decide_eq_true h3, of_decide_eq_true h4, h5⟩
  unfold gxoB at h1
  split at h1
  · rename_i dd cd sl hl
    split at h1
    · rename_i C' bm k0 k1 k2 k3 n k5 hm hsl
      obtain ⟨h1, r⟩ := He.ba h1
      obtain ⟨h1, hd⟩ := He.ba h1
      obtain ⟨h1, nd⟩ := He.ba h1
      obtain ⟨e1, e2⟩ := He.ba h1
      obtain ⟨nm, bs, mro, nsp, qn, hasD, sn, sub, ab, col, del⟩ := cd
      have e1' : C' = C := eq_of_beq e1
      have e2' : n = N := eq_of_beq e2
      have e3' : bm = tl := eq_of_beq r
      have hm' : mro = .ref C' :: bm := hm
      have hd' : hasD = true := hd
      have nd' : del = false := by
        have : (!del) = true := nd
        simpa using this
      have hsl' : sl = #[k0, k1, k2, k3, some (.builtin n), k5] := Array.toList_inj.mp hsl
      subst e1' e2' e3' hm' hd' nd' hsl'
      exact ⟨nm, qn, nsp, bs, sn, sub, ab, col, dd, k0, k1, k2, k3, k5, hl⟩
    · cases h1
  · cases h1

section
open Builtin Builtin.ObjectAttr PySem.HandSPX
variable {prog : Program} {w : World} {A : Around} {R : Result → Shared → Prop} {hp : Heap} {g : Array GenState} {d : Drawn} {t : Nat} {os : OsState} {B N I : String} {tl : List Value}
end

section
variable {X : Cx} {pins : List (Addr × Obj)} {σ : L2.St} {H : Hp} {s : Shared} {a C : Addr} {f : PySem.Str} {y : V} {u : Value} {A : Around} {B N I : String} {tl : List Value} {E : Value → Shared → Prop}
theorem g_init {us : List Value} {Q : Value → Shared → Prop} (BE : BaseE B N I tl) (T : GexC X.K C N tl) (J : Inv X pins σ H s) (e : H a = some (exo a C none)) (hl : us.length ≤ sizeLine) (h : ∀ s', Inv X pins σ H s' → Q .none s') :
    wpAny (model X.prog X.w) A (call (.builtin I) (.ref a :: us)) Q E s := by
  obtain ⟨nm, q, Nn, bs, sn, sub, ab, col, dd, k0, k1, k2, k3, k5, hC⟩ := T.cls
  obtain ⟨t1, ho⟩ := exo_at J.hok e
  obtain ⟨hp, g, d, t, os⟩ := s
  refine wpAny_call (PySem.HandSPX.init_base BE.base (fun _ => rfl) (J.kIn _ _ hC) ho hl fun h' t2 keep hx => ?_)
  have W := J.write (t' := t) (x := a) (e := a) (o := exo a C none) (by rw [e]; exact True.intro) (.inl rfl) keep ⟨_, hx⟩ (exo_ok hx)
  have same : upd H a (exo a C none) = H := by
    funext b
    by_cases hb : b = a
    · rw [hb, upd_same, e]
    · rw [upd_ne hb]
  rw [same] at W
  exact h _ W
end
def uGInit (K : PySem.W.Frag) (C : Addr) (N : String) (tl : List Value) (ta : TA) : TE := fun σ H Q => ta σ H fun vs H1 => match vs with
  | .ref a :: ws => ws.length ≤ 1000 ∧ H1 a = some (exo a C none) ∧ Q .non H1
  | _ => False
section
variable {X : Cx} {o e : Expr} {es : List Expr} {to te : TE} {ta : TA} {f : PySem.Str} {p p' p1 p2 pos : Pos} {B N I : String} {tl : List Value} {C : Addr}
theorem u_ginit {pl : Sem Bool} {x : PySem.Str} (BE : BaseE B N I tl) (T : GexC X.K C N tl) (hg : Gl X x) (hm : X.mg x = none) (hv : bootBuiltins x = some (.type B)) (vV : PySem.W.findCls X.K (.type B) (.type "type") "__init__" = some (.val (.builtin I))) (ha : PA X (e :: es) ta)
    (hn : x ≠ "__name__" := by decide) (hdb : (x == ("__debug__" : PySem.Str)) = false := by decide)
    (hc : eval (.Call (.Attribute (.Name x p1) "__init__" p2) (e :: es) [] pos) X.env = (do
      let ov ← eval (.Name x p1) X.env
      standAt p2.atName
      let (f, first) ← holding [ov] (getMethod ov "__init__" pl)
      callWith pos f first (backTo pos (starEach (e :: es) X.env)) (backToKw pos (keywordEach [] X.env))) := by rfl)
    (he : starEach (e :: es) X.env = (false, eval e X.env) :: starEach es X.env := by rfl) (hpl : (backTo pos (starEach es X.env)).any (·.1) = false := by rfl) :
    PE X (.Call (.Attribute (.Name x p1) "__init__" p2) (e :: es) [] pos) (uGInit X.K C N tl ta) := by
  refine ⟨fun pins s σ H Q J h => ?_⟩
  refine PySem.W.methodCall_KW (ld_blt J hg hm hv ?_ hn hdb) hc
  obtain ⟨m, fr⟩ := J.fr
  refine PySem.W.method_type fr J.ok.mod.kin BE.typ BE.stub vV BE.hand ?_
  show wpAny _ _ (callWith pos (Value.builtin I) [] (backTo pos (starEach (e :: es) X.env)) []) _ _ _
  refine PyProof.Rows.callWith_method1 (thn (ha.run pos pins _ σ H _ (J.tok _) h) fun us s1 ⟨vs, H1, I1, r1, q⟩ => ?_) he hpl
  cases r1 with
  | nil => exact q.elim
  | @cons x0 u0 xr ur ra rw' => cases x0 with
    | ref a =>
      obtain ⟨hl, ea, q⟩ := q
      obtain rfl : u0 = Value.ref a := ra
      have hlen : ur.length ≤ sizeLine := by
        rw [← Paired.length rw', sizeLine_eq]
        omega
      exact g_init BE T I1 ea hlen fun s' W => ⟨.non, H1, W, rfl, q⟩
    | _ => exact q.elim
end
/-! ### raise C(e) and raise C() -/
theorem mk_bare {X : Cx} {pins : List (Addr × Obj)} {σ : L2.St} {H1 H2 : Hp} {hp hp2 h2 : Heap} {g1 g2 : Array GenState} {d1 d2 : Drawn} {t1 t2 : Nat} {os1 os2 : OsState} {a C : Addr} {Q : XK} (T : Raises X (.ref C)) (I1 : Inv X pins σ H1 ⟨hp, g1, d1, t1, os1⟩)
    (ha : hp.objs.size ≤ a) (k : ∀ b o, hp.get? b = some o → hp2.get? b = some o) (un : Un (frs X.stack) [] (upd H1 a (exo a C none)) H2 hp2 h2) (hok : HOk X.prog X.w H2 h2) (ho : os2 = os1) (hb : AllBare g2)
    (ea : H2 a = some (exo a C none)) (q : Q (.ref C) none (del H2 a)) : MkP X pins σ Q (.ref a) ⟨h2, g2, d2, t2, os2⟩ := by
  obtain ⟨t0, hoe⟩ := exo_at hok ea
  have hn : H1 a = none := I1.hok.fresh ha
  obtain ⟨G, g1', g2'⟩ := restrict h2 fun b => decide (b ≠ a)
  have gk : ∀ b, b ≠ a → G.get? b = h2.get? b := fun b hb => g1' b (decide_eq_true hb)
  have ge : G.get? a = none := g2' a (by simp)
  have off : ∀ {b : Addr} {o : Obj}, hp.get? b = some o → b ≠ a := fun {b o} z => Nat.ne_of_lt (Nat.lt_of_lt_of_le (Heap.lt_size z) ha)
  have up : ∀ {b : Addr}, b ≠ a → H1 b = none → upd H1 a (exo a C none) b = none := fun {b} hb n => by rw [upd_ne hb]; exact n
  have U : Un (frs X.stack) [] H1 (del H2 a) hp G := {
    keep := fun b o z n hf hx => by
      rw [gk b (off z)]
      exact un.keep b o (k b o z) (up (off z) n) hf hx
    slot := fun b o z n hf hx => by
      rw [gk b (off z)]
      exact un.slot b o (k b o z) (up (off z) n) hf hx
    free := fun b o z n hx => by
      rw [del_ne (off z)]
      exact un.free b o (k b o z) (up (off z) n) hx
    there := fun b o z hx => by
      rw [gk b (off z)]
      exact un.there b o (k b o z) hx
    tups := fun b xs z => by
      rw [del_ne (ne_of_none z hn)]
      exact un.tups b xs (by rw [upd_ne (ne_of_none z hn)]; exact z)
    frzs := fun b o v z => by
      rw [del_ne (ne_of_none z hn)]
      exact un.frzs b o v (by rw [upd_ne (ne_of_none z hn)]; exact z)
    tbls := fun b ps z => by
      rw [del_ne (ne_of_none z hn)]
      exact un.tbls b ps (by rw [upd_ne (ne_of_none z hn)]; exact z) }
  have hok3 : HOk X.prog X.w (del H2 a) G := fun b o z => by
    have hba : b ≠ a := fun e => by
      rw [e, del_same] at z
      cases z
    rw [del_ne hba] at z
    have noa : ∀ {c : Addr}, H2 c = some (.own b) → c ≠ a := fun {c} hc => at_ne ea hc exo_own
    refine (hok b o z).stay (fun c v hc y => ?_) (fun c hc => by rw [del_ne (noa hc)]; exact hc) (fun c xs hc => by rw [del_ne (at_ne ea hc exo_tup)]; exact hc)
    have hca : c ≠ a := by
      rcases hc with hc | hc
      · rw [hc]
        exact hba
      · exact noa hc
    rw [gk c hca]
    exact y
  have J : Inv X pins σ (del H2 a) ⟨G, g2, d2, t2, os2⟩ := I1.call' (ch := []) ho U hok3 hb (fun b z => absurd z (by simp))
  refine ⟨a, _, _, ⟨G, g2, d2, t2, os2⟩, _, .ref C, none, rfl, J, fun b o z => ?_, ge, hoe, ⟨rfl, rfl⟩, rfl, rfl, del_same, rfl, hb, T, q⟩
  by_cases hba : b = a
  · rw [hba, ge] at z
    cases z
  · exact (gk b hba).symm.trans z
def spErr0 (K : PySem.W.Frag) (C : Addr) : Sp := fun vs H Q _ => ∃ a, vs = [.ref a] ∧ H a = some (exo a C none) ∧ Q .non H
def tMkG (C : Addr) (sp : Sp) (ta : TA) : L2.St → Hp → XK → Prop := fun σ H Q => ta σ H fun vs H1 => vs.length ≤ 1000 ∧ ∀ a, H1 a = none → sp (.ref a :: vs) (upd H1 a (exo a C none))
  (fun v H2 => v = .non ∧ ((∃ (d : Addr) (fs : List (PySem.Str × V)), H2 a = some (exo a C (some d)) ∧ H2 d = some (exd d fs) ∧ H1 d = none ∧ Q (.ref C) (some d) (upd (del H2 a) d (.xd fs))) ∨ (H2 a = some (exo a C none) ∧ Q (.ref C) none (del H2 a)))) (fun _ _ _ => False)
section
variable {X : Cx} {e : Expr} {es : List Expr} {ta : TA} {p pos : Pos} {B N I : String} {tl : List Value} {C fI : Addr} {CX : CXT} {x : PySem.Str} {k : Nat} {fd : FuncData} {ps : List PySem.Str} {sp : Sp}
theorem gmk_run {pins : List (Addr × Obj)} {σ : L2.St} {H1 : Hp} {s1 : Shared} {Q : XK} {vs : List V} {us : List Value} (BE : BaseE B N I tl) (T : GexC X.K C N tl) (iC : PySem.W.findIn X.K (.ref C) "__init__" = some (some (.ref fI))) (tI : PySem.W.typeIn X.K (.ref fI) = some (.type "function"))
    (F1 : FnOk X.prog X.w X.K X.mg X.base CX k fI fd ps sp) (hr : Room (k + 1) X.A) (hb : Binds X.K fd ps []) (hx : Passes CX X (fun _ _ _ => False)) (I1 : Inv X pins σ H1 s1) (r1 : Vals vs us) (hz : vs.length ≤ 1000)
    (q1 : ∀ a, H1 a = none → sp (.ref a :: vs) (upd H1 a (exo a C none)) (fun v H2 => v = .non ∧ ((∃ (d : Addr) (fs : List (PySem.Str × V)), H2 a = some (exo a C (some d)) ∧ H2 d = some (exd d fs) ∧ H1 d = none ∧ Q (.ref C) (some d) (upd (del H2 a) d (.xd fs))) ∨ (H2 a = some (exo a C none) ∧ Q (.ref C) none (del H2 a)))) (fun _ _ _ => False)) :
    wpAny (model X.prog X.w) X.A (call (.ref C) us) (MkP X pins σ Q) X.xe s1 := by
  obtain ⟨nm, q, Nn, bs, sn, sub, ab, col, dd, k0, k1, k2, k3, k5, hC⟩ := T.cls
  obtain ⟨hp, g, dr, tk, os⟩ := s1
  have next : hp.objs.size ≤ hp.objs.size + 1 := Nat.le_succ _
  have hq := q1 (hp.objs.size + 1) (I1.hok.fresh next)
  have grown : ∀ b o, hp.get? b = some o → ((hp.push (PySem.W.kdv_tup us)).push (PySem.HandSPX.excO C hp.objs.size)).get? b = some o := fun b o e => Heap.get?_push_of_some _ (Heap.get?_push_of_some _ e)
  have at_ : ((hp.push (PySem.W.kdv_tup us)).push (PySem.HandSPX.excO C hp.objs.size)).get? (hp.objs.size + 1) = some (PySem.HandSPX.excO C hp.objs.size) := by heap_get
  have I2 : Inv X pins σ (upd H1 (hp.objs.size + 1) (exo (hp.objs.size + 1) C none)) ⟨(hp.push (PySem.W.kdv_tup us)).push (PySem.HandSPX.excO C hp.objs.size), g, dr, tk, os⟩ := I1.laid (t' := tk) grown next (exo_ok at_)
  have r2 : Vals (V.ref (hp.objs.size + 1) :: vs) (Value.ref (hp.objs.size + 1) :: us) := .cons rfl r1
  have hl : (Value.ref (hp.objs.size + 1) :: us ++ []).length = ps.length := by
    have e := r2.length
    rw [F1.len _ _ _ _ hq] at e
    rw [List.append_nil]
    exact e.symm
  have bnd := hb _ (Value.ref (hp.objs.size + 1) :: us) I2.kIn hl
  rw [List.append_nil] at bnd
  have few : us.length ≤ sizeLine := by
    rw [← Paired.length r1, sizeLine_eq]
    omega
  refine wpAny_call (PySem.HandSPX.call_own BE.base (fun _ => rfl) (I1.kIn _ _ hC) (PySem.W.looks_findIn I1.kIn iC) (fun self => PySem.W.bind_fn I1.kIn self tI) few
    (codeAny_mono (F1.run _ X.stack _ _ ⟨Value.ref (hp.objs.size + 1) :: us, []⟩ (Value.ref (hp.objs.size + 1) :: us) _ _ (fun _ _ _ => False) (hr.make C us []) (I2.env0.make C us []) bnd r2 hq) fun r s' hq' => ?_))
  cases r with
  | error er => exact hx pins σ _ _ er s' I2 hq'
  | ok fl =>
    cases fl with
    | ret u =>
      obtain ⟨v, H2, os2, bare2, un2, hok2, rv, ev, q2⟩ := hq'
      subst ev
      obtain ⟨h2, g2, d2, t2, os'⟩ := s'
      rcases q2 with ⟨d, fs, ea, ed, hd1, q2⟩ | ⟨ea, q2⟩
      · exact ⟨rv, mk_end (raises_own T.exC T.tyC) I1 next grown un2 hok2 os2 bare2 ea ed hd1 q2⟩
      · exact ⟨rv, mk_bare (raises_own T.exC T.tyC) I1 next grown un2 hok2 os2 bare2 ea q2⟩
    | next => exact False.elim hq'
    | brk => exact False.elim hq'
    | cont => exact False.elim hq'
theorem pmk_g0 (BE : BaseE B N I tl) (T : GexC X.K C N tl) (iC : PySem.W.findIn X.K (.ref C) "__init__" = some (some (.ref fI))) (tI : PySem.W.typeIn X.K (.ref fI) = some (.type "function"))
    (F1 : FnOk X.prog X.w X.K X.mg X.base CX k fI fd ps sp) (hr : Room (k + 1) X.A) (hb : Binds X.K fd ps []) (hx : Passes CX X (fun _ _ _ => False)) (hg : Gl X x) (hm : X.mg x = some (.ref C)) (hdb : (x == ("__debug__" : PySem.Str)) = false := by decide) :
    PMk X (.Call (.Name x p) [] [] pos) (tMkG C sp tNil) := by
  intro pins s σ H Q J h
  refine wpAny_Call_Name_kw (ld_glob J hg hm ?_ hdb)
  obtain ⟨hz, q1⟩ : ([] : List V).length ≤ 1000 ∧ _ := h
  exact PySem.W.callWith_K0 J.kIn T.kC (gmk_run (us := []) BE T iC tI F1 hr hb hx J .nil hz q1)
end
def uRaise0 (C : Addr) (W : WX) : TS := fun _ σ H => W (.ref C) none σ H
section
variable {X : Cx} {W : WX} {C fI : Addr} {f x : PySem.Str} {k : Nat} {fd : FuncData} {ps : List PySem.Str} {CX : CXT} {e : Expr} {te : TA} {p pos pos2 : Pos} {B N I : String} {tl : List Value}
theorem u_raise0 (BE : BaseE B N I tl) (hc : X.calm = true) (tk : Takes X W) (T : GexC X.K C N tl) (iC : PySem.W.findIn X.K (.ref C) "__init__" = some (some (.ref fI))) (tI : PySem.W.typeIn X.K (.ref fI) = some (.type "function"))
    (F1 : FnOk X.prog X.w X.K X.mg X.base CX k fI fd ps (spErr0 X.K C)) (hr : Room (k + 1) X.A) (hb : Binds X.K fd ps []) (hx : Passes CX X (fun _ _ _ => False)) (hg : Gl X x) (hm : X.mg x = some (.ref C)) (hdb : (x == ("__debug__" : PySem.Str)) = false := by decide) :
    PS X (.Raise (some (.Call (.Name x p) [] [] pos)) none pos2) (uRaise0 C W) := by
  refine ps_wk (ps_raise hc tk (pmk_g0 BE T iC tI F1 hr hb hx hg hm hdb)) fun D σ H q => ⟨Nat.zero_le _, fun a ha => ⟨a, rfl, upd_same, rfl, Or.inr ⟨upd_same, ?_⟩⟩⟩
  have e : del (upd H a (exo a C none)) a = H := by
    funext b
    by_cases hb : b = a
    · rw [hb, del_same, ha]
    · rw [del_ne hb, upd_ne hb]
  rw [e]
  exact q
end
/-! ### what the head tells of such a class -/
structure ErrG (K : PySem.W.Frag) (C : Addr) (f : PySem.Str) (B N I : String) (tl : List Value) : Prop where
  oex : GexC K C N tl
  exc : ExcC K C
  ini : PySem.W.findIn K (.ref C) "__init__" = some (some (.ref (ma K C "__init__")))
  fun_ : PySem.W.typeIn K (.ref (ma K C "__init__")) = some (.type "function")
  none_ : PySem.W.findIn K (.ref C) f = some none
  met : PySem.W.exmOne K (.ref C) (.ref C) = some true
  isV : PySem.W.kitOne K (.ref C) (.type B) = some true
  vei : PySem.W.findCls K (.type B) (.type "type") "__init__" = some (.val (.builtin I))
theorem gerrB_ok {K : PySem.W.Frag} {C : Addr} {f : PySem.Str} {B N I : String} {tl : List Value} (h : gerrB K C f B N I tl = true) : ErrG K C f B N I tl := by
  obtain ⟨h1, h⟩ := He.ba h
  obtain ⟨h2, h⟩ := He.ba h
  obtain ⟨h3, h⟩ := He.ba h
  obtain ⟨h4, h⟩ := He.ba h
  obtain ⟨h5, h⟩ := He.ba h
  obtain ⟨h6, h⟩ := He.ba h
  obtain ⟨h7, h8⟩ := He.ba h
  refine ⟨gexB_ok h1, exfB_ok h2, He.eqO_ok h3, of_decide_eq_true h4, of_decide_eq_true h5, of_decide_eq_true h6, of_decide_eq_true h7, ?_⟩
  unfold ginitB at h8
  split at h8
  · rename_i n e
    rw [e, eq_of_beq h8]
  · cases h8
def rIsH0 (K : PySem.W.Frag) (C : Addr) : List V → Hp → VK → Prop := fun xs H Q => match xs with
  | [.ref a, c] => ∃ cv b, H a = some (ExH a (.ref C) none) ∧ (∀ u, RelV c u → u = cv) ∧ PySem.W.kitOne K (.ref C) cv = some b ∧ Q (.bl b) H
  | _ => False
theorem c_isH0 {X : Cx} {C : Addr} {K : PySem.W.Frag} (hK : X.K = K) (T : ExcC K C) : CallR X (.builtin "isinstance") (rIsH0 K C) := by
  subst hK
  intro pins s σ H xs us Q I r h
  unfold rIsH0 at h
  split at h
  · rename_i a c
    obtain ⟨cv, b, ha, hcv, e, q⟩ := h
    cases r with
    | cons rx rr =>
      cases rr with
      | cons rt rr =>
        cases rr
        cases rx
        have ec := hcv _ rt
        subst ec
        obtain ⟨oe, vs, g1, g2, g3⟩ := exh_at I ha
        have J : PySem.W.InstAt s.heap a oe C none := ⟨g1, g2.1, by unfold PySem.W.notCls; rw [g3] <;> rfl, by rw [g2.2]; exact True.intro⟩
        have hcl : (PySem.W.clsIn X.K C).isSome = true := by
          obtain ⟨cd, hc, _⟩ := PySem.W.any_some T.hd
          rw [hc]
          rfl
        exact PySem.W.kia_one (PySem.W.kitx_exc hcl T.hg T.hk T.hs T.ha T.hn T.ht T.hm) I.kIn J e (fun z => nomatch z) fun tk => ⟨.bl b, H, I.kept (t' := tk) fun _ _ z => z, rfl, q⟩
  · exact h.elim
/-! ### several except clauses, each with a name for the error -/
section
variable {X : Cx} {body : List Stmt} {h₀ : ExceptHandler} {hds : List ExceptHandler} {l : List (Value × Nat × TS)} {pos : Pos} {tb : WX → TS} {Wout : WX}
end
end Ech

/-! orbits of a partial injection of the places below n: lines and rings -/
namespace Ech
structure HopF (n : Int) (f g : Int → Option Int) : Prop where
  fin : ∀ p x, 0 ≤ p → p < n → f p = some x → 0 ≤ x ∧ x < n ∧ g x = some p
  gin : ∀ p x, 0 ≤ p → p < n → g p = some x → 0 ≤ x ∧ x < n ∧ f x = some p
theorem HopF.swap {n : Int} {f g : Int → Option Int} (h : HopF n f g) : HopF n g f := ⟨h.gin, h.fin⟩
def runF (f : Int → Option Int) (s : Int) : Nat → Int → List Int
  | 0, _ => []
  | k + 1, p => match f p with
    | none => []
    | some q => if q = s then [] else q :: runF f s k q
def walkP (f : Int → Option Int) (n s : Int) : List Int := s :: runF f s n.toNat s
theorem nodup_le : ∀ (N : Nat) (l : List Nat), l.Nodup → (∀ x ∈ l, x < N) → l.length ≤ N
  | 0, [], _, _ => Nat.le_refl _
  | 0, x :: l, _, h => absurd (h x List.mem_cons_self) (Nat.not_lt_zero _)
  | N + 1, l, nd, h => by
    by_cases hm : N ∈ l
    · have h1 := nodup_le N (l.erase N) (nd.erase N) fun x hx => by
        have q := (nd.mem_erase_iff).mp hx
        have := h x q.2
        have := q.1
        omega
      have h2 := List.length_erase_of_mem hm
      have : 0 < l.length := List.length_pos_of_mem hm
      omega
    · have h1 := nodup_le N l nd fun x hx => by
        have := h x hx
        have : x ≠ N := fun z => hm (z ▸ hx)
        omega
      omega
theorem nodup_int {n : Int} {l : List Int} (nd : l.Nodup) (h : ∀ x ∈ l, 0 ≤ x ∧ x < n) : l.length ≤ n.toNat := by
  have e : (l.map Int.toNat).length ≤ n.toNat := nodup_le _ _ (by
    rw [List.nodup_iff_pairwise_ne] at nd ⊢
    rw [List.pairwise_map]
    refine List.Pairwise.imp_of_mem (fun {a b} ha hb hne => ?_) nd
    have := h a ha
    have := h b hb
    omega) fun x hx => by
    obtain ⟨y, hy, rfl⟩ := List.mem_map.mp hx
    have := h y hy
    omega
  rwa [List.length_map] at e
def PathF (f : Int → Option Int) (P : List Int) : Prop := ∀ i a b, P[i]? = some a → P[i + 1]? = some b → f a = some b
theorem path_cons {f : Int → Option Int} {a b : Int} {P : List Int} (e : f a = some b) (h : PathF f (b :: P)) : PathF f (a :: b :: P) := fun i x y h1 h2 => by
  cases i with
  | zero =>
    cases h1
    cases h2
    exact e
  | succ i => exact h i x y h1 h2
theorem run_path {f : Int → Option Int} {s : Int} : ∀ (k : Nat) (p : Int), PathF f (p :: runF f s k p)
  | 0, p => fun i x y _ h2 => by cases h2
  | k + 1, p => by
    unfold runF
    cases e : f p with
    | none => exact fun i x y _ h2 => by cases h2
    | some q =>
      by_cases hq : q = s
      · simp only [hq, if_true]
        exact fun i x y _ h2 => by cases h2
      · simp only [hq, if_false]
        exact path_cons e (run_path k q)
theorem run_ne {f : Int → Option Int} {s : Int} : ∀ (k : Nat) (p x : Int), x ∈ runF f s k p → x ≠ s
  | 0, p, x, h => by cases h
  | k + 1, p, x, h => by
    unfold runF at h
    cases e : f p with
    | none => rw [e] at h; cases h
    | some q =>
      rw [e] at h
      by_cases hq : q = s
      · simp only [hq, if_true] at h
        cases h
      · simp only [hq, if_false] at h
        rcases List.mem_cons.mp h with z | z
        · rw [z]; exact hq
        · exact run_ne k q x z
theorem run_in {n : Int} {f g : Int → Option Int} (H : HopF n f g) {s : Int} : ∀ (k : Nat) (p x : Int), 0 ≤ p → p < n → x ∈ runF f s k p → 0 ≤ x ∧ x < n
  | 0, p, x, _, _, h => by cases h
  | k + 1, p, x, h0, h1, h => by
    unfold runF at h
    cases e : f p with
    | none => rw [e] at h; cases h
    | some q =>
      rw [e] at h
      have hq' := H.fin p q h0 h1 e
      by_cases hq : q = s
      · simp only [hq, if_true] at h
        cases h
      · simp only [hq, if_false] at h
        rcases List.mem_cons.mp h with z | z
        · rw [z]; exact ⟨hq'.1, hq'.2.1⟩
        · exact run_in H k q x hq'.1 hq'.2.1 z
theorem run_end {f : Int → Option Int} {s : Int} : ∀ (k : Nat) (p : Int), (runF f s k p).length < k → ∀ x, (p :: runF f s k p).getLast? = some x → f x = none ∨ f x = some s
  | 0, p, h, x, _ => absurd h (Nat.not_lt_zero _)
  | k + 1, p, h, x, hx => by
    unfold runF at h hx
    cases e : f p with
    | none =>
      rw [e] at hx
      have : x = p := by simpa using hx.symm
      rw [this]
      exact Or.inl e
    | some q =>
      rw [e] at h hx
      by_cases hq : q = s
      · simp only [hq, if_true] at hx
        have : x = p := by simpa using hx.symm
        rw [this, e, hq]
        exact Or.inr rfl
      · simp only [hq, if_false] at h hx
        refine run_end k q (by simpa using h) x ?_
        rw [List.getLast?_cons_cons] at hx
        exact hx
theorem path_nodup {n : Int} {f g : Int → Option Int} (H : HopF n f g) {s : Int} {l : List Int} (hp : PathF f (s :: l)) (hne : ∀ x ∈ l, x ≠ s) (hin : ∀ x ∈ s :: l, 0 ≤ x ∧ x < n) : (s :: l).Nodup := by
  have key : ∀ (i j : Nat) (a : Int), i < j → (s :: l)[i]? = some a → (s :: l)[j]? = some a → False := by
    intro i
    induction i with
    | zero =>
      intro j a hij h1 h2
      obtain ⟨j, rfl⟩ : ∃ k, j = k + 1 := ⟨j - 1, by omega⟩
      cases h1
      exact hne s (List.mem_of_getElem? h2) rfl
    | succ i ih =>
      intro j a hij h1 h2
      obtain ⟨j, rfl⟩ : ∃ k, j = k + 1 := ⟨j - 1, by omega⟩
      have li : i + 1 < (s :: l).length := (List.getElem?_eq_some_iff.mp h1).1
      have lj : j + 1 < (s :: l).length := (List.getElem?_eq_some_iff.mp h2).1
      have e1 : (s :: l)[i]? = some (s :: l)[i] := List.getElem?_eq_getElem (by omega)
      have e2 : (s :: l)[j]? = some (s :: l)[j] := List.getElem?_eq_getElem (by omega)
      have f1 := hp i _ _ e1 h1
      have f2 := hp j _ _ e2 h2
      have i1 := hin _ (List.mem_of_getElem? e1)
      have i2 := hin _ (List.mem_of_getElem? e2)
      have g1 := (H.fin _ _ i1.1 i1.2 f1).2.2
      have g2 := (H.fin _ _ i2.1 i2.2 f2).2.2
      rw [g1] at g2
      have e3 := Option.some.inj g2
      exact ih j _ (by omega) e1 (by rw [e2, e3])
  rw [List.nodup_iff_pairwise_ne, List.pairwise_iff_getElem]
  intro i j hi hj hij e
  exact key i j _ hij (List.getElem?_eq_getElem hi) (by rw [List.getElem?_eq_getElem hj, e])
structure Orb (n : Int) (f : Int → Option Int) (s : Int) (P : List Int) : Prop where
  hd : ∃ l, P = s :: l
  path : PathF f P
  nd : P.Nodup
  ins : ∀ x ∈ P, 0 ≤ x ∧ x < n
  fin : ∀ x, P.getLast? = some x → f x = none ∨ f x = some s
theorem walk_orb {n : Int} {f g : Int → Option Int} (H : HopF n f g) {s : Int} (h0 : 0 ≤ s) (h1 : s < n) : Orb n f s (walkP f n s) := by
  have hin : ∀ x ∈ s :: runF f s n.toNat s, 0 ≤ x ∧ x < n := fun x hx => by
    rcases List.mem_cons.mp hx with z | z
    · rw [z]; exact ⟨h0, h1⟩
    · exact run_in H _ _ _ h0 h1 z
  have nd := path_nodup H (run_path n.toNat s) (fun x hx => run_ne _ _ _ hx) hin
  have hl := nodup_int nd hin
  refine ⟨⟨_, rfl⟩, run_path _ _, nd, hin, fun x hx => run_end _ _ ?_ x hx⟩
  rw [List.length_cons] at hl
  omega
section
variable {n : Int} {f g : Int → Option Int} {s : Int} {P : List Int}
theorem Orb.close_f (o : Orb n f s P) {x y : Int} (hx : x ∈ P) (e : f x = some y) : y ∈ P := by
  obtain ⟨i, hi, ei⟩ := List.mem_iff_getElem.mp hx
  by_cases hl : i + 1 < P.length
  · have := o.path i _ _ (List.getElem?_eq_getElem hi) (List.getElem?_eq_getElem hl)
    rw [ei, e] at this
    rw [Option.some.inj this]
    exact List.getElem_mem hl
  · have hlast : P.getLast? = some x := by
      rw [List.getLast?_eq_getElem?, ← ei, List.getElem?_eq_some_iff]
      exact ⟨by omega, by congr 1; omega⟩
    rcases o.fin x hlast with z | z
    · rw [z] at e; cases e
    · rw [z] at e
      obtain ⟨l, hP⟩ := o.hd
      rw [← Option.some.inj e, hP]
      exact List.mem_cons_self
theorem Orb.s_mem (o : Orb n f s P) : s ∈ P := by
  obtain ⟨l, hP⟩ := o.hd
  rw [hP]
  exact List.mem_cons_self
theorem Orb.last (o : Orb n f s P) : ∃ x, P.getLast? = some x ∧ x ∈ P := by
  obtain ⟨l, hP⟩ := o.hd
  have hne : P ≠ [] := by rw [hP]; exact List.cons_ne_nil _ _
  exact ⟨P.getLast hne, List.getLast?_eq_some_getLast hne, List.getLast_mem hne⟩
theorem Orb.close_g (H : HopF n f g) (o : Orb n f s P) (hs : g s = none ∨ ∃ x, P.getLast? = some x ∧ f x = some s) {x y : Int} (hy : y ∈ P) (e : g y = some x) : x ∈ P := by
  obtain ⟨i, hi, ei⟩ := List.mem_iff_getElem.mp hy
  cases i with
  | zero =>
    obtain ⟨l, hP⟩ := o.hd
    have ys : y = s := by subst hP; simpa using ei.symm
    rcases hs with z | ⟨z, hz, fz⟩
    · rw [ys, z] at e; cases e
    · have zi : z ∈ P := List.mem_of_getLast? hz
      have := (H.fin z s (o.ins z zi).1 (o.ins z zi).2 fz).2.2
      rw [ys, this] at e
      rw [← Option.some.inj e]
      exact zi
  | succ i =>
    have e1 : P[i]? = some P[i] := List.getElem?_eq_getElem (by omega)
    have fp := o.path i _ _ e1 (List.getElem?_eq_getElem hi)
    have hm := o.ins _ (List.mem_of_getElem? e1)
    have := (H.fin _ _ hm.1 hm.2 fp).2.2
    rw [ei, e] at this
    rw [Option.some.inj this]
    exact List.mem_of_getElem? e1
theorem back_in (H : HopF n f g) (o : Orb n g s P) {C : List Int} (hC : ∀ x y, x ∈ C → f x = some y → y ∈ C) : ∀ (i : Nat) (a : Int), P[i]? = some a → a ∈ C → s ∈ C
  | 0, a, h, ha => by
    obtain ⟨l, hP⟩ := o.hd
    have : a = s := by subst hP; simpa using h.symm
    exact this ▸ ha
  | i + 1, a, h, ha => by
    have hi : i + 1 < P.length := (List.getElem?_eq_some_iff.mp h).1
    have e1 : P[i]? = some P[i] := List.getElem?_eq_getElem (by omega)
    have gp := o.path i _ _ e1 h
    have hm := o.ins _ (List.mem_of_getElem? e1)
    exact back_in H o hC i P[i] e1 (hC a _ ha (H.gin _ _ hm.1 hm.2 gp).2.2)
end
/-! ### the strand of a place -/
def minL : List Int → Int
  | [] => 0
  | x :: l => l.foldl min x
theorem foldl_min_mem : ∀ (l : List Int) (x : Int), l.foldl min x = x ∨ l.foldl min x ∈ l
  | [], x => Or.inl rfl
  | y :: l, x => by
    rcases foldl_min_mem l (min x y) with h | h
    · rw [List.foldl_cons, h]
      rcases Int.le_total x y with h2 | h2
      · rw [Int.min_eq_left h2]; exact Or.inl rfl
      · rw [Int.min_eq_right h2]; exact Or.inr List.mem_cons_self
    · exact Or.inr (List.mem_cons_of_mem _ h)
theorem minL_mem {l : List Int} (h : l ≠ []) : minL l ∈ l := by
  cases l with
  | nil => exact absurd rfl h
  | cons x l =>
    rcases foldl_min_mem l x with z | z
    · show l.foldl min x ∈ _; rw [z]; exact List.mem_cons_self
    · exact List.mem_cons_of_mem _ z
def strandD (n : Int) (f g : Int → Option Int) (p : Int) : Bool × List Int :=
  let B := walkP g n p
  match g ((B.getLast?).getD 0) with
  | none => (false, walkP f n ((B.getLast?).getD 0))
  | some _ => (true, walkP f n (minL B))
structure StrandOk (n : Int) (f g : Int → Option Int) (d : Bool × List Int) : Prop where
  orb : ∃ s, Orb n f s d.2 ∧ (d.1 = false → g s = none ∧ ∀ x, d.2.getLast? = some x → f x = none) ∧ (d.1 = true → ∀ x, d.2.getLast? = some x → f x = some s)
theorem strand_ok {n : Int} {f g : Int → Option Int} (H : HopF n f g) {p : Int} (h0 : 0 ≤ p) (h1 : p < n) : StrandOk n f g (strandD n f g p) ∧ p ∈ (strandD n f g p).2 := by
  have oB := walk_orb H.swap h0 h1
  obtain ⟨x, hx, xm⟩ := oB.last
  have xi := oB.ins x xm
  unfold strandD
  simp only [hx, Option.getD_some]
  cases e : g x with
  | none =>
    have o := walk_orb H xi.1 xi.2
    have nx : ∀ y, (walkP f n x).getLast? = some y → f y = none := fun y hy => by
      rcases o.fin y hy with z | z
      · exact z
      · have yi := o.ins y (List.mem_of_getLast? hy)
        have := (H.fin y x yi.1 yi.2 z).2.2
        rw [e] at this
        cases this
    obtain ⟨i, hi, ei⟩ := List.mem_iff_getElem.mp xm
    refine ⟨⟨x, o, fun _ => ⟨e, nx⟩, fun h => by cases h⟩, ?_⟩
    exact back_in H oB (fun a b ha hb => o.close_f ha hb) i x (by rw [List.getElem?_eq_getElem hi, ei]) o.s_mem
  | some y =>
    have hy : y = p := by
      rcases oB.fin x hx with z | z
      · rw [e] at z; cases z
      · rw [e] at z; exact Option.some.inj z
    have Bne : walkP g n p ≠ [] := List.cons_ne_nil _ _
    have mm := minL_mem Bne
    have mi := oB.ins _ mm
    have o := walk_orb H mi.1 mi.2
    -- the ring's places have one ahead each
    have closed : ∀ a b, a ∈ walkP g n p → f a = some b → b ∈ walkP g n p := fun a b ha hb => oB.close_g H.swap (Or.inr ⟨x, hx, by rw [e, hy]⟩) ha hb
    have some_ : ∀ a, a ∈ walkP g n p → f a ≠ none := fun a ha z => by
      obtain ⟨i, hi, ei⟩ := List.mem_iff_getElem.mp ha
      cases i with
      | zero =>
        have : a = p := by simpa [walkP] using ei.symm
        have := (H.gin x p xi.1 xi.2 (by rw [e, hy])).2.2
        rw [‹a = p›] at z
        rw [z] at this
        cases this
      | succ i =>
        have e1 : (walkP g n p)[i]? = some (walkP g n p)[i] := List.getElem?_eq_getElem (by omega)
        have gp := oB.path i _ _ e1 (List.getElem?_eq_getElem hi)
        have hm := oB.ins _ (List.mem_of_getElem? e1)
        have := (H.gin _ _ hm.1 hm.2 gp).2.2
        rw [ei, z] at this
        cases this
    have sub : ∀ (i : Nat) (a : Int), (walkP f n (minL (walkP g n p)))[i]? = some a → a ∈ walkP g n p := by
      intro i
      induction i with
      | zero =>
        intro a ha
        have : a = minL (walkP g n p) := by
          have : some (minL (walkP g n p)) = some a := ha
          exact (Option.some.inj this).symm
        rw [this]
        exact mm
      | succ i ih =>
        intro a ha
        have hi : i + 1 < (walkP f n (minL (walkP g n p))).length := (List.getElem?_eq_some_iff.mp ha).1
        have e1 : (walkP f n (minL (walkP g n p)))[i]? = some (walkP f n (minL (walkP g n p)))[i] := List.getElem?_eq_getElem (by omega)
        exact closed _ _ (ih _ e1) (o.path i _ _ e1 ha)
    have nx : ∀ z, (walkP f n (minL (walkP g n p))).getLast? = some z → f z = some (minL (walkP g n p)) := fun z hz => by
      rcases o.fin z hz with q | q
      · obtain ⟨i, hi, ei⟩ := List.mem_iff_getElem.mp (List.mem_of_getLast? hz)
        exact absurd q (some_ z (sub i z (by rw [List.getElem?_eq_getElem hi, ei])))
      · exact q
    obtain ⟨i, hi, ei⟩ := List.mem_iff_getElem.mp mm
    refine ⟨⟨minL (walkP g n p), o, fun h => (by cases h), fun _ => nx⟩, ?_⟩
    exact back_in H oB (fun a b ha hb => o.close_f ha hb) i _ (by rw [List.getElem?_eq_getElem hi, ei]) o.s_mem
/-! ### all strands -/
def strandsTo (n : Int) (f g : Int → Option Int) : Nat → List (Bool × List Int)
  | 0 => []
  | i + 1 => if (i : Int) ∈ (strandsTo n f g i).flatMap (·.2) then strandsTo n f g i else strandsTo n f g i ++ [strandD n f g i]
def strandsD (n : Int) (f g : Int → Option Int) : List (Bool × List Int) := strandsTo n f g n.toNat
structure StrandsOk (n : Int) (f g : Int → Option Int) (i : Nat) (S : List (Bool × List Int)) : Prop where
  each : ∀ d ∈ S, StrandOk n f g d
  nd : (S.flatMap (·.2)).Nodup
  all : ∀ p : Nat, p < i → (p : Int) ∈ S.flatMap (·.2)
  ins : ∀ x ∈ S.flatMap (·.2), 0 ≤ x ∧ x < n
  cf : ∀ x y, x ∈ S.flatMap (·.2) → f x = some y → y ∈ S.flatMap (·.2)
  cg : ∀ x y, x ∈ S.flatMap (·.2) → g x = some y → y ∈ S.flatMap (·.2)
theorem strandOk_close {n : Int} {f g : Int → Option Int} (H : HopF n f g) {d : Bool × List Int} (h : StrandOk n f g d) : (∀ x y, x ∈ d.2 → f x = some y → y ∈ d.2) ∧ (∀ x y, x ∈ d.2 → g x = some y → y ∈ d.2) := by
  obtain ⟨s, o, hl, hr⟩ := h.orb
  refine ⟨fun x y hx e => o.close_f hx e, fun x y hx e => o.close_g H ?_ hx e⟩
  cases hb : d.1 with
  | false => exact Or.inl (hl hb).1
  | true =>
    obtain ⟨z, hz, _⟩ := o.last
    exact Or.inr ⟨z, hz, hr hb z hz⟩
theorem orb_within {n : Int} {f g : Int → Option Int} (H : HopF n f g) {s : Int} {P C : List Int} (o : Orb n f s P) (cf : ∀ x y, x ∈ C → f x = some y → y ∈ C) (cg : ∀ x y, x ∈ C → g x = some y → y ∈ C) {x : Int} (hx : x ∈ P) (hc : x ∈ C) : ∀ y ∈ P, y ∈ C := by
  obtain ⟨i, hi, ei⟩ := List.mem_iff_getElem.mp hx
  have down : ∀ (k : Nat) (a : Int), P[k]? = some a → a ∈ C → s ∈ C := by
    intro k
    induction k with
    | zero =>
      intro a h ha
      obtain ⟨l, hP⟩ := o.hd
      have : a = s := by subst hP; simpa using h.symm
      exact this ▸ ha
    | succ k ih =>
      intro a h ha
      have hk : k + 1 < P.length := (List.getElem?_eq_some_iff.mp h).1
      have e1 : P[k]? = some P[k] := List.getElem?_eq_getElem (by omega)
      have hm := o.ins _ (List.mem_of_getElem? e1)
      exact ih P[k] e1 (cg a _ ha (H.fin _ _ hm.1 hm.2 (o.path k _ _ e1 h)).2.2)
  have hs : s ∈ C := down i x (by rw [List.getElem?_eq_getElem hi, ei]) hc
  have up : ∀ (k : Nat) (a : Int), P[k]? = some a → a ∈ C := by
    intro k
    induction k with
    | zero =>
      intro a h
      obtain ⟨l, hP⟩ := o.hd
      have : a = s := by subst hP; simpa using h.symm
      exact this ▸ hs
    | succ k ih =>
      intro a h
      have hk : k + 1 < P.length := (List.getElem?_eq_some_iff.mp h).1
      have e1 : P[k]? = some P[k] := List.getElem?_eq_getElem (by omega)
      exact cf _ _ (ih _ e1) (o.path k _ _ e1 h)
  intro y hy
  obtain ⟨k, hk, ek⟩ := List.mem_iff_getElem.mp hy
  exact up k y (by rw [List.getElem?_eq_getElem hk, ek])
theorem strandsTo_ok {n : Int} {f g : Int → Option Int} (H : HopF n f g) : ∀ i : Nat, (i : Int) ≤ n → StrandsOk n f g i (strandsTo n f g i)
  | 0, _ => ⟨fun d h => (by cases h), List.nodup_nil, fun p h => absurd h (Nat.not_lt_zero _), fun x h => (by cases h), fun x y h => (by cases h), fun x y h => (by cases h)⟩
  | i + 1, hi => by
    have ih := strandsTo_ok H i (by omega)
    unfold strandsTo
    by_cases hm : (i : Int) ∈ (strandsTo n f g i).flatMap (·.2)
    · rw [if_pos hm]
      refine ⟨ih.each, ih.nd, fun p hp => ?_, ih.ins, ih.cf, ih.cg⟩
      by_cases z : p = i
      · rw [z]; exact hm
      · exact ih.all p (by omega)
    · rw [if_neg hm]
      obtain ⟨ok, pm⟩ := strand_ok H (p := (i : Int)) (by omega) (by omega)
      obtain ⟨c1, c2⟩ := strandOk_close H ok
      obtain ⟨s, o, _⟩ := id ok.orb
      have fm : (strandsTo n f g i ++ [strandD n f g i]).flatMap (·.2) = (strandsTo n f g i).flatMap (·.2) ++ (strandD n f g i).2 := by
        rw [List.flatMap_append]
        simp
      have apart : ∀ x ∈ (strandsTo n f g i).flatMap (·.2), ∀ y ∈ (strandD n f g i).2, x ≠ y := fun x hx y hy z => by
        subst z
        exact hm (orb_within H o ih.cf ih.cg hy hx _ pm)
      refine ⟨fun d hd => ?_, ?_, fun p hp => ?_, fun x hx => ?_, fun x y hx e => ?_, fun x y hx e => ?_⟩
      · rcases List.mem_append.mp hd with z | z
        · exact ih.each d z
        · rw [List.mem_singleton.mp z]; exact ok
      · rw [fm, List.nodup_append]
        exact ⟨ih.nd, o.nd, apart⟩
      · rw [fm, List.mem_append]
        by_cases z : p = i
        · rw [z]; exact Or.inr pm
        · exact Or.inl (ih.all p (by omega))
      · rw [fm, List.mem_append] at hx
        exact hx.elim (ih.ins x) (o.ins x)
      · rw [fm, List.mem_append] at hx ⊢
        exact hx.imp (fun z => ih.cf x y z e) fun z => c1 x y z e
      · rw [fm, List.mem_append] at hx ⊢
        exact hx.imp (fun z => ih.cg x y z e) fun z => c2 x y z e
theorem strandsD_ok {n : Int} {f g : Int → Option Int} (H : HopF n f g) (h0 : 0 ≤ n) : StrandsOk n f g n.toNat (strandsD n f g) := strandsTo_ok H _ (by omega)
/-! ### hops -/
def hopsD (f : Int → Option Int) (P : List Int) : List (Int × Int) := P.filterMap fun p => (f p).map fun q => (p, q)
end Ech

set_option maxHeartbeats 1000000
namespace Ech

/-! ### folding: the rotation of d + e points by d, and the way from gap to gap -/
def stp (d e x : Nat) : Nat := if x < e then x + d else x - e
def Ret (d e b : Nat) : Nat → List Bool → Nat → Prop
  | _, [], _ => False
  | x, c :: w, y => c = decide (x < e) ∧ ((w = [] ∧ stp d e x = y) ∨ (stp d e x < b ∧ Ret d e b (stp d e x) w y))
theorem Ret.mono {d e b b' : Nat} (h : b ≤ b') : ∀ {w : List Bool} {x y : Nat}, Ret d e b x w y → Ret d e b' x w y
  | [], _, _, r => r
  | _ :: _, _, _, ⟨c, r⟩ => ⟨c, r.imp id fun ⟨p, q⟩ => ⟨by omega, Ret.mono h q⟩⟩
theorem Ret.append {d e b : Nat} : ∀ {u v : List Bool} {x y z : Nat}, Ret d e b x u y → y < b → Ret d e b y v z → Ret d e b x (u ++ v) z
  | [], _, _, _, _, r, _, _ => r.elim
  | c :: u, v, x, y, z, ⟨h1, h2⟩, l, r => ⟨h1, Or.inr (by
      rcases h2 with ⟨p, q⟩ | ⟨p, q⟩
      · rw [p, q]; exact ⟨l, r⟩
      · exact ⟨p, Ret.append q l r⟩)⟩
theorem Ret.ne {d e b : Nat} {w : List Bool} {x y : Nat} (r : Ret d e b x w y) : w ≠ [] := by
  cases w with
  | nil => exact r.elim
  | cons => exact List.cons_ne_nil _ _
structure FoldI (d e b left right : Nat) (on back : List Bool) : Prop where
  sum : left + right + b = d + e
  lpos : 0 < left
  rpos : 0 < right
  onw : ∀ x, b ≤ x → x < b + left → Ret d e b x on (x + right)
  bkw : ∀ x, b + left ≤ x → x < b + left + right → Ret d e b x back (x - left)
theorem fold_start {d e : Nat} (hd : 0 < d) (he : 0 < e) : FoldI d e 0 e d [true] [false] := by
  refine ⟨by omega, he, hd, fun x _ h => ⟨?_, Or.inl ⟨rfl, ?_⟩⟩, fun x h _ => ⟨?_, Or.inl ⟨rfl, ?_⟩⟩⟩
  · rw [decide_eq_true (by omega : x < e)]
  · unfold stp; rw [if_pos (by omega)]
  · rw [decide_eq_false (by omega : ¬ x < e)]
  · unfold stp; rw [if_neg (by omega)]
end Ech

namespace Ech

/-! ### strands and gaps -/
def hopOn (n d e : Int) (p : Int) : Option Int := if p + d < n then some (p + d) else if e ≤ p then some (p - e) else none
def hopBk (n d e : Int) (p : Int) : Option Int := if d ≤ p then some (p - d) else if p + e < n then some (p + e) else none
structure Dly (d e n : Nat) : Prop where
  d1 : 1 ≤ d
  e1 : 1 ≤ e
  n1 : 1 ≤ n
  ne : n ≤ d + e
section
variable {d e n : Nat}
theorem hop_stp (D : Dly d e n) {p : Nat} (hp : p < n) : hopOn n d e p = if stp d e p < n then some ((stp d e p : Nat) : Int) else none := by
  have := D.ne
  unfold hopOn stp
  by_cases h1 : p + d < n
  · have : p < e := by omega
    rw [if_pos (by omega), if_pos this, if_pos h1]
    rfl
  · rw [if_neg (by omega)]
    by_cases h2 : p < e
    · rw [if_neg (by omega), if_pos h2, if_neg h1]
    · rw [if_pos (by omega), if_neg h2, if_pos (by omega)]
      congr 1
      omega
theorem hop_F (D : Dly d e n) : HopF n (hopOn n d e) (hopBk n d e) := by
  have := D.ne
  have := D.d1
  have := D.e1
  refine ⟨fun p x h0 h1 h => ?_, fun p x h0 h1 h => ?_⟩
  · unfold hopOn at h
    unfold hopBk
    by_cases c : p + d < n
    · rw [if_pos c] at h
      cases h
      refine ⟨by omega, c, ?_⟩
      rw [if_pos (by omega)]
      congr 1
      omega
    · rw [if_neg c] at h
      by_cases c2 : (e : Int) ≤ p
      · rw [if_pos c2] at h
        cases h
        refine ⟨by omega, by omega, ?_⟩
        rw [if_neg (by omega), if_pos (by omega)]
        congr 1
        omega
      · rw [if_neg c2] at h
        cases h
  · unfold hopBk at h
    unfold hopOn
    by_cases c : (d : Int) ≤ p
    · rw [if_pos c] at h
      cases h
      refine ⟨by omega, by omega, ?_⟩
      rw [if_pos (by omega)]
      congr 1
      omega
    · rw [if_neg c] at h
      by_cases c2 : p + e < n
      · rw [if_pos c2] at h
        cases h
        refine ⟨by omega, by omega, ?_⟩
        rw [if_neg (by omega), if_pos (by omega)]
        congr 1
        omega
      · rw [if_neg c2] at h
        cases h
def inner (d e : Nat) : Nat → List Bool → List Nat
  | _, [] => []
  | x, _ :: w => match w with
    | [] => []
    | _ :: _ => stp d e x :: inner d e (stp d e x) w
theorem inner_cons (x : Nat) (c c' : Bool) (w : List Bool) : inner d e x (c :: c' :: w) = stp d e x :: inner d e (stp d e x) (c' :: w) := rfl
theorem ret_inner {b : Nat} : ∀ {w : List Bool} {x y : Nat}, Ret d e b x w y → ∀ z ∈ inner d e x w, z < b
  | [], _, _, r => r.elim
  | [c], x, y, _ => fun z hz => nomatch hz
  | c :: c' :: w, x, y, ⟨h1, h2⟩ => by
    rcases h2 with ⟨p, _⟩ | ⟨l, q⟩
    · cases p
    · intro z hz
      rw [inner_cons] at hz
      rcases List.mem_cons.mp hz with rfl | hz
      · exact l
      · exact ret_inner q z hz
theorem inner_len : ∀ (w : List Bool) (x : Nat), (inner d e x w).length = w.length - 1
  | [], _ => rfl
  | [_], _ => rfl
  | c :: c' :: w, x => by
    rw [inner_cons, List.length_cons, inner_len (c' :: w)]
    simp
end
end Ech

namespace Ech

/-! ### rings -/
theorem bezI : ∀ (b a : Nat), ∃ x y : Int, (Nat.gcd a b : Int) = a * x + b * y := by
  intro b
  induction b using Nat.strongRecOn with
  | _ b ih =>
    intro a
    cases b with
    | zero => exact ⟨1, 0, by simp⟩
    | succ b =>
      obtain ⟨x, y, h⟩ := ih (a % (b + 1)) (Nat.mod_lt _ (Nat.succ_pos _)) (b + 1)
      refine ⟨y, x - (a / (b + 1) : Nat) * y, ?_⟩
      rw [Nat.gcd_comm, Nat.gcd_rec, Nat.gcd_comm, h]
      have e : ((a % (b + 1) : Nat) : Int) = a - ((b + 1 : Nat) : Int) * ((a / (b + 1) : Nat) : Int) := by
        have := Nat.div_add_mod a (b + 1)
        have e2 : ((b + 1 : Nat) : Int) * ((a / (b + 1) : Nat) : Int) = (((b + 1) * (a / (b + 1)) : Nat) : Int) := by rw [Int.natCast_mul]
        rw [e2]
        omega
      rw [e, Int.sub_mul, Int.mul_sub]
      have e3 : ((b + 1 : Nat) : Int) * (((a / (b + 1) : Nat) : Int) * y) = ((b + 1 : Nat) : Int) * ((a / (b + 1) : Nat) : Int) * y := (Int.mul_assoc _ _ _).symm
      rw [e3]
      omega
section
variable {d e n : Nat}
theorem stp_mod (he : 1 ≤ e) {x : Nat} (hx : x < d + e) : stp d e x = (x + d) % (d + e) := by
  unfold stp
  by_cases c : x < e
  · rw [if_pos c, Nat.mod_eq_of_lt (by omega)]
  · rw [if_neg c, show x + d = x - e + (d + e) by omega, Nat.add_mod_right, Nat.mod_eq_of_lt (by omega)]
theorem closed_class (hd : 1 ≤ d) (he : 1 ≤ e) {C : Nat → Prop} (cl : ∀ x, C x → x < d + e ∧ C (stp d e x)) {x y : Nat} (hx : C x) (hy : y < d + e) (hxy : x % Nat.gcd d e = y % Nat.gcd d e) : C y := by
  have it : ∀ k : Nat, C ((x + k * d) % (d + e)) := fun k => by
    induction k with
    | zero => rw [Nat.zero_mul, Nat.add_zero, Nat.mod_eq_of_lt (cl x hx).1]; exact hx
    | succ k ih =>
      have h := (cl _ ih).2
      rw [stp_mod he (cl _ ih).1, Nat.mod_add_mod] at h
      rwa [Nat.succ_mul, ← Nat.add_assoc]
  have gN : Nat.gcd d (d + e) = Nat.gcd d e := by rw [Nat.gcd_comm, Nat.add_comm, Nat.gcd_add_self_left, Nat.gcd_comm]
  obtain ⟨u, v, h⟩ := bezI (d + e) d
  rw [gN] at h
  -- the difference is a multiple of the divisor
  obtain ⟨t, ht⟩ : ∃ t : Int, (y : Int) - x = (Nat.gcd d e : Int) * t := by
    have h1 := Nat.div_add_mod x (Nat.gcd d e)
    have h2 := Nat.div_add_mod y (Nat.gcd d e)
    refine ⟨(y / Nat.gcd d e : Nat) - (x / Nat.gcd d e : Nat), ?_⟩
    rw [Int.mul_sub, ← Int.natCast_mul, ← Int.natCast_mul]
    omega
  obtain ⟨N, hN⟩ : ∃ N : Int, N = ((d + e : Nat) : Int) := ⟨_, rfl⟩
  have N0 : 0 < N := by omega
  have k0 : 0 ≤ (u * t) % N := Int.emod_nonneg _ (by omega)
  have key : ((x + ((u * t) % N).toNat * d : Nat) : Int) % N = y % N := by
    rw [Int.natCast_add, Int.natCast_mul, Int.toNat_of_nonneg k0]
    have e1 : ((x : Int) + (u * t) % N * d) % N = ((x : Int) + (u * t) * d) % N := by
      rw [Int.add_emod, Int.mul_emod, Int.emod_emod_of_dvd _ (Int.dvd_refl N), ← Int.mul_emod, ← Int.add_emod]
    rw [e1]
    have e2 : (x : Int) + u * t * d = y + N * (-(v * t)) := by
      have e3 : (y : Int) = x + (Nat.gcd d e : Int) * t := by omega
      rw [e3, h, ← hN, Int.add_mul, Int.mul_neg, Int.mul_assoc, Int.mul_assoc, Int.mul_assoc]
      have e4 : u * (t * (d : Int)) = d * (u * t) := by rw [← Int.mul_assoc, Int.mul_comm]
      rw [e4]
      omega
    rw [e2, Int.add_mul_emod_self_left]
  have h3 := it ((u * t) % N).toNat
  have e5 : (x + ((u * t) % N).toNat * d) % (d + e) = y := by
    have : (((x + ((u * t) % N).toNat * d) % (d + e) : Nat) : Int) = (y : Int) := by
      rw [Int.natCast_emod, ← hN, key, hN, Int.emod_eq_of_lt (by omega) (by omega)]
    omega
  rwa [e5] at h3
theorem stp_class {x : Nat} : stp d e x % Nat.gcd d e = x % Nat.gcd d e := by
  unfold stp
  split
  · obtain ⟨a, ha⟩ := Nat.gcd_dvd_left d e
    rw [show x + d = x + Nat.gcd d e * a by omega, Nat.add_mul_mod_self_left]
  · obtain ⟨b, hb⟩ := Nat.gcd_dvd_right d e
    have : x = x - e + Nat.gcd d e * b := by omega
    rw [this, Nat.add_mul_mod_self_left, show x - e + Nat.gcd d e * b - e = x - e by omega]

theorem ring_next {m : Int} {f g : Int → Option Int} {r : Bool × List Int} (ok : StrandOk m f g r) (hr : r.1 = true) : ∀ x ∈ r.2, ∃ y ∈ r.2, f x = some y := by
  obtain ⟨s, o, _, h2⟩ := ok.orb
  intro x hx
  obtain ⟨i, hi, ei⟩ := List.mem_iff_getElem.mp hx
  by_cases hl : i + 1 < r.2.length
  · exact ⟨_, List.getElem_mem hl, by rw [← ei]; exact o.path i _ _ (List.getElem?_eq_getElem hi) (List.getElem?_eq_getElem hl)⟩
  · have hlast : r.2.getLast? = some x := by
      rw [List.getLast?_eq_getElem?, ← ei, List.getElem?_eq_some_iff]
      exact ⟨by omega, by congr 1; omega⟩
    exact ⟨s, o.s_mem, h2 hr x hlast⟩
theorem ring_prev {m : Int} {f g : Int → Option Int} (H : HopF m f g) {r : Bool × List Int} (ok : StrandOk m f g r) (hr : r.1 = true) : ∀ x ∈ r.2, g x ≠ none := by
  obtain ⟨s, o, _, h2⟩ := ok.orb
  intro x hx
  obtain ⟨i, hi, ei⟩ := List.mem_iff_getElem.mp hx
  cases i with
  | zero =>
    obtain ⟨z, hz, zm⟩ := o.last
    obtain ⟨l, hP⟩ := o.hd
    have xs : x = s := by
      have : r.2[0]? = some s := by rw [hP]; rfl
      rw [List.getElem?_eq_getElem hi, ei] at this
      exact Option.some.inj this
    have := (H.fin z s (o.ins z zm).1 (o.ins z zm).2 (h2 hr z hz)).2.2
    rw [xs, this]
    exact fun z => nomatch z
  | succ i =>
    have hi' : i < r.2.length := by omega
    have := o.path i _ _ (List.getElem?_eq_getElem hi') (List.getElem?_eq_getElem hi)
    rw [ei] at this
    have hz := o.ins _ (List.getElem_mem hi')
    rw [(H.fin _ x hz.1 hz.2 this).2.2]
    exact fun z => nomatch z
theorem ring_closed (D : Dly d e n) {r : Bool × List Int} (ok : StrandOk n (hopOn n d e) (hopBk n d e) r) (hr : r.1 = true) : ∀ x : Nat, (x : Int) ∈ r.2 → x < d + e ∧ ((stp d e x : Nat) : Int) ∈ r.2 := by
  intro x hx
  obtain ⟨s, o, _, _⟩ := id ok.orb
  have hb := o.ins _ hx
  have := D.ne
  obtain ⟨y, hy, e1⟩ := ring_next ok hr _ hx
  rw [hop_stp D (by omega)] at e1
  split at e1
  · rw [← Option.some.inj e1] at hy
    exact ⟨by omega, hy⟩
  · cases e1
theorem ring_mem (D : Dly d e n) {r : Bool × List Int} (ok : StrandOk n (hopOn n d e) (hopBk n d e) r) (hr : r.1 = true) {s : Nat} (hs : (s : Int) ∈ r.2) {y : Nat} : (y : Int) ∈ r.2 ↔ y < d + e ∧ y % Nat.gcd d e = s % Nat.gcd d e := by
  have cl := ring_closed D ok hr
  have hd := D.d1
  have he := D.e1
  constructor
  · intro hy
    refine ⟨(cl y hy).1, ?_⟩
    obtain ⟨s0, o, _, h2⟩ := id ok.orb
    -- all places of an orbit have one rest
    have key : ∀ (i : Nat) (a b : Int), r.2[i]? = some a → r.2[0]? = some b → a.toNat % Nat.gcd d e = b.toNat % Nat.gcd d e := by
      intro i
      induction i with
      | zero => intro a b h1 h3; rw [h1] at h3; cases h3; rfl
      | succ i ih =>
        intro a b h1 h3
        have hi : i < r.2.length := by
          have := (List.getElem?_eq_some_iff.mp h1).1
          omega
        have h4 := o.path i _ _ (List.getElem?_eq_getElem hi) h1
        have hz := o.ins _ (List.getElem_mem hi)
        rw [← ih _ b (List.getElem?_eq_getElem hi) h3]
        generalize r.2[i] = c at h4 hz
        obtain ⟨c, rfl⟩ : ∃ k : Nat, c = k := ⟨c.toNat, by omega⟩
        rw [hop_stp D (by omega)] at h4
        split at h4
        · rw [← Option.some.inj h4, Int.toNat_natCast, Int.toNat_natCast]
          exact stp_class
        · cases h4
    obtain ⟨i, hi, ei⟩ := List.mem_iff_getElem.mp hy
    obtain ⟨j, hj, ej⟩ := List.mem_iff_getElem.mp hs
    have h0 : 0 < r.2.length := by omega
    have a1 := key i _ _ (List.getElem?_eq_getElem hi) (List.getElem?_eq_getElem h0)
    have a2 := key j _ _ (List.getElem?_eq_getElem hj) (List.getElem?_eq_getElem h0)
    rw [ei, Int.toNat_natCast] at a1
    rw [ej, Int.toNat_natCast] at a2
    rw [a1, a2]
  · rintro ⟨h1, h2⟩
    exact closed_class (C := fun y => (y : Int) ∈ r.2) hd he cl hs h1 h2.symm
theorem gap_rest (D : Dly d e n) {j : Nat} (j1 : 1 ≤ j) (jg : j ≤ Nat.gcd d e) : (d + e - j) % Nat.gcd d e = Nat.gcd d e - j := by
  obtain ⟨a, ha⟩ := Nat.gcd_dvd_left d e
  obtain ⟨b, hb⟩ := Nat.gcd_dvd_right d e
  have hd := D.d1
  have he := D.e1
  have g0 : 0 < Nat.gcd d e := Nat.gcd_pos_of_pos_left _ (by omega)
  obtain ⟨g, hg⟩ : ∃ g, g = Nat.gcd d e := ⟨_, rfl⟩
  rw [← hg] at ha hb g0 jg ⊢
  have a1 : 1 ≤ a := by
    cases a with
    | zero => omega
    | succ a => omega
  have e1 : d + e - j = (g - j) + g * (a - 1 + b) := by
    have : g * (a - 1 + b) = g * a - g + g * b := by rw [Nat.mul_add, Nat.mul_sub, Nat.mul_one]
    have h3 : g ≤ g * a := Nat.le_mul_of_pos_right _ a1
    omega
  rw [e1, Nat.add_mul_mod_self_left, Nat.mod_eq_of_lt (by omega)]
theorem ring_rest (D : Dly d e n) {r : Bool × List Int} (ok : StrandOk n (hopOn n d e) (hopBk n d e) r) (hr : r.1 = true) {s : Nat} (hs : (s : Int) ∈ r.2) : s % Nat.gcd d e + (d + e - n) < Nat.gcd d e := by
  have hd := D.d1
  have := D.ne
  have g0 : 0 < Nat.gcd d e := Nat.gcd_pos_of_pos_left _ (by omega)
  have r1 := Nat.mod_lt s g0
  refine Nat.lt_of_not_le fun h => ?_
  have e1 := gap_rest D (j := Nat.gcd d e - s % Nat.gcd d e) (by omega) (by omega)
  have h2 : (((d + e - (Nat.gcd d e - s % Nat.gcd d e) : Nat)) : Int) ∈ r.2 := (ring_mem D ok hr hs).mpr ⟨by omega, by rw [e1]; omega⟩
  obtain ⟨s0, o, _, _⟩ := id ok.orb
  have := o.ins _ h2
  omega
theorem rest_ring (D : Dly d e n) {r : Bool × List Int} (ok : StrandOk n (hopOn n d e) (hopBk n d e) r) {s : Nat} (hs : (s : Int) ∈ r.2) (h : s % Nat.gcd d e + (d + e - n) < Nat.gcd d e) : r.1 = true := by
  have hd := D.d1
  have := D.ne
  cases hb : r.1 with
  | true => rfl
  | false =>
    exfalso
    obtain ⟨s0, o, h1, _⟩ := id ok.orb
    obtain ⟨_, h2⟩ := h1 hb
    -- from each place of a line one comes to its end
    have key : ∀ (k i : Nat) (a : Int), r.2.length - i = k → r.2[i]? = some a → ∃ x : Nat, (x : Int) ∈ r.2 ∧ hopOn n d e x = none ∧ x % Nat.gcd d e = a.toNat % Nat.gcd d e := by
      intro k
      induction k with
      | zero =>
        intro i a hk h3
        have := (List.getElem?_eq_some_iff.mp h3).1
        omega
      | succ k ih =>
        intro i a hk h3
        have hm := List.mem_of_getElem? h3
        have hz := o.ins _ hm
        by_cases hl : i + 1 < r.2.length
        · obtain ⟨x, x1, x2, x3⟩ := ih (i + 1) _ (by omega) (List.getElem?_eq_getElem hl)
          refine ⟨x, x1, x2, x3.trans ?_⟩
          have h4 := o.path i _ _ h3 (List.getElem?_eq_getElem hl)
          obtain ⟨c, rfl⟩ : ∃ k : Nat, a = k := ⟨a.toNat, by omega⟩
          rw [hop_stp D (by omega)] at h4
          split at h4
          · rw [← Option.some.inj h4, Int.toNat_natCast, Int.toNat_natCast]
            exact stp_class
          · cases h4
        · refine ⟨a.toNat, by rw [Int.toNat_of_nonneg hz.1]; exact hm, ?_, rfl⟩
          rw [Int.toNat_of_nonneg hz.1]
          refine h2 a ?_
          rw [List.getLast?_eq_getElem?, ← h3]
          congr 1
          have := (List.getElem?_eq_some_iff.mp h3).1
          omega
    obtain ⟨i, hi, ei⟩ := List.mem_iff_getElem.mp hs
    obtain ⟨x, x1, x2, x3⟩ := key _ i _ rfl (List.getElem?_eq_getElem hi)
    rw [ei, Int.toNat_natCast] at x3
    have hx := o.ins _ x1
    rw [hop_stp D (by omega)] at x2
    split at x2
    · cases x2
    · rename_i h5
      -- the next point is a gap
      have h6 : stp d e x < d + e := by unfold stp; split <;> omega
      have h7 : stp d e x % Nat.gcd d e = s % Nat.gcd d e := stp_class.trans x3
      have g0 : 0 < Nat.gcd d e := Nat.gcd_pos_of_pos_left _ (by omega)
      have e1 := gap_rest D (j := d + e - stp d e x) (by omega) (by omega)
      rw [show d + e - (d + e - stp d e x) = stp d e x by omega, h7] at e1
      omega
end
end Ech

namespace Ech

/-! ### how all strands look -/
section
variable {d e n : Nat}
/-! #### the first places -/
end
end Ech

namespace Ech

/-! ### what folding ends with -/
section
variable {d e n : Nat}
end
end Ech

namespace Ech

/-! ### the way around a ring -/
def Pw (d e : Nat) : Nat → List Bool → Nat → Prop
  | x, [], y => x = y
  | x, c :: w, y => c = decide (x < e) ∧ Pw d e (stp d e x) w y
theorem Pw.append {d e : Nat} : ∀ {u v : List Bool} {x y z : Nat}, Pw d e x u y → Pw d e y v z → Pw d e x (u ++ v) z
  | [], _, _, _, _, h, r => by
    have h : _ = _ := h
    subst h
    exact r
  | _ :: _, _, _, _, _, ⟨h1, h2⟩, r => ⟨h1, Pw.append h2 r⟩
section
variable {d e left right : Nat} {on back : List Bool}
end
end Ech

namespace Ech

/-! ### strands of one shape hop on and back in the same order -/
def wayF (f : Int → Option Int) (P : List Int) : List Bool := (hopsD f P).map fun h => decide (h.1 < h.2)
section
variable {d e n : Nat}
/-! #### rings -/
def its (d e : Nat) : Nat → Nat → List Nat
  | _, 0 => []
  | x, k + 1 => x :: its d e (stp d e x) k
theorem hops_counts (D : Dly d e n) : ∀ {P : List Int}, (∀ x ∈ P, 0 ≤ x ∧ x < n) → (((hopsD (hopOn n d e) P).filter fun h => decide (h.1 < h.2)).length = P.countP fun p : Int => decide (p + d < n)) ∧ (hopsD (hopOn n d e) P).length = (P.countP fun p : Int => decide (p + d < n)) + P.countP fun p : Int => decide ((e : Int) ≤ p)
  | [], _ => ⟨rfl, rfl⟩
  | p :: P, h => by
    have hd := D.d1
    have he := D.e1
    have ne := D.ne
    have hp := h p List.mem_cons_self
    obtain ⟨h1, h2⟩ := hops_counts D fun x hx => h x (List.mem_cons_of_mem _ hx)
    have e0 : hopsD (hopOn n d e) (p :: P) = (match hopOn n d e p with | none => [] | some q => [(p, q)]) ++ hopsD (hopOn n d e) P := by
      unfold hopsD
      rw [List.filterMap_cons]
      cases hopOn n d e p <;> rfl
    rw [e0, List.filter_append, List.length_append, List.length_append, h1, h2, List.countP_cons, List.countP_cons]
    unfold hopOn
    by_cases c : p + d < n
    · have c2 : ¬ ((e : Int) ≤ p) := by omega
      have c3 : p < p + d := by omega
      simp [c, c2, c3]
      omega
    · by_cases c2 : (e : Int) ≤ p
      · have c5 : p - (e : Int) ≤ p := by omega
        simp [c, c2, c5]
        omega
      · simp [c, c2]
end
end Ech

namespace Ech

/-! ### places on strands: so many hops, and the steps from a gap to a place -/
def itF (f : Int → Option Int) : Nat → Int → Option Int
  | 0, s => some s
  | k + 1, s => (f s).bind (itF f k)
theorem itF_add {f : Int → Option Int} : ∀ (j k : Nat) (s : Int), itF f (j + k) s = (itF f j s).bind (itF f k)
  | 0, k, s => by rw [Nat.zero_add]; rfl
  | j + 1, k, s => by
    rw [show j + 1 + k = j + k + 1 by omega]
    show (f s).bind (itF f (j + k)) = ((f s).bind (itF f j)).bind (itF f k)
    cases f s with
    | none => rfl
    | some z => exact itF_add j k z
theorem itF_one {f : Int → Option Int} {s : Int} : itF f 1 s = f s := by
  show (f s).bind (itF f 0) = f s
  cases f s <;> rfl
theorem itF_succ {f : Int → Option Int} (k : Nat) (s : Int) : itF f (k + 1) s = (itF f k s).bind f := by
  rw [itF_add k 1 s]
  cases itF f k s with
  | none => rfl
  | some z => exact itF_one
section
variable {n : Int} {f g : Int → Option Int}
theorem itF_in (H : HopF n f g) : ∀ (k : Nat) {s p : Int}, 0 ≤ s → s < n → itF f k s = some p → 0 ≤ p ∧ p < n ∧ itF g k p = some s
  | 0, s, p, s0, s1, h => by
    have : s = p := Option.some.inj h
    subst this
    exact ⟨s0, s1, rfl⟩
  | k + 1, s, p, s0, s1, h => by
    have h : (f s).bind (itF f k) = some p := h
    cases e : f s with
    | none => rw [e] at h; cases h
    | some z =>
      rw [e] at h
      obtain ⟨z0, z1, gz⟩ := H.fin s z s0 s1 e
      obtain ⟨p0, p1, ip⟩ := itF_in H k z0 z1 h
      refine ⟨p0, p1, ?_⟩
      rw [itF_succ, ip]
      exact gz
theorem itF_uniq (H : HopF n f g) {j k : Nat} {s t p : Int} (s0 : 0 ≤ s) (s1 : s < n) (t0 : 0 ≤ t) (t1 : t < n) (gs : g s = none) (gt : g t = none) (hs : itF f j s = some p) (ht : itF f k t = some p) : j = k ∧ s = t := by
  have a := (itF_in H j s0 s1 hs).2.2
  have b := (itF_in H k t0 t1 ht).2.2
  have no : ∀ {i j : Nat} {s t : Int}, i < j → g s = none → itF g i p = some s → itF g j p = some t → False := fun {i j s t} l gs hi hj => by
    rw [show j = i + (j - i - 1 + 1) by omega, itF_add, hi] at hj
    have hj : (g s).bind _ = some t := hj
    rw [gs] at hj
    cases hj
  have : j = k := by
    rcases Nat.lt_trichotomy j k with l | l | l
    · exact (no l gs a b).elim
    · exact l
    · exact (no l gt b a).elim
  subst this
  rw [a] at b
  exact ⟨rfl, Option.some.inj b⟩
theorem ring_far {P : List Int} (ok : StrandOk n f g (true, P)) : ∀ (k : Nat) {p : Int}, p ∈ P → ∃ q, q ∈ P ∧ itF f k p = some q
  | 0, p, hp => ⟨p, hp, rfl⟩
  | k + 1, p, hp => by
    obtain ⟨y, hy, e⟩ := ring_next ok rfl p hp
    obtain ⟨q, hq, e2⟩ := ring_far ok k hy
    refine ⟨q, hq, ?_⟩
    show (f p).bind (itF f k) = some q
    rw [e]
    exact e2
end
section
variable {d e n : Nat}
theorem hop_some (D : Dly d e n) {p : Nat} {z : Int} (hp : p < n) (h : hopOn n d e p = some z) : z = (stp d e p : Nat) ∧ stp d e p < n := by
  rw [hop_stp D hp] at h
  by_cases c : stp d e p < n
  · rw [if_pos c] at h
    exact ⟨(Option.some.inj h).symm, c⟩
  · rw [if_neg c] at h
    cases h
theorem itF_mod (D : Dly d e n) : ∀ (k : Nat) {s p : Int}, 0 ≤ s → s < n → itF (hopOn n d e) k s = some p → p = (s + k * d) % (d + e)
  | 0, s, p, s0, s1, h => by
    have : s = p := Option.some.inj h
    have := D.ne
    subst s
    rw [show ((0 : Nat) : Int) = 0 from rfl, Int.zero_mul, Int.add_zero, Int.emod_eq_of_lt s0 (by omega)]
  | k + 1, s, p, s0, s1, h => by
    have h : (hopOn n d e s).bind (itF (hopOn n d e) k) = some p := h
    cases e1 : hopOn n d e s with
    | none => rw [e1] at h; cases h
    | some z =>
      rw [e1] at h
      obtain ⟨z0, z1, _⟩ := (hop_F D).fin s z s0 s1 e1
      have := itF_mod D k z0 z1 h
      obtain ⟨sn, rfl⟩ : ∃ sn : Nat, s = sn := ⟨s.toNat, by omega⟩
      obtain ⟨ez, _⟩ := hop_some D (by omega) e1
      have nn := D.ne
      rw [this, ez, stp_mod D.e1 (by omega : sn < d + e), Int.natCast_emod, Int.natCast_add, Int.natCast_add, Int.emod_add_emod]
      congr 1
      have : ((k + 1 : Nat) : Int) * d = k * d + d := by rw [Int.natCast_add, Int.add_mul]; simp
      omega
def Lead (d e n x : Nat) (w : List Bool) (y : Nat) : Prop := (w = [] ∧ x = y) ∨ Ret d e n x w y
theorem Lead.app {x y z : Nat} {u v : List Bool} (a : Lead d e n x u y) (h : y < n) (b : Lead d e n y v z) : Lead d e n x (u ++ v) z := by
  rcases a with ⟨rfl, rfl⟩ | a
  · exact b
  · rcases b with ⟨rfl, rfl⟩ | b
    · rw [List.append_nil]; exact Or.inr a
    · exact Or.inr (Ret.append a h b)
theorem path_inner : ∀ (w : List Bool) {x : Nat}, 1 ≤ d → 1 ≤ e → x < d + e → PathF (hopOn ((d + e : Nat) : Int) d e) ((x :: inner d e x w).map fun z : Nat => (z : Int)) ∧ ∀ z ∈ inner d e x w, z < d + e
  | [], x, _, _, _ => ⟨fun i a b _ h => (by simp [inner] at h), fun z hz => nomatch hz⟩
  | [c], x, _, _, _ => ⟨fun i a b _ h => (by simp [inner] at h), fun z hz => nomatch hz⟩
  | c :: c' :: w, x, d1, e1, hx => by
    have lt : stp d e x < d + e := by unfold stp; split <;> omega
    obtain ⟨a, b⟩ := path_inner (c' :: w) d1 e1 lt
    rw [inner_cons]
    refine ⟨?_, fun z hz => ?_⟩
    · rw [List.map_cons, List.map_cons] at *
      refine path_cons ?_ a
      rw [hop_stp (n := d + e) ⟨d1, e1, by omega, Nat.le_refl _⟩ hx, if_pos lt]
    · rcases List.mem_cons.mp hz with rfl | hz
      · exact lt
      · exact b z hz
theorem ret_len {b x y : Nat} {w : List Bool} (d1 : 1 ≤ d) (e1 : 1 ≤ e) (r : Ret d e b x w y) (h : b ≤ x) (hx : x < d + e) : w.length ≤ b + 1 := by
  obtain ⟨pa, ins⟩ := path_inner w d1 e1 hx
  have lt := ret_inner r
  rw [List.map_cons] at pa
  have nd := path_nodup (hop_F (n := d + e) ⟨d1, e1, by omega, Nat.le_refl _⟩) pa (fun z hz => by
    obtain ⟨q, hq, rfl⟩ := List.mem_map.mp hz
    have := lt q hq
    omega) (fun z hz => by
    rcases List.mem_cons.mp hz with rfl | hz
    · omega
    · obtain ⟨q, hq, rfl⟩ := List.mem_map.mp hz
      have := ins q hq
      omega)
  have := nodup_int (n := (b : Int)) (List.nodup_cons.mp nd).2 fun z hz => by
    obtain ⟨q, hq, rfl⟩ := List.mem_map.mp hz
    have := lt q hq
    omega
  rw [List.length_map, inner_len] at this
  omega
structure GapI (d e n p b left right os bs place total : Nat) : Prop where
  fold : ∃ on back, FoldI d e b left right on back ∧ on.length = os ∧ back.length = bs
  lead : ∃ w, Lead d e n place w p ∧ w.length = total
  gc : Nat.gcd left right = Nat.gcd d e
  bn : b ≤ n
  bp : b ≤ place
  up : place < d + e
  rest : place % Nat.gcd d e = p % Nat.gcd d e
theorem GapI.start (D : Dly d e n) {p : Nat} (hp : p < n) : GapI d e n p 0 e d 1 1 p 0 :=
  ⟨⟨_, _, fold_start D.d1 D.e1, rfl, rfl⟩, ⟨[], Or.inl ⟨rfl, rfl⟩, rfl⟩, Nat.gcd_comm _ _, Nat.zero_le _, Nat.zero_le _, by have := D.ne; omega, rfl⟩
theorem mod_more {x l g : Nat} (h : g ∣ l) : (x + l) % g = x % g := by
  obtain ⟨m, rfl⟩ := h
  exact Nat.add_mul_mod_self_left x g m
theorem GapI.dl {p b left right os bs place total : Nat} (I : GapI d e n p b left right os bs place total) : Nat.gcd d e ∣ left ∧ Nat.gcd d e ∣ right := by
  rw [← I.gc]
  exact ⟨Nat.gcd_dvd_left _ _, Nat.gcd_dvd_right _ _⟩
theorem GapI.same (D : Dly d e n) {p b left right os bs place total : Nat} (I : GapI d e n p b left right os bs place total) (hp : p < n) (no : ¬ p % Nat.gcd d e + (d + e - n) < Nat.gcd d e) (hn : place < n) (h : left = right ∨ n < b + left ∧ n < b + right) : GapI d e n p b left right os bs (place + left) (total + bs) := by
  obtain ⟨on, back, F, eo, eb⟩ := I.fold
  obtain ⟨w, L, el⟩ := I.lead
  have bp := I.bp
  have bn := I.bn
  have s := F.sum
  have nn := D.ne
  have lt : place < b + right := by
    rcases h with h | h
    · subst h
      have g1 := I.gc
      rw [Nat.gcd_self] at g1
      refine Nat.lt_of_not_le fun c => no ?_
      rw [← I.rest, ← g1]
      have m : place % left = place - (b + left) := by
        obtain ⟨m, hm⟩ : ∃ m, b + left = left * m := by
          have h1 : left ∣ d + e := by rw [g1]; exact Nat.dvd_add (Nat.gcd_dvd_left _ _) (Nat.gcd_dvd_right _ _)
          obtain ⟨q, hq⟩ := h1
          refine ⟨q - 1, ?_⟩
          rw [Nat.mul_sub, Nat.mul_one, ← hq]
          omega
        rw [show place = (place - (b + left)) + (b + left) by omega, hm, Nat.add_mul_mod_self_left, ← hm, Nat.mod_eq_of_lt (by omega)]
        omega
      rw [m]
      omega
    · omega
  have r : Ret d e n (place + left) back place := by
    have := (F.bkw (place + left) (by omega) (by omega)).mono bn
    rwa [Nat.add_sub_cancel] at this
  refine ⟨⟨on, back, F, eo, eb⟩, ⟨back ++ w, Lead.app (Or.inr r) hn L, by rw [List.length_append]; omega⟩, I.gc, bn, by omega, by omega, ?_⟩
  rw [mod_more I.dl.1]
  exact I.rest
theorem GapI.small (D : Dly d e n) {p b left right os bs place total : Nat} (I : GapI d e n p b left right os bs place total) : os ≤ b + 1 ∧ bs ≤ b + 1 := by
  obtain ⟨on, back, F, rfl, rfl⟩ := I.fold
  have := F.lpos
  have := F.rpos
  have := F.sum
  exact ⟨ret_len D.d1 D.e1 (F.onw b (by omega) (by omega)) (by omega) (by omega), ret_len D.d1 D.e1 (F.bkw (b + left) (by omega) (by omega)) (by omega) (by omega)⟩
structure GapOf (d e n p y k : Nat) : Prop where
  y0 : n ≤ y
  y1 : y < d + e
  ret : ∃ w, Ret d e n y w p ∧ w.length = k
theorem GapI.fin {p b left right os bs place total : Nat} (I : GapI d e n p b left right os bs place total) (hp : p < n) (h : n ≤ place) : GapOf d e n p place total := by
  obtain ⟨w, L, el⟩ := I.lead
  refine ⟨h, I.up, w, ?_, el⟩
  rcases L with ⟨_, e⟩ | L
  · omega
  · exact L
structure LineAt (n d e p s : Int) (k : Nat) : Prop where
  s0 : 0 ≤ s
  s1 : s < n
  hd : hopBk n d e s = none
  it : itF (hopOn n d e) k s = some p
theorem ret_it (D : Dly d e n) : ∀ {w : List Bool} {x p : Nat}, x < n → p < n → Ret d e n x w p → itF (hopOn n d e) w.length x = some (p : Int)
  | [], _, _, _, _, r => r.elim
  | c :: w, x, p, hx, hp, ⟨_, h2⟩ => by
    show (hopOn n d e x).bind (itF (hopOn n d e) w.length) = some (p : Int)
    have lt : stp d e x < n := by
      rcases h2 with ⟨_, q⟩ | ⟨l, _⟩
      · rw [q]; exact hp
      · exact l
    rw [hop_stp D hx, if_pos lt]
    rcases h2 with ⟨rfl, q⟩ | ⟨_, q⟩
    · rw [q]; rfl
    · exact ret_it D lt hp q
theorem GapOf.line (D : Dly d e n) {p y k : Nat} (h : GapOf d e n p y k) (hp : p < n) : 1 ≤ k ∧ e ≤ y ∧ LineAt n d e p (stp d e y : Nat) (k - 1) := by
  obtain ⟨w, r, el⟩ := h.ret
  have y0 := h.y0
  have y1 := h.y1
  match w, r, el with
  | c :: w, ⟨_, h2⟩, el =>
    have lt : stp d e y < n := by
      rcases h2 with ⟨_, q⟩ | ⟨l, _⟩
      · rw [q]; exact hp
      · exact l
    have ye : e ≤ y := by
      refine Nat.le_of_not_lt fun c => ?_
      unfold stp at lt
      rw [if_pos c] at lt
      omega
    have es : stp d e y = y - e := by unfold stp; rw [if_neg (by omega)]
    rw [List.length_cons] at el
    refine ⟨by omega, ye, by omega, by omega, ?_, ?_⟩
    · rw [es]
      unfold hopBk
      rw [if_neg (by omega), if_neg (by omega)]
    · rw [← el, Nat.add_sub_cancel]
      rcases h2 with ⟨rfl, q⟩ | ⟨_, q⟩
      · rw [q]; rfl
      · exact ret_it D lt hp q
end
end Ech

namespace Ech

/-! ### places on rings, and how far strands go on -/
section
variable {d e n : Nat}
theorem hop_swap (D : Dly d e n) : hopBk n e d = hopOn n d e := by
  funext p
  have := D.ne
  unfold hopBk hopOn
  by_cases h : p + (d : Int) < n
  · rw [if_neg (by omega), if_pos h, if_pos h]
  · rw [if_neg h]
    by_cases h2 : (e : Int) ≤ p
    · rw [if_pos h2, if_neg h]
    · rw [if_neg h2, if_neg h]
theorem Dly.swap (D : Dly d e n) : Dly e d n := ⟨D.e1, D.d1, D.n1, by have := D.ne; omega⟩
theorem LineAt.left (D : Dly d e n) {p s : Int} {k : Nat} (h : LineAt n e d p s k) : itF (hopOn n d e) k p = some s ∧ hopOn n d e s = none := by
  have h1 := (itF_in (hop_F D.swap) k h.s0 h.s1 h.it).2.2
  have h2 := h.hd
  rw [hop_swap D] at h1 h2
  exact ⟨h1, h2⟩
def onRing (d e n p : Nat) : Prop := p % Nat.gcd d e + (d + e - n) < Nat.gcd d e
instance (d e n p : Nat) : Decidable (onRing d e n p) := by unfold onRing; infer_instance
theorem kind_of (D : Dly d e n) {r : Bool × List Int} (ok : StrandOk n (hopOn n d e) (hopBk n d e) r) {p : Nat} (hp : (p : Int) ∈ r.2) : r.1 = decide (onRing d e n p) := by
  by_cases h : onRing d e n p
  · rw [decide_eq_true h]
    exact rest_ring D ok hp h
  · rw [decide_eq_false h]
    cases hr : r.1 with
    | false => rfl
    | true => exact absurd (ring_rest D ok hr hp) h
theorem gcd_pos' (D : Dly d e n) : 0 < Nat.gcd d e := Nat.gcd_pos_of_pos_left _ D.d1
theorem onRing_far (D : Dly d e n) {p : Nat} (hp : p < n) (h : onRing d e n p) (k : Nat) : ∃ q : Nat, q < n ∧ onRing d e n q ∧ itF (hopOn n d e) k p = some (q : Int) ∧ q = (p + k * d) % (d + e) := by
  obtain ⟨ok, hm⟩ := strand_ok (hop_F D) (p := (p : Int)) (by omega) (by omega)
  have hr := rest_ring D ok hm h
  generalize strandD n (hopOn n d e) (hopBk n d e) p = r at ok hm hr
  obtain ⟨b, P⟩ := r
  cases hr
  obtain ⟨q, hq, e1⟩ := ring_far ok k hm
  obtain ⟨_, o, _⟩ := ok.orb
  have qi := o.ins q hq
  obtain ⟨qn, rfl⟩ : ∃ qn : Nat, q = qn := ⟨q.toNat, by omega⟩
  have := kind_of D ok hq
  refine ⟨qn, by omega, of_decide_eq_true this.symm, e1, ?_⟩
  have e2 := itF_mod D k (by omega) (by omega) e1
  rw [← Int.natCast_mul, ← Int.natCast_add, ← Int.natCast_add, ← Int.natCast_emod] at e2
  exact_mod_cast e2
def InvOf (a m x : Nat) : Prop := x < m ∧ a * x % m = 1 % m
structure InvI (a m one other : Nat) (first second : Int) : Prop where
  g : Nat.gcd one other = 1
  c1 : (m : Int) ∣ first * a - one
  c2 : (m : Int) ∣ second * a - other
  b : ∃ s F S : Int, (s = 1 ∨ s = -1) ∧ 0 ≤ F ∧ 0 ≤ S ∧ first = -s * F ∧ second = s * S ∧ F * other + S * one = m
  lt : other < one
  le : one ≤ m
theorem InvI.start {a m : Nat} (m0 : 0 < m) (h : Nat.gcd a m = 1) : InvI a m m (a % m) 0 1 := by
  refine ⟨?_, ⟨-1, by omega⟩, ⟨((a / m : Nat) : Int), ?_⟩, ⟨1, 0, 1, Or.inl rfl, by omega, by omega, by omega, by omega, by omega⟩, Nat.mod_lt _ m0, Nat.le_refl _⟩
  · rw [← h, Nat.gcd_comm a m, Nat.gcd_rec m a, Nat.gcd_comm]
  · have := Nat.div_add_mod a m
    rw [← Int.natCast_mul]
    omega
theorem InvI.step {a m one other : Nat} {first second : Int} (I : InvI a m one other first second) (h : 0 < other) : InvI a m other (one % other) second (first - (one / other : Nat) * second) := by
  have dm := Nat.div_add_mod one other
  have dmi : (other : Int) * (one / other : Nat) + (one % other : Nat) = one := by rw [← Int.natCast_mul]; exact_mod_cast dm
  refine ⟨?_, I.c2, ?_, ?_, Nat.mod_lt _ h, by have := I.lt; have := I.le; omega⟩
  · rw [← I.g, Nat.gcd_comm one other, Nat.gcd_rec other one, Nat.gcd_comm]
  · have e : (first - (one / other : Nat) * second) * a - (one % other : Nat) = (first * a - one) - (one / other : Nat) * (second * a - other) := by
      rw [Int.sub_mul, Int.mul_sub, Int.mul_assoc]
      have : ((one / other : Nat) : Int) * other = other * (one / other : Nat) := Int.mul_comm _ _
      omega
    rw [e]
    exact Int.dvd_sub I.c1 (Int.dvd_mul_of_dvd_right I.c2)
  · obtain ⟨s, F, S, hs, hF, hS, e1, e2, e3⟩ := I.b
    have t0 : (0 : Int) ≤ ((one / other : Nat) : Int) := Int.natCast_nonneg _
    have tS := Int.mul_nonneg t0 hS
    refine ⟨-s, S, F + (one / other : Nat) * S, by omega, hS, by omega, by rw [e2, Int.neg_neg], ?_, ?_⟩
    · rw [e1, e2, Int.neg_mul, Int.neg_mul, Int.mul_add]
      have : ((one / other : Nat) : Int) * (s * S) = s * ((one / other : Nat) * S) := by rw [← Int.mul_assoc, Int.mul_comm _ s, Int.mul_assoc]
      omega
    · rw [Int.add_mul, ← e3]
      have a1 : S * (one % other : Nat) = S * one - S * (other * (one / other : Nat)) := by rw [← Int.mul_sub]; congr 1; omega
      have a2 : ((one / other : Nat) : Int) * S * other = S * (other * (one / other : Nat)) := by rw [Int.mul_comm _ S, Int.mul_assoc, Int.mul_comm _ (other : Int)]
      rw [a1, a2]
      omega
theorem InvI.small {a m one other : Nat} {first second : Int} (I : InvI a m one other first second) : second.natAbs ≤ m ∧ one / other ≤ m := by
  obtain ⟨s, F, S, hs, hF, hS, e1, e2, e3⟩ := I.b
  have lt := I.lt
  have le := I.le
  refine ⟨?_, Nat.le_trans (Nat.div_le_self _ _) le⟩
  have h1 : S * 1 ≤ S * one := Int.mul_le_mul_of_nonneg_left (by omega) hS
  have h2 : 0 ≤ F * other := Int.mul_nonneg hF (by omega)
  have h3 : second.natAbs = S.natAbs := by
    rcases hs with rfl | rfl
    · rw [e2, Int.one_mul]
    · rw [e2, Int.neg_mul, Int.one_mul, Int.natAbs_neg]
  omega
theorem InvI.fin {a m one : Nat} {first second : Int} (I : InvI a m one 0 first second) (m0 : 0 < m) : InvOf a m (first % m).toNat := by
  have m1 : (0 : Int) < m := by omega
  have x0 := Int.emod_nonneg first (by omega : (m : Int) ≠ 0)
  have x1 := Int.emod_lt_of_pos first m1
  have g := I.g
  rw [Nat.gcd_zero_right] at g
  subst g
  refine ⟨by omega, ?_⟩
  have e : ((a * (first % m).toNat % m : Nat) : Int) = ((1 % m : Nat) : Int) := by
    have h1 : (first * a) % m = ((1 : Nat) : Int) % m := Int.emod_eq_emod_iff_emod_sub_eq_zero.mpr (Int.emod_eq_zero_of_dvd I.c1)
    rw [Int.natCast_emod, Int.natCast_emod, Int.natCast_mul, Int.toNat_of_nonneg x0, Int.mul_comm, Int.mul_emod, Int.emod_emod_of_dvd _ (Int.dvd_refl _), ← Int.mul_emod]
    exact h1
  exact_mod_cast e
def around (d e : Nat) : Nat := (d + e) / Nat.gcd d e
theorem around_eq (D : Dly d e n) : around d e * Nat.gcd d e = d + e := Nat.div_mul_cancel (Nat.dvd_add (Nat.gcd_dvd_left _ _) (Nat.gcd_dvd_right _ _))
theorem around_sum (D : Dly d e n) : around d e = d / Nat.gcd d e + e / Nat.gcd d e := by
  have g0 := gcd_pos' D
  unfold around
  obtain ⟨a, ha⟩ := Nat.gcd_dvd_left d e
  obtain ⟨b, hb⟩ := Nat.gcd_dvd_right d e
  generalize Nat.gcd d e = g at *
  subst ha hb
  rw [← Nat.mul_add, Nat.mul_div_cancel_left _ g0, Nat.mul_div_cancel_left _ g0, Nat.mul_div_cancel_left _ g0]
theorem around_two (D : Dly d e n) : 2 ≤ around d e := by
  have h0 := gcd_pos' D
  have h1 : 1 ≤ d / Nat.gcd d e := Nat.div_pos (Nat.gcd_le_left _ D.d1) h0
  have h2 : 1 ≤ e / Nat.gcd d e := Nat.div_pos (Nat.gcd_le_right _ D.e1) h0
  rw [around_sum D]
  omega
theorem around_cop (D : Dly d e n) : Nat.gcd (d / Nat.gcd d e) (around d e) = 1 := by
  rw [around_sum D, Nat.gcd_comm, Nat.add_comm, Nat.gcd_add_self_left, Nat.gcd_comm]
  exact Nat.gcd_div_gcd_div_gcd_of_pos_left D.d1
structure RingAt (n d e p s k : Nat) : Prop where
  on : onRing d e n p
  fs : s = p % Nat.gcd d e
  k1 : k < around d e
  it : itF (hopOn n d e) k s = some (p : Int)
theorem RingAt.of (D : Dly d e n) {p x : Nat} (hp : p < n) (h : onRing d e n p) (hx : InvOf (d / Nat.gcd d e) (around d e) x) : RingAt n d e p (p % Nat.gcd d e) (p / Nat.gcd d e * x % around d e) := by
  have g0 := gcd_pos' D
  have a2 := around_two D
  have rl : p % Nat.gcd d e ≤ p := Nat.mod_le _ _
  have hr : onRing d e n (p % Nat.gcd d e) := by
    unfold onRing
    rw [Nat.mod_mod]
    exact h
  refine ⟨h, rfl, Nat.mod_lt _ (by omega), ?_⟩
  obtain ⟨q, q1, _, e1, e2⟩ := onRing_far D (p := p % Nat.gcd d e) (by omega) hr (p / Nat.gcd d e * x % around d e)
  rw [e1]
  congr 1
  have nn := D.ne
  have : q = p := by
    rw [e2]
    have ae := around_eq D
    have dg : d = Nat.gcd d e * (d / Nat.gcd d e) := (Nat.mul_div_cancel' (Nat.gcd_dvd_left d e)).symm
    have pd := Nat.div_add_mod p (Nat.gcd d e)
    have hx2 := hx.2
    generalize hg : Nat.gcd d e = g at *
    generalize hA : around d e = A at *
    generalize hd' : d / g = d' at *
    generalize hP : p / g = P at *
    -- t * d' and P leave the same rest by A
    have k1 : P * x % A * d' % A = P % A := by
      rw [Nat.mod_mul_mod, Nat.mul_assoc, Nat.mul_comm x d', Nat.mul_mod, hx2, ← Nat.mul_mod, Nat.mul_one]
    have k2 : P * x % A * d % (A * g) = P * g % (A * g) := by
      rw [dg, Nat.mul_comm g d', ← Nat.mul_assoc, Nat.mul_mod_mul_right, Nat.mul_mod_mul_right, k1]
    rw [← ae, Nat.add_mod, k2, ← Nat.add_mod, Nat.mul_comm P g, Nat.add_comm, pd, Nat.mod_eq_of_lt (by omega)]
  rw [this]
theorem ring_spot (D : Dly d e n) {s j k : Nat} {p : Int} (hs : s < n) (hj : j < around d e) (hk : k < around d e) (a : itF (hopOn n d e) j s = some p) (b : itF (hopOn n d e) k s = some p) : j = k := by
  have key : ∀ {j k : Nat}, j ≤ k → k < around d e → itF (hopOn n d e) j s = some p → itF (hopOn n d e) k s = some p → j = k := fun {j k} l hk a b => by
    have a1 := itF_mod D j (by omega) (by omega) a
    have b1 := itF_mod D k (by omega) (by omega) b
    have e1 : (s + j * d) % (d + e) = (s + k * d) % (d + e) := by
      rw [a1, ← Int.natCast_mul, ← Int.natCast_add, ← Int.natCast_add, ← Int.natCast_emod, ← Int.natCast_mul, ← Int.natCast_add, ← Int.natCast_emod] at b1
      exact_mod_cast b1
    obtain ⟨i, rfl⟩ : ∃ i, k = j + i := ⟨k - j, by omega⟩
    have dv : (d + e) ∣ i * d := by
      rw [Nat.add_mul, ← Nat.add_assoc] at e1
      have := Nat.sub_mod_eq_zero_of_mod_eq e1.symm
      rw [Nat.add_sub_cancel_left] at this
      exact Nat.dvd_of_mod_eq_zero this
    have dv2 : around d e ∣ i * (d / Nat.gcd d e) := by
      have g0 := gcd_pos' D
      have dg : i * d = i * (d / Nat.gcd d e) * Nat.gcd d e := by rw [Nat.mul_assoc, Nat.div_mul_cancel (Nat.gcd_dvd_left d e)]
      rw [← around_eq D, dg] at dv
      exact Nat.dvd_of_mul_dvd_mul_right g0 dv
    have dv3 : around d e ∣ i := Nat.Coprime.dvd_of_dvd_mul_right (by rw [Nat.Coprime, Nat.gcd_comm]; exact around_cop D) dv2
    rcases Nat.eq_zero_or_pos i with z | z
    · omega
    · have := Nat.le_of_dvd z dv3
      omega
  rcases Nat.le_total j k with l | l
  · exact key l hk a b
  · exact (key l hj b a).symm
end
end Ech

set_option maxHeartbeats 4000000
/-! ways of steps as objects -/
namespace Ech
open PySem PySem.Spec PyProof.Rows L2
open He (ga ma)
def stF (a b c : Int) (s e : Bool) (h u : V) : List (PySem.Str × V) := [("steps", .int a), ("ons", .int b), ("backs", .int c), ("starts_on", .bl s), ("ends_on", .bl e), ("halves", h), ("unit", u)]
section
variable {a b c x : Int} {s e z : Bool} {h u y : V}
end
def fstW (w : List Bool) : Bool := w.head?.getD false
def lstW (w : List Bool) : Bool := w.getLast?.getD false
def StepAt (K : PySem.W.Frag) (H : Hp) (a : Addr) (w : List Bool) : Prop := w ≠ [] ∧ ∃ dx h u, H a = some (.ins (ga K "Step") dx (stF w.length (w.count true : Nat) (w.count false : Nat) (fstW w) (lstW w) h u))
theorem StepAt.ex {K : PySem.W.Frag} {H H' : Hp} {a : Addr} {w : List Bool} (h : StepAt K H a w) (x : Ex H H') : StepAt K H' a w := by
  obtain ⟨ne, dx, i, u, e⟩ := h
  exact ⟨ne, dx, i, u, x _ _ e⟩
theorem Ex.newer {H0 H : Hp} {l : Addr} {o : HO} (x : Ex H0 H) (n : H0 l = none) : Ex H0 (upd H l o) := fun b u e => by
  rw [upd_ne (fun z => by rw [z, n] at e; cases e)]
  exact x _ _ e

def kindS (c : Int) : PySem.Str := if c = 1 then "ring" else "line"
def shpV : List Int → List V
  | [] => []
  | c :: r => .str (kindS c) :: r.map V.int
def WayAt (K : PySem.W.Frag) (H : Hp) (v : V) (p : List Bool × Int) : Prop := ∃ t s, v = .ref t ∧ H t = some (.tup [.ref s, .int p.2]) ∧ StepAt K H s p.1
theorem WayAt.ex {K : PySem.W.Frag} {H H' : Hp} {v : V} {p : List Bool × Int} (h : WayAt K H v p) (x : Ex H H') : WayAt K H' v p := by
  obtain ⟨t, s, e, h1, h2⟩ := h
  exact ⟨t, s, e, x _ _ h1, h2.ex x⟩
end Ech

/-! sorted() of data that are alike, coded by rows of ints; of a dict whose keys are tuples -/
namespace EchT
open PySem PySem.W PyProof.Rows
open EchS (isort)
end EchT
namespace Ech
open PySem PySem.Spec PyProof.Rows L2
open PySem.W (EachIs dataLt dataLe AllAlike Sortable)
open EchS (isort)
section
variable {X : Cx} {pins : List (Addr × Obj)} {σ : L2.St} {H : Hp} {s : Shared}
end
/-! ### shapes as data -/
end Ech
namespace Ech
open PySem PySem.Spec PyProof.Rows L2
open PySem.W (EachIs dataLt dataLe AllAlike Sortable)
open EchS (isort)
/-! ### sorted(d), d a dict whose keys are shapes -/
end Ech

/-! shapes with their numbers: as data, as a dict -/
namespace Ech
open PySem PySem.Spec PyProof.Rows L2
open EchS (isort)
open He (ga ma)
def uniq {α : Type} [DecidableEq α] : List α → List α
  | [] => []
  | x :: xs => if x ∈ uniq xs then uniq xs else x :: uniq xs
theorem mem_uniq {α : Type} [DecidableEq α] {a : α} : ∀ {l : List α}, a ∈ uniq l ↔ a ∈ l
  | [] => Iff.rfl
  | x :: xs => by
    unfold uniq
    by_cases h : x ∈ uniq xs
    · rw [if_pos h, mem_uniq, List.mem_cons]
      constructor
      · exact Or.inr
      · rintro (rfl | z)
        · exact mem_uniq.mp h
        · exact z
    · rw [if_neg h, List.mem_cons, List.mem_cons, mem_uniq]
theorem nodup_uniq {α : Type} [DecidableEq α] : ∀ l : List α, (uniq l).Nodup
  | [] => List.nodup_nil
  | x :: xs => by
    unfold uniq
    by_cases h : x ∈ uniq xs
    · rw [if_pos h]; exact nodup_uniq xs
    · rw [if_neg h]; exact List.nodup_cons.mpr ⟨h, nodup_uniq xs⟩
abbrev Sent := List Int × List Bool × Int
/-! ### the dict -/
def SentAt (K : PySem.W.Frag) (H : Hp) (v : V) (x : Sent) : Prop := ∃ t s a, v = .ref t ∧ H t = some (.tup [.ref s, .ref a, .int x.2.2]) ∧ H s = some (.tup (shpV x.1)) ∧ StepAt K H a x.2.1
theorem SentAt.ex {K : PySem.W.Frag} {H H' : Hp} {v : V} {x : Sent} (h : SentAt K H v x) (e : Ex H H') : SentAt K H' v x := by
  obtain ⟨t, s, a, h1, h2, h3, h4⟩ := h
  exact ⟨t, s, a, h1, e _ _ h2, e _ _ h3, h4.ex e⟩
section
variable {K : PySem.W.Frag} {H : Hp} {β : Type} {R : V → List Int × β → Prop}
end
/-! ### what the entries say -/
end Ech
namespace Ech
open PySem PySem.Spec PyProof.Rows L2
open EchS (isort)
open He (ga ma)
/-! ### the shapes of a song -/
/-! ### a heap without one place -/
def dropA (H : Hp) (D : Addr) : Hp := fun b => if b = D then none else H b
section
variable {H H' Hr : Hp} {D : Addr}
theorem dropA_ne {b : Addr} (h : b ≠ D) : dropA H D b = H b := if_neg h
end
theorem StepAt.drop {K : PySem.W.Frag} {H : Hp} {D a : Addr} {w : List Bool} {kvs : List (List Key × V)} (h : StepAt K H a w) (hD : H D = some (.dT kvs)) : StepAt K (dropA H D) a w := by
  obtain ⟨ne, dx, i, u, e⟩ := h
  exact ⟨ne, dx, i, u, by rw [dropA_ne (fun z => by rw [z, hD] at e; cases e)]; exact e⟩
theorem WayAt.drop {K : PySem.W.Frag} {H : Hp} {D : Addr} {v : V} {p : List Bool × Int} {kvs : List (List Key × V)} (h : WayAt K H v p) (hD : H D = some (.dT kvs)) : WayAt K (dropA H D) v p := by
  obtain ⟨t, s, e, h1, h2⟩ := h
  exact ⟨t, s, e, by rw [dropA_ne (fun z => by rw [z, hD] at h1; cases h1)]; exact h1, h2.drop hD⟩
end Ech
namespace Ech
open PySem PySem.Spec PyProof.Rows L2
open EchS (isort)
theorem uniq_le {α : Type} [DecidableEq α] {l m : List α} (h : ∀ a ∈ l, a ∈ m) : (uniq l).length ≤ m.length := by
  have key : ∀ (l : List α) (m : List α), l.Nodup → (∀ a ∈ l, a ∈ m) → l.length ≤ m.length := by
    intro l
    induction l with
    | nil => intro m _ _; exact Nat.zero_le _
    | cons x l ih =>
      intro m nd hm
      have hx := hm x List.mem_cons_self
      have h2 := ih (m.erase x) (List.nodup_cons.mp nd).2 fun a ha => (List.mem_erase_of_ne (fun z => (List.nodup_cons.mp nd).1 (by rw [← z]; exact ha))).mpr (hm a (List.mem_cons_of_mem _ ha))
      rw [List.length_erase_of_mem hx] at h2
      have := List.length_pos_of_mem hx
      rw [List.length_cons]
      omega
  exact key _ m (nodup_uniq l) fun a ha => h a (mem_uniq.mp ha)
/-! ### counts of shapes one by one -/
end Ech

/-! ways of steps with tables -/
namespace Ech
open PySem PySem.Spec PyProof.Rows L2
open He (ga ma)
structure TPar where
  L : Nat
  on : List (List (Option Int))
  bk : List (List (Option Int))
def tabW (T : TPar) : List Bool → List (List (Option Int))
  | [] => likeRows T.L
  | c :: w => mulRows (if c then T.on else T.bk) (tabW T w)
section
variable {T : TPar}
end
def tsF (a b c : Int) (s e : Bool) (h u wh al bf bl bt : V) : List (PySem.Str × V) := [("steps", .int a), ("ons", .int b), ("backs", .int c), ("starts_on", .bl s), ("ends_on", .bl e), ("halves", h), ("unit", u), ("whole", wh), ("alike", al), ("behind_first", bf), ("before_last", bl), ("between", bt)]
section
variable {a b c x : Int} {s e z : Bool} {h u wh al bf bl bt y : V}
end
def TSt (K : PySem.W.Frag) (T : TPar) (H : Hp) (a : Addr) (w : List Bool) : Prop := w ≠ [] ∧ ∃ dx h u wh al bf bl bt, H a = some (.ins (ga K "TableStep") dx (tsF w.length (w.count true : Nat) (w.count false : Nat) (fstW w) (lstW w) h u (.ref wh) (.ref al) (.ref bf) (.ref bl) bt)) ∧
  TabAt K H wh (tabW T w) ∧ TabAt K H al (likeRows T.L) ∧ TabAt K H bf (tabW T w.tail) ∧ TabAt K H bl (tabW T w.dropLast) ∧ (w.length = 1 → bt = .non) ∧ (w.length ≠ 1 → ∃ b, bt = .ref b ∧ TabAt K H b (tabW T w.tail.dropLast))
theorem TSt.ex {K : PySem.W.Frag} {T : TPar} {H H' : Hp} {a : Addr} {w : List Bool} (h : TSt K T H a w) (x : Ex H H') : TSt K T H' a w := by
  obtain ⟨ne, dx, i, u, wh, al, bf, bl, bt, e, t1, t2, t3, t4, t5, t6⟩ := h
  refine ⟨ne, dx, i, u, wh, al, bf, bl, bt, x _ _ e, t1.up x, t2.up x, t3.up x, t4.up x, t5, fun z => ?_⟩
  obtain ⟨b, e1, e2⟩ := t6 z
  exact ⟨b, e1, e2.up x⟩
def ExD (H H' : Hp) : Prop := ∀ a o, H a = some o → (∀ c d f, o ≠ .ins c d f) → (∀ kv, o ≠ .dT kv) → H' a = some o
theorem sqD {K : PySem.W.Frag} {H H' : Hp} (h : ExD H H') {a : Addr} {xs : List V} (q : SqT K H a xs) : SqT K H' a xs := by
  rcases q with (q | ⟨o, q⟩) | q
  · exact Or.inl (Or.inl (h _ _ q (fun c d f z => by cases z) fun kv z => by cases z))
  · exact Or.inl (Or.inr ⟨o, h _ _ q (fun c d f z => by cases z) fun kv z => by cases z⟩)
  · exact Or.inr q
theorem sqlD {K : PySem.W.Frag} {H H' : Hp} (h : ExD H H') {a : Addr} {xs : List V} (q : SqL K H a xs) : SqL K H' a xs := by
  rcases q with (q | ⟨o, q⟩) | q
  · exact Or.inl (Or.inl (h _ _ q (fun c d f z => by cases z) fun kv z => by cases z))
  · exact Or.inl (Or.inr ⟨o, h _ _ q (fun c d f z => by cases z) fun kv z => by cases z⟩)
  · exact Or.inr q
mutual
theorem dpD {K : PySem.W.Frag} {H H' : Hp} (h : ExD H H') : ∀ {v : V} {d : PyData}, Dp K H v d → Dp K H' v d
  | _, _, .non => .non
  | _, _, .bl b => .bl b
  | _, _, .int i => .int i
  | _, _, .str x => .str x
  | _, _, .lst a b => .lst (sqlD h a) (dpAllD h b)
  | _, _, .tup a b => .tup (sqD h a) (dpAllD h b)
theorem dpAllD {K : PySem.W.Frag} {H H' : Hp} (h : ExD H H') : ∀ {vs : List V} {ds : List PyData}, DpAll K H vs ds → DpAll K H' vs ds
  | _, _, .nil => .nil
  | _, _, .cons a b => .cons (dpD h a) (dpAllD h b)
end
theorem TabAt.drop {K : PySem.W.Frag} {H : Hp} {D a : Addr} {rows : List (List (Option Int))} {kvs : List (List Key × V)} (t : TabAt K H a rows) (hD : H D = some (.dT kvs)) : TabAt K (dropA H D) a rows := by
  obtain ⟨d, ent, h1, h2⟩ := t
  refine ⟨d, ent, ?_, dpD (fun b u hb nb nd => ?_) h2⟩
  · rw [dropA_ne (fun z => by rw [z, hD] at h1; cases h1)]; exact h1
  · rw [dropA_ne (fun z => ?_)]
    · exact hb
    · rw [z, hD] at hb
      cases hb
      exact nd _ rfl
section
variable {K : PySem.W.Frag} {T : TPar} {H : Hp}
theorem TSt.drop {D a : Addr} {w : List Bool} {kvs : List (List Key × V)} (h : TSt K T H a w) (hD : H D = some (.dT kvs)) : TSt K T (dropA H D) a w := by
  obtain ⟨ne, dx, i, u, wh, al, bf, bl, bt, e, t1, t2, t3, t4, t5, t6⟩ := h
  refine ⟨ne, dx, i, u, wh, al, bf, bl, bt, by rw [dropA_ne (fun z => by rw [z, hD] at e; cases e)]; exact e, t1.drop hD, t2.drop hD, t3.drop hD, t4.drop hD, t5, fun z => ?_⟩
  obtain ⟨b, e1, e2⟩ := t6 z
  exact ⟨b, e1, e2.drop hD⟩
def TWay (K : PySem.W.Frag) (T : TPar) (H : Hp) (v : V) (p : List Bool × Int) : Prop := ∃ t s, v = .ref t ∧ H t = some (.tup [.ref s, .int p.2]) ∧ TSt K T H s p.1
theorem TWay.drop {D : Addr} {v : V} {p : List Bool × Int} {kvs : List (List Key × V)} (h : TWay K T H v p) (hD : H D = some (.dT kvs)) : TWay K T (dropA H D) v p := by
  obtain ⟨t, s, e, h1, h2⟩ := h
  exact ⟨t, s, e, by rw [dropA_ne (fun z => by rw [z, hD] at h1; cases h1)]; exact h1, h2.drop hD⟩
def TSent (K : PySem.W.Frag) (T : TPar) (H : Hp) (v : V) (x : Sent) : Prop := ∃ t s a, v = .ref t ∧ H t = some (.tup [.ref s, .ref a, .int x.2.2]) ∧ H s = some (.tup (shpV x.1)) ∧ TSt K T H a x.2.1
theorem TSent.ex {H' : Hp} {v : V} {x : Sent} (h : TSent K T H v x) (e : Ex H H') : TSent K T H' v x := by
  obtain ⟨t, s, a, h1, h2, h3, h4⟩ := h
  exact ⟨t, s, a, h1, e _ _ h2, e _ _ h3, h4.ex e⟩
end
end Ech

/-! sets of few tuples, the tuples of texts and ints -/
namespace Ech
open PySem PySem.Spec PyProof.Rows L2
abbrev IsM (P : Program) (w : World) (h : Heap) (k : List Key) (a : Addr) : Prop := IsTupleKey (mixKind P w) h k a
abbrev mh (P : Program) (w : World) (k : List Key) : Int := tupleKeyHash (mixKind P w) k
section
variable {P : Program} {w : World} {A : Around} {E : Value → Shared → Prop} {s : Shared}
/-! ### the set -/
def mrows (P : Program) (w : World) (L : List (Addr × List Key)) : List (Int × Value) := L.map fun p => (mh P w p.2, Value.ref p.1)
structure MSet (P : Program) (w : World) (h : Heap) (a : Addr) (L : List (Addr × List Key)) (es : Array (Int × Value)) (ep : Nat) (t : SetTable) : Prop where
  ob : ∃ o, h.get? a = some o ∧ o.ExactSet ∧ o.data = .set es ep t
  rows : es.toList = mrows P w L
  tab : TabOk t (L.map fun p => mh P w p.2)
  nd : (L.map (·.2)).Nodup
  tup : ∀ p ∈ L, IsM P w h p.2 p.1
  led : w.params.followText "set-order" = true ∨ t.led = true
  m7 : t.mask = 7
  few : L.length ≤ 4
variable {a : Addr} {L : List (Addr × List Key)} {es : Array (Int × Value)} {ep : Nat} {t : SetTable}
theorem mrows_len {L : List (Addr × List Key)} : (mrows P w L).length = L.length := List.length_map _
theorem MSet.size {h : Heap} (R : MSet P w h a L es ep t) : es.size = L.length := by
  rw [← Array.length_toList, R.rows, mrows_len]
theorem MSet.entry {h : Heap} (R : MSet P w h a L es ep t) {i : Nat} {p : Addr × List Key} (hp : L[i]? = some p) : es[i]? = some (mh P w p.2, Value.ref p.1) := by
  rw [← Array.getElem?_toList, R.rows]
  unfold mrows
  rw [List.getElem?_map, hp]
  rfl
theorem MSet.stays {h : Heap} (R : MSet P w h a L es ep t) : ¬ t.gaveWay = true := by
  unfold SetTable.gaveWay
  rw [mask_odd R.tab.mok]
  decide
end
end Ech
namespace Ech
open PySem PySem.Spec PyProof.Rows L2
section
variable {P : Program} {w : World} {A : Around} {E : Value → Shared → Prop} {s : Shared}
variable {a : Addr} {L : List (Addr × List Key)} {es : Array (Int × Value)} {ep : Nat} {t : SetTable}
structure Has (ks : List (Addr × List Key)) (i : Nat) (L : List (Addr × List Key)) : Prop where
  sub : ∀ p ∈ L, p ∈ ks
  all : ∀ p ∈ ks.take i, p.2 ∈ L.map (·.2)
theorem MSet.keep {h h' : Heap} (R : MSet P w h a L es ep t) (ha : ∀ o, h.get? a = some o → h'.get? a = some o) (ht : ∀ p ∈ L, IsM P w h' p.2 p.1) : MSet P w h' a L es ep t := by
  obtain ⟨o, ho, r⟩ := R.ob
  exact ⟨⟨o, ha o ho, r⟩, R.rows, R.tab, R.nd, ht, R.led, R.m7, R.few⟩
theorem uniq_self {α : Type} [DecidableEq α] : ∀ {l : List α}, l.Nodup → uniq l = l
  | [], _ => rfl
  | x :: xs, h => by
    obtain ⟨h1, h2⟩ := List.nodup_cons.mp h
    unfold uniq
    rw [if_neg (fun z => h1 (mem_uniq.mp z)), uniq_self h2]
theorem Has.len {ks L : List (Addr × List Key)} (g : Has ks ks.length L) (nd : (L.map (·.2)).Nodup) : L.length = (uniq (ks.map (·.2))).length := by
  have h1 := uniq_le (l := L.map (·.2)) (m := uniq (ks.map (·.2))) fun c hc => mem_uniq.mpr (by
    obtain ⟨q, hq, rfl⟩ := List.mem_map.mp hc
    exact List.mem_map_of_mem (g.sub q hq))
  have h2 := uniq_le (l := ks.map (·.2)) (m := L.map (·.2)) fun c hc => by
    obtain ⟨q, hq, rfl⟩ := List.mem_map.mp hc
    exact g.all q (by rw [List.take_length]; exact hq)
  rw [uniq_self nd, List.length_map] at h1
  rw [List.length_map] at h2
  omega
end
section
variable {X : Cx}
end
end Ech

namespace Ech
open PySem PySem.Spec PyProof.Rows L2
open He (ga ma)
/-! ### list(range(a, b)) -/
/-! ### strands in the order of their least places -/
section
variable {d e n : Nat}
end
end Ech
namespace Ech
open PySem PySem.Spec PyProof.Rows L2
open PySem.W (EachIs dataLt dataLe AllAlike Sortable)
/-! ### min of a tuple of ints -/
/-! ### ints as data to be sorted -/
end Ech
namespace Ech
open PySem PySem.Spec PyProof.Rows L2
/-! ### xs.extend(t), t a tuple -/
section
variable {X : Cx}
variable {o e : Expr} {es : List Expr} {to : TE} {t : TA} {apos cpos : Pos} {K : PySem.W.Frag}
end
end Ech

/-! sorted(set(xs)), xs a list of tuples that begin with a text -/
namespace Ech
open PySem PySem.Spec PyProof.Rows L2
open PySem.W (EachIs dataLt dataLe AllAlike Sortable)
open EchS (isort)
end Ech
namespace Ech
open PySem PySem.Spec PyProof.Rows L2
/-! ### l.count(x): items that are data; l.reverse() -/
section
variable {X : Cx}
variable {o e : Expr} {es : List Expr} {to : TE} {t : TA} {apos cpos : Pos}
end
end Ech
namespace Ech
open PySem PySem.Spec PyProof.Rows L2
/-! ### strands as a law walks them -/
def WalkAt (K : PySem.W.Frag) (G : Hp) (v : V) (s : Int × List Int × List Bool) : Prop := ∃ t pl wl, v = .ref t ∧ SqT K G t [.str (kindS s.1), .ref pl, .ref wl] ∧ SqL K G pl (s.2.1.map V.int) ∧ SqL K G wl (s.2.2.map V.bl)
theorem WalkAt.up {K : PySem.W.Frag} {G G' : Hp} {v : V} {s : Int × List Int × List Bool} (h : WalkAt K G v s) (x : Ex G G') : WalkAt K G' v s := by
  obtain ⟨t, pl, wl, h1, h2, h3, h4⟩ := h
  exact ⟨t, pl, wl, h1, Evl.ex_t x h2, Evl.ex_l x h3, Evl.ex_l x h4⟩
end Ech

/-! the least of a list of ints; strands of a song as objects; their hops against its links -/
namespace Ech
open PySem PySem.Spec PyProof.Rows L2
open He (ga ma)
/-! ### the plain law of the hops -/
/-! ### strands as objects -/
def HopAt (K : PySem.W.Frag) (G : Hp) (es : List Ec) (v : V) (h : Int × Int) : Prop := ∃ b t, v = .ref b ∧ SqT K G b [.int h.1, .int h.2, .ref t] ∧
  ∃ i ec, i = (if h.2 < h.1 then 1 else 0) ∧ es[i]? = some ec ∧ TabAt K G t (if h.2 < h.1 then turnRows ec.2.2 else ec.2.2)
theorem HopAt.up {K : PySem.W.Frag} {G G' : Hp} {es : List Ec} {v : V} {h : Int × Int} (a : HopAt K G es v h) (x : Ex G G') : HopAt K G' es v h := by
  obtain ⟨b, t, h1, h2, i, ec, h3, h4, h5⟩ := a
  exact ⟨b, t, h1, Evl.ex_t x h2, i, ec, h3, h4, h5.up x⟩
theorem hops_up {K : PySem.W.Frag} {G G' : Hp} {es : List Ec} {vs : List V} {hs : List (Int × Int)} (a : Paired (HopAt K G es) vs hs) (x : Ex G G') : Paired (HopAt K G' es) vs hs := paired_imp2 a fun _ _ _ h => h.up x
def kindN (b : Bool) : PySem.Str := if b then "Ring" else "Line"
def StrandAt (K : PySem.W.Frag) (G : Hp) (es : List Ec) (f : Int → Option Int) (d : Bool × List Int) (a : Addr) : Prop :=
  ∃ dx tp th v ws, G a = some (.ins (ga K (kindN d.1)) dx [("row_of_places", .ref tp), ("row_of_hops", .ref th), ("last_hop", v)]) ∧ SqT K G tp (d.2.map V.int) ∧ SqT K G th ws ∧ Paired (HopAt K G es) ws (hopsD f d.2)
theorem StrandAt.up {K : PySem.W.Frag} {G G' : Hp} {es : List Ec} {f : Int → Option Int} {d : Bool × List Int} {a : Addr} (h : StrandAt K G es f d a) (x : Ex G G') : StrandAt K G' es f d a := by
  obtain ⟨dx, tp, th, v, ws, h1, h2, h3, h4⟩ := h
  exact ⟨dx, tp, th, v, ws, x _ _ h1, Evl.ex_t x h2, Evl.ex_t x h3, hops_up h4 x⟩
/-! ### the hops of a strand -/
end Ech

/-! dict comprehensions; the sum of a dict's values; a *= b -/
namespace Ech
open PySem PySem.Spec PyProof.Rows L2
section
variable {X : Cx} {tg iter kx vx : Expr} {w : TW} {g : TG} {pos : Pos} {ifs : List Expr} {scope : Scope} {own : List (PySem.Str × Nat)} {tt : TT} {tk tv : TE}
/-! ### sum(d.values()) -/
variable {o : Expr} {p apos mpos : Pos} {td : TE}
end
end Ech

/-! counts of rows, strand by strand: what is counted -/
namespace Ech
open PySem PySem.Spec PyProof.Rows L2
open He (ga ma)
/-! ### ways along the hops -/
def hopT (tabs : List (List (List (Option Int)))) (h : Int × Int) : List (List (Option Int)) := if h.2 < h.1 then turnRows (tabs.getD 1 []) else tabs.getD 0 []
end Ech

/-! the strands as a law lists them: the lines by their first places, then the rings by their least places -/
namespace Ech
/-! ### as the law goes -/
/-! ### in the heap -/
section
open PySem PySem.Spec PyProof.Rows L2
open He (ga ma)
def AheadAt (R : Addr → Int → Int → Prop) (kvs : List (Key × V)) (hs : List (Int × Int)) : Prop := Paired (fun kv h => kv.1 = (Sum.inl h.1 : Key) ∧ ∃ t, kv.2 = V.ref t ∧ R t h.1 h.2) kvs hs
theorem AheadAt.imp {R R' : Addr → Int → Int → Prop} {kvs : List (Key × V)} {hs : List (Int × Int)} (h : AheadAt R kvs hs) (i : ∀ t p q, R t p q → R' t p q) : AheadAt R' kvs hs :=
  paired_imp2 h fun _ _ _ ⟨z, t, e, r⟩ => ⟨z, t, e, i _ _ _ r⟩
/-! ### how great counts are -/
end
end Ech

/-! rows told one by one, and strand by strand: plain counting -/
namespace Ech
section
variable {ops : Int → List Int} {F F' : (Int → Int) → Int}
end
/-! ### along a strand -/
section
variable {tabs : List (List (List (Option Int)))} {ops : Int → List Int}
end
section
variable {tabs : List (List (List (Option Int)))} {ops : Int → List Int} {opsL : List (List Int)} {n : Int} {f g : Int → Option Int}
end
/-! ### all rows -/
/-! ### fixed letters -/
/-! ### links and hops -/
end Ech

/-! all rows one by one: what the laws need of tuples and of dicts of fixed letters -/
namespace Ech
open PySem PySem.Spec PyProof.Rows L2
open He (ga ma)
/-! repr of fixed letters -/
/-! how many rows there are -/
end Ech

/-! sorted(set(l)) of a list of ints, d.update(e) -/
namespace Ech
open PySem PySem.Spec PyProof.Rows L2
open He (ga ma)
section
variable {P : Program} {w : World} {A : Around} {E : Value → Shared → Prop} {s : Shared}
end
end Ech

/-! counts: what the books of many laws share -/
namespace Ech
open PySem PySem.Spec PyProof.Rows L2
open He (ga ma)
open He5 (wf)
def OptsAt (K : PySem.W.Frag) (G : Hp) (l : Addr) (ops : List (List Int)) : Prop := ∃ vs, SqL K G l vs ∧ Paired (fun v ks => ∃ b, v = V.ref b ∧ SqL K G b (ks.map V.int)) vs ops
theorem OptsAt.up {K : PySem.W.Frag} {G G' : Hp} {l : Addr} {ops : List (List Int)} (h : OptsAt K G l ops) (x : Ex G G') : OptsAt K G' l ops := by
  obtain ⟨vs, h1, h2⟩ := h
  exact ⟨vs, Evl.ex_l x h1, paired_imp2 h2 fun v ks _ ⟨b, e, s⟩ => ⟨b, e, Evl.ex_l x s⟩⟩
def HopL (K : PySem.W.Frag) (G : Hp) (es : List Lot) (t : Addr) (p q : Int) : Prop := ∃ r, SqT K G t [.int q, r] ∧ RowsAt K G r (hopT (es.map (·.2)) (p, q)) ∧ es[(if q < p then 1 else 0 : Nat)]? ≠ none
theorem HopL.up {K : PySem.W.Frag} {G G' : Hp} {es : List Lot} {t : Addr} {p q : Int} (h : HopL K G es t p q) (x : Ex G G') : HopL K G' es t p q := by
  obtain ⟨r, h1, h2, h3⟩ := h
  exact ⟨r, Evl.ex_t x h1, h2.up x, h3⟩
def LHop (K : PySem.W.Frag) (G : Hp) (es : List Lot) (v : V) (h : Int × Int) : Prop := ∃ b r, v = .ref b ∧ SqT K G b [.int h.1, .int h.2, r] ∧ RowsAt K G r (hopT (es.map (·.2)) h) ∧ es[(if h.2 < h.1 then 1 else 0 : Nat)]? ≠ none
def LStr (K : PySem.W.Frag) (G : Hp) (es : List Lot) (f : Int → Option Int) (v : V) (d : Bool × List Int) : Prop := ∃ b hl ws, v = .ref b ∧ SqT K G b [.bl d.1, .int (d.2.headD 0), .ref hl] ∧ SqL K G hl ws ∧ Paired (LHop K G es) ws (hopsD f d.2)
theorem LHop.up {K : PySem.W.Frag} {G G' : Hp} {es : List Lot} {v : V} {h : Int × Int} (a : LHop K G es v h) (x : Ex G G') : LHop K G' es v h := by
  obtain ⟨b, r, h1, h2, h3, h4⟩ := a
  exact ⟨b, r, h1, Evl.ex_t x h2, h3.up x, h4⟩
theorem LStr.up {K : PySem.W.Frag} {G G' : Hp} {es : List Lot} {f : Int → Option Int} {v : V} {d : Bool × List Int} (a : LStr K G es f v d) (x : Ex G G') : LStr K G' es f v d := by
  obtain ⟨b, hl, ws, h1, h2, h3, h4⟩ := a
  exact ⟨b, hl, ws, h1, Evl.ex_t x h2, Evl.ex_l x h3, paired_imp2 h4 fun _ _ _ z => z.up x⟩
end Ech

/-! sums over what shapes() tells -/
namespace Ech
open PySem PySem.Spec PyProof.Rows L2
open EchS (isort)
theorem count_tf : ∀ w : List Bool, w.count true + w.count false = w.length
  | [] => rfl
  | b :: w => by
    have := count_tf w
    rw [List.count_cons, List.count_cons, List.length_cons]
    cases b <;> simp <;> omega
section
variable {d e n : Nat}
/-! rings and lines apart -/
end
end Ech

set_option maxHeartbeats 1000000
namespace Ech
open PySem PySem.Spec PyProof.Rows L2
/-! ### places on strands, and the shapes -/
section
variable {d e n : Nat}
theorem place_strand (D : Dly d e n) {p : Nat} (hp : p < n) : ∃ r ∈ strandsD n (hopOn n d e) (hopBk n d e), (p : Int) ∈ r.2 ∧ StrandOk n (hopOn n d e) (hopBk n d e) r := by
  have okS := strandsD_ok (hop_F D) (by omega : (0 : Int) ≤ n)
  obtain ⟨r, hr, hm⟩ := List.mem_flatMap.mp (okS.all p (by omega))
  exact ⟨r, hr, hm, okS.each r hr⟩
structure SpotOf (d e n p kind s k : Nat) : Prop where
  s1 : s < n
  it : itF (hopOn n d e) k s = some (p : Int)
  ring : onRing d e n p → kind = 1 ∧ s = p % Nat.gcd d e ∧ k < around d e
  line : ¬ onRing d e n p → kind = 0 ∧ hopBk n d e s = none
theorem SpotOf.uniq (D : Dly d e n) {p k1 s1 j1 k2 s2 j2 : Nat} (a : SpotOf d e n p k1 s1 j1) (b : SpotOf d e n p k2 s2 j2) : k1 = k2 ∧ s1 = s2 ∧ j1 = j2 := by
  by_cases h : onRing d e n p
  · obtain ⟨a1, a2, a3⟩ := a.ring h
    obtain ⟨b1, b2, b3⟩ := b.ring h
    refine ⟨a1.trans b1.symm, a2.trans b2.symm, ring_spot D (by have := a.s1; omega) a3 b3 a.it ?_⟩
    rw [a2, ← b2]
    exact b.it
  · obtain ⟨a1, a2⟩ := a.line h
    obtain ⟨b1, b2⟩ := b.line h
    have := a.s1
    have := b.s1
    obtain ⟨e1, e2⟩ := itF_uniq (hop_F D) (by omega) (by omega) (by omega) (by omega) a2 b2 a.it b.it
    exact ⟨a1.trans b1.symm, by omega, e1⟩
theorem onRing_it (D : Dly d e n) {k : Nat} {s p : Nat} (hs : s < n) (h : itF (hopOn n d e) k s = some (p : Int)) : onRing d e n p ↔ onRing d e n s := by
  obtain ⟨r, hr, hm, ok⟩ := place_strand D hs
  have cl := (strandOk_close (hop_F D) ok).1
  have mem : ∀ (k : Nat) {s p : Int}, s ∈ r.2 → itF (hopOn n d e) k s = some p → p ∈ r.2 := by
    intro k
    induction k with
    | zero => intro s p hs h; rw [← Option.some.inj h]; exact hs
    | succ k ih =>
      intro s p hs h
      have h : (hopOn n d e s).bind (itF (hopOn n d e) k) = some p := h
      cases e1 : hopOn n d e s with
      | none => rw [e1] at h; cases h
      | some z =>
        rw [e1] at h
        exact ih (cl s z hs e1) h
  have h1 := kind_of D ok hm
  have h2 := kind_of D ok (mem k hm h)
  rw [h1] at h2
  exact (decide_eq_decide.mp h2).symm
theorem SpotOf.next (D : Dly d e n) {p z kind s k : Nat} (hp : p < n) (a : SpotOf d e n p kind s k) (h : hopOn n d e p = some (z : Int)) : SpotOf d e n z kind s (if kind = 1 then (k + 1) % around d e else k + 1) := by
  have it1 : itF (hopOn n d e) (k + 1) s = some (z : Int) := by
    rw [itF_succ, a.it]
    exact h
  have hz : z < n := by have := ((hop_F D).fin p z (by omega) (by omega) h).2.1; omega
  have r1 := onRing_it D a.s1 a.it
  have r2 := onRing_it D a.s1 it1
  by_cases c : onRing d e n p
  · obtain ⟨a1, a2, a3⟩ := a.ring c
    have cz := r2.mpr (r1.mp c)
    subst a1
    rw [if_pos rfl]
    have a0 := around_two D
    refine ⟨a.s1, ?_, fun _ => ⟨rfl, ?_, Nat.mod_lt _ (by omega)⟩, fun w => absurd cz w⟩
    · by_cases l : k + 1 < around d e
      · rw [Nat.mod_eq_of_lt l]
        exact it1
      · obtain ⟨q, q1, _, e1, e2⟩ := onRing_far D a.s1 (r1.mp c) ((k + 1) % around d e)
        rw [e1]
        have e3 := itF_mod D (k + 1) (by omega) (by have := a.s1; omega) it1
        have : k + 1 = around d e := by omega
        rw [this, Nat.mod_self] at e2
        rw [this] at e3
        have dv : around d e * d = (d + e) * (d / Nat.gcd d e) := by
          have := around_eq D
          have dg : d = Nat.gcd d e * (d / Nat.gcd d e) := (Nat.mul_div_cancel' (Nat.gcd_dvd_left d e)).symm
          rw [← this, Nat.mul_assoc, ← dg]
        have e4 : z = (s + around d e * d) % (d + e) := by
          rw [← Int.natCast_mul, ← Int.natCast_add, ← Int.natCast_add, ← Int.natCast_emod] at e3
          exact_mod_cast e3
        rw [dv, Nat.add_mul_mod_self_left] at e4
        rw [Nat.zero_mul, Nat.add_zero] at e2
        rw [e2, e4]
    · rw [a2]
      obtain ⟨_, l⟩ := hop_some D hp h
      have : z = stp d e p := by have := (hop_some D hp h).1; omega
      rw [this, stp_class]
  · obtain ⟨a1, a2⟩ := a.line c
    subst a1
    rw [if_neg (by omega)]
    exact ⟨a.s1, it1, fun w => absurd (r1.mpr (r2.mp w)) c, fun _ => ⟨rfl, a2⟩⟩
end
end Ech

set_option maxHeartbeats 4000000
/-! what the laws over shapes share: told shapes, lots, comparisons of texts -/
namespace Ech
open PySem PySem.Spec PyProof.Rows L2
section
variable {d e n : Nat}
end
end Ech

/-! lines and their first places -/
namespace Ech
open PySem PySem.Spec PyProof.Rows L2
section
variable {d e n : Nat}
end
end Ech

/-! strands as a law walks them: the plain side -/
namespace Ech
open PySem PySem.Spec PyProof.Rows L2
section
variable {d e n : Nat}
def strW (s : Int × List Int × List Bool) : Bool × List Int := (decide (s.1 = 1), s.2.1)
theorem way_count (D : Dly d e n) {P : List Int} (hin : ∀ x ∈ P, 0 ≤ x ∧ x < n) : (wayF (hopOn n d e) P).count true = (P.countP fun p : Int => decide (p + d < n)) ∧ (wayF (hopOn n d e) P).count false = P.countP fun p : Int => decide ((e : Int) ≤ p) := by
  obtain ⟨h1, h2⟩ := hops_counts D hin
  have t : (wayF (hopOn n d e) P).count true = ((hopsD (hopOn n d e) P).filter fun h => decide (h.1 < h.2)).length := by
    unfold wayF
    rw [← List.countP_eq_length_filter]
    unfold List.count
    rw [List.countP_map]
    refine congrArg (fun f => List.countP f (hopsD (hopOn n d e) P)) (funext fun h => ?_)
    show (decide (h.1 < h.2) == true) = decide (h.1 < h.2)
    cases decide (h.1 < h.2) <;> rfl
  have l := count_tf (wayF (hopOn n d e) P)
  have ll : (wayF (hopOn n d e) P).length = (hopsD (hopOn n d e) P).length := by unfold wayF; rw [List.length_map]
  rw [t, h1] at l ⊢
  exact ⟨rfl, by omega⟩
end
end Ech
namespace Ech
open PySem PySem.Spec PyProof.Rows L2
/-! ### how a walk ends -/
section
variable {n : Int} {f g : Int → Option Int} {C P : List Int} {s : Int}
structure Going (n : Int) (f : Int → Option Int) (s : Int) (P C : List Int) : Prop where
  hd : ∃ l, P = s :: l
  path : PathF f P
  nd : P.Nodup
  ins : ∀ x ∈ P, 0 ≤ x ∧ x < n
  off : ∀ x ∈ P, x ∉ C
theorem Going.line (h : Going n f s P C) (hs : g s = none) (he : ∀ x, P.getLast? = some x → f x = none) : StrandOk n f g (false, P) :=
  ⟨s, ⟨h.hd, h.path, h.nd, h.ins, fun x hx => Or.inl (he x hx)⟩, fun _ => ⟨hs, he⟩, fun z => (by cases z)⟩
theorem Going.back (H : HopF n f g) (h : Going n f s P C) (cg : ∀ x y, x ∈ C → g x = some y → y ∈ C) {x z : Int} (hx : P.getLast? = some x) (hz : f x = some z) (seen : z ∈ P ∨ z ∈ C) : z = s := by
  have xm := List.mem_of_getLast? hx
  have xi := h.ins x xm
  have gz := (H.fin x z xi.1 xi.2 hz).2.2
  rcases seen with hp | hc
  · obtain ⟨i, hi, ei⟩ := List.mem_iff_getElem.mp hp
    cases i with
    | zero =>
      obtain ⟨l, hl⟩ := h.hd
      subst hl
      exact ei.symm
    | succ i =>
      exfalso
      have h0 : i < P.length := by omega
      have e1 : P[i]? = some P[i] := List.getElem?_eq_getElem h0
      have fp := h.path i P[i] z e1 (by rw [List.getElem?_eq_getElem hi, ei])
      have pin := h.ins _ (List.getElem_mem h0)
      have gz2 := (H.fin _ z pin.1 pin.2 fp).2.2
      have eq : P[i] = x := Option.some.inj (gz2.symm.trans gz)
      rw [List.getLast?_eq_getElem?] at hx
      have hl : P.length - 1 < P.length := by omega
      rw [List.getElem?_eq_getElem hl] at hx
      have ex : P[P.length - 1] = x := Option.some.inj hx
      exact List.pairwise_iff_getElem.mp (List.nodup_iff_pairwise_ne.mp h.nd) i (P.length - 1) h0 hl (by omega) (eq.trans ex.symm)
  · exact absurd (cg z x hc gz) (h.off x xm)
theorem Going.ring (h : Going n f s P C) {x : Int} (hx : P.getLast? = some x) (hz : f x = some s) : StrandOk n f g (true, P) :=
  ⟨s, ⟨h.hd, h.path, h.nd, h.ins, fun y hy => by
    have e : P.getLast? = some y := hy
    rw [hx] at e
    exact Or.inr (by rw [← Option.some.inj e]; exact hz)⟩, fun z => (by cases z), fun _ y hy => by
    have e : P.getLast? = some y := hy
    rw [hx] at e
    rw [← Option.some.inj e]
    exact hz⟩
theorem Going.on (H : HopF n f g) (h : Going n f s P C) (cf : ∀ x y, x ∈ C → f x = some y → y ∈ C) (cg : ∀ x y, x ∈ C → g x = some y → y ∈ C) (heads : ∀ p, 0 ≤ p → p < n → g p = none → p ∈ C) {x : Int} (hx : P.getLast? = some x) : f x ≠ none := by
  obtain ⟨l, hl⟩ := id h.hd
  have sm : s ∈ P := by rw [hl]; exact List.mem_cons_self
  have si := h.ins s sm
  have oB := walk_orb H.swap si.1 si.2
  obtain ⟨y, hy, ym⟩ := oB.last
  have yi := oB.ins y ym
  rcases oB.fin y hy with e | e
  · exfalso
    have yC := heads y yi.1 yi.2 e
    exact h.off s sm (orb_within H.swap oB cg cf ym yC s oB.s_mem)
  · have okB : StrandOk n g f (true, walkP g n s) := ⟨s, oB, fun z => (by cases z), fun _ z hz => by
      have e2 : (walkP g n s).getLast? = some z := hz
      rw [hy] at e2
      rw [← Option.some.inj e2]
      exact e⟩
    have cl := (strandOk_close H.swap okB).2
    have all : ∀ (k : Nat) (a : Int), P[k]? = some a → a ∈ walkP g n s := by
      intro k
      induction k with
      | zero =>
        intro a ha
        rw [hl] at ha
        have : s = a := by simpa using ha
        rw [← this]
        exact oB.s_mem
      | succ k ih =>
        intro a ha
        have hk : k + 1 < P.length := (List.getElem?_eq_some_iff.mp ha).1
        have e1 : P[k]? = some P[k] := List.getElem?_eq_getElem (by omega)
        exact cl _ _ (ih _ e1) (h.path k _ _ e1 ha)
    obtain ⟨k, hk, ek⟩ := List.mem_iff_getElem.mp (List.mem_of_getLast? hx)
    exact ring_prev H.swap okB rfl x (all k x (by rw [List.getElem?_eq_getElem hk, ek]))
end
end Ech
namespace Ech
open PySem PySem.Spec PyProof.Rows L2
section
variable {n : Int} {f g : Int → Option Int} {C P : List Int} {s : Int}
theorem Going.start (s0 : 0 ≤ s) (s1 : s < n) (hs : s ∉ C) : Going n f s [s] C :=
  ⟨⟨[], rfl⟩, fun i a b ha hb => by simp at hb, by simp, fun x hx => by rw [List.mem_singleton.mp hx]; exact ⟨s0, s1⟩, fun x hx => by rw [List.mem_singleton.mp hx]; exact hs⟩
theorem Going.more (H : HopF n f g) (h : Going n f s P C) {x z : Int} (hx : P.getLast? = some x) (hz : f x = some z) (hp : z ∉ P) (hc : z ∉ C) : Going n f s (P ++ [z]) C := by
  obtain ⟨l, hl⟩ := id h.hd
  have xi := h.ins x (List.mem_of_getLast? hx)
  have zi := H.fin x z xi.1 xi.2 hz
  refine ⟨⟨l ++ [z], by rw [hl]; rfl⟩, fun i a b ha hb => ?_, ?_, fun y hy => ?_, fun y hy => ?_⟩
  · by_cases c : i + 1 < P.length
    · rw [List.getElem?_append_left (by omega)] at ha
      rw [List.getElem?_append_left c] at hb
      exact h.path i a b ha hb
    · have h1 : i + 1 < (P ++ [z]).length := (List.getElem?_eq_some_iff.mp hb).1
      rw [List.length_append, List.length_singleton] at h1
      have e : i + 1 = P.length := by omega
      rw [List.getElem?_append_left (by omega)] at ha
      rw [e, List.getElem?_append_right (Nat.le_refl _), Nat.sub_self] at hb
      have eb : z = b := Option.some.inj hb
      rw [List.getLast?_eq_getElem?, show P.length - 1 = i by omega] at hx
      have ea : a = x := Option.some.inj (ha.symm.trans hx)
      rw [ea, ← eb]
      exact hz
  · rw [List.nodup_append]
    refine ⟨h.nd, by simp, fun a ha b hb e => hp ?_⟩
    rw [List.mem_singleton.mp hb] at e
    rw [← e]
    exact ha
  · rcases List.mem_append.mp hy with hy | hy
    · exact h.ins y hy
    · rw [List.mem_singleton.mp hy]
      exact ⟨zi.1, zi.2.1⟩
  · rcases List.mem_append.mp hy with hy | hy
    · exact h.off y hy
    · rw [List.mem_singleton.mp hy]
      exact hc
end
end Ech

set_option maxHeartbeats 1000000
/-! all strands by walking: what was found so far, what was seen -/
namespace Ech
open PySem PySem.Spec PyProof.Rows L2
def flatW (ss : List (Int × List Int × List Bool)) : List Int := ss.flatMap (·.2.1)
theorem flatW_add (ss : List (Int × List Int × List Bool)) (s : Int × List Int × List Bool) : flatW (ss ++ [s]) = flatW ss ++ s.2.1 := by
  unfold flatW
  rw [List.flatMap_append]
  simp
structure Wlk (n : Int) (f g : Int → Option Int) (ss : List (Int × List Int × List Bool)) : Prop where
  each : ∀ s ∈ ss, StrandOk n f g (strW s) ∧ (s.1 = 0 ∨ s.1 = 1) ∧ s.2.2 = wayF f s.2.1
  nd : (flatW ss).Nodup
  least : ∀ r ∈ ss, r.1 = 1 → ∀ z ∈ r.2.1, ∀ s, r.2.1.head? = some s → s ≤ z
section
variable {n : Int} {f g : Int → Option Int} {P : List Int} {s : Int} {ss : List (Int × List Int × List Bool)}
theorem Wlk.nil : Wlk n f g [] := ⟨fun s h => (nomatch h), List.nodup_nil, fun r h => (nomatch h)⟩
theorem Wlk.cf (H : HopF n f g) (h : Wlk n f g ss) : ∀ x y, x ∈ flatW ss → f x = some y → y ∈ flatW ss := fun x y hx e => by
  obtain ⟨s, hs, hm⟩ := List.mem_flatMap.mp hx
  exact List.mem_flatMap.mpr ⟨s, hs, (strandOk_close H (h.each s hs).1).1 x y hm e⟩
theorem Wlk.cg (H : HopF n f g) (h : Wlk n f g ss) : ∀ x y, x ∈ flatW ss → g x = some y → y ∈ flatW ss := fun x y hx e => by
  obtain ⟨s, hs, hm⟩ := List.mem_flatMap.mp hx
  exact List.mem_flatMap.mpr ⟨s, hs, (strandOk_close H (h.each s hs).1).2 x y hm e⟩
theorem Wlk.ins (h : Wlk n f g ss) : ∀ x ∈ flatW ss, 0 ≤ x ∧ x < n := fun x hx => by
  obtain ⟨s, hs, hm⟩ := List.mem_flatMap.mp hx
  obtain ⟨_, o, _⟩ := (h.each s hs).1.orb
  exact o.ins x hm
theorem flatW_len : ∀ {ss : List (Int × List Int × List Bool)}, (∀ s ∈ ss, s.2.1 ≠ []) → ss.length ≤ (flatW ss).length
  | [], _ => Nat.le_refl _
  | s :: ss, h => by
    have h1 := flatW_len (ss := ss) fun x hx => h x (List.mem_cons_of_mem _ hx)
    have h2 := List.length_pos_iff.mpr (h s List.mem_cons_self)
    show ss.length + 1 ≤ (s.2.1 ++ flatW ss).length
    rw [List.length_append]
    omega
theorem Wlk.len (h : Wlk n f g ss) : ss.length ≤ n.toNat := by
  refine Nat.le_trans (flatW_len fun s hs e => ?_) (nodup_int h.nd h.ins)
  obtain ⟨x, o, _⟩ := (h.each s hs).1.orb
  have := o.s_mem
  have e2 : (strW s).2 = [] := e
  rw [e2] at this
  cases this
theorem Wlk.add {r : Int × List Int × List Bool} (h : Wlk n f g ss) (o : StrandOk n f g (strW r)) (k : r.1 = 0 ∨ r.1 = 1) (w : r.2.2 = wayF f r.2.1) (off : ∀ x ∈ r.2.1, x ∉ flatW ss) (lst : r.1 = 1 → ∀ z ∈ r.2.1, ∀ s, r.2.1.head? = some s → s ≤ z) : Wlk n f g (ss ++ [r]) := by
  refine ⟨fun s hs => ?_, ?_, fun s hs => ?_⟩
  · rcases List.mem_append.mp hs with hs | hs
    · exact h.each s hs
    · rw [List.mem_singleton.mp hs]
      exact ⟨o, k, w⟩
  · rw [flatW_add]
    obtain ⟨_, ob, _⟩ := o.orb
    exact List.nodup_append.mpr ⟨h.nd, ob.nd, fun a ha b hb e => off b hb (e ▸ ha)⟩
  · rcases List.mem_append.mp hs with hs | hs
    · exact h.least s hs
    · rw [List.mem_singleton.mp hs]
      exact lst
theorem Wlk.room (h : Wlk n f g ss) (go : Going n f s P (flatW ss)) : (flatW ss ++ P).length ≤ n.toNat := by
  refine nodup_int (List.nodup_append.mpr ⟨h.nd, go.nd, fun a ha b hb e => go.off b hb (e ▸ ha)⟩) fun x hx => ?_
  rcases List.mem_append.mp hx with hx | hx
  · exact h.ins x hx
  · exact go.ins x hx
end
def sB (n : Nat) (C : List Int) : List V := (List.range n).map fun p : Nat => V.bl (decide ((p : Int) ∈ C))
end Ech

set_option maxHeartbeats 4000000
/-! songs so many times as far; walked strands and spots -/
namespace Ech
open PySem PySem.Spec PyProof.Rows L2
section
variable {d e n t : Nat}
theorem Dly.far (D : Dly d e n) (ht : 0 < t) : Dly (t * d) (t * e) (t * n) :=
  ⟨Nat.mul_pos ht D.d1, Nat.mul_pos ht D.e1, Nat.mul_pos ht D.n1, by rw [← Nat.mul_add]; exact Nat.mul_le_mul_left t D.ne⟩
end
end Ech

/-! tables of strands: walked strands against words of folding -/
namespace Ech
open PySem PySem.Spec PyProof.Rows L2
section
variable {d e n : Nat}
theorem Wlk.has (D : Dly d e n) {ss : List (Int × List Int × List Bool)} (wk : Wlk n (hopOn n d e) (hopBk n d e) ss) {r : Int × List Int × List Bool} (hr : r ∈ ss) : (true ∈ r.2.2 → d < n) ∧ (false ∈ r.2.2 → e < n) := by
  obtain ⟨ok, k01, wy⟩ := wk.each r hr
  obtain ⟨s0, o, _, _⟩ := id ok.orb
  obtain ⟨h1, h2⟩ := way_count D o.ins
  have wy : r.2.2 = wayF (hopOn n d e) (strW r).2 := wy
  rw [wy]
  constructor
  · intro h
    have h3 := List.count_pos_iff.mpr h
    rw [h1] at h3
    obtain ⟨p, hp, hd⟩ := List.countP_pos_iff.mp h3
    have := of_decide_eq_true hd
    have := o.ins p hp
    omega
  · intro h
    have h3 := List.count_pos_iff.mpr h
    rw [h2] at h3
    obtain ⟨p, hp, hd⟩ := List.countP_pos_iff.mp h3
    have := of_decide_eq_true hd
    have := o.ins p hp
    omega
theorem Wlk.hops (D : Dly d e n) {ss : List (Int × List Int × List Bool)} (wk : Wlk n (hopOn n d e) (hopBk n d e) ss) {r : Int × List Int × List Bool} (hr : r ∈ ss) : r.2.2.length ≤ n := by
  obtain ⟨ok, k01, wy⟩ := wk.each r hr
  obtain ⟨s0, o, _, _⟩ := id ok.orb
  obtain ⟨h1, h2⟩ := way_count D o.ins
  have h3 := nodup_int o.nd o.ins
  have wy : r.2.2 = wayF (hopOn n d e) (strW r).2 := wy
  rw [wy]
  unfold wayF
  rw [List.length_map]
  unfold hopsD
  exact Nat.le_trans (List.length_filterMap_le _ _) (by omega : (strW r).2.length ≤ n)
end
/-! ### rows that are lists of lists -/
def RowL (K : PySem.W.Frag) (G : Hp) (v : V) (rows : List (List (Option Int))) : Prop := ∃ (a : Addr) (vs : List V), v = .ref a ∧ SqL K G a vs ∧ Paired (fun w r => ∃ b : Addr, w = V.ref b ∧ SqL K G b (List.map pV r)) vs rows
def rowLD (r : List (Option Int)) : PyData := .list (r.map pD)
def tabLD (rows : List (List (Option Int))) : PyData := .list (rows.map rowLD)
section
variable {K : PySem.W.Frag} {G : Hp}
theorem RowL.up {G' : Hp} {v : V} {rows : List (List (Option Int))} (h : RowL K G v rows) (x : Ex G G') : RowL K G' v rows := by
  obtain ⟨a, vs, e, h1, h2⟩ := h
  exact ⟨a, vs, e, Evl.ex_l x h1, paired_imp2 h2 fun w r _ ⟨b, e1, e2⟩ => ⟨b, e1, Evl.ex_l x e2⟩⟩
theorem RowL.at {v : V} {rows : List (List (Option Int))} (h : RowL K G v rows) : RowsAt K G v rows := by
  obtain ⟨a, vs, e, h1, h2⟩ := h
  exact ⟨a, true, vs, e, h1, paired_imp2 h2 fun w r _ ⟨b, e1, e2⟩ => ⟨b, true, e1, e2⟩⟩
theorem dpAll_pVL : ∀ r : List (Option Int), DpAll K G (r.map pV) (r.map pD)
  | [] => .nil
  | none :: r => .cons .non (dpAll_pVL r)
  | some i :: r => .cons (.int i) (dpAll_pVL r)
theorem RowL.dp {v : V} {rows : List (List (Option Int))} (h : RowL K G v rows) : Dp K G v (tabLD rows) := by
  obtain ⟨a, vs, rfl, h1, h2⟩ := h
  refine .lst h1 ?_
  clear h1
  induction h2 with
  | nil => exact .nil
  | cons h _ ih =>
    obtain ⟨b, rfl, e2⟩ := h
    exact .cons (.lst e2 (dpAll_pVL _)) ih
end
theorem tabL_eqvAll : ∀ A B : List (List (Option Int)), PyData.eqvAll (A.map rowLD) (B.map rowLD) = decide (A = B)
  | [], [] => rfl
  | [], _ :: _ => rfl
  | _ :: _, [] => rfl
  | x :: r, y :: s => by
    show (PyData.eqv (rowLD x) (rowLD y) && PyData.eqvAll (r.map rowLD) (s.map rowLD)) = _
    rw [show PyData.eqv (rowLD x) (rowLD y) = PyData.eqvAll (x.map pD) (y.map pD) by simp only [rowLD, PyData.eqv], row_eqvAll, tabL_eqvAll r s]
    by_cases h : x = y
    · subst h; simp
    · simp [h]
theorem tabL_eqv (A B : List (List (Option Int))) : PyData.eqv (tabLD A) (tabLD B) = decide (A = B) := by
  rw [show PyData.eqv (tabLD A) (tabLD B) = PyData.eqvAll (A.map rowLD) (B.map rowLD) by simp only [tabLD, PyData.eqv], tabL_eqvAll]
theorem rowLD_layAll : ∀ A : List (List (Option Int)), PyData.canLayAll0 (A.map rowLD) = true ∧ PyData.depthAll (A.map rowLD) ≤ 10
  | [] => by simp [PyData.canLayAll0, PyData.depthAll]
  | x :: r => by
    have h := rowLD_layAll r
    have hx : PyData.canLay0 (rowLD x) = true ∧ PyData.depth (rowLD x) ≤ 8 := by
      have := pD_layAll x
      simp only [rowLD, PyData.canLay0, PyData.depth]
      exact ⟨this.1, by omega⟩
    simp only [List.map_cons, PyData.canLayAll0, PyData.depthAll, hx.1, h.1, Bool.and_true]
    exact ⟨trivial, by omega⟩
theorem tabL_shaped (A : List (List (Option Int))) : SeqAt.shaped (tabLD A) = true := by
  have h := rowLD_layAll A
  show (PyData.canLay0 (tabLD A) && decide (PyData.depth (tabLD A) ≤ 64)) = true
  rw [Bool.and_eq_true]
  exact ⟨by simp only [tabLD, PyData.canLay0]; exact h.1, decide_eq_true (by simp only [tabLD, PyData.depth]; omega)⟩
theorem rowL_cmp {K : PySem.W.Frag} {H : Hp} {v w : V} {A B : List (List (Option Int))} {Q : VK} {neg : Bool} (h1 : RowL K H v A) (h2 : RowL K H w B) (q : Q (.bl (if neg then !decide (A = B) else decide (A = B))) H) : rEqU K neg v w H Q := by
  have e : Q (.bl (if neg then !PyData.eqv (tabLD A) (tabLD B) else PyData.eqv (tabLD A) (tabLD B))) H := by rw [tabL_eqv]; exact q
  have d1 := h1.dp
  have d2 := h2.dp
  obtain ⟨a, vs, rfl, _⟩ := h1
  obtain ⟨b, ws, rfl, _⟩ := h2
  exact Or.inr ⟨_, _, d1, d2, tabL_shaped A, tabL_shaped B, e⟩
end Ech

namespace k03
open PySem PySem.Spec PyProof.Rows L2 Ech
open He (ga ma)
open He5 (wf)
abbrev Ev (K : PySem.W.Frag) (mg : PySem.Str → Option Value) : Prop := EnvOf fa fn K mg
section
variable {K : PySem.W.Frag} {mg : PySem.Str → Option Value}
theorem gl_is_integer (e : Ev K mg) : mg "is_integer" = some (.ref (ga K "is_integer")) := e.glo 1
theorem gl_is_list (e : Ev K mg) : mg "is_list" = some (.ref (ga K "is_list")) := e.glo 2
theorem gl_is_price (e : Ev K mg) : mg "is_price" = some (.ref (ga K "is_price")) := e.glo 3
theorem gl_sum_two (e : Ev K mg) : mg "sum_two" = some (.ref (ga K "sum_two")) := e.glo 4
theorem gl_is_less (e : Ev K mg) : mg "is_less" = some (.ref (ga K "is_less")) := e.glo 5
theorem gl_least_of (e : Ev K mg) : mg "least_of" = some (.ref (ga K "least_of")) := e.glo 6
theorem gl_are_rows (e : Ev K mg) : mg "are_rows" = some (.ref (ga K "are_rows")) := e.glo 8
theorem gl_need_like (e : Ev K mg) : mg "need_like" = some (.ref (ga K "need_like")) := e.glo 10
theorem gl__law_pen (e : Ev K mg) : mg "_law_pen" = some (.ref (ga K "_law_pen")) := e.glo 12
theorem gl__law_draw (e : Ev K mg) : mg "_law_draw" = some (.ref (ga K "_law_draw")) := e.glo 13
theorem gl__law_wide (e : Ev K mg) : mg "_law_wide" = some (.ref (ga K "_law_wide")) := e.glo 14
theorem gl__law_price (e : Ev K mg) : mg "_law_price" = some (.ref (ga K "_law_price")) := e.glo 15
theorem gl__law_rows (e : Ev K mg) : mg "_law_rows" = some (.ref (ga K "_law_rows")) := e.glo 16
theorem gl__law_sum (e : Ev K mg) : mg "_law_sum" = some (.ref (ga K "_law_sum")) := e.glo 17
theorem gl__law_least (e : Ev K mg) : mg "_law_least" = some (.ref (ga K "_law_least")) := e.glo 18
theorem gl__law_composed (e : Ev K mg) : mg "_law_composed" = some (.ref (ga K "_law_composed")) := e.glo 19
theorem gl__law_turned (e : Ev K mg) : mg "_law_turned" = some (.ref (ga K "_law_turned")) := e.glo 20
theorem gl__law_plain (e : Ev K mg) : mg "_law_plain" = some (.ref (ga K "_law_plain")) := e.glo 21
theorem gl__law_refused (e : Ev K mg) : mg "_law_refused" = some (.ref (ga K "_law_refused")) := e.glo 22
theorem gl__law_alone_right (e : Ev K mg) : mg "_law_alone_right" = some (.ref (ga K "_law_alone_right")) := e.glo 23
theorem gl_law (e : Ev K mg) : mg "law" = some (.ref (ga K "law")) := e.glo 24
theorem gl_InvalidNumber (e : Ev K mg) : mg "InvalidNumber" = some (.ref (ga K "InvalidNumber")) := e.glo 26
theorem gl_OtherLetters (e : Ev K mg) : mg "OtherLetters" = some (.ref (ga K "OtherLetters")) := e.glo 28
theorem gl_Table (e : Ev K mg) : mg "Table" = some (.ref (ga K "Table")) := e.glo 29
theorem con_MAX_LETTERS (e : Ev K mg) : ∃ t, mg "MAX_LETTERS" = some (.int 5 t) := e.int 30
theorem fr_isinstance (e : Ev K mg) : mg "isinstance" = none := e.free 35
theorem fr_int (e : Ev K mg) : mg "int" = none := e.free 36
theorem fr_bool (e : Ev K mg) : mg "bool" = none := e.free 37
theorem fr_list (e : Ev K mg) : mg "list" = none := e.free 38
theorem fr_tuple (e : Ev K mg) : mg "tuple" = none := e.free 39
theorem fr_len (e : Ev K mg) : mg "len" = none := e.free 41
theorem fr_all (e : Ev K mg) : mg "all" = none := e.free 42
theorem fr_range (e : Ev K mg) : mg "range" = none := e.free 43
theorem fr_zip (e : Ev K mg) : mg "zip" = none := e.free 44
theorem fr_min (e : Ev K mg) : mg "min" = none := e.free 45
theorem fr_abs (e : Ev K mg) : mg "abs" = none := e.free 46
theorem fr_repr (e : Ev K mg) : mg "repr" = none := e.free 47
theorem fr_ValueError (e : Ev K mg) : mg "ValueError" = none := e.free 48
theorem cl_Table (e : Ev K mg) : Cls K (ga K "Table") := e.cls 52
theorem mk_Table (e : Ev K mg) : Mk K (ga K "Table") (ma K (ga K "Table") "__init__") := e.mkr 53
theorem in_Table (e : Ev K mg) {H : Hp} {a dx : Addr} {fs : List (PySem.Str × V)} (h : H a = some (.ins (ga K "Table") dx fs)) : TyX K H (.ref a) (.ref (ga K "Table")) := insB_ok (e.says.fact 54 rfl) (cl_Table e) h
theorem na_Table_entries (e : Ev K mg) : NoAttr K (ga K "Table") "entries" := e.noat 55
theorem sf_Table (e : Ev K mg) : PySem.W.selfFirst K (ga K "Table") = true := e.says.fact 56 rfl
theorem ne_Table (e : Ev K mg) : neB K (ga K "Table") = true := e.says.fact 57 rfl
theorem pr_Table_rows (e : Ev K mg) : PropOf K (ga K "Table") "rows" (ma K (ga K "Table") "rows") (wf K (ga K "Table") "property" "rows") := propB_ok (e.says.fact 69 rfl)
theorem me_Table_eq (e : Ev K mg) : Meth K (ga K "Table") "__eq__" (ma K (ga K "Table") "__eq__") := e.meth 74
theorem me_Table_mul (e : Ev K mg) : Meth K (ga K "Table") "__mul__" (ma K (ga K "Table") "__mul__") := e.meth 75
theorem me_Table_add (e : Ev K mg) : Meth K (ga K "Table") "__add__" (ma K (ga K "Table") "__add__") := e.meth 76
theorem me_Table_or (e : Ev K mg) : Meth K (ga K "Table") "__or__" (ma K (ga K "Table") "__or__") := e.meth 77
theorem me_Table_neg (e : Ev K mg) : Meth K (ga K "Table") "__neg__" (ma K (ga K "Table") "__neg__") := e.meth 78
theorem er_OtherLetters (e : Ev K mg) : ErrG K (ga K "OtherLetters") "number" "ValueError" "ValueError.__new__" "ValueError.__init__" [.type "ValueError", .type "Exception", .type "BaseException", .type "object"] := gerrB_ok (e.says.fact 79 rfl)
theorem isn_OtherLetters_InvalidNumber (e : Ev K mg) : PySem.W.kitOne K (.ref (ga K "OtherLetters")) (.ref (ga K "InvalidNumber")) = some false := of_decide_eq_true (e.says.fact 80 rfl)
theorem kin_Table_NoneType (e : Ev K mg) : PySem.W.kitOne K (.type "NoneType") (.ref (ga K "Table")) = some false := of_decide_eq_true (e.says.fact 81 rfl)
theorem kin_Table_bool (e : Ev K mg) : PySem.W.kitOne K (.type "bool") (.ref (ga K "Table")) = some false := of_decide_eq_true (e.says.fact 82 rfl)
theorem kin_Table_int (e : Ev K mg) : PySem.W.kitOne K (.type "int") (.ref (ga K "Table")) = some false := of_decide_eq_true (e.says.fact 83 rfl)
theorem kin_Table_str (e : Ev K mg) : PySem.W.kitOne K (.type "str") (.ref (ga K "Table")) = some false := of_decide_eq_true (e.says.fact 84 rfl)
theorem kin_Table_list (e : Ev K mg) : PySem.W.kitOne K (.type "list") (.ref (ga K "Table")) = some false := of_decide_eq_true (e.says.fact 85 rfl)
theorem kin_Table_tuple (e : Ev K mg) : PySem.W.kitOne K (.type "tuple") (.ref (ga K "Table")) = some false := of_decide_eq_true (e.says.fact 86 rfl)
theorem kin_Table_dict (e : Ev K mg) : PySem.W.kitOne K (.type "dict") (.ref (ga K "Table")) = some false := of_decide_eq_true (e.says.fact 87 rfl)
theorem cd_law (e : Ev K mg) : codeB K (ga K "law") 375 = true := e.says.fact 88 rfl
theorem chd_law (e : Ev K mg) : codeHdB K 375 373 = true := e.says.fact 89 rfl
theorem nt_law (e : Ev K mg) : (K.lookup 373).isNone = true := e.says.fact 90 rfl
end
def T_ : List (Addr × PySem.Str) := [(373, (envOfC "law" (defScope s_law) 0 0 .none).qual ++ "<lambda>")]
def cs_ : List (Addr × Addr) := [(375, 373)]
abbrev TBs (base : Heap) (mg : PySem.Str → Option Value) : Prop := ∀ c ∈ cs_, LamX.TabB base mg c.1 c.2
theorem mem_law : ((375, 373) : Addr × Addr) ∈ cs_ := by simp [cs_]
theorem inT_law : ((373, (envOfC "law" (defScope s_law) 0 0 .none).qual ++ "<lambda>") : Addr × PySem.Str) ∈ T_ := by simp [T_]
theorem oneT_law : ∀ p ∈ T_, p.1 = 373 → p.2 = (envOfC "law" (defScope s_law) 0 0 .none).qual ++ "<lambda>" := by
  intro p hp h
  simp only [T_, List.mem_cons, List.not_mem_nil, or_false] at hp
  rcases hp with rfl <;> first | rfl | exact absurd h (by decide)
end k03

namespace k03
open PySem PySem.Spec PyProof.Rows L2 Ech
open He (ga ma)
open He5 (wf)
/-! ### _law_pen -/
theorem sc__law_pen : FnScope ["_law_script"] ["_law_script"] (defScope s__law_pen) := ⟨rfl, rfl, rfl, by decide +kernel, rfl, by decide +kernel, by decide +kernel⟩
section
variable {P : Program} {w : World} {K : PySem.W.Frag} {mg : PySem.Str → Option Value} {base : Heap}
theorem F__law_pen (e : Ev K mg) : FunD K "_law_pen" "_law_pen" (defArgs s__law_pen) (defBody s__law_pen) (defScope s__law_pen) [] [] (ga K "_law_pen") (fdA K (ga K "_law_pen")) := e.fun_ 27 (d := d__law_pen)
theorem kp__law_pen (e : Ev K mg) : PySem.W.keepIn K (.ref (ga K "_law_pen")) = true := (F__law_pen e).kp
theorem b__law_pen (e : Ev K mg) : Binds K (fdA K (ga K "_law_pen")) ["_law_script"] [] := (F__law_pen e).bindsN fun _ _ _ _ _ _ us hl => match us, hl with | [_], _ => rfl
theorem bn__law_pen_1 (e : Ev K mg) : Bnd K (ga K "_law_pen") ["_law_script"] [] := ⟨[], .nil, b__law_pen e⟩
def sp__law_pen (K : PySem.W.Frag) : Sp := fun vs H Q _ => ∃ (a : Addr) (ns : List Int), vs = [.ref a] ∧ SqL K H a (ns.map V.int) ∧ ns.length ≤ 63 ∧
  ∀ G' H' p, Ex H G' → Ex G' H' → Ex H H' → Pen K ("turn" : PySem.Str) ("rest" : PySem.Str) G' H' p 0 → Q (.ref p) H'
theorem penk1 : ¬ ((Sum.inr ("cells" : PySem.Str) : Key) = Sum.inr ("turn" : PySem.Str)) := by decide +kernel
theorem penk2 : ¬ ((Sum.inr ("cells" : PySem.Str) : Key) = Sum.inr ("rest" : PySem.Str)) := by decide +kernel
theorem penk3 : ¬ ((Sum.inr ("turn" : PySem.Str) : Key) = Sum.inr ("rest" : PySem.Str)) := by decide +kernel
theorem pen_merge (x y z : V) : mergeK [] [(Sum.inr ("cells" : PySem.Str), x), (Sum.inr ("turn" : PySem.Str), y), (Sum.inr ("rest" : PySem.Str), z)] = putK (putK (putK [] (Sum.inr ("cells" : PySem.Str) : Key) x) (Sum.inr ("turn" : PySem.Str)) y) (Sum.inr ("rest" : PySem.Str)) z := rfl
theorem ok__law_pen (e : Ev K mg) : FnG P w K mg base CX0 1 (ga K "_law_pen") (fdA K (ga K "_law_pen")) ["_law_script"] (sp__law_pen K) := by
  refine FnG.body (F__law_pen e) sc__law_pen (fun vs H Q E h => ?_) (fun cdv A outer s H vs Q E hr hq h => ?_)
  · obtain ⟨a, ns, rfl, _⟩ := h
    rfl
  · obtain ⟨a, ns, rfl, hS, hl, q⟩ := h
    refine ⟨_, PSs.nox (pss_one (ps_ret (pe_disp (pps_cons pe_str (pe_callTy (T := "list") (k_list (K := K) rfl) (by rfl) (fr_list e) (by decide +kernel) (pa_cons (pe_slice (sl_k (K := K) rfl) (uv 0) po_none (u_part pe_int)) pa_nil)) (pps_cons pe_str pe_int (pps_cons pe_str pe_int pps_nil))) (by rfl) (by rfl) (fun z => by cases z) (by decide)))), ?_⟩
    intro p hp
    have x1 : Ex H (upd H p (.dK [])) := Evl.Ex.new hp
    refine ⟨ns.map V.int, Or.inl ⟨Evl.ex_l x1 hS, fun q1 H2 n2 => ?_⟩⟩
    refine ⟨_, Or.inl (SqL.of n2.at), fun c H3 n3 => ?_⟩
    have p2 : H2 p = some (.dK []) := n2.ex _ _ upd_same
    have p3 : H3 p = some (.dK []) := n3.ex _ _ p2
    have npc : p ≠ c := ne_of_none p2 n3.fresh
    refine ⟨p3, [(Sum.inr ("cells" : PySem.Str), .ref c), (Sum.inr ("turn" : PySem.Str), .int 0), (Sum.inr ("rest" : PySem.Str), .int 0)], rfl, (by show 3 ≤ 15; decide), ?_⟩
    have x3 : Ex H H3 := fun b o e => n3.ex _ _ (n2.ex _ _ (x1 _ _ e))
    have hc : H c = none := by
      cases e : H c with
      | none => rfl
      | some o => have := n2.ex _ _ (x1 _ _ e); rw [n3.fresh] at this; cases this
    have cut : cutV (ns.map V.int) none (some 63) = (((ns.drop (HT.sIx (ns.map V.int).length 0 none)).take (HT.sIx (ns.map V.int).length (ns.map V.int).length (some 63) - HT.sIx (ns.map V.int).length 0 none))).map V.int := by
      unfold cutV
      rw [← List.map_drop, ← List.map_take]
    generalize hms : ((ns.drop (HT.sIx (ns.map V.int).length 0 none)).take (HT.sIx (ns.map V.int).length (ns.map V.int).length (some 63) - HT.sIx (ns.map V.int).length 0 none)) = ms at cut
    have lms : ms.length ≤ 63 := by
      rw [← hms]
      rw [List.length_take, List.length_drop]; omega
    have x4 : Ex H (upd H3 p (.dK (mergeK [] [(Sum.inr ("cells" : PySem.Str), .ref c), (Sum.inr ("turn" : PySem.Str), .int 0), (Sum.inr ("rest" : PySem.Str), .int 0)]))) := Evl.Ex.mut x3 hp
    refine q (upd H c (.lst (ms.map V.int))) _ p (Evl.Ex.new hc) ?_ x4 ?_
    · intro b o e
      by_cases hb : b = c
      · subst hb
        rw [upd_same] at e
        rw [upd_ne npc.symm, n3.at, cut]
        exact e
      · rw [upd_ne hb] at e
        exact x4 b o e
    · refine ⟨⟨_, c, ms, 0, 0, upd_same, length_mergeK _ _, ?_, SqL.of upd_same, lms, ?_, Int.le_refl 0, by omega, ?_, Int.le_refl 0⟩, by rw [upd_ne npc]; exact hp⟩
      · rw [pen_merge, valV_put, if_neg penk2, valV_put, if_neg penk1, valV_put, if_pos rfl]
      · rw [pen_merge, valV_put, if_neg penk3, valV_put, if_pos rfl]
      · rw [pen_merge, valV_put, if_pos rfl]
end
end k03

namespace k03
open PySem PySem.Spec PyProof.Rows L2 Ech
open He (ga ma)
open He5 (wf)
/-! ### _law_draw -/
theorem sc__law_draw : FnScope ["_law_pen_here", "_law_size", "_law_digit", "_law_turn", "_law_cell", "_law_primes", "_law_prime", "_law_mixed"] ["_law_pen_here", "_law_size"] (defScope s__law_draw) := ⟨rfl, rfl, rfl, by decide +kernel, rfl, by decide +kernel, by decide +kernel⟩
section
variable {P : Program} {w : World} {K : PySem.W.Frag} {mg : PySem.Str → Option Value} {base : Heap}
theorem F__law_draw (e : Ev K mg) : FunD K "_law_draw" "_law_draw" (defArgs s__law_draw) (defBody s__law_draw) (defScope s__law_draw) [] [] (ga K "_law_draw") (fdA K (ga K "_law_draw")) := e.fun_ 28 (d := d__law_draw)
theorem kp__law_draw (e : Ev K mg) : PySem.W.keepIn K (.ref (ga K "_law_draw")) = true := (F__law_draw e).kp
theorem b__law_draw (e : Ev K mg) : Binds K (fdA K (ga K "_law_draw")) ["_law_pen_here", "_law_size"] [] := (F__law_draw e).bindsN fun _ _ _ _ _ _ us hl => match us, hl with | [_, _], _ => rfl
theorem bn__law_draw_2 (e : Ev K mg) : Bnd K (ga K "_law_draw") ["_law_pen_here", "_law_size"] [] := ⟨[], .nil, b__law_draw e⟩
theorem keysOk : KeysOk ("turn" : PySem.Str) ("rest" : PySem.Str) := ⟨by decide +kernel, by decide +kernel, by decide +kernel⟩
theorem prime_ok {z : Int} (h0 : 0 ≤ z) (h1 : z < 5) : 0 < ([2147483629, 2147483647, 2147483563, 2147483587, 2147483579] : List Int).getD z.toNat 0 ∧ ([2147483629, 2147483647, 2147483563, 2147483587, 2147483579] : List Int).getD z.toNat 0 < 2 ^ 32 := by
  obtain ⟨n, rfl⟩ : ∃ n : Nat, z = n := ⟨z.toNat, by omega⟩
  have hn : n < 5 := by omega
  rw [Int.toNat_natCast]
  match n, hn with
  | 0, _ => decide +kernel
  | 1, _ => decide +kernel
  | 2, _ => decide +kernel
  | 3, _ => decide +kernel
  | 4, _ => decide +kernel
def sp__law_draw (K : PySem.W.Frag) : Sp := fun vs H Q _ => ∃ (G : Hp) (p : Addr) (b : Nat) (m : Int), vs = [.ref p, .int m] ∧ Ex G H ∧ Pen K ("turn" : PySem.Str) ("rest" : PySem.Str) G H p b ∧ b < 2 ^ 60 ∧ 0 < m ∧ m < 2 ^ 60 ∧
  ∀ v G' H', GrM p G H G' H' → Pen K ("turn" : PySem.Str) ("rest" : PySem.Str) G' H' p (b + 1) → 0 ≤ v → v < m → Q (.int v) H'
theorem ok__law_draw (e : Ev K mg) : FnG P w K mg base CX0 1 (ga K "_law_draw") (fdA K (ga K "_law_draw")) ["_law_pen_here", "_law_size"] (sp__law_draw K) := by
  refine FnG.body (F__law_draw e) sc__law_draw (fun vs H Q E h => ?_) (fun cdv A outer s H vs Q E hr hq h => ?_)
  · obtain ⟨G, p, b, m, rfl, _⟩ := h
    rfl
  · obtain ⟨G, p, b, m, rfl, hg, ⟨⟨kvs, c, ns, u, r, hx⟩, un⟩, hb, m1, m2, q⟩ := h
    have X : PenX K ("turn" : PySem.Str) ("rest" : PySem.Str) G H p b kvs c ns u r := hx
    have m3 : m < 2 ^ 1000 := Int.lt_of_lt_of_le m2 (by decide +kernel)
    obtain ⟨_, _, _, _, l63, _, u0, ub, _, r0⟩ := id hx
    refine ⟨_, PSs.nox (pss_cons (u_if (u_cmpT o_gt (u_dget (hu_of hr) (uv 0) pe_str) pe_int (nomark _)) (pss_cons (ps_set (i := 2) sc__law_draw.nd (by rfl) (Or.inl rfl) (pe_op o_modz (pe_callTy (T := "int") c_int (by rfl) (fr_int e) (by decide +kernel) (pa_cons (u_dget (hu_of hr) (uv 0) pe_str) pa_nil)) (uv 1)))
            (pss_cons (u_dput (hu_of hr) (uv 0) pe_str (pe_op o_divz (u_dget (hu_of hr) (uv 0) pe_str) (uv 1)))
            (pss_one (ps_ret (uv 2))))) pss_nil)
            (pss_cons (ps_set (i := 3) sc__law_draw.nd (by rfl) (Or.inl rfl) (u_dget (hu_of hr) (uv 0) pe_str))
            (pss_cons (u_dput (hu_of hr) (uv 0) pe_str (pe_op (k_add (K := K) rfl) (uv 3) pe_int))
            (pss_cons (ps_set (i := 4) sc__law_draw.nd (by rfl) (Or.inl rfl) (pe_op (k_add (K := K) rfl) (pe_op o_mul pe_int (uv 3)) pe_int))
            (pss_cons (u_if (u_cmpT (k_ne (K := K) rfl hr.units) (u_dget (hu_of hr) (uv 0) pe_str) (u_lst pa_nil) (nomark _)) (pss_one (ps_set (i := 4) sc__law_draw.nd (by rfl) (Or.inl rfl) (pe_ix (ix_k (K := K) rfl) (u_dget (hu_of hr) (uv 0) pe_str) (pe_op o_modz (pe_callTy (T := "int") c_int (by rfl) (fr_int e) (by decide +kernel) (pa_cons (uv 3) pa_nil)) (pe_callB (id := "len") (k_len (K := K) rfl) (by rfl) (fr_len e) (by decide +kernel) (pa_cons (u_dget (hu_of hr) (uv 0) pe_str) pa_nil))) (fun _ _ => rfl)))) pss_nil)
            (pss_cons (u_if (PW.pt (u_andT (u_cmpT o_lt (uv 3) (pe_callB (id := "len") (k_len (K := K) rfl) (by rfl) (fr_len e) (by decide +kernel) (pa_cons (u_dget (hu_of hr) (uv 0) pe_str) pa_nil)) (nomark _)) (u_and1 (u_cmpT o_ge (pe_callB (id := "abs") c_abs (by rfl) (fr_abs e) (by decide +kernel) (pa_cons (uv 4) pa_nil)) (pe_op o_pow pe_int pe_int) (nomark _))))) (pss_cons (u_dput (hu_of hr) (uv 0) pe_str (pe_op o_divz (pe_op o_sub (pe_callB (id := "abs") c_abs (by rfl) (fr_abs e) (by decide +kernel) (pa_cons (uv 4) pa_nil)) (pe_op o_pow pe_int pe_int)) (uv 1)))
            (pss_one (ps_ret (pe_op o_modz (pe_op o_sub (pe_callB (id := "abs") c_abs (by rfl) (fr_abs e) (by decide +kernel) (pa_cons (uv 4) pa_nil)) (pe_op o_pow pe_int pe_int)) (uv 1))))) pss_nil)
            (pss_cons (ps_set (i := 5) sc__law_draw.nd (by rfl) (Or.inl rfl) (u_lst (pa_cons pe_int (pa_cons pe_int (pa_cons pe_int (pa_cons pe_int (pa_cons pe_int pa_nil)))))))
            (pss_cons (ps_set (i := 6) sc__law_draw.nd (by rfl) (Or.inl rfl) (pe_ix (ix_k (K := K) rfl) (uv 5) (pe_op o_modz (pe_callTy (T := "int") c_int (by rfl) (fr_int e) (by decide +kernel) (pa_cons (uv 3) pa_nil)) pe_int) (fun _ _ => rfl)))
            (pss_cons (ps_set (i := 7) sc__law_draw.nd (by rfl) (Or.inl rfl) (pe_op (k_add (K := K) rfl) (pe_op (k_add (K := K) rfl) (pe_op (k_add (K := K) rfl) (pe_op o_mul (pe_op o_modz (pe_callTy (T := "int") c_int (by rfl) (fr_int e) (by decide +kernel) (pa_cons (uv 4) pa_nil)) pe_int) pe_int) (pe_op o_mul (pe_op o_mul pe_int (uv 3)) (uv 3))) (pe_op o_mul pe_int (uv 3))) pe_int))
            (pss_cons (ps_set (i := 7) sc__law_draw.nd (by rfl) (Or.inl rfl) (pe_op o_modz (pe_callTy (T := "int") c_int (by rfl) (fr_int e) (by decide +kernel) (pa_cons (uv 7) pa_nil)) (uv 6)))
            (pss_cons (ps_set (i := 7) sc__law_draw.nd (by rfl) (Or.inl rfl) (pe_op o_modz (pe_callTy (T := "int") c_int (by rfl) (fr_int e) (by decide +kernel) (pa_cons (pe_op (k_add (K := K) rfl) (pe_op (k_add (K := K) rfl) (pe_op (k_add (K := K) rfl) (pe_op o_mul (uv 7) (uv 7)) (pe_op o_mul pe_int (uv 7))) (pe_op o_mul pe_int (uv 3))) pe_int) pa_nil)) pe_int))
            (pss_one (ps_ret (pe_op o_modz (pe_callTy (T := "int") c_int (by rfl) (fr_int e) (by decide +kernel) (pa_cons (pe_op o_divz (pe_op o_modz (pe_callTy (T := "int") c_int (by rfl) (fr_int e) (by decide +kernel) (pa_cons (pe_op o_mul (uv 7) (pe_op (k_add (K := K) rfl) (uv 7) pe_int)) pa_nil)) pe_int) pe_int) pa_nil)) (uv 1))))))))))))))), ?_⟩
    refine ⟨_, X.rest, ?_⟩
    refine bite_d (fun hc => ?_) (fun hc => ?_)
    · refine ⟨_, X.rest, ?_⟩
      refine ⟨m1, fun z1 a1 b1 _ => ?_⟩
      refine ⟨_, X.rest, ?_⟩
      refine ⟨⟨m1, m3⟩, fun z2 e2 => ?_⟩
      refine ⟨_, X.dput _ _, ?_⟩
      exact q z1 G _ (upd_grm hg un) (((X.putR keysOk (e2 ▸ Int.ediv_nonneg r0 (Int.le_of_lt m1))).pen un).up (Nat.le_succ _)) a1 b1
    · refine ⟨_, X.used, ?_⟩
      refine ⟨_, X.dput _ _, ?_⟩
      have X2 := X.putU keysOk (u' := u + 1) (b' := b + 1) (by omega) (by omega)
      have g2 : GrM p G H G _ := upd_grm (o := .dK (putK kvs (Sum.inr ("turn" : PySem.Str)) (.int (u + 1)))) hg un
      generalize upd H p (.dK (putK kvs (Sum.inr ("turn" : PySem.Str)) (.int (u + 1)))) = H2 at X2 g2
      refine ⟨mulOk (by decide), ?_⟩
      refine ⟨_, X2.cells, ?_⟩
      refine ⟨by decide +kernel, fun z H3 nw => ?_⟩
      have X3 := X2.gr (nw.gr0 g2.gh)
      have g3 : GrM p G H G H3 := g2.trans ((nw.gr0 g2.gh).m p)
      have sc : SqL K H3 c (ns.map V.int) := Evl.ex_l g3.gh X3.2.2.2.1
      refine ints_cmp (ms := []) sc (SqL.of nw.at) ?_
      refine bite_nd (fun hc2 => ?A) (fun hc2 => ?B)
      case' A =>
        refine ⟨_, X3.cells, ?_⟩
        refine ⟨_, X3.cells, ?_⟩
        refine ⟨_, Or.inl sc, ?_⟩
        have ln : (ns.map V.int).length = ns.length := List.length_map _
        rw [ln]
        have pos : 0 < ns.length := List.length_pos_iff.mpr hc2
        refine ⟨by omega, fun z0 a0 b0 _ => ?_⟩
        refine int_ix (Or.inl sc) a0 b0 ?_
        generalize ns.getD z0.toNat 0 = cell
      all_goals
        refine ⟨_, X3.cells, ?_⟩
        refine ⟨_, Or.inl sc, ?_⟩
        refine bite_d (fun hc3 => ?_) (fun hc3 => ?_)
        case' refine_1 =>
          refine ⟨⟨by decide, by decide, by decide⟩, ?_⟩
          refine bite_d (fun hc4 => ?_) (fun hc4 => ?_)
          case' refine_1 =>
            refine ⟨⟨by decide, by decide, by decide⟩, ?_⟩
            refine ⟨⟨m1, m3⟩, fun z1 e1 => ?_⟩
            refine ⟨_, X3.dput _ _, ?_⟩
            refine ⟨⟨by decide, by decide, by decide⟩, ?_⟩
            refine ⟨m1, fun z2 a2 b2 _ => ?_⟩
            exact q z2 G _ (g3.trans (upd_grm g3.gh un)) ((X3.putR keysOk (e1 ▸ Int.ediv_nonneg (Int.sub_nonneg_of_le hc4) (Int.le_of_lt m1))).pen un) a2 b2
        all_goals
          refine ⟨szr (n := 5) (by decide +kernel), fun zp H4 nw4 => ?_⟩
          have X4 := X3.gr (nw4.gr0 g3.gh)
          have g4 : GrM p G H G H4 := g3.trans ((nw4.gr0 g3.gh).m p)
          refine ⟨by decide, fun z5 a5 b5 _ => ?_⟩
          refine int_ix (ns := [2147483629, 2147483647, 2147483563, 2147483587, 2147483579]) (Or.inl (SqL.of nw4.at)) a5 b5 ?_
          have hp := prime_ok a5 b5
          generalize ([2147483629, 2147483647, 2147483563, 2147483587, 2147483579] : List Int).getD z5.toNat 0 = pr at hp
          obtain ⟨hp0, hp1⟩ := hp
          repeat (first
            | refine ⟨by decide, fun z a b _ => ?_⟩
            | refine ⟨hp0, fun z a b _ => ?_⟩
            | refine ⟨mulOk (by decide), ?_⟩
            | refine ⟨mulOkR (by decide), ?_⟩
            | refine ⟨mulOk ⟨by omega, by omega⟩, ?_⟩
            | refine ⟨mulOkR ⟨by omega, by omega⟩, ?_⟩
            | refine ⟨⟨by decide, by decide +kernel⟩, fun z _ => ?_⟩
            | refine ⟨m1, fun z a b _ => ?_⟩)
          exact q _ G _ g4 (X4.pen un) (by assumption) (by assumption)
end
end k03

namespace k03
open PySem PySem.Spec PyProof.Rows L2 Ech
open He (ga ma)
open He5 (wf)
/-! ### _law_wide -/
theorem sc__law_wide : FnScope ["_law_pen_here", "_law_size", "_law_found", "_law_reach"] ["_law_pen_here", "_law_size"] (defScope s__law_wide) := ⟨rfl, rfl, rfl, by decide +kernel, rfl, by decide +kernel, by decide +kernel⟩
section
variable {P : Program} {w : World} {K : PySem.W.Frag} {mg : PySem.Str → Option Value} {base : Heap}
theorem F__law_wide (e : Ev K mg) : FunD K "_law_wide" "_law_wide" (defArgs s__law_wide) (defBody s__law_wide) (defScope s__law_wide) [] [] (ga K "_law_wide") (fdA K (ga K "_law_wide")) := e.fun_ 29 (d := d__law_wide)
theorem kp__law_wide (e : Ev K mg) : PySem.W.keepIn K (.ref (ga K "_law_wide")) = true := (F__law_wide e).kp
theorem b__law_wide (e : Ev K mg) : Binds K (fdA K (ga K "_law_wide")) ["_law_pen_here", "_law_size"] [] := (F__law_wide e).bindsN fun _ _ _ _ _ _ us hl => match us, hl with | [_, _], _ => rfl
theorem bn__law_wide_2 (e : Ev K mg) : Bnd K (ga K "_law_wide") ["_law_pen_here", "_law_size"] [] := ⟨[], .nil, b__law_wide e⟩
def sp__law_wide (K : PySem.W.Frag) : Sp := fun vs H Q _ => ∃ (G : Hp) (p : Addr) (b : Nat) (m : Int), vs = [.ref p, .int m] ∧ Ex G H ∧ Pen K ("turn" : PySem.Str) ("rest" : PySem.Str) G H p b ∧ b + 10 < 2 ^ 60 ∧ 0 < m ∧ m ≤ 10 ^ 40 ∧
  ∀ v G' H', GrM p G H G' H' → Pen K ("turn" : PySem.Str) ("rest" : PySem.Str) G' H' p (b + 10) → 0 ≤ v → v < m → Q (.int v) H'
theorem six_pow : ((10 : Int) ^ (6 : Int).toNat) = 1000000 := by decide +kernel
theorem ok__law_wide (e : Ev K mg) : FnG P w K mg base CX0 2 (ga K "_law_wide") (fdA K (ga K "_law_wide")) ["_law_pen_here", "_law_size"] (sp__law_wide K) := by
  refine FnG.body (F__law_wide e) sc__law_wide (fun vs H Q E h => ?_) (fun cdv A outer s H vs Q E hr hq h => ?_)
  · obtain ⟨G, p, b, m, rfl, _⟩ := h
    rfl
  · obtain ⟨G, p, b, m, rfl, hg, pn, hb, m1, m2, q⟩ := h
    refine ⟨_, PSs.nox (pss_cons (ps_asg (u_tup (pa_cons pe_int (pa_cons pe_int pa_nil))) (u_pgtup (K := K) rfl rfl (PGL.cons (pg_name (i := 2) sc__law_wide.nd (by rfl) (by first | exact Or.inl rfl | exact Or.inr rfl)) (PGL.cons (pg_name (i := 3) sc__law_wide.nd (by rfl) (by first | exact Or.inl rfl | exact Or.inr rfl)) PGL.nil (by rfl)) (by rfl))))
            (pss_cons (u_while PassesOwn.never (u_cmpT o_lt (uv 3) (uv 1) (nomark _)) (pss_cons (ps_set (i := 2) sc__law_wide.nd (by rfl) (Or.inl rfl) (pe_op (k_add (K := K) rfl) (pe_op o_mul (uv 2) (pe_op o_pow pe_int pe_int)) (u_callQ (ok__law_draw e) (hr.mono (by decide)) hq (by rfl) (gl__law_draw e) (kp__law_draw e) (bn__law_draw_2 e) pass0 (pa_cons (uv 0) (pa_cons (pe_op o_pow pe_int pe_int) pa_nil)))))
            (pss_one (ps_set (i := 3) sc__law_wide.nd (by rfl) (Or.inl rfl) (pe_op o_mul (uv 3) (pe_op o_pow pe_int pe_int))))))
            (pss_one (ps_ret (pe_op o_modz (pe_callTy (T := "int") c_int (by rfl) (fr_int e) (by decide +kernel) (pa_cons (uv 2) pa_nil)) (uv 1)))))), ?_⟩
    refine ⟨szr (n := 2) (by decide +kernel), fun tp H0 nw0 => ?_⟩
    refine ⟨_, SqT.of nw0.at, rfl, ?_⟩
    have g0 := nw0.gr0 hg
    refine ⟨fun k σ H' => ∃ (i : Nat) (G1 : Hp) (f : Int), k = 10 - i ∧ i ≤ 7 ∧ GrM p G H G1 H' ∧ Pen K ("turn" : PySem.Str) ("rest" : PySem.Str) G1 H' p (b + i) ∧ σ = [some (.ref p), some (.int m), some (.int f), some (.int (1000000 ^ i))], ⟨10, 0, G, 0, rfl, by decide, g0.m p, pn.gr g0, rfl⟩, ?_⟩
    rintro k σ H1 ⟨i, G1, f, rfl, hi, g1, pn1, rfl⟩
    refine bite_d (fun hc => ?_) (fun hc => ?_)
    · have hi6 : i < 7 := by
        rcases Nat.lt_or_ge i 7 with h | h
        · exact h
        · have : i = 7 := by omega
          subst this
          have : (1000000 : Int) ^ 7 < m := hc
          omega
      refine ⟨⟨by decide, by decide, by decide⟩, ?_⟩
      rw [six_pow]
      refine ⟨mulOkR (by decide), ?_⟩
      refine ⟨⟨by decide, by decide, by decide⟩, ?_⟩
      rw [six_pow]
      refine ⟨G1, p, _, _, rfl, g1.gh, pn1, by omega, by decide, by decide, fun v G2 H2 g2 pn2 v0 v1 => ?_⟩
      refine ⟨⟨by decide, by decide, by decide⟩, ?_⟩
      rw [six_pow]
      refine ⟨mulOkR (by decide), ?_⟩
      exact ⟨10 - (i + 1), by omega, i + 1, G2, f * 1000000 + v, rfl, by omega, g1.trans g2, pn2, by rw [Int.pow_succ]; rfl⟩
    · refine ⟨m1, fun z a0 a1 _ => ?_⟩
      exact q z G1 H1 g1 (pn1.up (by omega)) a0 a1
end
end k03

namespace k03
open PySem PySem.Spec PyProof.Rows L2 Ech
open He (ga ma)
open He5 (wf)
/-! ### _law_price -/
theorem sc__law_price : FnScope ["_law_pen_here", "_law_way", "_law_some"] ["_law_pen_here"] (defScope s__law_price) := ⟨rfl, rfl, rfl, by decide +kernel, rfl, by decide +kernel, by decide +kernel⟩
section
variable {P : Program} {w : World} {K : PySem.W.Frag} {mg : PySem.Str → Option Value} {base : Heap}
theorem F__law_price (e : Ev K mg) : FunD K "_law_price" "_law_price" (defArgs s__law_price) (defBody s__law_price) (defScope s__law_price) [] [] (ga K "_law_price") (fdA K (ga K "_law_price")) := e.fun_ 30 (d := d__law_price)
theorem kp__law_price (e : Ev K mg) : PySem.W.keepIn K (.ref (ga K "_law_price")) = true := (F__law_price e).kp
theorem b__law_price (e : Ev K mg) : Binds K (fdA K (ga K "_law_price")) ["_law_pen_here"] [] := (F__law_price e).bindsN fun _ _ _ _ _ _ us hl => match us, hl with | [_], _ => rfl
theorem bn__law_price_1 (e : Ev K mg) : Bnd K (ga K "_law_price") ["_law_pen_here"] [] := ⟨[], .nil, b__law_price e⟩
def goodA (x : Option Int) : Prop := ∀ i, x = some i → 0 ≤ i ∧ i < 10 ^ 20
theorem getD_in {xs : List (Option Int)} {k : Nat} {i : Int} (h : xs.getD k none = some i) : some i ∈ xs := by
  rw [List.getD_eq_getElem?_getD] at h
  cases e : xs[k]? with
  | none => rw [e] at h; cases h
  | some y =>
    rw [e] at h
    have h' : y = some i := h
    rw [← h']
    exact List.mem_of_getElem? e
theorem way_ok {z : Int} (h0 : 0 ≤ z) (h1 : z < 8) : 0 ≤ ([0, 0, 1, 1, 1, 1, 2, 3] : List Int).getD z.toNat 0 ∧ ([0, 0, 1, 1, 1, 1, 2, 3] : List Int).getD z.toNat 0 < 4 := by
  obtain ⟨n, rfl⟩ : ∃ n : Nat, z = n := ⟨z.toNat, by omega⟩
  have hn : n < 8 := by omega
  rw [Int.toNat_natCast]
  match n, hn with
  | 0, _ => decide +kernel
  | 1, _ => decide +kernel
  | 2, _ => decide +kernel
  | 3, _ => decide +kernel
  | 4, _ => decide +kernel
  | 5, _ => decide +kernel
  | 6, _ => decide +kernel
  | 7, _ => decide +kernel
def sp__law_price (K : PySem.W.Frag) : Sp := fun vs H Q _ => ∃ (G : Hp) (p : Addr) (b : Nat), vs = [.ref p] ∧ Ex G H ∧ Pen K ("turn" : PySem.Str) ("rest" : PySem.Str) G H p b ∧ b + 20 < 2 ^ 60 ∧
  ∀ x G' H', goodA x → GrM p G H G' H' → Pen K ("turn" : PySem.Str) ("rest" : PySem.Str) G' H' p (b + 20) → Q (pV x) H'
theorem ok__law_price (e : Ev K mg) : FnG P w K mg base CX0 3 (ga K "_law_price") (fdA K (ga K "_law_price")) ["_law_pen_here"] (sp__law_price K) := by
  refine FnG.body (F__law_price e) sc__law_price (fun vs H Q E h => ?_) (fun cdv A outer s H vs Q E hr hq h => ?_)
  · obtain ⟨G, p, b, rfl, _⟩ := h
    rfl
  · obtain ⟨G, p, b, rfl, hg, pn, hb, q⟩ := h
    refine ⟨_, PSs.nox (pss_cons (ps_set (i := 1) sc__law_price.nd (by rfl) (Or.inl rfl) (u_callQ (ok__law_draw e) (hr.mono (by decide)) hq (by rfl) (gl__law_draw e) (kp__law_draw e) (bn__law_draw_2 e) pass0 (pa_cons (uv 0) (pa_cons pe_int pa_nil))))
            (pss_cons (ps_set (i := 2) sc__law_price.nd (by rfl) (Or.inl rfl) (u_lst (pa_cons pe_non (pa_cons (u_callQ (ok__law_draw e) (hr.mono (by decide)) hq (by rfl) (gl__law_draw e) (kp__law_draw e) (bn__law_draw_2 e) pass0 (pa_cons (uv 0) (pa_cons pe_int pa_nil))) (pa_cons (u_callQ (ok__law_draw e) (hr.mono (by decide)) hq (by rfl) (gl__law_draw e) (kp__law_draw e) (bn__law_draw_2 e) pass0 (pa_cons (uv 0) (pa_cons pe_int pa_nil))) (pa_cons (u_callQ (ok__law_wide e) (hr.mono (by decide)) hq (by rfl) (gl__law_wide e) (kp__law_wide e) (bn__law_wide_2 e) pass0 (pa_cons (uv 0) (pa_cons (pe_op o_pow pe_int pe_int) pa_nil))) pa_nil))))))
            (pss_one (ps_ret (pe_ix (ix_k (K := K) rfl) (uv 2) (pe_ix (ix_k (K := K) rfl) (u_lst (pa_cons pe_int (pa_cons pe_int (pa_cons pe_int (pa_cons pe_int (pa_cons pe_int (pa_cons pe_int (pa_cons pe_int (pa_cons pe_int pa_nil))))))))) (uv 1) (fun _ _ => rfl)) (fun _ _ => rfl)))))), ?_⟩
    refine ⟨G, p, b, 8, rfl, hg, pn, by omega, by decide, by decide, fun way G1 H1 g1 pn1 w0 w1 => ?_⟩
    refine ⟨G1, p, _, 4, rfl, g1.gh, pn1, by omega, by decide, by decide, fun a G2 H2 g2 pn2 a0 a1 => ?_⟩
    refine ⟨G2, p, _, 100, rfl, g2.gh, pn2, by omega, by decide, by decide, fun c G3 H3 g3 pn3 c0 c1 => ?_⟩
    refine ⟨⟨by decide, by decide, by decide⟩, ?_⟩
    have e20 : (10 : Int) ^ (20 : Int).toNat = 10 ^ 20 := by decide +kernel
    rw [e20]
    refine ⟨G3, p, _, _, rfl, g3.gh, pn3, by omega, by decide +kernel, by decide +kernel, fun d G4 H4 g4 pn4 d0 d1 => ?_⟩
    refine ⟨szr (n := 4) (by decide +kernel), fun l H5 nw5 => ?_⟩
    refine ⟨szr (n := 8) (by decide +kernel), fun t H6 nw6 => ?_⟩
    refine ⟨_, _, Or.inl (SqL.of nw6.at), ints_at (ns := [0, 0, 1, 1, 1, 1, 2, 3]) w0 w1, ?_⟩
    have hw := way_ok w0 w1
    generalize ([0, 0, 1, 1, 1, 1, 2, 3] : List Int).getD way.toNat 0 = z at hw
    obtain ⟨z0, z1⟩ := hw
    have sl : SqL K H6 l ([none, some a, some c, some d].map pV) := SqL.of (nw6.ex _ _ nw5.at)
    refine ⟨_, _, Or.inl sl, row_at z0 (by show z < 4; exact z1), ?_⟩
    have g5 := (nw5.gr0 g4.gh)
    have g6 := (nw6.gr0 g5.gh)
    refine q _ G4 H6 ?_ (g1.trans (g2.trans (g3.trans (g4.trans ((g5.trans g6).m p))))) ((pn4.gr (g5.trans g6)).up (by omega))
    intro i hi
    have hm := getD_in hi
    simp only [List.mem_cons, List.not_mem_nil, or_false] at hm
    rcases hm with h | h | h | h
    · cases h
    · cases h; omega
    · cases h; omega
    · cases h; exact ⟨d0, d1⟩
end
end k03

namespace k03
open PySem PySem.Spec PyProof.Rows L2 Ech
open He (ga ma)
open He5 (wf)
/-! ### _law_rows -/
theorem sc__law_rows : FnScope ["_law_pen_here", "_law_letters", "_law_other", "_law_one"] ["_law_pen_here", "_law_letters"] (defScope s__law_rows) := ⟨rfl, rfl, rfl, by decide +kernel, rfl, by decide +kernel, by decide +kernel⟩
section
variable {P : Program} {w : World} {K : PySem.W.Frag} {mg : PySem.Str → Option Value} {base : Heap}
theorem F__law_rows (e : Ev K mg) : FunD K "_law_rows" "_law_rows" (defArgs s__law_rows) (defBody s__law_rows) (defScope s__law_rows) [] [] (ga K "_law_rows") (fdA K (ga K "_law_rows")) := e.fun_ 31 (d := d__law_rows)
theorem kp__law_rows (e : Ev K mg) : PySem.W.keepIn K (.ref (ga K "_law_rows")) = true := (F__law_rows e).kp
theorem b__law_rows (e : Ev K mg) : Binds K (fdA K (ga K "_law_rows")) ["_law_pen_here", "_law_letters"] [] := (F__law_rows e).bindsN fun _ _ _ _ _ _ us hl => match us, hl with | [_, _], _ => rfl
theorem bn__law_rows_2 (e : Ev K mg) : Bnd K (ga K "_law_rows") ["_law_pen_here", "_law_letters"] [] := ⟨[], .nil, b__law_rows e⟩
def RowO (G : Hp) (w : V) (r : List (Option Int)) : Prop := ∃ b : Addr, w = V.ref b ∧ G b = some (.lst (r.map pV))
theorem RowO.up {G G' : Hp} {w : V} {r : List (Option Int)} (h : RowO G w r) (x : Ex G G') : RowO G' w r := by
  obtain ⟨b, e1, e2⟩ := h
  exact ⟨b, e1, x _ _ e2⟩
def sp__law_rows (K : PySem.W.Frag) : Sp := fun vs H Q _ => ∃ (G : Hp) (p : Addr) (b L : Nat), vs = [.ref p, .int L] ∧ Ex G H ∧ Pen K ("turn" : PySem.Str) ("rest" : PySem.Str) G H p b ∧ b + 500 < 2 ^ 60 ∧ L ≤ 5 ∧
  ∀ l vs rows G' H', H' l = some (.lst vs) → G' l = none → H l = none → Paired (RowO G') vs rows → rows.length = L → SqR rows → (∀ r ∈ rows, ∀ x ∈ r, goodA x) → GrM p G H G' H' → Pen K ("turn" : PySem.Str) ("rest" : PySem.Str) G' H' p (b + 500) → Q (.ref l) H'
theorem ok__law_rows (e : Ev K mg) : FnG P w K mg base CX0 4 (ga K "_law_rows") (fdA K (ga K "_law_rows")) ["_law_pen_here", "_law_letters"] (sp__law_rows K) := by
  refine FnG.body (F__law_rows e) sc__law_rows (fun vs H Q E h => ?_) (fun cdv A outer s H vs Q E hr hq h => ?_)
  · obtain ⟨G, p, b, L, rfl, _⟩ := h
    rfl
  · obtain ⟨G, p, b, L, rfl, hg, hp, hb, hL, q⟩ := h
    refine ⟨_, PSs.nox (pss_one (ps_ret (u_lc (own := [("_law_one", 3)]) (by rfl) sc__law_rows.nd (piu_range1 (by rfl) (fr_range e) (pa_cons (uv 1) pa_nil)) (blkOk_by (by kernel_rfl)) (fun _ _ _ _ _ => (pg_name (i := 3) sc__law_rows.nd (by rfl) (by first | exact Or.inl rfl | exact Or.inr rfl))) (fun _ _ _ _ _ => pts_nil) (fun _ _ _ _ _ => (u_lc (own := [("_law_other", 2)]) (by rfl) sc__law_rows.nd (piu_range1 (by rfl) (fr_range e) (pa_cons (uv 1) pa_nil)) (blkOk_by (by kernel_rfl)) (fun _ _ _ _ _ => (pg_name (i := 2) sc__law_rows.nd (by rfl) (by first | exact Or.inl rfl | exact Or.inr rfl))) (fun _ _ _ _ _ => pts_nil) (fun _ _ _ _ _ => (u_callQ (ok__law_price e) (hr.mono (by decide)) hq (by rfl) (gl__law_price e) (kp__law_price e) (bn__law_price_1 e) pass0 (pa_cons (uv 0) pa_nil)))))))), ?_⟩
    refine ⟨⟨by omega, by omega⟩, ?_⟩
    rw [show ((L : Int)).toNat = L from Int.toNat_natCast L]
    refine lc_pen 100 hp hg (fun i G acc => ∃ rows : List (List (Option Int)), Paired (RowO G) acc rows ∧ rows.length = i ∧ ∀ r ∈ rows, r.length = L ∧ ∀ x ∈ r, goodA x) ?_ ⟨[], .nil, rfl, fun r hr => by cases hr⟩ ?_ (fun _ _ _ => trivial) ?_ ?_
    · exact Nat.le_trans hL (szr (by decide +kernel))
    · rintro i _ acc ⟨rows, h1, h2, _⟩
      rw [paired_len h1, h2]
      exact Nat.le_refl _
    · rintro i x G1 H1 H2 acc hi g1 pn1 ⟨rows, h1, h2, h3⟩ ⟨rfl, rfl⟩ R R0 r1 r2
      have hiL : i < L := hi
      refine ⟨rfl, ?_⟩
      refine ⟨⟨by omega, by omega⟩, ?_⟩
      rw [show ((L : Int)).toNat = L from Int.toNat_natCast L]
      refine lc_pen 20 pn1 g1.gh (fun j _ acc => ∃ r : List (Option Int), acc = r.map pV ∧ r.length = j ∧ ∀ x ∈ r, goodA x) ?_ ⟨[], rfl, rfl, fun x hx => by cases hx⟩ ?_ (fun _ _ _ => trivial) ?_ ?_
      · exact Nat.le_trans hL (szr (by decide +kernel))
      · rintro j _ acc ⟨r, rfl, e, _⟩
        rw [List.length_map, e]
        exact Nat.le_refl _
      · rintro j x G2 H2 H3 acc2 hj g2 pn2 ⟨r, rfl, e, hr⟩ ⟨rfl, rfl⟩ S S0 r3 r4
        have hjL : j < L := hj
        refine ⟨rfl, ?_⟩
        refine ⟨G2, p, _, rfl, g2.gh, pn2, by omega, fun x G3 H3 gx g3 pn3 => ?_⟩
        refine r3 _ G3 H3 g3 pn3 ⟨r ++ [x], by rw [List.map_append]; rfl, by simp [e], fun y hy => ?_⟩
        rcases List.mem_append.mp hy with hy | hy
        · exact hr y hy
        · rw [List.mem_singleton.mp hy]
          exact gx
      · rintro D2 G2 H2 acc2 g2 pn2 hpD2 hD2 hGD2 h4 ⟨r, rfl, lr, hr⟩
        have xD : Ex G2 (upd G2 D2 (.lst (r.map pV))) := Evl.Ex.new hGD2
        refine r1 _ (upd G2 D2 (.lst (r.map pV))) H2 (g2.frz hD2 hGD2 h4) ((pn2.frz hpD2 hGD2).up (by omega)) ⟨rows ++ [r], paired_one (paired_imp2 h1 fun w r _ h => h.up (ex_trans g2.gg xD)) ⟨D2, rfl, upd_same⟩, by simp [h2], fun r' hr' => ?_⟩
        rcases List.mem_append.mp hr' with hr' | hr'
        · exact h3 r' hr'
        · rw [List.mem_singleton.mp hr']
          exact ⟨lr, hr⟩
    · rintro D G1 H1 acc g1 pn1 hpD hD hGD h4 ⟨rows, h1, h2, h3⟩
      exact q D acc rows G1 H1 h4 hGD hD h1 h2 (fun r hr => by rw [h2]; exact (h3 r hr).1) (fun r hr => (h3 r hr).2) g1 (pn1.up (by omega))
end
end k03

namespace k03
open PySem PySem.Spec PyProof.Rows L2 Ech
open He (ga ma)
open He5 (wf)
/-! ### is_list -/
theorem sc_is_list : FnScope ["value"] ["value"] (defScope s_is_list) := ⟨rfl, rfl, rfl, by decide +kernel, rfl, by decide +kernel, by decide +kernel⟩
section
variable {P : Program} {w : World} {K : PySem.W.Frag} {mg : PySem.Str → Option Value} {base : Heap}
theorem F_is_list (e : Ev K mg) : FunD K "is_list" "is_list" (defArgs s_is_list) (defBody s_is_list) (defScope s_is_list) [] [] (ga K "is_list") (fdA K (ga K "is_list")) := e.fun_ 1 (d := d_is_list)
theorem kp_is_list (e : Ev K mg) : PySem.W.keepIn K (.ref (ga K "is_list")) = true := (F_is_list e).kp
theorem b_is_list (e : Ev K mg) : Binds K (fdA K (ga K "is_list")) ["value"] [] := (F_is_list e).bindsN fun _ _ _ _ _ _ us hl => match us, hl with | [_], _ => rfl
theorem bn_is_list_1 (e : Ev K mg) : Bnd K (ga K "is_list") ["value"] [] := ⟨[], .nil, b_is_list e⟩
def sp_is_list (K : PySem.W.Frag) : Sp := fun vs H Q _ => ∃ (a : Addr) (f : Bool) (xs : List V), vs = [.ref a] ∧ Sq f K H a xs ∧ ∀ H', Ex H H' → Q (.bl true) H'
theorem ok_is_list (e : Ev K mg) : FnOk P w K mg base CX0 1 (ga K "is_list") (fdA K (ga K "is_list")) ["value"] (sp_is_list K) := by
  refine (F_is_list e).ok sc_is_list (fun vs H Q E h => ?_) (fun cdv A outer s H vs Q E hr h => ?_)
  · obtain ⟨a, f, xs, rfl, _⟩ := h
    rfl
  · obtain ⟨a, f, xs, rfl, hs, q⟩ := h
    refine ⟨_, PSs.nox (pss_one (ps_ret (pe_callB (id := "isinstance") (k_isi (K := K) rfl) (by rfl) (fr_isinstance e) (by decide +kernel) (pa_cons (uv 0) (pa_cons (u_tup (pa_cons (u_ty (n := "list") (by rfl) (fr_list e) (by decide +kernel)) (pa_cons (u_ty (n := "tuple") (by rfl) (fr_tuple e) (by decide +kernel)) pa_nil))) pa_nil))))), ?_⟩
    refine ⟨szr (n := 2) (by decide +kernel), fun tp H1 nw => ?_⟩
    refine isi_seq (Sq.up nw.ex hs) nw.at ?_
    exact q H1 nw.ex
end
end k03

namespace k03
open PySem PySem.Spec PyProof.Rows L2 Ech
open He (ga ma)
open He5 (wf)
/-! ### is_integer -/
theorem sc_is_integer : FnScope ["value", "least", "most"] ["value", "least", "most"] (defScope s_is_integer) := ⟨rfl, rfl, rfl, by decide +kernel, rfl, by decide +kernel, by decide +kernel⟩
section
variable {P : Program} {w : World} {K : PySem.W.Frag} {mg : PySem.Str → Option Value} {base : Heap}
theorem F_is_integer (e : Ev K mg) : FunD K "is_integer" "is_integer" (defArgs s_is_integer) (defBody s_is_integer) (defScope s_is_integer) [.non, .non] [] (ga K "is_integer") (fdA K (ga K "is_integer")) := e.fun_ 0 (d := d_is_integer)
theorem kp_is_integer (e : Ev K mg) : PySem.W.keepIn K (.ref (ga K "is_integer")) = true := (F_is_integer e).kp
theorem bn_is_integer_2 (e : Ev K mg) : Bnd K (ga K "is_integer") ["value", "least", "most"] [.non] := (F_is_integer e).binds1 2 1 (by simp) (by decide) fun _ _ _ _ _ _ _ us its h1 h2 => match us, h1, its, h2 with | [_, _], _, [_, _], _ => ⟨_, rfl, rfl⟩
def loOk : V → Int → Bool
  | .int l, i => decide (l ≤ i)
  | _, _ => true
def hiOk : V → Int → Bool
  | .int l, i => decide (i ≤ l)
  | _, _ => true
def isIntV : V → V → V → Bool
  | .int i, lo, hi => loOk lo i && hiOk hi i
  | _, _, _ => false
abbrev isI : V → Bool := isIv
abbrev isB : V → Bool := isBv
def sp_is_integer (K : PySem.W.Frag) : Sp := fun vs H Q _ => ∃ v lo hi, vs = [v, lo, hi] ∧ IsiOk K H v "int" (isI v) ∧ IsiOk K H v "bool" (isB v) ∧ (lo = .non ∨ ∃ l, lo = .int l) ∧ (hi = .non ∨ ∃ l, hi = .int l) ∧ Q (.bl (isIntV v lo hi)) H
theorem ok_is_integer (e : Ev K mg) : FnOk P w K mg base CX0 1 (ga K "is_integer") (fdA K (ga K "is_integer")) ["value", "least", "most"] (sp_is_integer K) := by
  refine (F_is_integer e).ok sc_is_integer (fun vs H Q E h => ?_) (fun cdv A outer s H vs Q E hr h => ?_)
  · obtain ⟨v, lo, hi, rfl, _⟩ := h
    rfl
  · obtain ⟨v, lo, hi, rfl, h1, h2, h3, h4, q⟩ := h
    refine ⟨_, PSs.nox (pss_cons (u_if (PW.pt (u_orT (pt_not (k_tru (K := K) rfl (pe_callB (id := "isinstance") (k_isi (K := K) rfl) (by rfl) (fr_isinstance e) (by decide +kernel) (pa_cons (uv 0) (pa_cons (u_ty (n := "int") (by rfl) (fr_int e) (by decide +kernel)) pa_nil))))) (u_or1 (k_tru (K := K) rfl (pe_callB (id := "isinstance") (k_isi (K := K) rfl) (by rfl) (fr_isinstance e) (by decide +kernel) (pa_cons (uv 0) (pa_cons (u_ty (n := "bool") (by rfl) (fr_bool e) (by decide +kernel)) pa_nil))))))) (pss_one (ps_ret pe_bl)) pss_nil)
            (pss_one (ps_ret (u_and (u_or (u_cmp o_is (uv 1) pe_non (nomark _)) (pe_one (u_cmp o_ge (uv 0) (uv 1) (nomark _)))) (pe_one (u_or (u_cmp o_is (uv 2) pe_non (nomark _)) (pe_one (u_cmp o_le (uv 0) (uv 2) (nomark _))))))))), ?_⟩
    cases v with
    | int i =>
      refine isi_go h1 ?_
      refine isi_go h2 ?_
      rcases h3 with rfl | ⟨l, rfl⟩
      · rcases h4 with rfl | ⟨m, rfl⟩
        · exact q
        · exact q
      · refine bite_d (fun hc => ?_) (fun hc => ?_)
        · have q' : Q (.bl (decide (l ≤ i) && hiOk hi i)) H := q
          rw [decide_eq_true hc] at q'
          rcases h4 with rfl | ⟨m, rfl⟩
          · exact q'
          · exact q'
        · have q' : Q (.bl (decide (l ≤ i) && hiOk hi i)) H := q
          rw [decide_eq_false hc] at q'
          exact q'
    | bl b =>
      refine isi_go h1 ?_
      refine isi_go h2 ?_
      exact q
    | _ =>
      refine isi_go h1 ?_
      exact q
end
end k03

namespace k03
open PySem PySem.Spec PyProof.Rows L2 Ech
open He (ga ma)
open He5 (wf)
/-! ### is_price -/
theorem sc_is_price : FnScope ["value"] ["value"] (defScope s_is_price) := ⟨rfl, rfl, rfl, by decide +kernel, rfl, by decide +kernel, by decide +kernel⟩
section
variable {P : Program} {w : World} {K : PySem.W.Frag} {mg : PySem.Str → Option Value} {base : Heap}
theorem F_is_price (e : Ev K mg) : FunD K "is_price" "is_price" (defArgs s_is_price) (defBody s_is_price) (defScope s_is_price) [] [] (ga K "is_price") (fdA K (ga K "is_price")) := e.fun_ 2 (d := d_is_price)
theorem kp_is_price (e : Ev K mg) : PySem.W.keepIn K (.ref (ga K "is_price")) = true := (F_is_price e).kp
theorem b_is_price (e : Ev K mg) : Binds K (fdA K (ga K "is_price")) ["value"] [] := (F_is_price e).bindsN fun _ _ _ _ _ _ us hl => match us, hl with | [_], _ => rfl
theorem bn_is_price_1 (e : Ev K mg) : Bnd K (ga K "is_price") ["value"] [] := ⟨[], .nil, b_is_price e⟩
def sp_is_price (K : PySem.W.Frag) : Sp := fun vs H Q _ => ∃ (x : Option Int), vs = [pV x] ∧ (∀ i, x = some i → 0 ≤ i) ∧ Q (.bl true) H
theorem ok_is_price (e : Ev K mg) : FnOk P w K mg base CX0 2 (ga K "is_price") (fdA K (ga K "is_price")) ["value"] (sp_is_price K) := by
  refine (F_is_price e).ok sc_is_price (fun vs H Q E h => ?_) (fun cdv A outer s H vs Q E hr h => ?_)
  · obtain ⟨x, rfl, _⟩ := h
    rfl
  · obtain ⟨x, rfl, hx, q⟩ := h
    refine ⟨_, PSs.nox (pss_one (ps_ret (u_or (u_cmp o_is (uv 0) pe_non (nomark _)) (pe_one (u_call (ok_is_integer e) (hr.mono (by decide)) (by rfl) (gl_is_integer e) (kp_is_integer e) (bn_is_integer_2 e) pass0 (pa_cons (uv 0) (pa_cons pe_int pa_nil))))))), ?_⟩
    cases x with
    | none => exact q
    | some i =>
      refine ⟨_, _, _, rfl, isi_int_int, isi_int_bool, Or.inr ⟨_, rfl⟩, Or.inl rfl, ?_⟩
      have e : isIntV (pV (some i)) (.int 0) .non = true := by
        show (decide (0 ≤ i) && true) = true
        rw [decide_eq_true (hx i rfl)]
        rfl
      rw [e]
      exact q
end
end k03

namespace k03
open PySem PySem.Spec PyProof.Rows L2 Ech
open He (ga ma)
open He5 (wf)
/-! ### are_rows -/
theorem sc_are_rows : FnScope ["value", "row", "price"] ["value"] (defScope s_are_rows) := ⟨rfl, rfl, rfl, by decide +kernel, rfl, by decide +kernel, by decide +kernel⟩
section
variable {P : Program} {w : World} {K : PySem.W.Frag} {mg : PySem.Str → Option Value} {base : Heap}
theorem F_are_rows (e : Ev K mg) : FunD K "are_rows" "are_rows" (defArgs s_are_rows) (defBody s_are_rows) (defScope s_are_rows) [] [] (ga K "are_rows") (fdA K (ga K "are_rows")) := e.fun_ 11 (d := d_are_rows)
theorem kp_are_rows (e : Ev K mg) : PySem.W.keepIn K (.ref (ga K "are_rows")) = true := (F_are_rows e).kp
theorem b_are_rows (e : Ev K mg) : Binds K (fdA K (ga K "are_rows")) ["value"] [] := (F_are_rows e).bindsN fun _ _ _ _ _ _ us hl => match us, hl with | [_], _ => rfl
theorem bn_are_rows_1 (e : Ev K mg) : Bnd K (ga K "are_rows") ["value"] [] := ⟨[], .nil, b_are_rows e⟩
def sp_are_rows (K : PySem.W.Frag) : Sp := fun vs H Q _ => ∃ (G : Hp) (v : V) (rows : List (List (Option Int))), vs = [v] ∧ Ex G H ∧ RowsAt K G v rows ∧ SqR rows ∧ 1 ≤ rows.length ∧ rows.length ≤ 5 ∧ (∀ r ∈ rows, ∀ x ∈ r, ∀ i, x = some i → 0 ≤ i) ∧ ∀ H', Ex H H' → Q (.bl true) H'
theorem all_true2 (n : Nat) : (List.replicate n true).all id = true := by
  rw [List.all_replicate]
  split <;> rfl
theorem ok_are_rows (e : Ev K mg) : FnOk P w K mg base CX0 3 (ga K "are_rows") (fdA K (ga K "are_rows")) ["value"] (sp_are_rows K) := by
  refine (F_are_rows e).ok sc_are_rows (fun vs H Q E h => ?_) (fun cdv A outer s H vs Q E hr h => ?_)
  · obtain ⟨G, v, rows, rfl, _⟩ := h
    rfl
  · obtain ⟨G, v, rows, rfl, hg, ⟨a, f, vs, rfl, hs, hp⟩, hq, h1, h5, hn, q⟩ := h
    refine ⟨_, PSs.nox (pss_cons (u_if (PW.pt (u_orT (pt_not (k_tru (K := K) rfl (u_call (ok_is_list e) (hr.mono (by decide)) (by rfl) (gl_is_list e) (kp_is_list e) (bn_is_list_1 e) pass0 (pa_cons (uv 0) pa_nil)))) (u_or1 (pt_not (u_chainT o_le o_le pe_int (pe_callB (id := "len") (k_len (K := K) rfl) (by rfl) (fr_len e) (by decide +kernel) (pa_cons (uv 0) pa_nil)) (u_gint (by rfl) (con_MAX_LETTERS e))))))) (pss_one (ps_ret pe_bl)) pss_nil)
            (pss_cons (u_for PassesOwn.never (by rfl) (k_seq (K := K) rfl (uv 0)) (pg_name (i := 1) sc_are_rows.nd (by rfl) (by first | exact Or.inl rfl | exact Or.inr rfl)) (pss_one (u_if (PW.pt (u_orT (pt_not (k_tru (K := K) rfl (u_call (ok_is_list e) (hr.mono (by decide)) (by rfl) (gl_is_list e) (kp_is_list e) (bn_is_list_1 e) pass0 (pa_cons (uv 1) pa_nil)))) (u_orT (u_cmpT (k_ne (K := K) rfl hr.units) (pe_callB (id := "len") (k_len (K := K) rfl) (by rfl) (fr_len e) (by decide +kernel) (pa_cons (uv 1) pa_nil)) (pe_callB (id := "len") (k_len (K := K) rfl) (by rfl) (fr_len e) (by decide +kernel) (pa_cons (uv 0) pa_nil)) (nomark _)) (u_or1 (pt_not (k_tru (K := K) rfl (pe_callB (id := "all") (k_all (K := K) rfl (by rfl)) (by rfl) (fr_all e) (by decide +kernel) (pa_cons (u_lc (own := [("price", 2)]) (by rfl) sc_are_rows.nd (k_seq (K := K) rfl (uv 1)) (blkOk_by (by kernel_rfl)) (fun _ _ _ _ _ => (pg_name (i := 2) sc_are_rows.nd (by rfl) (by first | exact Or.inl rfl | exact Or.inr rfl))) (fun _ _ _ _ _ => pts_nil) (fun _ _ _ _ _ => (u_call (ok_is_price e) (hr.mono (by decide)) (by rfl) (gl_is_price e) (kp_is_price e) (bn_is_price_1 e) pass0 (pa_cons (uv 2) pa_nil)))) pa_nil)))))))) (pss_one (ps_ret pe_bl)) pss_nil)))
            (pss_one (ps_ret pe_bl)))), ?_⟩
    have lv : vs.length = rows.length := paired_len hp
    refine ⟨a, f, vs, rfl, Sq.up hg hs, fun H1 x1 => ?_⟩
    have hg1 : Ex G H1 := fun a o e => x1 a o (hg a o e)
    refine ⟨_, (Sq.up hg1 hs).or, ?_⟩
    rw [lv]
    refine bite_d (fun hc => ?_) (fun hc => absurd (by omega) hc)
    refine bite_nd (fun hc => absurd (by omega) hc) (fun hc => ?_)
    refine ⟨f, vs, Sq.up hg1 hs, ?_⟩
    refine ⟨fun i σ H' => ∃ (y z : Option V), Ex H H' ∧ σ = [some (.ref a), y, z], ?_, ?_, ?_, ?_⟩
    · exact ⟨none, none, x1, rfl⟩
    · rintro i σ H' _ ⟨y, z, x2, _⟩
      exact Sq.up (fun a o e => x2 a o (hg a o e)) hs
    · rintro i x σ H2 H' hi ⟨y, z, x2, rfl⟩ ⟨rfl, hx⟩
      have hg2 : Ex G H' := fun a o e => x2 a o (hg a o e)
      obtain ⟨r, e1, b, g, rfl, sb⟩ := paired_at hp hx
      have mr : r ∈ rows := List.mem_of_getElem? e1
      refine ⟨b, g, _, rfl, Sq.up hg2 sb, fun H3 x3 => ?_⟩
      have x3' : Ex H H3 := fun a o e => x3 a o (x2 a o e)
      have hg3 : Ex G H3 := fun a o e => x3' a o (hg a o e)
      refine ⟨_, (Sq.up hg3 sb).or, ?_⟩
      refine ⟨_, (Sq.up hg3 hs).or, ?_⟩
      have lr : (List.map pV r).length = rows.length := by rw [List.length_map]; exact hq r mr
      rw [lr, lv]
      refine bite_nd (fun hc => absurd rfl hc) (fun hc => ?_)
      refine ⟨g, _, Sq.up hg3 sb, ?_⟩
      refine lc_pure hg3 (fun j _ acc => acc = (List.replicate j true).map V.bl) ?_ rfl ?_ ?_ ?_ ?_
      · show (List.map pV r).length ≤ sizeLine
        rw [lr]
        exact Nat.le_trans h5 (szr (by decide +kernel))
      · rintro i _ acc rfl
        rw [List.length_map, List.length_replicate]
        exact Nat.le_refl _
      · intro G4 H4 g4
        exact Sq.up (fun a o e => g4.gh a o (g4.gg a o e)) sb
      · rintro j x G4 H4 H5 acc hj g4 rfl ⟨rfl, hx⟩ R R0 r1 r2
        rw [List.getElem?_map] at hx
        cases ez : r[j]? with
        | none => rw [ez] at hx; cases hx
        | some pr =>
          rw [ez] at hx
          obtain rfl := Option.some.inj hx
          refine ⟨rfl, ?_⟩
          refine ⟨pr, rfl, hn r mr pr (List.mem_of_getElem? ez), ?_⟩
          refine r1 _ G4 _ (Gr.refl g4.gh) ?_
          rw [List.replicate_succ']
          simp
      · rintro D G4 H4 acc g4 hD _ h3 rfl
        refine ⟨_, SqL.of h3, ?_⟩
        rw [all_true2]
        exact ⟨_, _, fun a o e => g4.hh a o (x3' a o e), rfl⟩
    · rintro σ H2 ⟨y, z, x2, rfl⟩
      exact q H2 x2
end
end k03

namespace k03
open PySem PySem.Spec PyProof.Rows L2 Ech
open He (ga ma)
open He5 (wf)
/-! ### Table.__init__ -/
theorem sc_Table_init : FnScope ["self", "rows", "row"] ["self", "rows"] (defScope s_Table_init) := ⟨rfl, rfl, rfl, by decide +kernel, rfl, by decide +kernel, by decide +kernel⟩
section
variable {P : Program} {w : World} {K : PySem.W.Frag} {mg : PySem.Str → Option Value} {base : Heap}
theorem F_Table_init (e : Ev K mg) : FunD K "__init__" "Table.__init__" (defArgs s_Table_init) (defBody s_Table_init) (defScope s_Table_init) [] [] (ma K (ga K "Table") "__init__") (fdA K (ma K (ga K "Table") "__init__")) := e.fun_ 15 (d := d_Table_init)
theorem b_Table_init (e : Ev K mg) : Binds K (fdA K (ma K (ga K "Table") "__init__")) ["self", "rows"] [] := (F_Table_init e).bindsN fun _ _ _ _ _ _ us hl => match us, hl with | [_, _], _ => rfl
def sp_Table_init (K : PySem.W.Frag) : Sp := fun vs H Q _ => ∃ (G : Hp) (x dx : Addr) (v : V) (rows : List (List (Option Int))), vs = [.ref x, v] ∧ Ex G H ∧ G x = none ∧ H x = some (.ins (ga K "Table") dx []) ∧ RowsAt K G v rows ∧ SqR rows ∧ 1 ≤ rows.length ∧ rows.length ≤ 5 ∧ (∀ r ∈ rows, ∀ x ∈ r, ∀ i, x = some i → 0 ≤ i) ∧
  ∀ ent G' H', GrM x G H G' H' → H' x = some (.ins (ga K "Table") dx [("entries", ent)]) → Dp K G' ent (tabD rows) → Q .non H'
theorem ok_Table_init (e : Ev K mg) : FnOk P w K mg base CX0 4 (ma K (ga K "Table") "__init__") (fdA K (ma K (ga K "Table") "__init__")) ["self", "rows"] (sp_Table_init K) := by
  refine (F_Table_init e).ok sc_Table_init (fun vs H Q E h => ?_) (fun cdv A outer s H vs Q E hr h => ?_)
  · obtain ⟨G, x, dx, v, rows, rfl, _⟩ := h
    rfl
  · obtain ⟨G, x, dx, v, rows, rfl, hg, gx, hx, hR, hq, h1, h5, hn, q⟩ := h
    refine ⟨_, PSs.nox (pss_cons (u_if (pt_not (k_tru (K := K) rfl (u_call (ok_are_rows e) (hr.mono (by decide)) (by rfl) (gl_are_rows e) (kp_are_rows e) (bn_are_rows_1 e) pass0 (pa_cons (uv 1) pa_nil)))) (pss_one ps_never) pss_nil)
            (pss_one (u_setFld (cl_Table e) (na_Table_entries e) (uv 0) (pe_callTy (T := "tuple") (k_tuple (K := K) rfl) (by rfl) (fr_tuple e) (by decide +kernel) (pa_cons (u_lc (own := [("row", 2)]) (by rfl) sc_Table_init.nd (k_seq (K := K) rfl (uv 1)) (blkOk_by (by kernel_rfl)) (fun _ _ _ _ _ => (pg_name (i := 2) sc_Table_init.nd (by rfl) (by first | exact Or.inl rfl | exact Or.inr rfl))) (fun _ _ _ _ _ => pts_nil) (fun _ _ _ _ _ => (pe_callTy (T := "tuple") (k_tuple (K := K) rfl) (by rfl) (fr_tuple e) (by decide +kernel) (pa_cons (uv 2) pa_nil)))) pa_nil))))), ?_⟩
    obtain ⟨a, f, vs, rfl, hs, hp⟩ := id hR
    refine ⟨G, _, rows, rfl, hg, hR, hq, h1, h5, hn, fun H1 x1 => ?_⟩
    have g1 : Gr G H G H1 := ⟨x1, fun _ _ e => e, fun a o e => x1 a o (hg a o e), fun _ _ => rfl⟩
    have lv : vs.length = rows.length := paired_len hp
    refine ⟨f, vs, Sq.up g1.gh hs, ?_⟩
    refine lc_pure g1.gh (fun i G acc => DpAll K G acc ((rows.take i).map rowD)) ?_ ?_ ?_ ?_ ?_ ?_
    · show vs.length ≤ sizeLine
      rw [lv]
      exact Nat.le_trans h5 (szr (by decide +kernel))
    · exact .nil
    · intro i G2 acc hd
      rw [dpAll_len hd, List.length_map, List.length_take]
      exact Nat.min_le_left _ _
    · intro G2 H2 g2
      exact Sq.up (fun a o e => g2.gh a o (g2.gg a o e)) hs
    · rintro i w G2 H2 H3 acc hi g2 hd ⟨rfl, hw⟩ R R0 r1 r2
      obtain ⟨r, e1, b, g, rfl, sb⟩ := paired_at hp hw
      have tk : (rows.take (i + 1)).map rowD = (rows.take i).map rowD ++ [rowD r] := by
        rw [List.take_add_one, e1, List.map_append]
        rfl
      refine ⟨rfl, ?_⟩
      have sb2 := Sq.up g2.gg sb
      cases g with
      | true =>
        refine ⟨_, Or.inl ⟨Evl.ex_l g2.gh sb2, fun l H4 nw => ?_⟩⟩
        have g4 := nw.gr g2.gh
        refine r1 _ _ _ g4 ?_
        rw [tk]
        exact dpAll_snoc (dpAll_up g4.gg hd) (.tup (SqT.of upd_same) (dpAll_pV r))
      | false =>
        refine ⟨_, Or.inr ⟨Evl.ex_t g2.gh sb2, ?_⟩⟩
        refine r1 _ _ _ (Gr.refl g2.gh) ?_
        rw [tk]
        exact dpAll_snoc hd (.tup sb2 (dpAll_pV r))
    · intro D G2 H2 acc g2 hD hG h3 hd
      refine ⟨_, Or.inl ⟨SqL.of h3, fun l H4 nw => ?_⟩⟩
      have g4 := nw.gr g2.gh
      have gs : Gr G H _ H4 := g1.trans (g2.trans g4)
      refine ⟨dx, [], gs.hh _ _ hx, (by decide), fun H5 ch => ?_⟩
      have lr : (rows.take vs.length).map rowD = rows.map rowD := by rw [lv, List.take_length]
      rw [lr] at hd
      have gx4 := gs.free (some_ne hx) gx
      refine q _ _ H5 ((gs.m x).trans (ch.grm gs.gh gx4)) (by rw [ch.at]; rfl) (.tup (SqT.of upd_same) (dpAll_up g4.gg hd))
end
end k03

namespace k03
open PySem PySem.Spec PyProof.Rows L2 Ech
open He (ga ma)
open He5 (wf)
/-! ### Table.__eq__ -/
theorem sc_Table_eq : FnScope ["self", "other"] ["self", "other"] (defScope s_Table_eq) := ⟨rfl, rfl, rfl, by decide +kernel, rfl, by decide +kernel, by decide +kernel⟩
section
variable {P : Program} {w : World} {K : PySem.W.Frag} {mg : PySem.Str → Option Value} {base : Heap}
theorem F_Table_eq (e : Ev K mg) : FunD K "__eq__" "Table.__eq__" (defArgs s_Table_eq) (defBody s_Table_eq) (defScope s_Table_eq) [] [] (ma K (ga K "Table") "__eq__") (fdA K (ma K (ga K "Table") "__eq__")) := e.fun_ 22 (d := d_Table_eq)
theorem b_Table_eq (e : Ev K mg) : Binds K (fdA K (ma K (ga K "Table") "__eq__")) ["self", "other"] [] := (F_Table_eq e).bindsN fun _ _ _ _ _ _ us hl => match us, hl with | [_, _], _ => rfl
theorem bn_Table_eq_2 (e : Ev K mg) : Bnd K (ma K (ga K "Table") "__eq__") ["self", "other"] [] := ⟨[], .nil, b_Table_eq e⟩
def sp_Table_eq (K : PySem.W.Frag) : Sp := fun vs H Q _ => ∃ (G : Hp) (a : Addr) (A : List (List (Option Int))) (y : V), vs = [.ref a, y] ∧ Ex G H ∧ TabAt K G a A ∧ ((∃ (b : Addr) (B : List (List (Option Int))), y = .ref b ∧ TabAt K G b B ∧ Q (.bl (decide (A = B))) H) ∨ (∃ s, AnyV K G y s ∧ Q (.bl false) H))
theorem ok_Table_eq (e : Ev K mg) : FnOk P w K mg base CX0 1 (ma K (ga K "Table") "__eq__") (fdA K (ma K (ga K "Table") "__eq__")) ["self", "other"] (sp_Table_eq K) := by
  refine (F_Table_eq e).ok sc_Table_eq (fun vs H Q E h => ?_) (fun cdv A outer s H vs Q E hr h => ?_)
  · obtain ⟨G, a, A, y, rfl, _⟩ := h
    rfl
  · obtain ⟨G, a, A, y, rfl, hg, hA, h⟩ := h
    obtain ⟨dx, ent, t1, t2⟩ := id hA
    refine ⟨_, PSs.nox (pss_one (ps_ret (u_and (pe_callB (id := "isinstance") (k_isi (K := K) rfl) (by rfl) (fr_isinstance e) (by decide +kernel) (pa_cons (uv 1) (pa_cons (pe_glob (v := .ref (ga K "Table")) (by rfl) (gl_Table e) rfl) pa_nil))) (pe_one (u_cmp (k_eq (K := K) rfl hr.units) (u_fld (cl_Table e) (na_Table_entries e) (uv 0)) (u_fld (cl_Table e) (na_Table_entries e) (uv 1)) (nomark _)))))), ?_⟩
    rcases h with ⟨b, B, rfl, hB, q⟩ | ⟨s, av, q⟩
    · obtain ⟨dy, ent2, u1, u2⟩ := id hB
      refine isi_own (in_Table e (hg _ _ u1)) ?_
      refine ⟨dx, _, _, hg _ _ t1, look_entries _, ?_⟩
      refine ⟨dy, _, _, hg _ _ u1, look_entries _, ?_⟩
      exact tab_cmp (dp_up hg t2) (dp_up hg u2) q
    · refine (av.up hg).not_own ⟨kin_Table_NoneType e, kin_Table_bool e, kin_Table_int e, kin_Table_str e, kin_Table_list e, kin_Table_tuple e, kin_Table_dict e⟩ ?_
      exact q
end
end k03

namespace k03
open PySem PySem.Spec PyProof.Rows L2 Ech
open He (ga ma)
open He5 (wf)
/-! ### _law_sum -/
theorem sc__law_sum : FnScope ["_law_one", "_law_other"] ["_law_one", "_law_other"] (defScope s__law_sum) := ⟨rfl, rfl, rfl, by decide +kernel, rfl, by decide +kernel, by decide +kernel⟩
section
variable {P : Program} {w : World} {K : PySem.W.Frag} {mg : PySem.Str → Option Value} {base : Heap}
theorem F__law_sum (e : Ev K mg) : FunD K "_law_sum" "_law_sum" (defArgs s__law_sum) (defBody s__law_sum) (defScope s__law_sum) [] [] (ga K "_law_sum") (fdA K (ga K "_law_sum")) := e.fun_ 32 (d := d__law_sum)
theorem kp__law_sum (e : Ev K mg) : PySem.W.keepIn K (.ref (ga K "_law_sum")) = true := (F__law_sum e).kp
theorem b__law_sum (e : Ev K mg) : Binds K (fdA K (ga K "_law_sum")) ["_law_one", "_law_other"] [] := (F__law_sum e).bindsN fun _ _ _ _ _ _ us hl => match us, hl with | [_, _], _ => rfl
theorem bn__law_sum_2 (e : Ev K mg) : Bnd K (ga K "_law_sum") ["_law_one", "_law_other"] [] := ⟨[], .nil, b__law_sum e⟩
def sp__law_sum (K : PySem.W.Frag) : Sp := fun vs H Q _ => ∃ (x y : Option Int), vs = [pV x, pV y] ∧ Q (pV (add2 x y)) H
theorem ok__law_sum (e : Ev K mg) : FnG P w K mg base CX0 1 (ga K "_law_sum") (fdA K (ga K "_law_sum")) ["_law_one", "_law_other"] (sp__law_sum K) := by
  refine FnG.body (F__law_sum e) sc__law_sum (fun vs H Q E h => ?_) (fun cdv A outer s H vs Q E hr hq h => ?_)
  · obtain ⟨x, y, rfl, _⟩ := h
    rfl
  · obtain ⟨x, y, rfl, q⟩ := h
    refine ⟨_, PSs.nox (pss_one (ps_ret (u_ifExp (PW.pt (u_orT (u_cmpT o_is (uv 0) pe_non (nomark _)) (u_or1 (u_cmpT o_is (uv 1) pe_non (nomark _))))) pe_non (pe_op (k_add (K := K) rfl) (uv 0) (uv 1))))), ?_⟩
    cases x with
    | none => exact q
    | some i =>
      cases y with
      | none => exact q
      | some j => exact q
end
end k03

namespace k03
open PySem PySem.Spec PyProof.Rows L2 Ech
open He (ga ma)
open He5 (wf)
/-! ### _law_least -/
theorem sc__law_least : FnScope ["_law_prices", "_law_found", "_law_cost"] ["_law_prices"] (defScope s__law_least) := ⟨rfl, rfl, rfl, by decide +kernel, rfl, by decide +kernel, by decide +kernel⟩
section
variable {P : Program} {w : World} {K : PySem.W.Frag} {mg : PySem.Str → Option Value} {base : Heap}
theorem F__law_least (e : Ev K mg) : FunD K "_law_least" "_law_least" (defArgs s__law_least) (defBody s__law_least) (defScope s__law_least) [] [] (ga K "_law_least") (fdA K (ga K "_law_least")) := e.fun_ 33 (d := d__law_least)
theorem kp__law_least (e : Ev K mg) : PySem.W.keepIn K (.ref (ga K "_law_least")) = true := (F__law_least e).kp
theorem b__law_least (e : Ev K mg) : Binds K (fdA K (ga K "_law_least")) ["_law_prices"] [] := (F__law_least e).bindsN fun _ _ _ _ _ _ us hl => match us, hl with | [_], _ => rfl
theorem bn__law_least_1 (e : Ev K mg) : Bnd K (ga K "_law_least") ["_law_prices"] [] := ⟨[], .nil, b__law_least e⟩
def sp__law_least (K : PySem.W.Frag) : Sp := fun vs H Q _ => ∃ (G : Hp) (a : Addr) (f : Bool) (xs : List (Option Int)), vs = [.ref a] ∧ Ex G H ∧ Sq f K G a (xs.map pV) ∧ Q (pV (leastO xs)) H
theorem ok__law_least (e : Ev K mg) : FnG P w K mg base CX0 1 (ga K "_law_least") (fdA K (ga K "_law_least")) ["_law_prices"] (sp__law_least K) := by
  refine FnG.body (F__law_least e) sc__law_least (fun vs H Q E h => ?_) (fun cdv A outer s H vs Q E hr hq h => ?_)
  · obtain ⟨G, a, f, xs, rfl, _⟩ := h
    rfl
  · obtain ⟨G, a, f, xs, rfl, hg, hs, q⟩ := h
    refine ⟨_, PSs.nox (pss_cons (ps_set (i := 1) sc__law_least.nd (by rfl) (Or.inl rfl) pe_non)
            (pss_cons (u_for PassesOwn.never (by rfl) (k_seq (K := K) rfl (uv 0)) (pg_name (i := 2) sc__law_least.nd (by rfl) (by first | exact Or.inl rfl | exact Or.inr rfl)) (pss_one (u_if (PW.pt (u_andT (u_cmpT o_isnot (uv 2) pe_non (nomark _)) (u_and1 (PW.pt (u_orT (u_cmpT o_is (uv 1) pe_non (nomark _)) (u_or1 (u_cmpT o_lt (uv 2) (uv 1) (nomark _)))))))) (pss_one (ps_set (i := 1) sc__law_least.nd (by rfl) (Or.inl rfl) (uv 2))) pss_nil)))
            (pss_one (ps_ret (uv 1))))), ?_⟩
    have lp : (xs.map pV).length = xs.length := List.length_map _
    refine ⟨f, _, Sq.up hg hs, ?_⟩
    rw [lp]
    refine ⟨fun k σ H' => ∃ (y2 : Option V), H' = H ∧ σ = [some (.ref a), some (pV (leastO (xs.take k))), y2], ?_, ?_, ?_, ?_⟩
    · exact ⟨none, rfl, rfl⟩
    · rintro k σ H' _ ⟨y2, rfl, _⟩
      exact Sq.up hg hs
    · rintro k x σ H2 H' hk ⟨y2, rfl, rfl⟩ ⟨rfl, hx⟩
      have hk' : k < xs.length := hk
      rw [List.getElem?_map, List.getElem?_eq_getElem hk'] at hx
      obtain rfl := Option.some.inj hx
      have e : leastO (xs.take (k + 1)) = minO (leastO (xs.take k)) xs[k] := by
        rw [List.take_add_one, List.getElem?_eq_getElem hk']
        exact leastO_snoc _ _
      have e' : ∀ y, minO (leastO (xs.take k)) xs[k] = y → leastO (xs.take (k + 1)) = y := fun y h => e.trans h
      clear e
      generalize leastO (xs.take k) = f0 at e' ⊢
      generalize xs[k] = c0 at e' ⊢
      cases c0 with
      | none => exact ⟨some .non, rfl, by rw [e' f0 rfl]; rfl⟩
      | some c =>
        cases f0 with
        | none => exact ⟨some (.int c), rfl, by rw [e' (some c) rfl]; rfl⟩
        | some g =>
          refine bite_d (fun hc => ?_) (fun hc => ?_)
          · exact ⟨some (.int c), rfl, by rw [e' (some c) (by show (if decide (c < g) = true then _ else _) = _; rw [if_pos (decide_eq_true hc)])]; rfl⟩
          · exact ⟨some (.int c), rfl, by rw [e' (some g) (by show (if decide (c < g) = true then _ else _) = _; rw [if_neg (by simpa using hc)])]; rfl⟩
    · rintro σ H2 ⟨y2, rfl, rfl⟩
      rw [List.take_length]
      exact q
end
end k03

namespace k03
open PySem PySem.Spec PyProof.Rows L2 Ech
open He (ga ma)
open He5 (wf)
/-! ### Table.rows -/
theorem sc_Table_rows : FnScope ["self"] ["self"] (defScope s_Table_rows) := ⟨rfl, rfl, rfl, by decide +kernel, rfl, by decide +kernel, by decide +kernel⟩
section
variable {P : Program} {w : World} {K : PySem.W.Frag} {mg : PySem.Str → Option Value} {base : Heap}
theorem F_Table_rows (e : Ev K mg) : FunD K "rows" "Table.rows" (defArgs s_Table_rows) (defBody s_Table_rows) (defScope s_Table_rows) [] [] (wf K (ga K "Table") "property" "rows") (fdA K (wf K (ga K "Table") "property" "rows")) := e.fun_ 18 (d := d_Table_rows)
theorem b_Table_rows (e : Ev K mg) : Binds K (fdA K (wf K (ga K "Table") "property" "rows")) ["self"] [] := (F_Table_rows e).bindsN fun _ _ _ _ _ _ us hl => match us, hl with | [_], _ => rfl
def sp_Table_rows (K : PySem.W.Frag) : Sp := fun vs H Q _ => ∃ (G : Hp) (a : Addr) (rows : List (List (Option Int))), vs = [.ref a] ∧ Ex G H ∧ TabAt K G a rows ∧ ∀ v, Dp K G v (tabD rows) → Q v H
theorem ok_Table_rows (e : Ev K mg) : FnOk P w K mg base CX0 1 (wf K (ga K "Table") "property" "rows") (fdA K (wf K (ga K "Table") "property" "rows")) ["self"] (sp_Table_rows K) := by
  refine (F_Table_rows e).ok sc_Table_rows (fun vs H Q E h => ?_) (fun cdv A outer s H vs Q E hr h => ?_)
  · obtain ⟨G, a, rows, rfl, _⟩ := h
    rfl
  · obtain ⟨G, a, rows, rfl, hg, ⟨dx, ent, h1, h2⟩, q⟩ := h
    refine ⟨_, PSs.nox (pss_one (ps_ret (u_fld (cl_Table e) (na_Table_entries e) (uv 0)))), ?_⟩
    exact ⟨dx, _, ent, hg _ _ h1, look_entries ent, q ent h2⟩
end
end k03

namespace k03
open PySem PySem.Spec PyProof.Rows L2 Ech
open He (ga ma)
open He5 (wf)
/-! ### _law_plain -/
theorem sc__law_plain : FnScope ["_law_rows_here", "_law_row"] ["_law_rows_here"] (defScope s__law_plain) := ⟨rfl, rfl, rfl, by decide +kernel, rfl, by decide +kernel, by decide +kernel⟩
section
variable {P : Program} {w : World} {K : PySem.W.Frag} {mg : PySem.Str → Option Value} {base : Heap}
theorem F__law_plain (e : Ev K mg) : FunD K "_law_plain" "_law_plain" (defArgs s__law_plain) (defBody s__law_plain) (defScope s__law_plain) [] [] (ga K "_law_plain") (fdA K (ga K "_law_plain")) := e.fun_ 36 (d := d__law_plain)
theorem kp__law_plain (e : Ev K mg) : PySem.W.keepIn K (.ref (ga K "_law_plain")) = true := (F__law_plain e).kp
theorem b__law_plain (e : Ev K mg) : Binds K (fdA K (ga K "_law_plain")) ["_law_rows_here"] [] := (F__law_plain e).bindsN fun _ _ _ _ _ _ us hl => match us, hl with | [_], _ => rfl
theorem bn__law_plain_1 (e : Ev K mg) : Bnd K (ga K "_law_plain") ["_law_rows_here"] [] := ⟨[], .nil, b__law_plain e⟩
def sp__law_plain (K : PySem.W.Frag) : Sp := fun vs H Q _ => ∃ (G : Hp) (v : V) (rows : List (List (Option Int))), vs = [v] ∧ Ex G H ∧ RowsAt K G v rows ∧ rows.length ≤ 5 ∧
  ∀ x G' H', Gr G H G' H' → Dp K G' x (tabD rows) → Q x H'
theorem ok__law_plain (e : Ev K mg) : FnG P w K mg base CX0 1 (ga K "_law_plain") (fdA K (ga K "_law_plain")) ["_law_rows_here"] (sp__law_plain K) := by
  refine FnG.body (F__law_plain e) sc__law_plain (fun vs H Q E h => ?_) (fun cdv A outer s H vs Q E hr hq h => ?_)
  · obtain ⟨G, v, rows, rfl, _⟩ := h
    rfl
  · obtain ⟨G, v, rows, rfl, hg, hR, h5, q⟩ := h
    refine ⟨_, PSs.nox (pss_one (ps_ret (pe_callTy (T := "tuple") (k_tuple (K := K) rfl) (by rfl) (fr_tuple e) (by decide +kernel) (pa_cons (u_lc (own := [("_law_row", 1)]) (by rfl) sc__law_plain.nd (k_seq (K := K) rfl (uv 0)) (blkOk_by (by kernel_rfl)) (fun _ _ _ _ _ => (pg_name (i := 1) sc__law_plain.nd (by rfl) (by first | exact Or.inl rfl | exact Or.inr rfl))) (fun _ _ _ _ _ => pts_nil) (fun _ _ _ _ _ => (pe_callTy (T := "tuple") (k_tuple (K := K) rfl) (by rfl) (fr_tuple e) (by decide +kernel) (pa_cons (uv 1) pa_nil)))) pa_nil)))), ?_⟩
    obtain ⟨a, f, vs, rfl, hs, hp⟩ := id hR
    have lv : vs.length = rows.length := paired_len hp
    refine ⟨f, vs, Sq.up hg hs, ?_⟩
    refine lc_pure hg (fun i G acc => DpAll K G acc ((rows.take i).map rowD)) ?_ ?_ ?_ ?_ ?_ ?_
    · show vs.length ≤ sizeLine
      rw [lv]
      exact Nat.le_trans h5 (szr (by decide +kernel))
    · exact .nil
    · intro i G2 acc hd
      rw [dpAll_len hd, List.length_map, List.length_take]
      exact Nat.min_le_left _ _
    · intro G2 H2 g2
      exact Sq.up (fun a o e => g2.gh a o (g2.gg a o e)) hs
    · rintro i w G2 H2 H3 acc hi g2 hd ⟨rfl, hw⟩ R R0 r1 r2
      obtain ⟨r, e1, b, g, rfl, sb⟩ := paired_at hp hw
      have tk : (rows.take (i + 1)).map rowD = (rows.take i).map rowD ++ [rowD r] := by
        rw [List.take_add_one, e1, List.map_append]
        rfl
      refine ⟨rfl, ?_⟩
      have sb2 := Sq.up g2.gg sb
      cases g with
      | true =>
        refine ⟨_, Or.inl ⟨Evl.ex_l g2.gh sb2, fun l H4 nw => ?_⟩⟩
        have g4 := nw.gr g2.gh
        refine r1 _ _ _ g4 ?_
        rw [tk]
        exact dpAll_snoc (dpAll_up g4.gg hd) (.tup (SqT.of upd_same) (dpAll_pV r))
      | false =>
        refine ⟨_, Or.inr ⟨Evl.ex_t g2.gh sb2, ?_⟩⟩
        refine r1 _ _ _ (Gr.refl g2.gh) ?_
        rw [tk]
        exact dpAll_snoc hd (.tup sb2 (dpAll_pV r))
    · intro D G2 H2 acc g2 hD hG h3 hd
      refine ⟨_, Or.inl ⟨SqL.of h3, fun l H4 nw => ?_⟩⟩
      have g4 := nw.gr g2.gh
      have lr : (rows.take vs.length).map rowD = rows.map rowD := by rw [lv, List.take_length]
      rw [lr] at hd
      exact q _ _ H4 (g2.trans g4) (.tup (SqT.of upd_same) (dpAll_up g4.gg hd))
end
end k03

namespace k03
open PySem PySem.Spec PyProof.Rows L2 Ech
open He (ga ma)
open He5 (wf)
/-! ### OtherLetters.__init__ -/
theorem sc_OtherLetters_init : FnScope ["self"] ["self"] (defScope s_OtherLetters_init) := ⟨rfl, rfl, rfl, by decide +kernel, rfl, by decide +kernel, by decide +kernel⟩
section
variable {P : Program} {w : World} {K : PySem.W.Frag} {mg : PySem.Str → Option Value} {base : Heap}
theorem F_OtherLetters_init (e : Ev K mg) : FunD K "__init__" "OtherLetters.__init__" (defArgs s_OtherLetters_init) (defBody s_OtherLetters_init) (defScope s_OtherLetters_init) [] [] (ma K (ga K "OtherLetters") "__init__") (fdA K (ma K (ga K "OtherLetters") "__init__")) := e.fun_ 10 (d := d_OtherLetters_init)
theorem b_OtherLetters_init (e : Ev K mg) : Binds K (fdA K (ma K (ga K "OtherLetters") "__init__")) ["self"] [] := (F_OtherLetters_init e).bindsN fun _ _ _ _ _ _ us hl => match us, hl with | [_], _ => rfl
def sp_OtherLetters_init (K : PySem.W.Frag) : Sp := spErr0 K (ga K "OtherLetters")
theorem ok_OtherLetters_init (e : Ev K mg) : FnOk P w K mg base CX0 1 (ma K (ga K "OtherLetters") "__init__") (fdA K (ma K (ga K "OtherLetters") "__init__")) ["self"] (sp_OtherLetters_init K) := by
  refine (F_OtherLetters_init e).ok sc_OtherLetters_init (fun vs H Q E h => ?_) (fun cdv A outer s H vs Q E hr h => ?_)
  · obtain ⟨a, rfl, _⟩ := h
    rfl
  · obtain ⟨a, rfl, ha, q⟩ := h
    refine ⟨_, PSs.nox (pss_one (ps_expr (u_ginit be_ValueError (er_OtherLetters e).oex (by rfl) (fr_ValueError e) (by rfl) (er_OtherLetters e).vei (pa_cons (uv 0) (pa_cons pe_str pa_nil))))), ?_⟩
    exact ⟨by decide, ha, q⟩
end
end k03

namespace k03
open PySem PySem.Spec PyProof.Rows L2 Ech
open He (ga ma)
open He5 (wf)
/-! ### need_like -/
theorem sc_need_like : FnScope ["one", "other"] ["one", "other"] (defScope s_need_like) := ⟨rfl, rfl, rfl, by decide +kernel, rfl, by decide +kernel, by decide +kernel⟩
section
variable {P : Program} {w : World} {K : PySem.W.Frag} {mg : PySem.Str → Option Value} {base : Heap}
theorem F_need_like (e : Ev K mg) : FunD K "need_like" "need_like" (defArgs s_need_like) (defBody s_need_like) (defScope s_need_like) [] [] (ga K "need_like") (fdA K (ga K "need_like")) := e.fun_ 13 (d := d_need_like)
theorem kp_need_like (e : Ev K mg) : PySem.W.keepIn K (.ref (ga K "need_like")) = true := (F_need_like e).kp
theorem b_need_like (e : Ev K mg) : Binds K (fdA K (ga K "need_like")) ["one", "other"] [] := (F_need_like e).bindsN fun _ _ _ _ _ _ us hl => match us, hl with | [_, _], _ => rfl
theorem bn_need_like_2 (e : Ev K mg) : Bnd K (ga K "need_like") ["one", "other"] [] := ⟨[], .nil, b_need_like e⟩
def sp_need_like (K : PySem.W.Frag) : Sp := fun vs H Q E => ∃ (G : Hp) (a b : Addr) (A B : List (List (Option Int))), vs = [.ref a, .ref b] ∧ Ex G H ∧ TabAt K G a A ∧ TabAt K G b B ∧ ((A.length = B.length ∧ Q .non H) ∨ (A.length ≠ B.length ∧ E (.ref (ga K "OtherLetters")) none H))
theorem ok_need_like (e : Ev K mg) : FnOk P w K mg base (L2.CX P w) 3 (ga K "need_like") (fdA K (ga K "need_like")) ["one", "other"] (sp_need_like K) := by
  refine (F_need_like e).ok sc_need_like (fun vs H Q E h => ?_) (fun cdv A outer s H vs Q E hr h => ?_)
  · obtain ⟨G, a, b, A, B, rfl, _⟩ := h
    rfl
  · obtain ⟨G, a, b, A, B, rfl, hg, ⟨dx, ent, t1, t2⟩, ⟨dy, ent2, u1, u2⟩, h⟩ := h
    obtain ⟨a1, vs1, rfl, sq1, pr1⟩ := tab_rows t2
    obtain ⟨a2, vs2, rfl, sq2, pr2⟩ := tab_rows u2
    refine ⟨_, (pss_one (u_if (u_cmpT (k_ne (K := K) rfl hr.units) (pe_callB (id := "len") (k_len (K := K) rfl) (by rfl) (fr_len e) (by decide +kernel) (pa_cons (u_fld (cl_Table e) (na_Table_entries e) (uv 0)) pa_nil)) (pe_callB (id := "len") (k_len (K := K) rfl) (by rfl) (fr_len e) (by decide +kernel) (pa_cons (u_fld (cl_Table e) (na_Table_entries e) (uv 1)) pa_nil)) (nomark _)) (pss_one (u_raise0 be_ValueError (by rfl) (takes_of rfl rfl rfl rfl) (er_OtherLetters e).oex (er_OtherLetters e).ini (er_OtherLetters e).fun_ (ok_OtherLetters_init e) (hr.mono (by decide)) (b_OtherLetters_init e) pass0 (by rfl) (gl_OtherLetters e))) pss_nil)), ?_⟩
    refine ⟨dx, _, _, hg _ _ t1, look_entries _, ?_⟩
    refine ⟨_, Or.inr (Evl.ex_t hg sq1), ?_⟩
    refine ⟨dy, _, _, hg _ _ u1, look_entries _, ?_⟩
    refine ⟨_, Or.inr (Evl.ex_t hg sq2), ?_⟩
    rw [paired_len pr1, paired_len pr2]
    rcases h with ⟨hl, q⟩ | ⟨hl, q⟩
    · refine bite_nd (fun hc => absurd (by rw [hl]) hc) (fun hc => ?_)
      exact q
    · refine bite_nd (fun hc => ?_) (fun hc => absurd (by omega) hl)
      exact q
end
end k03

namespace k03
open PySem PySem.Spec PyProof.Rows L2 Ech
open He (ga ma)
open He5 (wf)
/-! ### is_less -/
theorem sc_is_less : FnScope ["one", "other"] ["one", "other"] (defScope s_is_less) := ⟨rfl, rfl, rfl, by decide +kernel, rfl, by decide +kernel, by decide +kernel⟩
section
variable {P : Program} {w : World} {K : PySem.W.Frag} {mg : PySem.Str → Option Value} {base : Heap}
theorem F_is_less (e : Ev K mg) : FunD K "is_less" "is_less" (defArgs s_is_less) (defBody s_is_less) (defScope s_is_less) [] [] (ga K "is_less") (fdA K (ga K "is_less")) := e.fun_ 4 (d := d_is_less)
theorem kp_is_less (e : Ev K mg) : PySem.W.keepIn K (.ref (ga K "is_less")) = true := (F_is_less e).kp
theorem b_is_less (e : Ev K mg) : Binds K (fdA K (ga K "is_less")) ["one", "other"] [] := (F_is_less e).bindsN fun _ _ _ _ _ _ us hl => match us, hl with | [_, _], _ => rfl
theorem bn_is_less_2 (e : Ev K mg) : Bnd K (ga K "is_less") ["one", "other"] [] := ⟨[], .nil, b_is_less e⟩
def sp_is_less (K : PySem.W.Frag) : Sp := fun vs H Q _ => ∃ (x y : Option Int), vs = [pV x, pV y] ∧ Q (.bl (lessO x y)) H
theorem ok_is_less (e : Ev K mg) : FnOk P w K mg base CX0 1 (ga K "is_less") (fdA K (ga K "is_less")) ["one", "other"] (sp_is_less K) := by
  refine (F_is_less e).ok sc_is_less (fun vs H Q E h => ?_) (fun cdv A outer s H vs Q E hr h => ?_)
  · obtain ⟨x, y, rfl, _⟩ := h
    rfl
  · obtain ⟨x, y, rfl, q⟩ := h
    refine ⟨_, PSs.nox (pss_one (ps_ret (u_and (u_cmp o_isnot (uv 0) pe_non (nomark _)) (pe_one (u_or (u_cmp o_is (uv 1) pe_non (nomark _)) (pe_one (u_cmp o_lt (uv 0) (uv 1) (nomark _)))))))), ?_⟩
    cases x with
    | none => exact q
    | some i =>
      cases y with
      | none => exact q
      | some j => exact q
end
end k03

namespace k03
open PySem PySem.Spec PyProof.Rows L2 Ech
open He (ga ma)
open He5 (wf)
/-! ### least_of -/
theorem sc_least_of : FnScope ["prices", "found", "price"] ["prices"] (defScope s_least_of) := ⟨rfl, rfl, rfl, by decide +kernel, rfl, by decide +kernel, by decide +kernel⟩
section
variable {P : Program} {w : World} {K : PySem.W.Frag} {mg : PySem.Str → Option Value} {base : Heap}
theorem F_least_of (e : Ev K mg) : FunD K "least_of" "least_of" (defArgs s_least_of) (defBody s_least_of) (defScope s_least_of) [] [] (ga K "least_of") (fdA K (ga K "least_of")) := e.fun_ 5 (d := d_least_of)
theorem kp_least_of (e : Ev K mg) : PySem.W.keepIn K (.ref (ga K "least_of")) = true := (F_least_of e).kp
theorem b_least_of (e : Ev K mg) : Binds K (fdA K (ga K "least_of")) ["prices"] [] := (F_least_of e).bindsN fun _ _ _ _ _ _ us hl => match us, hl with | [_], _ => rfl
theorem bn_least_of_1 (e : Ev K mg) : Bnd K (ga K "least_of") ["prices"] [] := ⟨[], .nil, b_least_of e⟩
def sp_least_of (K : PySem.W.Frag) : Sp := fun vs H Q _ => ∃ (G : Hp) (a : Addr) (f : Bool) (xs : List (Option Int)), vs = [.ref a] ∧ Ex G H ∧ Sq f K G a (xs.map pV) ∧ Q (pV (leastO xs)) H
theorem ok_least_of (e : Ev K mg) : FnOk P w K mg base CX0 2 (ga K "least_of") (fdA K (ga K "least_of")) ["prices"] (sp_least_of K) := by
  refine (F_least_of e).ok sc_least_of (fun vs H Q E h => ?_) (fun cdv A outer s H vs Q E hr h => ?_)
  · obtain ⟨G, a, f, xs, rfl, _⟩ := h
    rfl
  · obtain ⟨G, a, f, xs, rfl, hg, hs, q⟩ := h
    refine ⟨_, PSs.nox (pss_cons (ps_set (i := 1) sc_least_of.nd (by rfl) (Or.inl rfl) pe_non)
            (pss_cons (u_for PassesOwn.never (by rfl) (k_seq (K := K) rfl (uv 0)) (pg_name (i := 2) sc_least_of.nd (by rfl) (by first | exact Or.inl rfl | exact Or.inr rfl)) (pss_one (u_if (k_tru (K := K) rfl (u_call (ok_is_less e) (hr.mono (by decide)) (by rfl) (gl_is_less e) (kp_is_less e) (bn_is_less_2 e) pass0 (pa_cons (uv 2) (pa_cons (uv 1) pa_nil)))) (pss_one (ps_set (i := 1) sc_least_of.nd (by rfl) (Or.inl rfl) (uv 2))) pss_nil)))
            (pss_one (ps_ret (uv 1))))), ?_⟩
    have lp : (xs.map pV).length = xs.length := List.length_map _
    refine ⟨f, _, Sq.up hg hs, ?_⟩
    rw [lp]
    refine ⟨fun k σ H' => ∃ (y2 : Option V), H' = H ∧ σ = [some (.ref a), some (pV (leastO (xs.take k))), y2], ?_, ?_, ?_, ?_⟩
    · exact ⟨none, rfl, rfl⟩
    · rintro k σ H' _ ⟨y2, rfl, _⟩
      exact Sq.up hg hs
    · rintro k x σ H2 H' hk ⟨y2, rfl, rfl⟩ ⟨rfl, hx⟩
      have hk' : k < xs.length := hk
      rw [List.getElem?_map, List.getElem?_eq_getElem hk'] at hx
      obtain rfl := Option.some.inj hx
      refine ⟨xs[k], leastO (xs.take k), rfl, ?_⟩
      have e : leastO (xs.take (k + 1)) = minO (leastO (xs.take k)) xs[k] := by
        rw [List.take_add_one, List.getElem?_eq_getElem hk']
        exact leastO_snoc _ _
      cases hl : lessO xs[k] (leastO (xs.take k)) with
      | true =>
        have e2 : leastO (xs.take (k + 1)) = xs[k] := by rw [e]; unfold minO; rw [hl]; rfl
        exact ⟨some (pV xs[k]), rfl, by rw [e2]; rfl⟩
      | false =>
        have e2 : leastO (xs.take (k + 1)) = leastO (xs.take k) := by rw [e]; unfold minO; rw [hl]; rfl
        exact ⟨some (pV xs[k]), rfl, by rw [e2]; rfl⟩
    · rintro σ H2 ⟨y2, rfl, rfl⟩
      rw [List.take_length]
      exact q
end
end k03

namespace k03
open PySem PySem.Spec PyProof.Rows L2 Ech
open He (ga ma)
open He5 (wf)
/-! ### sum_two -/
theorem sc_sum_two : FnScope ["one", "other"] ["one", "other"] (defScope s_sum_two) := ⟨rfl, rfl, rfl, by decide +kernel, rfl, by decide +kernel, by decide +kernel⟩
section
variable {P : Program} {w : World} {K : PySem.W.Frag} {mg : PySem.Str → Option Value} {base : Heap}
theorem F_sum_two (e : Ev K mg) : FunD K "sum_two" "sum_two" (defArgs s_sum_two) (defBody s_sum_two) (defScope s_sum_two) [] [] (ga K "sum_two") (fdA K (ga K "sum_two")) := e.fun_ 3 (d := d_sum_two)
theorem kp_sum_two (e : Ev K mg) : PySem.W.keepIn K (.ref (ga K "sum_two")) = true := (F_sum_two e).kp
theorem b_sum_two (e : Ev K mg) : Binds K (fdA K (ga K "sum_two")) ["one", "other"] [] := (F_sum_two e).bindsN fun _ _ _ _ _ _ us hl => match us, hl with | [_, _], _ => rfl
theorem bn_sum_two_2 (e : Ev K mg) : Bnd K (ga K "sum_two") ["one", "other"] [] := ⟨[], .nil, b_sum_two e⟩
def sp_sum_two (K : PySem.W.Frag) : Sp := fun vs H Q _ => ∃ (x y : Option Int), vs = [pV x, pV y] ∧ Q (pV (add2 x y)) H
theorem ok_sum_two (e : Ev K mg) : FnOk P w K mg base CX0 1 (ga K "sum_two") (fdA K (ga K "sum_two")) ["one", "other"] (sp_sum_two K) := by
  refine (F_sum_two e).ok sc_sum_two (fun vs H Q E h => ?_) (fun cdv A outer s H vs Q E hr h => ?_)
  · obtain ⟨x, y, rfl, _⟩ := h
    rfl
  · obtain ⟨x, y, rfl, q⟩ := h
    refine ⟨_, PSs.nox (pss_one (ps_ret (u_ifExp (PW.pt (u_orT (u_cmpT o_is (uv 0) pe_non (nomark _)) (u_or1 (u_cmpT o_is (uv 1) pe_non (nomark _))))) pe_non (pe_op (k_add (K := K) rfl) (uv 0) (uv 1))))), ?_⟩
    cases x with
    | none => exact q
    | some i =>
      cases y with
      | none => exact q
      | some j => exact q
end
end k03

namespace k03
open PySem PySem.Spec PyProof.Rows L2 Ech
open He (ga ma)
open He5 (wf)
/-! ### Table.__mul__ -/
theorem sc_Table_mul : FnScope ["self", "other", "columns", "one", "two", "column", "row"] ["self", "other"] (defScope s_Table_mul) := ⟨rfl, rfl, rfl, by decide +kernel, rfl, by decide +kernel, by decide +kernel⟩
section
variable {P : Program} {w : World} {K : PySem.W.Frag} {mg : PySem.Str → Option Value} {base : Heap}
theorem F_Table_mul (e : Ev K mg) : FunD K "__mul__" "Table.__mul__" (defArgs s_Table_mul) (defBody s_Table_mul) (defScope s_Table_mul) [] [] (ma K (ga K "Table") "__mul__") (fdA K (ma K (ga K "Table") "__mul__")) := e.fun_ 23 (d := d_Table_mul)
theorem b_Table_mul (e : Ev K mg) : Binds K (fdA K (ma K (ga K "Table") "__mul__")) ["self", "other"] [] := (F_Table_mul e).bindsN fun _ _ _ _ _ _ us hl => match us, hl with | [_, _], _ => rfl
theorem bn_Table_mul_2 (e : Ev K mg) : Bnd K (ma K (ga K "Table") "__mul__") ["self", "other"] [] := ⟨[], .nil, b_Table_mul e⟩
def sp_Table_mul (K : PySem.W.Frag) : Sp := fun vs H Q E => ∃ (G : Hp) (a b : Addr) (A B : List (List (Option Int))), vs = [.ref a, .ref b] ∧ Ex G H ∧ TabAt K G a A ∧ TabAt K G b B ∧ ((A.length = B.length ∧ SqR A ∧ SqR B ∧ 1 ≤ A.length ∧ A.length ≤ 5 ∧ (∀ r ∈ A, ∀ x ∈ r, ∀ i, x = some i → 0 ≤ i) ∧ (∀ r ∈ B, ∀ x ∈ r, ∀ i, x = some i → 0 ≤ i) ∧
  ∀ x G' H', Gr G H G' H' → TabAt K G' x (mulRows A B) → Q (.ref x) H') ∨ (A.length ≠ B.length ∧ E (.ref (ga K "OtherLetters")) none H))
theorem ok_Table_mul (e : Ev K mg) : FnOk P w K mg base (L2.CX P w) 6 (ma K (ga K "Table") "__mul__") (fdA K (ma K (ga K "Table") "__mul__")) ["self", "other"] (sp_Table_mul K) := by
  refine (F_Table_mul e).ok sc_Table_mul (fun vs H Q E h => ?_) (fun cdv A outer s H vs Q E hr h => ?_)
  · obtain ⟨G, a, b, A, B, rfl, _⟩ := h
    rfl
  · obtain ⟨G, a, b, A, B, rfl, hg, hA, hB, h⟩ := h
    obtain ⟨dx, ent, t1, t2⟩ := id hA
    obtain ⟨dy, ent2, u1, u2⟩ := id hB
    obtain ⟨a1, vs1, rfl, sq1, pr1⟩ := tab_rows t2
    obtain ⟨a2, vs2, rfl, sq2, pr2⟩ := tab_rows u2
    obtain ⟨srcs, rfl, es, sr⟩ := rowT_srcs pr2
    have ls : srcs.length = B.length := by
      have := congrArg List.length es
      rwa [List.length_map, List.length_map] at this
    have lv1 : vs1.length = A.length := paired_len pr1
    refine ⟨_, (pss_cons (ps_expr (u_callT (takes_of rfl rfl rfl rfl) (ok_need_like e) (hr.mono (by decide)) (by rfl) (gl_need_like e) (kp_need_like e) (bn_need_like_2 e) (pa_cons (uv 0) (pa_cons (uv 1) pa_nil))))
            (pss_cons (ps_set (i := 2) sc_Table_mul.nd (by rfl) (Or.inr rfl) (k_lzS (K := K) rfl (by rfl) (by rfl) (fr_list e) (by rfl) (fr_zip e) (u_fld (cl_Table e) (na_Table_entries e) (uv 1))))
            (pss_one (ps_ret (u_make (mk_Table e) (ok_Table_init e) (hr.mono (by decide)) (by rfl) (gl_Table e) (b_Table_init e) .nil pass0 (pa_cons (u_lc (own := [("row", 6)]) (by rfl) sc_Table_mul.nd (k_seq (K := K) rfl (u_fld (cl_Table e) (na_Table_entries e) (uv 0))) (blkOk_by (by kernel_rfl)) (fun _ _ _ _ _ => (pg_name (i := 6) sc_Table_mul.nd (by rfl) (by first | exact Or.inl rfl | exact Or.inr rfl))) (fun _ _ _ _ _ => pts_nil) (fun _ _ _ _ _ => (u_lc (own := [("column", 5)]) (by rfl) sc_Table_mul.nd (k_seq (K := K) rfl (uv 2)) (blkOk_by (by kernel_rfl)) (fun _ _ _ _ _ => (pg_name (i := 5) sc_Table_mul.nd (by rfl) (by first | exact Or.inl rfl | exact Or.inr rfl))) (fun _ _ _ _ _ => pts_nil) (fun _ _ _ _ _ => (u_call (ok_least_of e) (hr.mono (by decide)) (by rfl) (gl_least_of e) (kp_least_of e) (bn_least_of_1 e) pass0 (pa_cons (u_lc (own := [("one", 3), ("two", 4)]) (by rfl) sc_Table_mul.nd (k_zip (K := K) rfl (by rfl) (fr_zip e) (pa_cons (uv 6) (pa_cons (uv 5) pa_nil))) (blkOk_by (by kernel_rfl)) (fun _ _ _ _ _ => (u_pgtup (K := K) rfl rfl (PGL.cons (pg_name (i := 3) sc_Table_mul.nd (by rfl) (by first | exact Or.inl rfl | exact Or.inr rfl)) (PGL.cons (pg_name (i := 4) sc_Table_mul.nd (by rfl) (by first | exact Or.inl rfl | exact Or.inr rfl)) PGL.nil (by rfl)) (by rfl)))) (fun _ _ _ _ _ => pts_nil) (fun _ _ _ _ _ => (u_call (ok_sum_two e) (hr.mono (by decide)) (by rfl) (gl_sum_two e) (kp_sum_two e) (bn_sum_two_2 e) pass0 (pa_cons (uv 3) (pa_cons (uv 4) pa_nil))))) pa_nil)))))) pa_nil)))))), ?_⟩
    rcases h with ⟨hl, qA, qB, l1, l5, okA, okB, q⟩ | ⟨hl, q⟩
    case' inr => exact ⟨G, a, b, A, B, rfl, hg, hA, hB, Or.inr ⟨hl, q⟩⟩
    refine ⟨G, a, b, A, B, rfl, hg, hA, hB, Or.inl ⟨hl, ?_⟩⟩
    refine ⟨dy, _, _, hg _ _ u1, look_entries _, ?_⟩
    refine ⟨_, Or.inl (Evl.ex_t hg sq2), ?_⟩
    refine ⟨srcs, rfl, by omega, by omega, fun p hp => Or.inr (Evl.ex_t hg (sr p hp)), ?_⟩
    intro H2 l2 ts x2 n1 n2 n3 e1 e2
    rw [es, zipV_turn (by omega) qB] at e2
    have g2 : Gr G H (frzAll G H H2) H2 := Gr_all hg x2
    have sl2 : SqL K (frzAll G H H2) l2 (ts.map V.ref) := SqL.of (by rw [frz_new n1]; exact e1)
    have pt2 : Paired (fun t row => frzAll G H H2 t = some (.tup row)) ts ((turnRows B).map fun r => r.map pV) := paired_imp2 e2 fun t row m e => by rw [frz_new (n2 t m)]; exact e
    generalize frzAll G H H2 = G2 at g2 sl2 pt2
    have lt : ts.length = A.length := by rw [paired_len pt2, List.length_map, turnRows_len, hl]
    have lm : (ts.map V.ref).length = A.length := by rw [List.length_map, lt]
    refine ⟨dx, _, _, ex_trans g2.gg g2.gh _ _ t1, look_entries _, ?_⟩
    refine ⟨false, _, Evl.ex_t (ex_trans g2.gg g2.gh) sq1, ?_⟩
    rw [lv1]
    refine lc_pure g2.gh (fun i G acc => Paired (fun w r => ∃ (b : Addr) (g : Bool), w = V.ref b ∧ Sq g K G b (List.map pV r)) acc ((mulRows A B).take i)) ?_ .nil ?_ ?_ ?_ ?_
    · exact Nat.le_trans l5 (szr (by decide +kernel))
    · intro i _ acc h1
      rw [paired_len h1, List.length_take]
      omega
    · intro G3 H3 g3
      exact Evl.ex_t (ex_trans g2.gg (ex_trans g3.gg g3.gh)) sq1
    · rintro i x G3 H3 H4 acc hi g3 h1 ⟨rfl, hx⟩ R R0 r1 r2
      obtain ⟨rA, eA, b1, rfl, s1⟩ := paired_at pr1 hx
      have lA : rA.length = A.length := qA rA (List.mem_of_getElem? eA)
      refine ⟨rfl, ?_⟩
      refine ⟨true, _, Evl.ex_l (ex_trans g3.gg g3.gh) sl2, ?_⟩
      rw [lm]
      refine lc_pure g3.gh (fun j _ acc => acc = (((turnRows B).map fun c => dot rA c).take j).map pV) ?_ rfl ?_ ?_ ?_ ?_
      · exact Nat.le_trans l5 (szr (by decide +kernel))
      · rintro j _ acc rfl
        rw [List.length_map, List.length_take]
        omega
      · intro G4 H5 g4
        exact Evl.ex_l (ex_trans g3.gg (ex_trans g4.gg g4.gh)) sl2
      · rintro j x G4 H5 H6 acc2 hj g4 rfl ⟨rfl, hx⟩ S S0 r3 r4
        have hjt : j < ts.length := by rw [lt]; exact hj
        have hx' : (ts.map V.ref)[j]? = some x := hx
        rw [List.getElem?_map, List.getElem?_eq_getElem hjt] at hx'
        obtain rfl := Option.some.inj hx'
        obtain ⟨row, er, ht⟩ := paired_at pt2 (List.getElem?_eq_getElem hjt)
        rw [List.getElem?_map] at er
        obtain ⟨c, ec, rfl⟩ := Option.map_eq_some_iff.mp er
        have lc : c.length = A.length := by rw [turnRows_sq B c (List.mem_of_getElem? ec), turnRows_len, hl]
        have x4 : Ex G2 H6 := ex_trans g3.gg (ex_trans g4.gg g4.gh)
        have x4' : Ex G H6 := ex_trans g2.gg x4
        refine ⟨rfl, ?_⟩
        refine ⟨false, _, _, Evl.ex_t x4' s1, SqT.of (x4 _ _ ht), ?_⟩
        have mn : min (rA.map pV).length (c.map pV).length = A.length := by
          rw [List.length_map, List.length_map]
          omega
        rw [mn]
        refine lc_pure g4.gh (fun k _ acc => acc = ((List.zipWith add2 rA c).take k).map pV) ?_ rfl ?_ ?_ ?_ ?_
        · exact Nat.le_trans l5 (szr (by decide +kernel))
        · rintro k _ acc rfl
          rw [List.length_map, List.length_take]
          omega
        · intro G5 H7 g5
          have x5 : Ex G2 H7 := ex_trans g3.gg (ex_trans g4.gg (ex_trans g5.gg g5.gh))
          exact ⟨Evl.ex_t (ex_trans g2.gg x5) s1, SqT.of (x5 _ _ ht)⟩
        · rintro k x G5 H7 H8 acc3 hk g5 rfl ⟨T, y1, y2, rfl, hT, rfl, hy1, hy2⟩ U U0 r5 r6
          have hkA : k < A.length := hk
          have g6 : Gr G5 H7 G5 (upd H7 T (.tup [y1, y2])) := New.gr0 ⟨hT, rfl⟩ g5.gh
          have hk1 : k < rA.length := by omega
          have hk2 : k < c.length := by omega
          have hy1' : (rA.map pV)[k]? = some y1 := hy1
          have hy2' : (c.map pV)[k]? = some y2 := hy2
          rw [List.getElem?_map, List.getElem?_eq_getElem hk1] at hy1'
          rw [List.getElem?_map, List.getElem?_eq_getElem hk2] at hy2'
          obtain rfl := Option.some.inj hy1'
          obtain rfl := Option.some.inj hy2'
          refine ⟨_, SqT.of upd_same, rfl, ?_⟩
          refine ⟨rfl, ?_⟩
          refine ⟨rA[k], c[k], rfl, ?_⟩
          refine r5 _ G5 _ g6 ?_
          have he : (List.zipWith add2 rA c)[k]? = some (add2 rA[k] c[k]) := by
            rw [List.getElem?_zipWith, List.getElem?_eq_getElem hk1, List.getElem?_eq_getElem hk2]
          rw [List.take_add_one, he, List.map_append]
          rfl
        · rintro D3 G5 H7 acc3 g5 hD3 hGD3 h5 rfl
          rw [List.take_of_length_le (by rw [List.length_zipWith]; omega)] at h5
          refine ⟨H7, D3, true, _, rfl, ex_refl _, SqL.of h5, ?_⟩
          refine r3 _ G5 _ g5 ?_
          have he : ((turnRows B).map fun c => dot rA c)[j]? = some (dot rA c) := by
            rw [List.getElem?_map, ec]
            rfl
          rw [List.take_add_one, he, List.map_append]
          rfl
      · rintro D2 G4 H5 acc2 g4 hD2 hGD2 h4 rfl
        rw [List.take_of_length_le (by rw [List.length_map, turnRows_len, hl]; exact Nat.le_refl _)] at h4
        have xD : Ex G4 (upd G4 D2 (.lst (((turnRows B).map fun c => dot rA c).map pV))) := Evl.Ex.new hGD2
        refine r1 _ (upd G4 D2 (.lst (((turnRows B).map fun c => dot rA c).map pV))) H5 (g4.frz hD2 hGD2 h4) ?_
        have hr : (mulRows A B)[i]? = some ((turnRows B).map fun c => dot rA c) := by
          unfold mulRows
          rw [List.getElem?_map, eA]
          rfl
        rw [List.take_add_one, hr]
        exact paired_one (paired_imp2 h1 fun w r _ ⟨b, g, k1, k2⟩ => ⟨b, g, k1, Sq.up (ex_trans g4.gg xD) k2⟩) ⟨D2, true, rfl, SqL.of upd_same⟩
    · rintro D G3 H3 acc g3 hD hGD h3 h4
      rw [List.take_of_length_le (by rw [mulRows_len]; exact Nat.le_refl _)] at h4
      have xD : Ex G3 (upd G3 D (.lst acc)) := Evl.Ex.new hGD
      have g4 : Gr G H (upd G3 D (.lst acc)) H3 := (g2.trans g3).frz (g2.new hD) hGD h3
      refine fun y dy H6 md => ⟨_, y, dy, .ref D, mulRows A B, rfl, ex_trans g4.gh md.ex, ex_none g4.gh md.nx, md.at, ⟨D, true, acc, rfl, SqL.of upd_same, paired_imp2 h4 fun w r _ ⟨b, g, k1, k2⟩ => ⟨b, g, k1, Sq.up xD k2⟩⟩, mulRows_sq hl, by rw [mulRows_len]; exact l1, by rw [mulRows_len]; exact l5, mulRows_ok okA okB, fun ent G7 H7 g7 hx7 d7 => ⟨rfl, ?_⟩⟩
      have g8 := made_gr md g4.gh g7 hx7
      exact q y _ H7 (g4.trans g8) ⟨dy, ent, upd_same, dp_up (Evl.Ex.new ((g7.fix y (some_ne md.at)).trans (ex_none g4.gh md.nx))) d7⟩
end
end k03

namespace k03
open PySem PySem.Spec PyProof.Rows L2 Ech
open He (ga ma)
open He5 (wf)
/-! ### Table.__neg__ -/
theorem sc_Table_neg : FnScope ["self"] ["self"] (defScope s_Table_neg) := ⟨rfl, rfl, rfl, by decide +kernel, rfl, by decide +kernel, by decide +kernel⟩
section
variable {P : Program} {w : World} {K : PySem.W.Frag} {mg : PySem.Str → Option Value} {base : Heap}
theorem F_Table_neg (e : Ev K mg) : FunD K "__neg__" "Table.__neg__" (defArgs s_Table_neg) (defBody s_Table_neg) (defScope s_Table_neg) [] [] (ma K (ga K "Table") "__neg__") (fdA K (ma K (ga K "Table") "__neg__")) := e.fun_ 26 (d := d_Table_neg)
theorem b_Table_neg (e : Ev K mg) : Binds K (fdA K (ma K (ga K "Table") "__neg__")) ["self"] [] := (F_Table_neg e).bindsN fun _ _ _ _ _ _ us hl => match us, hl with | [_], _ => rfl
theorem bn_Table_neg_1 (e : Ev K mg) : Bnd K (ma K (ga K "Table") "__neg__") ["self"] [] := ⟨[], .nil, b_Table_neg e⟩
def sp_Table_neg (K : PySem.W.Frag) : Sp := fun vs H Q _ => ∃ (G : Hp) (a : Addr) (A : List (List (Option Int))), vs = [.ref a] ∧ Ex G H ∧ TabAt K G a A ∧ SqR A ∧ 1 ≤ A.length ∧ A.length ≤ 5 ∧ (∀ r ∈ A, ∀ x ∈ r, ∀ i, x = some i → 0 ≤ i) ∧
  ∀ x G' H', Gr G H G' H' → TabAt K G' x (turnRows A) → Q (.ref x) H'
theorem ok_Table_neg (e : Ev K mg) : FnOk P w K mg base CX0 6 (ma K (ga K "Table") "__neg__") (fdA K (ma K (ga K "Table") "__neg__")) ["self"] (sp_Table_neg K) := by
  refine (F_Table_neg e).ok sc_Table_neg (fun vs H Q E h => ?_) (fun cdv A outer s H vs Q E hr h => ?_)
  · obtain ⟨G, a, A, rfl, _⟩ := h
    rfl
  · obtain ⟨G, a, A, rfl, hg, hA, qA, l1, l5, okA, q⟩ := h
    obtain ⟨dx, ent, t1, t2⟩ := id hA
    obtain ⟨a1, vs1, rfl, sq1, pr1⟩ := tab_rows t2
    obtain ⟨srcs, rfl, es, sr⟩ := rowT_srcs pr1
    have ls : srcs.length = A.length := by
      have := congrArg List.length es
      rwa [List.length_map, List.length_map] at this
    refine ⟨_, PSs.nox (pss_one (ps_ret (u_make (mk_Table e) (ok_Table_init e) (hr.mono (by decide)) (by rfl) (gl_Table e) (b_Table_init e) .nil pass0 (pa_cons (k_lzS (K := K) rfl (by rfl) (by rfl) (fr_list e) (by rfl) (fr_zip e) (u_fld (cl_Table e) (na_Table_entries e) (uv 0))) pa_nil)))), ?_⟩
    refine ⟨dx, _, _, hg _ _ t1, look_entries _, ?_⟩
    refine ⟨_, Or.inl (Evl.ex_t hg sq1), ?_⟩
    refine ⟨srcs, rfl, by omega, by omega, fun p hp => Or.inr (Evl.ex_t hg (sr p hp)), ?_⟩
    intro H2 l2 ts x2 n1 n2 n3 e1 e2
    rw [es, zipV_turn (by omega) qA] at e2
    have g2 : Gr G H (frzAll G H H2) H2 := Gr_all hg x2
    have sl2 : SqL K (frzAll G H H2) l2 (ts.map V.ref) := SqL.of (by rw [frz_new n1]; exact e1)
    have pt2 : Paired (fun t row => frzAll G H H2 t = some (.tup row)) ts ((turnRows A).map fun r => r.map pV) := paired_imp2 e2 fun t row m e => by rw [frz_new (n2 t m)]; exact e
    generalize frzAll G H H2 = G2 at g2 sl2 pt2
    refine fun y dy H6 md => ⟨_, y, dy, .ref l2, turnRows A, rfl, ex_trans g2.gh md.ex, ex_none g2.gh md.nx, md.at, ⟨l2, true, _, rfl, sl2, rows_rowT (zip_rows pt2)⟩, turnRows_sq A, by rw [turnRows_len]; exact l1, by rw [turnRows_len]; exact l5, turnRows_ok okA, fun ent G7 H7 g7 hx7 d7 => ⟨rfl, ?_⟩⟩
    have g8 := made_gr md g2.gh g7 hx7
    exact q y _ H7 (g2.trans g8) ⟨dy, ent, upd_same, dp_up (Evl.Ex.new ((g7.fix y (some_ne md.at)).trans (ex_none g2.gh md.nx))) d7⟩
end
end k03

namespace k03
open PySem PySem.Spec PyProof.Rows L2 Ech
open He (ga ma)
open He5 (wf)
/-! ### Table.__or__ -/
theorem sc_Table_or : FnScope ["self", "other", "pairs", "pair", "mine", "theirs"] ["self", "other"] (defScope s_Table_or) := ⟨rfl, rfl, rfl, by decide +kernel, rfl, by decide +kernel, by decide +kernel⟩
section
variable {P : Program} {w : World} {K : PySem.W.Frag} {mg : PySem.Str → Option Value} {base : Heap}
theorem F_Table_or (e : Ev K mg) : FunD K "__or__" "Table.__or__" (defArgs s_Table_or) (defBody s_Table_or) (defScope s_Table_or) [] [] (ma K (ga K "Table") "__or__") (fdA K (ma K (ga K "Table") "__or__")) := e.fun_ 25 (d := d_Table_or)
theorem b_Table_or (e : Ev K mg) : Binds K (fdA K (ma K (ga K "Table") "__or__")) ["self", "other"] [] := (F_Table_or e).bindsN fun _ _ _ _ _ _ us hl => match us, hl with | [_, _], _ => rfl
theorem bn_Table_or_2 (e : Ev K mg) : Bnd K (ma K (ga K "Table") "__or__") ["self", "other"] [] := ⟨[], .nil, b_Table_or e⟩
def sp_Table_or (K : PySem.W.Frag) : Sp := fun vs H Q E => ∃ (G : Hp) (a b : Addr) (A B : List (List (Option Int))), vs = [.ref a, .ref b] ∧ Ex G H ∧ TabAt K G a A ∧ TabAt K G b B ∧ ((A.length = B.length ∧ SqR A ∧ SqR B ∧ 1 ≤ A.length ∧ A.length ≤ 5 ∧ (∀ r ∈ A, ∀ x ∈ r, ∀ i, x = some i → 0 ≤ i) ∧ (∀ r ∈ B, ∀ x ∈ r, ∀ i, x = some i → 0 ≤ i) ∧
  ∀ x G' H', Gr G H G' H' → TabAt K G' x (orRows A B) → Q (.ref x) H') ∨ (A.length ≠ B.length ∧ E (.ref (ga K "OtherLetters")) none H))
theorem ok_Table_or (e : Ev K mg) : FnOk P w K mg base (L2.CX P w) 6 (ma K (ga K "Table") "__or__") (fdA K (ma K (ga K "Table") "__or__")) ["self", "other"] (sp_Table_or K) := by
  refine (F_Table_or e).ok sc_Table_or (fun vs H Q E h => ?_) (fun cdv A outer s H vs Q E hr h => ?_)
  · obtain ⟨G, a, b, A, B, rfl, _⟩ := h
    rfl
  · obtain ⟨G, a, b, A, B, rfl, hg, hA, hB, h⟩ := h
    obtain ⟨dx, ent, t1, t2⟩ := id hA
    obtain ⟨dy, ent2, u1, u2⟩ := id hB
    obtain ⟨a1, vs1, rfl, sq1, pr1⟩ := tab_rows t2
    obtain ⟨a2, vs2, rfl, sq2, pr2⟩ := tab_rows u2
    refine ⟨_, (pss_cons (ps_expr (u_callT (takes_of rfl rfl rfl rfl) (ok_need_like e) (hr.mono (by decide)) (by rfl) (gl_need_like e) (kp_need_like e) (bn_need_like_2 e) (pa_cons (uv 0) (pa_cons (uv 1) pa_nil))))
            (pss_cons (ps_set (i := 2) sc_Table_or.nd (by rfl) (Or.inl rfl) (k_lz (K := K) rfl (by rfl) (by rfl) (fr_list e) (by rfl) (fr_zip e) (pa_cons (u_fld (cl_Table e) (na_Table_entries e) (uv 0)) (pa_cons (u_fld (cl_Table e) (na_Table_entries e) (uv 1)) pa_nil))))
            (pss_one (ps_ret (u_make (mk_Table e) (ok_Table_init e) (hr.mono (by decide)) (by rfl) (gl_Table e) (b_Table_init e) .nil pass0 (pa_cons (u_lc (own := [("mine", 4), ("theirs", 5)]) (by rfl) sc_Table_or.nd (k_seq (K := K) rfl (uv 2)) (blkOk_by (by kernel_rfl)) (fun _ _ _ _ _ => (u_pgtup (K := K) rfl rfl (PGL.cons (pg_name (i := 4) sc_Table_or.nd (by rfl) (by first | exact Or.inl rfl | exact Or.inr rfl)) (PGL.cons (pg_name (i := 5) sc_Table_or.nd (by rfl) (by first | exact Or.inl rfl | exact Or.inr rfl)) PGL.nil (by rfl)) (by rfl)))) (fun _ _ _ _ _ => pts_nil) (fun _ _ _ _ _ => (u_lc (own := [("pair", 3)]) (by rfl) sc_Table_or.nd (k_zipN (K := K) rfl (by rfl) (fr_zip e) (pa_cons (uv 4) (pa_cons (uv 5) pa_nil))) (blkOk_by (by kernel_rfl)) (fun _ _ _ _ _ => (pg_name (i := 3) sc_Table_or.nd (by rfl) (by first | exact Or.inl rfl | exact Or.inr rfl))) (fun _ _ _ _ _ => pts_nil) (fun _ _ _ _ _ => (u_call (ok_least_of e) (hr.mono (by decide)) (by rfl) (gl_least_of e) (kp_least_of e) (bn_least_of_1 e) pass0 (pa_cons (uv 3) pa_nil)))))) pa_nil)))))), ?_⟩
    rcases h with ⟨hl, qA, qB, l1, l5, okA, okB, q⟩ | ⟨hl, q⟩
    case' inr => exact ⟨G, a, b, A, B, rfl, hg, hA, hB, Or.inr ⟨hl, q⟩⟩
    refine ⟨G, a, b, A, B, rfl, hg, hA, hB, Or.inl ⟨hl, ?_⟩⟩
    refine ⟨dx, _, _, hg _ _ t1, look_entries _, ?_⟩
    refine ⟨dy, _, _, hg _ _ u1, look_entries _, ?_⟩
    have lv1 : vs1.length = A.length := paired_len pr1
    have lv2 : vs2.length = B.length := paired_len pr2
    refine ⟨[(a1, vs1), (a2, vs2)], rfl, by show 0 < 2; decide, by show 2 ≤ 5; decide, ?_, ?_⟩
    · intro x hx
      rcases List.mem_cons.mp hx with rfl | hx
      · exact Or.inr (Evl.ex_t hg sq1)
      · rcases List.mem_cons.mp hx with rfl | hx
        · exact Or.inr (Evl.ex_t hg sq2)
        · cases hx
    · intro H2 l2 ts x2 n1 n2 n3 e1 e2
      have e2' : Paired (fun t row => H2 t = some (.tup row)) ts (List.zipWith (fun x y => [x, y]) vs1 vs2) := by
        rw [← zipV_two (by omega)]
        exact e2
      have g2 : Gr G H (frzAll G H H2) H2 := Gr_all hg x2
      have sl2 : SqL K (frzAll G H H2) l2 (ts.map V.ref) := SqL.of (by rw [frz_new n1]; exact e1)
      have pt2 : Paired (fun t row => frzAll G H H2 t = some (.tup row)) ts (List.zipWith (fun x y => [x, y]) vs1 vs2) := paired_imp2 e2' fun t row m e => by rw [frz_new (n2 t m)]; exact e
      generalize frzAll G H H2 = G2 at g2 sl2 pt2
      have lt : ts.length = A.length := by
        rw [paired_len pt2, List.length_zipWith]
        omega
      refine ⟨true, _, Evl.ex_l g2.gh sl2, ?_⟩
      have ln : (ts.map V.ref).length = A.length := by rw [List.length_map, lt]
      rw [ln]
      refine lc_pure g2.gh (fun i G acc => Paired (fun w r => ∃ (b : Addr) (g : Bool), w = V.ref b ∧ Sq g K G b (List.map pV r)) acc ((orRows A B).take i)) ?_ .nil ?_ ?_ ?_ ?_
      · exact Nat.le_trans l5 (szr (by decide +kernel))
      · intro i _ acc h1
        rw [paired_len h1, List.length_take]
        omega
      · intro G3 H3 g3
        exact Evl.ex_l (ex_trans g3.gg g3.gh) sl2
      · rintro i x G3 H3 H4 acc hi g3 h1 ⟨rfl, hx⟩ R R0 r1 r2
        have hiA : i < A.length := hi
        have hit : i < ts.length := by omega
        rw [List.getElem?_map, List.getElem?_eq_getElem hit] at hx
        obtain rfl := Option.some.inj hx
        obtain ⟨row, er, ht⟩ := paired_at pt2 (List.getElem?_eq_getElem hit)
        have hi1 : i < vs1.length := by omega
        have hi2 : i < vs2.length := by omega
        rw [List.getElem?_zipWith, List.getElem?_eq_getElem hi1, List.getElem?_eq_getElem hi2] at er
        obtain rfl := Option.some.inj er
        obtain ⟨rA, eA, b1, f1, s1⟩ := paired_at pr1 (List.getElem?_eq_getElem hi1)
        obtain ⟨rB, eB, b2, f2, s2⟩ := paired_at pr2 (List.getElem?_eq_getElem hi2)
        rw [f1, f2] at ht
        have x3 : Ex G H4 := ex_trans g2.gg (ex_trans g3.gg g3.gh)
        have lA : rA.length = A.length := qA rA (List.mem_of_getElem? eA)
        have lB : rB.length = A.length := by rw [qB rB (List.mem_of_getElem? eB), hl]
        refine ⟨_, SqT.of (ex_trans g3.gg g3.gh _ _ ht), rfl, ?_⟩
        refine ⟨rfl, ?_⟩
        refine ⟨_, _, Evl.ex_t x3 s1, Evl.ex_t x3 s2, ?_⟩
        have mn : min (rA.map pV).length (rB.map pV).length = A.length := by
          rw [List.length_map, List.length_map]
          omega
        rw [mn]
        refine lc_pure g3.gh (fun j _ acc => acc = ((orRow rA rB).take j).map pV) ?_ rfl ?_ ?_ ?_ ?_
        · exact Nat.le_trans l5 (szr (by decide +kernel))
        · rintro j _ acc rfl
          rw [List.length_map, List.length_take]
          omega
        · intro G4 H4 g4
          have x4 : Ex G H4 := ex_trans g2.gg (ex_trans g3.gg (ex_trans g4.gg g4.gh))
          exact ⟨Evl.ex_t x4 s1, Evl.ex_t x4 s2⟩
        · rintro j x G4 H4 H5 acc2 hj g4 rfl ⟨T, y1, y2, rfl, hT, rfl, hy1, hy2⟩ S S0 r3 r4
          have hjA : j < A.length := hj
          have g5 : Gr G4 H4 G4 (upd H4 T (.tup [y1, y2])) := New.gr0 ⟨hT, rfl⟩ g4.gh
          have hj1 : j < rA.length := by omega
          have hj2 : j < rB.length := by omega
          have hy1' : (rA.map pV)[j]? = some y1 := hy1
          have hy2' : (rB.map pV)[j]? = some y2 := hy2
          rw [List.getElem?_map, List.getElem?_eq_getElem hj1] at hy1'
          rw [List.getElem?_map, List.getElem?_eq_getElem hj2] at hy2'
          obtain rfl := Option.some.inj hy1'
          obtain rfl := Option.some.inj hy2'
          refine ⟨rfl, ?_⟩
          refine ⟨upd H4 T (.tup [pV rA[j], pV rB[j]]), T, false, [rA[j], rB[j]], rfl, ex_refl _, SqT.of upd_same, ?_⟩
          refine r3 _ G4 _ g5 ?_
          have he : (orRow rA rB)[j]? = some (or2 rA[j] rB[j]) := by
            unfold orRow
            rw [List.getElem?_zipWith, List.getElem?_eq_getElem hj1, List.getElem?_eq_getElem hj2]
          rw [List.take_add_one, he, List.map_append]
          rfl
        · rintro D2 G4 H4 acc2 g4 hD2 hGD2 h4 rfl
          rw [List.take_of_length_le (by rw [orRow_len (by omega)]; omega)] at h4
          have xD : Ex G4 (upd G4 D2 (.lst ((orRow rA rB).map pV))) := Evl.Ex.new hGD2
          refine r1 _ (upd G4 D2 (.lst ((orRow rA rB).map pV))) H4 (g4.frz hD2 hGD2 h4) ?_
          have hr : (orRows A B)[i]? = some (orRow rA rB) := by
            unfold orRows
            rw [List.getElem?_zipWith, eA, eB]
          rw [List.take_add_one, hr]
          exact paired_one (paired_imp2 h1 fun w r _ ⟨b, g, k1, k2⟩ => ⟨b, g, k1, Sq.up (ex_trans g4.gg xD) k2⟩) ⟨D2, true, rfl, SqL.of upd_same⟩
      · rintro D G3 H3 acc g3 hD hGD h3 h4
        rw [List.take_of_length_le (by rw [orRows_len hl]; exact Nat.le_refl _)] at h4
        have xD : Ex G3 (upd G3 D (.lst acc)) := Evl.Ex.new hGD
        have g4 : Gr G H (upd G3 D (.lst acc)) H3 := (g2.trans g3).frz (g2.new hD) hGD h3
        refine fun y dy H6 md => ⟨_, y, dy, .ref D, orRows A B, rfl, ex_trans g4.gh md.ex, ex_none g4.gh md.nx, md.at, ⟨D, true, acc, rfl, SqL.of upd_same, paired_imp2 h4 fun w r _ ⟨b, g, k1, k2⟩ => ⟨b, g, k1, Sq.up xD k2⟩⟩, orRows_sq hl qA qB, by rw [orRows_len hl]; exact l1, by rw [orRows_len hl]; exact l5, orRows_ok okA okB, fun ent G7 H7 g7 hx7 d7 => ⟨rfl, ?_⟩⟩
        have g8 := made_gr md g4.gh g7 hx7
        exact q y _ H7 (g4.trans g8) ⟨dy, ent, upd_same, dp_up (Evl.Ex.new ((g7.fix y (some_ne md.at)).trans (ex_none g4.gh md.nx))) d7⟩
end
end k03

namespace k03
open PySem PySem.Spec PyProof.Rows L2 Ech
open He (ga ma)
open He5 (wf)
/-! ### Table.__add__ -/
theorem sc_Table_add : FnScope ["self", "other", "pairs", "one", "two", "mine", "theirs"] ["self", "other"] (defScope s_Table_add) := ⟨rfl, rfl, rfl, by decide +kernel, rfl, by decide +kernel, by decide +kernel⟩
section
variable {P : Program} {w : World} {K : PySem.W.Frag} {mg : PySem.Str → Option Value} {base : Heap}
theorem F_Table_add (e : Ev K mg) : FunD K "__add__" "Table.__add__" (defArgs s_Table_add) (defBody s_Table_add) (defScope s_Table_add) [] [] (ma K (ga K "Table") "__add__") (fdA K (ma K (ga K "Table") "__add__")) := e.fun_ 24 (d := d_Table_add)
theorem b_Table_add (e : Ev K mg) : Binds K (fdA K (ma K (ga K "Table") "__add__")) ["self", "other"] [] := (F_Table_add e).bindsN fun _ _ _ _ _ _ us hl => match us, hl with | [_, _], _ => rfl
theorem bn_Table_add_2 (e : Ev K mg) : Bnd K (ma K (ga K "Table") "__add__") ["self", "other"] [] := ⟨[], .nil, b_Table_add e⟩
def sp_Table_add (K : PySem.W.Frag) : Sp := fun vs H Q E => ∃ (G : Hp) (a b : Addr) (A B : List (List (Option Int))), vs = [.ref a, .ref b] ∧ Ex G H ∧ TabAt K G a A ∧ TabAt K G b B ∧ ((A.length = B.length ∧ SqR A ∧ SqR B ∧ 1 ≤ A.length ∧ A.length ≤ 5 ∧ (∀ r ∈ A, ∀ x ∈ r, ∀ i, x = some i → 0 ≤ i) ∧ (∀ r ∈ B, ∀ x ∈ r, ∀ i, x = some i → 0 ≤ i) ∧
  ∀ x G' H', Gr G H G' H' → TabAt K G' x (addRows A B) → Q (.ref x) H') ∨ (A.length ≠ B.length ∧ E (.ref (ga K "OtherLetters")) none H))
theorem ok_Table_add (e : Ev K mg) : FnOk P w K mg base (L2.CX P w) 6 (ma K (ga K "Table") "__add__") (fdA K (ma K (ga K "Table") "__add__")) ["self", "other"] (sp_Table_add K) := by
  refine (F_Table_add e).ok sc_Table_add (fun vs H Q E h => ?_) (fun cdv A outer s H vs Q E hr h => ?_)
  · obtain ⟨G, a, b, A, B, rfl, _⟩ := h
    rfl
  · obtain ⟨G, a, b, A, B, rfl, hg, hA, hB, h⟩ := h
    obtain ⟨dx, ent, t1, t2⟩ := id hA
    obtain ⟨dy, ent2, u1, u2⟩ := id hB
    obtain ⟨a1, vs1, rfl, sq1, pr1⟩ := tab_rows t2
    obtain ⟨a2, vs2, rfl, sq2, pr2⟩ := tab_rows u2
    refine ⟨_, (pss_cons (ps_expr (u_callT (takes_of rfl rfl rfl rfl) (ok_need_like e) (hr.mono (by decide)) (by rfl) (gl_need_like e) (kp_need_like e) (bn_need_like_2 e) (pa_cons (uv 0) (pa_cons (uv 1) pa_nil))))
            (pss_cons (ps_set (i := 2) sc_Table_add.nd (by rfl) (Or.inl rfl) (k_lz (K := K) rfl (by rfl) (by rfl) (fr_list e) (by rfl) (fr_zip e) (pa_cons (u_fld (cl_Table e) (na_Table_entries e) (uv 0)) (pa_cons (u_fld (cl_Table e) (na_Table_entries e) (uv 1)) pa_nil))))
            (pss_one (ps_ret (u_make (mk_Table e) (ok_Table_init e) (hr.mono (by decide)) (by rfl) (gl_Table e) (b_Table_init e) .nil pass0 (pa_cons (u_lc (own := [("mine", 5), ("theirs", 6)]) (by rfl) sc_Table_add.nd (k_seq (K := K) rfl (uv 2)) (blkOk_by (by kernel_rfl)) (fun _ _ _ _ _ => (u_pgtup (K := K) rfl rfl (PGL.cons (pg_name (i := 5) sc_Table_add.nd (by rfl) (by first | exact Or.inl rfl | exact Or.inr rfl)) (PGL.cons (pg_name (i := 6) sc_Table_add.nd (by rfl) (by first | exact Or.inl rfl | exact Or.inr rfl)) PGL.nil (by rfl)) (by rfl)))) (fun _ _ _ _ _ => pts_nil) (fun _ _ _ _ _ => (u_lc (own := [("one", 3), ("two", 4)]) (by rfl) sc_Table_add.nd (k_zip (K := K) rfl (by rfl) (fr_zip e) (pa_cons (uv 5) (pa_cons (uv 6) pa_nil))) (blkOk_by (by kernel_rfl)) (fun _ _ _ _ _ => (u_pgtup (K := K) rfl rfl (PGL.cons (pg_name (i := 3) sc_Table_add.nd (by rfl) (by first | exact Or.inl rfl | exact Or.inr rfl)) (PGL.cons (pg_name (i := 4) sc_Table_add.nd (by rfl) (by first | exact Or.inl rfl | exact Or.inr rfl)) PGL.nil (by rfl)) (by rfl)))) (fun _ _ _ _ _ => pts_nil) (fun _ _ _ _ _ => (u_call (ok_sum_two e) (hr.mono (by decide)) (by rfl) (gl_sum_two e) (kp_sum_two e) (bn_sum_two_2 e) pass0 (pa_cons (uv 3) (pa_cons (uv 4) pa_nil))))))) pa_nil)))))), ?_⟩
    rcases h with ⟨hl, qA, qB, l1, l5, okA, okB, q⟩ | ⟨hl, q⟩
    case' inr => exact ⟨G, a, b, A, B, rfl, hg, hA, hB, Or.inr ⟨hl, q⟩⟩
    refine ⟨G, a, b, A, B, rfl, hg, hA, hB, Or.inl ⟨hl, ?_⟩⟩
    refine ⟨dx, _, _, hg _ _ t1, look_entries _, ?_⟩
    refine ⟨dy, _, _, hg _ _ u1, look_entries _, ?_⟩
    have lv1 : vs1.length = A.length := paired_len pr1
    have lv2 : vs2.length = B.length := paired_len pr2
    refine ⟨[(a1, vs1), (a2, vs2)], rfl, by show 0 < 2; decide, by show 2 ≤ 5; decide, ?_, ?_⟩
    · intro x hx
      rcases List.mem_cons.mp hx with rfl | hx
      · exact Or.inr (Evl.ex_t hg sq1)
      · rcases List.mem_cons.mp hx with rfl | hx
        · exact Or.inr (Evl.ex_t hg sq2)
        · cases hx
    · intro H2 l2 ts x2 n1 n2 n3 e1 e2
      have e2' : Paired (fun t row => H2 t = some (.tup row)) ts (List.zipWith (fun x y => [x, y]) vs1 vs2) := by
        rw [← zipV_two (by omega)]
        exact e2
      have g2 : Gr G H (frzAll G H H2) H2 := Gr_all hg x2
      have sl2 : SqL K (frzAll G H H2) l2 (ts.map V.ref) := SqL.of (by rw [frz_new n1]; exact e1)
      have pt2 : Paired (fun t row => frzAll G H H2 t = some (.tup row)) ts (List.zipWith (fun x y => [x, y]) vs1 vs2) := paired_imp2 e2' fun t row m e => by rw [frz_new (n2 t m)]; exact e
      generalize frzAll G H H2 = G2 at g2 sl2 pt2
      have lt : ts.length = A.length := by
        rw [paired_len pt2, List.length_zipWith]
        omega
      refine ⟨true, _, Evl.ex_l g2.gh sl2, ?_⟩
      have ln : (ts.map V.ref).length = A.length := by rw [List.length_map, lt]
      rw [ln]
      refine lc_pure g2.gh (fun i G acc => Paired (fun w r => ∃ (b : Addr) (g : Bool), w = V.ref b ∧ Sq g K G b (List.map pV r)) acc ((addRows A B).take i)) ?_ .nil ?_ ?_ ?_ ?_
      · exact Nat.le_trans l5 (szr (by decide +kernel))
      · intro i _ acc h1
        rw [paired_len h1, List.length_take]
        omega
      · intro G3 H3 g3
        exact Evl.ex_l (ex_trans g3.gg g3.gh) sl2
      · rintro i x G3 H3 H4 acc hi g3 h1 ⟨rfl, hx⟩ R R0 r1 r2
        have hiA : i < A.length := hi
        have hit : i < ts.length := by omega
        rw [List.getElem?_map, List.getElem?_eq_getElem hit] at hx
        obtain rfl := Option.some.inj hx
        obtain ⟨row, er, ht⟩ := paired_at pt2 (List.getElem?_eq_getElem hit)
        have hi1 : i < vs1.length := by omega
        have hi2 : i < vs2.length := by omega
        rw [List.getElem?_zipWith, List.getElem?_eq_getElem hi1, List.getElem?_eq_getElem hi2] at er
        obtain rfl := Option.some.inj er
        obtain ⟨rA, eA, b1, f1, s1⟩ := paired_at pr1 (List.getElem?_eq_getElem hi1)
        obtain ⟨rB, eB, b2, f2, s2⟩ := paired_at pr2 (List.getElem?_eq_getElem hi2)
        rw [f1, f2] at ht
        have x3 : Ex G H4 := ex_trans g2.gg (ex_trans g3.gg g3.gh)
        have lA : rA.length = A.length := qA rA (List.mem_of_getElem? eA)
        have lB : rB.length = A.length := by rw [qB rB (List.mem_of_getElem? eB), hl]
        refine ⟨_, SqT.of (ex_trans g3.gg g3.gh _ _ ht), rfl, ?_⟩
        refine ⟨rfl, ?_⟩
        refine ⟨false, _, _, Evl.ex_t x3 s1, Evl.ex_t x3 s2, ?_⟩
        have mn : min (rA.map pV).length (rB.map pV).length = A.length := by
          rw [List.length_map, List.length_map]
          omega
        rw [mn]
        refine lc_pure g3.gh (fun j _ acc => acc = ((addRow rA rB).take j).map pV) ?_ rfl ?_ ?_ ?_ ?_
        · exact Nat.le_trans l5 (szr (by decide +kernel))
        · rintro j _ acc rfl
          rw [List.length_map, List.length_take]
          omega
        · intro G4 H4 g4
          have x4 : Ex G H4 := ex_trans g2.gg (ex_trans g3.gg (ex_trans g4.gg g4.gh))
          exact ⟨Evl.ex_t x4 s1, Evl.ex_t x4 s2⟩
        · rintro j x G4 H4 H5 acc2 hj g4 rfl ⟨T, y1, y2, rfl, hT, rfl, hy1, hy2⟩ S S0 r3 r4
          have hjA : j < A.length := hj
          have g5 : Gr G4 H4 G4 (upd H4 T (.tup [y1, y2])) := New.gr0 ⟨hT, rfl⟩ g4.gh
          have hj1 : j < rA.length := by omega
          have hj2 : j < rB.length := by omega
          have hy1' : (rA.map pV)[j]? = some y1 := hy1
          have hy2' : (rB.map pV)[j]? = some y2 := hy2
          rw [List.getElem?_map, List.getElem?_eq_getElem hj1] at hy1'
          rw [List.getElem?_map, List.getElem?_eq_getElem hj2] at hy2'
          obtain rfl := Option.some.inj hy1'
          obtain rfl := Option.some.inj hy2'
          refine ⟨_, SqT.of upd_same, rfl, ?_⟩
          refine ⟨rfl, ?_⟩
          refine ⟨rA[j], rB[j], rfl, ?_⟩
          refine r3 _ G4 _ g5 ?_
          have he : (addRow rA rB)[j]? = some (add2 rA[j] rB[j]) := by
            unfold addRow
            rw [List.getElem?_zipWith, List.getElem?_eq_getElem hj1, List.getElem?_eq_getElem hj2]
          rw [List.take_add_one, he, List.map_append]
          rfl
        · rintro D2 G4 H4 acc2 g4 hD2 hGD2 h4 rfl
          rw [List.take_of_length_le (by rw [addRow_len (by omega)]; omega)] at h4
          have xD : Ex G4 (upd G4 D2 (.lst ((addRow rA rB).map pV))) := Evl.Ex.new hGD2
          refine r1 _ (upd G4 D2 (.lst ((addRow rA rB).map pV))) H4 (g4.frz hD2 hGD2 h4) ?_
          have hr : (addRows A B)[i]? = some (addRow rA rB) := by
            unfold addRows
            rw [List.getElem?_zipWith, eA, eB]
          rw [List.take_add_one, hr]
          exact paired_one (paired_imp2 h1 fun w r _ ⟨b, g, k1, k2⟩ => ⟨b, g, k1, Sq.up (ex_trans g4.gg xD) k2⟩) ⟨D2, true, rfl, SqL.of upd_same⟩
      · rintro D G3 H3 acc g3 hD hGD h3 h4
        rw [List.take_of_length_le (by rw [addRows_len hl]; exact Nat.le_refl _)] at h4
        have xD : Ex G3 (upd G3 D (.lst acc)) := Evl.Ex.new hGD
        have g4 : Gr G H (upd G3 D (.lst acc)) H3 := (g2.trans g3).frz (g2.new hD) hGD h3
        refine fun y dy H6 md => ⟨_, y, dy, .ref D, addRows A B, rfl, ex_trans g4.gh md.ex, ex_none g4.gh md.nx, md.at, ⟨D, true, acc, rfl, SqL.of upd_same, paired_imp2 h4 fun w r _ ⟨b, g, k1, k2⟩ => ⟨b, g, k1, Sq.up xD k2⟩⟩, addRows_sq hl qA qB, by rw [addRows_len hl]; exact l1, by rw [addRows_len hl]; exact l5, addRows_ok okA okB, fun ent G7 H7 g7 hx7 d7 => ⟨rfl, ?_⟩⟩
        have g8 := made_gr md g4.gh g7 hx7
        exact q y _ H7 (g4.trans g8) ⟨dy, ent, upd_same, dp_up (Evl.Ex.new ((g7.fix y (some_ne md.at)).trans (ex_none g4.gh md.nx))) d7⟩
end
end k03

namespace k03
open PySem PySem.Spec PyProof.Rows L2 Ech
open He (ga ma)
open He5 (wf)
/-! ### _law_composed -/
theorem sc__law_composed : FnScope ["_law_one", "_law_other", "_law_size", "_law_found", "_law_a", "_law_row", "_law_b", "_law_c"] ["_law_one", "_law_other"] (defScope s__law_composed) := ⟨rfl, rfl, rfl, by decide +kernel, rfl, by decide +kernel, by decide +kernel⟩
section
variable {P : Program} {w : World} {K : PySem.W.Frag} {mg : PySem.Str → Option Value} {base : Heap}
theorem F__law_composed (e : Ev K mg) : FunD K "_law_composed" "_law_composed" (defArgs s__law_composed) (defBody s__law_composed) (defScope s__law_composed) [] [] (ga K "_law_composed") (fdA K (ga K "_law_composed")) := e.fun_ 34 (d := d__law_composed)
theorem kp__law_composed (e : Ev K mg) : PySem.W.keepIn K (.ref (ga K "_law_composed")) = true := (F__law_composed e).kp
theorem b__law_composed (e : Ev K mg) : Binds K (fdA K (ga K "_law_composed")) ["_law_one", "_law_other"] [] := (F__law_composed e).bindsN fun _ _ _ _ _ _ us hl => match us, hl with | [_, _], _ => rfl
theorem bn__law_composed_2 (e : Ev K mg) : Bnd K (ga K "_law_composed") ["_law_one", "_law_other"] [] := ⟨[], .nil, b__law_composed e⟩
def sp__law_composed (K : PySem.W.Frag) : Sp := fun vs H Q _ => ∃ (G : Hp) (v w : V) (A B : List (List (Option Int))) (n : Nat), vs = [v, w] ∧ Ex G H ∧ RowsAt K G v A ∧ RowsAt K G w B ∧ Tn n A ∧ Tn n B ∧ n ≤ 5 ∧
  ∀ x G' H', Gr G H G' H' → RowsAt K G' x (mulRows A B) → Q x H'
theorem ok__law_composed (e : Ev K mg) : FnG P w K mg base CX0 2 (ga K "_law_composed") (fdA K (ga K "_law_composed")) ["_law_one", "_law_other"] (sp__law_composed K) := by
  refine FnG.body (F__law_composed e) sc__law_composed (fun vs H Q E h => ?_) (fun cdv A outer s H vs Q E hr hq h => ?_)
  · obtain ⟨G, v, w, A, B, n, rfl, _⟩ := h
    rfl
  · obtain ⟨G, v, w, A, B, n, rfl, hg, hA, hB, tA, tB, n5, q⟩ := h
    obtain ⟨av, fv, vsv, rfl, sv, pv⟩ := id hA
    obtain ⟨aw, fw, vsw, rfl, sw, pw⟩ := id hB
    have lv : vsv.length = n := by rw [paired_len pv, tA.len]
    have tn : ((n : Int)).toNat = n := Int.toNat_natCast n
    have lM : (mulRows A B).length = n := by rw [mulRows_len, tA.len]
    refine ⟨_, PSs.nox (pss_cons (ps_set (i := 2) sc__law_composed.nd (by rfl) (Or.inl rfl) (pe_callB (id := "len") (k_len (K := K) rfl) (by rfl) (fr_len e) (by decide +kernel) (pa_cons (uv 0) pa_nil)))
            (pss_cons (ps_set (i := 3) sc__law_composed.nd (by rfl) (Or.inl rfl) (u_lst pa_nil))
            (pss_cons (u_for PassesOwn.never (by rfl) (piu_range1 (by rfl) (fr_range e) (pa_cons (uv 2) pa_nil)) (pg_name (i := 4) sc__law_composed.nd (by rfl) (by first | exact Or.inl rfl | exact Or.inr rfl)) (pss_cons (ps_set (i := 5) sc__law_composed.nd (by rfl) (Or.inl rfl) (u_lst pa_nil))
            (pss_cons (u_for PassesOwn.never (by rfl) (piu_range1 (by rfl) (fr_range e) (pa_cons (uv 2) pa_nil)) (pg_name (i := 6) sc__law_composed.nd (by rfl) (by first | exact Or.inl rfl | exact Or.inr rfl)) (pss_one (ps_expr (k_append (K := K) rfl (uv 5) (pa_cons (u_callQ (ok__law_least e) (hr.mono (by decide)) hq (by rfl) (gl__law_least e) (kp__law_least e) (bn__law_least_1 e) pass0 (pa_cons (u_lc (own := [("_law_c", 7)]) (by rfl) sc__law_composed.nd (piu_range1 (by rfl) (fr_range e) (pa_cons (uv 2) pa_nil)) (blkOk_by (by kernel_rfl)) (fun _ _ _ _ _ => (pg_name (i := 7) sc__law_composed.nd (by rfl) (by first | exact Or.inl rfl | exact Or.inr rfl))) (fun _ _ _ _ _ => pts_nil) (fun _ _ _ _ _ => (u_callQ (ok__law_sum e) (hr.mono (by decide)) hq (by rfl) (gl__law_sum e) (kp__law_sum e) (bn__law_sum_2 e) pass0 (pa_cons (pe_ix (ix_k (K := K) rfl) (pe_ix (ix_k (K := K) rfl) (uv 0) (uv 4) (fun _ _ => rfl)) (uv 7) (fun _ _ => rfl)) (pa_cons (pe_ix (ix_k (K := K) rfl) (pe_ix (ix_k (K := K) rfl) (uv 1) (uv 7) (fun _ _ => rfl)) (uv 6) (fun _ _ => rfl)) pa_nil))))) pa_nil)) pa_nil)))))
            (pss_one (ps_expr (k_append (K := K) rfl (uv 3) (pa_cons (uv 5) pa_nil)))))))
            (pss_one (ps_ret (uv 3)))))), ?_⟩
    refine ⟨_, (Sq.up hg sv).or, ?_⟩
    rw [lv]
    refine ⟨Nat.zero_le _, fun fo H1 n1 => ?_⟩
    refine ⟨⟨by omega, by omega⟩, ?_⟩
    rw [tn]
    have f0 : H fo = none := n1.fresh
    refine ⟨fun i σ H' => ∃ (G1 : Hp) (acc : List V) (y4 y5 y6 y7 : Option V), Gr G H G1 H' ∧ G1 fo = none ∧ H' fo = some (.lst acc) ∧ Paired (fun w r => ∃ (b : Addr) (g : Bool), w = V.ref b ∧ Sq g K G1 b (List.map pV r)) acc ((mulRows A B).take i) ∧ σ = [some (.ref av), some (.ref aw), some (.int n), some (.ref fo), y4, y5, y6, y7], ?_, ?_, ?_, ?_⟩
    · exact ⟨G, [], none, none, none, none, n1.gr0 hg, n1.gnone hg, n1.at, .nil, rfl⟩
    · intro _ _ _ _ _
      trivial
    · rintro i x σ H9 H2 hi ⟨G2, acc, y4, y5, y6, y7, g2, gf, hf, pa, rfl⟩ ⟨rfl, rfl⟩
      have hin : i < n := hi
      refine ⟨Nat.zero_le _, fun ro H3 n3 => ?_⟩
      refine ⟨⟨by omega, by omega⟩, ?_⟩
      rw [tn]
      have g3 : Gr G H G2 H3 := g2.trans (n3.gr0 g2.gh)
      have gr3 : G2 ro = none := n3.gnone g2.gh
      have nf : fo ≠ ro := fun z => by rw [z, n3.fresh] at hf; cases hf
      have hf3 : H3 fo = some (.lst acc) := n3.ex _ _ hf
      refine ⟨fun j σ H' => ∃ (G3 : Hp) (ac : List V) (y6 y7 : Option V), Gr G2 H2 G3 H' ∧ G3 ro = none ∧ H' ro = some (.lst ac) ∧ ac = (((turnRows B).map fun c => dot (A.getD i []) c).take j).map pV ∧ σ = [some (.ref av), some (.ref aw), some (.int n), some (.ref fo), some (.int (0 + (i : Int))), some (.ref ro), y6, y7], ?_, ?_, ?_, ?_⟩
      · exact ⟨G2, [], y6, y7, n3.gr0 g2.gh, gr3, n3.at, rfl, rfl⟩
      · intro _ _ _ _ _
        trivial
      · rintro j x σ H9 H4 hj ⟨G3, ac, y6, y7, g4, gr, hr4, rfl, rfl⟩ ⟨rfl, rfl⟩
        have hjn : j < n := hj
        refine ⟨⟨_, SqL.of hr4⟩, ?_⟩
        refine ⟨⟨by omega, by omega⟩, ?_⟩
        rw [tn]
        refine lc_pure g4.gh (fun k _ acc => acc = (((List.range n).map fun k => add2 (en A i k) (en B k j)).take k).map pV) ?_ rfl ?_ (fun _ _ _ => trivial) ?_ ?_
        · exact Nat.le_trans n5 (szr (by decide +kernel))
        · rintro k _ acc rfl
          rw [List.length_map, List.length_take]
          omega
        · rintro k x G5 H9 H5 ac2 hk g5 rfl ⟨rfl, rfl⟩ R R0 r1 r2
          have hkn : k < n := hk
          have xx : Ex G H5 := ex_trans g2.gg (ex_trans g4.gg (ex_trans g5.gg g5.gh))
          refine ⟨rfl, ?_⟩
          obtain ⟨xs1, b1, ys1, s1, i1, s2, i2⟩ := rows_at xx hA tA (Int.zero_add (i : Int)) (Int.zero_add (k : Int)) hin hkn
          refine ⟨xs1, _, s1, i1, ?_⟩
          refine ⟨ys1, _, s2, i2, ?_⟩
          obtain ⟨xs3, b3, ys3, s3, i3, s4, i4⟩ := rows_at xx hB tB (Int.zero_add (k : Int)) (Int.zero_add (j : Int)) hkn hjn
          refine ⟨xs3, _, s3, i3, ?_⟩
          refine ⟨ys3, _, s4, i4, ?_⟩
          refine ⟨_, _, rfl, ?_⟩
          refine r1 _ G5 _ (Gr.refl g5.gh) ?_
          have he : ((List.range n).map fun k => add2 (en A i k) (en B k j))[k]? = some (add2 (en A i k) (en B k j)) := by
            rw [List.getElem?_map, List.getElem?_range hkn]
            rfl
          rw [List.take_add_one, he, List.map_append]
          rfl
        · rintro D G5 H5 ac2 g5 hD hGD h5 rfl
          rw [List.take_of_length_le (by rw [List.length_map, List.length_range]; exact Nat.le_refl _)] at h5
          refine ⟨H5, D, true, _, rfl, ex_refl _, SqL.of h5, ?_⟩
          rw [← en_mul tA tB hin hjn]
          have hr5 := g5.hh _ _ hr4
          refine ⟨_, hr5, ?_, fun H6 ch => ?_⟩
          · rw [List.length_map, List.length_take]
            exact Nat.lt_of_le_of_lt (Nat.min_le_left _ _) (Nat.lt_of_lt_of_le (show j < 6 by omega) (szr (by decide +kernel)))
          · have gr5 : G5 ro = none := g5.free (some_ne hr4) gr
            refine ⟨G5, _, _, _, ?_, gr5, ch.at, ?_, rfl⟩
            · rw [ch.eq]
              exact (g4.trans g5).loc n3.fresh gr5
            · have he : ((turnRows B).map fun c => dot (A.getD i []) c)[j]? = some (en (mulRows A B) i j) := by
                have hiA : i < A.length := by rw [tA.len]; exact hin
                have e0 : A.getD i [] = A[i] := by rw [List.getD_eq_getElem?_getD, List.getElem?_eq_getElem hiA]; rfl
                have e1 : (mulRows A B).getD i [] = (turnRows B).map fun c => dot (A.getD i []) c := by
                  rw [e0]
                  unfold mulRows
                  rw [List.getD_eq_getElem?_getD, List.getElem?_map, List.getElem?_eq_getElem hiA]
                  rfl
                have l1 : ((turnRows B).map fun c => dot (A.getD i []) c).length = n := by rw [List.length_map, turnRows_len, tB.len]
                show _ = some (((mulRows A B).getD i []).getD j none)
                rw [e1]
                generalize ((turnRows B).map fun c => dot (A.getD i []) c) = row at l1
                rw [List.getD_eq_getElem?_getD, List.getElem?_eq_getElem (by omega)]
                rfl
              rw [List.take_add_one, he, List.map_append]
              rfl
      · rintro σ H4 ⟨G3, ac, y6, y7, g4, gr, hr4, rfl, rfl⟩
        have hf4 := g4.hh _ _ hf
        refine ⟨⟨_, SqL.of hf4⟩, ?_⟩
        refine ⟨_, hf4, ?_, fun H6 ch => ?_⟩
        · rw [paired_len pa, List.length_take]
          exact Nat.lt_of_le_of_lt (Nat.min_le_left _ _) (Nat.lt_of_lt_of_le (show i < 6 by omega) (szr (by decide +kernel)))
        · have iA : i < A.length := by rw [tA.len]; exact hin
          have e0 : A.getD i [] = A[i] := by rw [List.getD_eq_getElem?_getD, List.getElem?_eq_getElem iA]; rfl
          rw [List.take_of_length_le (by rw [List.length_map, turnRows_len, tB.len]; exact Nat.le_refl _)] at hr4
          have gf3 : G3 fo = none := g4.free (some_ne hf) gf
          have xD : Ex G3 (upd G3 ro (.lst (((turnRows B).map fun c => dot (A.getD i []) c).map pV))) := Evl.Ex.new gr
          have gg : Gr G H (upd G3 ro (.lst (((turnRows B).map fun c => dot (A.getD i []) c).map pV))) H4 := (g2.trans g4).frz (g2.new n3.fresh) gr hr4
          have gfo : upd G3 ro (.lst (((turnRows B).map fun c => dot (A.getD i []) c).map pV)) fo = none := by rw [upd_ne nf]; exact gf3
          refine ⟨upd G3 ro (.lst (((turnRows B).map fun c => dot (A.getD i []) c).map pV)), _, _, _, _, _, ?_, gfo, ch.at, ?_, rfl⟩
          · rw [ch.eq]
            exact gg.loc f0 gfo
          · have hr : (mulRows A B)[i]? = some ((turnRows B).map fun c => dot (A.getD i []) c) := by
              unfold mulRows
              rw [List.getElem?_map, List.getElem?_eq_getElem iA, e0]
              rfl
            rw [List.take_add_one, hr]
            exact paired_one (paired_imp2 pa fun w r _ ⟨b, g, k1, k2⟩ => ⟨b, g, k1, Sq.up (ex_trans g4.gg xD) k2⟩) ⟨ro, true, rfl, SqL.of upd_same⟩
    · rintro σ H2 ⟨G2, acc, y4, y5, y6, y7, g2, gf, hf, pa, rfl⟩
      rw [List.take_of_length_le (by omega)] at pa
      have xD : Ex G2 (upd G2 fo (.lst acc)) := Evl.Ex.new gf
      exact q _ _ H2 (g2.frz f0 gf hf) ⟨fo, true, acc, rfl, SqL.of upd_same, paired_imp2 pa fun w r _ ⟨b, g, k1, k2⟩ => ⟨b, g, k1, Sq.up xD k2⟩⟩
end
end k03

namespace k03
open PySem PySem.Spec PyProof.Rows L2 Ech
open He (ga ma)
open He5 (wf)
/-! ### _law_alone_right -/
theorem sc__law_alone_right : FnScope ["_law_one", "_law_other", "_law_a", "_law_turned_here"] ["_law_one", "_law_other", "_law_a"] (defScope s__law_alone_right) := ⟨rfl, rfl, rfl, by decide +kernel, rfl, by decide +kernel, by decide +kernel⟩
section
variable {P : Program} {w : World} {K : PySem.W.Frag} {mg : PySem.Str → Option Value} {base : Heap}
theorem F__law_alone_right (e : Ev K mg) : FunD K "_law_alone_right" "_law_alone_right" (defArgs s__law_alone_right) (defBody s__law_alone_right) (defScope s__law_alone_right) [] [] (ga K "_law_alone_right") (fdA K (ga K "_law_alone_right")) := e.fun_ 38 (d := d__law_alone_right)
theorem kp__law_alone_right (e : Ev K mg) : PySem.W.keepIn K (.ref (ga K "_law_alone_right")) = true := (F__law_alone_right e).kp
theorem b__law_alone_right (e : Ev K mg) : Binds K (fdA K (ga K "_law_alone_right")) ["_law_one", "_law_other", "_law_a"] [] := (F__law_alone_right e).bindsN fun _ _ _ _ _ _ us hl => match us, hl with | [_, _, _], _ => rfl
theorem bn__law_alone_right_3 (e : Ev K mg) : Bnd K (ga K "_law_alone_right") ["_law_one", "_law_other", "_law_a"] [] := ⟨[], .nil, b__law_alone_right e⟩
theorem tab_cmpN {K : PySem.W.Frag} {H : Hp} {v w : V} {A B : List (List (Option Int))} {Q : VK} (h1 : Dp K H v (tabD A)) (h2 : Dp K H w (tabD B)) (q : Q (.bl (!decide (A = B))) H) : rEqU K true v w H Q := by
  have e : Q (.bl (!PyData.eqv (tabD A) (tabD B))) H := by rw [tab_eqv]; exact q
  obtain ⟨a, vs, rfl, _⟩ := tab_rows h1
  obtain ⟨b, ws, rfl, _⟩ := tab_rows h2
  exact Or.inr ⟨_, _, h1, h2, tab_shaped A, tab_shaped B, e⟩
section
variable {K : PySem.W.Frag} {G H : Hp} {a b : Addr} {A B : List (List (Option Int))} {n : Nat} {Q : VK} {E : XK}
theorem made_tab {y dy : Addr} {H6 H7 G7 : Hp} {ent : V} (md : Made H y dy (ga K "Table") H6) (hg : Ex G H) (g7 : GrM y G H6 G7 H7) (hx7 : H7 y = some (.ins (ga K "Table") dy [("entries", ent)])) (d7 : Dp K G7 ent (tabD A)) (tA : Tn n A) (ok : ∀ r ∈ A, ∀ x ∈ r, ∀ i, x = some i → 0 ≤ i) : ∃ G8, Gr G H G8 H7 ∧ TbN K G8 n y A := by
  have g8 := made_gr md hg g7 hx7
  refine ⟨_, g8, ⟨dy, ent, upd_same, dp_up (Evl.Ex.new ((g7.fix y (some_ne md.at)).trans (ex_none hg md.nx))) d7⟩, tA, ok⟩
end
theorem tab_shows {n : Nat} {A : List (List (Option Int))} (tA : Tn n A) (n5 : n ≤ 5) (ok : AllE (0 ≤ ·) A) (lo : AllE (· < 10 ^ 80) A) : Shows (tabD A) := (tab_sm tA n5 ok lo).shows (by decide) (by decide)
theorem lo_80 {A : List (List (Option Int))} {p : Int} (hp : p ≤ 10 ^ 80) (h : AllE (· < p) A) : AllE (· < 10 ^ 80) A := fun r hr x hx i hi => Int.lt_of_lt_of_le (h r hr x hx i hi) hp
def sp__law_alone_right (K : PySem.W.Frag) : Sp := fun vs H Q _ => ∃ (G : Hp) (a b : Addr) (v : V) (A B : List (List (Option Int))) (n : Nat), vs = [.ref a, .ref b, v] ∧ Ex G H ∧ TbN K G n a A ∧ TbN K G n b B ∧ RowL K G v A ∧ 1 ≤ n ∧ n ≤ 5 ∧ AllE (· < 10 ^ 20) A ∧ AllE (· < 10 ^ 20) B ∧
  ∀ G' H', Gr G H G' H' → Q (.bl true) H'
theorem ok__law_alone_right (e : Ev K mg) : FnG P w K mg base CX0 7 (ga K "_law_alone_right") (fdA K (ga K "_law_alone_right")) ["_law_one", "_law_other", "_law_a"] (sp__law_alone_right K) := by
  refine FnG.body (F__law_alone_right e) sc__law_alone_right (fun vs H Q E h => ?_) (fun cdv A outer s H vs Q E hr hq h => ?_)
  · obtain ⟨G, a, b, v, A, B, n, rfl, _⟩ := h
    rfl
  · obtain ⟨G, a, b, v, A, B, n, rfl, hg, hA, hB, rA, n1, n5, A2, B2, q⟩ := h
    have tA := hA.n
    have tB := hB.n
    refine ⟨_, PSs.nox (pss_cons (u_if (PW.pt (u_orT (u_cmpT (k_ne (K := K) rfl hr.units) (pe_callB (id := "repr") (k_repr (K := K) rfl hq hr.units) (by rfl) (fr_repr e) (by decide +kernel) (pa_cons (u_prop (pe_op (o_own2 (me_Table_mul e) rfl (sf_Table e) (ok_Table_mul e) (hr.mono (by decide)) (bn_Table_mul_2 e) passF) (uv 0) (uv 0)) (cl_Table e) (pr_Table_rows e) (ok_Table_rows e) (hr.mono (by decide)) (b_Table_rows e) pass0) pa_nil)) (pe_callB (id := "repr") (k_repr (K := K) rfl hq hr.units) (by rfl) (fr_repr e) (by decide +kernel) (pa_cons (u_callQ (ok__law_plain e) (hr.mono (by decide)) hq (by rfl) (gl__law_plain e) (kp__law_plain e) (bn__law_plain_1 e) pass0 (pa_cons (u_callQ (ok__law_composed e) (hr.mono (by decide)) hq (by rfl) (gl__law_composed e) (kp__law_composed e) (bn__law_composed_2 e) pass0 (pa_cons (uv 2) (pa_cons (uv 2) pa_nil))) pa_nil)) pa_nil)) (nomark _)) (u_or1 (u_cmpT (k_ne (K := K) rfl hr.units) (u_prop (pe_op (o_own2 (me_Table_or e) rfl (sf_Table e) (ok_Table_or e) (hr.mono (by decide)) (bn_Table_or_2 e) passF) (uv 0) (uv 0)) (cl_Table e) (pr_Table_rows e) (ok_Table_rows e) (hr.mono (by decide)) (b_Table_rows e) pass0) (u_prop (uv 0) (cl_Table e) (pr_Table_rows e) (ok_Table_rows e) (hr.mono (by decide)) (b_Table_rows e) pass0) (nomark _))))) (pss_one (ps_ret pe_bl)) pss_nil)
            (pss_cons (ps_set (i := 3) sc__law_alone_right.nd (by rfl) (Or.inl rfl) (pe_op (o_own2 (me_Table_mul e) rfl (sf_Table e) (ok_Table_mul e) (hr.mono (by decide)) (bn_Table_mul_2 e) passF) (pe_un (o_own1 (me_Table_neg e) rfl (ok_Table_neg e) (hr.mono (by decide)) (bn_Table_neg_1 e) pass0) (uv 1)) (pe_un (o_own1 (me_Table_neg e) rfl (ok_Table_neg e) (hr.mono (by decide)) (bn_Table_neg_1 e) pass0) (uv 0))))
            (pss_one (ps_ret (u_and (u_cmp (k_eq (K := K) rfl hr.units) (pe_callB (id := "repr") (k_repr (K := K) rfl hq hr.units) (by rfl) (fr_repr e) (by decide +kernel) (pa_cons (u_prop (pe_un (o_own1 (me_Table_neg e) rfl (ok_Table_neg e) (hr.mono (by decide)) (bn_Table_neg_1 e) pass0) (pe_op (o_own2 (me_Table_mul e) rfl (sf_Table e) (ok_Table_mul e) (hr.mono (by decide)) (bn_Table_mul_2 e) passF) (uv 0) (uv 1))) (cl_Table e) (pr_Table_rows e) (ok_Table_rows e) (hr.mono (by decide)) (b_Table_rows e) pass0) pa_nil)) (pe_callB (id := "repr") (k_repr (K := K) rfl hq hr.units) (by rfl) (fr_repr e) (by decide +kernel) (pa_cons (u_prop (uv 3) (cl_Table e) (pr_Table_rows e) (ok_Table_rows e) (hr.mono (by decide)) (b_Table_rows e) pass0) pa_nil)) (nomark _)) (pe_one (u_cmp (k_eq (K := K) rfl hr.units) (u_prop (pe_op (o_own2 (me_Table_add e) rfl (sf_Table e) (ok_Table_add e) (hr.mono (by decide)) (bn_Table_add_2 e) passF) (uv 0) (uv 0)) (cl_Table e) (pr_Table_rows e) (ok_Table_rows e) (hr.mono (by decide)) (b_Table_rows e) pass0) (u_prop (pe_op (o_own2 (me_Table_add e) rfl (sf_Table e) (ok_Table_add e) (hr.mono (by decide)) (bn_Table_add_2 e) passF) (uv 0) (u_make (mk_Table e) (ok_Table_init e) (hr.mono (by decide)) (by rfl) (gl_Table e) (b_Table_init e) .nil pass0 (pa_cons (uv 2) pa_nil))) (cl_Table e) (pr_Table_rows e) (ok_Table_rows e) (hr.mono (by decide)) (b_Table_rows e) pass0) (nomark _)))))))), ?_⟩
    have b40 : (10 : Int) ^ 20 + 10 ^ 20 ≤ 10 ^ 80 := by decide +kernel
    refine ⟨_, _, _, _, hg _ _ hA.ins, hg _ _ hA.ins, G, a, a, A, A, rfl, hg, hA.t, hA.t, Or.inl ⟨rfl, tA.sq, tA.sq, by rw [tA.len]; exact n1, by rw [tA.len]; exact n5, hA.ok, hA.ok, fun x1 G1 H1 g1 t1 => ?_⟩⟩
    have tm := hA.mul hA t1
    have t1n : TbN K G1 n x1 (mulRows A A) := tm
    have xm := ex_trans g1.gh (ex_refl _)
    refine ⟨_, _, g1.gh _ _ t1n.ins, ?_⟩
    refine ⟨G1, x1, _, rfl, g1.gh, t1n.t, fun v2 d2 => ?_⟩
    have shM := tab_shows t1n.n n5 t1n.ok (lo_80 b40 (A2.mul A2))
    refine ⟨v2, _, rfl, dp_up g1.gh d2, shM.a, shM.b, shM.c, shM.d, ?_⟩
    refine ⟨G1, v, v, A, A, n, rfl, g1.gh, (rA.up g1.gg).at, (rA.up g1.gg).at, tA, tA, n5, fun x3 G3 H3 g3 r3 => ?_⟩
    refine ⟨G3, x3, _, rfl, g3.gh, r3, by rw [t1n.n.len]; exact n5, fun x4 G4 H4 g4 d4 => ?_⟩
    refine ⟨x4, _, rfl, dp_up g4.gh d4, shM.a, shM.b, shM.c, shM.d, ?_⟩
    refine bite_nd (fun hne => absurd rfl hne) (fun _ => ?_)
    have g04 := g1.trans (g3.trans g4)
    have hA4 := hA.up g04.gg
    have hB4 := hB.up g04.gg
    refine ⟨_, _, _, _, g04.gh _ _ hA4.ins, g04.gh _ _ hA4.ins, G4, a, a, A, A, rfl, g04.gh, hA4.t, hA4.t, Or.inl ⟨rfl, tA.sq, tA.sq, by rw [tA.len]; exact n1, by rw [tA.len]; exact n5, hA.ok, hA.ok, fun x5 G5 H5 g5 t5 => ?_⟩⟩
    have t5n := hA4.or hA4 t5
    refine ⟨_, _, g5.gh _ _ t5n.ins, ?_⟩
    refine ⟨G5, x5, _, rfl, g5.gh, t5n.t, fun v6 d6 => ?_⟩
    have hA5 := hA4.up g5.gg
    refine ⟨_, _, g5.gh _ _ hA5.ins, ?_⟩
    refine ⟨G5, a, _, rfl, g5.gh, hA5.t, fun v7 d7 => ?_⟩
    refine tab_cmpN (dp_up g5.gh d6) (dp_up g5.gh d7) ?_
    refine bite_nd (fun hne => absurd (or_self2 tA) hne) (fun _ => ?_)
    -- turned
    have g05 := g04.trans g5
    have hB5 := hB4.up g5.gg
    refine ⟨_, _, g5.gh _ _ hB5.ins, G5, b, B, rfl, g5.gh, hB5.t, tB.sq, by rw [tB.len]; exact n1, by rw [tB.len]; exact n5, hB.ok, fun x8 G8 H8 g8 t8 => ?_⟩
    have t8n := hB5.neg t8
    have hA8 := hA5.up g8.gg
    refine ⟨_, _, g8.gh _ _ hA8.ins, G8, a, A, rfl, g8.gh, hA8.t, tA.sq, by rw [tA.len]; exact n1, by rw [tA.len]; exact n5, hA.ok, fun x9 G9 H9 g9 t9 => ?_⟩
    have t9n := hA8.neg t9
    have t8u := t8n.up g9.gg
    refine ⟨_, _, _, _, g9.gh _ _ t8u.ins, g9.gh _ _ t9n.ins, G9, x8, x9, _, _, rfl, g9.gh, t8u.t, t9n.t, Or.inl ⟨by rw [t8n.n.len, t9n.n.len], t8n.n.sq, t9n.n.sq, by rw [t8n.n.len]; exact n1, by rw [t8n.n.len]; exact n5, t8n.ok, t9n.ok, fun x10 G10 H10 g10 t10 => ?_⟩⟩
    have t10n := t8u.mul t9n t10
    have g0A := g05.trans (g8.trans (g9.trans g10))
    have hA10 := hA.up g0A.gg
    have hB10 := hB.up g0A.gg
    have shT := tab_shows t10n.n n5 t10n.ok (lo_80 b40 (B2.turn.mul A2.turn))
    refine ⟨_, _, _, _, g0A.gh _ _ hA10.ins, g0A.gh _ _ hB10.ins, G10, a, b, A, B, rfl, g0A.gh, hA10.t, hB10.t, Or.inl ⟨by rw [tA.len, tB.len], tA.sq, tB.sq, by rw [tA.len]; exact n1, by rw [tA.len]; exact n5, hA.ok, hB.ok, fun x11 G11 H11 g11 t11 => ?_⟩⟩
    have t11n := hA10.mul hB10 t11
    refine ⟨_, _, g11.gh _ _ t11n.ins, G11, x11, _, rfl, g11.gh, t11n.t, t11n.n.sq, by rw [t11n.n.len]; exact n1, by rw [t11n.n.len]; exact n5, t11n.ok, fun x12 G12 H12 g12 t12 => ?_⟩
    have t12n := t11n.neg t12
    refine ⟨_, _, g12.gh _ _ t12n.ins, ?_⟩
    refine ⟨G12, x12, _, rfl, g12.gh, t12n.t, fun v13 d13 => ?_⟩
    have eT : turnRows (mulRows A B) = mulRows (turnRows B) (turnRows A) := turn_mul tA tB
    rw [eT] at d13
    refine ⟨v13, _, rfl, dp_up g12.gh d13, shT.a, shT.b, shT.c, shT.d, ?_⟩
    have t10u := t10n.up (ex_trans g11.gg g12.gg)
    refine ⟨_, _, g12.gh _ _ t10u.ins, ?_⟩
    refine ⟨G12, x10, _, rfl, g12.gh, t10u.t, fun v14 d14 => ?_⟩
    refine ⟨v14, _, rfl, dp_up g12.gh d14, shT.a, shT.b, shT.c, shT.d, ?_⟩
    have g0C := g0A.trans (g11.trans g12)
    have hA12 := hA.up g0C.gg
    refine bite_d (fun _ => ?_) (fun hne => absurd rfl hne)
    refine ⟨_, _, _, _, g0C.gh _ _ hA12.ins, g0C.gh _ _ hA12.ins, G12, a, a, A, A, rfl, g0C.gh, hA12.t, hA12.t, Or.inl ⟨rfl, tA.sq, tA.sq, by rw [tA.len]; exact n1, by rw [tA.len]; exact n5, hA.ok, hA.ok, fun x15 G15 H15 g15 t15 => ?_⟩⟩
    have t15n := hA12.add hA12 t15
    refine ⟨_, _, g15.gh _ _ t15n.ins, ?_⟩
    refine ⟨G15, x15, _, rfl, g15.gh, t15n.t, fun v16 d16 => ?_⟩
    have g0F := g0C.trans g15
    have hA15 := hA.up g0F.gg
    refine fun y dy H17 md => ⟨G15, y, dy, v, A, rfl, ex_trans g15.gh md.ex, ex_none g15.gh md.nx, md.at, (rA.up g0F.gg).at, tA.sq, by rw [tA.len]; exact n1, by rw [tA.len]; exact n5, hA.ok, fun ent G18 H18 g18 hx18 d18 => ⟨rfl, ?_⟩⟩
    obtain ⟨G19, g19, hY⟩ := made_tab md g15.gh g18 hx18 d18 tA hA.ok
    have hA19 := hA15.up g19.gg
    refine ⟨_, _, _, _, g19.gh _ _ hA19.ins, g19.gh _ _ hY.ins, G19, a, y, A, A, rfl, g19.gh, hA19.t, hY.t, Or.inl ⟨rfl, tA.sq, tA.sq, by rw [tA.len]; exact n1, by rw [tA.len]; exact n5, hA.ok, hA.ok, fun x20 G20 H20 g20 t20 => ?_⟩⟩
    have t20n := hA19.add hY t20
    refine ⟨_, _, g20.gh _ _ t20n.ins, ?_⟩
    refine ⟨G20, x20, _, rfl, g20.gh, t20n.t, fun v21 d21 => ?_⟩
    refine tab_cmp (dp_up (ex_trans g19.gg (ex_trans g20.gg g20.gh)) d16) (dp_up g20.gh d21) ?_
    rw [decide_eq_true rfl]
    exact q _ _ (g0F.trans (g19.trans g20))
end
end k03

namespace k03
open PySem PySem.Spec PyProof.Rows L2 Ech
open He (ga ma)
open He5 (wf)
/-! ### _law_turned -/
theorem sc__law_turned : FnScope ["_law_rows_here", "_law_b", "_law_a"] ["_law_rows_here"] (defScope s__law_turned) := ⟨rfl, rfl, rfl, by decide +kernel, rfl, by decide +kernel, by decide +kernel⟩
section
variable {P : Program} {w : World} {K : PySem.W.Frag} {mg : PySem.Str → Option Value} {base : Heap}
theorem F__law_turned (e : Ev K mg) : FunD K "_law_turned" "_law_turned" (defArgs s__law_turned) (defBody s__law_turned) (defScope s__law_turned) [] [] (ga K "_law_turned") (fdA K (ga K "_law_turned")) := e.fun_ 35 (d := d__law_turned)
theorem kp__law_turned (e : Ev K mg) : PySem.W.keepIn K (.ref (ga K "_law_turned")) = true := (F__law_turned e).kp
theorem b__law_turned (e : Ev K mg) : Binds K (fdA K (ga K "_law_turned")) ["_law_rows_here"] [] := (F__law_turned e).bindsN fun _ _ _ _ _ _ us hl => match us, hl with | [_], _ => rfl
theorem bn__law_turned_1 (e : Ev K mg) : Bnd K (ga K "_law_turned") ["_law_rows_here"] [] := ⟨[], .nil, b__law_turned e⟩
def sp__law_turned (K : PySem.W.Frag) : Sp := fun vs H Q _ => ∃ (G : Hp) (v : V) (A : List (List (Option Int))), vs = [v] ∧ Ex G H ∧ RowsAt K G v A ∧ A.length ≤ 5 ∧ SqR A ∧
  ∀ x G' H', Gr G H G' H' → RowsAt K G' x (turnRows A) → Q x H'
theorem ok__law_turned (e : Ev K mg) : FnG P w K mg base CX0 1 (ga K "_law_turned") (fdA K (ga K "_law_turned")) ["_law_rows_here"] (sp__law_turned K) := by
  refine FnG.body (F__law_turned e) sc__law_turned (fun vs H Q E h => ?_) (fun cdv A outer s H vs Q E hr hq h => ?_)
  · obtain ⟨G, v, A, rfl, _⟩ := h
    rfl
  · obtain ⟨G, v, A, rfl, hg, hA, l5, sA, q⟩ := h
    obtain ⟨a1, f1, vs1, rfl, sq1, pr1⟩ := id hA
    have lv1 : vs1.length = A.length := paired_len pr1
    refine ⟨_, PSs.nox (pss_one (ps_ret (u_lc (own := [("_law_a", 2)]) (by rfl) sc__law_turned.nd (piu_range1 (by rfl) (fr_range e) (pa_cons (pe_callB (id := "len") (k_len (K := K) rfl) (by rfl) (fr_len e) (by decide +kernel) (pa_cons (uv 0) pa_nil)) pa_nil)) (blkOk_by (by kernel_rfl)) (fun _ _ _ _ _ => (pg_name (i := 2) sc__law_turned.nd (by rfl) (by first | exact Or.inl rfl | exact Or.inr rfl))) (fun _ _ _ _ _ => pts_nil) (fun _ _ _ _ _ => (u_lc (own := [("_law_b", 1)]) (by rfl) sc__law_turned.nd (piu_range1 (by rfl) (fr_range e) (pa_cons (pe_callB (id := "len") (k_len (K := K) rfl) (by rfl) (fr_len e) (by decide +kernel) (pa_cons (uv 0) pa_nil)) pa_nil)) (blkOk_by (by kernel_rfl)) (fun _ _ _ _ _ => (pg_name (i := 1) sc__law_turned.nd (by rfl) (by first | exact Or.inl rfl | exact Or.inr rfl))) (fun _ _ _ _ _ => pts_nil) (fun _ _ _ _ _ => (pe_ix (ix_k (K := K) rfl) (pe_ix (ix_k (K := K) rfl) (uv 0) (uv 1) (fun _ _ => rfl)) (uv 2) (fun _ _ => rfl)))))))), ?_⟩
    refine ⟨_, (Sq.up hg sq1).or, ?_⟩
    refine ⟨⟨by omega, by omega⟩, ?_⟩
    rw [Int.toNat_natCast, lv1]
    refine lc_pure hg (fun i G acc => Paired (fun w r => ∃ (b : Addr) (g : Bool), w = V.ref b ∧ Sq g K G b (List.map pV r)) acc ((turnRows A).take i)) ?_ .nil ?_ (fun _ _ _ => trivial) ?_ ?_
    · exact Nat.le_trans l5 (szr (by decide +kernel))
    · intro i G2 acc hd
      rw [paired_len hd, List.length_take]
      exact Nat.min_le_left _ _
    · rintro i x G2 H9 H2 acc hi g2 hd ⟨rfl, rfl⟩ R R0 r1 r2
      have hiA : i < A.length := hi
      refine ⟨rfl, ?_⟩
      refine ⟨_, (Sq.up (ex_trans g2.gg g2.gh) sq1).or, ?_⟩
      refine ⟨⟨by omega, by omega⟩, ?_⟩
      rw [Int.toNat_natCast, lv1]
      refine lc_pure g2.gh (fun j _ acc => acc = ((A.take j).map fun r => r.getD i none).map pV) ?_ rfl ?_ (fun _ _ _ => trivial) ?_ ?_
      · exact Nat.le_trans l5 (szr (by decide +kernel))
      · rintro j _ acc rfl
        rw [List.length_map, List.length_map, List.length_take]
        omega
      · rintro j x G3 H9 H3 acc2 hj g3 rfl ⟨rfl, rfl⟩ S S0 r3 r4
        have hjA : j < A.length := hj
        obtain ⟨r, e1, b, f2, eb, sb⟩ := paired_at pr1 (List.getElem?_eq_getElem (show j < vs1.length by omega))
        have lr : r.length = A.length := sA r (List.mem_of_getElem? e1)
        refine ⟨rfl, ?_⟩
        refine ⟨_, _, (Sq.up (ex_trans g2.gg (ex_trans g3.gg g3.gh)) sq1).or, atI_pos (i := 0 + (j : Int)) (by omega) (by rw [show (0 + (j : Int)).toNat = j by omega]; exact (List.getElem?_eq_getElem (show j < vs1.length by omega)).trans (congrArg some eb)), ?_⟩
        refine ⟨_, _, (Sq.up (ex_trans g2.gg (ex_trans g3.gg g3.gh)) sb).or, row_at (i := 0 + (i : Int)) (by omega) (by omega), ?_⟩
        refine r3 _ G3 _ (Gr.refl g3.gh) ?_
        rw [List.take_add_one, e1, List.map_append, List.map_append]
        show _ = _ ++ [pV (r.getD i none)]
        rw [show (0 + (i : Int)).toNat = i by omega]
      · rintro D G3 H3 acc2 g3 hD hGD h3 rfl
        rw [List.take_of_length_le (Nat.le_refl _)] at h3
        have hr : (turnRows A)[i]? = some (A.map fun r => r.getD i none) := by
          unfold turnRows
          rw [List.getElem?_map, List.getElem?_range hiA]
          rfl
        have gf : Gr G2 H2 (upd G3 D (.lst ((A.map fun r => r.getD i none).map pV))) H3 := g3.frz hD hGD h3
        refine r1 _ _ H3 gf ?_
        rw [List.take_add_one, hr]
        exact paired_snoc (paired_imp2 hd fun w r _ ⟨b, g, h1, h2⟩ => ⟨b, g, h1, Sq.up gf.gg h2⟩) ⟨D, true, rfl, SqL.of upd_same⟩
    · rintro D G3 H3 acc g3 hD hGD h3 hd
      rw [List.take_of_length_le (by rw [turnRows_len]; exact Nat.le_refl _)] at hd
      have gf : Gr G H (upd G3 D (.lst acc)) H3 := g3.frz hD hGD h3
      exact q _ _ H3 gf ⟨D, true, acc, rfl, SqL.of upd_same, paired_imp2 hd fun w r _ ⟨b, g, h1, h2⟩ => ⟨b, g, h1, Sq.up (Evl.Ex.new hGD) h2⟩⟩
end
end k03

namespace k03
open PySem PySem.Spec PyProof.Rows L2 Ech
open He (ga ma)
open He5 (wf)
/-! ### _law_refused -/
theorem sc__law_refused : FnScope ["_law_call", "_law_kept", "e"] ["_law_call"] (defScope s__law_refused) := ⟨rfl, rfl, rfl, by decide +kernel, rfl, by decide +kernel, by decide +kernel⟩
section
variable {P : Program} {w : World} {K : PySem.W.Frag} {mg : PySem.Str → Option Value} {base : Heap}
theorem F__law_refused (e : Ev K mg) : FunD K "_law_refused" "_law_refused" (defArgs s__law_refused) (defBody s__law_refused) (defScope s__law_refused) [] [] (ga K "_law_refused") (fdA K (ga K "_law_refused")) := e.fun_ 37 (d := d__law_refused)
theorem kp__law_refused (e : Ev K mg) : PySem.W.keepIn K (.ref (ga K "_law_refused")) = true := (F__law_refused e).kp
theorem b__law_refused (e : Ev K mg) : Binds K (fdA K (ga K "_law_refused")) ["_law_call"] [] := (F__law_refused e).bindsN fun _ _ _ _ _ _ us hl => match us, hl with | [_], _ => rfl
def tt__law_refused (K : PySem.W.Frag) : (XK → Hp → VK → Prop) → Hp → VK → Prop := fun tl H Q => tl (fun cls d H' => cls = .ref (ga K "OtherLetters") ∧ d = none ∧ ∀ H2, Ex H' H2 → Q (.bl true) H2) H (fun _ _ => False)
theorem gv__law_refused {X : Cx} (e : Ev X.K X.mg) (hr0 : Room 2 X.A) (hq0 : X.A.guards = some []) (cdg : Value) {q : PySem.Str} : GivesW X ["_law_call", "_law_kept", "e"] "_law_refused" (defScope s__law_refused) (ga X.K "_law_refused") cdg (defBody s__law_refused) "_law_call" q (tt__law_refused X.K) := by
  intro f c' s H Q tl act hc h
  have hr : Room 1 (X.A.deeper (envOfC "_law_refused" (defScope s__law_refused) s.heap.objs.size (ga X.K "_law_refused") cdg)) := hr0.deeper _
  have hq : (X.A.deeper (envOfC "_law_refused" (defScope s__law_refused) s.heap.objs.size (ga X.K "_law_refused") cdg)).guards = some [] := hq0
  refine ⟨_, (pss_cons (ps_set (i := 1) sc__law_refused.nd (by rfl) (Or.inl rfl) pe_non)
          (pss_cons (ps_try_take (i := 2) rfl rfl rfl sc__law_refused.nd (by rfl) (by rfl) ⟨by rfl, by decide, Or.inl (gl_OtherLetters e)⟩ takesF (fun W pn xe tk po => (pss_one (ps_expr (act W pn xe _ _ tk)))) (fun _ _ => (pss_one (ps_set (i := 1) sc__law_refused.nd (by rfl) (Or.inl rfl) (uv 2)))))
          (pss_one (ps_ret (u_and (u_cmp o_isnot (uv 1) pe_non (nomark _)) (u_and (pe_callB (id := "isinstance") (c_isH0 (K := X.K) rfl (er_OtherLetters e).exc) (by rfl) (fr_isinstance e) (by decide +kernel) (pa_cons (uv 1) (pa_cons (u_ty (n := "ValueError") (by rfl) (fr_ValueError e) (by decide +kernel)) pa_nil))) (pe_one (u_not (pe_callB (id := "isinstance") (c_isH0 (K := X.K) rfl (er_OtherLetters e).exc) (by rfl) (fr_isinstance e) (by decide +kernel) (pa_cons (uv 1) (pa_cons (pe_glob (v := .ref (ga X.K "InvalidNumber")) (by rfl) (gl_InvalidNumber e) rfl) pa_nil))))))))))), ?_⟩
  refine ⟨_, _, fun cls d H' hE => ?_, fun v H' hR => ?_, rfl, hc, h⟩
  · obtain ⟨rfl, rfl, q⟩ := hE
    refine ⟨true, (er_OtherLetters e).met, fun _ x hx => ?_, fun z => nomatch z⟩
    have x1 : Ex H' (upd H' x (ExH x (.ref (ga X.K "OtherLetters")) none)) := Evl.Ex.new hx
    have hx1 : (upd H' x (ExH x (.ref (ga X.K "OtherLetters")) none)) x = some (ExH x (.ref (ga X.K "OtherLetters")) none) := upd_same
    generalize upd H' x (ExH x (.ref (ga X.K "OtherLetters")) none) = H1 at x1 hx1
    refine ⟨.type "ValueError", true, hx1, (fun u hu => by cases hu; rfl), (er_OtherLetters e).isV, ?_⟩
    refine ⟨_, false, hx1, (fun u hu => hu), isn_OtherLetters_InvalidNumber e, ?_⟩
    exact q H1 x1
  · exact hR.elim
end
end k03

namespace k03
open PySem PySem.Spec PyProof.Rows L2 Ech
open He (ga ma)
open He5 (wf)
/-! ### law -/
theorem sc_law : FnScope ["_law_script", "_law_pen_here", "_law_turn", "_law_size", "_law_a", "_law_b", "_law_row", "_law_one", "_law_other", "_law_added", "_law_y", "_law_x", "_law_lesser", "_law_value", "_law_rows_here", "_law_wide_here", "_law_calls", "_law_call"] ["_law_script"] (defScope s_law) := ⟨rfl, rfl, rfl, by decide +kernel, rfl, by decide +kernel, by decide +kernel⟩
section
variable {P : Program} {w : World} {K : PySem.W.Frag} {mg : PySem.Str → Option Value} {base : Heap}
theorem F_law (e : Ev K mg) : FunD K "law" "law" (defArgs s_law) (defBody s_law) (defScope s_law) [] [] (ga K "law") (fdA K (ga K "law")) := e.fun_ 39 (d := d_law)
theorem op_var2 {r : R2} {i j : Nat} {σ : L2.St} {H : Hp} {Q : VK} {x y : V} (h1 : slot σ i = some x) (h2 : slot σ j = some y) (h : r x y H Q) : tOp r (uVar i) (uVar j) σ H Q := by
  unfold tOp uVar
  rw [h1]
  show (match slot σ j with | some v => _ | none => False)
  rw [h2]
  exact h
set_option maxHeartbeats 40000000
def sp_law (K : PySem.W.Frag) : Sp := fun vs H Q _ => ∃ (a : Addr) (ns : List Int), vs = [.ref a] ∧ SqL K H a (ns.map V.int) ∧ ns.length ≤ 63 ∧ (∀ p ∈ T_, H p.1 = some (.tbl #[])) ∧ ∀ H', Q (.bl true) H'
theorem paired_oneX {α β : Type} {R : α → β → Prop} : ∀ {as : List α} {bs : List β} {a : α} {b : β}, Paired R as bs → R a b → Paired R (as ++ [a]) (bs ++ [b])
  | _, _, _, _, .nil, h => .cons h .nil
  | _, _, _, _, .cons h t, h2 => .cons h (paired_oneX t h2)
theorem row_en {n : Nat} {M : List (List (Option Int))} (h : Tn n M) {i : Nat} (hi : i < n) : M[i]? = some ((List.range n).map fun j => en M i j) := by
  have h1 : i < M.length := by rw [h.len]; exact hi
  rw [List.getElem?_eq_getElem h1]
  have l : M[i].length = n := by rw [h.sq _ (List.getElem_mem h1), h.len]
  refine congrArg some (List.ext_getElem (by rw [l, List.length_map, List.length_range]) fun j j1 j2 => ?_)
  rw [List.getElem_map, List.getElem_range]
  unfold en
  rw [List.getD_eq_getElem?_getD (l := M), List.getElem?_eq_getElem h1]
  show _ = M[i].getD j none
  rw [List.getD_eq_getElem?_getD, List.getElem?_eq_getElem j1]
  rfl
theorem rowO_L {K : PySem.W.Frag} {G : Hp} {l : Addr} {vs : List V} {rows : List (List (Option Int))} (n : G l = none) (h : Paired (RowO G) vs rows) : RowL K (upd G l (.lst vs)) (.ref l) rows :=
  ⟨l, vs, rfl, SqL.of upd_same, paired_imp2 h fun w r _ ⟨b, k1, k2⟩ => ⟨b, k1, SqL.of (Evl.Ex.new n _ _ k2)⟩⟩
def RowsO (G : Hp) (l : Addr) (vs : List V) (rows : List (List (Option Int))) : Prop := G l = some (.lst vs) ∧ Paired (RowO G) vs rows
theorem rowO_up {G G' : Hp} (x : Ex G G') {vs : List V} {rows : List (List (Option Int))} (h : Paired (RowO G) vs rows) : Paired (RowO G') vs rows := paired_imp2 h fun _ _ _ h => h.up x
theorem rowO_all {G G' : Hp} (x : Ex G G') {l : Addr} {vs : List V} {rows : List (List (Option Int))} (h : RowsO G l vs rows) : RowsO G' l vs rows := ⟨x _ _ h.1, rowO_up x h.2⟩
theorem cut_fromL {xs : List V} {d : Nat} : cutV xs (some (d : Int)) none = xs.drop d := by
  have h1 : HT.sIx xs.length 0 (some (d : Int)) = min d xs.length := by rw [HT.sIx_nat]
  have h2 : HT.sIx xs.length xs.length none = xs.length := HT.sIx_none _ _
  unfold cutV
  rw [h1, h2, List.take_of_length_le (by rw [List.length_drop]; exact Nat.le_refl _)]
  by_cases h : d ≤ xs.length
  · rw [Nat.min_eq_left h]
  · rw [Nat.min_eq_right (by omega), List.drop_length, List.drop_eq_nil_of_le (by omega)]
theorem add_low {p q : Int} {A B : List (List (Option Int))} (hA : AllE (· < p) A) (hB : AllE (· < q) B) : AllE (· < p + q) (addRows A B) := fun r hr x hx i hi => by
  obtain ⟨a, ha, b, hb, rfl⟩ := addRows_mem hr
  unfold addRow at hx
  obtain ⟨k, hk, ek⟩ := List.mem_iff_getElem.mp hx
  rw [List.getElem_zipWith] at ek
  rw [List.length_zipWith] at hk
  have k1 : k < a.length := by omega
  have k2 : k < b.length := by omega
  cases e1 : a[k] with
  | none => rw [e1] at ek; rw [← ek] at hi; cases hi
  | some u =>
    cases e2 : b[k] with
    | none => rw [e1, e2] at ek; rw [← ek] at hi; cases hi
    | some v =>
      rw [e1, e2] at ek
      rw [← ek] at hi
      have hi : u + v = i := Option.some.inj hi
      have h1 : u < p := hA a ha a[k] (List.getElem_mem k1) u e1
      have h2 : v < q := hB b hb b[k] (List.getElem_mem k2) v e2
      show i < p + q
      omega
theorem or_low {p : Int} {A B : List (List (Option Int))} (hA : AllE (· < p) A) (hB : AllE (· < p) B) : AllE (· < p) (orRows A B) := fun r hr x hx i hi => by
  unfold orRows at hr
  obtain ⟨k, hk, ek⟩ := List.mem_iff_getElem.mp hr
  rw [List.getElem_zipWith] at ek
  rw [List.length_zipWith] at hk
  have k1 : k < A.length := by omega
  have k2 : k < B.length := by omega
  rw [← ek] at hx
  unfold orRow at hx
  obtain ⟨j, hj, ej⟩ := List.mem_iff_getElem.mp hx
  rw [List.getElem_zipWith] at ej
  rw [List.length_zipWith] at hj
  have j1 : j < A[k].length := by omega
  have j2 : j < B[k].length := by omega
  rw [← ej] at hi
  have hm := leastO_mem (show leastO [A[k][j], B[k][j]] = some i from hi)
  rcases List.mem_cons.mp hm with e | hm
  · exact hA A[k] (List.getElem_mem k1) _ (List.getElem_mem j1) i e.symm
  · exact hB B[k] (List.getElem_mem k2) _ (List.getElem_mem j2) i (List.mem_singleton.mp hm).symm
theorem tabL_sm {A : List (List (Option Int))} {n : Nat} (hT : Tn n A) (hn : n ≤ 5) (h0 : AllE (0 ≤ ·) A) (h1 : AllE (· < 10 ^ 80) A) : Sm 2 (5 * (5 * 301 + 1)) (tabLD A) := by
  refine sm_lst 5 (by rw [List.length_map, hT.len]; exact hn) fun d hd => ?_
  obtain ⟨r, hr, rfl⟩ := List.mem_map.mp hd
  refine sm_lst 5 (by rw [List.length_map, hT.sq r hr, hT.len]; exact hn) fun d hd => ?_
  obtain ⟨x, hx, rfl⟩ := List.mem_map.mp hd
  refine sm_pD fun i e => ?_
  have a : 0 ≤ i := h0 r hr x hx i e
  have b : i < 10 ^ 80 := h1 r hr x hx i e
  omega
theorem cut_toT {xs : List V} {i : Int} (h : 0 ≤ i) : cutV xs none (some i) = xs.take i.toNat := by
  unfold cutV
  have e1 : HT.sIx xs.length 0 none = 0 := rfl
  have e2 : HT.sIx xs.length xs.length (some i) = min i.toNat xs.length := by
    show (if i < 0 then (i + (xs.length : Int)).toNat else min i.toNat xs.length) = _
    rw [if_neg (by omega)]
  rw [e1, e2, List.drop_zero, Nat.sub_zero, List.take_eq_take_iff]
  omega
theorem ixN_gz {n : Nat} {i : Int} (h0 : 0 ≤ i) (h1 : i < n) : ixN n i = some i.toNat := by
  unfold ixN
  rw [if_pos h0, if_pos h1]
theorem paired_setT {α β : Type} {R : α → β → Prop} {a : α} {b : β} (r : R a b) : ∀ {as : List α} {bs : List β} (i : Nat), Paired R as bs → Paired R (as.set i a) (bs.set i b)
  | _, _, _, .nil => .nil
  | _, _, 0, .cons _ hs => .cons r hs
  | _, _, i + 1, .cons h hs => .cons h (paired_setT r i hs)
theorem atI_z {α : Type} {xs : List α} {k : Nat} {v : α} (h : xs[k]? = some v) : atI xs (0 + (k : Int)) = some v := by
  rw [Int.zero_add]
  exact atI_nat h
theorem cut_row {a b : List (Option Int)} {n m : Nat} : cutV (a.map pV ++ cutV (b.map pV) (some (n : Int)) none) none (some (m : Int)) = ((a ++ b.drop n).take m).map pV := by
  rw [cut_fromL, cut_toT (by omega), Int.toNat_natCast, ← List.map_drop, ← List.map_append, ← List.map_take]
theorem ok_law (e : Ev K mg) (tb : TBs base mg) : FnG P w K mg base CX0 12 (ga K "law") (fdA K (ga K "law")) ["_law_script"] (sp_law K) := by
  refine FnG.bodyC (F_law e) sc_law (fun vs H Q E h => ?_) (fun cdv A outer s H vs Q E hcd hr hq h => ?_)
  · obtain ⟨a, ns, rfl, _⟩ := h
    rfl
  · obtain ⟨a, ns0, rfl, hS, hl, hT, q⟩ := h
    refine ⟨_, PSs.nox (pss_cons (ps_set (i := 1) sc_law.nd (by rfl) (Or.inl rfl) (u_callQ (ok__law_pen e) (hr.mono (by decide)) hq (by rfl) (gl__law_pen e) (kp__law_pen e) (bn__law_pen_1 e) pass0 (pa_cons (uv 0) pa_nil)))
            (pss_cons (u_for PassesOwn.never (by rfl) (piu_range1 (by rfl) (fr_range e) (pa_cons pe_int pa_nil)) (pg_name (i := 2) sc_law.nd (by rfl) (by first | exact Or.inl rfl | exact Or.inr rfl)) (pss_cons (ps_set (i := 3) sc_law.nd (by rfl) (Or.inr rfl) (pe_op (k_add (K := K) rfl) pe_int (u_callQ (ok__law_draw e) (hr.mono (by decide)) hq (by rfl) (gl__law_draw e) (kp__law_draw e) (bn__law_draw_2 e) pass0 (pa_cons (uv 1) (pa_cons pe_int pa_nil)))))
            (pss_cons (ps_asg (u_tup (pa_cons (u_callQ (ok__law_rows e) (hr.mono (by decide)) hq (by rfl) (gl__law_rows e) (kp__law_rows e) (bn__law_rows_2 e) pass0 (pa_cons (uv 1) (pa_cons (uv 3) pa_nil))) (pa_cons (u_callQ (ok__law_rows e) (hr.mono (by decide)) hq (by rfl) (gl__law_rows e) (kp__law_rows e) (bn__law_rows_2 e) pass0 (pa_cons (uv 1) (pa_cons (uv 3) pa_nil))) pa_nil))) (u_pgtup (K := K) rfl rfl (PGL.cons (pg_name (i := 4) sc_law.nd (by rfl) (by first | exact Or.inl rfl | exact Or.inr rfl)) (PGL.cons (pg_name (i := 5) sc_law.nd (by rfl) (by first | exact Or.inl rfl | exact Or.inr rfl)) PGL.nil (by rfl)) (by rfl))))
            (pss_cons (ps_cut (u_if (u_cmpT (k_eq (K := K) rfl hr.units) (u_callQ (ok__law_draw e) (hr.mono (by decide)) hq (by rfl) (gl__law_draw e) (kp__law_draw e) (bn__law_draw_2 e) pass0 (pa_cons (uv 1) (pa_cons pe_int pa_nil))) pe_int (nomark _)) (pss_one (ps_set (i := 5) sc_law.nd (by rfl) (Or.inr rfl) (u_lc (own := [("_law_row", 6)]) (by rfl) sc_law.nd (k_seq (K := K) rfl (uv 4)) (blkOk_by (by kernel_rfl)) (fun _ _ _ _ _ => (pg_name (i := 6) sc_law.nd (by rfl) (by first | exact Or.inl rfl | exact Or.inr rfl))) (fun _ _ _ _ _ => pts_nil) (fun _ _ _ _ _ => (pe_callTy (T := "list") (k_list (K := K) rfl) (by rfl) (fr_list e) (by decide +kernel) (pa_cons (uv 6) pa_nil)))))) pss_nil))
            (pss_cons (ps_asg (u_tup (pa_cons (u_make (mk_Table e) (ok_Table_init e) (hr.mono (by decide)) (by rfl) (gl_Table e) (b_Table_init e) .nil pass0 (pa_cons (uv 4) pa_nil)) (pa_cons (u_make (mk_Table e) (ok_Table_init e) (hr.mono (by decide)) (by rfl) (gl_Table e) (b_Table_init e) .nil pass0 (pa_cons (u_lc (own := [("_law_row", 6)]) (by rfl) sc_law.nd (k_seq (K := K) rfl (uv 5)) (blkOk_by (by kernel_rfl)) (fun _ _ _ _ _ => (pg_name (i := 6) sc_law.nd (by rfl) (by first | exact Or.inl rfl | exact Or.inr rfl))) (fun _ _ _ _ _ => pts_nil) (fun _ _ _ _ _ => (pe_callTy (T := "tuple") (k_tuple (K := K) rfl) (by rfl) (fr_tuple e) (by decide +kernel) (pa_cons (uv 6) pa_nil)))) pa_nil)) pa_nil))) (u_pgtup (K := K) rfl rfl (PGL.cons (pg_name (i := 7) sc_law.nd (by rfl) (by first | exact Or.inl rfl | exact Or.inr rfl)) (PGL.cons (pg_name (i := 8) sc_law.nd (by rfl) (by first | exact Or.inl rfl | exact Or.inr rfl)) PGL.nil (by rfl)) (by rfl))))
            (pss_cons (u_setLc (i := 9) (own := [("_law_x", 11)]) (by rfl) sc_law.nd (by rfl) (by rfl) (sw_true rfl rfl rfl (by kernel_rfl)) (piu_range1 (by rfl) (fr_range e) (pa_cons (uv 3) pa_nil)) (blkOk_by (by kernel_rfl)) (fun _ _ _ _ _ => (pg_name (i := 11) sc_law.nd (by rfl) (by first | exact Or.inl rfl | exact Or.inr rfl))) (fun _ _ _ _ _ => pts_nil) (fun _ _ _ _ _ => (u_lc (own := [("_law_y", 10)]) (by rfl) sc_law.nd (piu_range1 (by rfl) (fr_range e) (pa_cons (uv 3) pa_nil)) (blkOk_by (by kernel_rfl)) (fun _ _ _ _ _ => (pg_name (i := 10) sc_law.nd (by rfl) (by first | exact Or.inl rfl | exact Or.inr rfl))) (fun _ _ _ _ _ => pts_nil) (fun _ _ _ _ _ => (u_callQ (ok__law_sum e) (hr.mono (by decide)) hq (by rfl) (gl__law_sum e) (kp__law_sum e) (bn__law_sum_2 e) pass0 (pa_cons (pe_ix (ix_k (K := K) rfl) (pe_ix (ix_k (K := K) rfl) (uv 4) (uv 11) (fun _ _ => rfl)) (uv 10) (fun _ _ => rfl)) (pa_cons (pe_ix (ix_k (K := K) rfl) (pe_ix (ix_k (K := K) rfl) (uv 5) (uv 11) (fun _ _ => rfl)) (uv 10) (fun _ _ => rfl)) pa_nil)))))))
            (pss_cons (u_setLc (i := 12) (own := [("_law_x", 11)]) (by rfl) sc_law.nd (by rfl) (by rfl) (sw_true rfl rfl rfl (by kernel_rfl)) (piu_range1 (by rfl) (fr_range e) (pa_cons (uv 3) pa_nil)) (blkOk_by (by kernel_rfl)) (fun _ _ _ _ _ => (pg_name (i := 11) sc_law.nd (by rfl) (by first | exact Or.inl rfl | exact Or.inr rfl))) (fun _ _ _ _ _ => pts_nil) (fun _ _ _ _ _ => (u_lc (own := [("_law_y", 10)]) (by rfl) sc_law.nd (piu_range1 (by rfl) (fr_range e) (pa_cons (uv 3) pa_nil)) (blkOk_by (by kernel_rfl)) (fun _ _ _ _ _ => (pg_name (i := 10) sc_law.nd (by rfl) (by first | exact Or.inl rfl | exact Or.inr rfl))) (fun _ _ _ _ _ => pts_nil) (fun _ _ _ _ _ => (u_callQ (ok__law_least e) (hr.mono (by decide)) hq (by rfl) (gl__law_least e) (kp__law_least e) (bn__law_least_1 e) pass0 (pa_cons (u_lst (pa_cons (pe_ix (ix_k (K := K) rfl) (pe_ix (ix_k (K := K) rfl) (uv 4) (uv 11) (fun _ _ => rfl)) (uv 10) (fun _ _ => rfl)) (pa_cons (pe_ix (ix_k (K := K) rfl) (pe_ix (ix_k (K := K) rfl) (uv 5) (uv 11) (fun _ _ => rfl)) (uv 10) (fun _ _ => rfl)) pa_nil))) pa_nil))))))
            (pss_cons (u_if (u_cmpT (k_ne (K := K) rfl hr.units) (pe_callB (id := "repr") (k_repr (K := K) rfl hq hr.units) (by rfl) (fr_repr e) (by decide +kernel) (pa_cons (u_prop (pe_op (o_own2 (me_Table_mul e) rfl (sf_Table e) (ok_Table_mul e) (hr.mono (by decide)) (bn_Table_mul_2 e) passF) (uv 7) (uv 8)) (cl_Table e) (pr_Table_rows e) (ok_Table_rows e) (hr.mono (by decide)) (b_Table_rows e) pass0) pa_nil)) (pe_callB (id := "repr") (k_repr (K := K) rfl hq hr.units) (by rfl) (fr_repr e) (by decide +kernel) (pa_cons (u_callQ (ok__law_plain e) (hr.mono (by decide)) hq (by rfl) (gl__law_plain e) (kp__law_plain e) (bn__law_plain_1 e) pass0 (pa_cons (u_callQ (ok__law_composed e) (hr.mono (by decide)) hq (by rfl) (gl__law_composed e) (kp__law_composed e) (bn__law_composed_2 e) pass0 (pa_cons (uv 4) (pa_cons (uv 5) pa_nil))) pa_nil)) pa_nil)) (nomark _)) (pss_one (ps_ret pe_bl)) pss_nil)
            (pss_cons (u_if (PW.pt (u_orT (u_cmpT (k_ne (K := K) rfl hr.units) (pe_callB (id := "repr") (k_repr (K := K) rfl hq hr.units) (by rfl) (fr_repr e) (by decide +kernel) (pa_cons (u_prop (pe_op (o_own2 (me_Table_add e) rfl (sf_Table e) (ok_Table_add e) (hr.mono (by decide)) (bn_Table_add_2 e) passF) (uv 7) (uv 8)) (cl_Table e) (pr_Table_rows e) (ok_Table_rows e) (hr.mono (by decide)) (b_Table_rows e) pass0) pa_nil)) (pe_callB (id := "repr") (k_repr (K := K) rfl hq hr.units) (by rfl) (fr_repr e) (by decide +kernel) (pa_cons (u_callQ (ok__law_plain e) (hr.mono (by decide)) hq (by rfl) (gl__law_plain e) (kp__law_plain e) (bn__law_plain_1 e) pass0 (pa_cons (uv 9) pa_nil)) pa_nil)) (nomark _)) (u_or1 (u_cmpT (k_ne (K := K) rfl hr.units) (pe_callB (id := "repr") (k_repr (K := K) rfl hq hr.units) (by rfl) (fr_repr e) (by decide +kernel) (pa_cons (u_prop (pe_op (o_own2 (me_Table_or e) rfl (sf_Table e) (ok_Table_or e) (hr.mono (by decide)) (bn_Table_or_2 e) passF) (uv 7) (uv 8)) (cl_Table e) (pr_Table_rows e) (ok_Table_rows e) (hr.mono (by decide)) (b_Table_rows e) pass0) pa_nil)) (pe_callB (id := "repr") (k_repr (K := K) rfl hq hr.units) (by rfl) (fr_repr e) (by decide +kernel) (pa_cons (u_callQ (ok__law_plain e) (hr.mono (by decide)) hq (by rfl) (gl__law_plain e) (kp__law_plain e) (bn__law_plain_1 e) pass0 (pa_cons (uv 12) pa_nil)) pa_nil)) (nomark _))))) (pss_one (ps_ret pe_bl)) pss_nil)
            (pss_cons (u_if (PW.pt (u_orT (u_cmpT (k_ne (K := K) rfl hr.units) (pe_callB (id := "repr") (k_repr (K := K) rfl hq hr.units) (by rfl) (fr_repr e) (by decide +kernel) (pa_cons (u_prop (pe_un (o_own1 (me_Table_neg e) rfl (ok_Table_neg e) (hr.mono (by decide)) (bn_Table_neg_1 e) pass0) (uv 7)) (cl_Table e) (pr_Table_rows e) (ok_Table_rows e) (hr.mono (by decide)) (b_Table_rows e) pass0) pa_nil)) (pe_callB (id := "repr") (k_repr (K := K) rfl hq hr.units) (by rfl) (fr_repr e) (by decide +kernel) (pa_cons (u_callQ (ok__law_plain e) (hr.mono (by decide)) hq (by rfl) (gl__law_plain e) (kp__law_plain e) (bn__law_plain_1 e) pass0 (pa_cons (u_callQ (ok__law_turned e) (hr.mono (by decide)) hq (by rfl) (gl__law_turned e) (kp__law_turned e) (bn__law_turned_1 e) pass0 (pa_cons (uv 4) pa_nil)) pa_nil)) pa_nil)) (nomark _)) (u_or1 (pt_not (k_tru (K := K) rfl (u_callQ (ok__law_alone_right e) (hr.mono (by decide)) hq (by rfl) (gl__law_alone_right e) (kp__law_alone_right e) (bn__law_alone_right_3 e) pass0 (pa_cons (uv 7) (pa_cons (uv 8) (pa_cons (uv 4) pa_nil))))))))) (pss_one (ps_ret pe_bl)) pss_nil)
            (pss_cons (u_if (PW.pt (u_orT (u_cmpT (k_ne (K := K) rfl hr.units) (u_prop (uv 7) (cl_Table e) (pr_Table_rows e) (ok_Table_rows e) (hr.mono (by decide)) (b_Table_rows e) pass0) (u_callQ (ok__law_plain e) (hr.mono (by decide)) hq (by rfl) (gl__law_plain e) (kp__law_plain e) (bn__law_plain_1 e) pass0 (pa_cons (uv 4) pa_nil)) (nomark _)) (u_orT (u_cmpT (k_ne (K := K) rfl hr.units) (u_prop (uv 8) (cl_Table e) (pr_Table_rows e) (ok_Table_rows e) (hr.mono (by decide)) (b_Table_rows e) pass0) (u_callQ (ok__law_plain e) (hr.mono (by decide)) hq (by rfl) (gl__law_plain e) (kp__law_plain e) (bn__law_plain_1 e) pass0 (pa_cons (uv 5) pa_nil)) (nomark _)) (u_or1 (u_cmpT (k_ne (K := K) rfl hr.units) (u_cmp (k_ownEqA (K := K) rfl (me_Table_eq e) rfl (ok_Table_eq e) (hr.mono (by decide)) (bn_Table_eq_2 e) pass0) (uv 7) (uv 8) (nomark _)) (u_cmp (k_eq (K := K) rfl hr.units) (uv 4) (uv 5) (nomark _)) (nomark _)))))) (pss_one (ps_ret pe_bl)) pss_nil)
            (pss_cons (u_if (PW.pt (u_orT (u_cmpT (k_ne (K := K) rfl hr.units) (u_cmp (k_ownNeA (K := K) rfl (ne_Table e) (me_Table_eq e) rfl (ok_Table_eq e) (hr.mono (by decide)) (bn_Table_eq_2 e) pass0) (uv 7) (uv 8) (nomark _)) (u_cmp (k_ne (K := K) rfl hr.units) (uv 4) (uv 5) (nomark _)) (nomark _)) (u_or1 (u_cmpT (k_ownNeA (K := K) rfl (ne_Table e) (me_Table_eq e) rfl (ok_Table_eq e) (hr.mono (by decide)) (bn_Table_eq_2 e) pass0) (uv 7) (u_make (mk_Table e) (ok_Table_init e) (hr.mono (by decide)) (by rfl) (gl_Table e) (b_Table_init e) .nil pass0 (pa_cons (uv 4) pa_nil)) (nomark _))))) (pss_one (ps_ret pe_bl)) pss_nil)
            (pss_cons (u_if (u_cmpT (k_ne (K := K) rfl hr.units) (u_lc (own := [("_law_value", 13)]) (by rfl) sc_law.nd (k_seq (K := K) rfl (u_lst (pa_cons pe_non (pa_cons pe_int (pa_cons (uv 4) (pa_cons (u_callQ (ok__law_plain e) (hr.mono (by decide)) hq (by rfl) (gl__law_plain e) (kp__law_plain e) (bn__law_plain_1 e) pass0 (pa_cons (uv 4) pa_nil)) (pa_cons pe_str (pa_cons pe_dnewK pa_nil)))))))) (blkOk_by (by kernel_rfl)) (fun _ _ _ _ _ => (pg_name (i := 13) sc_law.nd (by rfl) (by first | exact Or.inl rfl | exact Or.inr rfl))) (fun _ _ _ _ _ => (pts_one (PW.pt (u_orT (u_cmpT (k_ownEqA (K := K) rfl (me_Table_eq e) rfl (ok_Table_eq e) (hr.mono (by decide)) (bn_Table_eq_2 e) pass0) (uv 7) (uv 13) (nomark _)) (u_or1 (pt_not (u_cmpT (k_ownNeA (K := K) rfl (ne_Table e) (me_Table_eq e) rfl (ok_Table_eq e) (hr.mono (by decide)) (bn_Table_eq_2 e) pass0) (uv 7) (uv 13) (nomark _)))))))) (fun _ _ _ _ _ => (uv 13))) (u_lst pa_nil) (nomark _)) (pss_one (ps_ret pe_bl)) pss_nil)
            (pss_cons (ps_set (i := 14) sc_law.nd (by rfl) (Or.inl rfl) (u_callQ (ok__law_rows e) (hr.mono (by decide)) hq (by rfl) (gl__law_rows e) (kp__law_rows e) (bn__law_rows_2 e) pass0 (pa_cons (uv 1) (pa_cons (pe_op (k_add (K := K) rfl) pe_int (pe_op o_modz (pe_callTy (T := "int") c_int (by rfl) (fr_int e) (by decide +kernel) (pa_cons (uv 3) pa_nil)) pe_int)) pa_nil))))
            (pss_cons (u_for PassesOwn.never (by rfl) (piu_range1 (by rfl) (fr_range e) (pa_cons (pe_callB (id := "min") (c_min (by rfl)) (by rfl) (fr_min e) (by decide +kernel) (pa_cons (uv 3) (pa_cons (pe_callB (id := "len") (k_len (K := K) rfl) (by rfl) (fr_len e) (by decide +kernel) (pa_cons (uv 14) pa_nil)) pa_nil))) pa_nil)) (pg_name (i := 11) sc_law.nd (by rfl) (by first | exact Or.inl rfl | exact Or.inr rfl)) (pss_one (ps_asg (pe_slice (sl_k (K := K) rfl) (pe_op (k_add (K := K) rfl) (pe_ix (ix_k (K := K) rfl) (uv 4) (uv 11) (fun _ _ => rfl)) (pe_slice (sl_k (K := K) rfl) (pe_ix (ix_k (K := K) rfl) (uv 14) (uv 11) (fun _ _ => rfl)) (u_part (uv 3)) po_none)) po_none (u_part (pe_callB (id := "len") (k_len (K := K) rfl) (by rfl) (fr_len e) (by decide +kernel) (pa_cons (uv 14) pa_nil)))) (pg_sub (uv 14) (uv 11) (set_k (K := K) rfl)))))
            (pss_cons (ps_set (i := 15) sc_law.nd (by rfl) (Or.inr rfl) (u_make (mk_Table e) (ok_Table_init e) (hr.mono (by decide)) (by rfl) (gl_Table e) (b_Table_init e) .nil pass0 (pa_cons (uv 14) pa_nil)))
            (pss_cons (u_if (PW.pt (u_orT (u_cmpT (k_ownEqA (K := K) rfl (me_Table_eq e) rfl (ok_Table_eq e) (hr.mono (by decide)) (bn_Table_eq_2 e) pass0) (uv 7) (uv 15) (nomark _)) (u_orT (u_cmpT (k_ownEqA (K := K) rfl (me_Table_eq e) rfl (ok_Table_eq e) (hr.mono (by decide)) (bn_Table_eq_2 e) pass0) (uv 15) (uv 7) (nomark _)) (u_or1 (pt_not (u_cmpT (k_ownNeA (K := K) rfl (ne_Table e) (me_Table_eq e) rfl (ok_Table_eq e) (hr.mono (by decide)) (bn_Table_eq_2 e) pass0) (uv 7) (uv 15) (nomark _))))))) (pss_one (ps_ret pe_bl)) pss_nil)
            (pss_cons (ps_set (i := 16) sc_law.nd (by rfl) (Or.inl rfl) (u_lst (pa_cons (u_lamN (T := T_) (params := lamA (lamS (nstB (defBody s_law) 1) 16)) (body := lamB (lamS (nstB (defBody s_law) 1) 16)) (scope := lamC (lamS (nstB (defBody s_law) 1) 16)) (tb _ mem_law) (codeB_ok (cd_law e) hcd) inT_law oneT_law (LamX.lamS_by (by kernel_rfl)) (by rfl)) pa_nil)))
            (pss_cons (ps_expr (k_append (K := K) rfl (uv 16) (pa_cons (u_lamN (T := T_) (params := lamA (lamS (nstB (defBody s_law) 1) 17)) (body := lamB (lamS (nstB (defBody s_law) 1) 17)) (scope := lamC (lamS (nstB (defBody s_law) 1) 17)) (tb _ mem_law) (codeB_ok (cd_law e) hcd) inT_law oneT_law (LamX.lamS_by (by kernel_rfl)) (by rfl)) pa_nil)))
            (pss_cons (ps_expr (k_append (K := K) rfl (uv 16) (pa_cons (u_lamN (T := T_) (params := lamA (lamS (nstB (defBody s_law) 1) 18)) (body := lamB (lamS (nstB (defBody s_law) 1) 18)) (scope := lamC (lamS (nstB (defBody s_law) 1) 18)) (tb _ mem_law) (codeB_ok (cd_law e) hcd) inT_law oneT_law (LamX.lamS_by (by kernel_rfl)) (by rfl)) pa_nil)))
            (pss_one (u_if (u_cmpT (k_ne (K := K) rfl hr.units) (u_lcB (own := [("_law_call", 17)]) (by rfl) sc_law.nd (k_seq (K := K) rfl (uv 16)) (blkOk_by (by kernel_rfl)) (fun _ _ _ _ _ => (pg_name (i := 17) sc_law.nd (by rfl) (by first | exact Or.inl rfl | exact Or.inr rfl))) (fun sg0 pins0 b0 Hb0 C0 cl0 fp0 bk => (pts_one (pt_not (k_tru (K := K) rfl (u_lamCB bk (k := 8) hq (by rfl) (gl__law_refused e) (kp__law_refused e) (F__law_refused e) (b__law_refused e) sc__law_refused (by rfl) (by first | exact Or.inl rfl | exact Or.inr (Or.inl rfl)) (fun cdg => gv__law_refused e (hr.mono (by decide)) hq cdg) (hr.mono (by decide)) (by exact (.cons (alt_of (params := lamA (lamS (nstB (defBody s_law) 1) 16)) (body := lamB (lamS (nstB (defBody s_law) 1) 16)) (scope := lamC (lamS (nstB (defBody s_law) 1) 16)) (LamX.lamS_by (by kernel_rfl)) (fun _ _ _ _ _ => rfl) (fun A outer s H E f c' hr hq => (pe_op (o_own2 (me_Table_mul e) rfl (sf_Table e) (ok_Table_mul e) (hr.mono (by decide)) (bn_Table_mul_2 e) (passW (takes_of rfl rfl rfl rfl))) (uv 7) (uv 15)))) (.cons (alt_of (params := lamA (lamS (nstB (defBody s_law) 1) 17)) (body := lamB (lamS (nstB (defBody s_law) 1) 17)) (scope := lamC (lamS (nstB (defBody s_law) 1) 17)) (LamX.lamS_by (by kernel_rfl)) (fun _ _ _ _ _ => rfl) (fun A outer s H E f c' hr hq => (pe_op (o_own2 (me_Table_add e) rfl (sf_Table e) (ok_Table_add e) (hr.mono (by decide)) (bn_Table_add_2 e) (passW (takes_of rfl rfl rfl rfl))) (uv 15) (uv 7)))) (.cons (alt_of (params := lamA (lamS (nstB (defBody s_law) 1) 18)) (body := lamB (lamS (nstB (defBody s_law) 1) 18)) (scope := lamC (lamS (nstB (defBody s_law) 1) 18)) (LamX.lamS_by (by kernel_rfl)) (fun _ _ _ _ _ => rfl) (fun A outer s H E f c' hr hq => (pe_op (o_own2 (me_Table_or e) rfl (sf_Table e) (ok_Table_or e) (hr.mono (by decide)) (bn_Table_or_2 e) (passW (takes_of rfl rfl rfl rfl))) (uv 7) (uv 15)))) .nil)))) (uv 17)))))) (fun _ _ _ _ _ => (uv 17))) (u_lst pa_nil) (nomark _)) (pss_one (ps_ret pe_bl)) pss_nil))))))))))))))))))))))
            (pss_one (ps_ret pe_bl)))), ?_⟩
    refine ⟨a, ns0, rfl, hS, hl, fun G1 H1 p x1 gh1 x1' pn1 => ?_⟩
    have tb1 : Tb T_ (dropT G1) H1 := Tb.start hT x1' gh1
    have gd1 : Ex (dropT G1) H1 := ex_trans dropT_ex gh1
    have pd1 := pn1.dropT
    clear pn1
    have inT : ∃ q, ((373 : Addr), q) ∈ T_ := ⟨_, inT_law⟩
    have szn : ∀ {n : Nat}, n ≤ 5 → n ≤ PySem.sizeLine := fun h => Nat.le_trans h (szr (n := 5) (by decide +kernel))
    refine ⟨⟨by decide, by decide⟩, ?_⟩
    refine ⟨fun i σ H' => ∃ (G : Hp) (y2 y3 y4 y5 y6 y7 y8 y9 y10 y11 y12 y13 y14 y15 y16 y17 : Option V), Ex G H' ∧ Pen K ("turn" : PySem.Str) ("rest" : PySem.Str) G H' p (3000 * i) ∧ Tb T_ G H' ∧ σ = [some (.ref a), some (.ref p), y2, y3, y4, y5, y6, y7, y8, y9, y10, y11, y12, y13, y14, y15, y16, y17], ⟨dropT G1, none, none, none, none, none, none, none, none, none, none, none, none, none, none, none, none, gd1, pd1, tb1, rfl⟩, fun _ _ _ _ _ => trivial, ?_, ?_⟩
    · rintro i x σ H2' H2 hi ⟨G2, y2, y3, y4, y5, y6, y7, y8, y9, y10, y11, y12, y13, y14, y15, y16, y17, gh2, pn2, tb2, rfl⟩ ⟨rfl, rfl⟩
      have hi10 : i < 12 := hi
      refine ⟨G2, p, _, 5, rfl, gh2, pn2, by omega, by decide, by decide, fun w G3 H3 g3 pn3 w0 w1 => ?_⟩
      obtain ⟨n, hn⟩ : ∃ n : Nat, 1 + w = n := ⟨(1 + w).toNat, by omega⟩
      have n1 : 1 ≤ n := by omega
      have n5 : n ≤ 5 := by omega
      refine ⟨G3, p, _, n, by rw [← hn]; rfl, g3.gh, pn3, by omega, n5, fun la wsA A G4 H4 hlA glA nlA pA lA sA gA g4 pn4 => ?_⟩
      have g4f := g4.frz nlA glA hlA
      have pn4f := pn4.frz (o := .lst wsA) (pn3.off nlA) glA
      have rA : RowL K (upd G4 la (.lst wsA)) (.ref la) A := rowO_L glA pA
      have pAf : RowsO (upd G4 la (.lst wsA)) la wsA A := ⟨upd_same, rowO_up (Evl.Ex.new (o := .lst wsA) glA) pA⟩
      clear g4 pn4 hlA pA
      generalize upd G4 la (.lst wsA) = G4' at g4f pn4f rA pAf
      refine ⟨G4', p, _, n, by rw [← hn]; rfl, g4f.gh, pn4f, by omega, n5, fun lb wsB B G5 H5 hlB glB nlB pB lB sB gB g5 pn5 => ?_⟩
      have g5f := g5.frz nlB glB hlB
      have pn5f := pn5.frz (o := .lst wsB) (pn4f.off nlB) glB
      have rB : RowL K (upd G5 lb (.lst wsB)) (.ref lb) B := rowO_L glB pB
      clear g5 pn5 hlB pB
      generalize upd G5 lb (.lst wsB) = G5' at g5f pn5f rB
      refine ⟨szr (n := 2) (by decide +kernel), fun t6 H6 n6 => ?_⟩
      refine ⟨_, SqT.of n6.at, rfl, ?_⟩
      have g6 := n6.gr g5f.gh
      have T6 : GrM p G2 H2 (upd G5' t6 (.tup [.ref la, .ref lb])) H6 := g3.trans (g4f.trans (g5f.trans (g6.m p)))
      have tA : Tn n A := ⟨lA, sA⟩
      have rA6 := rA.up (ex_trans g5f.gg g6.gg)
      have pA6 := rowO_all (ex_trans g5f.gg g6.gg) pAf
      have rB6 := rB.up g6.gg
      have pn6 := pn5f.gr g6
      have tb6 := tb2.pen pn2 T6
      have gh6 := g6.gh
      have A0 : AllE (0 ≤ ·) A := fun r hr x hx i e => (gA r hr x hx i e).1
      have A2 : AllE (· < 10 ^ 20) A := fun r hr x hx i e => (gA r hr x hx i e).2
      clear g3 g4f g5f g6 pn3 pn4f pn5f rA n6 T6 tb2 pn2 pAf
      generalize upd G5' t6 (.tup [.ref la, .ref lb]) = G6 at rA6 rB6 pn6 tb6 gh6 pA6
      -- the other one, the same now and then
      refine ⟨fun σ H' => ∃ (G : Hp) (vb : V) (B : List (List (Option Int))) (y6 : Option V), Ex G H' ∧ Ex G6 G ∧ Pen K ("turn" : PySem.Str) ("rest" : PySem.Str) G H' p (3000 * i + 1100) ∧ Tb T_ G H' ∧ RowL K G vb B ∧ Tn n B ∧ AllE (0 ≤ ·) B ∧ AllE (· < 10 ^ 20) B ∧ σ = [some (.ref a), some (.ref p), some (.int (0 + (i : Int))), some (.int (1 + w)), some (.ref la), some vb, y6, y7, y8, y9, y10, y11, y12, y13, y14, y15, y16, y17], ?_, ?_⟩
      · refine ⟨G6, p, _, 4, rfl, gh6, pn6, by omega, by decide, by decide, fun d G7 H7 g7 pn7 d0 d1 => ?_⟩
        have tb7 := tb6.pen pn6 g7
        refine bite_mk (fun hc => ?_) (fun hc => ?_)
        · obtain ⟨a0, vs0, ea0, s0, p0⟩ := rA6.up g7.gg
          cases ea0
          have l0 : vs0.length = n := by rw [paired_len p0, lA]
          refine ⟨true, vs0, Evl.ex_l g7.gh s0, ?_⟩
          rw [l0]
          refine lc_pure g7.gh (fun k G acc => Paired (fun w r => ∃ b : Addr, w = V.ref b ∧ SqL K G b (List.map pV r)) acc (A.take k)) (szn n5) .nil (fun k G acc h => by rw [paired_len h, List.length_take]; exact Nat.min_le_left _ _) (fun G' H' g => Evl.ex_l (ex_trans g.gg g.gh) s0) ?_ ?_
          · rintro k v G8 H8' H8 acc hk g8 h1 ⟨rfl, hx⟩ R R0 r1 r2
            obtain ⟨r, hr, b, rfl, sb⟩ := paired_at p0 hx
            refine ⟨rfl, ?_⟩
            refine ⟨_, Or.inl (Evl.ex_l (ex_trans g8.gg g8.gh) sb), fun l H9 n9 => ?_⟩
            have g9 := n9.gr g8.gh
            refine r1 _ _ H9 g9 ?_
            rw [List.take_add_one, hr]
            exact paired_oneX (paired_imp2 h1 fun w r _ ⟨b, k1, k2⟩ => ⟨b, k1, Evl.ex_l g9.gg k2⟩) ⟨l, rfl, SqL.of upd_same⟩
          rintro D8 G8 H8 acc8 g8 hD8 gD8 h8 p8
          rw [List.take_of_length_le (by rw [lA]; exact Nat.le_refl _)] at p8
          have T8 := g8.frz hD8 gD8 h8
          have xD : Ex G8 (upd G8 D8 (.lst acc8)) := Evl.Ex.new gD8
          exact ⟨upd G8 D8 (.lst acc8), .ref D8, A, _, T8.gh, ex_trans g7.gg T8.gg, (pn7.gr T8).up (by omega), tb7.gr T8, ⟨D8, acc8, rfl, SqL.of upd_same, paired_imp2 p8 fun w r _ ⟨b, k1, k2⟩ => ⟨b, k1, Evl.ex_l xD k2⟩⟩, tA, A0, A2, rfl⟩
        · exact ⟨G7, .ref lb, B, _, g7.gh, g7.gg, pn7.up (by omega), tb7, rB6.up g7.gg, ⟨lB, sB⟩, fun r hr x hx i e => (gB r hr x hx i e).1, fun r hr x hx i e => (gB r hr x hx i e).2, rfl⟩
      rintro σ H10 ⟨G10, vb, B, y6, gh10, x610, pn10, tb10, rB10, tB, B0, B2, rfl⟩
      have rA10 := rA6.up x610
      have pA10 := rowO_all x610 pA6
      clear rA6 rB6 pn6 tb6 gh6 rB gB sB lB x610 pA6
      have lB := tB.len
      -- the tables
      refine fun y dy H11 md => ⟨G10, y, dy, .ref la, A, rfl, ex_trans gh10 md.ex, ex_none gh10 md.nx, md.at, rA10.at, tA.sq, by rw [tA.len]; exact n1, by rw [tA.len]; exact n5, A0, fun ent G12 H12 g12 hx12 d12 => ⟨rfl, ?_⟩⟩
      obtain ⟨G13, g13, hA13⟩ := made_tab md gh10 g12 hx12 d12 tA A0
      obtain ⟨b0, vs0, rfl, sb0, pb0⟩ := rB10.up g13.gg
      have lb0 : vs0.length = n := by rw [paired_len pb0, lB]
      refine ⟨true, vs0, Evl.ex_l g13.gh sb0, ?_⟩
      rw [lb0]
      refine lc_pure g13.gh (fun k G acc => Paired (fun w r => ∃ (b : Addr) (g : Bool), w = V.ref b ∧ Sq g K G b (List.map pV r)) acc (B.take k)) (szn n5) .nil (fun k G acc h => by rw [paired_len h, List.length_take]; exact Nat.min_le_left _ _) (fun G' H' g => Evl.ex_l (ex_trans g.gg g.gh) sb0) ?_ ?_
      · rintro k v G14 H14' H14 acc hk g14 h1 ⟨rfl, hx⟩ R R0 r1 r2
        obtain ⟨r, hr, b, rfl, sb⟩ := paired_at pb0 hx
        refine ⟨rfl, ?_⟩
        refine ⟨_, Or.inl ⟨Evl.ex_l (ex_trans g14.gg g14.gh) sb, fun l H15 n15 => ?_⟩⟩
        have g15 := n15.gr g14.gh
        refine r1 _ _ H15 g15 ?_
        rw [List.take_add_one, hr]
        exact paired_oneX (paired_imp2 h1 fun w r _ ⟨b, g, k1, k2⟩ => ⟨b, g, k1, Sq.up g15.gg k2⟩) ⟨l, false, rfl, SqT.of upd_same⟩
      rintro D14 G14 H14 acc14 g14 hD14 gD14 h14 p14
      rw [List.take_of_length_le (by rw [lB]; exact Nat.le_refl _)] at p14
      have T14 := g14.frz hD14 gD14 h14
      have rt14 : RowsAt K (upd G14 D14 (.lst acc14)) (.ref D14) B := ⟨D14, true, acc14, rfl, SqL.of upd_same, paired_imp2 p14 fun w r _ ⟨b, g, k1, k2⟩ => ⟨b, g, k1, Sq.up (Evl.Ex.new gD14) k2⟩⟩
      clear g14 h14 p14
      generalize upd G14 D14 (.lst acc14) = G15 at T14 rt14
      refine fun y2 dy2 H16 md2 => ⟨G15, y2, dy2, .ref D14, B, rfl, ex_trans T14.gh md2.ex, ex_none T14.gh md2.nx, md2.at, rt14, tB.sq, by rw [lB]; exact n1, by rw [lB]; exact n5, B0, fun ent2 G17 H17 g17 hx17 d17 => ⟨rfl, ?_⟩⟩
      obtain ⟨G18, g18, hB18⟩ := made_tab md2 T14.gh g17 hx17 d17 tB B0
      refine ⟨szr (n := 2) (by decide +kernel), fun t19 H19 n19 => ?_⟩
      refine ⟨_, SqT.of n19.at, rfl, ?_⟩
      have g19 := g13.trans (T14.trans (g18.trans (n19.gr0 g18.gh)))
      have hA19 := hA13.up (ex_trans T14.gg g18.gg)
      have rA19 := rA10.up g19.gg
      have pA19 := rowO_all g19.gg pA10
      have rB19 := rB10.up g19.gg
      have pn19 := pn10.gr g19
      have tb19 := tb10.gr g19
      have gh19 := g19.gh
      clear md md2 g12 g17 hx12 hx17 d12 d17 g13 g18 T14 rt14 hA13 rA10 pA10 rB10 pn10 tb10 gh10 g19 n19 pb0 sb0
      have hA := hA19
      have hB := hB18
      -- added
      obtain ⟨M1, hM1⟩ : ∃ M, M = addRows A B := ⟨_, rfl⟩
      have tM1 : Tn n M1 := by rw [hM1]; exact tA.add tB
      have enM1 : ∀ i j, en M1 i j = add2 (en A i j) (en B i j) := fun i j => by rw [hM1]; exact en_add tA tB i j
      refine ⟨⟨by omega, by omega⟩, ?_⟩
      rw [show ((1 + w : Int)).toNat = n from by omega]
      refine lc_pure gh19 (fun i G acc => Paired (fun w r => ∃ b : Addr, w = V.ref b ∧ SqL K G b (List.map pV r)) acc (M1.take i)) (szn n5) .nil (fun k G acc h => by rw [paired_len h, List.length_take]; exact Nat.min_le_left _ _) (fun _ _ _ => trivial) ?_ ?_
      · rintro i' v Gp Hp' Hp0 acc hi' gp h1 ⟨rfl, rfl⟩ R R0 r1 r2
        have hiN : i' < n := hi'
        refine ⟨rfl, ?_⟩
        refine ⟨⟨by omega, by omega⟩, ?_⟩
        rw [show ((1 + w : Int)).toNat = n from by omega]
        refine lc_pure gp.gh (fun j G acc => acc = (((List.range n).map fun j => en M1 i' j).take j).map pV) (szn n5) rfl (fun k G acc h => by rw [h, List.length_map, List.length_take]; exact Nat.min_le_left _ _) (fun _ _ _ => trivial) ?_ ?_
        · rintro j v Gq Hq' Hq acc2 hj gq rfl ⟨rfl, rfl⟩ S S0 s1 s2
          have hjN : j < n := hj
          refine ⟨rfl, ?_⟩
          have xq := ex_trans gp.gg (ex_trans gq.gg gq.gh)
          obtain ⟨xs, b', ys, u1, i1, u2, i2⟩ := rows_at xq rA19.at tA (x := 0 + (i' : Int)) (y := 0 + (j : Int)) (i := i') (j := j) (by omega) (by omega) hiN hjN
          obtain ⟨xs2, b2, ys2, w1', j1, w2, j2⟩ := rows_at xq rB19.at tB (x := 0 + (i' : Int)) (y := 0 + (j : Int)) (i := i') (j := j) (by omega) (by omega) hiN hjN
          refine ⟨xs, _, u1, i1, ?_⟩
          refine ⟨ys, _, u2, i2, ?_⟩
          refine ⟨xs2, _, w1', j1, ?_⟩
          refine ⟨ys2, _, w2, j2, ?_⟩
          refine ⟨_, _, rfl, ?_⟩
          refine s1 _ Gq Hq (Gr.refl gq.gh) ?_
          rw [List.take_add_one, List.getElem?_map, List.getElem?_range hjN, List.map_append]
          show _ = _ ++ [pV (en M1 i' j)]
          rw [enM1]
          all_goals rfl
        rintro Dq Gq Hq accq gq hDq gDq hq rfl
        rw [List.take_of_length_le (by rw [List.length_map, List.length_range]; exact Nat.le_refl _)] at hq
        have xD : Ex Gq (upd Gq Dq (.lst (((List.range n).map fun j => en M1 i' j).map pV))) := Evl.Ex.new gDq
        refine r1 _ _ Hq (gq.frz hDq gDq hq) ?_
        rw [List.take_add_one, row_en tM1 hiN]
        exact paired_oneX (paired_imp2 h1 fun w r _ ⟨b, k1, k2⟩ => ⟨b, k1, Evl.ex_l (ex_trans gq.gg xD) k2⟩) ⟨Dq, rfl, SqL.of upd_same⟩
      rintro D20 Ga20 H20 acc20 g20 hD20 gD20 h20 p20
      rw [List.take_of_length_le (by rw [tM1.len]; exact Nat.le_refl _)] at p20
      have T20 := g20.frz hD20 gD20 h20
      have r20 : RowL K (upd Ga20 D20 (.lst acc20)) (.ref D20) M1 := ⟨D20, acc20, rfl, SqL.of upd_same, paired_imp2 p20 fun w r _ ⟨b, k1, k2⟩ => ⟨b, k1, Evl.ex_l (Evl.Ex.new gD20) k2⟩⟩
      clear g20 h20 p20
      generalize upd Ga20 D20 (.lst acc20) = G20 at T20 r20
      have rA20 := rA19.up T20.gg
      have rB20 := rB19.up T20.gg
      -- lesser
      obtain ⟨M2, hM2⟩ : ∃ M, M = orRows A B := ⟨_, rfl⟩
      have tM2 : Tn n M2 := by rw [hM2]; exact tA.or tB
      have enM2 : ∀ i j, en M2 i j = or2 (en A i j) (en B i j) := fun i j => by rw [hM2]; exact en_or tA tB i j
      refine ⟨⟨by omega, by omega⟩, ?_⟩
      rw [show ((1 + w : Int)).toNat = n from by omega]
      refine lc_pure T20.gh (fun i G acc => Paired (fun w r => ∃ b : Addr, w = V.ref b ∧ SqL K G b (List.map pV r)) acc (M2.take i)) (szn n5) .nil (fun k G acc h => by rw [paired_len h, List.length_take]; exact Nat.min_le_left _ _) (fun _ _ _ => trivial) ?_ ?_
      · rintro i' v Gp Hp' Hp0 acc hi' gp h1 ⟨rfl, rfl⟩ R R0 r1 r2
        have hiN : i' < n := hi'
        refine ⟨rfl, ?_⟩
        refine ⟨⟨by omega, by omega⟩, ?_⟩
        rw [show ((1 + w : Int)).toNat = n from by omega]
        refine lc_pure gp.gh (fun j G acc => acc = (((List.range n).map fun j => en M2 i' j).take j).map pV) (szn n5) rfl (fun k G acc h => by rw [h, List.length_map, List.length_take]; exact Nat.min_le_left _ _) (fun _ _ _ => trivial) ?_ ?_
        · rintro j v Gq Hq' Hq acc2 hj gq rfl ⟨rfl, rfl⟩ S S0 s1 s2
          have hjN : j < n := hj
          refine ⟨rfl, ?_⟩
          have xq := ex_trans gp.gg (ex_trans gq.gg gq.gh)
          obtain ⟨xs, b', ys, u1, i1, u2, i2⟩ := rows_at xq rA20.at tA (x := 0 + (i' : Int)) (y := 0 + (j : Int)) (i := i') (j := j) (by omega) (by omega) hiN hjN
          obtain ⟨xs2, b2, ys2, w1', j1, w2, j2⟩ := rows_at xq rB20.at tB (x := 0 + (i' : Int)) (y := 0 + (j : Int)) (i := i') (j := j) (by omega) (by omega) hiN hjN
          refine ⟨xs, _, u1, i1, ?_⟩
          refine ⟨ys, _, u2, i2, ?_⟩
          refine ⟨xs2, _, w1', j1, ?_⟩
          refine ⟨ys2, _, w2, j2, ?_⟩
          refine ⟨szr (n := 2) (by decide +kernel), fun lq Hr nr => ?_⟩
          refine ⟨Hr, lq, true, [en A i' j, en B i' j], rfl, ex_refl _, SqL.of nr.at, ?_⟩
          refine s1 _ Gq Hr (nr.gr0 gq.gh) ?_
          rw [List.take_add_one, List.getElem?_map, List.getElem?_range hjN, List.map_append]
          show _ = _ ++ [pV (en M2 i' j)]
          rw [enM2]
          all_goals rfl
        rintro Dq Gq Hq accq gq hDq gDq hq rfl
        rw [List.take_of_length_le (by rw [List.length_map, List.length_range]; exact Nat.le_refl _)] at hq
        have xD : Ex Gq (upd Gq Dq (.lst (((List.range n).map fun j => en M2 i' j).map pV))) := Evl.Ex.new gDq
        refine r1 _ _ Hq (gq.frz hDq gDq hq) ?_
        rw [List.take_add_one, row_en tM2 hiN]
        exact paired_oneX (paired_imp2 h1 fun w r _ ⟨b, k1, k2⟩ => ⟨b, k1, Evl.ex_l (ex_trans gq.gg xD) k2⟩) ⟨Dq, rfl, SqL.of upd_same⟩
      rintro D21 Ga21 H21 acc21 g21 hD21 gD21 h21 p21
      rw [List.take_of_length_le (by rw [tM2.len]; exact Nat.le_refl _)] at p21
      have T21 := g21.frz hD21 gD21 h21
      have r21 : RowL K (upd Ga21 D21 (.lst acc21)) (.ref D21) M2 := ⟨D21, acc21, rfl, SqL.of upd_same, paired_imp2 p21 fun w r _ ⟨b, k1, k2⟩ => ⟨b, k1, Evl.ex_l (Evl.Ex.new gD21) k2⟩⟩
      clear g21 h21 p21
      generalize upd Ga21 D21 (.lst acc21) = G21 at T21 r21
      have g21 := T20.trans T21
      have hA21 := hA.up g21.gg
      have hB21 := hB.up g21.gg
      have rA21 := rA20.up T21.gg
      have rB21 := rB20.up T21.gg
      have pA21 := rowO_all g21.gg pA19
      have r20' := r20.up T21.gg
      have pn21 := pn19.gr g21
      have tb21 := tb19.gr g21
      have gh21 := g21.gh
      clear T20 T21 rA19 rB19 rA20 rB20 pA19 hA hB r20 pn19 tb19 gh19 hA19 hB18 g21
      have b40 : (10 : Int) ^ 20 + 10 ^ 20 ≤ 10 ^ 80 := by decide +kernel
      have b20 : (10 : Int) ^ 20 ≤ 10 ^ 80 := by decide +kernel
      -- products, sums, lesser prices
      refine ⟨_, _, _, _, gh21 _ _ hA21.ins, gh21 _ _ hB21.ins, G21, y, y2, A, B, rfl, gh21, hA21.t, hB21.t, Or.inl ⟨by rw [tA.len, tB.len], tA.sq, tB.sq, by rw [tA.len]; exact n1, by rw [tA.len]; exact n5, A0, B0, fun x22 G22 H22 g22 t22 => ?_⟩⟩
      have t22n := hA21.mul hB21 t22
      refine ⟨_, _, g22.gh _ _ t22n.ins, ?_⟩
      refine ⟨G22, x22, _, rfl, g22.gh, t22n.t, fun v23 d23 => ?_⟩
      have shM := tab_shows t22n.n n5 t22n.ok (lo_80 b40 (A2.mul B2))
      refine ⟨v23, _, rfl, dp_up g22.gh d23, shM.a, shM.b, shM.c, shM.d, ?_⟩
      refine ⟨G22, .ref la, .ref b0, A, B, n, rfl, g22.gh, (rA21.up g22.gg).at, (rB21.up g22.gg).at, tA, tB, n5, fun x24 G24 H24 g24 r24 => ?_⟩
      refine ⟨G24, x24, _, rfl, g24.gh, r24, by rw [t22n.n.len]; exact n5, fun x25 G25 H25 g25 d25 => ?_⟩
      refine ⟨x25, _, rfl, dp_up g25.gh d25, shM.a, shM.b, shM.c, shM.d, ?_⟩
      refine bite_nd (fun hne => absurd rfl hne) (fun _ => ?_)
      have g2125 := g22.trans (g24.trans g25)
      have hA25 := hA21.up g2125.gg
      have hB25 := hB21.up g2125.gg
      refine ⟨_, _, _, _, g2125.gh _ _ hA25.ins, g2125.gh _ _ hB25.ins, G25, y, y2, A, B, rfl, g2125.gh, hA25.t, hB25.t, Or.inl ⟨by rw [tA.len, tB.len], tA.sq, tB.sq, by rw [tA.len]; exact n1, by rw [tA.len]; exact n5, A0, B0, fun x26 G26 H26 g26 t26 => ?_⟩⟩
      have t26n := hA25.add hB25 t26
      refine ⟨_, _, g26.gh _ _ t26n.ins, ?_⟩
      refine ⟨G26, x26, _, rfl, g26.gh, t26n.t, fun v27 d27 => ?_⟩
      have shS := tab_shows t26n.n n5 t26n.ok (lo_80 b40 (add_low A2 B2))
      refine ⟨v27, _, rfl, dp_up g26.gh d27, shS.a, shS.b, shS.c, shS.d, ?_⟩
      rw [hM1] at r20'
      rw [hM2] at r21
      refine ⟨G26, .ref D20, _, rfl, g26.gh, (r20'.up (ex_trans g2125.gg g26.gg)).at, by rw [t26n.n.len]; exact n5, fun x28 G28 H28 g28 d28 => ?_⟩
      refine ⟨x28, _, rfl, dp_up g28.gh d28, shS.a, shS.b, shS.c, shS.d, ?_⟩
      refine bite_nd (fun hne => absurd rfl hne) (fun _ => ?_)
      have g2128 := g2125.trans (g26.trans g28)
      have hA28 := hA21.up g2128.gg
      have hB28 := hB21.up g2128.gg
      refine ⟨_, _, _, _, g2128.gh _ _ hA28.ins, g2128.gh _ _ hB28.ins, G28, y, y2, A, B, rfl, g2128.gh, hA28.t, hB28.t, Or.inl ⟨by rw [tA.len, tB.len], tA.sq, tB.sq, by rw [tA.len]; exact n1, by rw [tA.len]; exact n5, A0, B0, fun x29 G29 H29 g29 t29 => ?_⟩⟩
      have t29n := hA28.or hB28 t29
      refine ⟨_, _, g29.gh _ _ t29n.ins, ?_⟩
      refine ⟨G29, x29, _, rfl, g29.gh, t29n.t, fun v30 d30 => ?_⟩
      have shO := tab_shows t29n.n n5 t29n.ok (lo_80 b20 (or_low A2 B2))
      refine ⟨v30, _, rfl, dp_up g29.gh d30, shO.a, shO.b, shO.c, shO.d, ?_⟩
      refine ⟨G29, .ref D21, _, rfl, g29.gh, (r21.up (ex_trans g2128.gg g29.gg)).at, by rw [t29n.n.len]; exact n5, fun x31 G31 H31 g31 d31 => ?_⟩
      refine ⟨x31, _, rfl, dp_up g31.gh d31, shO.a, shO.b, shO.c, shO.d, ?_⟩
      refine bite_nd (fun hne => absurd rfl hne) (fun _ => ?_)
      have g2131 := g2128.trans (g29.trans g31)
      -- turned; one table alone
      have hA31 := hA21.up g2131.gg
      have hB31 := hB21.up g2131.gg
      have rA31 := rA21.up g2131.gg
      refine ⟨_, _, g2131.gh _ _ hA31.ins, G31, y, A, rfl, g2131.gh, hA31.t, tA.sq, by rw [tA.len]; exact n1, by rw [tA.len]; exact n5, A0, fun x32 G32 H32 g32 t32 => ?_⟩
      have t32n := hA31.neg t32
      refine ⟨_, _, g32.gh _ _ t32n.ins, ?_⟩
      refine ⟨G32, x32, _, rfl, g32.gh, t32n.t, fun v33 d33 => ?_⟩
      have shT := tab_shows t32n.n n5 t32n.ok (lo_80 b20 A2.turn)
      refine ⟨v33, _, rfl, dp_up g32.gh d33, shT.a, shT.b, shT.c, shT.d, ?_⟩
      refine ⟨G32, .ref la, A, rfl, g32.gh, (rA31.up g32.gg).at, by rw [tA.len]; exact n5, tA.sq, fun x34 G34 H34 g34 r34 => ?_⟩
      refine ⟨G34, x34, _, rfl, g34.gh, r34, by rw [t32n.n.len]; exact n5, fun x35 G35 H35 g35 d35 => ?_⟩
      refine ⟨x35, _, rfl, dp_up g35.gh d35, shT.a, shT.b, shT.c, shT.d, ?_⟩
      refine bite_nd (fun hne => absurd rfl hne) (fun _ => ?_)
      have g2135 := g2131.trans (g32.trans (g34.trans g35))
      refine ⟨G35, y, y2, .ref la, A, B, n, rfl, g2135.gh, hA21.up g2135.gg, hB21.up g2135.gg, rA21.up g2135.gg, n1, n5, A2, B2, fun G36 H36 g36 => ?_⟩
      have g2136 := g2135.trans g36
      have hA36 := hA21.up g2136.gg
      have hB36 := hB21.up g2136.gg
      have rA36 := rA21.up g2136.gg
      have rB36 := rB21.up g2136.gg
      have pA36 := rowO_all g2136.gg pA21
      have pn36 := pn21.gr g2136
      have tb36 := tb21.gr g2136
      have gh36 := g2136.gh
      clear g22 g24 g25 g2125 g26 g28 g2128 g29 g31 g2131 g32 g34 g35 g2135 g36 g2136 hA21 hB21 rA21 rB21 pA21 pn21 tb21 gh21 hA25 hB25 hA28 hB28 hA31 hB31 rA31 t22n t26n t29n t32n t22 t26 t29 t32 d23 d25 d27 d28 d30 d31 d33 d35 r20' r21 shM shS shO shT r24 r34
      refine ⟨_, _, gh36 _ _ hA36.ins, ?_⟩
      refine ⟨G36, y, _, rfl, gh36, hA36.t, fun v37 d37 => ?_⟩
      refine ⟨G36, .ref la, A, rfl, gh36, rA36.at, by rw [tA.len]; exact n5, fun x38 G38 H38 g38 d38 => ?_⟩
      refine tab_cmpN (dp_up (ex_trans g38.gg g38.gh) d37) (dp_up g38.gh d38) ?_
      refine bite_nd (fun hne => absurd rfl hne) (fun _ => ?_)
      have hA38 := hA36.up g38.gg
      have hB38 := hB36.up g38.gg
      refine ⟨_, _, g38.gh _ _ hB38.ins, ?_⟩
      refine ⟨G38, y2, _, rfl, g38.gh, hB38.t, fun v39 d39 => ?_⟩
      refine ⟨G38, .ref b0, B, rfl, g38.gh, (rB36.up g38.gg).at, by rw [tB.len]; exact n5, fun x40 G40 H40 g40 d40 => ?_⟩
      refine tab_cmpN (dp_up (ex_trans g40.gg g40.gh) d39) (dp_up g40.gh d40) ?_
      refine bite_nd (fun hne => absurd rfl hne) (fun _ => ?_)
      have g3640 := g38.trans g40
      have hA40 := hA36.up g3640.gg
      have hB40 := hB36.up g3640.gg
      have rA40 := rA36.up g3640.gg
      have rB40 := rB36.up g3640.gg
      have pA40 := rowO_all g3640.gg pA36
      have pn40 := pn36.gr g3640
      have tb40 := tb36.gr g3640
      have gh40 := g3640.gh
      clear hA38 hB38 g38 g40 d37 d38 d39 d40 hA36 hB36 rA36 rB36 pA36 pn36 tb36 gh36 g3640
      refine ⟨⟨_, _, gh40 _ _ hA40.ins⟩, side_own (gh40 _ _ hB40.ins), G40, y, A, .ref y2, rfl, gh40, hA40.t, Or.inl ⟨y2, B, rfl, hB40.t, ?_⟩⟩
      refine op_var2 (x := .ref la) (y := .ref b0) rfl rfl ?_
      refine rowL_cmp (neg := false) (rA40.up gh40) (rB40.up gh40) ?_
      refine bite_nd (fun hne => absurd rfl hne) (fun _ => ?_)
      -- unlike
      refine ⟨⟨_, _, gh40 _ _ hA40.ins⟩, side_own (gh40 _ _ hB40.ins), G40, y, A, .ref y2, rfl, gh40, hA40.t, Or.inl ⟨y2, B, rfl, hB40.t, ?_⟩⟩
      refine op_var2 (x := .ref la) (y := .ref b0) rfl rfl ?_
      refine rowL_cmp (neg := true) (rA40.up gh40) (rB40.up gh40) ?_
      refine bite_nd (fun hne => absurd rfl hne) (fun _ => ?_)
      refine fun y' dy' H41 md => ⟨G40, y', dy', .ref la, A, rfl, ex_trans gh40 md.ex, ex_none gh40 md.nx, md.at, rA40.at, tA.sq, by rw [tA.len]; exact n1, by rw [tA.len]; exact n5, hA40.ok, fun ent G42 H42 g42 hx42 d42 => ⟨rfl, ?_⟩⟩
      obtain ⟨G43, g43, hY⟩ := made_tab md gh40 g42 hx42 d42 tA hA40.ok
      have hA43 := hA40.up g43.gg
      refine ⟨⟨_, _, g43.gh _ _ hA43.ins⟩, side_own (g43.gh _ _ hY.ins), G43, y, A, .ref y', rfl, g43.gh, hA43.t, Or.inl ⟨y', A, rfl, hY.t, ?_⟩⟩
      refine bite_nd (fun hne => absurd rfl hne) (fun _ => ?_)
      have hB43 := hB40.up g43.gg
      have rA43 := rA40.up g43.gg
      have pA43 := rowO_all g43.gg pA40
      have pn43 := pn40.gr g43
      have tb43 := tb40.gr g43
      have gh43 := g43.gh
      clear md g42 hx42 d42 hY g43 hA40 hB40 rA40 rB40 pA40 pn40 tb40 gh40
      -- equal to nothing else
      refine ⟨G43, .ref la, A, rfl, gh43, rA43.at, by rw [tA.len]; exact n5, fun x44 G44 H44 g44 d44 => ?_⟩
      refine fun dk hdk => ⟨szr (n := 6) (by decide +kernel), fun lv H46 n46 => ?_⟩
      have x46 : Ex H44 H46 := ex_trans (Evl.Ex.new hdk) n46.ex
      have hd46 : H46 dk = some (.dK []) := n46.ex _ _ upd_same
      have gh46 : Ex G44 H46 := ex_trans g44.gh x46
      have shA := tab_shows tA n5 hA43.ok (lo_80 b20 A2)
      have shL := (tabL_sm tA n5 hA43.ok (lo_80 b20 A2)).shows (by decide) (by decide)
      have av : ∀ (k : Nat) (v : V), ([V.non, .int 0, .ref la, x44, .str "0", .ref dk] : List V)[k]? = some v → ∃ s, AnyV K H46 v s := by
        intro k v hk
        match k, hk with
        | 0, hk => cases hk; exact ⟨_, any_non⟩
        | 1, hk => cases hk; exact ⟨_, any_int (by decide +kernel)⟩
        | 2, hk => cases hk; exact ⟨_, .dat (rA43.up (ex_trans g44.gg gh46)).dp shL⟩
        | 3, hk => cases hk; exact ⟨_, .dat (dp_up gh46 d44) shA⟩
        | 4, hk => cases hk; exact ⟨_, .dat (d := .str "0") (.str _) ⟨by decide +kernel, by decide +kernel, by decide +kernel, by decide +kernel⟩⟩
        | 5, hk => cases hk; exact ⟨_, .dct hd46⟩
        | k + 6, hk => cases hk
      have hL46 : H46 lv = some (.lst [V.non, .int 0, .ref la, x44, .str "0", .ref dk]) := n46.at
      refine ⟨true, _, SqL.of hL46, ?_⟩
      refine lc_pure gh46 (fun k G acc => acc = []) (szr (n := 6) (by decide +kernel)) rfl (fun k G acc h => by rw [h]; exact Nat.zero_le _) (fun G' H' g => SqL.of (g.hh _ _ hL46)) ?_ ?_
      · rintro k v Gq Hq' Hq acc hk gq rfl ⟨rfl, hx⟩ R R0 r1 r2
        refine ⟨rfl, ?_⟩
        obtain ⟨s, avk⟩ := av k v hx
        have avq := avk.up gq.hh
        have hAq := hA43.up (ex_trans g44.gg (ex_trans gq.gg gq.gh))
        refine ⟨⟨_, _, hAq.ins⟩, side_any avq, Hq, y, A, _, rfl, ex_refl _, hAq.t, Or.inr ⟨_, avq, ?_⟩⟩
        refine ⟨⟨_, _, hAq.ins⟩, side_any avq, Hq, y, A, _, rfl, ex_refl _, hAq.t, Or.inr ⟨_, avq, ?_⟩⟩
        exact r2 Gq Hq (Gr.refl gq.gh) rfl
      rintro D47 G47 H47 acc47 g47 hD47 gD47 h47 rfl
      refine ⟨szr (n := 0) (by decide +kernel), fun l48 H48 n48 => ?_⟩
      refine Or.inr ⟨.list [], .list [], .lst (SqL.of (n48.ex _ _ h47)) .nil, .lst (SqL.of n48.at) .nil, rfl, rfl, ?_⟩
      have T48 : Gr G43 H42 G47 H48 := g44.trans ((⟨x46, ex_refl _, gh46, fun _ _ => rfl⟩ : Gr G44 H44 G44 H46).trans (g47.trans (n48.gr0 g47.gh)))
      have hA48 := hA43.up T48.gg
      have hB48 := hB43.up T48.gg
      have pA48 := rowO_all T48.gg pA43
      have pn48 := pn43.gr T48
      have tb48 := tb43.gr T48
      have gh48 := T48.gh
      clear T48 x46 hd46 gh46 shA shL av hL46 n46 g44 d44 h47 gD47 hD47 g47 n48 hA43 hB43 pA43 rA43 pn43 tb43 gh43
      -- a table of another size
      refine ⟨by decide, fun z z0 z5 ez => ?_⟩
      obtain ⟨m, hm⟩ : ∃ m : Nat, (1 + z : Int) = (m : Int) := ⟨(1 + z).toNat, by omega⟩
      have mn : m ≠ n := by omega
      have m1 : 1 ≤ m := by omega
      have m5 : m ≤ 5 := by omega
      refine ⟨G47, p, _, m, (by show [V.ref p, V.int (1 + z)] = _; rw [hm]), gh48, pn48, by omega, m5, fun l2 vs2 R2 G50 H50 hl2 gl2 nl2 pR2 lR2 sR2 gR2 g50 pn50 => ?_⟩
      have p2 := pn48.off nl2
      have lv2 : vs2.length = m := by rw [paired_len pR2, lR2]
      refine ⟨vs2, Or.inl (SqL.of hl2), ?_⟩
      rw [lv2]
      refine ⟨⟨by omega, by omega⟩, ?_⟩
      refine ⟨fun k σ H => ∃ (G : Hp) (vs : List V) (R : List (List (Option Int))) (y11 : Option V), GrM p G47 H48 G H ∧ Pen K ("turn" : PySem.Str) ("rest" : PySem.Str) G H p (3000 * i + 2900) ∧ H l2 = some (.lst vs) ∧ G l2 = none ∧ Paired (RowO G) vs R ∧ R.length = m ∧ (∀ r ∈ R, r.length = m ∧ ∀ x ∈ r, goodA x) ∧ σ = [some (.ref a), some (.ref p), some (.int (0 + (i : Int))), some (.int (1 + w)), some (.ref la), some (.ref b0), y6, some (.ref y), some (.ref y2), some (.ref D20), y10, y11, some (.ref D21), y13, some (.ref l2), y15, y16, y17], ⟨G50, vs2, R2, _, g50, pn50.up (by omega), hl2, gl2, pR2, lR2, (fun r hr => ⟨(sR2 r hr).trans lR2, gR2 r hr⟩), rfl⟩, fun _ _ _ _ _ => trivial, ?_, ?_⟩
      · rintro k v σ H Hk hk ⟨G, vs, R, y11, gq, pnq, hl, gl, pR, lR, oR, rfl⟩ ⟨rfl, rfl⟩
        have hkn : k < n ∧ k < m := by
          have : k < (min (1 + w) (m : Int)).toNat := hk
          omega
        have hlA : G la = some (.lst wsA) := gq.gg _ _ pA48.1
        obtain ⟨va, hva, ba, rfl, hba⟩ := paired_get (rowO_up gq.gg pA48.2) (show A[k]? = some A[k] from List.getElem?_eq_getElem (by rw [tA.len]; exact hkn.1))
        obtain ⟨vr, hvr, br, rfl, hbr⟩ := paired_get pR (show R[k]? = some R[k] from List.getElem?_eq_getElem (by rw [lR]; exact hkn.2))
        have lvs : vs.length = m := by rw [paired_len pR, lR]
        have la1 : (A[k]'(by rw [tA.len]; exact hkn.1)).length = n := by rw [tA.sq _ (List.getElem_mem _), tA.len]
        have lr1 := oR _ (List.getElem_mem (l := R) (n := k) (by rw [lR]; exact hkn.2))
        refine ⟨wsA, _, Or.inl (SqL.of (gq.gh _ _ hlA)), atI_z hva, ?_⟩
        refine ⟨vs, _, Or.inl (SqL.of hl), atI_z hvr, ?_⟩
        refine ⟨_, Or.inl ⟨SqL.of (gq.gh _ _ hbr), fun q1 H1 nq1 => ?_⟩⟩
        refine Or.inl ⟨_, _, nq1.ex _ _ (gq.gh _ _ hba), nq1.at, ?_, fun q2 H2 nq2 => ?_⟩
        · rw [hn, cut_fromL, List.length_map, List.length_drop, List.length_map, la1, lr1.1]
          exact Nat.le_trans (show n + (m - n) ≤ 10 by omega) (szr (n := 10) (by decide +kernel))
        refine ⟨vs, Or.inl (SqL.of (nq2.ex _ _ (nq1.ex _ _ hl))), ?_⟩
        refine ⟨_, Or.inl ⟨SqL.of nq2.at, fun q3 H3 nq3 => ?_⟩⟩
        have g1 := (nq1.gr0 gq.gh).trans (nq2.gr0 (nq1.gr0 gq.gh).gh)
        have g3 := g1.trans (nq3.gr g1.gh)
        have hl3 : H3 l2 = some (.lst vs) := g3.hh _ _ hl
        refine ⟨vs, k, hl3, ?_, fun H4 c4 => ?_⟩
        · rw [ixN_gz (by omega) (by omega)]
          exact congrArg some (by omega)
        have gl3 := g3.free (some_ne hl) gl
        refine ⟨_, vs.set k (.ref q3), R.set k ((A[k] ++ (R[k]).drop n).take m), _, ?_, ?_, c4.at, gl3, ?_, ?_, ?_, rfl⟩
        · rw [c4.eq]
          exact (gq.trans (g3.m p)).loc nl2 gl3
        · exact (pnq.gr g3).mut c4 p2
        · exact paired_setT ⟨q3, rfl, by rw [hn, lvs, cut_row]; exact upd_same⟩ k (rowO_up g3.gg pR)
        · rw [List.length_set]; exact lR
        · intro r hr
          rcases List.mem_or_eq_of_mem_set hr with hr | rfl
          · exact oR r hr
          · refine ⟨by rw [List.length_take, List.length_append, List.length_drop, la1, lr1.1]; omega, fun x hx => ?_⟩
            rcases List.mem_append.mp (List.mem_of_mem_take hx) with hx | hx
            · exact fun i e => ⟨hA48.ok _ (List.getElem_mem _) x hx i e, A2 _ (List.getElem_mem _) x hx i e⟩
            · exact lr1.2 x (List.mem_of_mem_drop hx)
      rintro σ H51 ⟨G51, vs, R, y11', gq, pnq, hl, gl, pR, lR, oR, rfl⟩
      have T51 := gq.frz nl2 gl hl
      have pn51 := pnq.frz (o := .lst vs) p2 gl
      have rR : RowL K (upd G51 l2 (.lst vs)) (.ref l2) R := rowO_L gl pR
      clear gq pnq pR hl
      generalize upd G51 l2 (.lst vs) = G52 at T51 pn51 rR
      have tR : Tn m R := ⟨lR, fun r hr => by rw [lR]; exact (oR r hr).1⟩
      have R0 : AllE (0 ≤ ·) R := fun r hr x hx i e => ((oR r hr).2 x hx i e).1
      have gh51 := T51.gh
      refine fun z' dz' H53 md => ⟨G52, z', dz', .ref l2, R, rfl, ex_trans gh51 md.ex, ex_none gh51 md.nx, md.at, rR.at, tR.sq, by rw [tR.len]; exact m1, by rw [tR.len]; exact m5, R0, fun ent G54 H54 g54 hx54 d54 => ⟨rfl, ?_⟩⟩
      obtain ⟨G55, g55, hW⟩ := made_tab md gh51 g54 hx54 d54 tR R0
      have T55 := T51.trans (g55.m p)
      have hA55 := hA48.up T55.gg
      have hB55 := hB48.up T55.gg
      have pn55 := pn51.gr g55
      have tb55 := tb48.pen pn48 T55
      have gh55 := T55.gh
      clear T51 T55 g55 gh51 md g54 hx54 d54 pn51 pn48 tb48 gh48 hA48 hB48 pA48 g50 pn50 hl2 gl2 nl2 pR2 sR2 gR2
      have neW : A ≠ R := fun z => mn (by rw [← tR.len, ← z, tA.len])
      -- unlike the other one
      refine ⟨⟨_, _, gh55 _ _ hA55.ins⟩, side_own (gh55 _ _ hW.ins), G55, y, A, .ref z', rfl, gh55, hA55.t, Or.inl ⟨z', R, rfl, hW.t, ?_⟩⟩
      rw [decide_eq_false neW]
      refine ⟨⟨_, _, gh55 _ _ hW.ins⟩, side_own (gh55 _ _ hA55.ins), G55, z', R, .ref y, rfl, gh55, hW.t, Or.inl ⟨y, A, rfl, hA55.t, ?_⟩⟩
      rw [decide_eq_false (fun z => neW z.symm)]
      refine ⟨⟨_, _, gh55 _ _ hA55.ins⟩, side_own (gh55 _ _ hW.ins), G55, y, A, .ref z', rfl, gh55, hA55.t, Or.inl ⟨z', R, rfl, hW.t, ?_⟩⟩
      rw [decide_eq_false neW]
      -- refused
      refine ⟨tb55.tabs, fun f1 K1 k1 t1 q1 l1 => ?_⟩
      obtain ⟨g56, tb56⟩ := tb55.lam inT k1 t1 gh55
      have pn56 := pn55.tab tb55 inT g56
      refine ⟨szr (n := 1) (by decide +kernel), fun lc H57 n57 => ?_⟩
      have l1 := l1.up n57.ex
      have pne : p ≠ lc := pn56.off n57.fresh
      have lcn : G55 lc = none := n57.gnone g56.gh
      have g57 := n57.gr0 g56.gh
      have tb57 := tb56.gr g57
      have pn57 := pn56.gr g57
      have gh57 := g57.gh
      have hL57 : H57 lc = some (.lst [.ref f1]) := n57.at
      clear g56 g57 n57 tb56 pn56 q1 t1 k1 pn55 tb55
      refine ⟨⟨_, SqL.of hL57⟩, ?_⟩
      refine ⟨tb57.tabs, fun f2 K2 k2 t2 n2 l2' => ?_⟩
      obtain ⟨ps2, eP2, _⟩ := tb57.tabs _ inT_law
      have eP2 : H57 373 = some (.tbl ps2) := eP2
      have lP2 : lc ≠ 373 := fun z => by rw [z, eP2] at hL57; cases hL57
      have nl2 : NoLam (H57 373) := by rw [eP2]; exact noLam_tbl
      have l1 := l1.step k2 nl2
      have hK2 : K2 lc = some (.lst [.ref f1]) := k2 _ _ lP2 hL57
      obtain ⟨gk2, tk2⟩ := tb57.lam inT k2 t2 gh57
      have pk2 := pn57.tab tb57 inT gk2
      refine ⟨_, hK2, Nat.lt_of_lt_of_le (show 1 < 5 by decide) (szr (n := 5) (by decide +kernel)), fun H58 c58 => ?_⟩
      have nm2 : NoLam (K2 lc) := by rw [hK2]; exact noLam_lst
      have l1 := l1.step c58.keep nm2
      have l2' := l2'.step c58.keep nm2
      have tb58 := tk2.step c58.keep hK2
      have pn58 := pk2.step c58.keep pne
      have gh58 : Ex G55 H58 := by rw [c58.eq]; exact gk2.gh.newer lcn
      have hL58 : H58 lc = some (.lst [.ref f1, .ref f2]) := c58.at
      clear gk2 tk2 pk2 c58 nm2 nl2 hK2 eP2 lP2 tb57 pn57 gh57 hL57 k2 t2 n2
      refine ⟨⟨_, SqL.of hL58⟩, ?_⟩
      refine ⟨tb58.tabs, fun f3 K3 k3 t3 n3 l3 => ?_⟩
      obtain ⟨ps3, eP3, _⟩ := tb58.tabs _ inT_law
      have eP3 : H58 373 = some (.tbl ps3) := eP3
      have lP3 : lc ≠ 373 := fun z => by rw [z, eP3] at hL58; cases hL58
      have nl3 : NoLam (H58 373) := by rw [eP3]; exact noLam_tbl
      have l1 := l1.step k3 nl3
      have l2' := l2'.step k3 nl3
      have hK3 : K3 lc = some (.lst [.ref f1, .ref f2]) := k3 _ _ lP3 hL58
      obtain ⟨gk3, tk3⟩ := tb58.lam inT k3 t3 gh58
      have pk3 := pn58.tab tb58 inT gk3
      refine ⟨_, hK3, Nat.lt_of_lt_of_le (show 2 < 5 by decide) (szr (n := 5) (by decide +kernel)), fun H59 c59 => ?_⟩
      have nm3 : NoLam (K3 lc) := by rw [hK3]; exact noLam_lst
      have l1 := l1.step c59.keep nm3
      have l2' := l2'.step c59.keep nm3
      have l3 := l3.step c59.keep nm3
      have tb59 := tk3.step c59.keep hK3
      have pn59 := pk3.step c59.keep pne
      have gh59 : Ex G55 H59 := by rw [c59.eq]; exact gk3.gh.newer lcn
      have hL59 : H59 lc = some (.lst [.ref f1, .ref f2, .ref f3]) := c59.at
      clear gk3 tk3 pk3 c59 nm3 nl3 hK3 eP3 lP3 tb58 pn58 gh58 hL58 k3 t3 n3
      refine ⟨true, _, SqL.of hL59, ?_⟩
      refine lc_pure gh59 (fun k G acc => acc = []) (szr (n := 3) (by decide +kernel)) rfl (fun k G acc h => by rw [h]; exact Nat.zero_le _) (fun G' H' g => SqL.of (g.hh _ _ hL59)) ?_ ?_
      · rintro k v Gq Hq' Hq acc hk gq rfl ⟨rfl, hx⟩ R1 R2' r1 r2
        have hAq := hA55.up gq.gg
        have hWq := hW.up gq.gg
        have fin : ∀ H', Ex Hq H' → R2' H' := fun H' x => r2 Gq H' (⟨x, ex_refl _, ex_trans gq.gh x, fun _ _ => rfl⟩ : Gr Gq Hq Gq H') rfl
        refine ⟨rfl, ?_⟩
        match k, hx, hk with
        | 0, hx, _ =>
          cases hx
          refine Or.inl ⟨l1.up gq.hh, ?_⟩
          refine ⟨_, _, _, _, gq.gh _ _ hAq.ins, gq.gh _ _ hWq.ins, Gq, y, z', A, R, rfl, gq.gh, hAq.t, hWq.t, Or.inr ⟨by rw [tA.len, tR.len]; exact fun z => mn z.symm, ?_⟩⟩
          exact ⟨rfl, rfl, fun H' x => fin H' x⟩
        | 1, hx, _ =>
          cases hx
          refine Or.inr (Or.inl ⟨l2'.up gq.hh, ?_⟩)
          refine ⟨_, _, _, _, gq.gh _ _ hWq.ins, gq.gh _ _ hAq.ins, Gq, z', y, R, A, rfl, gq.gh, hWq.t, hAq.t, Or.inr ⟨by rw [tA.len, tR.len]; exact mn, ?_⟩⟩
          exact ⟨rfl, rfl, fun H' x => fin H' x⟩
        | 2, hx, _ =>
          cases hx
          refine Or.inr (Or.inr (Or.inl ⟨l3.up gq.hh, ?_⟩))
          refine ⟨_, _, _, _, gq.gh _ _ hAq.ins, gq.gh _ _ hWq.ins, Gq, y, z', A, R, rfl, gq.gh, hAq.t, hWq.t, Or.inr ⟨by rw [tA.len, tR.len]; exact fun z => mn z.symm, ?_⟩⟩
          exact ⟨rfl, rfl, fun H' x => fin H' x⟩
        | k + 3, hx, _ => cases hx
      rintro D60 G60 H60 acc60 g60 hD60 gD60 h60 rfl
      refine ⟨szr (n := 0) (by decide +kernel), fun l61 H61 n61 => ?_⟩
      refine Or.inr ⟨.list [], .list [], .lst (SqL.of (n61.ex _ _ h60)) .nil, .lst (SqL.of n61.at) .nil, rfl, rfl, ?_⟩
      have g61 := g60.trans (n61.gr0 g60.gh)
      exact ⟨G60, _, _, _, _, _, _, _, _, _, _, _, _, _, _, _, _, g61.gh, (pn59.gr g61).up (by omega), tb59.gr g61, rfl⟩
    · rintro σ H2 _
      exact q _
end
end k03

set_option maxHeartbeats 4000000
namespace k03
open PySem PySem.Spec PyProof.Rows L2 Ech
open He (ga ma)
theorem facts {P : Program} {w : World} {K : PySem.W.Frag} {h : Heap} {mg : PySem.Str → Option Value} {f : Addr} (X : K.In h) (G : h.Ns mainGlobals mg) (hfa : mg ("law" : PySem.Str) = some (.ref f)) (c : SaysB fa fn K) :
    ∃ fd : FuncData, (∀ (s : Shared) (v : Value), BindsTo s fd ⟨[v], []⟩ [("_law_script", v)]) ∧ ∀ base : Heap, TBs base mg → FnG P w K mg base CX0 12 f fd ["_law_script"] (sp_law K) := by
  have e : Ev K mg := ⟨c, h, X, G⟩
  have z := hfa.symm.trans (gl_law e)
  cases z
  have b := FunD.bindsA (ps := ["_law_script"]) (F_law e) fun _ _ _ _ _ _ us hl => match us, hl with | [_], _ => rfl
  exact ⟨_, fun s v => b s [v] rfl, fun base tb => ok_law e tb⟩
end k03
open PySem PySem.W PySem.Calls PyProof.Rows
theorem PySem.Challenge.cw_echofold_k03_tables_composed_added_turne_holds : PySem.Challenge.rw_echofold_k03_tables_composed_added_turne.Holds := by
  w_on; o_law
  refine HandSHeadRun.head_any (r := OpenLaw.row PySem.Challenge.rw_echofold_k03_tables_composed_added_turne) (q := view (OpenLaw.row PySem.Challenge.rw_echofold_k03_tables_composed_added_turne).prog [38]) (H := k03.hk) (ob := k03.ob) (M := 20000) (loose := k03.lo) (d := HandSHeadRun.topDef (OpenLaw.row PySem.Challenge.rw_echofold_k03_tables_composed_added_turne).prog 38) (kwd := []) k03.ob_eq
    (by kernel_rfl) (fun s => by kernel_rfl) k03.run (by kernel_rfl) (by kernel_rfl) (by kernel_rfl) (by rfl) (by first | assumption | decide +kernel) (by decide +kernel) ⟨rfl, rfl, rfl, rfl, rfl, by decide +kernel⟩ ?hw ?hc
  case hw => w_witness2
  case hc =>
    refine Ech.law_endT (l := PySem.Challenge.rw_echofold_k03_tables_composed_added_turne) (n := 63) (k := 12) (x := "_law_script") rfl (by decide) (by kernel_rfl) ⟨rfl, by decide, by decide⟩ ?F
    intro w mg fa h Y G hmg0
    obtain ⟨K, KX, c, tabs⟩ := Y
    have hmg : mg ("law" : PySem.Str) = some (.ref fa) := by
      have e : (HandSHeadRun.topDef (OpenLaw.row PySem.Challenge.rw_echofold_k03_tables_composed_added_turne).prog 38).name = ("law" : PySem.Str) := by kernel_rfl
      rw [← e]
      exact hmg0
    obtain ⟨fd, hb, hF⟩ := k03.facts (P := (PySem.Challenge.rw_echofold_k03_tables_composed_added_turne).prog) (w := w) KX G hmg c
    have e : k03.Ev K mg := ⟨c, h, KX, G⟩
    refine ⟨K, fd, k03.sp_law K, k03.cs_, KX, ?_, hb, fun H a ns hl et hS => ⟨a, ns, rfl, hS, hl, ?_, fun _ => rfl⟩, fun base _ _ tb => hF base tb⟩
    · intro z hz
      simp only [k03.cs_, List.mem_cons, List.not_mem_nil, or_false] at hz
      rcases hz with rfl
      · exact ⟨tabs _ (by simp [k03.ts_]), Option.isNone_iff_eq_none.mp (k03.nt_law e), Ech.codeHdB_ok KX (k03.chd_law e)⟩
    · intro z hz
      simp only [k03.T_, List.mem_cons, List.not_mem_nil, or_false] at hz
      rcases hz with rfl
      · exact et _ k03.mem_law

