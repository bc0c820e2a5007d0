import PyProof.Rows.All
import Wide.All
import OpenK.AllK
import Wide.FinOn
import HandS.ForMost
import HandS.ForExc
import HandS.Wide
import HandS.NoneIn
import HandS.IsInst
import HandS.More
import HandS.RaiseMore
import HandS.DictComp
import HandS.ListItems
import HandS.CallSlots
import HandS.FStr
import HandS.Walk
import HandS.Evl
import HandS.ExcInit
import HandS.Defaults
import PySem.Challenge.RW_oneroof_k05_purses_worth
set_option Elab.async false
set_option linter.all false
set_option maxRecDepth 100000
set_option maxHeartbeats 4000000
namespace Rf
open PySem PySem.Spec PyProof.Rows L2
/-! ## operators whatever the kinds of the operands are -/
section
variable {X : Cx}
abbrev rStrAdd : R2 := fun x y H Q => ∃ i j, x = .str i ∧ y = .str j ∧ i.length + j.length ≤ sizeLine ∧ Q (.str (i ++ j)) H
def uAdd : R2 := fun x y H Q => rI0 (fun i j => .int (i + j)) x y H Q ∨ (rStrAdd x y H Q ∨ rCat x y H Q)
theorem uq_add : OpR X (binaryOp .Add) uAdd := OpR.or op_add (OpR.or op_add_str op_cat)
def uSub : R2 := rI0 fun i j => .int (i - j)
theorem uq_sub : OpR X (binaryOp .Sub) uSub := op_sub
def uMul : R2 := fun x y H Q => rI CMul (fun i j => .int (i * j)) x y H Q ∨ rI CMulW (fun i j => .int (i * j)) x y H Q
theorem uq_mul : OpR X (binaryOp .Mult) uMul := OpR.or op_mul op_mulW
def uFdiv : R2 := fun x y H Q => rI CDiv (fun i j => .int (i / j)) x y H Q ∨ rI CDivW (fun i j => .int (i / j)) x y H Q
theorem uq_fdiv : OpR X (binaryOp .FloorDiv) uFdiv := OpR.or op_fdiv op_fdivW
def uMod : R2 := rI (fun _ j => 0 < j) fun i j => .int (i % j)
theorem uq_mod : OpR X (binaryOp .Mod) uMod := op_mod
def uPow : R2 := rI CPow fun i j => .int (i ^ j.toNat)
theorem uq_pow : OpR X (binaryOp .Pow) uPow := op_pow
def uLt : R2 := rI0 fun i j => .bl (decide (i < j))
theorem uq_lt : OpR X (compareOp .Lt) uLt := op_lt
def uLe : R2 := rI0 fun i j => .bl (decide (i ≤ j))
theorem uq_le : OpR X (compareOp .LtE) uLe := op_le
def uGt : R2 := rI0 fun i j => .bl (decide (j < i))
theorem uq_gt : OpR X (compareOp .Gt) uGt := op_gt
def uGe : R2 := rI0 fun i j => .bl (decide (j ≤ i))
theorem uq_ge : OpR X (compareOp .GtE) uGe := op_ge
def uEq (K : PySem.W.Frag) : R2 := fun x y H Q => rEq x y H Q ∨ (rEqD K x y H Q ∨ rEqDA x y H Q)
theorem uq_eq {K : PySem.W.Frag} {k : Nat} (hr : Room k X.A) (hK : X.K = K := by rfl) : OpR X (compareOp .Eq) (uEq K) := by subst hK; exact OpR.or op_eq (OpR.or (op_eqD hr.units) (op_eq_dictA hr.units0))
def uNe (K : PySem.W.Frag) : R2 := fun x y H Q => rNe x y H Q ∨ (rNeD K x y H Q ∨ rNeDA x y H Q)
theorem uq_ne {K : PySem.W.Frag} {k : Nat} (hr : Room k X.A) (hK : X.K = K := by rfl) : OpR X (compareOp .NotEq) (uNe K) := by subst hK; exact OpR.or op_ne (OpR.or (op_neD hr.units) (op_ne_dictA hr.units0))
/-- y in a dict, by values -/
def rDIn : R2 := fun y x H Q => ∃ a o, x = .ref a ∧ DGet H a y o ∧ Q (.bl o.isSome) H
def rDNotIn : R2 := fun y x H Q => ∃ a o, x = .ref a ∧ DGet H a y o ∧ Q (.bl (!o.isSome)) H
theorem op_dIn (hu : X.A.units + 1 < cLine) : OpR X (compareOp .In) rDIn := by
  intro pins s σ H y x iv u Q I ry rx h
  obtain ⟨a, ov, ex, g, q⟩ := h
  subst ex
  cases (show u = Value.ref a from rx)
  exact d_in hu I g ry fun s3 I3 => ⟨.bl ov.isSome, H, I3, rfl, q⟩
theorem op_dNotIn (hu : X.A.units + 1 < cLine) : OpR X (compareOp .NotIn) rDNotIn := by
  intro pins s σ H y x iv u Q I ry rx h
  obtain ⟨a, ov, ex, g, q⟩ := h
  subst ex
  cases (show u = Value.ref a from rx)
  exact d_notIn hu I g ry fun s3 I3 => ⟨.bl (!ov.isSome), H, I3, rfl, q⟩
abbrev rSignIn : R2 := fun x y H Q => ∃ (c : Nat) (z : Str), x = .str ⟨#[c]⟩ ∧ y = .str z ∧ Q (.bl (decide (c ∈ z.cps.toList))) H
abbrev rSignNotIn : R2 := fun x y H Q => ∃ (c : Nat) (z : Str), x = .str ⟨#[c]⟩ ∧ y = .str z ∧ Q (.bl (!decide (c ∈ z.cps.toList))) H
def uIn (K : PySem.W.Frag) : R2 := fun x y H Q => rDIn x y H Q ∨ (rIn K false x y H Q ∨ rSignIn x y H Q)
theorem uq_in {K : PySem.W.Frag} (hu : X.A.units + 1 < cLine) (hK : X.K = K := by rfl) : OpR X (compareOp .In) (uIn K) := by subst hK; exact OpR.or (op_dIn hu) (OpR.or op_in_seq op_in_sign)
def uNotIn (K : PySem.W.Frag) : R2 := fun x y H Q => rDNotIn x y H Q ∨ (rIn K true x y H Q ∨ rSignNotIn x y H Q)
theorem uq_notin {K : PySem.W.Frag} (hu : X.A.units + 1 < cLine) (hK : X.K = K := by rfl) : OpR X (compareOp .NotIn) (uNotIn K) := by subst hK; exact OpR.or (op_dNotIn hu) (OpR.or op_notIn_seq op_notIn_sign)
def uIs : R2 := fun x y H Q => y = .non ∧ Q (.bl (decide (x = .non))) H
theorem uq_is : OpR X (compareOp .Is) uIs := op_isN
def uIsNot : R2 := fun x y H Q => y = .non ∧ Q (.bl (!decide (x = .non))) H
theorem uq_isnot : OpR X (compareOp .IsNot) uIsNot := op_notN
/-! ## subscripts -/
def rIxDict : R2 := fun x y H Q => ∃ a v, x = .ref a ∧ DGet H a y (some v) ∧ Q v H
theorem ix_dict (hu : X.A.units + 1 < cLine) : IxR X rIxDict := by
  intro value slice pins s σ H x y v u Q I rx ry h hs
  obtain ⟨a, w, ex, g, q⟩ := h
  subst ex
  cases (show v = Value.ref a from rx)
  have hT := dict_typeIs I g
  unfold subscriptTail
  refine wpAny_bind ?_
  rw [getitemInPython_of_ne hT.not_modules]
  refine wpAny_bind (wpAny_specialOf hT PySem.F.slot_dict_getitem.lookup ?_)
  have fin : wpAny (model X.prog X.w) X.A (subscripted slice false (.ref a) u) (fun r s₃ => wpAny (model X.prog X.w) X.A (letTemporaryGo value (.ref a) r >>= fun _ => pure r) (EP X pins σ Q) X.xe s₃) X.xe s := by
    rw [hs]
    exact wpAny_operating (d_getItem hu I g ry fun w' s3 I3 rw' => wpAny_bind (wpAny_letTemporaryGo (wpAny_pure ⟨w, H, I3, rw', q⟩)))
  first
    | exact wpAny_pure (wpAny_bind fin)
    | exact wpAny_bind (wpAny_pure (wpAny_bind fin))
    | exact wpAny_bind fin
def uIx (K : PySem.W.Frag) : R2 := fun x y H Q => rIxL K x y H Q ∨ (rIxT K x y H Q ∨ (rIxS x y H Q ∨ rIxDict x y H Q))
theorem uq_ix {K : PySem.W.Frag} (hu : X.A.units + 1 < cLine) (hK : X.K = K := by rfl) : IxR X (uIx K) := by subst hK; exact IxR.or ix_list (IxR.or ix_tup (IxR.or ix_str (ix_dict hu)))
def uSl (K : PySem.W.Frag) : V → Option Int → Option Int → Hp → VK → Prop := fun x lo hi H Q => rSlL K x lo hi H Q ∨ (rSlS x lo hi H Q ∨ rSlT K x lo hi H Q)
theorem uq_sl {K : PySem.W.Frag} (hK : X.K = K := by rfl) : SlR X (uSl K) := by subst hK; exact SlR.or sl_list (SlR.or sl_str sl_tup)
/-! ## stores -/
def rSetD : V → V → V → Hp → (Hp → Prop) → Prop := fun o y v H Q => ∃ a H', o = .ref a ∧ DPut H a y v H' ∧ Q H'
def uSet : V → V → V → Hp → (Hp → Prop) → Prop := fun o i v H Q => rSetL o i v H Q ∨ rSetD o i v H Q
/-! ## calls of built-ins -/
abbrev rLenD : List V → Hp → VK → Prop := fun xs H Q => ∃ a kvs, xs = [V.ref a] ∧ H a = some (.dK kvs) ∧ Q (.int kvs.length) H
def uLen (K : PySem.W.Frag) : List V → Hp → VK → Prop := fun xs H Q => (∃ x n, xs = [x] ∧ LenV K x H n ∧ Q (.int n) H) ∨ rLenD xs H Q
theorem uc_len {K : PySem.W.Frag} (hK : X.K = K := by rfl) : CallR X (.builtin "len") (uLen K) := by subst hK; exact CallR.or call_len call_lenD
def uAbs : List V → Hp → VK → Prop := fun xs H Q => ∃ i, xs = [.int i] ∧ Q (.int (if i < 0 then -i else i)) H
theorem uc_abs : CallR X (.builtin "abs") uAbs := call_abs
def uMax2 : List V → Hp → VK → Prop := fun xs H Q => ∃ i j, xs = [.int i, .int j] ∧ Q (.int (if j > i then j else i)) H
def uMin2 : List V → Hp → VK → Prop := fun xs H Q => ∃ i j, xs = [.int i, .int j] ∧ Q (.int (if j < i then j else i)) H
theorem uc_max2 (hc : X.calm = true := by rfl) : CallR X (.builtin "max") uMax2 := call_max2 hc
theorem uc_min2 (hc : X.calm = true := by rfl) : CallR X (.builtin "min") uMin2 := call_min2 hc
end
end Rf

namespace Rf
open PySem PySem.Spec PyProof.Rows L2
/-! ## a def's promise where nothing is being shown (no repr runs around) and exceptions may leave -/
abbrev Quiet (A : Around) : Prop := A.guards = some []
structure Fn (P : Program) (w : World) (K : PySem.W.Frag) (mg : Str → Option Value) (base : Heap) (k : Nat) (f : Addr) (fd : FuncData) (ps : List Str) (sp : Sp) : Prop where
  len : ∀ vs H Q E, sp vs H Q E → vs.length = ps.length
  go : ∀ (A : Around) (outer : List Env) (s : Shared) (H : Hp) (args : Args) (us : List Value) (vs : List V) (Q : VK) (E : XK), Room k A → Quiet A →
    Env0 P w K mg base A outer s H → BindsTo s fd args (ps.zip us) → Vals vs us → sp vs H Q E →
    codeAny (model P w) A (.call (.ref f) args) (CR (L2.CX P w) outer P w H s Q E) s
section
variable {P : Program} {w : World} {K : PySem.W.Frag} {mg : Str → Option Value} {base : Heap}
theorem Fn.up {i j : Nat} {f : Addr} {fd : FuncData} {ps : List Str} {sp : Sp} (F : Fn P w K mg base i f fd ps sp) (h : i ≤ j) : Fn P w K mg base j f fd ps sp :=
  ⟨F.len, fun A outer s H args us vs Q E hr => F.go A outer s H args us vs Q E (hr.mono h)⟩
theorem Fn.weak {i : Nat} {f : Addr} {fd : FuncData} {ps : List Str} {sp sp' : Sp} (F : Fn P w K mg base i f fd ps sp) (h : ∀ vs H Q E, sp' vs H Q E → sp vs H Q E) : Fn P w K mg base i f fd ps sp' :=
  ⟨fun vs H Q E q => F.len vs H Q E (h _ _ _ _ q), fun A outer s H args us vs Q E hr hG he hb hv hs => F.go A outer s H args us vs Q E hr hG he hb hv (h _ _ _ _ hs)⟩
/-- a def of the text by its body -/
theorem fn_body {k : Nat} {f : Addr} {name qual : Str} {params : Arguments} {body : List Stmt} {scope : Scope} {dV kV doc pm cdv ct oc : Value} {an od : Option Addr} {osl : Array (Option Value)} {N ps : List Str} {sp : Sp}
    (hf : K.lookup f = some ⟨oc, od, .func (PySem.W.fnOf name qual params body scope dV kV doc pm an cdv ct), osl⟩) (hcode : PySem.W.codeIn K cdv qual = true) (S : FnScope N ps scope)
    (hlen : ∀ vs H Q E, sp vs H Q E → vs.length = ps.length)
    (hb : ∀ (A : Around) (outer : List Env) (s : Shared) (H : Hp) (vs : List V) (Q : VK) (E : XK), Room k (A.deeper (envOfC qual scope s.heap.objs.size f cdv)) → Quiet (A.deeper (envOfC qual scope s.heap.objs.size f cdv)) → sp vs H Q E →
      ∃ t, PSs (cxOf (L2.CX P w) P w K mg base N qual scope f cdv A outer s H E) body t ∧ t { nx := fun _ H' => Q .non H', rt := Q } (start N vs) H) :
    Fn P w K mg base (k + 1) f (PySem.W.fnOf name qual params body scope dV kV doc pm an cdv ct) ps sp := by
  refine ⟨hlen, ?_⟩
  intro A outer s H args us vs Q E hr hG e0 hbind r hsp
  have hin : K.In s.heap := e0.mod.kin.keeps fun b o e => (e0.bs b o e).1
  have hnl : s.heap.NoLimit := e0.mod.nolimit.keeps fun b o e => (e0.bs b o e).1
  have hnames : ∀ y ∈ ps.zip us, scope.names.lookup y.1 = some .local ∨ (scope.names.lookup y.1 = some .cell ∧ ((cellsFrom (s.heap.objs.size + 1) scope.names []).lookup y.1).isSome = true) := by
    rintro ⟨n, v⟩ hy
    cases S.par n (List.of_mem_zip hy).1 with
    | inl q => exact Or.inl q
    | inr q => exact Or.inr ⟨q, PySem.W.cellsFrom_some _ _ _ (Or.inl q)⟩
  refine codeAny_call_function hr.depth (hin _ _ hf) rfl S.co S.gen rfl (PySem.W.codeRec_of hin hcode) (hbind _ _ _ _ ?_)
  refine wpAny_newFunctionEnv_cells S.kind hnames fun env he s1 x => ?_
  subst he
  refine ⟨hnl.keeps x.toInCall.keep, codeAny_func ?_⟩
  obtain ⟨t, ht, hq⟩ := hb A outer s H vs Q E (hr.deeper _) hG hsp
  have I0 := inv_start (CX := L2.CX P w) (E := E) S hr.hd e0 (hlen _ _ _ _ hsp) r x
  refine wpAny_mono (ht.run [] s1 (start N vs) H _ I0 hq) ?_ (fun e s' hs => hs)
  intro fl s' hs
  cases fl with
  | ret u =>
    obtain ⟨v, σ', H', J, rv, q⟩ := hs
    exact ⟨v, H', J.os, J.bare, J.base, J.hok, rv, q⟩
  | next =>
    obtain ⟨σ', H', J, q⟩ := hs
    exact ⟨V.non, H', J.os, J.bare, J.base, J.hok, rfl, q⟩
  | brk =>
    obtain ⟨_, _, _, q⟩ := hs
    exact q.elim
  | cont =>
    obtain ⟨_, _, _, q⟩ := hs
    exact q.elim
/-- a def of the text, as it stands behind the top -/
structure Src (K : PySem.W.Frag) (x qual : Str) (st : Stmt) (f : Addr) (fd : FuncData) : Prop where
  ex : ∃ (oc : Value) (od : Option Addr) (dV kV doc pm : Value) (an : Option Addr) (cdv ct : Value) (osl : Array (Option Value)),
    fd = PySem.W.fnOf x qual (defArgs st) (defBody st) (defScope st) dV kV doc pm an cdv ct ∧ K.lookup f = some ⟨oc, od, .func fd, osl⟩ ∧ PySem.W.codeIn K cdv qual = true
theorem Src.fn {x qual : Str} {st : Stmt} {f : Addr} {fd : FuncData} {N ps : List Str} {k : Nat} {sp : Sp} (F : Src K x qual st f fd) (S : FnScope N ps (defScope st)) (hlen : ∀ vs H Q E, sp vs H Q E → vs.length = ps.length)
    (hb : ∀ (cdv : Value) (A : Around) (outer : List Env) (s : Shared) (H : Hp) (vs : List V) (Q : VK) (E : XK), Room k (A.deeper (envOfC qual (defScope st) s.heap.objs.size f cdv)) → Quiet (A.deeper (envOfC qual (defScope st) s.heap.objs.size f cdv)) → sp vs H Q E →
      ∃ t, PSs (cxOf (L2.CX P w) P w K mg base N qual (defScope st) f cdv A outer s H E) (defBody st) t ∧ t { nx := fun _ H' => Q .non H', rt := Q } (start N vs) H) : Fn P w K mg base (k + 1) f fd ps sp := by
  obtain ⟨oc, od, dV, kV, doc, pm, an, cdv, ct, osl, rfl, lk, hcd⟩ := F.ex
  exact fn_body lk hcd S hlen fun A outer s H vs Q E => hb cdv A outer s H vs Q E
/-- a def that may be called by its name with so many arguments (the rest dvs) -/
structure Cal (P : Program) (w : World) (K : PySem.W.Frag) (mg : Str → Option Value) (base : Heap) (k : Nat) (x : Str) (dvs : List V) (sp : Sp) : Prop where
  ex : ∃ (f : Addr) (fd : FuncData) (ps : List Str) (ds : List Value), Fn P w K mg base k f fd ps sp ∧ mg x = some (.ref f) ∧ PySem.W.keepIn K (.ref f) = true ∧ Binds K fd ps ds ∧ Vals dvs ds
/-- a method of the class at C -/
structure Mtd (P : Program) (w : World) (K : PySem.W.Frag) (mg : Str → Option Value) (base : Heap) (k : Nat) (C : Addr) (m : Str) (dvs : List V) (sp : Sp) : Prop where
  ex : ∃ (f : Addr) (fd : FuncData) (ps : List Str) (ds : List Value), Cls K C ∧ Meth K C m f ∧ Fn P w K mg base k f fd ps sp ∧ Binds K fd ps ds ∧ Vals dvs ds
/-- a class at C that may be made by its name -/
structure Mkr (P : Program) (w : World) (K : PySem.W.Frag) (mg : Str → Option Value) (base : Heap) (k : Nat) (x : Str) (C : Addr) (dvs : List V) (sp : Sp) : Prop where
  ex : ∃ (f : Addr) (fd : FuncData) (ps : List Str) (ds : List Value), Mk K C f ∧ Fn P w K mg base k f fd ps sp ∧ mg x = some (.ref C) ∧ Binds K fd ps ds ∧ Vals dvs ds
end
section
variable {X : Cx} {j k : Nat} {f C : Addr} {fd : FuncData} {ps : List Str} {sp : Sp} {dvs : List V} {ds : List Value} {E : L2.St → XK} {x m : Str} {p pos apos : Pos} {e o : Expr} {es : List Expr} {ta : TE} {t : TA}
abbrev Pas (X : Cx) (E : L2.St → XK) : Prop := ∀ σ, PassesAt (L2.CX X.prog X.w) X σ (E σ)
theorem run_def {pins : List (Addr × Obj)} {σ : L2.St} {H : Hp} {s : Shared} {Q : VK} {us : List Value} {vs : List V} (F : Fn X.prog X.w X.K X.mg X.base k f fd ps sp) (hr : Room k X.A) (hG : Quiet X.A) (hb : Binds X.K fd ps ds) (hd : Vals dvs ds)
    (hx : Pas X E) (I : Inv X pins σ H s) (r : Vals vs us) (h : sp (vs ++ dvs) H Q (E σ)) : wpAny (model X.prog X.w) X.A (call (.ref f) us) (EP X pins σ Q) X.xe s := by
  have rr : Vals (vs ++ dvs) (us ++ ds) := r.append hd
  have hl : (us ++ ds).length = ps.length := rr.length.symm.trans (F.len _ _ _ _ h)
  refine wpAny_call (codeAny_mono (F.go X.A X.stack s H ⟨us, []⟩ (us ++ ds) (vs ++ dvs) Q (E σ) hr hG I.env0 (hb s us I.kIn hl) rr h) ?_)
  rintro (e | fl) s' hq
  · exact hx σ pins H s e s' I hq
  · cases fl with
    | ret u => exact I.after hq
    | next => exact hq.elim
    | brk => exact hq.elim
    | cont => exact hq.elim
def uCall (sp : Sp) (dvs : List V) (E : L2.St → XK) (t : TA) : TE := fun σ H Q => t σ H fun vs H1 => sp (vs ++ dvs) H1 Q (E σ)
theorem ue_call (c : Cal X.prog X.w X.K X.mg X.base k x dvs sp) (hr : Room j X.A) (hk : k ≤ j) (hG : Quiet X.A) (hg : Gl X x) (hx : Pas X E) (ha : PA X (e :: es) t)
    (hdb : (x == ("__debug__" : Str)) = false := by decide) (he : starEach (e :: es) X.env = (false, eval e X.env) :: starEach es X.env := by rfl) (hpl : (backTo pos (starEach es X.env)).any (·.1) = false := by rfl) :
    PE X (.Call (.Name x p) (e :: es) [] pos) (uCall sp dvs E t) := by
  obtain ⟨f, fd, ps, ds, F, hm, kp, b, d⟩ := c.ex
  constructor
  intro pins s σ H Q I h
  refine wpAny_Call_Name_kw (ld_glob I hg hm ?_ hdb)
  refine PySem.W.callWith_K (h₀ := X.base) I.ok.mod.kin kp (thn (ha.run pos pins s σ H _ I h) ?_) he hpl
  rintro us s1 ⟨vs, H1, I1, r, q⟩
  exact ⟨I1.kIn, run_def F (hr.mono hk) hG b d hx I1 r q⟩
theorem ue_call0 (c : Cal X.prog X.w X.K X.mg X.base k x dvs sp) (hr : Room j X.A) (hk : k ≤ j) (hG : Quiet X.A) (hg : Gl X x) (hx : Pas X E) (hdb : (x == ("__debug__" : Str)) = false := by decide) :
    PE X (.Call (.Name x p) [] [] pos) (uCall sp dvs E tNil) := by
  obtain ⟨f, fd, ps, ds, F, hm, kp, b, d⟩ := c.ex
  constructor
  intro pins s σ H Q I h
  refine wpAny_Call_Name_kw (ld_glob I hg hm ?_ hdb)
  exact PySem.W.callWith_K0 I.kIn kp (run_def (us := []) F (hr.mono hk) hG b d hx I .nil h)
/-- o.m(..) -/
def uMeth (C : Addr) (m : Str) (sp : Sp) (dvs : List V) (E : L2.St → XK) (ta : TE) (t : TA) : TE := fun σ H Q => ta σ H fun x H1 => ∃ a dx fs, x = .ref a ∧ H1 a = some (.ins C dx fs) ∧ fs.lookup m = none ∧ t σ H1 fun vs H2 => sp (x :: (vs ++ dvs)) H2 Q (E σ)
theorem ue_meth {pl : Sem Bool} (he : PE X o ta) (c : Mtd X.prog X.w X.K X.mg X.base k C m dvs sp) (hr : Room j X.A) (hk : k ≤ j) (hG : Quiet X.A) (hx : Pas X E) (ha : PA X (e :: es) t)
    (hst : starEach (e :: es) X.env = (false, eval e X.env) :: starEach es X.env := by rfl) (hpl : (backTo pos (starEach es X.env)).any (·.1) = false := by rfl)
    (ht : eval (.Call (.Attribute o m apos) (e :: es) [] pos) X.env = (do
      let ov ← eval o X.env; standAt apos.atName; let (f, first) ← holding [ov] (getMethod ov m pl); callWith pos f first (backTo pos (starEach (e :: es) X.env)) (backToKw pos (keywordEach [] X.env))) := by rfl) :
    PE X (.Call (.Attribute o m apos) (e :: es) [] pos) (uMeth C m sp dvs E ta t) := by
  obtain ⟨f, fd, ps, ds, cc, hm, F, b, d⟩ := c.ex
  constructor
  intro pins s σ H Q I h
  refine PySem.W.methodCall_KW (pl := pl) (thn (he.run pins s σ H _ I h) ?_) ht
  rintro u s1 ⟨y, H1, I1, rx, a, dx, fs, ex, ea, l, q⟩
  subst ex
  cases (show u = Value.ref a from rx)
  refine getmeth_ok I1 ea cc hm l ?_
  refine PySem.W.callWith_K (first := [.ref a]) (h₀ := X.base) I.ok.mod.kin hm.kp (thn (ha.run pos pins s1 σ H1 _ I1 q) ?_) hst hpl
  rintro us s2 ⟨vs, H2, I2, r, q2⟩
  exact ⟨I2.kIn, run_def (us := .ref a :: us) (vs := .ref a :: vs) F (hr.mono hk) hG b d hx I2 (.cons rfl r) q2⟩
theorem ue_meth0 {pl : Sem Bool} (he : PE X o ta) (c : Mtd X.prog X.w X.K X.mg X.base k C m dvs sp) (hr : Room j X.A) (hk : k ≤ j) (hG : Quiet X.A) (hx : Pas X E)
    (ht : eval (.Call (.Attribute o m apos) [] [] pos) X.env = (do
      let ov ← eval o X.env; standAt apos.atName; let (f, first) ← holding [ov] (getMethod ov m pl); callWith pos f first (backTo pos (starEach [] X.env)) (backToKw pos (keywordEach [] X.env))) := by rfl) :
    PE X (.Call (.Attribute o m apos) [] [] pos) (uMeth C m sp dvs E ta tNil) := by
  obtain ⟨f, fd, ps, ds, cc, hm, F, b, d⟩ := c.ex
  constructor
  intro pins s σ H Q I h
  refine PySem.W.methodCall_KW (pl := pl) (thn (he.run pins s σ H _ I h) ?_) ht
  rintro u s1 ⟨y, H1, I1, rx, a, dx, fs, ex, ea, l, q⟩
  subst ex
  cases (show u = Value.ref a from rx)
  refine getmeth_ok I1 ea cc hm l ?_
  exact PySem.W.callWith_K0 (first := [.ref a]) I1.kIn hm.kp (run_def (us := [.ref a]) (vs := [.ref a]) F (hr.mono hk) hG b d hx I1 (.cons rfl .nil) q)
/-- C(..) -/
def uMake (C : Addr) (sp : Sp) (dvs : List V) (E : L2.St → XK) (t : TA) : TE := fun σ H Q => t σ H fun vs H1 => ∀ x dx, H1 x = none → H1 dx = none → dx ≠ x →
  sp (.ref x :: (vs ++ dvs)) (upd (upd H1 dx (.own x)) x (.ins C dx [])) (fun v H2 => v = .non ∧ Q (.ref x) H2) (E σ)
theorem make_quiet {A : Around} {us : List Value} {kw : List (Str × Value)} (h : Quiet A) : Quiet (A.under (.builtin "type.__call__" ⟨.ref C :: us, kw⟩)) := by
  unfold Quiet at h ⊢
  first
    | exact h
    | simpa [Around.under, Code.guards, Code.isGuard, guardIds] using h
theorem run_new {pins : List (Addr × Obj)} {σ : L2.St} {H : Hp} {s : Shared} {Q : VK} {us : List Value} {vs : List V} (M : Mk X.K C f) (F : Fn X.prog X.w X.K X.mg X.base k f fd ps sp) (hr : Room (k + 1) X.A) (hG : Quiet X.A) (hb : Binds X.K fd ps ds) (hd : Vals dvs ds)
    (hx : Pas X E) (I : Inv X pins σ H s) (r : Vals vs us)
    (h : ∀ x dx, H x = none → H dx = none → dx ≠ x → sp (.ref x :: (vs ++ dvs)) (upd (upd H dx (.own x)) x (.ins C dx [])) (fun v H2 => v = .non ∧ Q (.ref x) H2) (E σ)) :
    wpAny (model X.prog X.w) X.A (call (.ref C) us) (EP X pins σ Q) X.xe s := by
  have h0 := h (s.heap.objs.size + 1) s.heap.objs.size (I.hok.fresh (Nat.le_succ _)) (I.hok.fresh (Nat.le_refl _)) (Nat.ne_of_lt (Nat.lt_succ_self _))
  have J := Inv.made (C := C) I
  have rr : Vals (V.ref (s.heap.objs.size + 1) :: (vs ++ dvs)) (Value.ref (s.heap.objs.size + 1) :: (us ++ ds)) := .cons rfl (r.append hd)
  have hl : (Value.ref (s.heap.objs.size + 1) :: us ++ ds).length = ps.length := (rr.length.symm.trans (F.len _ _ _ _ h0))
  have run := F.go _ X.stack _ _ ⟨Value.ref (s.heap.objs.size + 1) :: us, []⟩ (Value.ref (s.heap.objs.size + 1) :: (us ++ ds)) _ _ (E σ) (hr.make C us []) (make_quiet hG) (J.env0.make C us []) (hb _ (Value.ref (s.heap.objs.size + 1) :: us) J.kIn hl) rr h0
  refine wpAny_call (make_map (f := f) I.kIn M.makes M.init (beq_iff_eq.mp M.fn) (codeAny_mono run ?_))
  rintro (e | fl) s' hq
  · exact hx σ pins _ _ e s' J hq
  · cases fl with
    | ret u =>
      obtain ⟨v, H', I3, rv, ev, q3⟩ := J.after hq
      subst ev
      exact ⟨rv, ⟨V.ref (s.heap.objs.size + 1), H', I3, rfl, q3⟩⟩
    | next => exact hq.elim
    | brk => exact hq.elim
    | cont => exact hq.elim
theorem ue_make (c : Mkr X.prog X.w X.K X.mg X.base k x C dvs sp) (hr : Room j X.A) (hk : k + 1 ≤ j) (hG : Quiet X.A) (hg : Gl X x) (hx : Pas X E) (ha : PA X (e :: es) t)
    (hdb : (x == ("__debug__" : Str)) = false := by decide) (he : starEach (e :: es) X.env = (false, eval e X.env) :: starEach es X.env := by rfl) (hpl : (backTo pos (starEach es X.env)).any (·.1) = false := by rfl) :
    PE X (.Call (.Name x p) (e :: es) [] pos) (uMake C sp dvs E t) := by
  obtain ⟨f, fd, ps, ds, M, F, hm, b, d⟩ := c.ex
  constructor
  intro pins s σ H Q I h
  refine wpAny_Call_Name_kw (ld_glob I hg hm ?_ hdb)
  refine PySem.W.callWith_K (h₀ := X.base) I.ok.mod.kin M.kp (thn (ha.run pos pins s σ H _ I h) ?_) he hpl
  rintro us s1 ⟨vs, H1, I1, r, q⟩
  exact ⟨I1.kIn, run_new M F (hr.mono hk) hG b d hx I1 r q⟩
theorem ue_make0 (c : Mkr X.prog X.w X.K X.mg X.base k x C dvs sp) (hr : Room j X.A) (hk : k + 1 ≤ j) (hG : Quiet X.A) (hg : Gl X x) (hx : Pas X E) (hdb : (x == ("__debug__" : Str)) = false := by decide) :
    PE X (.Call (.Name x p) [] [] pos) (uMake C sp dvs E tNil) := by
  obtain ⟨f, fd, ps, ds, M, F, hm, b, d⟩ := c.ex
  constructor
  intro pins s σ H Q I h
  refine wpAny_Call_Name_kw (ld_glob I hg hm ?_ hdb)
  exact PySem.W.callWith_K0 I.kIn M.kp (run_new (us := []) M F (hr.mono hk) hG b d hx I .nil h)
/-- what leaves a callee leaves the def; nothing leaves a callee -/
theorem PC : Pas X (fun _ => E0) := fun σ pins H s e s' I h => passL pins σ H s e s' I h
end
theorem PB {P : Program} {w : World} {K : PySem.W.Frag} {mg : Str → Option Value} {base : Heap} {N : List Str} {qual : Str} {scope : Scope} {f : Addr} {cd : Value} {A : Around} {outer : List Env} {s : Shared} {H : Hp} {E : XK} :
    Pas (cxOf (L2.CX P w) P w K mg base N qual scope f cd A outer s H E) (fun _ => E) := fun σ => passAt (W := fun cls d _ H => E cls d H) (takes_of rfl rfl rfl rfl) σ
theorem PW {P : Program} {w : World} {K : PySem.W.Frag} {mg : Str → Option Value} {base : Heap} {N : List Str} {qual : Str} {scope : Scope} {f : Addr} {cd : Value} {A : Around} {outer : List Env} {s : Shared} {H : Hp} {E : XK} :
    PassesOwn (model (cxOf (L2.CX P w) P w K mg base N qual scope f cd A outer s H E).prog (cxOf (L2.CX P w) P w K mg base N qual scope f cd A outer s H E).w) (cxOf (L2.CX P w) P w K mg base N qual scope f cd A outer s H E).A (cxOf (L2.CX P w) P w K mg base N qual scope f cd A outer s H E).env (cxOf (L2.CX P w) P w K mg base N qual scope f cd A outer s H E).xe := passes_of rfl
end Rf

namespace Rf
open PySem PySem.Spec PyProof.Rows L2
/-! ## the end of a law's row -/
theorem law_run {P : Program} {w : World} {K : PySem.W.Frag} {mg mb : Str → Option Value} {k : Nat} {fa a : Addr} {fd : FuncData} {x : Str} {sp : Sp} {s₁ : Shared} {vs : List Value} {ns : List Int}
    (KX : K.In s₁.heap) (hns : s₁.heap.Ns mainGlobals mg) (hb : s₁.heap.Ns builtinsNs mb) (hbb : ∀ x : Str, x ≠ "__name__" → mb x = bootBuiltins x) (hlim : s₁.heap.NoLimit) (hg : s₁.gens = #[])
    (ha : s₁.heap.get? a = some { cls := .type "list", data := .seq vs.toArray }) (hi : IntsAre vs ns) (hl : ns.length ≤ sizeLine) (hr : Room k callerA)
    (F : ∀ base : Heap, K.In base → base.Ns mainGlobals mg → Fn P w K mg base k fa fd [x] sp) (hbind : ∀ (s : Shared) (u : Value), BindsTo s fd ⟨[u], []⟩ [(x, u)])
    (hsp : ∀ H : Hp, Only H → SqL K H a (ns.map V.int) → sp [.ref a] H (fun v _ => v = .bl true) fun _ _ _ => False) :
    codeAny (model P w) callerA (.call (.ref fa) ⟨[.ref a], []⟩) (fun r s' => r = .ok (.ret (.bool true)) ∧ OldK s₁.heap s'.heap ∧ s'.os = s₁.os ∧ AllBare s'.gens) s₁ := by
  have rv := vals_ints hi
  have lenV := hi.length
  have main : ∀ H : Hp, Only H → SqL K H a (ns.map V.int) → HOk P w H s₁.heap → (∀ b, H b ≠ none → b = a) → (H a ≠ none → K.lookup a = none) →
      codeAny (model P w) callerA (.call (.ref fa) ⟨[.ref a], []⟩) (fun r s' => r = .ok (.ret (.bool true)) ∧ OldK s₁.heap s'.heap ∧ s'.os = s₁.os ∧ AllBare s'.gens) s₁ := by
    intro H hO hS hok hA hK
    have isA : ∀ {b : Addr} {u : HO}, H b = some u → b = a := fun {b u} q => hA b (by rw [q]; exact fun z => nomatch z)
    have noDict : ∀ {b : Addr} {o : Obj} {es : Array DictEntry} {ep : Nat}, s₁.heap.get? b = some o → o.data = .dict es ep → H b = none := by
      intro b o es ep e d
      cases q : H b with
      | none => rfl
      | some u =>
        cases isA q
        rw [ha] at e
        cases e
        cases (show Data.seq vs.toArray _ = Data.dict es ep from d)
    have ns' : ∀ {b : Addr} {m : Str → Option Value}, s₁.heap.Ns b m → (hidT s₁.heap H).Ns b m := by
      rintro b m ⟨o, es, ep, e, d, r⟩
      exact ⟨o, es, ep, hidT_get e (noDict e d), d, r⟩
    have hKb : K.In (hidT s₁.heap H) := by
      intro b o e
      refine hidT_get (KX b o e) ?_
      cases q : H b with
      | none => rfl
      | some u =>
        cases isA q
        rw [hK (by rw [q]; exact fun z => nomatch z)] at e
        cases e
    obtain ⟨mc, l1, l2⟩ := hlim
    have hM : Mod K mg (hidT s₁.heap H) := ⟨hKb, ns' hns, ⟨mb, ns' hb, hbb⟩, ⟨mc, ns' l1, l2⟩⟩
    have e0 : Env0 P w K mg (hidT s₁.heap H) callerA [] s₁ H := ⟨rfl, hM, fun _ _ e => of_hidT e, Nat.le_of_eq (hidT_size _ _), trivial, fun b z => absurd (show b ∈ ([] : List Addr) from z) (by simp), hok, .of_eq hg⟩
    refine codeAny_mono ((F _ hKb (ns' hns)).go callerA [] s₁ H ⟨[.ref a], []⟩ [.ref a] [.ref a] _ _ hr rfl e0 (hbind s₁ (.ref a)) (.cons rfl .nil) (hsp H hO hS)) ?_
    rintro (e | fl) s' h
    · obtain ⟨_, _, _, _, _, _, _, _, _, _, _, _, z⟩ := h
      exact z.elim
    · cases fl with
      | next => exact h.elim
      | brk => exact h.elim
      | cont => exact h.elim
      | ret u =>
        obtain ⟨v, H', os, bare, un, hok', r', q⟩ := h
        cases (show v = .bl true from q)
        cases (show u = Value.bool true from r')
        refine ⟨rfl, OldK.of_keep ?_, os, bare⟩
        intro b o e
        cases q : H b with
        | none => exact un.keep b o e q (fun z => absurd (show b ∈ ([] : List Addr) from z) (by simp)) (by simp)
        | some u =>
          rcases hO b with z | ⟨ob, xs, z⟩
          · rw [q] at z
            cases z
          · obtain ⟨e1, _⟩ := hok b _ z
            obtain ⟨e2, _⟩ := hok' b _ (un.frzs b ob _ z)
            rw [e] at e1
            cases e1
            exact e2
  cases hk : K.lookup a with
  | some o =>
    have e := KX a o hk
    rw [ha] at e
    cases e
    refine main (fun _ => none) (fun _ => Or.inl rfl) (Or.inr ⟨_, vs.toArray, _, hk, rfl, rfl, rfl, ?_, by simpa using rv⟩) ?_ ?_ ?_
    · rw [List.size_toArray, lenV]
      exact hl
    · intro b u z
      cases (show (none : Option HO) = some u from z)
    · exact fun b z => absurd rfl z
    · exact fun z => absurd rfl z
  | none =>
    refine main (fun b => if b = a then some (.frz { cls := .type "list", data := .seq vs.toArray } (.lst (ns.map V.int))) else none) ?_ (Or.inl (Or.inr ⟨{ cls := .type "list", data := .seq vs.toArray }, if_pos rfl⟩)) ?_ ?_ (fun _ => hk)
    · intro b
      by_cases hb : b = a
      · exact Or.inr ⟨_, _, if_pos hb⟩
      · exact Or.inl (if_neg hb)
    · intro b u z
      by_cases hb : b = a
      · cases (if_pos hb).symm.trans z
        subst hb
        exact ⟨ha, by rw [List.length_map]; exact hl, vs, _, rv, ha⟩
      · cases (if_neg hb).symm.trans z
    · intro b z
      by_cases hb : b = a
      · exact hb
      · exact absurd (if_neg hb) z
theorem walk_fn {l : PySem.W.OpenLaw} {n k : Nat} {q : Program} {loose : List Str} {XP : (Str → Option Value) → Heap → Prop} {YP : World → Heap → Prop} {d : DefRec} {K : Params → PySem.W.Frag} {sp : PySem.W.Frag → Sp} {x : Str}
    (hn : l.most = some n) (hn2 : n ≤ sizeLine) (hdf : d.params.defaults = []) (hr : Room k callerA) (hY : ∀ (w : World) (h : Heap), YP w h → (K w.params).In h)
    (F : ∀ (w : World) (mg : Str → Option Value) (fa : Addr) (h : Heap), (K w.params).In h → h.Ns mainGlobals mg → mg d.name = some (.ref fa) →
      ∃ fd : FuncData, (∀ (s : Shared) (u : Value), BindsTo s fd ⟨[u], []⟩ [(x, u)]) ∧ ∀ base : Heap, (K w.params).In base → base.Ns mainGlobals mg → Fn l.prog w (K w.params) mg base k fa fd [x] (sp (K w.params)))
    (hsp : ∀ (K : PySem.W.Frag) (H : Hp) (a : Addr) (ns : List Int), ns.length ≤ n → Only H → SqL K H a (ns.map V.int) → sp K [.ref a] H (fun v _ => v = .bl true) fun _ _ _ => False) :
    PySem.W.WalkO q loose XP YP l.row.toRowW d [] (fun f vs => PySem.call f vs) := by
  refine Att.attach_call hn hdf ?_
  intro w s₀ s₁ mg mb fa o pm cd doc a vs ns G Y ho hd hcd hmg hobj hints hlen hg
  have KX := hY w _ Y
  obtain ⟨fd, hb, hF⟩ := F w mg fa _ KX G.T.g hmg
  exact law_run KX G.T.g G.T.b G.T.builtins G.T.nolimit hg hobj hints (Nat.le_trans hlen hn2) hr hF hb fun H hO hS => hsp (K w.params) H a ns hlen hO hS
end Rf

namespace Rf
open PySem PySem.Spec PyProof.Rows L2
section
variable {X : Cx} {tg e : Expr} {te : TE} {pos : Pos}
/-! ## what is walked: a list, a tuple, a text -/
theorem PI.or {w1 w2 : TI} (h1 : PI X tg e w1) (h2 : PI X tg e w2) : PI X tg e (fun σ H R => w1 σ H R ∨ w2 σ H R) :=
  ⟨fun pins s σ H R I h => h.elim (h1.run pins s σ H R I) (h2.run pins s σ H R I)⟩
/-- a list, a tuple, a text, a dict's keys (the dict locked) -/
def uSeq (K : PySem.W.Frag) (te : TE) : TI := fun σ H R => te σ H fun x H1 => (∃ a, x = .ref a ∧ (∃ xs, SqL K H1 a xs) ∧ R (Itl K a) H1) ∨ ((∃ a, x = .ref a ∧ (∃ xs, SqT K H1 a xs) ∧ R (Itt K a) H1) ∨
  ((∃ z, x = .str z ∧ R (Its z) H1) ∨ (∃ d o kvs, x = .ref d ∧ H1 d = some (.frz o (.dK kvs)) ∧ R (Itk d o kvs) H1)))
theorem ui_seq {K : PySem.W.Frag} (h : PE X e te) (hK : X.K = K := by rfl) : PI X tg e (uSeq K te) := by
  subst hK
  constructor
  intro pins s σ H R I hw
  refine thn (h.run pins s σ H _ I hw) ?_
  rintro v s1 ⟨x, H1, I1, r1, ⟨a, ex, ⟨xs, hq⟩, q⟩ | ⟨a, ex, ⟨xs, hq⟩, q⟩ | ⟨z, ex, q⟩ | ⟨d, o, kvs, ex, hd, q⟩⟩
  · subst ex
    cases r1
    obtain ⟨its, rv, p, hz⟩ := I1.list hq
    exact wpAny_pyIter_list p.isList (pi_one (tk := s1.toks) I1 _ (turn_list a _) ⟨_, Heap.get?_push_size _ rfl, rfl, rfl⟩ q)
  · subst ex
    cases r1
    obtain ⟨its, rv, p, hz⟩ := I1.tuple hq
    exact wpAny_pyIter_tuple (show s1.heap.IsTuple a its.toArray from p) (pi_one (tk := s1.toks) I1 _ (turn_tuple a _) ⟨_, Heap.get?_push_size _ rfl, rfl, rfl⟩ q)
  · subst ex
    obtain ⟨t, rfl⟩ := r1
    cases ha : z.cps.all (· < 128)
    · exact wpAny_pyIter_wide ha (pi_one (tk := s1.toks) I1 _ (turn_str _ z t "str_iterator" (Or.inr rfl)) ⟨_, Heap.get?_push_size _ rfl, rfl, rfl⟩ q)
    · exact wpAny_pyIter_ascii ha (pi_one (tk := s1.toks) I1 _ (turn_str _ z t "str_ascii_iterator" (Or.inl rfl)) ⟨_, Heap.get?_push_size _ rfl, rfl, rfl⟩ q)
  · subst ex
    cases (show v = Value.ref d from r1)
    obtain ⟨hs, hgd, hx, es, ep, vs, hdt, hsz, kv, hm⟩ := I1.frzK hd
    refine iter_keys hs hgd hx hdt (pi_one (tk := s1.toks) I1 _ (turn_keys _ hdt) ⟨_, Heap.get?_push_size _ rfl, rfl, ?_⟩ q)
    rw [hsz] <;> rfl
theorem PG.or {t1 t2 : TG} (h1 : PG X e t1) (h2 : PG X e t2) : PG X e (fun v σ H Q => t1 v σ H Q ∨ t2 v σ H Q) :=
  ⟨fun pins s σ H v u Q I r h => h.elim (h1.run pins s σ H v u Q I r) (h2.run pins s σ H v u Q I r)⟩
/-- a, b, .. = a tuple or a list of that length -/
def gSeq (K : PySem.W.Frag) (n : Nat) (t : TGs) : TG := fun v σ H Q => ∃ a xs, v = .ref a ∧ (SqT K H a xs ∨ SqL K H a xs) ∧ xs.length = n ∧ t xs σ H Q
theorem ug_seq {K : PySem.W.Frag} {es : List Expr} {k : Nat} {t : TGs} {n : Nat} (hc : X.calm = true) (h : PGs X es t) (hK : X.K = K := by rfl) (hn : (assignEach es X.env).length = n := by rfl) (hst : (assignEach es X.env).findIdx? (·.1) = none := by rfl) :
    PG X (.Tuple es k pos) (gSeq K n t) := by
  subst hK
  constructor
  rintro pins s σ H v u Q I r ⟨a, xs, e1, hq | hq, hl, hw⟩
  · exact (pg_tup hc h hn hst).run pins s σ H v u Q I r ⟨a, xs, e1, hq, hl, hw⟩
  · exact (pg_lst hc h hn hst).run pins s σ H v u Q I r ⟨a, xs, e1, hq, hl, hw⟩
theorem set_dict (hu : X.A.units + 1 < cLine) : PSet X rSetD := by
  intro pins s σ H o i v ov iv u Q I ro ri rv h
  obtain ⟨a, H', ex, g, q⟩ := h
  subst ex
  cases (show ov = Value.ref a from ro)
  exact d_setItem hu I g ri rv fun s4 I4 => ⟨H', I4, q⟩
theorem uq_set (hu : X.A.units + 1 < cLine) : PSet X uSet := by
  intro pins s σ H o i v ov iv u Q I ro ri rv h
  cases h with
  | inl h => exact set_list pins s σ H o i v ov iv u Q I ro ri rv h
  | inr h => exact set_dict hu pins s σ H o i v ov iv u Q I ro ri rv h
/-! ## truth, not -/
def uTru (K : PySem.W.Frag) (te : TE) : TT := fun σ H Q => te σ H fun x H' => ∃ k, TruV K x H' k ∧ Q k H'
theorem ut_truth {K : PySem.W.Frag} (h : PE X e te) (hK : X.K = K := by rfl) (hs : ∀ w, isTrue e X.env w = (do let v ← w; standAt e.pos; holding [v] (truthy v)) := by intro _; rfl) : PT X e (uTru K te) := by subst hK; exact pt_truth h hs
/-! ## the library's rules with K told -/
theorem ue_fld {K : PySem.W.Frag} {f : Str} (he : PE X e te) (hb : attributeBase e f X.env (eval e X.env) = eval e X.env) (hK : X.K = K := by rfl) : PE X (.Attribute e f pos) (tFld K te f) := by
  subst hK
  exact pe_fld he hb
theorem ue_bm {K : PySem.W.Frag} {T id : String} {name : Str} {r : V → List V → Hp → VK → Prop} {o : Expr} {es : List Expr} {to : TE} {t : TA} {apos cpos : Pos} (pa : PlainAttrs T) (slot : Slot T name id) (hty : typeOf (.builtin id) = pure (.type "method_descriptor")) (hm : MtR X id r) (ho : PE X o to) (ha : PA X (e :: es) t) (hK : X.K = K := by rfl)
    (hbase : attributeBase o name X.env (eval o X.env) = eval o X.env := by rfl)
    (hfew : ((backTo cpos (starEach (e :: es) X.env)).all (fun x => !x.1) && (backToKw cpos (keywordEach [] X.env)).all (fun x => x.1.isSome) && decide ((e :: es).length + ([] : List Keyword).length + (if ([] : List Keyword).isEmpty then 0 else 1) < 30)) = true := by rfl)
    (hline : (apos.endLine == cpos.line) = true := by rfl) (hs : starEach (e :: es) X.env = (false, eval e X.env) :: starEach es X.env := by rfl) (hplain : (backTo cpos (starEach es X.env)).any (·.1) = false := by rfl) :
    PE X (.Call (.Attribute o name apos) (e :: es) [] cpos) (tBM K T r to t) := by
  subst hK
  exact pe_bm pa slot hty hm ho ha hbase hfew hline hs hplain
def rJoin (K : PySem.W.Frag) : V → List V → Hp → VK → Prop := fun x xs H Q => ∃ a p, ∃ ys : List Str, x = .str a ∧ xs = [.ref p] ∧ (SqL K H p (ys.map V.str) ∨ SqT K H p (ys.map V.str)) ∧ (ys.map (·.length)).sum + ys.length * a.length ≤ 16777216 ∧ Q (.str (Txt.join a ys)) H
theorem ue_join {K : PySem.W.Frag} {o : Expr} {to : TE} {apos : Pos} (ho : PE X o to) (he : PE X e te) (hK : X.K = K := by rfl) (hs : starEach [e] X.env = [(false, eval e X.env)] := by rfl) (hbase : attributeBase o "join" X.env (eval o X.env) = eval o X.env := by rfl) (hline : (apos.endLine == pos.line) = true := by rfl) :
    PE X (.Call (.Attribute o "join" apos) [e] [] pos) (tM1 (rJoin K) to te) := by
  subst hK
  exact pe_join ho he hs hbase hline
/-! ## repr, isinstance -/
theorem dp_noDict {K : PySem.W.Frag} {H : Hp} : ∀ {v : V} {d : PyData}, Dp K H v d → d.hasDict = false := by
  intro v d h
  refine Dp.rec (motive_1 := fun _ d _ => d.hasDict = false) (motive_2 := fun _ ds _ => PyData.hasDictAll ds = false) ?_ ?_ ?_ ?_ ?_ ?_ ?_ ?_ h
  · rfl
  · intro b; rfl
  · intro i; rfl
  · intro x; rfl
  · intro a xs ds _ _ ih; simpa [PyData.hasDict] using ih
  · intro a xs ds _ _ ih; simpa [PyData.hasDict] using ih
  · rfl
  · intro v vs d ds _ _ i1 i2; simp [PyData.hasDictAll, i1, i2]
def uRepr (K : PySem.W.Frag) : List V → Hp → VK → Prop := fun xs H Q => ∃ x d, xs = [x] ∧ Dp K H x d ∧ d.showable = true ∧ d.shown.length ≤ sizeLine ∧ d.depth ≤ 40 ∧ Q (.str d.shown) H
theorem uc_repr {K : PySem.W.Frag} {k : Nat} (hr : Room k X.A) (hG : Quiet X.A) (hK : X.K = K := by rfl) : CallR X (.builtin "repr") (uRepr K) := by
  subst hK
  intro pins s σ H xs us Q I r h
  obtain ⟨x, d, rfl, hd, hs, hz, hdp, q⟩ := h
  obtain ⟨u, rfl, rx⟩ := vals1 r
  have hu := hr.units
  cases hd with
  | non =>
    cases (show u = Value.none from rx)
    exact P.repr_of_none ⟨.str _, H, I.tok _, ⟨_, rfl⟩, q⟩
  | bl b =>
    cases (show u = Value.bool b from rx)
    exact P.repr_of_bool ⟨.str _, H, I.tok _, ⟨_, rfl⟩, q⟩
  | int i =>
    obtain ⟨t, rfl⟩ := rx
    exact P.repr_of_int (of_decide_eq_true hs) ⟨.str _, H, I.tok _, ⟨_, rfl⟩, q⟩
  | str y =>
    obtain ⟨t, rfl⟩ := rx
    exact P.repr_of_str ⟨.str _, H, I.tok _, ⟨_, rfl⟩, q⟩ hz
  | @lst a ys ds h1 h2 =>
    cases (show u = Value.ref a from rx)
    have hd : Dp X.K H (.ref a) (.list ds) := .lst h1 h2
    obtain ⟨as, rd⟩ := Dp.reads I _ _ _ hd rx
    exact repr_of_reads' rd hs (fun z => by rw [dp_noDict hd] at z; cases z) hG (by omega) (fun _ _ z => z) (fun h' u' tk hk => ⟨.str _, H, I.kept hk, ⟨_, rfl⟩, q⟩) hz
  | @tup a ys ds h1 h2 =>
    cases (show u = Value.ref a from rx)
    have hd : Dp X.K H (.ref a) (.tuple ds) := .tup h1 h2
    obtain ⟨as, rd⟩ := Dp.reads I _ _ _ hd rx
    exact repr_of_reads' rd hs (fun z => by rw [dp_noDict hd] at z; cases z) hG (by omega) (fun _ _ z => z) (fun h' u' tk hk => ⟨.str _, H, I.kept hk, ⟨_, rfl⟩, q⟩) hz
theorem uc_isinstance {K : PySem.W.Frag} (hK : X.K = K := by rfl) : CallR X (.builtin "isinstance") (rIsi K) := by subst hK; exact call_isi
/-! ## built-in classes called -/
abbrev rListSq (K : PySem.W.Frag) : List V → Hp → VK → Prop := fun xs H Q => ∃ p ys, xs = [.ref p] ∧ (SqL K H p ys ∨ SqT K H p ys) ∧ ∀ l, H l = none → Q (.ref l) (upd H l (.lst ys))
abbrev rListDk : List V → Hp → VK → Prop := fun xs H Q => ∃ (a : Addr) (kvs : List (Key × V)), xs = [.ref a] ∧ Rd H a (.dK kvs) ∧ ∀ p, H p = none → Q (.ref p) (upd H p (.lst (kvs.map fun kv => kV kv.1)))
def uList (K : PySem.W.Frag) : List V → Hp → VK → Prop := fun xs H Q => rListSq K xs H Q ∨ rListDk xs H Q
theorem uc_list {K : PySem.W.Frag} (hc : X.calm = true := by rfl) (hK : X.K = K := by rfl) : CallR X (.type "list") (uList K) := by subst hK; exact CallR.or call_list_of (call_listD hc)
def uDict : List V → Hp → VK → Prop := fun xs H Q => ∃ (a : Addr) (kvs : List (Key × V)), xs = [.ref a] ∧ Rd H a (.dK kvs) ∧ ∀ p, H p = none → Q (.ref p) (upd H p (.dK kvs))
theorem uc_dict : CallR X (.type "dict") uDict := call_dictD
abbrev rStrI : List V → Hp → VK → Prop := fun xs H Q => ∃ i, xs = [.int i] ∧ i.natAbs.log2 < 1920 ∧ Q (.str (toString i)) H
abbrev rStrS : List V → Hp → VK → Prop := fun xs H Q => ∃ a, xs = [.str a] ∧ Q (.str a) H
def uStr : List V → Hp → VK → Prop := fun xs H Q => rStrI xs H Q ∨ rStrS xs H Q
theorem uc_str : CallR X (.type "str") uStr := CallR.or call_str_int SkE.call_str_str
abbrev rIntS : List V → Hp → VK → Prop := fun xs H Q => ∃ a n, xs = [.str a] ∧ PySem.intText? a = some n ∧ a.length ≤ 640 ∧ Q (.int n) H
def uInt : List V → Hp → VK → Prop := rIntS
theorem uc_int : CallR X (.type "int") uInt := call_int_str
end
/-! ## steps of a reading, by its head -/
section
variable {D : Ends} {σ : L2.St} {H : Hp} {K : PySem.W.Frag} {Q : VK}
/-- the loop itself, its iterator made -/
abbrev Loop (J : It) (g : TG) (tb : TS) (D : Ends) (σ : L2.St) (H1 : Hp) : Prop := ∃ W : Nat → Nat → L2.St → Hp → Prop, (∃ m, W 0 m σ H1) ∧ ∀ i m σ H, W i m σ H →
  (J.stop i H ∧ D.nx σ H) ∨ (J.go i H ∧ ∃ N : L2.St → Hp → Prop, (∀ σ' H', N σ' H' → ∃ m', m' < m ∧ W (i + 1) m' σ' H') ∧ ∀ x H', J.yld i H x H' → g x σ H' fun σ2 H2 => tb { D with nx := N, ct := N, bk := D.nx } σ2 H2)
theorem g_for {wi : TI} {g : TG} {tb : TS} (h : wi σ H fun J H1 => Loop J g tb D σ H1) : tFor wi g tb D σ H := h
theorem g_rng1 {ta : TA} {R : It → Hp → Prop} (h : ta σ H fun vs H1 => ∃ j : Int, vs = [.int j] ∧ -(2 ^ 62) ≤ j ∧ j < 2 ^ 62 ∧ R (Itr 0 j.toNat) H1) : iRng1 ta σ H R := h
theorem g_rng2 {ta : TA} {R : It → Hp → Prop} (h : ta σ H fun vs H1 => ∃ i j : Int, vs = [.int i, .int j] ∧ (-(2 ^ 62) ≤ i ∧ i < 2 ^ 62 ∧ -(2 ^ 62) ≤ j ∧ j < 2 ^ 62) ∧ R (Itr i (j - i).toNat) H1) : iRng2 ta σ H R := h
theorem g_seqI {te : TE} {R : It → Hp → Prop} (h : te σ H fun x H1 => (∃ a, x = .ref a ∧ (∃ xs, SqL K H1 a xs) ∧ R (Itl K a) H1) ∨ ((∃ a, x = .ref a ∧ (∃ xs, SqT K H1 a xs) ∧ R (Itt K a) H1) ∨
  ((∃ z, x = .str z ∧ R (Its z) H1) ∨ (∃ d o kvs, x = .ref d ∧ H1 d = some (.frz o (.dK kvs)) ∧ R (Itk d o kvs) H1)))) : uSeq K te σ H R := h
theorem n_rng1 {j : Int} {P : Int → Prop} (h0 : 0 ≤ j) (h1 : j < 1000000000) (h : P j) : ∃ j' : Int, [V.int j] = [.int j'] ∧ -(2 ^ 62) ≤ j' ∧ j' < 2 ^ 62 ∧ P j' := ⟨j, rfl, by omega, by omega, h⟩
theorem n_seqL {a : Addr} {xs : List V} {R : It → Prop} {B : Prop} (h1 : SqL K H a xs) (h : R (Itl K a)) : (∃ a', V.ref a = .ref a' ∧ (∃ xs, SqL K H a' xs) ∧ R (Itl K a')) ∨ B := Or.inl ⟨a, rfl, ⟨xs, h1⟩, h⟩
theorem n_seqT {a : Addr} {xs : List V} {R : It → Prop} {A B : Prop} (h1 : SqT K H a xs) (h : R (Itt K a)) : A ∨ ((∃ a', V.ref a = .ref a' ∧ (∃ xs, SqT K H a' xs) ∧ R (Itt K a')) ∨ B) := Or.inr (Or.inl ⟨a, rfl, ⟨xs, h1⟩, h⟩)
theorem n_seqS {z : Str} {R : It → Prop} {A B C : Prop} (h : R (Its z)) : A ∨ (B ∨ ((∃ z', V.str z = .str z' ∧ R (Its z')) ∨ C)) := Or.inr (Or.inr (Or.inl ⟨z, rfl, h⟩))
theorem g_while {c : TT} {tb : TS} (h : ∃ W : Nat → L2.St → Hp → Prop, (∃ m, W m σ H) ∧ ∀ m σ H, W m σ H → c σ H fun b H1 => if b = true then ∃ N : L2.St → Hp → Prop, (∀ σ' H', N σ' H' → ∃ m', m' < m ∧ W m' σ' H') ∧ tb { D with nx := N, ct := N, bk := D.nx } σ H1 else D.nx σ H1) : tWhile c tb D σ H := h
theorem g_m1 {r : V → List V → Hp → VK → Prop} {to te : TE} (h : to σ H fun x H1 => (∃ a, x = .str a) ∧ te σ H1 fun y H2 => r x [y] H2 Q) : tM1 r to te σ H Q := h
theorem g_m0 {r : V → List V → Hp → VK → Prop} {to : TE} (h : to σ H fun x H1 => (∃ a, x = .str a) ∧ r x [] H1 Q) : tM0 r to σ H Q := h
theorem g_isStr {a : Str} {B : Prop} (h : B) : (∃ a', V.str a = .str a') ∧ B := ⟨⟨a, rfl⟩, h⟩
/-- a comprehension's loop, its iterator and its list made -/
abbrev LcLoop (J : It) (g : TG) (tt : TT) (te : TE) (vs : List Nat) (σ : L2.St) (H1 : Hp) (Dl : Addr) (Qd : Hp → Prop) : Prop := ∃ W : Nat → Nat → Hp → Prop, (∃ m, W 0 m (upd H1 Dl (.lst []))) ∧ ∀ i m H, W i m H →
  (J.stop i H ∧ Qd H) ∨ (J.go i H ∧ ∃ Nx : Hp → Prop, (∀ H', Nx H' → ∃ m', m' < m ∧ W (i + 1) m' H') ∧ ∀ x H', J.yld i H x H' → g x (wipe σ vs) H' fun σ2 H2 => wipe σ2 vs = wipe σ vs ∧ tt σ2 H2 fun b H3 =>
    if b = true then te σ2 H3 fun y H4 => ∃ acc, H4 Dl = some (.lst acc) ∧ acc.length < sizeLine ∧ Nx (upd H4 Dl (.lst (acc ++ [y]))) else Nx H3)
theorem g_lc {wi : TI} {g : TG} {tt : TT} {te : TE} {vs : List Nat} (h : wi σ H fun J H1 => ∀ Dl, H1 Dl = none → LcLoop J g tt te vs σ H1 Dl (fun H' => Q (.ref Dl) H')) : tLc wi g tt te vs σ H Q := h
theorem g_yes {Q : Bool → Hp → Prop} (h : Q true H) : tYes σ H Q := h
theorem g_seq {t u : TS} (h : t { D with nx := u D } σ H) : tSeq t u D σ H := h
theorem g_asg {te : TE} {g : TG} (h : te σ H fun x H1 => g x σ H1 D.nx) : tAsg te g D σ H := h
theorem g_name {v : V} {i : Nat} {Q : L2.St → Hp → Prop} (h : Q (σ.set i (some v)) H) : gName i v σ H Q := h
theorem g_drop {te : TE} (h : te σ H fun _ H1 => D.nx σ H1) : tDrop te D σ H := h
theorem g_next (h : D.nx σ H) : tNext D σ H := h
theorem g_ret {te : TE} (h : te σ H D.rt) : tRet te D σ H := h
theorem g_retN (h : D.rt .non H) : tRetN D σ H := h
theorem g_if {c : TT} {t u : TS} (h : c σ H fun b H1 => if b = true then t D σ H1 else u D σ H1) : tIfS c t u D σ H := h
theorem g_ifE {c : TT} {ta tb : TE} (h : c σ H fun b H1 => if b = true then ta σ H1 Q else tb σ H1 Q) : tIf c ta tb σ H Q := h
theorem g_par {i j : Nat} {ta : TA} (h : ta σ H fun vs H1 => ∃ v w, vs = [v, w] ∧ D.nx ((σ.set i (some v)).set j (some w)) H1) : tPar i j ta D σ H := h
theorem g_par2 {v w : V} {P : V → V → Prop} (h : P v w) : ∃ v' w', [v, w] = [v', w'] ∧ P v' w' := ⟨v, w, rfl, h⟩
theorem g_var {i : Nat} {v : V} (e : σ[i]? = some (some v)) (h : Q v H) : tVar i σ H Q := ⟨v, e, h⟩
theorem g_c {v : V} (h : Q v H) : tC v σ H Q := h
theorem g_op {r : R2} {ta tb : TE} (h : ta σ H fun x H1 => tb σ H1 fun y H2 => r x y H2 Q) : tOp r ta tb σ H Q := h
theorem g_un {r : V → Hp → VK → Prop} {ta : TE} (h : ta σ H fun x H1 => r x H1 Q) : tUn r ta σ H Q := h
theorem g_cb {r : List V → Hp → VK → Prop} {t : TA} (h : t σ H fun vs H1 => r vs H1 Q) : tCB r t σ H Q := h
theorem g_nil {Q : List V → Hp → Prop} (h : Q [] H) : tNil σ H Q := h
theorem g_cons {ta : TE} {tr : TA} {Q : List V → Hp → Prop} (h : ta σ H fun x H1 => tr σ H1 fun xs H2 => Q (x :: xs) H2) : tCons ta tr σ H Q := h
theorem g_test {t : TE} {Q : Bool → Hp → Prop} (h : t σ H fun x H' => ∃ k, x = .bl k ∧ Q k H') : tTest t σ H Q := h
theorem g_bl {b : Bool} {P : Bool → Prop} (h : P b) : ∃ k, V.bl b = .bl k ∧ P k := ⟨b, rfl, h⟩
theorem g_tru {t : TE} {Q : Bool → Hp → Prop} (h : t σ H fun x H' => ∃ k, TruV K x H' k ∧ Q k H') : uTru K t σ H Q := h
theorem g_truB {b : Bool} {P : Bool → Prop} (h : P b) : ∃ k, TruV K (.bl b) H k ∧ P k := ⟨b, rfl, h⟩
theorem g_not {t : TT} {Q : Bool → Hp → Prop} (h : t σ H fun b H1 => Q (!b) H1) : tNot t σ H Q := h
theorem g_and {t u : TT} {Q : Bool → Hp → Prop} (h : t σ H fun b H1 => if b = true then u σ H1 Q else Q false H1) : tAnd t u σ H Q := h
theorem g_or {t u : TT} {Q : Bool → Hp → Prop} (h : t σ H fun b H1 => if b = true then Q true H1 else u σ H1 Q) : tOr t u σ H Q := h
theorem g_andV {ta tb : TE} (h : ta σ H fun x H1 => ∃ c, x = .bl c ∧ if c = true then tb σ H1 Q else Q (.bl false) H1) : tAndV ta tb σ H Q := h
theorem g_orV {ta tb : TE} (h : ta σ H fun x H1 => ∃ c, x = .bl c ∧ if c = true then Q (.bl true) H1 else tb σ H1 Q) : tOrV ta tb σ H Q := h
theorem g_notV {ta : TE} (h : ta σ H fun x H1 => ∃ c, x = .bl c ∧ Q (.bl (!c)) H1) : tNotV ta σ H Q := h
theorem g_call {sp : Sp} {dvs : List V} {E : L2.St → XK} {t : TA} (h : t σ H fun vs H1 => sp (vs ++ dvs) H1 Q (E σ)) : uCall sp dvs E t σ H Q := h
theorem g_tup {t : TA} (h : t σ H fun xs H1 => xs.length ≤ sizeLine ∧ ∀ p, H1 p = none → Q (.ref p) (upd H1 p (.tup xs))) : tTup t σ H Q := h
theorem g_lst {t : TA} (h : t σ H fun xs H1 => xs.length ≤ sizeLine ∧ ∀ p, H1 p = none → Q (.ref p) (upd H1 p (.lst xs))) : tLst t σ H Q := h
theorem g_chain {r r' : R2} {ta tb tc : TE} (h : ta σ H fun x H1 => tb σ H1 fun y H2 => r x y H2 fun z H3 => ∃ k, z = .bl k ∧ if k = true then tc σ H3 fun w H4 => r' y w H4 Q else Q (.bl false) H3) : tChain r r' ta tb tc σ H Q := h
theorem g_sl {r : V → Option Int → Option Int → Hp → VK → Prop} {te : TE} {tl th : TO} (h : te σ H fun x H1 => tl σ H1 fun l H2 => th σ H2 fun u H3 => r x l u H3 Q) : tSl r te tl th σ H Q := h
theorem g_noPart {Q : Option Int → Hp → Prop} (h : Q none H) : tNoPart σ H Q := h
theorem g_part {te : TE} {Q : Option Int → Hp → Prop} (h : te σ H fun x H1 => ∃ i, x = .int i ∧ Q (some i) H1) : tPart te σ H Q := h
theorem g_int {i : Int} {P : Int → Prop} (h : P i) : ∃ j, V.int i = .int j ∧ P j := ⟨i, rfl, h⟩
theorem g_iteT {A B : Prop} (h : A) : if true = true then A else B := by rw [if_pos rfl]; exact h
theorem g_iteF {A B : Prop} (h : B) : if false = true then A else B := by rw [if_neg Bool.false_ne_true]; exact h
theorem g_iteTc {A B : Prop} {c : Bool} (e : c = true) (h : A) : if c = true then A else B := by rw [if_pos e]; exact h
theorem g_iteFc {A B : Prop} {c : Bool} (e : c = false) (h : B) : if c = true then A else B := by rw [e, if_neg Bool.false_ne_true]; exact h
theorem g_new {H : Hp} {o : HO} {P : V → Hp → Prop} (h : ∀ p H', H p = none → Same H H' → H' p = some o → P (.ref p) H') : ∀ p, H p = none → P (.ref p) (upd H p o) := fun p hp =>
  h p (upd H p o) hp (fun b u e => by rw [upd_ne (ne_of_none e hp)]; exact e) upd_same
theorem g_fld {te : TE} {f : Str} (h : te σ H fun x H1 => ∃ a C dx fs v, x = .ref a ∧ H1 a = some (.ins C dx fs) ∧ Cls K C ∧ NoAttr K C f ∧ fs.lookup f = some v ∧ Q v H1) : tFld K te f σ H Q := h
theorem g_bm {T : String} {r : V → List V → Hp → VK → Prop} {to : TE} {t : TA} (h : to σ H fun x H1 => tyV K T x H1 ∧ t σ H1 fun xs H2 => r x xs H2 Q) : tBM K T r to t σ H Q := h
theorem g_bm0 {T : String} {r : V → List V → Hp → VK → Prop} {to : TE} (h : to σ H fun x H1 => tyV K T x H1 ∧ r x [] H1 Q) : tBM0 K T r to σ H Q := h
theorem g_gcons {t : TG} {u : TGs} {v : V} {r : List V} {Q : L2.St → Hp → Prop} (h : t v σ H fun σ' H' => u r σ' H' Q) : gCons t u (v :: r) σ H Q := ⟨v, r, rfl, h⟩
theorem g_gnil {Q : L2.St → Hp → Prop} (h : Q σ H) : gNil [] σ H Q := ⟨rfl, h⟩
theorem g_gsub {to ti : TE} {t : TSet} {v : V} {Q : L2.St → Hp → Prop} (h : to σ H fun o H1 => ti σ H1 fun i H2 => t o i v H2 fun H3 => Q σ H3) : gSub to ti t v σ H Q := h
theorem g_gseqT {n : Nat} {t : TGs} {a : Addr} {xs : List V} {Q : L2.St → Hp → Prop} (h1 : SqT K H a xs) (hl : xs.length = n) (h : t xs σ H Q) : gSeq K n t (.ref a) σ H Q := ⟨a, xs, rfl, .inl h1, hl, h⟩
theorem g_gseqL {n : Nat} {t : TGs} {a : Addr} {xs : List V} {Q : L2.St → Hp → Prop} (h1 : SqL K H a xs) (hl : xs.length = n) (h : t xs σ H Q) : gSeq K n t (.ref a) σ H Q := ⟨a, xs, rfl, .inr h1, hl, h⟩
/-! ## values -/
theorem i_add {i j : Int} (h : Q (.int (i + j)) H) : uAdd (.int i) (.int j) H Q := Or.inl ⟨i, j, rfl, rfl, h⟩
theorem i_addS {i j : Str} (hl : i.length + j.length ≤ sizeLine) (h : Q (.str (i ++ j)) H) : uAdd (.str i) (.str j) H Q := Or.inr (Or.inl ⟨i, j, rfl, rfl, hl, h⟩)
theorem i_sub {i j : Int} (h : Q (.int (i - j)) H) : uSub (.int i) (.int j) H Q := ⟨i, j, rfl, rfl, h⟩
theorem i_mul {i j : Int} (c : CMul i j) (h : Q (.int (i * j)) H) : uMul (.int i) (.int j) H Q := Or.inl ⟨i, j, rfl, rfl, c, h⟩
theorem i_mulW {i j : Int} (c : CMulW i j) (h : Q (.int (i * j)) H) : uMul (.int i) (.int j) H Q := Or.inr ⟨i, j, rfl, rfl, c, h⟩
theorem i_fdiv {i j : Int} (c : CDiv i j) (h : Q (.int (i / j)) H) : uFdiv (.int i) (.int j) H Q := Or.inl ⟨i, j, rfl, rfl, c, h⟩
theorem i_fdivW {i j : Int} (c : CDivW i j) (h : Q (.int (i / j)) H) : uFdiv (.int i) (.int j) H Q := Or.inr ⟨i, j, rfl, rfl, c, h⟩
theorem i_mod {i j : Int} (c : 0 < j) (h : Q (.int (i % j)) H) : uMod (.int i) (.int j) H Q := ⟨i, j, rfl, rfl, c, h⟩
theorem i_pow {i j : Int} (c : CPow i j) (h : Q (.int (i ^ j.toNat)) H) : uPow (.int i) (.int j) H Q := ⟨i, j, rfl, rfl, c, h⟩
theorem i_lt {i j : Int} (h : Q (.bl (decide (i < j))) H) : uLt (.int i) (.int j) H Q := ⟨i, j, rfl, rfl, h⟩
theorem i_le {i j : Int} (h : Q (.bl (decide (i ≤ j))) H) : uLe (.int i) (.int j) H Q := ⟨i, j, rfl, rfl, h⟩
theorem i_gt {i j : Int} (h : Q (.bl (decide (j < i))) H) : uGt (.int i) (.int j) H Q := ⟨i, j, rfl, rfl, h⟩
theorem i_ge {i j : Int} (h : Q (.bl (decide (j ≤ i))) H) : uGe (.int i) (.int j) H Q := ⟨i, j, rfl, rfl, h⟩
theorem i_neg {i : Int} (h : Q (.int (-i)) H) : (rU fun i => .int (-i)) (.int i) H Q := ⟨i, rfl, h⟩
theorem i_eqI {i j : Int} (h : Q (.bl (decide (i = j))) H) : uEq K (.int i) (.int j) H Q := Or.inl ⟨rfl, by rw [show decide (V.int i = V.int j) = decide (i = j) by simp]; exact h⟩
theorem i_eqS {i j : Str} (h : Q (.bl (decide (i = j))) H) : uEq K (.str i) (.str j) H Q := Or.inl ⟨rfl, by rw [show decide (V.str i = V.str j) = decide (i = j) by simp]; exact h⟩
theorem i_neI {i j : Int} (h : Q (.bl (!decide (i = j))) H) : uNe K (.int i) (.int j) H Q := Or.inl ⟨rfl, by rw [show decide (V.int i = V.int j) = decide (i = j) by simp]; exact h⟩
theorem i_neS {i j : Str} (h : Q (.bl (!decide (i = j))) H) : uNe K (.str i) (.str j) H Q := Or.inl ⟨rfl, by rw [show decide (V.str i = V.str j) = decide (i = j) by simp]; exact h⟩
theorem i_eqD {x y : V} {d e : PyData} (h1 : Dp K H x d) (h2 : Dp K H y e) (s1 : SeqAt.shaped d = true) (s2 : SeqAt.shaped e = true) (h : Q (.bl (PyData.eqv d e)) H) : uEq K x y H Q := Or.inr (Or.inl ⟨d, e, h1, h2, s1, s2, h⟩)
theorem i_neD {x y : V} {d e : PyData} (h1 : Dp K H x d) (h2 : Dp K H y e) (s1 : SeqAt.shaped d = true) (s2 : SeqAt.shaped e = true) (h : Q (.bl (!PyData.eqv d e)) H) : uNe K x y H Q := Or.inr (Or.inl ⟨d, e, h1, h2, s1, s2, h⟩)
theorem i_ixL {p : Addr} {xs : List V} {i : Int} {v : V} (h1 : SqL K H p xs) (h2 : atI xs i = some v) (h : Q v H) : uIx K (.ref p) (.int i) H Q := Or.inl ⟨p, xs, i, v, rfl, rfl, h1, h2, h⟩
theorem i_ixT {p : Addr} {xs : List V} {i : Int} {v : V} (h1 : SqT K H p xs) (h2 : atI xs i = some v) (h : Q v H) : uIx K (.ref p) (.int i) H Q := Or.inr (Or.inl ⟨p, xs, i, v, rfl, rfl, h1, h2, h⟩)
theorem i_ixS {z : Str} {i : Int} {c : Nat} (hl : z.length ≤ sizeLine) (h2 : atI z.cps.toList i = some c) (h : Q (.str ⟨#[c]⟩) H) : uIx K (.str z) (.int i) H Q := Or.inr (Or.inr (Or.inl ⟨z, i, c, rfl, rfl, hl, h2, h⟩))
theorem i_ixD {a : Addr} {y v : V} (h1 : DGet H a y (some v)) (h : Q v H) : uIx K (.ref a) y H Q := Or.inr (Or.inr (Or.inr ⟨a, v, rfl, h1, h⟩))
theorem i_inD {a : Addr} {y : V} {o : Option V} (h1 : DGet H a y o) (h : Q (.bl o.isSome) H) : uIn K y (.ref a) H Q := Or.inl ⟨a, o, rfl, h1, h⟩
theorem i_notinD {a : Addr} {y : V} {o : Option V} (h1 : DGet H a y o) (h : Q (.bl (!o.isSome)) H) : uNotIn K y (.ref a) H Q := Or.inl ⟨a, o, rfl, h1, h⟩
theorem i_inL {p : Addr} {x : V} {xs : List V} (h1 : SqL K H p xs) (hx : flatV x = true) (ha : xs.all flatV = true) (h : Q (.bl (inV x xs)) H) : uIn K x (.ref p) H Q := Or.inr (Or.inl ⟨p, xs, rfl, .inl h1, hx, ha, h⟩)
theorem i_inT {p : Addr} {x : V} {xs : List V} (h1 : SqT K H p xs) (hx : flatV x = true) (ha : xs.all flatV = true) (h : Q (.bl (inV x xs)) H) : uIn K x (.ref p) H Q := Or.inr (Or.inl ⟨p, xs, rfl, .inr h1, hx, ha, h⟩)
theorem i_notinL {p : Addr} {x : V} {xs : List V} (h1 : SqL K H p xs) (hx : flatV x = true) (ha : xs.all flatV = true) (h : Q (.bl (!inV x xs)) H) : uNotIn K x (.ref p) H Q := Or.inr (Or.inl ⟨p, xs, rfl, .inl h1, hx, ha, h⟩)
theorem i_notinT {p : Addr} {x : V} {xs : List V} (h1 : SqT K H p xs) (hx : flatV x = true) (ha : xs.all flatV = true) (h : Q (.bl (!inV x xs)) H) : uNotIn K x (.ref p) H Q := Or.inr (Or.inl ⟨p, xs, rfl, .inr h1, hx, ha, h⟩)
theorem i_inC {c : Nat} {z : Str} (h : Q (.bl (decide (c ∈ z.cps.toList))) H) : uIn K (.str ⟨#[c]⟩) (.str z) H Q := Or.inr (Or.inr ⟨c, z, rfl, rfl, h⟩)
theorem i_notinC {c : Nat} {z : Str} (h : Q (.bl (!decide (c ∈ z.cps.toList))) H) : uNotIn K (.str ⟨#[c]⟩) (.str z) H Q := Or.inr (Or.inr ⟨c, z, rfl, rfl, h⟩)
theorem i_slL {a : Addr} {xs : List V} {lo hi : Option Int} (h1 : SqL K H a xs) (h : ∀ p, H p = none → Q (.ref p) (upd H p (.lst (cutV xs lo hi)))) : uSl K (.ref a) lo hi H Q := Or.inl ⟨a, xs, rfl, h1, h⟩
theorem i_slS {z : Str} {lo hi : Option Int} (hl : z.length ≤ sizeLine) (h : Q (.str (cutS z lo hi)) H) : uSl K (.str z) lo hi H Q := Or.inr (Or.inl ⟨z, rfl, hl, h⟩)
theorem i_setL {p : Addr} {xs : List V} {k : Int} {j : Nat} {v : V} {Q : Hp → Prop} (h1 : H p = some (.lst xs)) (hj : ixN xs.length k = some j) (h : Q (upd H p (.lst (xs.set j v)))) : uSet (.ref p) (.int k) v H Q := Or.inl ⟨p, xs, k, j, rfl, rfl, h1, hj, h⟩
theorem i_setD {a : Addr} {y v : V} {H' : Hp} {Q : Hp → Prop} (h1 : DPut H a y v H') (h : Q H') : uSet (.ref a) y v H Q := Or.inr ⟨a, H', rfl, h1, h⟩
theorem i_lenS {z : Str} (hl : z.length ≤ sizeLine) (h : Q (.int z.length) H) : uLen K [.str z] H Q := Or.inl ⟨_, _, rfl, ⟨hl, rfl⟩, h⟩
theorem i_lenL {p : Addr} {xs : List V} (h1 : SqL K H p xs) (h : Q (.int xs.length) H) : uLen K [.ref p] H Q := Or.inl ⟨_, _, rfl, .inl ⟨xs, h1, rfl⟩, h⟩
theorem i_lenT {p : Addr} {xs : List V} (h1 : SqT K H p xs) (h : Q (.int xs.length) H) : uLen K [.ref p] H Q := Or.inl ⟨_, _, rfl, .inr ⟨xs, h1, rfl⟩, h⟩
theorem i_lenD {p : Addr} {kvs : List (Key × V)} (h1 : H p = some (.dK kvs)) (h : Q (.int kvs.length) H) : uLen K [.ref p] H Q := Or.inr ⟨p, kvs, rfl, h1, h⟩
theorem i_max2 {i j : Int} (h : Q (.int (max i j)) H) : uMax2 [.int i, .int j] H Q := ⟨i, j, rfl, by
  have e : (if j > i then j else i) = max i j := by split <;> omega
  rw [e]; exact h⟩
theorem i_min2 {i j : Int} (h : Q (.int (min i j)) H) : uMin2 [.int i, .int j] H Q := ⟨i, j, rfl, by
  have e : (if j < i then j else i) = min i j := by split <;> omega
  rw [e]; exact h⟩
theorem i_abs {i : Int} (h : Q (.int (i.natAbs : Int)) H) : uAbs [.int i] H Q := ⟨i, rfl, by
  have e : (if i < 0 then -i else i) = (i.natAbs : Int) := by split <;> omega
  rw [e]; exact h⟩
theorem i_listSq {p : Addr} {ys : List V} (h1 : SqL K H p ys ∨ SqT K H p ys) (h : ∀ l, H l = none → Q (.ref l) (upd H l (.lst ys))) : uList K [.ref p] H Q := Or.inl ⟨p, ys, rfl, h1, h⟩
theorem i_listD {a : Addr} {kvs : List (Key × V)} (h1 : Rd H a (.dK kvs)) (h : ∀ p, H p = none → Q (.ref p) (upd H p (.lst (kvs.map fun kv => kV kv.1)))) : uList K [.ref a] H Q := Or.inr ⟨a, kvs, rfl, h1, h⟩
theorem i_dictD {a : Addr} {kvs : List (Key × V)} (h1 : Rd H a (.dK kvs)) (h : ∀ p, H p = none → Q (.ref p) (upd H p (.dK kvs))) : uDict [.ref a] H Q := ⟨a, kvs, rfl, h1, h⟩
theorem i_strI {i : Int} (c : i.natAbs.log2 < 1920) (h : Q (.str (toString i)) H) : uStr [.int i] H Q := Or.inl ⟨i, rfl, c, h⟩
theorem i_repr {x : V} {d : PyData} (h1 : Dp K H x d) (h2 : d.showable = true) (h3 : d.shown.length ≤ sizeLine) (h4 : d.depth ≤ 40) (h : Q (.str d.shown) H) : uRepr K [x] H Q := ⟨x, d, rfl, h1, h2, h3, h4, h⟩
theorem i_append {l : Addr} {xs : List V} {y : V} (h1 : H l = some (.lst xs)) (hz : xs.length < sizeLine) (h : Q .non (upd H l (.lst (xs ++ [y])))) : rAppend (.ref l) [y] H Q := ⟨l, xs, y, rfl, rfl, h1, hz, h⟩
end
end Rf

namespace Rf
open PySem PySem.Spec PyProof.Rows L2
/-! ## small things -/
theorem take_snoc {α : Type} {l : List α} {i : Nat} {x : α} (h : l[i]? = some x) : l.take (i + 1) = l.take i ++ [x] := by
  rw [List.take_add_one, h]
  rfl
theorem getMapInt {ns : List Int} {i : Nat} {y : V} (h : (ns.map V.int)[i]? = some y) : ∃ z, ns[i]? = some z ∧ y = .int z := by
  rw [List.getElem?_map] at h
  cases e : ns[i]? with
  | none => rw [e] at h; cases h
  | some z => rw [e] at h; exact ⟨z, rfl, (Option.some.inj h).symm⟩
theorem atI_of {α : Type} {xs : List α} {i : Int} {v : α} (h0 : 0 ≤ i) (h : xs[i.toNat]? = some v) : atI xs i = some v := by
  have hl : i.toNat < xs.length := (List.getElem?_eq_some_iff.mp h).1
  unfold atI ixN
  rw [if_pos h0, if_pos (by omega)]
  exact h
theorem atI_ints {ns : List Int} {i : Int} (h0 : 0 ≤ i) (h : i < (ns.length : Int)) : atI (ns.map V.int) i = some (.int (ns.getD i.toNat 0)) := by
  refine atI_of h0 ?_
  have hl : i.toNat < ns.length := by omega
  rw [List.getElem?_map, List.getElem?_eq_getElem hl, List.getD_eq_getElem?_getD, List.getElem?_eq_getElem hl]
  rfl
theorem sz_small {n : Nat} (h : n ≤ 1000000) : n ≤ sizeLine := Nat.le_trans h (by decide)
theorem sz_small' {n : Nat} (h : n < 1000000) : n < sizeLine := Nat.lt_of_lt_of_le h (by decide)
theorem _root_.L2.Same.mut {H H' : Hp} {p : Addr} {o : HO} (e : Same H H') (h : H p = none) : Same H (upd H' p o) := fun a u ha => by
  rw [upd_ne (ne_of_none ha h)]
  exact e a u ha
theorem _root_.L2.Same.seqT {K : PySem.W.Frag} {H H' : Hp} {a : Addr} {xs : List V} (e : Same H H') (h : SqT K H a xs) : SqT K H' a xs := by
  rcases h with h | h
  · rcases h with h | ⟨o, h⟩
    · exact Or.inl (Or.inl (e _ _ h))
    · exact Or.inl (Or.inr ⟨o, e _ _ h⟩)
  · exact Or.inr h
theorem drop_cons {α : Type} {l : List α} {i : Nat} {x : α} (h : l[i]? = some x) : l.drop i = x :: l.drop (i + 1) := by
  obtain ⟨h1, h2⟩ := List.getElem?_eq_some_iff.mp h
  rw [List.drop_eq_getElem_cons h1, h2]
theorem newH {H H1 : Hp} {p : Addr} {o : HO} (hp : H p = none) (e : upd H p o = H1) : Same H H1 ∧ H1 p = some o := by
  subst e
  exact ⟨Same.mut (Same.refl H) hp, upd_same⟩
/-- the names of built-ins are the built-ins' -/
structure Blt (mg : Str → Option Value) : Prop where
  b_len : mg "len" = none
  b_range : mg "range" = none
  b_abs : mg "abs" = none
  b_max : mg "max" = none
  b_min : mg "min" = none
  b_sorted : mg "sorted" = none
  b_isinstance : mg "isinstance" = none
  b_repr : mg "repr" = none
  b_list : mg "list" = none
  b_dict : mg "dict" = none
  b_str : mg "str" = none
  b_int : mg "int" = none
  b_bool : mg "bool" = none
  b_tuple : mg "tuple" = none
  b_all : mg "all" = none
  b_any : mg "any" = none
  b_sum : mg "sum" = none
  b_enumerate : mg "enumerate" = none
  b_zip : mg "zip" = none
/-- a def of the text under its name -/
structure Dfn (K : PySem.W.Frag) (mg : Str → Option Value) (x : Str) (st : Stmt) (ps : List Str) (ds : List Value) : Prop where
  ex : ∃ (f : Addr) (fd : FuncData), Src K x x st f fd ∧ mg x = some (.ref f) ∧ PySem.W.keepIn K (.ref f) = true ∧ Binds K fd ps ds
section
variable {P : Program} {w : World} {K : PySem.W.Frag} {mg : Str → Option Value} {base : Heap}
theorem Dfn.cal {x : Str} {st : Stmt} {N ps : List Str} {ds : List Value} {dvs : List V} {k : Nat} {sp : Sp} (F : Dfn K mg x st ps ds) (hd : Vals dvs ds) (S : FnScope N ps (defScope st)) (hlen : ∀ vs H Q E, sp vs H Q E → vs.length = ps.length)
    (hb : ∀ (f : Addr) (cdv : Value) (A : Around) (outer : List Env) (s : Shared) (H : Hp) (vs : List V) (Q : VK) (E : XK), Room k (A.deeper (envOfC x (defScope st) s.heap.objs.size f cdv)) → Quiet (A.deeper (envOfC x (defScope st) s.heap.objs.size f cdv)) → sp vs H Q E →
      ∃ t, PSs (cxOf (L2.CX P w) P w K mg base N x (defScope st) f cdv A outer s H E) (defBody st) t ∧ t { nx := fun _ H' => Q .non H', rt := Q } (start N vs) H) : Cal P w K mg base (k + 1) x dvs sp := by
  obtain ⟨f, fd, F, hm, kp, b⟩ := F.ex
  exact ⟨f, fd, ps, ds, F.fn S hlen (hb f), hm, kp, b, hd⟩
theorem src_mk {x qual : Str} {st : Stmt} {f : Addr} {oc : Value} {od an : Option Addr} {osl : Array (Option Value)} {dV kV doc pm cdv ct : Value}
    (l : K.lookup f = some ⟨oc, od, .func (PySem.W.fnOf x qual (defArgs st) (defBody st) (defScope st) dV kV doc pm an cdv ct), osl⟩) (c : PySem.W.codeIn K cdv qual = true) :
    Src K x qual st f (PySem.W.fnOf x qual (defArgs st) (defBody st) (defScope st) dV kV doc pm an cdv ct) := ⟨oc, od, dV, kV, doc, pm, an, cdv, ct, osl, rfl, l, c⟩
/-- a def without defaults, from what the head tells -/
theorem dfn_mk {h : Heap} {x : Str} {st : Stmt} {ps : List Str} {f : Addr} {oc : Value} {od an : Option Addr} {osl : Array (Option Value)} {kV doc pm cdv ct : Value} (X : K.In h) (G : h.Ns mainGlobals mg)
    (hb : ∀ us : List Value, us.length = ps.length → bindArgs (PySem.W.fnOf x x (defArgs st) (defBody st) (defScope st) .none kV doc pm an cdv ct) ⟨us, []⟩ = pure (ps.zip us))
    (a : PySem.W.nsIn K mainGlobals x = some (some (.ref f))) (l : K.lookup f = some ⟨oc, od, .func (PySem.W.fnOf x x (defArgs st) (defBody st) (defScope st) .none kV doc pm an cdv ct), osl⟩) (c : PySem.W.codeIn K cdv x = true) (k : PySem.W.keepIn K (.ref f) = true) :
    Dfn K mg x st ps [] := ⟨f, _, src_mk l c, PySem.W.mg_of X G a, k, Binds.all hb⟩
end
end Rf

/-! ## own exceptions whose __init__ stores its arguments, over any base whose mro is bmB -/
namespace Rf
open PySem PySem.Spec PyProof.Rows L2 Builtin Builtin.ObjectAttr
/-- own classes, then the base's mro -/
def mroB (cs : List Addr) (bmB : List Value) : List Value := cs.map Value.ref ++ bmB
theorem mroB_has (bmB : List Value) (T : String) : ∀ cs : List Addr, (mroB cs bmB).contains (.type T) = bmB.contains (.type T)
  | [] => rfl
  | c :: cs => by
    show (Value.ref c :: mroB cs bmB).contains (.type T) = _
    rw [List.contains_cons, mroB_has bmB T cs]
    rfl
theorem mroB_pass {bmB : List Value} {self : Value} (hb : refuseLoop self "__setattr__" bmB = pure ()) : ∀ cs : List Addr, refuseLoop self "__setattr__" (mroB cs bmB) = pure ()
  | [] => hb
  | c :: cs => by
    show refuseLoop self "__setattr__" (Value.ref c :: mroB cs bmB) = _
    rw [refuseLoop_ref]
    exact mroB_pass hb cs
/-- the base's facts that a store asks -/
structure BaseOk (B newId initId : String) (bmB : List Value) : Prop where
  base : ExcBaseFacts B newId initId bmB
  pass : ∀ self : Value, refuseLoop self "__setattr__" bmB = pure ()
  obj : bmB.contains (.type "object") = true
  ne : bmB.isEmpty = false
abbrev bmVE : List Value := [.type "ValueError", .type "Exception", .type "BaseException", .type "object"]
abbrev bmLE : List Value := [.type "LookupError", .type "Exception", .type "BaseException", .type "object"]
theorem baseVE : BaseOk "ValueError" "ValueError.__new__" "ValueError.__init__" bmVE := ⟨F.excBase_ValueError, fun self => F.store_ValueError.passes self, by decide +kernel, rfl⟩
theorem baseLE : BaseOk "LookupError" "LookupError.__new__" "LookupError.__init__" bmLE := ⟨F.excBase_LookupError, fun self => by kernel_rfl, by decide +kernel, rfl⟩
section
variable {prog : Program} {w : World} {A : Around} {E : Value → Shared → Prop} {R : Result → Shared → Prop} {hp : Heap} {g : Array GenState} {d : Drawn} {t : Nat} {os : OsState} {B newId initId : String} {bmB : List Value}
theorem ex_first {K : W.Frag} {name : Str} {tk : Tok} {v : Value} {x C : Addr} {fv : Array Value} {cd : ClassData} {cs : List Addr} (hB : BaseOk B newId initId bmB) (hin : K.In hp) (hx : hp.get? x = some { cls := .ref C, data := .fields fv }) (hcd : W.clsIn K C = some cd)
    (hm : cd.mro = mroB cs bmB) (hh : cd.hasDict = true) (ha : W.findIn K (.ref C) name = some none)
    (hq : ∀ h' tk' dx, (∀ b o, b ≠ x → hp.get? b = some o → h'.get? b = some o) → hp.objs.size ≤ dx → dx ≠ x → h'.get? x = some { cls := .ref C, dict := some dx, data := .fields fv } → h'.Ns1 dx (fun y => if y = name then some v else none) → R (.ok (.ret .none)) ⟨h', g, d, tk', os⟩) :
    codeAny (model prog w) A (.call (.builtin "object.__setattr__") ⟨[.ref x, .str name tk, v], []⟩) R ⟨hp, g, d, t, os⟩ := by
  have J : W.InstAt hp x { cls := .ref C, data := .fields fv } C none := ⟨hx, rfl, rfl, trivial⟩
  have SF := F.store_object
  have hne : cd.mro.isEmpty = false := by
    rw [hm]
    cases cs with
    | nil => exact hB.ne
    | cons c cs => rfl
  have hob : cd.mro.contains (.type "object") = true := by rw [hm, mroB_has]; exact hB.obj
  have hxs : x ≠ hp.objs.size := Nat.ne_of_lt (Heap.lt_size hx)
  have isO : W.Looks (model prog w) hp (isInstance (.ref x) (.type "object")) true := J.type.andThen (W.looks_mroIn hin (by unfold W.mroIn; rw [hcd, Option.bind_some, if_neg (by rw [hne]; decide), hob]))
  refine codeAny_call_builtin SF.slot.plain SF.entry (@W.check_slot (model prog w) _ _ ⟨hp, g, d, t, os⟩ "object.__setattr__" "object" "__setattr__" (.ref x) [.str name tk, v] [] _ SF.kind SF.split isO (SF.args (.ref x) (.str name tk) v) ?_)
  have lm : W.Looks (model prog w) hp (mroOf (.ref C)) cd.mro := (W.looks_clsIn hin hcd).andThen .now
  have ls : W.Looks (model prog w) hp (storeTaker? none) none := .now
  have lc : W.Looks (model prog w) hp (classData C) cd := W.looks_clsIn hin hcd
  rw [W.osa_eq, refuse_eq]
  refine wpAny_bind (wpAny_bind (J.type.at (wpAny_bind (lm.at ?_))))
  rw [hm, mroB_pass (hB.pass _) cs]
  refine wpAny_pure (wpAny_bind (J.type.at (wpAny_bind ((W.looks_findIn hin ha).at (wpAny_bind (ls.at ?_))))))
  show wpAny _ _ (storeInOwnDict (.ref x) (.ref C) (.str name tk) name v false) _ _ _
  obtain ⟨nm, bs, mro, ns, qn, hd, sn, sb, ab, col, del⟩ := cd
  dsimp only at hh
  subst hh
  unfold storeInOwnDict ownDictForStores
  repeat (first | with_reducible refine HandSPX.store_in_new ?_ ?_ | with_reducible refine wpAny_loadPart_at hx ?_ | with_reducible refine lc.at ?_ | wp_step)
  · exact ⟨_, #[], _, (Heap.get?_update_ne _ _ _ _ hxs.symm).trans (Heap.get?_push_at rfl rfl), rfl, fun e he => absurd he (by simp), fun _ => rfl⟩
  · intro h' tk' hn' hs
    have hx1 : (hp.push { cls := .type "dict", data := .dict #[] }).get? x = some { cls := .ref C, data := .fields fv } := Heap.get?_push_of_some _ hx
    refine hq h' tk' hp.objs.size ?_ (Nat.le_refl _) hxs.symm ((hs.2 x hxs).trans (Heap.get?_update_self _ hx1 rfl)) hn'
    intro b o hb ho
    exact (hs.2 b (Nat.ne_of_lt (Heap.lt_size ho))).trans ((Heap.get?_update_ne _ _ _ _ hb).trans (Heap.get?_push_of_some _ ho))
theorem ex_next {K : W.Frag} {name : Str} {tk : Tok} {v : Value} {x C dx : Addr} {fv : Array Value} {cd : ClassData} {cs : List Addr} {m0 : Str → Option Value} {nl : List Str} (hB : BaseOk B newId initId bmB) (hin : K.In hp)
    (hx : hp.get? x = some { cls := .ref C, dict := some dx, data := .fields fv }) (hns : hp.Ns1 dx m0) (hw : PySem.Within m0 nl) (hz : nl.length ≤ 1000) (hcd : W.clsIn K C = some cd) (hm : cd.mro = mroB cs bmB) (hh : cd.hasDict = true)
    (ha : W.findIn K (.ref C) name = some none)
    (hq : ∀ h' tk', (∀ b o, b ≠ dx → hp.get? b = some o → h'.get? b = some o) → h'.Ns1 dx (fun y => if y = name then some v else m0 y) → R (.ok (.ret .none)) ⟨h', g, d, tk', os⟩) :
    codeAny (model prog w) A (.call (.builtin "object.__setattr__") ⟨[.ref x, .str name tk, v], []⟩) R ⟨hp, g, d, t, os⟩ := by
  obtain ⟨oD, esD, epD, hoD, hdD, _⟩ := hns.count hw
  have J : W.InstAt hp x { cls := .ref C, dict := some dx, data := .fields fv } C (some oD) := ⟨hx, rfl, rfl, hoD⟩
  have SF := F.store_object
  have hne : cd.mro.isEmpty = false := by
    rw [hm]
    cases cs with
    | nil => exact hB.ne
    | cons c cs => rfl
  have hob : cd.mro.contains (.type "object") = true := by rw [hm, mroB_has]; exact hB.obj
  have isO : W.Looks (model prog w) hp (isInstance (.ref x) (.type "object")) true := J.type.andThen (W.looks_mroIn hin (by unfold W.mroIn; rw [hcd, Option.bind_some, if_neg (by rw [hne]; decide), hob]))
  refine codeAny_call_builtin SF.slot.plain SF.entry (@W.check_slot (model prog w) _ _ ⟨hp, g, d, t, os⟩ "object.__setattr__" "object" "__setattr__" (.ref x) [.str name tk, v] [] _ SF.kind SF.split isO (SF.args (.ref x) (.str name tk) v) ?_)
  have lm : W.Looks (model prog w) hp (mroOf (.ref C)) cd.mro := (W.looks_clsIn hin hcd).andThen .now
  have ls : W.Looks (model prog w) hp (storeTaker? none) none := .now
  have lc : W.Looks (model prog w) hp (classData C) cd := W.looks_clsIn hin hcd
  rw [W.osa_eq, refuse_eq]
  refine wpAny_bind (wpAny_bind (J.type.at (wpAny_bind (lm.at ?_))))
  rw [hm, mroB_pass (hB.pass _) cs]
  refine wpAny_pure (wpAny_bind (J.type.at (wpAny_bind ((W.looks_findIn hin ha).at (wpAny_bind (ls.at ?_))))))
  show wpAny _ _ (storeInOwnDict (.ref x) (.ref C) (.str name tk) name v false) _ _ _
  obtain ⟨nm, bs, mro, ns, qn, hd, sn, sb, ab, col, del⟩ := cd
  dsimp only at hh
  subst hh
  unfold storeInOwnDict ownDictForStores
  repeat (first | with_reducible refine PySem.OEX.store_in_old hns hw hz ?_ | with_reducible refine wpAny_loadPart_at hx ?_ | with_reducible refine lc.at ?_ | wp_step)
  intro h' tk' hn' hs
  exact hq h' tk' (fun b o hb ho => (hs.2 b hb).trans ho) hn'
end
/-- what the written part says of such a class at C -/
structure Exq (K : PySem.W.Frag) (C : Addr) (newId : String) (bmB : List Value) : Prop where
  cls : ∃ nm q N bs cs sn sub ab col dd k0 k1 k2 k3 k5, K.lookup C = some (excClassObj nm q C N bs (mroB cs bmB) true sn sub ab col dd k0 k1 k2 k3 k5 newId)
  sa : PySem.W.findIn K (.ref C) "__setattr__" = some (some (.builtin "object.__setattr__"))
  exC : PySem.W.subIn K (.ref C) (.type "BaseException") = some true
  tyC : PySem.W.typeIn K (.ref C) = some (.type "type")
  kC : PySem.W.keepIn K (.ref C) = true
section
variable {X : Cx} {pins : List (Addr × Obj)} {σ : L2.St} {H : Hp} {s : Shared} {a C dx : Addr} {f : Str} {y : V} {u : Value} {fs : List (Str × V)} {Q : Unit → Shared → Prop} {E : Value → Shared → Prop} {A : Around} {B newId initId : String} {bmB : List Value}
theorem Exq.cd (T : Exq X.K C newId bmB) : ∃ cd cs, PySem.W.clsIn X.K C = some cd ∧ cd.mro = mroB cs bmB ∧ cd.hasDict = true := by
  obtain ⟨nm, q, N, bs, cs, sn, sub, ab, col, dd, k0, k1, k2, k3, k5, hC⟩ := T.cls
  refine ⟨{ name := nm, bases := bs, mro := .ref C :: mroB cs bmB, ns := N, qualname := q, hasDict := true, slotNames := sn, subclasses := sub, abstract := ab, collection := col, hasDel := false }, C :: cs, ?_, rfl, rfl⟩
  unfold PySem.W.clsIn
  rw [hC] <;> rfl
theorem ex_ost1 (hB : BaseOk B newId initId bmB) (T : Exq X.K C newId bmB) (I : L2.Inv X pins σ H s) (e : H a = some (exo a C none)) (hno : PySem.W.findIn X.K (.ref C) f = some none) (ry : L2.RelV y u)
    (h : ∀ dx s', H dx = none → dx ≠ a → L2.Inv X pins σ (upd (upd H dx (exd dx [(f, y)])) a (exo a C (some dx))) s' → Q () s') : wpAny (model X.prog X.w) A (setAttr (.ref a) f u) Q E s := by
  obtain ⟨cd, cs, hcd, hm, hh⟩ := T.cd
  obtain ⟨t1, ho⟩ := exo_at I.hok e
  obtain ⟨hp, g, d, t, os⟩ := s
  refine PySem.W.set_plain I.kIn (ox := { cls := .ref C, dict := none, data := .fields #[.ref t1, .none, .none, .none, .bool false, .none] }) (od := none) ⟨ho, rfl, rfl, trivial⟩ T.sa ?_
  refine ex_first hB I.kIn ho hcd hm hh hno ?_
  intro h' tk' dx k dn dne hx hn
  have hnd : H dx = none := I.hok.fresh dn
  have nd : ∀ {b : Addr} {o : Obj}, hp.get? b = some o → b ≠ dx := fun {b o} q => Nat.ne_of_lt (Nat.lt_of_lt_of_le (Heap.lt_size q) dn)
  have na : ∀ {b : Addr}, H b = none → b ≠ a := by
    intro b n z
    rw [z, e] at n
    cases n
  have un : L2.Un X.fs [] H (upd (upd H dx (exd dx [(f, y)])) a (exo a C (some dx))) hp h' := by
    constructor
    · exact fun b o q n _ _ => k b o (na n) q
    · exact fun b o q n _ _ => ⟨o.slots, k b o (na n) q⟩
    · intro b o q n _
      rw [upd_ne (na n), upd_ne (nd q)]
      exact n
    · intro b o q _
      by_cases hb : b = a
      · exact ⟨_, by rw [hb]; exact hx⟩
      · exact ⟨o, k b o hb q⟩
    · intro b xs q
      rw [upd_ne (at_ne e q exo_tup), upd_ne (ne_of_none q hnd)]
      exact q
    · intro b o v q
      rw [upd_ne (at_ne e q exo_frz), upd_ne (ne_of_none q hnd)]
      exact q
    · intro b ps q
      exact ⟨#[], by rw [upd_ne (at_ne e q exo_tbl), upd_ne (ne_of_none q hnd), q]; simp⟩
  refine h dx _ hnd dne (I.un (t' := tk') un ?_)
  intro b o q
  by_cases hb : b = a
  · subst hb
    rw [upd_same] at q
    cases q
    exact exo_ok hx
  · rw [upd_ne hb] at q
    by_cases hd : b = dx
    · subst hd
      rw [upd_same] at q
      cases q
      exact exd_ok hn (relO_put (fs := []) ry fun _ => True.intro)
    · rw [upd_ne hd] at q
      refine (I.hok b o q).stay ?_ ?_ ?_
      · intro c v hc z
        refine k c v ?_ z
        rcases hc with hc | hc
        · rw [hc]; exact hb
        · exact at_ne e hc exo_own
      · intro c hc
        rw [upd_ne (at_ne e hc exo_own), upd_ne (ne_of_none hc hnd)]
        exact hc
      · intro c xs hc
        rw [upd_ne (at_ne e hc exo_tup), upd_ne (ne_of_none hc hnd)]
        exact hc
theorem ex_ost2 (hB : BaseOk B newId initId bmB) (T : Exq X.K C newId bmB) (I : L2.Inv X pins σ H s) (e : H a = some (exo a C (some dx))) (ed : H dx = some (exd dx fs)) (hl : fs.length ≤ 900) (hno : PySem.W.findIn X.K (.ref C) f = some none) (ry : L2.RelV y u)
    (h : ∀ s', L2.Inv X pins σ (upd H dx (exd dx ((f, y) :: fs))) s' → Q () s') : wpAny (model X.prog X.w) A (setAttr (.ref a) f u) Q E s := by
  obtain ⟨cd, cs, hcd, hm, hh⟩ := T.cd
  obtain ⟨t1, ho⟩ := exo_at I.hok e
  obtain ⟨mA, hns, rel⟩ := exd_at I.hok ed
  have hw := within_of rel
  obtain ⟨hp, g, d, t, os⟩ := s
  obtain ⟨oD, _, _, hoD, _, _⟩ := hns.count hw
  refine PySem.W.set_plain I.kIn (ox := { cls := .ref C, dict := some dx, data := .fields #[.ref t1, .none, .none, .none, .bool false, .none] }) (od := some oD) ⟨ho, rfl, rfl, hoD⟩ T.sa ?_
  refine ex_next hB I.kIn ho hns hw (by rw [List.length_map]; omega) hcd hm hh hno ?_
  intro h' tk' k hn
  have hd : ∃ o, h'.get? dx = some o := by
    obtain ⟨o, _, _, e', _⟩ := hn
    exact ⟨o, e'⟩
  exact h _ (I.write (t' := tk') (x := dx) (e := dx) (o := exd dx ((f, y) :: fs)) (by rw [ed]; exact True.intro) (Or.inl rfl) k hd (exd_ok hn (relO_put ry rel)))
/-- self.f = e, of an exception in the making -/
def uOst (K : PySem.W.Frag) (newId : String) (bmB : List Value) (f : Str) (to te : TE) : TS := fun D σ H => te σ H fun y H1 => to σ H1 fun x H2 => ∃ a C : Addr, x = .ref a ∧ Exq K C newId bmB ∧ PySem.W.findIn K (.ref C) f = some none ∧
  ((H2 a = some (exo a C none) ∧ ∀ dx, H2 dx = none → dx ≠ a → D.nx σ (upd (upd H2 dx (exd dx [(f, y)])) a (exo a C (some dx)))) ∨
    ∃ (dx : Addr) (fs : List (Str × V)), H2 a = some (exo a C (some dx)) ∧ H2 dx = some (exd dx fs) ∧ fs.length ≤ 900 ∧ D.nx σ (upd H2 dx (exd dx ((f, y) :: fs))))
theorem us_ost {o e : Expr} {to te : TE} {p' pos : Pos} (hB : BaseOk B newId initId bmB) (ho : PE X o to) (he : PE X e te) (hs : swapsWith e (some (.Attribute o f p')) pos.line X.env = pure false := by rfl) :
    PS X (.Assign [.Attribute o f p'] e pos) (uOst X.K newId bmB f to te) := by
  constructor
  intro pins s σ H D I h
  refine plainObj_wpAny_Assign_Attribute (thn (he.run pins s σ H _ I h) ?_) hs
  rintro v s1 ⟨y, H1, I1, r1, q1⟩
  refine thn (ho.run pins s1 σ H1 _ I1 q1) ?_
  rintro u s2 ⟨x, H2, I2, r2, a, C, ex, T, hno, q⟩
  subst ex
  cases (show u = Value.ref a from r2)
  rcases q with ⟨ea, q⟩ | ⟨dx, fs, ea, ed, hl, q⟩
  · exact ex_ost1 hB T I2 ea hno r1 fun dx s' n ne J => ⟨σ, _, J, q dx n ne⟩
  · exact ex_ost2 hB T I2 ea ed hl hno r1 fun s' J => ⟨σ, _, J, q⟩
end
end Rf

namespace Rf
open PySem PySem.Spec PyProof.Rows L2
/-! ## raise C(e, ..) -/
/-- the fields that an __init__ of stores leaves, the last one first -/
def exFs (names : List Str) (ws : List V) : List (Str × V) := (names.zip ws).reverse
def spEx (C : Addr) (names : List Str) : Sp := fun vs H Q _ => ∃ (a : Addr) (ws : List V), vs = .ref a :: ws ∧ ws.length = names.length ∧ H a = some (exo a C none) ∧
  ∀ d, H d = none → d ≠ a → Q .non (upd (upd H d (exd d (exFs names ws))) a (exo a C (some d)))
/-- an own exception class whose __init__ stores its arguments -/
structure XIni (P : Program) (w : World) (K : PySem.W.Frag) (mg : Str → Option Value) (base : Heap) (k : Nat) (x : Str) (C : Addr) (names : List Str) : Prop where
  ex : ∃ (B newId initId : String) (bmB : List Value) (fI : Addr) (fd : FuncData) (ps : List Str), BaseOk B newId initId bmB ∧ Exq K C newId bmB ∧ mg x = some (.ref C) ∧ PySem.W.findIn K (.ref C) "__init__" = some (some (.ref fI)) ∧
    PySem.W.typeIn K (.ref fI) = some (.type "function") ∧ Fn P w K mg base k fI fd ps (spEx C names) ∧ Binds K fd ps []
/-- one without __init__ -/
structure XPl (K : PySem.W.Frag) (mg : Str → Option Value) (x : Str) (C : Addr) : Prop where
  ex : ∃ (B newId initId : String) (bmB : List Value), ExcBaseFacts B newId initId bmB ∧ PySem.W.excIn K C bmB newId = true ∧ mg x = some (.ref C) ∧ PySem.W.keepIn K (.ref C) = true ∧
    PySem.W.subIn K (.ref C) (.type "BaseException") = some true ∧ PySem.W.typeIn K (.ref C) = some (.type "type")
section
variable {X : Cx} {j k : Nat} {C : Addr} {names : List Str} {x m : Str} {p p2 pos pos2 : Pos} {e : Expr} {es : List Expr} {ta : TA} {W : WX}
def uMkE (C : Addr) (names : List Str) (ta : TA) : L2.St → Hp → XK → Prop := fun σ H Q => ta σ H fun vs H1 => vs.length = names.length ∧ names.length ≤ 100 ∧ ∀ d, H1 d = none → Q (.ref C) (some d) (upd H1 d (.xd (exFs names vs)))
theorem ex_heap {H1 : Hp} {a d : Addr} {fs : List (Str × V)} (ha : H1 a = none) (hda : d ≠ a) : upd (del (upd (upd (upd H1 a (exo a C none)) d (exd d fs)) a (exo a C (some d))) a) d (.xd fs) = upd H1 d (.xd fs) := by
  funext b
  by_cases hb : b = d
  · subst hb
    rw [upd_same, upd_same]
  · rw [upd_ne hb, upd_ne hb]
    by_cases hba : b = a
    · subst hba
      rw [del_same, ha]
    · rw [del_ne hba, upd_ne hba, upd_ne hb, upd_ne hba]
theorem ux_ini (c : XIni X.prog X.w X.K X.mg X.base k x C names) (hr : Room j X.A) (hk : k + 1 ≤ j) (hG : Quiet X.A) (hg : Gl X x) (ha : PA X (e :: es) ta)
    (hdb : (x == ("__debug__" : Str)) = false := by decide) (he : starEach (e :: es) X.env = (false, eval e X.env) :: starEach es X.env := by rfl) (hpl : (backTo pos (starEach es X.env)).any (·.1) = false := by rfl) :
    PMk X (.Call (.Name x p) (e :: es) [] pos) (uMkE C names ta) := by
  obtain ⟨B, newId, initId, bmB, fI, fd, ps, hB, T, hm, iC, tI, F1, hb⟩ := c.ex
  have hr := hr.mono hk
  intro pins s σ H Q I h
  obtain ⟨nm, q, N, bs, cs, sn, sub, ab, col, dd, k0, k1, k2, k3, k5, hC⟩ := T.cls
  refine wpAny_Call_Name_kw (ld_glob I hg hm ?_ hdb)
  refine PySem.W.callWith_K (h₀ := X.base) I.ok.mod.kin T.kC (thn (ha.run pos pins s σ H _ I h) ?_) he hpl
  rintro us s1 ⟨vs, H1, I1, r1, hz, hn100, q1⟩
  refine ⟨I1.kIn, ?_⟩
  show wpAny _ _ (call (.ref C) us) _ _ _
  obtain ⟨hp, g, dr, tk, os⟩ := s1
  have hsz : hp.objs.size ≤ hp.objs.size + 1 := Nat.le_succ _
  have hn : H1 (hp.objs.size + 1) = none := I1.hok.fresh hsz
  have keep : ∀ b o, hp.get? b = some o → ((hp.push (PySem.W.kdv_tup us)).push (PySem.HandSPX.excO C hp.objs.size)).get? b = some o := fun b o e => Heap.get?_push_of_some _ (Heap.get?_push_of_some _ e)
  have got : ((hp.push (PySem.W.kdv_tup us)).push (PySem.HandSPX.excO C hp.objs.size)).get? (hp.objs.size + 1) = some (PySem.HandSPX.excO C hp.objs.size) := by heap_get
  have I2 : L2.Inv X pins σ (upd H1 (hp.objs.size + 1) (exo (hp.objs.size + 1) C none)) ⟨(hp.push (PySem.W.kdv_tup us)).push (PySem.HandSPX.excO C hp.objs.size), g, dr, tk, os⟩ :=
    I1.laid (t' := tk) (a := hp.objs.size + 1) (o := exo (hp.objs.size + 1) C none) (h' := (hp.push (PySem.W.kdv_tup us)).push (PySem.HandSPX.excO C hp.objs.size)) keep hsz (exo_ok got)
  have rr : Vals (V.ref (hp.objs.size + 1) :: vs) (Value.ref (hp.objs.size + 1) :: us) := .cons rfl r1
  have hsp : spEx C names (.ref (hp.objs.size + 1) :: vs) (upd H1 (hp.objs.size + 1) (exo (hp.objs.size + 1) C none))
      (fun v H2 => v = .non ∧ ∃ (d : Addr) (fs : List (Str × V)), H2 (hp.objs.size + 1) = some (exo (hp.objs.size + 1) C (some d)) ∧ H2 d = some (exd d fs) ∧ H1 d = none ∧ Q (.ref C) (some d) (upd (del H2 (hp.objs.size + 1)) d (.xd fs))) (fun _ _ _ => False) := by
    refine ⟨_, vs, rfl, hz, upd_same, ?_⟩
    intro d hd hda
    have hd1 : H1 d = none := by
      rw [upd_ne hda] at hd
      exact hd
    refine ⟨rfl, d, exFs names vs, upd_same, by rw [upd_ne hda, upd_same], hd1, ?_⟩
    rw [ex_heap hn hda]
    exact q1 d hd1
  have hl : (Value.ref (hp.objs.size + 1) :: us).length = ps.length := rr.length.symm.trans (F1.len _ _ _ _ hsp)
  have hus : us.length ≤ sizeLine := by
    rw [← Paired.length r1, hz]
    exact sz_small (by omega)
  have bind := hb ⟨(hp.push (PySem.W.kdv_tup us)).push (PySem.HandSPX.excO C hp.objs.size), g, dr, tk, os⟩ (Value.ref (hp.objs.size + 1) :: us) I2.kIn (by rw [List.append_nil]; exact hl)
  rw [List.append_nil] at bind
  have run := F1.go _ X.stack _ _ ⟨Value.ref (hp.objs.size + 1) :: us, []⟩ (Value.ref (hp.objs.size + 1) :: us) _ _ (fun _ _ _ => False) (hr.make C us []) (make_quiet hG) (I2.env0.make C us []) bind rr hsp
  refine wpAny_call (PySem.HandSPX.call_own hB.base (fun Y => mroB_has bmB Y cs) (I1.kIn _ _ hC) (PySem.W.looks_findIn I1.kIn iC) (fun self => PySem.W.bind_fn I1.kIn self tI) hus (codeAny_mono run ?_))
  rintro (er | fl) s' hq'
  · obtain ⟨_, _, _, _, _, _, _, _, _, _, _, _, z⟩ := hq'
    exact z.elim
  · cases fl with
    | ret u =>
      obtain ⟨v, H2, os2, bare2, un2, hok2, rv, ev, d, fs, ea, ed, hd1, q2⟩ := hq'
      subst ev
      obtain ⟨h2, g2, d2, t2, os'⟩ := s'
      exact ⟨rv, mk_end (raises_own T.exC T.tyC) I1 hsz keep un2 hok2 os2 bare2 ea ed hd1 q2⟩
    | next => exact hq'.elim
    | brk => exact hq'.elim
    | cont => exact hq'.elim
theorem ux_pl {jj : Nat} (c : XPl X.K X.mg x C) (hg : Gl X x) (hdb : (x == ("__debug__" : Str)) = false := by decide) : PMk X (.Call (.Name x p) [.Constant (.str m) jj p2] [] pos) (fun _ H Q => Q (.ref C) none H) := by
  obtain ⟨B, newId, initId, bmB, F, q, gC, kC, h1, h2⟩ := c.ex
  exact pmk_own F q gC kC (raises_own h1 h2) hg hdb
/-- raise C(e, ..), W wished -/
def uRaise (C : Addr) (names : List Str) (W : WX) (ta : TA) : TS := fun _ σ H => uMkE C names ta σ H fun cls d H' => W cls d σ H'
def uRaise0 (C : Addr) (W : WX) : TS := fun _ σ H => W (.ref C) none σ H
theorem us_raise (c : XIni X.prog X.w X.K X.mg X.base k x C names) (hc : X.calm = true) (tk : Takes X W) (hr : Room j X.A) (hk : k + 1 ≤ j) (hG : Quiet X.A) (hg : Gl X x) (ha : PA X (e :: es) ta)
    (hdb : (x == ("__debug__" : Str)) = false := by decide) (he : starEach (e :: es) X.env = (false, eval e X.env) :: starEach es X.env := by rfl) (hpl : (backTo pos (starEach es X.env)).any (·.1) = false := by rfl) :
    PS X (.Raise (some (.Call (.Name x p) (e :: es) [] pos)) none pos2) (uRaise C names W ta) := ps_raise hc tk (ux_ini c hr hk hG hg ha hdb he hpl)
theorem us_raise0 {jj : Nat} (c : XPl X.K X.mg x C) (hc : X.calm = true) (tk : Takes X W) (hg : Gl X x) (hdb : (x == ("__debug__" : Str)) = false := by decide) :
    PS X (.Raise (some (.Call (.Name x p) [.Constant (.str m) jj p2] [] pos)) none pos2) (uRaise0 C W) := ps_raise hc tk (ux_pl c hg hdb)
end
/-- what is raised leaves the def -/
theorem tkB {P : Program} {w : World} {K : PySem.W.Frag} {mg : Str → Option Value} {base : Heap} {N : List Str} {qual : Str} {scope : Scope} {f : Addr} {cd : Value} {A : Around} {outer : List Env} {s : Shared} {H : Hp} {E : XK} :
    Takes (cxOf (L2.CX P w) P w K mg base N qual scope f cd A outer s H E) (fun cls d _ H => E cls d H) := takes_of rfl rfl rfl rfl
section
variable {D : Ends} {σ : L2.St} {H : Hp}
theorem g_raise {C : Addr} {names : List Str} {W : WX} {ta : TA} (h : ta σ H fun vs H1 => vs.length = names.length ∧ names.length ≤ 100 ∧ ∀ d, H1 d = none → W (.ref C) (some d) σ (upd H1 d (.xd (exFs names vs)))) : uRaise C names W ta D σ H := h
theorem g_raise0 {C : Addr} {W : WX} (h : W (.ref C) none σ H) : uRaise0 C W D σ H := h
end
/-! ## constants of the module -/
structure Cst (mg : Str → Option Value) (x : Str) (v : V) : Prop where
  ex : ∃ u, mg x = some u ∧ RelV v u
theorem ue_cst {X : Cx} {x : Str} {v : V} {pos : Pos} (c : Cst X.mg x v) (hg : Gl X x) (hd : (x == ("__debug__" : Str)) = false := by decide) : PE X (.Name x pos) (tC v) := by
  obtain ⟨u, h1, h2⟩ := c.ex
  exact pe_glob hg h1 h2 hd
end Rf

namespace Rf
open PySem PySem.Spec PyProof.Rows L2
/-! ## methods and __init__ of the text -/
structure Mdf (K : PySem.W.Frag) (C : Addr) (m qual : Str) (st : Stmt) (ps : List Str) (ds : List Value) : Prop where
  ex : ∃ (f : Addr) (fd : FuncData), Cls K C ∧ Meth K C m f ∧ Src K m qual st f fd ∧ Binds K fd ps ds
structure Idf (K : PySem.W.Frag) (mg : Str → Option Value) (x : Str) (C : Addr) (qual : Str) (st : Stmt) (ps : List Str) (ds : List Value) : Prop where
  ex : ∃ (f : Addr) (fd : FuncData), Mk K C f ∧ mg x = some (.ref C) ∧ Src K "__init__" qual st f fd ∧ Binds K fd ps ds
section
variable {P : Program} {w : World} {K : PySem.W.Frag} {mg : Str → Option Value} {base : Heap}
theorem Mdf.mtd {m qual : Str} {C : Addr} {st : Stmt} {N ps : List Str} {ds : List Value} {dvs : List V} {k : Nat} {sp : Sp} (F : Mdf K C m qual st ps ds) (hd : Vals dvs ds) (S : FnScope N ps (defScope st)) (hlen : ∀ vs H Q E, sp vs H Q E → vs.length = ps.length)
    (hb : ∀ (f : Addr) (cdv : Value) (A : Around) (outer : List Env) (s : Shared) (H : Hp) (vs : List V) (Q : VK) (E : XK), Room k (A.deeper (envOfC qual (defScope st) s.heap.objs.size f cdv)) → Quiet (A.deeper (envOfC qual (defScope st) s.heap.objs.size f cdv)) → sp vs H Q E →
      ∃ t, PSs (cxOf (L2.CX P w) P w K mg base N qual (defScope st) f cdv A outer s H E) (defBody st) t ∧ t { nx := fun _ H' => Q .non H', rt := Q } (start N vs) H) : Mtd P w K mg base (k + 1) C m dvs sp := by
  obtain ⟨f, fd, c, me, F, b⟩ := F.ex
  exact ⟨f, fd, ps, ds, c, me, F.fn S hlen (hb f), b, hd⟩
theorem Idf.mkr {x qual : Str} {C : Addr} {st : Stmt} {N ps : List Str} {ds : List Value} {dvs : List V} {k : Nat} {sp : Sp} (F : Idf K mg x C qual st ps ds) (hd : Vals dvs ds) (S : FnScope N ps (defScope st)) (hlen : ∀ vs H Q E, sp vs H Q E → vs.length = ps.length)
    (hb : ∀ (f : Addr) (cdv : Value) (A : Around) (outer : List Env) (s : Shared) (H : Hp) (vs : List V) (Q : VK) (E : XK), Room k (A.deeper (envOfC qual (defScope st) s.heap.objs.size f cdv)) → Quiet (A.deeper (envOfC qual (defScope st) s.heap.objs.size f cdv)) → sp vs H Q E →
      ∃ t, PSs (cxOf (L2.CX P w) P w K mg base N qual (defScope st) f cdv A outer s H E) (defBody st) t ∧ t { nx := fun _ H' => Q .non H', rt := Q } (start N vs) H) : Mkr P w K mg base (k + 1) x C dvs sp := by
  obtain ⟨f, fd, M, hm, F, b⟩ := F.ex
  exact ⟨f, fd, ps, ds, M, F.fn S hlen (hb f), hm, b, hd⟩
/-- from what the head tells -/
theorem mdf_mk {m qual : Str} {C : Addr} {st : Stmt} {ps : List Str} {f : Addr} {oc : Value} {od an : Option Addr} {osl : Array (Option Value)} {kV doc pm cdv ct : Value} (c : Cls K C)
    (hb : ∀ us : List Value, us.length = ps.length → bindArgs (PySem.W.fnOf m qual (defArgs st) (defBody st) (defScope st) .none kV doc pm an cdv ct) ⟨us, []⟩ = pure (ps.zip us))
    (a : PySem.W.findIn K (.ref C) m = some (some (.ref f))) (i : PySem.W.isFn K (.ref f) = true) (l : K.lookup f = some ⟨oc, od, .func (PySem.W.fnOf m qual (defArgs st) (defBody st) (defScope st) .none kV doc pm an cdv ct), osl⟩) (cc : PySem.W.codeIn K cdv qual = true) (k : PySem.W.keepIn K (.ref f) = true) :
    Mdf K C m qual st ps [] := ⟨f, _, c, ⟨a, i, k⟩, src_mk l cc, Binds.all hb⟩
theorem idf_mk {h : Heap} {x qual : Str} {C : Addr} {st : Stmt} {ps : List Str} {f : Addr} {oc : Value} {od an : Option Addr} {osl : Array (Option Value)} {kV doc pm cdv ct : Value} (X : K.In h) (G : h.Ns mainGlobals mg)
    (hb : ∀ us : List Value, us.length = ps.length → bindArgs (PySem.W.fnOf "__init__" qual (defArgs st) (defBody st) (defScope st) .none kV doc pm an cdv ct) ⟨us, []⟩ = pure (ps.zip us))
    (aC : PySem.W.nsIn K mainGlobals x = some (some (.ref C))) (mk : PySem.W.makesIn K C = true) (kc : PySem.W.keepIn K (.ref C) = true)
    (a : PySem.W.findIn K (.ref C) "__init__" = some (some (.ref f))) (i : PySem.W.isFn K (.ref f) = true) (l : K.lookup f = some ⟨oc, od, .func (PySem.W.fnOf "__init__" qual (defArgs st) (defBody st) (defScope st) .none kV doc pm an cdv ct), osl⟩) (cc : PySem.W.codeIn K cdv qual = true) :
    Idf K mg x C qual st ps [] := ⟨f, _, ⟨mk, a, i, kc⟩, PySem.W.mg_of X G aC, src_mk l cc, Binds.all hb⟩
/-- an exception's __init__ of one field -/
theorem xini_mk1 {x f1 : Str} {C fI : Addr} {B newId initId : String} {bmB : List Value} {qual : Str} {st : Stmt} {fd : FuncData} {ps : List Str} (hB : BaseOk B newId initId bmB) (T : Exq K C newId bmB) (hm : mg x = some (.ref C)) (iC : PySem.W.findIn K (.ref C) "__init__" = some (some (.ref fI)))
    (tI : PySem.W.typeIn K (.ref fI) = some (.type "function")) (F : Src K "__init__" qual st fI fd) (hb : Binds K fd ps []) (hps : ps.length = 2) (S : FnScope ps ps (defScope st)) (hno : PySem.W.findIn K (.ref C) f1 = some none)
    (hp : ∀ (f : Addr) (cdv : Value) (A : Around) (outer : List Env) (s : Shared) (H : Hp) (E : XK), PSs (cxOf (L2.CX P w) P w K mg base ps qual (defScope st) f cdv A outer s H E) (defBody st) (uOst K newId bmB f1 (tVar 0) (tVar 1))) :
    XIni P w K mg base 1 x C [f1] := by
  refine ⟨B, newId, initId, bmB, fI, fd, ps, hB, T, hm, iC, tI, F.fn S ?_ ?_, hb⟩
  · rintro vs H Q E ⟨a, ws, rfl, hl, _⟩
    have hl' : ws.length = 1 := hl
    rw [List.length_cons, hl', hps]
  · rintro cdv A outer s H vs Q E hr hG ⟨a, ws, rfl, hl, ha, q⟩
    obtain ⟨y, rfl⟩ : ∃ y, ws = [y] := by
      match ws, hl with
      | [y], _ => exact ⟨y, rfl⟩
    refine ⟨_, hp fI cdv A outer s H E, ?_⟩
    match ps, hps with
    | [p1, p2], _ => exact ⟨y, rfl, .ref a, rfl, a, C, rfl, T, hno, Or.inl ⟨ha, fun dx h1 h2 => q dx h1 h2⟩⟩
end
section
variable {D : Ends} {σ : L2.St} {H : Hp} {K : PySem.W.Frag} {Q : VK}
theorem g_meth {C : Addr} {m : Str} {sp : Sp} {dvs : List V} {E : L2.St → XK} {ta : TE} {t : TA} (h : ta σ H fun x H1 => ∃ a dx fs, x = .ref a ∧ H1 a = some (.ins C dx fs) ∧ fs.lookup m = none ∧ t σ H1 fun vs H2 => sp (x :: (vs ++ dvs)) H2 Q (E σ)) : uMeth C m sp dvs E ta t σ H Q := h
theorem g_make {C : Addr} {sp : Sp} {dvs : List V} {E : L2.St → XK} {t : TA} (h : t σ H fun vs H1 => ∀ x dx, H1 x = none → H1 dx = none → dx ≠ x →
  sp (.ref x :: (vs ++ dvs)) (upd (upd H1 dx (.own x)) x (.ins C dx [])) (fun v H2 => v = .non ∧ Q (.ref x) H2) (E σ)) : uMake C sp dvs E t σ H Q := h
theorem g_sfld {ta tv : TE} {f : Str} (h : tv σ H fun y H1 => ta σ H1 fun x H2 => ∃ a C dx fs, x = .ref a ∧ H2 a = some (.ins C dx fs) ∧ Cls K C ∧ NoAttr K C f ∧ fs.length < 1000 ∧ D.nx σ (upd H2 a (.ins C dx (putF f y fs)))) : sFld K ta tv f D σ H := h
theorem g_dnew {P : V → Hp → Prop} (h : ∀ p, H p = none → P (.ref p) (upd H p (.dK []))) : tDNewK σ H P := h
end
section
variable {X : Cx} {K : PySem.W.Frag}
theorem uc_all (hc : X.calm = true := by rfl) (hK : X.K = K := by rfl) : CallR X (.builtin "all") (rAll K) := by subst hK; exact cr_all hc
theorem uc_any (hc : X.calm = true := by rfl) (hK : X.K = K := by rfl) : CallR X (.builtin "any") (rAny K) := by subst hK; exact cr_any hc
theorem uc_sum (hc : X.calm = true := by rfl) (hK : X.K = K := by rfl) : CallR X (.builtin "sum") (rSum K) := by subst hK; exact cr_sum hc
theorem uc_max1 (hc : X.calm = true := by rfl) (hK : X.K = K := by rfl) : CallR X (.builtin "max") (rMax K) := by subst hK; exact cr_max hc
theorem uc_min1 (hc : X.calm = true := by rfl) (hK : X.K = K := by rfl) : CallR X (.builtin "min") (rMin K) := by subst hK; exact cr_min hc
end
/-! ## data and the heap's growth -/
mutual
theorem dp_mono {K : PySem.W.Frag} {H H' : Hp} (s : Same H H') : ∀ {v : V} {d : PyData}, Dp K H v d → Dp K H' v d
  | _, _, .non => .non
  | _, _, .bl b => .bl b
  | _, _, .int i => .int i
  | _, _, .str x => .str x
  | _, _, .lst h1 h2 => .lst (s.seq h1) (dpAll_mono s h2)
  | _, _, .tup h1 h2 => .tup (s.seqT h1) (dpAll_mono s h2)
theorem dpAll_mono {K : PySem.W.Frag} {H H' : Hp} (s : Same H H') : ∀ {vs : List V} {ds : List PyData}, DpAll K H vs ds → DpAll K H' vs ds
  | _, _, .nil => .nil
  | _, _, .cons h1 h2 => .cons (dp_mono s h1) (dpAll_mono s h2)
end
theorem dpAll_len {K : PySem.W.Frag} {H : Hp} : ∀ {vs : List V} {ds : List PyData}, DpAll K H vs ds → vs.length = ds.length
  | _, _, .nil => rfl
  | _, _, .cons _ h => by rw [List.length_cons, List.length_cons, dpAll_len h]
theorem dpAll_get {K : PySem.W.Frag} {H : Hp} : ∀ {vs : List V} {ds : List PyData} {i : Nat} {d : PyData}, DpAll K H vs ds → ds[i]? = some d → ∃ v, vs[i]? = some v ∧ Dp K H v d
  | _, _, _, _, .nil, h => nomatch h
  | _, _, 0, _, .cons h1 _, h => ⟨_, rfl, by cases h; exact h1⟩
  | _, _, i + 1, _, .cons _ h2, h => dpAll_get (i := i) h2 h
theorem dpAll_get' {K : PySem.W.Frag} {H : Hp} : ∀ {vs : List V} {ds : List PyData} {i : Nat} {v : V}, DpAll K H vs ds → vs[i]? = some v → ∃ d, ds[i]? = some d ∧ Dp K H v d
  | _, _, _, _, .nil, h => nomatch h
  | _, _, 0, _, .cons h1 _, h => ⟨_, rfl, by cases h; exact h1⟩
  | _, _, i + 1, _, .cons _ h2, h => dpAll_get' (i := i) h2 h
theorem dpAll_snoc {K : PySem.W.Frag} {H : Hp} : ∀ {vs : List V} {ds : List PyData} {v : V} {d : PyData}, DpAll K H vs ds → Dp K H v d → DpAll K H (vs ++ [v]) (ds ++ [d])
  | _, _, _, _, .nil, h => .cons h .nil
  | _, _, _, _, .cons h1 h2, h => .cons h1 (dpAll_snoc h2 h)
theorem dpAll_append {K : PySem.W.Frag} {H : Hp} : ∀ {vs us : List V} {ds es : List PyData}, DpAll K H vs ds → DpAll K H us es → DpAll K H (vs ++ us) (ds ++ es)
  | _, _, _, _, .nil, h => h
  | _, _, _, _, .cons h1 h2, h => .cons h1 (dpAll_append h2 h)
theorem dp_list {K : PySem.W.Frag} {H : Hp} {v : V} {ds : List PyData} (h : Dp K H v (.list ds)) : ∃ a xs, v = .ref a ∧ SqL K H a xs ∧ DpAll K H xs ds := by
  cases h with
  | lst h1 h2 => exact ⟨_, _, rfl, h1, h2⟩
theorem dp_tuple {K : PySem.W.Frag} {H : Hp} {v : V} {ds : List PyData} (h : Dp K H v (.tuple ds)) : ∃ a xs, v = .ref a ∧ SqT K H a xs ∧ DpAll K H xs ds := by
  cases h with
  | tup h1 h2 => exact ⟨_, _, rfl, h1, h2⟩
theorem dp_str {K : PySem.W.Frag} {H : Hp} {v : V} {x : Str} (h : Dp K H v (.str x)) : v = .str x := by cases h; rfl
theorem dp_int {K : PySem.W.Frag} {H : Hp} {v : V} {x : Int} (h : Dp K H v (.int x)) : v = .int x := by cases h; rfl
theorem dpAll_strs {K : PySem.W.Frag} {H : Hp} : ∀ (xs : List Str), DpAll K H (xs.map V.str) (xs.map PyData.str)
  | [] => .nil
  | x :: xs => .cons (.str x) (dpAll_strs xs)
theorem dpAll_ints {K : PySem.W.Frag} {H : Hp} : ∀ (xs : List Int), DpAll K H (xs.map V.int) (xs.map PyData.int)
  | [] => .nil
  | x :: xs => .cons (.int x) (dpAll_ints xs)
/-! ## what stands while one thing changes -/
def hid (p : Addr) (H : Hp) : Hp := fun b => if b = p then none else H b
theorem hid_upd {p : Addr} {H : Hp} {o : HO} : hid p (upd H p o) = hid p H := by
  funext b
  unfold hid upd
  split <;> rfl
theorem hid_up {p : Addr} {H : Hp} : Same (hid p H) H := fun b o e => by
  unfold hid at e
  split at e
  · cases e
  · exact e
theorem hid_same {p : Addr} {H H' : Hp} (s : Same H H') : Same (hid p H) (hid p H') := fun b o e => by
  unfold hid at e ⊢
  split at e
  · cases e
  · rename_i h
    rw [if_neg h]
    exact s b o e
theorem hid_of {p b : Addr} {H : Hp} {o : HO} (n : b ≠ p) (e : H b = some o) : hid p H b = some o := by
  unfold hid
  rw [if_neg n]
  exact e
theorem hid_base {p : Addr} {H H' : Hp} (s : Same H H') (hp : H p = none) : Same H (hid p H') := fun b o e => hid_of (ne_of_none e hp) (s b o e)
/-- a row (name, number) -/
abbrev rowD (p : Str × Int) : PyData := .tuple [.str p.1, .int p.2]
abbrev rowsD (r : List (Str × Int)) : PyData := .list (r.map rowD)
theorem dp_row {K : PySem.W.Frag} {H : Hp} {v : V} {p : Str × Int} (h : Dp K H v (rowD p)) : ∃ t, v = .ref t ∧ SqT K H t [.str p.1, .int p.2] := by
  obtain ⟨t, xs, rfl, h1, h2⟩ := dp_tuple h
  cases h2 with
  | cons a b =>
    cases b with
    | cons c d =>
      cases d
      rw [dp_str a, dp_int c] at h1
      exact ⟨t, rfl, h1⟩
theorem row_dp {K : PySem.W.Frag} {H : Hp} {t : Addr} {p : Str × Int} (h : SqT K H t [.str p.1, .int p.2]) : Dp K H (.ref t) (rowD p) := .tup h (.cons (.str _) (.cons (.int _) .nil))
/-- an exception with one field is what is wished -/
def XF (H : Hp) (E : XK) (C : Addr) (f : Str) (v : V) : Prop := ∀ d H', Same H H' → H d = none → H' d = some (.xd [(f, v)]) → E (.ref C) (some d) H'
theorem XF.go {H H1 : Hp} {E : XK} {C d : Addr} {f : Str} {v : V} (h : XF H E C f v) (s : Same H H1) (hd : H1 d = none) : E (.ref C) (some d) (upd H1 d (.xd (exFs [f] [v]))) :=
  h d _ (s.trans (Same.mut (Same.refl H1) hd)) (s.free hd) upd_same
end Rf

namespace Rf
open PySem PySem.Spec PyProof.Rows L2
section
variable {X : Cx}
theorem ue_bm0 {K : PySem.W.Frag} {T id : String} {name : Str} {r : V → List V → Hp → VK → Prop} {o : Expr} {to : TE} {apos cpos : Pos} (pa : PlainAttrs T) (slot : Slot T name id) (hty : typeOf (.builtin id) = pure (.type "method_descriptor")) (hm : MtR X id r) (ho : PE X o to) (hK : X.K = K := by rfl)
    (hbase : attributeBase o name X.env (eval o X.env) = eval o X.env := by rfl) (hline : (apos.endLine == cpos.line) = true := by rfl) :
    PE X (.Call (.Attribute o name apos) [] [] cpos) (tBM0 K T r to) := by
  subst hK
  exact pe_bm0 pa slot hty hm ho hbase hline
end
section
variable {H : Hp} {K : PySem.W.Frag} {Q : VK}
theorem i_clear {l : Addr} {xs : List V} (h1 : H l = some (.lst xs)) (h : Q .non (upd H l (.lst []))) : rClear (.ref l) [] H Q := ⟨l, xs, rfl, rfl, h1, h⟩
theorem i_reverse {l : Addr} {xs : List V} (h1 : H l = some (.lst xs)) (h : Q .non (upd H l (.lst xs.reverse))) : rReverse (.ref l) [] H Q := ⟨l, xs, rfl, rfl, h1, h⟩
theorem i_pop {l : Addr} {xs : List V} {y : V} (h1 : H l = some (.lst xs)) (hy : xs[xs.length - 1]? = some y) (h : Q y (upd H l (.lst xs.dropLast))) : rPop (.ref l) [] H Q := ⟨l, xs, y, rfl, rfl, h1, hy, h⟩
theorem tyL {l : Addr} {xs : List V} (h1 : H l = some (.lst xs)) : tyV K "list" (.ref l) H := Or.inl ⟨rfl, xs, SqL.of h1⟩
end
/-! ## what stands while several things change -/
def hidL (ps : List Addr) (H : Hp) : Hp := fun b => if b ∈ ps then none else H b
theorem hidL_in {ps : List Addr} {H : Hp} {p : Addr} (h : p ∈ ps) : hidL ps H p = none := if_pos h
theorem hidL_up {ps : List Addr} {H : Hp} : Same (hidL ps H) H := fun b o e => by
  unfold hidL at e
  split at e
  · cases e
  · exact e
theorem hidL_of {ps : List Addr} {b : Addr} {H : Hp} {o : HO} (n : b ∉ ps) (e : H b = some o) : hidL ps H b = some o := (if_neg n).trans e
theorem hidL_base {ps : List Addr} {H H' : Hp} (s : Same H H') (hp : ∀ p ∈ ps, H p = none) : Same H (hidL ps H') := fun b o e => hidL_of (fun z => by rw [hp b z] at e; cases e) (s b o e)
/-- a thing that is no list is not among lists -/
theorem hidL_no {ps : List Addr} {b : Addr} {H : Hp} {o : HO} (hl : ∀ p ∈ ps, ∃ xs, H p = some (.lst xs)) (n : ∀ xs, o ≠ .lst xs) (e : H b = some o) : hidL ps H b = some o :=
  hidL_of (fun z => by obtain ⟨xs, h⟩ := hl b z; rw [h] at e; exact n xs (Option.some.inj e).symm) e
/-! ## an own exception class, as the written part holds it -/
def ExL (K : PySem.W.Frag) (C : Addr) (newId : String) (bm : List Value) : Prop := ∃ nm q N bs sn sub ab col dd k0 k1 k2 k3 k5, K.lookup C = some (excClassObj nm q C N bs bm true sn sub ab col dd k0 k1 k2 k3 k5 newId)
theorem exq_mk {K : PySem.W.Frag} {C : Addr} {newId : String} {bmB : List Value} {cs : List Addr} (l : ExL K C newId (mroB cs bmB)) (sa : PySem.W.findIn K (.ref C) "__setattr__" = some (some (.builtin "object.__setattr__")))
    (exC : PySem.W.subIn K (.ref C) (.type "BaseException") = some true) (tyC : PySem.W.typeIn K (.ref C) = some (.type "type")) (kC : PySem.W.keepIn K (.ref C) = true) : Exq K C newId bmB := by
  obtain ⟨nm, q, N, bs, sn, sub, ab, col, dd, k0, k1, k2, k3, k5, h⟩ := l
  exact ⟨⟨nm, q, N, bs, cs, sn, sub, ab, col, dd, k0, k1, k2, k3, k5, h⟩, sa, exC, tyC, kC⟩
end Rf

namespace Rf
open PySem PySem.Spec PyProof.Rows L2
/-! ## an own == and an own repr -/
section
variable {X : Cx} {j k : Nat} {C : Addr} {sp : Sp}
/-- x == y where x's class has an __eq__ of the text -/
def uEqO (K : PySem.W.Frag) (C : Addr) (sp : Sp) : R2 := fun x y H Q => ∃ a dx fs t, x = .ref a ∧ H a = some (.ins C dx fs) ∧ TyX K H y t ∧ PySem.W.notFirst K C t = true ∧ sp [x, y] H (fun v H' => ∃ b, v = .bl b ∧ Q (.bl b) H') E0
def uNeO (K : PySem.W.Frag) (C : Addr) (sp : Sp) : R2 := fun x y H Q => ∃ a dx fs t, x = .ref a ∧ H a = some (.ins C dx fs) ∧ TyX K H y t ∧ PySem.W.notFirst K C t = true ∧ sp [x, y] H (fun v H' => ∃ b, v = .bl b ∧ Q (.bl (!b)) H') E0
/-- the call of a method of an instance inside a built-in -/
theorem run_in {A : Around} {pins : List (Addr × Obj)} {σ : L2.St} {H : Hp} {s : Shared} {f : Addr} {fd : FuncData} {ps : List Str} {Q : VK} {us : List Value} {vs : List V} (F : Fn X.prog X.w X.K X.mg X.base k f fd ps sp) (hr : Room k A) (hG : Quiet A) (hA : A.frames = X.A.frames) (hb : Binds X.K fd ps [])
    (I : Inv X pins σ H s) (r : Vals vs us) (h : sp vs H Q E0) : wpAny (model X.prog X.w) A (call (.ref f) us) (EP X pins σ Q) X.xe s := by
  have hl : us.length = ps.length := r.length.symm.trans (F.len _ _ _ _ h)
  have e0 : Env0 X.prog X.w X.K X.mg X.base A X.stack s H := by
    have e := I.env0
    exact ⟨by rw [hA]; exact e.frames, e.mod, e.bs, e.bsz, e.funs, e.frf, e.hok, e.bare⟩
  have b := hb s us I.kIn (by simpa using hl)
  rw [List.append_nil] at b
  refine wpAny_call (codeAny_mono (F.go A X.stack s H ⟨us, []⟩ us vs Q E0 hr hG e0 b r h) ?_)
  rintro (e | fl) s' hq
  · exact PC σ pins H s e s' I hq
  · cases fl with
    | ret u => exact I.after hq
    | next => exact hq.elim
    | brk => exact hq.elim
    | cont => exact hq.elim
theorem vals_nil {ds : List Value} (h : Vals [] ds) : ds = [] := by cases h; rfl
theorem op_eqO {K : PySem.W.Frag} (c : Mtd X.prog X.w X.K X.mg X.base k C "__eq__" [] sp) (hr : Room j X.A) (hk : k ≤ j) (hG : Quiet X.A) (hK : X.K = K := by rfl) : OpR X (compareOp .Eq) (uEqO K C sp) := by
  subst hK
  obtain ⟨f, fd, ps, ds, cc, hm, F, b, d⟩ := c.ex
  cases vals_nil d
  intro pins s σ H x y v u Q I rx ry h
  obtain ⟨a, dx, fs, t, rfl, ha, ty, nf, q⟩ := h
  cases (show v = Value.ref a from rx)
  obtain ⟨mA, J, _⟩ := ins_get I.hok ha
  obtain ⟨od, J, _⟩ := J.look
  obtain ⟨mm, hF⟩ := I.fr
  obtain ⟨P, Z, p, _⟩ := kit_of I ry ty
  refine PySem.W.cmp_K (op := .Eq) (tb := t) hr.units0 hF I.ok.mod.kin J (Z.ty _ _ I.kIn p) nf hm.at_ hm.fn ?_
  refine wpAny_mono (run_in F (hr.mono hk) hG rfl (vs := [.ref a, y]) b I (.cons rx (.cons ry .nil)) q) ?_ (fun _ _ e => e)
  rintro w s' ⟨z, H', I', rz, bb, ez, q'⟩
  subst ez
  cases (show w = Value.bool bb from rz)
  exact ⟨.bl bb, H', I', rfl, q'⟩
theorem ifBound_B {M : Model} {A : Around} {E : Value → Shared → Prop} {s : Shared} {K : PySem.W.Frag} {x C : Addr} {ox : Obj} {od : Option Obj} {args : List Value} {Q : Option Value → Shared → Prop} (hin : K.In s.heap) (I : PySem.W.InstAt s.heap x ox C od)
    (hs : PySem.W.findIn K (.ref C) "__ne__" = some (some (.builtin "object.__ne__"))) (h : wpAny M A (call (.builtin "object.__ne__") (.ref x :: args)) (fun v => Q (some v)) E s) : wpAny M A (callSpecialIfBound? (.ref x) "__ne__" args) Q E s := by
  simp only [callSpecialIfBound?, bindSpecialIfBound?]
  refine wpAny_holding (wpAny_bind (wpAny_bind (wpAny_bind (I.type.here ((PySem.W.looks_findIn hin hs).here ?_)))))
  refine wpAny_bind (wpAny_askSetting (wpAny_ite ?_))
  have done : wpAny M A (call (.builtin "object.__ne__") ([.ref x] ++ args) >>= fun v => pure (some v)) Q E s := wpAny_bind (wpAny_mono h (fun v s' q => wpAny_pure q) (fun _ _ q => q))
  split
  · exact wpAny_bind (wpAny_of_eq (F.cmp_object.ne.bind _) (wpAny_pure (by exact done)))
  · exact wpAny_tryCatch (wpAny_bind (wpAny_of_eq (F.cmp_object.ne.bind _) (wpAny_pure (by exact done))))
theorem rc_neO {prog : Program} {w : World} {A : Around} {E : Value → Shared → Prop} {s : Shared} {K : PySem.W.Frag} {x C f : Addr} {ox : Obj} {od : Option Obj} {b tb : Value} {Q : Value → Shared → Prop} (hu : A.units + 1 < cLine) (hin : K.In s.heap) (I : PySem.W.InstAt s.heap x ox C od)
    (hb : PySem.W.Looks (model prog w) s.heap (typeOf b) tb) (hn : PySem.W.notFirst K C tb = true) (hm : PySem.W.mroIn K C (.type "object") = some true)
    (he : PySem.W.findIn K (.ref C) "__eq__" = some (some (.ref f))) (hf : PySem.W.isFn K (.ref f) = true) (hs : PySem.W.findIn K (.ref C) "__ne__" = some (some (.builtin "object.__ne__")))
    (h : wpAny (model prog w) A.in1 (call (.ref f) [.ref x, b]) (fun v s' => ∃ r, v = .bool r ∧ Q (.bool (!r)) s') E s) : wpAny (model prog w) A (richCompare .NotEq (.ref x) b) Q E s := by
  have ent : wpAny (model prog w) A.in1 (Builtin.«object.__ne__» ⟨[.ref x, b], []⟩) (fun fin s' => ∃ r, fin = .done (.ret (.bool r)) ∧ Q (.bool r) s') E s := by
    unfold Builtin.«object.__ne__»
    repeat (first
      | with_reducible refine wpAny_cRoomFor hu ?_
      | (refine wpAny_bind (m := callSpecialIfBound? (.ref x) (Str.ofString "__eq__") [b]) (PySem.W.ifBound_K hin I he hf (wpAny_mono h (fun r s' hr => by
          obtain ⟨z, rfl, hq⟩ := hr
          repeat (first | exact ⟨_, rfl, hq⟩ | exact wpAny_pure ⟨_, rfl, hq⟩ | (refine wpAny_bind (m := truthy (.bool _)) (wpAny_truthy_bool ?_)) | wp_step)) fun _ _ e => e)))
      | wp_step)
  have one : wpAny (model prog w) A (tryCompare (.ref x) (cmpInfo .NotEq).2.1 b) (fun r s' => ∃ v, r = some v ∧ Q v s') E s := by
    unfold tryCompare
    refine wpAny_bind (ifBound_B hin I hs (wpAny_call (codeAny_call_builtin F.cmp_object.ne.plain F.cmpEntry_ne
      (PySem.W.check_slot F.cmpKind_ne F.cmpSplit_ne (I.type.andThen (PySem.W.looks_mroIn hin hm)) (F.cmpArgs_ne _ _) (wpAny_mono ent (fun fin s' hq => ?_) fun _ _ e => e)))))
    obtain ⟨r, rfl, hq⟩ := hq
    exact wpAny_pure ⟨_, rfl, hq⟩
  unfold richCompare
  simp only [oneThing_ref]
  refine wpAny_holding (wpAny_bind (wpAny_cRoomFor (Nat.lt_of_succ_lt hu) ?_))
  refine wpAny_bind (I.type.here (wpAny_bind (hb.here ?_)))
  have tail : wpAny (model prog w) A (do
      if let some v ← tryCompare (.ref x) (cmpInfo .NotEq).2.1 b then return v
      pure (Value.none)) (fun _ _ => True) (fun _ _ => True) s := wpAny_bind (wpAny_mono one (fun _ _ z => by obtain ⟨v, rfl, _⟩ := z; exact wpAny_pure trivial) fun _ _ _ => trivial)
  split
  · rename_i q
    have e : PySem.W.subIn K tb (.ref C) = some false := by
      rcases Bool.or_eq_true_iff.mp hn with e | e
      · rw [beq_iff_eq.mp e] at q
        simp at q
      · exact beq_iff_eq.mp e
    refine wpAny_bind ((PySem.W.looks_subIn hin e).here ?_)
    simp only [Bool.false_eq_true, if_false]
    refine wpAny_bind (wpAny_mono one (fun r s' z => ?_) fun _ _ e => e)
    obtain ⟨v, rfl, hq⟩ := z
    exact wpAny_pure hq
  · refine wpAny_bind (wpAny_pure ?_)
    simp only [Bool.false_eq_true, if_false]
    refine wpAny_bind (wpAny_mono one (fun r s' z => ?_) fun _ _ e => e)
    obtain ⟨v, rfl, hq⟩ := z
    exact wpAny_pure hq
/-- what != asks of the class -/
structure NeC (K : PySem.W.Frag) (C : Addr) : Prop where
  obj : PySem.W.mroIn K C (.type "object") = some true
  ne : PySem.W.findIn K (.ref C) "__ne__" = some (some (.builtin "object.__ne__"))
theorem op_neO {K : PySem.W.Frag} (c : Mtd X.prog X.w X.K X.mg X.base k C "__eq__" [] sp) (n : NeC X.K C) (hr : Room j X.A) (hk : k + 1 ≤ j) (hG : Quiet X.A) (hK : X.K = K := by rfl) : OpR X (compareOp .NotEq) (uNeO K C sp) := by
  subst hK
  obtain ⟨f, fd, ps, ds, cc, hm, F, b, d⟩ := c.ex
  cases vals_nil d
  intro pins s σ H x y v u Q I rx ry h
  obtain ⟨a, dx, fs, t, rfl, ha, ty, nf, q⟩ := h
  cases (show v = Value.ref a from rx)
  obtain ⟨mA, J, _⟩ := ins_get I.hok ha
  obtain ⟨od, J, _⟩ := J.look
  obtain ⟨P, Z, p, _⟩ := kit_of I ry ty
  refine rc_neO (hu_of hr) I.kIn J (Z.ty _ _ I.kIn p) nf n.obj hm.at_ hm.fn n.ne ?_
  refine wpAny_mono (run_in F ((hr.mono hk).in1) hG rfl (vs := [.ref a, y]) b I (.cons rx (.cons ry .nil)) q) ?_ (fun _ _ e => e)
  rintro w s' ⟨z, H', I', rz, bb, ez, q'⟩
  subst ez
  cases (show w = Value.bool bb from rz)
  exact ⟨bb, rfl, .bl (!bb), H', I', rfl, q'⟩
/-- repr(x) of an own class -/
def rReprO (C : Addr) (sp : Sp) : List V → Hp → VK → Prop := fun xs H Q => ∃ a dx fs, xs = [.ref a] ∧ H a = some (.ins C dx fs) ∧ sp [.ref a] H (fun v H' => ∃ z, v = .str z ∧ Q (.str z) H') E0
theorem uc_reprO (c : Mtd X.prog X.w X.K X.mg X.base k C "__repr__" [] sp) (hr : Room j X.A) (hk : k + 1 ≤ j) (hG : Quiet X.A) : CallR X (.builtin "repr") (rReprO C sp) := by
  obtain ⟨f, fd, ps, ds, cc, hm, F, b, d⟩ := c.ex
  cases vals_nil d
  intro pins s σ H xs us Q I r h
  obtain ⟨a, dx, fs, rfl, ha, q⟩ := h
  obtain ⟨u, rfl, ru⟩ := r.one
  cases (show u = Value.ref a from ru)
  obtain ⟨mA, J, _⟩ := ins_get I.hok ha
  obtain ⟨od, J, _⟩ := J.look
  obtain ⟨mm, hF⟩ := I.fr
  refine PySem.W.repr_K ((hr.mono hk).in1.units0) hF I.ok.mod.kin J hm.at_ hm.fn ?_
  refine wpAny_mono (run_in F ((hr.mono hk).in1) hG rfl (vs := [.ref a]) b I (.cons ru .nil) q) ?_ (fun _ _ e => e)
  rintro w s' ⟨z, H', I', rz, bb, ez, q'⟩
  subst ez
  obtain ⟨tk, rfl⟩ := (show ∃ t, w = Value.str bb t from rz)
  exact ⟨.str bb, H', I', ⟨_, rfl⟩, q'⟩
end
/-! ## own classes -/
structure Own (K : PySem.W.Frag) (C : Addr) : Prop where
  cl : Cls K C
  kc : PySem.W.findIn K (.ref C) "__class__" = some (some (.builtin "object.__class__"))
  kg : PySem.W.specialIn K (.builtin "object.__class__") "__get__" = some (some (.builtin "getset_descriptor.__get__"))
  kt : PySem.W.takesIn K (.builtin "object.__class__") = some true
  ob : PySem.W.mroIn K C (.type "object") = some true
  ne : PySem.W.findIn K (.ref C) "__ne__" = some (some (.builtin "object.__ne__"))
  ci : (PySem.W.clsIn K C).isSome = true
  ty : PySem.W.typeIn K (.ref C) = some (.type "type")
theorem Own.nec {K : PySem.W.Frag} {C : Addr} (o : Own K C) : NeC K C := ⟨o.ob, o.ne⟩
theorem Own.is {K : PySem.W.Frag} {C : Addr} (o : Own K C) {H : Hp} {a dx : Addr} {fs : List (Str × V)} (h : H a = some (.ins C dx fs)) : TyX K H (.ref a) (.ref C) := .base (.ins h o.cl o.kc o.kg o.kt o.ob)
/-- values of that type are none of the class C -/
structure NoSub (K : PySem.W.Frag) (C : Addr) (t : Value) : Prop where
  ne : (t == .ref C) = false
  sub : PySem.W.subIn K t (.ref C) = some false
theorem kit_self {K : PySem.W.Frag} {C : Addr} : PySem.W.kitOne K (.ref C) (.ref C) = some true := by unfold PySem.W.kitOne; rw [if_pos (by simp)]
theorem NoSub.kit {K : PySem.W.Frag} {C : Addr} {t : Value} (n : NoSub K C t) (o : Own K C) : PySem.W.kitOne K t (.ref C) = some false := by
  unfold PySem.W.kitOne PySem.W.kitCls
  rw [if_neg (by rw [n.ne]; decide)]
  show (if ((PySem.W.clsIn K C).isSome && PySem.W.typeIn K (.ref C) == some (.type "type")) = true then PySem.W.subIn K t (.ref C) else none) = _
  rw [o.ci, o.ty, if_pos (by simp)]
  exact n.sub
theorem NoSub.first {K : PySem.W.Frag} {C : Addr} {t : Value} (n : NoSub K C t) : PySem.W.notFirst K C t = true := by
  unfold PySem.W.notFirst
  rw [n.sub]
  simp
theorem first_self {K : PySem.W.Frag} {C : Addr} : PySem.W.notFirst K C (.ref C) = true := by simp [PySem.W.notFirst]
theorem noSub_ty {K : PySem.W.Frag} {C : Addr} {T : String} (h : ((fastBuiltinMro T).map fun l => l.all fun v => match v with | .ref _ => false | _ => true) = some true) : NoSub K C (.type T) := by
  refine ⟨by simp, ?_⟩
  show (fastBuiltinMro T).map (·.contains (.ref C)) = some false
  cases e : fastBuiltinMro T with
  | none => rw [e] at h; cases h
  | some l =>
    rw [e] at h
    have h' := Option.some.inj h
    rw [Option.map_some]
    congr 1
    rw [Bool.eq_false_iff]
    intro z
    have := List.all_eq_true.mp h' (.ref C) (by simpa using z)
    simp at this
theorem no_int {K : PySem.W.Frag} {C : Addr} : NoSub K C (.type "int") := noSub_ty (by decide +kernel)
theorem no_str {K : PySem.W.Frag} {C : Addr} : NoSub K C (.type "str") := noSub_ty (by decide +kernel)
theorem no_list {K : PySem.W.Frag} {C : Addr} : NoSub K C (.type "list") := noSub_ty (by decide +kernel)
theorem no_tuple {K : PySem.W.Frag} {C : Addr} : NoSub K C (.type "tuple") := noSub_ty (by decide +kernel)
theorem no_dict {K : PySem.W.Frag} {C : Addr} : NoSub K C (.type "dict") := noSub_ty (by decide +kernel)
theorem no_none {K : PySem.W.Frag} {C : Addr} : NoSub K C (.type "NoneType") := noSub_ty (by decide +kernel)
theorem no_bool {K : PySem.W.Frag} {C : Addr} : NoSub K C (.type "bool") := noSub_ty (by decide +kernel)
/-! ## a class made with defaults -/
structure IdfD (K : PySem.W.Frag) (mg : Str → Option Value) (x : Str) (C : Addr) (qual : Str) (st : Stmt) (ps : List Str) (dvs : List V) : Prop where
  ex : ∃ ds, Vals dvs ds ∧ Idf K mg x C qual st ps ds
theorem Idf.d {K : PySem.W.Frag} {mg : Str → Option Value} {x qual : Str} {C : Addr} {st : Stmt} {ps : List Str} (F : Idf K mg x C qual st ps []) : IdfD K mg x C qual st ps [] := ⟨[], .nil, F⟩
theorem IdfD.mkr {P : Program} {w : World} {K : PySem.W.Frag} {mg : Str → Option Value} {base : Heap} {x qual : Str} {C : Addr} {st : Stmt} {N ps : List Str} {dvs : List V} {k : Nat} {sp : Sp} (F : IdfD K mg x C qual st ps dvs) (S : FnScope N ps (defScope st)) (hlen : ∀ vs H Q E, sp vs H Q E → vs.length = ps.length)
    (hb : ∀ (f : Addr) (cdv : Value) (A : Around) (outer : List Env) (s : Shared) (H : Hp) (vs : List V) (Q : VK) (E : XK), Room k (A.deeper (envOfC qual (defScope st) s.heap.objs.size f cdv)) → Quiet (A.deeper (envOfC qual (defScope st) s.heap.objs.size f cdv)) → sp vs H Q E →
      ∃ t, PSs (cxOf (L2.CX P w) P w K mg base N qual (defScope st) f cdv A outer s H E) (defBody st) t ∧ t { nx := fun _ H' => Q .non H', rt := Q } (start N vs) H) : Mkr P w K mg base (k + 1) x C dvs sp := by
  obtain ⟨ds, hd, F⟩ := F.ex
  exact F.mkr hd S hlen hb
/-- from what the head tells: the defaults' tuple at T -/
theorem idfD_mk {h : Heap} {mg : Str → Option Value} {K : PySem.W.Frag} {x qual : Str} {C : Addr} {st : Stmt} {ps : List Str} {f T : Addr} {oc : Value} {od an : Option Addr} {osl : Array (Option Value)} {kV doc pm cdv ct : Value} {dvs : List V} {oT : Obj} {its : List Value} {m : Nat} (n j : Nat) (X : K.In h) (G : h.Ns mainGlobals mg)
    (hd : dvs ≠ []) (hn : n + (dvs.length - j) = ps.length)
    (hb : ∀ (T : Addr) (kV doc pm : Value) (an : Option Addr) (cdv ct : Value) (us its : List Value), us.length = n → its.length = dvs.length →
      ∃ k, bindArgs (PySem.W.fnOf "__init__" qual (defArgs st) (defBody st) (defScope st) (.ref T) kV doc pm an cdv ct) ⟨us, []⟩ = seqItems? (.ref T) >>= k ∧ k (some its.toArray) = pure (ps.zip (us ++ its.drop j)))
    (aC : PySem.W.nsIn K mainGlobals x = some (some (.ref C))) (mk : PySem.W.makesIn K C = true) (kc : PySem.W.keepIn K (.ref C) = true)
    (a : PySem.W.findIn K (.ref C) "__init__" = some (some (.ref f))) (i : PySem.W.isFn K (.ref f) = true) (l : K.lookup f = some ⟨oc, od, .func (PySem.W.fnOf "__init__" qual (defArgs st) (defBody st) (defScope st) (.ref T) kV doc pm an cdv ct), osl⟩) (cc : PySem.W.codeIn K cdv qual = true) (kf : PySem.W.keepIn K (.ref f) = true)
    (lT : K.lookup T = some oT) (dT : oT.data = .seq its.toArray m) (rT : Vals dvs its) : IdfD K mg x C qual st ps (dvs.drop j) := by
  have F : FunD K "__init__" qual (defArgs st) (defBody st) (defScope st) dvs [] f (PySem.W.fnOf "__init__" qual (defArgs st) (defBody st) (defScope st) (.ref T) kV doc pm an cdv ct) :=
    ⟨⟨oc, od, .ref T, kV, doc, pm, an, cdv, ct, osl, rfl, l, cc, Or.inr ⟨hd, T, oT, its, m, rfl, lT, dT, rT⟩, Or.inl rfl⟩, kf⟩
  obtain ⟨ds, h1, h2⟩ := F.binds1 n j hd hn hb
  exact ⟨ds, h1, f, _, ⟨mk, a, i, kc⟩, PySem.W.mg_of X G aC, src_mk l cc, h2⟩
/-! ## a def with defaults -/
structure DfnD (K : PySem.W.Frag) (mg : Str → Option Value) (x : Str) (st : Stmt) (ps : List Str) (dvs : List V) : Prop where
  ex : ∃ ds, Vals dvs ds ∧ Dfn K mg x st ps ds
theorem Dfn.d {K : PySem.W.Frag} {mg : Str → Option Value} {x : Str} {st : Stmt} {ps : List Str} (F : Dfn K mg x st ps []) : DfnD K mg x st ps [] := ⟨[], .nil, F⟩
theorem DfnD.cal {P : Program} {w : World} {K : PySem.W.Frag} {mg : Str → Option Value} {base : Heap} {x : Str} {st : Stmt} {N ps : List Str} {dvs : List V} {k : Nat} {sp : Sp} (F : DfnD K mg x st ps dvs) (S : FnScope N ps (defScope st)) (hlen : ∀ vs H Q E, sp vs H Q E → vs.length = ps.length)
    (hb : ∀ (f : Addr) (cdv : Value) (A : Around) (outer : List Env) (s : Shared) (H : Hp) (vs : List V) (Q : VK) (E : XK), Room k (A.deeper (envOfC x (defScope st) s.heap.objs.size f cdv)) → Quiet (A.deeper (envOfC x (defScope st) s.heap.objs.size f cdv)) → sp vs H Q E →
      ∃ t, PSs (cxOf (L2.CX P w) P w K mg base N x (defScope st) f cdv A outer s H E) (defBody st) t ∧ t { nx := fun _ H' => Q .non H', rt := Q } (start N vs) H) : Cal P w K mg base (k + 1) x dvs sp := by
  obtain ⟨ds, hd, F⟩ := F.ex
  exact F.cal hd S hlen hb
theorem of_nd {p : Prop} [Decidable p] (h : ¬ decide p = true) : ¬ p := fun z => h (decide_eq_true z)
/-! ## f-strings -/
section
variable {σ : L2.St} {H : Hp} {K : PySem.W.Frag}
theorem g_js {t : TE} {ts : List TE} {acc : Str} {Q : Str → Hp → Prop} (h : t σ H fun x H1 => ∃ y : Str, x = .str y ∧ (acc ++ y).length ≤ sizeLine ∧ tJs ts (acc ++ y) σ H1 Q) : tJs (t :: ts) acc σ H Q := h
theorem g_js0 {acc : Str} {Q : Str → Hp → Prop} (h : Q acc H) : tJs [] acc σ H Q := h
theorem g_fmt {te : TE} {Q : VK} (h : te σ H fun x H1 => (∃ y : Str, x = .str y ∧ y.length ≤ sizeLine ∧ Q (.str y) H1) ∨ ∃ i : Int, x = .int i ∧ i.natAbs.log2 < 1920 ∧ Q (.str (toString i)) H1) : tFmt te σ H Q := h
theorem i_fmtI {i : Int} {R : Str → Prop} {A : Prop} (c : i.natAbs.log2 < 1920) (h : R (toString i)) : A ∨ ∃ j : Int, V.int i = .int j ∧ j.natAbs.log2 < 1920 ∧ R (toString j) := Or.inr ⟨i, rfl, c, h⟩
theorem i_fmtS {z : Str} {R : Str → Prop} {A : Prop} (c : z.length ≤ sizeLine) (h : R z) : (∃ y : Str, V.str z = .str y ∧ y.length ≤ sizeLine ∧ R y) ∨ A := Or.inl ⟨z, rfl, c, h⟩
theorem i_js {z acc : Str} {R : Str → Prop} (c : (acc ++ z).length ≤ sizeLine) (h : R z) : ∃ y : Str, V.str z = .str y ∧ (acc ++ y).length ≤ sizeLine ∧ R y := ⟨z, rfl, c, h⟩
theorem str_empty (z : Str) : Str.empty ++ z = z := by
  show (⟨#[] ++ z.cps⟩ : Str) = z
  simp
end
end Rf

namespace Rf
open PySem PySem.Spec PyProof.Rows L2
/-! ## sorted -/
section
variable {X : Cx}
abbrev rSortedDS : List V → Hp → VK → Prop := fun xs H Q => ∃ (a : Addr) (kvs : List (Key × V)) (ks : List Str), xs = [.ref a] ∧ Rd H a (.dK kvs) ∧ kvs.map (·.1) = ks.map Sum.inr ∧ ks.length < 64 ∧
    ∀ ys p, ys.Perm ks → sortedS ys = true → H p = none → Q (.ref p) (upd H p (.lst (ys.map V.str)))
def uSorted (K : PySem.W.Frag) : List V → Hp → VK → Prop := fun xs H Q => rSorted K xs H Q ∨ (rSortedS K xs H Q ∨ rSortedDS xs H Q)
theorem uc_sorted {K : PySem.W.Frag} (hc : X.calm = true := by rfl) (hK : X.K = K := by rfl) : CallR X (.builtin "sorted") (uSorted K) := by subst hK; exact CallR.or cr_sorted (CallR.or cr_sortedS (call_sortedD hc))
end
/-! ## dict comprehensions -/
section
variable {σ : L2.St} {H : Hp} {Q : VK}
abbrev DcLoop (J : It) (g : TG) (tt : TT) (tk tv : TE) (vs : List Nat) (σ : L2.St) (H1 : Hp) (Dl : Addr) (Qd : Hp → Prop) : Prop := ∃ W : Nat → Nat → Hp → Prop, (∃ m, W 0 m (upd H1 Dl (.dK []))) ∧ ∀ i m H, W i m H →
  (J.stop i H ∧ Qd H) ∨ (J.go i H ∧ ∃ Nx : Hp → Prop, (∀ H', Nx H' → ∃ m', m' < m ∧ W (i + 1) m' H') ∧ ∀ x H', J.yld i H x H' → g x (wipe σ vs) H' fun σ2 H2 => wipe σ2 vs = wipe σ vs ∧ tt σ2 H2 fun b H3 =>
    if b = true then tk σ2 H3 fun y H4 => tv σ2 H4 fun z H5 => ∃ kvs k, y = kV k ∧ H5 Dl = some (.dK kvs) ∧ kvs.length < sizeLine ∧ Nx (upd H5 Dl (.dK (putK kvs k z))) else Nx H3)
theorem g_dc {wi : TI} {g : TG} {tt : TT} {tk tv : TE} {vs : List Nat} (h : wi σ H fun J H1 => ∀ Dl, H1 Dl = none → DcLoop J g tt tk tv vs σ H1 Dl (fun H' => Q (.ref Dl) H')) : tDc wi g tt tk tv vs σ H Q := h
theorem dc_it {J : It} {n : Nat} {G : Hp → Prop} {Y : Nat → Hp → V → Hp → Prop} (w : Walk J n G Y) {g : TG} {tt : TT} {tk tv : TE} {vs : List Nat} {H1 : Hp} {Dl : Addr} {Qd : Hp → Prop} (Pv : Nat → Hp → Prop) (h0 : Pv 0 (upd H1 Dl (.dK []))) (hG : ∀ i H, i ≤ n → Pv i H → G H)
    (hs : ∀ i x H H', i < n → Pv i H → Y i H x H' → g x (wipe σ vs) H' fun σ2 H2 => wipe σ2 vs = wipe σ vs ∧ tt σ2 H2 fun b H3 =>
      if b = true then tk σ2 H3 fun y H4 => tv σ2 H4 fun z H5 => ∃ kvs k, y = kV k ∧ H5 Dl = some (.dK kvs) ∧ kvs.length < sizeLine ∧ Pv (i + 1) (upd H5 Dl (.dK (putK kvs k z))) else Pv (i + 1) H3)
    (hd : ∀ H, Pv n H → Qd H) : DcLoop J g tt tk tv vs σ H1 Dl Qd := by
  refine ⟨fun i m H => m + i = n ∧ Pv i H, ⟨n, rfl, h0⟩, fun i m H hw => ?_⟩
  obtain ⟨hm, p⟩ := hw
  have q := hG i H (by omega) p
  cases m with
  | zero =>
    have e : i = n := by omega
    subst e
    exact Or.inl ⟨w.stops H q, hd H p⟩
  | succ m =>
    exact Or.inr ⟨w.goes i H (by omega) q, Pv (i + 1), fun H' p' => ⟨m, by omega, by omega, p'⟩, fun x H' y => hs i x H H' (by omega) p (w.yields i H x H' (by omega) q y)⟩
end
/-! ## a thing locked -/
theorem hid_lock {d : Addr} {H : Hp} {o : HO} : Same (hid d H) (upd H d o) := fun a u e => by
  unfold hid at e
  split at e
  · cases e
  · rename_i h
    rw [upd_ne h]
    exact e
theorem same_unlock {d : Addr} {H H' : Hp} {u : HO} (h : H d = some u) (s : Same (hid d H) H') : Same H (upd H' d u) := fun a o e => by
  by_cases ha : a = d
  · subst ha
    rw [upd_same, ← h]
    exact e
  · rw [upd_ne ha]
    exact s a o (hid_of ha e)
theorem g_lock {t : TS} {D : Ends} {σ : L2.St} {H : Hp} {d : Addr} {kvs : List (Key × V)} (h : H d = some (.dK kvs)) (k : ∀ od, t ⟨fun σ' H' => H' d = some (.frz od (.dK kvs)) ∧ D.nx σ' (upd H' d (.dK kvs)), fun v H' => H' d = some (.frz od (.dK kvs)) ∧ D.rt v (upd H' d (.dK kvs)), fun σ' H' => H' d = some (.frz od (.dK kvs)) ∧ D.bk σ' (upd H' d (.dK kvs)), fun σ' H' => H' d = some (.frz od (.dK kvs)) ∧ D.ct σ' (upd H' d (.dK kvs))⟩ σ (upd H d (.frz od (.dK kvs)))) : tLock t D σ H := ⟨d, .dK kvs, h, trivial, k⟩
theorem g_lockE {t : TE} {σ : L2.St} {H : Hp} {Q : VK} {d : Addr} {kvs : List (Key × V)} (h : H d = some (.dK kvs)) (k : ∀ od, t σ (upd H d (.frz od (.dK kvs))) fun v H' => H' d = some (.frz od (.dK kvs)) ∧ Q v (upd H' d (.dK kvs))) : tLockE t σ H Q := ⟨d, .dK kvs, h, trivial, k⟩
/-! ## a list or a tuple walked -/
theorem seq_walk {K : PySem.W.Frag} {H : Hp} {a : Addr} {xs : List V} (h : SqL K H a xs ∨ SqT K H a xs) : ∃ (J : It) (G : Hp → Prop), Walk J xs.length G (YAt xs) ∧ (∀ H', Same H H' → G H') ∧
    ∀ (H1 : Hp) (R : It → Prop) (B : Prop), Same H H1 → R J → (∃ a', V.ref a = .ref a' ∧ (∃ ys, SqL K H1 a' ys) ∧ R (Itl K a')) ∨ ((∃ a', V.ref a = .ref a' ∧ (∃ ys, SqT K H1 a' ys) ∧ R (Itt K a')) ∨ B) := by
  rcases h with h | h
  · exact ⟨Itl K a, fun H' => SqL K H' a xs, walk_list, fun H' s => s.seq h, fun H1 R B s r => Or.inl ⟨a, rfl, ⟨xs, s.seq h⟩, r⟩⟩
  · exact ⟨Itt K a, fun H' => SqT K H' a xs, walk_tup, fun H' s => s.seqT h, fun H1 R B s r => Or.inr (Or.inl ⟨a, rfl, ⟨xs, s.seqT h⟩, r⟩)⟩
/-! ## a def with defaults, from what the head tells -/
theorem dfnD_mk {h : Heap} {mg : Str → Option Value} {K : PySem.W.Frag} {x : Str} {st : Stmt} {ps : List Str} {f T : Addr} {oc : Value} {od an : Option Addr} {osl : Array (Option Value)} {kV doc pm cdv ct : Value} {dvs : List V} {oT : Obj} {its : List Value} {m : Nat} (n j : Nat) (X : K.In h) (G : h.Ns mainGlobals mg)
    (hd : dvs ≠ []) (hn : n + (dvs.length - j) = ps.length)
    (hb : ∀ (T : Addr) (kV doc pm : Value) (an : Option Addr) (cdv ct : Value) (us its : List Value), us.length = n → its.length = dvs.length →
      ∃ k, bindArgs (PySem.W.fnOf x x (defArgs st) (defBody st) (defScope st) (.ref T) kV doc pm an cdv ct) ⟨us, []⟩ = seqItems? (.ref T) >>= k ∧ k (some its.toArray) = pure (ps.zip (us ++ its.drop j)))
    (a : PySem.W.nsIn K mainGlobals x = some (some (.ref f))) (l : K.lookup f = some ⟨oc, od, .func (PySem.W.fnOf x x (defArgs st) (defBody st) (defScope st) (.ref T) kV doc pm an cdv ct), osl⟩) (cc : PySem.W.codeIn K cdv x = true) (kf : PySem.W.keepIn K (.ref f) = true)
    (lT : K.lookup T = some oT) (dT : oT.data = .seq its.toArray m) (rT : Vals dvs its) : DfnD K mg x st ps (dvs.drop j) := by
  have F : FunD K x x (defArgs st) (defBody st) (defScope st) dvs [] f (PySem.W.fnOf x x (defArgs st) (defBody st) (defScope st) (.ref T) kV doc pm an cdv ct) :=
    ⟨⟨oc, od, .ref T, kV, doc, pm, an, cdv, ct, osl, rfl, l, cc, Or.inr ⟨hd, T, oT, its, m, rfl, lT, dT, rT⟩, Or.inl rfl⟩, kf⟩
  obtain ⟨ds, h1, h2⟩ := F.binds1 n j hd hn hb
  exact ⟨ds, h1, f, _, src_mk l cc, PySem.W.mg_of X G a, kf, h2⟩
section
variable {σ : L2.St} {H : Hp} {R : It → Hp → Prop} {td : TE}
theorem g_items (h : td σ H fun x H1 => ∃ d o kvs, x = .ref d ∧ H1 d = some (.frz o (.dK kvs)) ∧ R (Iti d o kvs) H1) : iItems td σ H R := h
theorem g_vals (h : td σ H fun x H1 => ∃ d o kvs, x = .ref d ∧ H1 d = some (.frz o (.dK kvs)) ∧ R (Itd d o kvs) H1) : iVals td σ H R := h
theorem g_keys (h : td σ H fun x H1 => ∃ d o, x = .ref d ∧ ((∃ kvs, H1 d = some (.frz o (.dK kvs)) ∧ R (Itk d o kvs) H1) ∨ ∃ kvs, H1 d = some (.frz o (.dT kvs)) ∧ R (Itkt d o kvs) H1)) : iKeys td σ H R := h
end
end Rf

namespace Rf
open PySem PySem.Spec PyProof.Rows L2
def topS (i : Nat) : Stmt := PySem.Challenge.pw_oneroof_k05_purses_worth.main.body.getD i (.Pass ⟨0, 0, 0, 0⟩)
section
variable {P : Program} {w : World} {K : PySem.W.Frag} {mg : Str → Option Value} {base : Heap}
local macro_rules | `(tactic| walk_at "g1") => `(tactic| first
  | with_reducible refine g_seq ?_
  | with_reducible refine g_asg ?_
  | with_reducible refine g_name ?_
  | ((with_reducible refine' g_var ?gv ?_); (case gv => exact rfl))
  | with_reducible refine g_c ?_
  | with_reducible refine g_op ?_
  | with_reducible refine g_cons ?_
  | with_reducible refine g_nil ?_
  | with_reducible refine g_cb ?_
  | with_reducible refine g_if ?_
  | with_reducible refine g_test ?_
  | with_reducible refine g_bl ?_
  | with_reducible refine g_ret ?_
  | with_reducible refine g_for ?_
  | with_reducible refine g_lc ?_
  | with_reducible refine g_yes ?_
  | with_reducible refine g_m1 ?_
  | with_reducible refine g_m0 ?_
  | with_reducible refine g_isStr ?_
  | with_reducible refine g_rng1 ?_
  | with_reducible refine g_rng2 ?_
  | with_reducible refine g_seqI ?_
  | with_reducible refine g_call ?_
  | with_reducible refine g_meth ?_
  | with_reducible refine g_make ?_
  | with_reducible refine g_sfld ?_
  | with_reducible refine g_dnew ?_
  | with_reducible refine g_items ?_
  | with_reducible refine g_vals ?_
  | with_reducible refine g_keys ?_
  | with_reducible refine g_dc ?_
  | with_reducible refine g_js ?_
  | with_reducible refine g_js0 ?_
  | with_reducible refine g_fmt ?_
  | with_reducible refine g_raise ?_
  | with_reducible refine g_raise0 ?_
  | with_reducible refine g_drop ?_
  | with_reducible refine g_next ?_
  | with_reducible refine g_ifE ?_
  | with_reducible refine g_iteT ?_
  | with_reducible refine g_iteF ?_
  | with_reducible refine g_par ?_
  | with_reducible refine g_par2 ?_
  | with_reducible refine g_un ?_
  | with_reducible refine g_and ?_
  | with_reducible refine g_or ?_
  | with_reducible refine g_not ?_
  | with_reducible refine g_andV ?_
  | with_reducible refine g_orV ?_
  | with_reducible refine g_notV ?_
  | with_reducible refine g_tru ?_
  | with_reducible refine g_truB ?_
  | with_reducible refine g_retN ?_
  | with_reducible refine g_tup ?_
  | with_reducible refine g_lst ?_
  | with_reducible refine g_chain ?_
  | with_reducible refine g_sl ?_
  | with_reducible refine g_noPart ?_
  | with_reducible refine g_part ?_
  | with_reducible refine g_int ?_
  | with_reducible refine g_fld ?_
  | with_reducible refine g_bm ?_
  | with_reducible refine g_bm0 ?_
  | with_reducible refine g_gcons ?_
  | with_reducible refine g_gnil ?_
  | with_reducible refine g_gsub ?_
  | with_reducible refine i_add ?_
  | with_reducible refine i_sub ?_
  | ((with_reducible refine i_mul ?c ?_); (case c => first | exact Or.inr ⟨by decide, by decide⟩ | exact Or.inl ⟨by decide, by decide⟩ | exact Or.inl ⟨by omega, by omega⟩ | exact Or.inr ⟨by omega, by omega⟩))
  | ((with_reducible refine i_fdiv ?c ?_); (case c => first | exact ⟨by decide, by decide⟩ | exact ⟨by omega, by omega⟩))
  | ((with_reducible refine i_mod ?c ?_); (case c => first | decide | omega))
  | ((with_reducible refine i_pow ?c ?_); (case c => exact ⟨by decide, by decide, by decide⟩))
  | with_reducible refine i_lt ?_
  | with_reducible refine i_le ?_
  | with_reducible refine i_gt ?_
  | with_reducible refine i_ge ?_
  | with_reducible refine i_neg ?_
  | with_reducible refine i_eqI ?_
  | with_reducible refine i_neI ?_
  | with_reducible refine i_eqS ?_
  | with_reducible refine i_neS ?_
  | with_reducible refine i_max2 ?_
  | with_reducible refine i_min2 ?_
  | with_reducible refine i_abs ?_
  | ((with_reducible refine g_iteTc ?c ?_); (case c => exact rfl))
  | ((with_reducible refine g_iteFc ?c ?_); (case c => exact rfl)))
local macro_rules | `(tactic| walk_at "go") => `(tactic| repeat walk_at "g1")
/-! ### common_measure -/
def spMeasure : Sp := fun vs H Q _ => ∃ a b : Nat, vs = [.int (a : Int), .int (b : Int)] ∧ Q (.int (Nat.gcd a b : Nat)) H
abbrev s_common_measure : Stmt := topS 4
abbrev N_common_measure : List Str := ["one", "other"]
abbrev P_common_measure : List Str := ["one", "other"]
theorem sc_common_measure : FnScope N_common_measure P_common_measure (defScope s_common_measure) := ⟨rfl, rfl, rfl, by decide +kernel, rfl, by decide +kernel, by decide +kernel⟩
theorem cal_common_measure (F : Dfn K mg "common_measure" s_common_measure P_common_measure []) (B : Blt mg) : Cal P w K mg base 1 "common_measure" [] spMeasure := by
  refine F.cal .nil sc_common_measure (fun vs H Q E h => ?_) (fun f cdv A outer s H vs Q E hr hG h => ?_)
  · obtain ⟨a, b, rfl, _⟩ := h
    rfl
  · obtain ⟨a, b, rfl, q⟩ := h
    have hu := hu_of hr
    have nd := sc_common_measure.nd
    refine ⟨_, (pss_cons (ps_while PW (pt_cmpR uq_gt (pv 1) pe_int (nomark _)) (pss_one (ps_par (i := 0) (j := 1) (by rfl) nd rfl rfl (by decide) rfl rfl (pa_cons (pv 1) (pa_cons (pe_op uq_mod (pv 0) (pv 1)) pa_nil)) (by rfl))))
      (pss_one (ps_ret (pv 0)))), ?_⟩
    walk_at "go"
    refine g_while ⟨fun m σ H' => H = H' ∧ ∃ x : Nat, Nat.gcd x m = Nat.gcd a b ∧ σ = [some (.int (x : Int)), some (.int (m : Int))], ⟨b, rfl, a, rfl, rfl⟩, ?_⟩
    rintro m σ H' ⟨rfl, x, hx, rfl⟩
    walk_at "go"
    by_cases hm : (0 : Int) < (m : Int)
    · rw [decide_eq_true hm]
      walk_at "go"
      refine ⟨_, fun _ _ z => z, ?_⟩
      walk_at "go"
      refine ⟨x % m, Nat.mod_lt _ (by omega), rfl, m, ?_, ?_⟩
      · rw [← hx, Nat.gcd_comm x m, Nat.gcd_rec m x, Nat.gcd_comm]
      · simp only [List.set_cons_zero, List.set_cons_succ, Int.natCast_emod]
    · rw [decide_eq_false hm]
      walk_at "go"
      have : m = 0 := by omega
      subst this
      rw [Nat.gcd_zero_right] at hx
      rw [hx]
      exact q
/-! ### Part -/
def partFs (q : Rat) : List (Str × V) := [("top", .int q.num), ("low", .int (q.den : Int))]
structure PartC (K : PySem.W.Frag) (C : Addr) : Prop where
  ow : Own K C
  n1 : NoAttr K C "top"
  n2 : NoAttr K C "low"
def PartAt (C : Addr) (H : Hp) (a : Addr) (q : Rat) : Prop := ∃ dx, H a = some (.ins C dx (partFs q))
theorem PartAt.mono {C a : Addr} {H H' : Hp} {q : Rat} (s : Same H H') (h : PartAt C H a q) : PartAt C H' a q := by
  obtain ⟨dx, h⟩ := h
  exact ⟨dx, s _ _ h⟩
theorem putTop (v : V) : putF "top" v [] = [(("top" : Str), v)] := rfl
theorem putLow (u v : V) : putF "low" v [(("top" : Str), u)] = [(("top" : Str), u), (("low" : Str), v)] := by
  show (if ("top" : Str) = "low" then _ else (("top" : Str), u) :: putF "low" v []) = _
  rw [if_neg (by decide +kernel)]
  rfl
def spPartInit (C CN : Addr) : Sp := fun vs H Q E => ∃ (x dx : Addr) (H0 : Hp) (top low : Int), vs = [.ref x, .int top, .int low] ∧ Same H0 H ∧ H0 x = none ∧ H x = some (.ins C dx []) ∧ low.natAbs < 2 ^ 8900 ∧
  if low = 0 then (∀ H', Same H0 H' → E (.ref CN) none H') else ∀ H', Same H0 H' → PartAt C H' x (Rat.divInt top low) → Q .non H'
theorem gcd_pos' {a b : Nat} (h : 0 < b) : 0 < Nat.gcd a b := Nat.gcd_pos_of_pos_right _ h
theorem part_div (top low : Int) (h : 0 < low) : (Rat.divInt top low).num = top / ((Nat.gcd top.natAbs low.toNat : Nat) : Int) ∧ (((Rat.divInt top low).den : Nat) : Int) = low / ((Nat.gcd top.natAbs low.toNat : Nat) : Int) := by
  have e1 : low.sign = 1 := Int.sign_eq_one_of_pos h
  have e2 : low.gcd top = Nat.gcd top.natAbs low.toNat := by
    unfold Int.gcd
    rw [Nat.gcd_comm]
    congr 1
    omega
  refine ⟨?_, ?_⟩
  · rw [Rat.num_divInt, e1, Int.one_mul, e2]
  · rw [Rat.den_divInt, if_neg (by omega), e2, Int.natCast_ediv]
    congr 1
    omega
theorem log2_lt_of {n k : Nat} (hk : 0 < k) (h : n < 2 ^ k) : n.log2 < k := by
  by_cases hz : n = 0
  · rw [hz]; simpa using hk
  · exact (Nat.log2_lt hz).mpr h
theorem cdiv_gcd {a b : Nat} (hb : 0 < b) (h : b < 2 ^ 8900) (i : Int) : CDivW i ((Nat.gcd a b : Nat) : Int) := by
  have h1 : Nat.gcd a b ≤ b := Nat.gcd_le_right _ hb
  have h2 := gcd_pos' (a := a) hb
  refine ⟨by omega, Nat.lt_of_lt_of_le (log2_lt_of (k := 8900) (by decide) ?_) (by decide)⟩
  rw [Int.natAbs_natCast]
  exact Nat.lt_of_le_of_lt h1 h
abbrev s_Part_init : Stmt := inClass (topS 5) 0
abbrev N_Part_init : List Str := ["self", "top", "low", "by"]
abbrev P_Part_init : List Str := ["self", "top", "low"]
theorem sc_Part_init : FnScope N_Part_init P_Part_init (defScope s_Part_init) := ⟨rfl, rfl, rfl, by decide +kernel, rfl, by decide +kernel, by decide +kernel⟩
theorem mkr_Part {C CN : Addr} {dvs : List V} (F : IdfD K mg "Part" C "Part.__init__" s_Part_init P_Part_init dvs) (T : PartC K C) (B : Blt mg) (x_NoMeasure : XPl K mg "NoMeasure" CN) (c_common_measure : Cal P w K mg base 1 "common_measure" [] spMeasure) : Mkr P w K mg base 2 "Part" C dvs (spPartInit C CN) := by
  refine F.mkr sc_Part_init (fun vs H Q E h => ?_) (fun f cdv A outer s H vs Q E hr hG h => ?_)
  · obtain ⟨x, dx, H0, top, low, rfl, _⟩ := h
    rfl
  · obtain ⟨x, dx, H0, top, low, rfl, s0, hx0, hx, hb, q⟩ := h
    have hu := hu_of hr
    have nd := sc_Part_init.nd
    refine ⟨_, (pss_cons (ps_if (pt_cmpR (uq_eq (K := K) hr) (pv 2) pe_int (nomark _)) (pss_one (us_raise0 x_NoMeasure rfl tkB (by rfl))) pss_nil)
      (Evl.pss_cut (ps_if (pt_cmpR uq_lt (pv 2) pe_int (nomark _)) (pss_one (ps_par (i := 1) (j := 2) (by rfl) nd rfl rfl (by decide) rfl rfl (pa_cons (pe_un un_neg (pv 1)) (pa_cons (pe_un un_neg (pv 2)) pa_nil)) (by rfl))) pss_nil)
      (pss_cons (ps_set (i := 3) nd rfl (Or.inl rfl) (ue_call c_common_measure hr (by decide) hG (by rfl) PB (pa_cons (pe_callB uc_abs (by rfl) B.b_abs (by decide +kernel) (pa_cons (pv 1) pa_nil)) (pa_cons (pv 2) pa_nil))))
      (pss_cons (ps_fld (pv 0) (pe_op uq_fdiv (pv 1) (pv 3)) rfl)
      (pss_one (ps_fld (pv 0) (pe_op uq_fdiv (pv 2) (pv 3)) rfl)))))), ?_⟩
    walk_at "go"
    refine ite2 (fun h => ?_) (fun h => ?_)
    · have h := of_decide_eq_true h
      rw [if_pos h] at q
      walk_at "go"
      exact q H s0
    · have h : ¬ low = 0 := of_nd h
      rw [if_neg h] at q
      walk_at "go"
      refine ⟨fun σ' H' => ∃ t l : Int, H = H' ∧ 0 < l ∧ l.natAbs = low.natAbs ∧ Rat.divInt t l = Rat.divInt top low ∧ σ' = [some (.ref x), some (.int t), some (.int l), none], ?_, ?_⟩
      · walk_at "go"
        refine ite2 (fun h2 => ?_) (fun h2 => ?_)
        · have h2 := of_decide_eq_true h2
          walk_at "go"
          exact ⟨-top, -low, rfl, by omega, by omega, Rat.neg_divInt_neg _ _, rfl⟩
        · have h2 : ¬ low < 0 := of_nd h2
          walk_at "go"
          exact ⟨top, low, rfl, by omega, rfl, rfl, rfl⟩
      · rintro σ' H' ⟨t, l, rfl, l0, la, ed, rfl⟩
        walk_at "go"
        refine ⟨t.natAbs, l.toNat, by rw [Int.toNat_of_nonneg (by omega)]; rfl, ?_⟩
        have lb : l.toNat < 2 ^ 8900 := by
          have : l.toNat = low.natAbs := by omega
          rw [this]
          exact hb
        obtain ⟨p1, p2⟩ := part_div t l l0
        rw [ed] at p1 p2
        walk_at "go"
        refine i_fdivW (cdiv_gcd (by omega) lb _) ?_
        rw [← p1]
        walk_at "go"
        refine ⟨x, C, dx, _, rfl, hx, T.ow.cl, T.n1, by decide, ?_⟩
        rw [putTop]
        generalize e1 : upd H x (.ins C dx [(("top" : Str), V.int (Rat.divInt top low).num)]) = H1
        have hx1 : H1 x = some (.ins C dx [(("top" : Str), V.int (Rat.divInt top low).num)]) := by rw [← e1]; exact upd_same
        have s1 : Same H0 H1 := by rw [← e1]; exact s0.mut hx0
        walk_at "go"
        refine i_fdivW (cdiv_gcd (by omega) lb _) ?_
        rw [← p2]
        walk_at "go"
        refine ⟨x, C, dx, _, rfl, hx1, T.ow.cl, T.n2, by show 1 < 1000; decide, ?_⟩
        rw [putLow]
        exact q _ (s1.mut hx0) ⟨dx, upd_same⟩
/-- Part(top, low) -/
theorem make_part {C CN : Addr} {H : Hp} {top low : Int} {R : Hp → Prop} {E : XK} {x dx : Addr} {vs : List V} (hvs : vs = [.int top, .int low]) (hx : H x = none) (hdx : H dx = none) (hne : dx ≠ x) (hl : low ≠ 0) (hb : low.natAbs < 2 ^ 8900)
    (q : ∀ H', Same H H' → PartAt C H' x (Rat.divInt top low) → R H') : spPartInit C CN (.ref x :: vs) (upd (upd H dx (.own x)) x (.ins C dx [])) (fun v H2 => v = .non ∧ R H2) E := by
  subst hvs
  refine ⟨x, dx, H, top, low, rfl, ((Same.refl H).mut hdx).mut hx, hx, upd_same, hb, ?_⟩
  rw [if_neg hl]
  exact fun H' s' w' => ⟨rfl, q H' s' w'⟩

/-! ### how great a part is -/
structure Bd (n : Nat) (q : Rat) : Prop where
  top : q.num.natAbs < 2 ^ n
  low : q.den < 2 ^ n
theorem Bd.mono {n m : Nat} {q : Rat} (h : Bd n q) (l : n ≤ m) : Bd m q := ⟨Nat.lt_of_lt_of_le h.top (Nat.pow_le_pow_right (by decide) l), Nat.lt_of_lt_of_le h.low (Nat.pow_le_pow_right (by decide) l)⟩
theorem bd_divInt {n : Nat} {a b : Int} (ha : a.natAbs < 2 ^ n) (hb : b.natAbs < 2 ^ n) (h0 : b ≠ 0) : Bd n (Rat.divInt a b) := by
  have hg : 0 < b.gcd a := Nat.gcd_pos_of_pos_left _ (by omega)
  refine ⟨?_, ?_⟩
  · rw [Rat.num_divInt]
    refine Nat.lt_of_le_of_lt ?_ ha
    rw [Int.natAbs_ediv_of_dvd (by
      refine Int.dvd_mul_of_dvd_right ?_
      exact Int.gcd_dvd_right ..), Int.natAbs_natCast, Int.natAbs_mul]
    refine Nat.le_trans (Nat.div_le_self _ _) ?_
    have : b.sign.natAbs ≤ 1 := by
      rcases Int.lt_trichotomy b 0 with h | h | h
      · rw [Int.sign_eq_neg_one_of_neg h]; decide
      · exact absurd h h0
      · rw [Int.sign_eq_one_of_pos h]; decide
    calc b.sign.natAbs * a.natAbs ≤ 1 * a.natAbs := Nat.mul_le_mul_right _ this
      _ = a.natAbs := Nat.one_mul _
  · rw [Rat.den_divInt, if_neg h0]
    exact Nat.lt_of_le_of_lt (Nat.div_le_self _ _) hb
theorem mul_lt_pow {x y n m : Nat} (hx : x < 2 ^ n) (hy : y < 2 ^ m) : x * y < 2 ^ (n + m) := by
  rw [Nat.pow_add]
  calc x * y ≤ x * 2 ^ m := Nat.mul_le_mul_left _ (Nat.le_of_lt hy)
    _ < 2 ^ n * 2 ^ m := Nat.mul_lt_mul_of_pos_right hx (Nat.pow_pos (by decide))
theorem add_top {p q : Rat} {n m : Nat} (h1 : Bd n p) (h2 : Bd m q) : (p.num * (q.den : Int) + q.num * (p.den : Int)).natAbs < 2 ^ (n + m + 1) := by
  have a := mul_lt_pow h1.top h2.low
  have b := mul_lt_pow h2.top h1.low
  rw [Nat.add_comm m n] at b
  have e1 : (p.num * (q.den : Int)).natAbs = p.num.natAbs * q.den := by rw [Int.natAbs_mul, Int.natAbs_natCast]
  have e2 : (q.num * (p.den : Int)).natAbs = q.num.natAbs * p.den := by rw [Int.natAbs_mul, Int.natAbs_natCast]
  have := Int.natAbs_add_le (p.num * (q.den : Int)) (q.num * (p.den : Int))
  rw [Nat.pow_succ]
  omega
theorem low_pos (q : Rat) : 0 < q.den := Nat.pos_of_ne_zero q.den_nz
theorem lows_ne (p q : Rat) : ((p.den : Int) * (q.den : Int)) ≠ 0 := by
  have := low_pos p
  have := low_pos q
  exact Int.mul_ne_zero (by omega) (by omega)
theorem lows_lt {p q : Rat} {n m : Nat} (h1 : Bd n p) (h2 : Bd m q) : ((p.den : Int) * (q.den : Int)).natAbs < 2 ^ (n + m) := by
  rw [Int.natAbs_mul, Int.natAbs_natCast, Int.natAbs_natCast]
  exact mul_lt_pow h1.low h2.low
theorem rat_add (p q : Rat) : Rat.divInt (p.num * (q.den : Int) + q.num * (p.den : Int)) ((p.den : Int) * (q.den : Int)) = p + q := by
  have a := low_pos p
  have b := low_pos q
  rw [← Rat.divInt_add_divInt _ _ (by omega) (by omega), Rat.num_divInt_den, Rat.num_divInt_den]
theorem rat_sub (p q : Rat) : Rat.divInt (p.num * (q.den : Int) - q.num * (p.den : Int)) ((p.den : Int) * (q.den : Int)) = p - q := by
  have a := low_pos p
  have b := low_pos q
  have e : p.num * (q.den : Int) - q.num * (p.den : Int) = p.num * (q.den : Int) + (-q.num) * (p.den : Int) := by rw [Int.neg_mul, Int.sub_eq_add_neg]
  rw [e, ← Rat.divInt_add_divInt _ _ (by omega) (by omega), Rat.num_divInt_den, ← Rat.neg_divInt, Rat.num_divInt_den, Rat.sub_eq_add_neg]
theorem rat_mul (p q : Rat) : Rat.divInt (p.num * q.num) ((p.den : Int) * (q.den : Int)) = p * q := by
  rw [← Rat.divInt_mul_divInt, Rat.num_divInt_den, Rat.num_divInt_den]
theorem rat_div (p q : Rat) (h : q ≠ 0) : Rat.divInt (p.num * (q.den : Int)) ((p.den : Int) * q.num) = p / q := by
  rw [← Rat.divInt_mul_divInt, Rat.num_divInt_den, Rat.div_def, Rat.inv_def]
theorem Bd.add {n m : Nat} {p q : Rat} (h1 : Bd n p) (h2 : Bd m q) : Bd (n + m + 1) (p + q) := by
  rw [← rat_add]
  exact bd_divInt (add_top h1 h2) (Nat.lt_of_lt_of_le (lows_lt h1 h2) (Nat.pow_le_pow_right (by decide) (by omega))) (lows_ne p q)
theorem Bd.mul {n m : Nat} {p q : Rat} (h1 : Bd n p) (h2 : Bd m q) : Bd (n + m) (p * q) := by
  rw [← rat_mul]
  refine bd_divInt ?_ (lows_lt h1 h2) (lows_ne p q)
  rw [Int.natAbs_mul]
  exact mul_lt_pow h1.top h2.top
theorem Bd.neg {n : Nat} {p : Rat} (h : Bd n p) : Bd n (-p) := ⟨by show (-p.num).natAbs < _; rw [Int.natAbs_neg]; exact h.top, h.low⟩
theorem Bd.sub {n m : Nat} {p q : Rat} (h1 : Bd n p) (h2 : Bd m q) : Bd (n + m + 1) (p - q) := by
  rw [Rat.sub_eq_add_neg]
  exact h1.add h2.neg
theorem bd_zero {n : Nat} (h : 1 ≤ n) : Bd n 0 := ⟨Nat.pow_pos (by decide), by
  have : 2 ^ 1 ≤ 2 ^ n := Nat.pow_le_pow_right (by decide) h
  show 1 < 2 ^ n
  omega⟩
theorem cmulW_of {i j : Int} {n m : Nat} (hi : i.natAbs < 2 ^ n) (hj : j.natAbs < 2 ^ m) (hn : 0 < n) (hm : 0 < m) (h : n + m ≤ 900000) : CMulW i j := by
  have a := log2_lt_of hn hi
  have b := log2_lt_of hm hj
  unfold CMulW
  omega
theorem mul_nn {p q : Rat} {n m : Nat} (h1 : Bd n p) (h2 : Bd m q) (hn : 0 < n) (hm : 0 < m) (h : n + m ≤ 900000) : CMulW p.num q.num := cmulW_of h1.top h2.top hn hm h
theorem mul_nd {p q : Rat} {n m : Nat} (h1 : Bd n p) (h2 : Bd m q) (hn : 0 < n) (hm : 0 < m) (h : n + m ≤ 900000) : CMulW p.num (q.den : Int) := cmulW_of h1.top (by rw [Int.natAbs_natCast]; exact h2.low) hn hm h
theorem mul_dn {p q : Rat} {n m : Nat} (h1 : Bd n p) (h2 : Bd m q) (hn : 0 < n) (hm : 0 < m) (h : n + m ≤ 900000) : CMulW (p.den : Int) q.num := cmulW_of (by rw [Int.natAbs_natCast]; exact h1.low) h2.top hn hm h
theorem mul_dd {p q : Rat} {n m : Nat} (h1 : Bd n p) (h2 : Bd m q) (hn : 0 < n) (hm : 0 < m) (h : n + m ≤ 900000) : CMulW (p.den : Int) (q.den : Int) := cmulW_of (by rw [Int.natAbs_natCast]; exact h1.low) (by rw [Int.natAbs_natCast]; exact h2.low) hn hm h

/-! ### Part.__eq__ -/
def spPartEq (K : PySem.W.Frag) (C : Addr) : Sp := fun vs H Q _ => ∃ (a : Addr) (y : V) (q : Rat), vs = [.ref a, y] ∧ PartAt C H a q ∧
  ((∃ a' q', y = .ref a' ∧ PartAt C H a' q' ∧ Q (.bl (decide (q = q'))) H) ∨ ∃ t, TyX K H y t ∧ NoSub K C t ∧ Q (.bl false) H)
theorem part_fld1 (q : Rat) : (partFs q).lookup ("top" : Str) = some (.int q.num) := rfl
theorem part_fld2 (q : Rat) : (partFs q).lookup ("low" : Str) = some (.int (q.den : Int)) := by
  unfold partFs
  rw [List.lookup_cons]
  rw [show (("low" : Str) == "top") = false by decide +kernel]
  rfl
theorem v_top {C a : Addr} {H : Hp} {q : Rat} {σ : L2.St} {Q : VK} {i : Nat} (T : PartC K C) (e : σ[i]? = some (some (.ref a))) (h : PartAt C H a q) (k : Q (.int q.num) H) : tFld K (tVar i) "top" σ H Q := by
  obtain ⟨dx, h⟩ := h
  exact g_fld (g_var e ⟨a, C, dx, _, _, rfl, h, T.ow.cl, T.n1, part_fld1 q, k⟩)
theorem v_low {C a : Addr} {H : Hp} {q : Rat} {σ : L2.St} {Q : VK} {i : Nat} (T : PartC K C) (e : σ[i]? = some (some (.ref a))) (h : PartAt C H a q) (k : Q (.int (q.den : Int)) H) : tFld K (tVar i) "low" σ H Q := by
  obtain ⟨dx, h⟩ := h
  exact g_fld (g_var e ⟨a, C, dx, _, _, rfl, h, T.ow.cl, T.n2, part_fld2 q, k⟩)
/-- .top, .low of a part at hand -/
theorem x_top {C a : Addr} {H : Hp} {q : Rat} {R : V → Prop} (T : PartC K C) (h : PartAt C H a q) (k : R (.int q.num)) : ∃ a' C' dx fs v, V.ref a = .ref a' ∧ H a' = some (.ins C' dx fs) ∧ Cls K C' ∧ NoAttr K C' "top" ∧ fs.lookup ("top" : Str) = some v ∧ R v := by
  obtain ⟨dx, h⟩ := h
  exact ⟨a, C, dx, _, _, rfl, h, T.ow.cl, T.n1, part_fld1 q, k⟩
theorem x_low {C a : Addr} {H : Hp} {q : Rat} {R : V → Prop} (T : PartC K C) (h : PartAt C H a q) (k : R (.int (q.den : Int))) : ∃ a' C' dx fs v, V.ref a = .ref a' ∧ H a' = some (.ins C' dx fs) ∧ Cls K C' ∧ NoAttr K C' "low" ∧ fs.lookup ("low" : Str) = some v ∧ R v := by
  obtain ⟨dx, h⟩ := h
  exact ⟨a, C, dx, _, _, rfl, h, T.ow.cl, T.n2, part_fld2 q, k⟩
abbrev s_Part_eq : Stmt := inClass (topS 5) 1
abbrev N_Part_eq : List Str := ["self", "other"]
abbrev P_Part_eq : List Str := ["self", "other"]
theorem sc_Part_eq : FnScope N_Part_eq P_Part_eq (defScope s_Part_eq) := ⟨rfl, rfl, rfl, by decide +kernel, rfl, by decide +kernel, by decide +kernel⟩
theorem mtd_Part_eq {C : Addr} (F : Mdf K C "__eq__" "Part.__eq__" s_Part_eq P_Part_eq []) (T : PartC K C) (B : Blt mg) (g_Part : Cst mg "Part" (.ref C)) : Mtd P w K mg base 1 C "__eq__" [] (spPartEq K C) := by
  refine F.mtd .nil sc_Part_eq (fun vs H Q E h => ?_) (fun f cdv A outer s H vs Q E hr hG h => ?_)
  · obtain ⟨a, y, q, rfl, _⟩ := h
    rfl
  · obtain ⟨a, y, q, rfl, h1, k⟩ := h
    have hu := hu_of hr
    have nd := sc_Part_eq.nd
    refine ⟨_, (pss_one (ps_ret (pe_and (pe_callB (uc_isinstance (K := K)) (by rfl) B.b_isinstance (by decide +kernel) (pa_cons (pv 1) (pa_cons (ue_cst g_Part (by rfl)) pa_nil))) (pe_and (pe_cmpR (uq_eq (K := K) hr) (ue_fld (K := K) (pv 0) rfl) (ue_fld (K := K) (pv 1) rfl) (nomark _)) (pe_one (pe_cmpR (uq_eq (K := K) hr) (ue_fld (K := K) (pv 0) rfl) (ue_fld (K := K) (pv 1) rfl) (nomark _))))))), ?_⟩
    walk_at "go"
    rcases k with ⟨a', q', rfl, h2, k⟩ | ⟨t, ty, no, k⟩
    · obtain ⟨dx, h2'⟩ := id h2
      refine ⟨.ref a', .ref C, .ref C, .ref C, true, rfl, .own C, T.ow.is h2', kit_self, ?_⟩
      walk_at "go"
      refine x_top T h1 ?_
      walk_at "go"
      refine x_top T h2 ?_
      walk_at "go"
      by_cases e1 : q.num = q'.num
      · rw [decide_eq_true e1]
        walk_at "go"
        refine x_low T h1 ?_
        walk_at "go"
        refine x_low T h2 ?_
        walk_at "go"
        have e : decide ((q.den : Int) = (q'.den : Int)) = decide (q = q') := by
          rw [Bool.eq_iff_iff]
          simp only [decide_eq_true_eq]
          exact ⟨fun h => Rat.ext e1 (by omega), fun h => by rw [h]⟩
        rw [e]
        exact k
      · rw [decide_eq_false e1]
        walk_at "go"
        rw [decide_eq_false (fun h : q = q' => e1 (by rw [h]))] at k
        exact k
    · refine ⟨y, .ref C, t, .ref C, false, rfl, .own C, ty, no.kit T.ow, ?_⟩
      walk_at "go"
      exact k

/-- two parts to a new one -/
def spPartOp (C : Addr) (g : Rat → Rat → Rat) : Sp := fun vs H Q _ => ∃ (a b : Addr) (p q : Rat), vs = [.ref a, .ref b] ∧ PartAt C H a p ∧ PartAt C H b q ∧ Bd 4400 p ∧ Bd 4400 q ∧ ∀ x H', H x = none → Same H H' → PartAt C H' x (g p q) → Q (.ref x) H'

/-! ### Part.plus -/
abbrev s_Part_plus : Stmt := inClass (topS 5) 3
abbrev N_Part_plus : List Str := ["self", "other"]
abbrev P_Part_plus : List Str := ["self", "other"]
theorem sc_Part_plus : FnScope N_Part_plus P_Part_plus (defScope s_Part_plus) := ⟨rfl, rfl, rfl, by decide +kernel, rfl, by decide +kernel, by decide +kernel⟩
theorem mtd_Part_plus {C CN : Addr} (F : Mdf K C "plus" "Part.plus" s_Part_plus P_Part_plus []) (T : PartC K C) (B : Blt mg) (m_Part_2 : Mkr P w K mg base 2 "Part" C [] (spPartInit C CN)) : Mtd P w K mg base 4 C "plus" [] (spPartOp C fun p q => p + q) := by
  refine F.mtd .nil sc_Part_plus (fun vs H Q E h => ?_) (fun f cdv A outer s H vs Q E hr hG h => ?_)
  · obtain ⟨a, b, p, q, rfl, _⟩ := h
    rfl
  · obtain ⟨a, b, p, q, rfl, h1, h2, b1, b2, k⟩ := h
    have hu := hu_of hr
    have nd := sc_Part_plus.nd
    refine ⟨_, (pss_one (ps_ret (ue_make m_Part_2 hr (by decide) hG (by rfl) PB (pa_cons (pe_op uq_add (pe_op uq_mul (ue_fld (K := K) (pv 0) rfl) (ue_fld (K := K) (pv 1) rfl)) (pe_op uq_mul (ue_fld (K := K) (pv 1) rfl) (ue_fld (K := K) (pv 0) rfl))) (pa_cons (pe_op uq_mul (ue_fld (K := K) (pv 0) rfl) (ue_fld (K := K) (pv 1) rfl)) pa_nil))))), ?_⟩
    walk_at "go"
    refine x_top T h1 ?_
    walk_at "go"
    refine x_low T h2 ?_
    walk_at "go"
    refine i_mulW (mul_nd b1 b2 (by decide) (by decide) (by decide)) ?_
    walk_at "go"
    refine x_top T h2 ?_
    walk_at "go"
    refine x_low T h1 ?_
    walk_at "go"
    refine i_mulW (mul_nd b2 b1 (by decide) (by decide) (by decide)) ?_
    walk_at "go"
    refine x_low T h1 ?_
    walk_at "go"
    refine x_low T h2 ?_
    walk_at "go"
    refine i_mulW (mul_dd b1 b2 (by decide) (by decide) (by decide)) ?_
    walk_at "go"
    intro x dx hx hdx hne
    refine make_part rfl hx hdx hne (lows_ne p q) (Nat.lt_of_lt_of_le (lows_lt b1 b2) (Nat.pow_le_pow_right (by decide) (by decide))) fun H' s' h' => ?_
    rw [rat_add p q] at h'
    exact k x H' hx s' h'

/-! ### texts in order -/
def ltS (a b : Str) : Bool := ltCps a.cps.toList b.cps.toList
theorem ltS_iff {a b : Str} : ltS a b = true ↔ a.cps.toList < b.cps.toList := by
  unfold ltS
  rw [PyProof.Rows.ltCps_eq, decide_eq_true_eq]
def leS (a b : Str) : Bool := !ltS b a
theorem leS_iff {a b : Str} : leS a b = true ↔ a.cps.toList ≤ b.cps.toList := by
  unfold leS
  rw [Bool.not_eq_true', ← Bool.not_eq_true, ltS_iff]
  exact Iff.rfl
theorem leS_trans (a b c : Str) (h1 : leS a b = true) (h2 : leS b c = true) : leS a c = true := leS_iff.mpr (List.le_trans (leS_iff.mp h1) (leS_iff.mp h2))
theorem leS_total (a b : Str) : (leS a b || leS b a) = true := by
  rw [Bool.or_eq_true, leS_iff, leS_iff]
  exact List.le_total _ _
theorem str_ext {a b : Str} (h : a.cps.toList = b.cps.toList) : a = b := by
  obtain ⟨x⟩ := a
  obtain ⟨y⟩ := b
  congr
  exact Array.toList_inj.mp h
theorem leS_anti {a b : Str} (h1 : leS a b = true) (h2 : leS b a = true) : a = b := str_ext (List.le_antisymm (leS_iff.mp h1) (leS_iff.mp h2))
def sortS (l : List Str) : List Str := l.mergeSort leS
theorem sortS_perm (l : List Str) : (sortS l).Perm l := List.mergeSort_perm l leS
theorem sortS_sorted (l : List Str) : (sortS l).Pairwise fun a b => leS a b = true := List.pairwise_mergeSort leS_trans leS_total l
theorem rising_pair : ∀ (l : List Str) (p : Str), risingS p l = true → (p :: l).Pairwise fun a b => leS a b = true
  | [], p, _ => by simp
  | x :: r, p, h => by
    simp only [risingS, Bool.and_eq_true] at h
    have ih := rising_pair r x h.2
    have h1 : leS p x = true := h.1
    refine List.pairwise_cons.mpr ⟨fun y hy => ?_, ih⟩
    rcases List.mem_cons.mp hy with rfl | hy
    · exact h1
    · exact leS_trans _ _ _ h1 ((List.pairwise_cons.mp ih).1 y hy)
theorem sorted_pair {l : List Str} (h : sortedS l = true) : l.Pairwise fun a b => leS a b = true := by
  cases l with
  | nil => exact List.Pairwise.nil
  | cons x r => exact rising_pair r x h
theorem sorted_is {l k : List Str} (h1 : l.Perm k) (h2 : sortedS l = true) : l = sortS k :=
  List.Perm.eq_of_pairwise (fun a b _ _ x y => leS_anti x y) (sorted_pair h2) (sortS_sorted k) (h1.trans (sortS_perm k).symm)
theorem sortS_nodup {l : List Str} (h : l.Nodup) : (sortS l).Nodup := (sortS_perm l).nodup_iff.mpr h
theorem sortS_mem {l : List Str} {x : Str} : x ∈ sortS l ↔ x ∈ l := (sortS_perm l).mem_iff
theorem sortS_len (l : List Str) : (sortS l).length = l.length := (sortS_perm l).length_eq
/-- strictly rising -/
def RisingS (l : List Str) : Prop := l.Pairwise fun a b => leS a b = true ∧ a ≠ b
theorem sortS_rising {l : List Str} (h : l.Nodup) : RisingS (sortS l) := List.Pairwise.and (sortS_sorted l) (sortS_nodup h)
theorem rising_eq {l k : List Str} (h1 : RisingS l) (h2 : RisingS k) (h : ∀ x, x ∈ l ↔ x ∈ k) : l = k := by
  have n1 : l.Nodup := List.Pairwise.imp (fun h => h.2) h1
  have n2 : k.Nodup := List.Pairwise.imp (fun h => h.2) h2
  exact List.Perm.eq_of_pairwise (le := fun a b => leS a b = true) (fun a b _ _ x y => leS_anti x y) (List.Pairwise.imp (fun h => h.1) h1) (List.Pairwise.imp (fun h => h.1) h2) ((List.perm_ext_iff_of_nodup n1 n2).mpr h)

/-! ### dicts from texts to things -/
def asAt {α : Type} (u : List (Str × α)) (c : Str) : Option α := (u.find? fun p => decide (p.1 = c)).map (·.2)
def asPut {α : Type} (u : List (Str × α)) (c : Str) (q : α) : List (Str × α) := if (asAt u c).isSome then u.map (fun p => if p.1 = c then (c, q) else p) else u ++ [(c, q)]
theorem asAt_nil {α : Type} (c : Str) : asAt ([] : List (Str × α)) c = none := rfl
theorem asAt_cons {α : Type} (p : Str × α) (u : List (Str × α)) (c : Str) : asAt (p :: u) c = if p.1 = c then some p.2 else asAt u c := by
  unfold asAt
  rw [List.find?_cons]
  by_cases h : p.1 = c
  · simp [h]
  · simp [h]
theorem asAt_append {α : Type} (u v : List (Str × α)) (c : Str) : asAt (u ++ v) c = (asAt u c).or (asAt v c) := by
  induction u with
  | nil => rfl
  | cons p u ih =>
    rw [List.cons_append, asAt_cons, asAt_cons, ih]
    split <;> rfl
theorem asAt_map {α : Type} (u : List (Str × α)) (c d : Str) (q : α) : asAt (u.map fun p => if p.1 = c then (c, q) else p) d = if d = c then (asAt u c).map (fun _ => q) else asAt u d := by
  induction u with
  | nil => rw [List.map_nil]; split <;> rfl
  | cons p u ih =>
    rw [List.map_cons, asAt_cons, ih, asAt_cons, asAt_cons]
    by_cases h : p.1 = c
    · rw [if_pos h]
      by_cases hd : d = c
      · simp [hd, h]
      · have h1 : ¬ c = d := fun z => hd z.symm
        have h2 : ¬ p.1 = d := fun z => hd (z.symm.trans h)
        simp [hd, h1, h2]
    · rw [if_neg h]
      by_cases hd : d = c
      · subst hd
        simp [h]
      · simp [hd]
theorem asAt_put {α : Type} (u : List (Str × α)) (c d : Str) (q : α) : asAt (asPut u c q) d = if d = c then some q else asAt u d := by
  unfold asPut
  split
  · rename_i h
    rw [asAt_map]
    obtain ⟨z, hz⟩ := Option.isSome_iff_exists.mp h
    rw [hz]
    rfl
  · rename_i h
    have h' : asAt u c = none := by simpa using h
    rw [asAt_append, asAt_cons, asAt_nil]
    by_cases hd : d = c
    · subst hd
      rw [h']
      simp
    · have : ¬ c = d := fun z => hd z.symm
      simp [hd, this]
theorem asAt_some {α : Type} {u : List (Str × α)} {c : Str} : (asAt u c).isSome = true ↔ c ∈ u.map (·.1) := by
  induction u with
  | nil => simp [asAt_nil]
  | cons p u ih =>
    rw [asAt_cons, List.map_cons, List.mem_cons, ← ih]
    by_cases h : p.1 = c
    · simp [h]
    · have : ¬ c = p.1 := fun z => h z.symm
      simp [h, this]
theorem asPut_keys {α : Type} (u : List (Str × α)) (c : Str) (q : α) : (asPut u c q).map (·.1) = if (asAt u c).isSome then u.map (·.1) else u.map (·.1) ++ [c] := by
  unfold asPut
  split
  · rw [List.map_map]
    refine List.map_congr_left fun p _ => ?_
    simp only [Function.comp]
    split
    · rename_i h; exact h.symm
    · rfl
  · simp
theorem asPut_nodup {α : Type} {u : List (Str × α)} {c : Str} {q : α} (h : (u.map (·.1)).Nodup) : ((asPut u c q).map (·.1)).Nodup := by
  rw [asPut_keys]
  split
  · exact h
  · rename_i hn
    rw [List.nodup_append]
    refine ⟨h, by simp, fun a ha b hb => ?_⟩
    rw [List.mem_singleton.mp hb]
    intro e
    subst e
    exact hn (asAt_some.mpr ha)
def KvAt {α : Type} (R : V → α → Prop) (kvs : List (Key × V)) (m : List (Str × α)) : Prop := Paired (fun (kv : Key × V) (p : Str × α) => kv.1 = Sum.inr p.1 ∧ R kv.2 p.2) kvs m
theorem KvAt.imp {α : Type} {R S : V → α → Prop} (f : ∀ v x, R v x → S v x) : ∀ {kvs : List (Key × V)} {m : List (Str × α)}, KvAt R kvs m → KvAt S kvs m
  | [], [], _ => .nil
  | _ :: _, _ :: _, .cons ⟨h1, h2⟩ r => .cons ⟨h1, f _ _ h2⟩ (KvAt.imp f r)
theorem KvAt.len {α : Type} {R : V → α → Prop} {kvs : List (Key × V)} {m : List (Str × α)} (h : KvAt R kvs m) : kvs.length = m.length := Paired.length h
theorem KvAt.keys {α : Type} {R : V → α → Prop} : ∀ {kvs : List (Key × V)} {m : List (Str × α)}, KvAt R kvs m → kvs.map (·.1) = (m.map (·.1)).map Sum.inr
  | [], [], _ => rfl
  | _ :: _, _ :: _, .cons ⟨h1, _⟩ r => by rw [List.map_cons, List.map_cons, List.map_cons, h1, KvAt.keys r]
theorem valV_cons (k : Str) (v : V) (kvs : List (Key × V)) (c : Str) : valV (((Sum.inr k : Key), v) :: kvs) (Sum.inr c : Key) = if k = c then some v else valV kvs (Sum.inr c : Key) := by
  unfold valV
  rw [List.find?_cons]
  by_cases hc : k = c
  · subst hc
    simp
  · rw [if_neg hc]
    have : ¬ (Sum.inr k : Key) = Sum.inr c := fun z => hc (Sum.inr.inj z)
    simp [this]
theorem KvAt.get {α : Type} {R : V → α → Prop} (c : Str) : ∀ {kvs : List (Key × V)} {m : List (Str × α)}, KvAt R kvs m → (∃ v x, valV kvs (Sum.inr c : Key) = some v ∧ asAt m c = some x ∧ R v x) ∨ (valV kvs (Sum.inr c : Key) = none ∧ asAt m c = none)
  | [], [], _ => Or.inr ⟨rfl, rfl⟩
  | (k, v) :: kvs, p :: m, .cons ⟨h1, h2⟩ r => by
    have h1' : k = Sum.inr p.1 := h1
    subst h1'
    rw [asAt_cons, valV_cons]
    by_cases hc : p.1 = c
    · rw [if_pos hc, if_pos hc]
      exact Or.inl ⟨v, p.2, rfl, rfl, h2⟩
    · rw [if_neg hc, if_neg hc]
      exact KvAt.get c r
theorem KvAt.at {α : Type} {R : V → α → Prop} : ∀ {kvs : List (Key × V)} {m : List (Str × α)} {i : Nat} {p : Str × α}, KvAt R kvs m → m[i]? = some p → ∃ v, kvs[i]? = some ((Sum.inr p.1 : Key), v) ∧ R v p.2
  | [], [], _, _, _, h => nomatch h
  | (k, v) :: _, _ :: _, 0, _, .cons ⟨h1, h2⟩ _, h => by cases h; cases h1; exact ⟨v, rfl, h2⟩
  | _ :: _, _ :: _, i + 1, _, .cons _ r, h => KvAt.at (i := i) r h
theorem paired_app {α β : Type} {R : α → β → Prop} : ∀ {l1 : List α} {m1 : List β} {l2 : List α} {m2 : List β}, Paired R l1 m1 → Paired R l2 m2 → Paired R (l1 ++ l2) (m1 ++ m2)
  | _, _, _, _, .nil, h => h
  | _, _, _, _, .cons a r, h => .cons a (paired_app r h)
theorem KvAt.put {α : Type} {R : V → α → Prop} {c : Str} {v : V} {x : α} (hx : R v x) {kvs : List (Key × V)} {m : List (Str × α)} (h : KvAt R kvs m) : KvAt R (putK kvs (Sum.inr c : Key) v) (asPut m c x) := by
  have hm : ∀ {kvs : List (Key × V)} {m : List (Str × α)}, KvAt R kvs m → KvAt R (kvs.map fun p => if p.1 = (Sum.inr c : Key) then (p.1, v) else p) (m.map fun p => if p.1 = c then (c, x) else p) := by
    intro kvs m h
    induction h with
    | nil => exact .nil
    | @cons kv p kvs m h1 r ih =>
      rw [List.map_cons, List.map_cons]
      obtain ⟨h1, h2⟩ := h1
      by_cases hc : p.1 = c
      · rw [if_pos (by rw [h1, hc]), if_pos hc]
        exact .cons ⟨by rw [h1, hc], hx⟩ ih
      · rw [if_neg (by rw [h1]; exact fun z => hc (Sum.inr.inj z)), if_neg hc]
        exact .cons ⟨h1, h2⟩ ih
  have hs : (kvs.any fun p => decide (p.1 = (Sum.inr c : Key))) = (asAt m c).isSome := by
    rw [Bool.eq_iff_iff, asAt_some, List.any_eq_true]
    have hk := h.keys
    constructor
    · rintro ⟨p, hp, e⟩
      have : p.1 ∈ kvs.map (·.1) := List.mem_map_of_mem hp
      rw [hk, of_decide_eq_true e] at this
      obtain ⟨y, hy, e⟩ := List.mem_map.mp this
      rw [← Sum.inr.inj e]
      exact hy
    · intro hc
      have : (Sum.inr c : Key) ∈ kvs.map (·.1) := by rw [hk]; exact List.mem_map_of_mem hc
      obtain ⟨p, hp, e⟩ := List.mem_map.mp this
      exact ⟨p, hp, decide_eq_true e⟩
  unfold asPut putK
  rw [hs]
  cases e : (asAt m c).isSome with
  | true =>
    rw [if_pos rfl, if_pos rfl]
    exact hm h
  | false =>
    rw [if_neg (by decide), if_neg (by decide)]
    exact paired_app h (.cons ⟨rfl, hx⟩ .nil)
theorem putK_len {α : Type} {R : V → α → Prop} {c : Str} {v : V} {x : α} (hx : R v x) {kvs : List (Key × V)} {m : List (Str × α)} (h : KvAt R kvs m) : (putK kvs (Sum.inr c : Key) v).length ≤ kvs.length + 1 := by
  rw [(h.put (c := c) hx).len, ← List.length_map (f := (·.1)), asPut_keys, h.len]
  split <;> simp
theorem valV_mem' {α : Type} {R : V → α → Prop} : ∀ {kvs : List (Key × V)} {m : List (Str × α)} {i : Nat} {c : Str} {v : V}, KvAt R kvs m → (m.map (·.1)).Nodup → kvs[i]? = some ((Sum.inr c : Key), v) → valV kvs (Sum.inr c : Key) = some v
  | [], [], _, _, _, _, _, h => nomatch h
  | (k, u) :: _, p :: _, 0, c, v, .cons ⟨h1, _⟩ _, _, h => by
    cases h
    rw [valV_cons, if_pos rfl]
  | (k, u) :: kvs, p :: m, i + 1, c, v, .cons ⟨h1, _⟩ r, hn, h => by
    rw [List.map_cons, List.nodup_cons] at hn
    have h' : kvs[i]? = some ((Sum.inr c : Key), v) := h
    have h1' : k = Sum.inr p.1 := h1
    subst h1'
    have hc : c ∈ m.map (·.1) := by
      have : (Sum.inr c : Key) ∈ kvs.map (·.1) := List.mem_map.mpr ⟨_, List.mem_of_getElem? h', rfl⟩
      rw [KvAt.keys (R := R) r] at this
      obtain ⟨x, hx, e⟩ := List.mem_map.mp this
      rw [← Sum.inr.inj e]
      exact hx
    rw [valV_cons, if_neg (fun z => hn.1 (by rw [z]; exact hc))]
    exact valV_mem' (i := i) r hn.2 h'

/-! ### sums by coin -/
abbrev Bag := List (Str × Rat)
def bagAt (u : Bag) (c : Str) : Option Rat := (u.find? fun p => decide (p.1 = c)).map (·.2)
def bagVal (u : Bag) (c : Str) : Rat := (bagAt u c).getD 0
def bagPut (u : Bag) (c : Str) (q : Rat) : Bag := if (bagAt u c).isSome then u.map (fun p => if p.1 = c then (c, q) else p) else u ++ [(c, q)]
def bagAdd (u : Bag) (c : Str) (q : Rat) : Bag := bagPut u c (match bagAt u c with | some z => z + q | none => q)
def bagSum (r : Bag) : Bag := r.foldl (fun u p => bagAdd u p.1 p.2) []
def rsum (r : Bag) (c : Str) : Rat := (r.map fun p => if p.1 = c then p.2 else 0).sum
theorem bagAt_nil (c : Str) : bagAt [] c = none := rfl
theorem bagAt_cons (p : Str × Rat) (u : Bag) (c : Str) : bagAt (p :: u) c = if p.1 = c then some p.2 else bagAt u c := by
  unfold bagAt
  rw [List.find?_cons]
  by_cases h : p.1 = c
  · simp [h]
  · simp [h]
theorem bagAt_append (u v : Bag) (c : Str) : bagAt (u ++ v) c = (bagAt u c).or (bagAt v c) := by
  induction u with
  | nil => rfl
  | cons p u ih =>
    rw [List.cons_append, bagAt_cons, bagAt_cons, ih]
    split <;> rfl
theorem bagAt_map (u : Bag) (c d : Str) (q : Rat) : bagAt (u.map fun p => if p.1 = c then (c, q) else p) d = if d = c then (bagAt u c).map (fun _ => q) else bagAt u d := by
  induction u with
  | nil => rw [List.map_nil]; split <;> rfl
  | cons p u ih =>
    rw [List.map_cons, bagAt_cons, ih, bagAt_cons, bagAt_cons]
    by_cases h : p.1 = c
    · rw [if_pos h]
      by_cases hd : d = c
      · simp [hd, h]
      · have h1 : ¬ c = d := fun z => hd z.symm
        have h2 : ¬ p.1 = d := fun z => hd (z.symm.trans h)
        simp [hd, h1, h2]
    · rw [if_neg h]
      by_cases hd : d = c
      · subst hd
        simp [h]
      · simp [hd]
theorem bagAt_put (u : Bag) (c d : Str) (q : Rat) : bagAt (bagPut u c q) d = if d = c then some q else bagAt u d := by
  unfold bagPut
  split
  · rename_i h
    rw [bagAt_map]
    obtain ⟨z, hz⟩ := Option.isSome_iff_exists.mp h
    rw [hz]
    rfl
  · rename_i h
    have h' : bagAt u c = none := by simpa using h
    rw [bagAt_append, bagAt_cons, bagAt_nil]
    by_cases hd : d = c
    · subst hd
      rw [h']
      simp
    · have : ¬ c = d := fun z => hd z.symm
      simp [hd, this]
theorem bagAt_some {u : Bag} {c : Str} : (bagAt u c).isSome = true ↔ c ∈ u.map (·.1) := by
  induction u with
  | nil => simp [bagAt_nil]
  | cons p u ih =>
    rw [bagAt_cons, List.map_cons, List.mem_cons, ← ih]
    by_cases h : p.1 = c
    · simp [h]
    · have : ¬ c = p.1 := fun z => h z.symm
      simp [h, this]
theorem put_keys (u : Bag) (c : Str) (q : Rat) : (bagPut u c q).map (·.1) = if (bagAt u c).isSome then u.map (·.1) else u.map (·.1) ++ [c] := by
  unfold bagPut
  split
  · rw [List.map_map]
    refine List.map_congr_left fun p _ => ?_
    simp only [Function.comp]
    split
    · rename_i h; exact h.symm
    · rfl
  · simp
theorem put_nodup {u : Bag} {c : Str} {q : Rat} (h : (u.map (·.1)).Nodup) : ((bagPut u c q).map (·.1)).Nodup := by
  rw [put_keys]
  split
  · exact h
  · rename_i hn
    rw [List.nodup_append]
    refine ⟨h, by simp, fun a ha b hb => ?_⟩
    rw [List.mem_singleton.mp hb]
    intro e
    subst e
    exact hn (bagAt_some.mpr ha)
theorem bagVal_add (u : Bag) (c d : Str) (q : Rat) : bagVal (bagAdd u c q) d = bagVal u d + if c = d then q else 0 := by
  unfold bagVal bagAdd
  rw [bagAt_put]
  by_cases h : d = c
  · subst h
    rw [if_pos rfl, if_pos rfl]
    cases bagAt u d with
    | none => show q = 0 + q; grind
    | some z => rfl
  · have : ¬ c = d := fun z => h z.symm
    rw [if_neg h, if_neg this]
    grind
theorem fold_val (r : Bag) (d : Str) : ∀ u : Bag, bagVal (r.foldl (fun u p => bagAdd u p.1 p.2) u) d = bagVal u d + rsum r d := by
  induction r with
  | nil => intro u; show bagVal u d = bagVal u d + 0; grind
  | cons p r ih =>
    intro u
    rw [List.foldl_cons, ih, bagVal_add]
    show _ = bagVal u d + ((if p.1 = d then p.2 else 0) + rsum r d)
    grind
theorem sum_val (r : Bag) (d : Str) : bagVal (bagSum r) d = rsum r d := by
  unfold bagSum
  rw [fold_val]
  show 0 + _ = _
  grind
theorem fold_nodup (r : Bag) : ∀ u : Bag, (u.map (·.1)).Nodup → ((r.foldl (fun u p => bagAdd u p.1 p.2) u).map (·.1)).Nodup := by
  induction r with
  | nil => intro u h; exact h
  | cons p r ih => intro u h; exact ih _ (put_nodup h)
theorem sum_nodup (r : Bag) : ((bagSum r).map (·.1)).Nodup := fold_nodup r [] List.nodup_nil
theorem add_len (u : Bag) (c : Str) (q : Rat) : (bagAdd u c q).length ≤ u.length + 1 := by
  have : ((bagPut u c (match bagAt u c with | some z => z + q | none => q)).map (·.1)).length ≤ u.length + 1 := by
    rw [put_keys]
    split <;> simp
  rw [List.length_map] at this
  exact this
theorem sum_len (r : Bag) : (bagSum r).length ≤ r.length := by
  have : ∀ (r u : Bag), (r.foldl (fun u p => bagAdd u p.1 p.2) u).length ≤ u.length + r.length := by
    intro r
    induction r with
    | nil => intro u; exact Nat.le_refl _
    | cons p r ih =>
      intro u
      have h1 := ih (bagAdd u p.1 p.2)
      have h2 := add_len u p.1 p.2
      rw [List.foldl_cons, List.length_cons]
      omega
  have := this r []
  rw [List.length_nil, Nat.zero_add] at this
  exact this
theorem bagSum_snoc (r : Bag) (p : Str × Rat) : bagSum (r ++ [p]) = bagAdd (bagSum r) p.1 p.2 := by
  unfold bagSum
  rw [List.foldl_append]
  rfl
/-- a purse's inside: coins rising, no noughts -/
structure Canon (m : Bag) : Prop where
  rise : RisingS (m.map (·.1))
  nz : ∀ p ∈ m, p.2 ≠ 0
def mkPurse (r : Bag) : Bag := ((sortS ((bagSum r).map (·.1))).map fun c => (c, bagVal (bagSum r) c)).filter fun p => decide (p.2 ≠ 0)
theorem bagVal_mem {u : Bag} {p : Str × Rat} (h : (u.map (·.1)).Nodup) (hp : p ∈ u) : bagVal u p.1 = p.2 := by
  unfold bagVal
  have : bagAt u p.1 = some p.2 := by
    induction u with
    | nil => cases hp
    | cons q u ih =>
      rw [bagAt_cons]
      rw [List.map_cons, List.nodup_cons] at h
      rcases List.mem_cons.mp hp with rfl | hp
      · rw [if_pos rfl]
      · rw [if_neg (fun z => h.1 (by rw [z]; exact List.mem_map_of_mem hp))]
        exact ih h.2 hp
  rw [this]
  rfl
theorem bagVal_out {u : Bag} {c : Str} (h : c ∉ u.map (·.1)) : bagVal u c = 0 := by
  unfold bagVal
  have : bagAt u c = none := by
    cases e : bagAt u c with
    | none => rfl
    | some z => exact absurd (bagAt_some.mp (by rw [e]; rfl)) h
  rw [this]
  rfl
theorem canon_mk (r : Bag) : Canon (mkPurse r) := by
  refine ⟨?_, fun p hp => ?_⟩
  · unfold mkPurse RisingS
    have h : ((sortS ((bagSum r).map (·.1))).map fun c => (c, bagVal (bagSum r) c)).Pairwise fun a b => leS a.1 b.1 = true ∧ a.1 ≠ b.1 := List.pairwise_map.mpr (sortS_rising (sum_nodup r))
    exact List.pairwise_map.mpr (h.filter _)
  · unfold mkPurse at hp
    exact of_decide_eq_true (List.mem_filter.mp hp).2
theorem Canon.nodup {m : Bag} (h : Canon m) : (m.map (·.1)).Nodup := List.Pairwise.imp (fun h => h.2) h.rise
theorem val_mk (r : Bag) (c : Str) : bagVal (mkPurse r) c = rsum r c := by
  rw [← sum_val]
  by_cases hm : c ∈ (mkPurse r).map (·.1)
  · obtain ⟨p, hp, rfl⟩ := List.mem_map.mp hm
    rw [bagVal_mem (canon_mk r).nodup hp]
    unfold mkPurse at hp
    obtain ⟨d, _, rfl⟩ := List.mem_map.mp (List.mem_filter.mp hp).1
    rfl
  · rw [bagVal_out hm]
    by_cases hz : bagVal (bagSum r) c = 0
    · exact hz.symm
    · exfalso
      have hk : c ∈ (bagSum r).map (·.1) := Classical.byContradiction fun z => hz (bagVal_out z)
      refine hm (List.mem_map.mpr ⟨(c, bagVal (bagSum r) c), ?_, rfl⟩)
      unfold mkPurse
      exact List.mem_filter.mpr ⟨List.mem_map.mpr ⟨c, sortS_mem.mpr hk, rfl⟩, decide_eq_true hz⟩
theorem canon_mem {m : Bag} (h : Canon m) {c : Str} : c ∈ m.map (·.1) ↔ bagVal m c ≠ 0 := by
  constructor
  · intro hc
    obtain ⟨p, hp, rfl⟩ := List.mem_map.mp hc
    rw [bagVal_mem h.nodup hp]
    exact h.nz p hp
  · intro hz
    exact Classical.byContradiction fun z => hz (bagVal_out z)
theorem canon_eq {m n : Bag} (h1 : Canon m) (h2 : Canon n) (h : ∀ c, bagVal m c = bagVal n c) : m = n := by
  have hk : m.map (·.1) = n.map (·.1) := rising_eq h1.rise h2.rise fun c => by rw [canon_mem h1, canon_mem h2, h c]
  have e : ∀ {u : Bag}, Canon u → u = (u.map (·.1)).map fun c => (c, bagVal u c) := fun {u} hu => by
    rw [List.map_map]
    conv => lhs; rw [← List.map_id u]
    refine List.map_congr_left fun p hp => ?_
    show p = (p.1, bagVal u p.1)
    rw [bagVal_mem hu.nodup hp]
  rw [e h1, e h2, ← hk]
  exact List.map_congr_left fun c _ => by rw [h c]
theorem mkPurse_eq {r : Bag} {m : Bag} (h : Canon m) (hv : ∀ c, rsum r c = bagVal m c) : mkPurse r = m := canon_eq (canon_mk r) h fun c => by rw [val_mk, hv]
theorem rsum_append (r s : Bag) (c : Str) : rsum (r ++ s) c = rsum r c + rsum s c := by
  unfold rsum
  rw [List.map_append, List.sum_append]
theorem rsum_nil (c : Str) : rsum [] c = 0 := rfl
theorem rsum_cons (p : Str × Rat) (r : Bag) (c : Str) : rsum (p :: r) c = (if p.1 = c then p.2 else 0) + rsum r c := rfl
theorem rsum_val {m : Bag} (h : (m.map (·.1)).Nodup) (c : Str) : rsum m c = bagVal m c := by
  induction m with
  | nil => rfl
  | cons p m ih =>
    rw [List.map_cons, List.nodup_cons] at h
    rw [rsum_cons, ih h.2]
    unfold bagVal
    rw [bagAt_cons]
    by_cases e : p.1 = c
    · rw [if_pos e, if_pos e]
      have : bagVal m c = 0 := bagVal_out (by rw [← e]; exact h.1)
      unfold bagVal at this
      rw [this]
      show p.2 + 0 = p.2
      grind
    · rw [if_neg e, if_neg e]
      grind
theorem canon_nil : Canon [] := ⟨List.Pairwise.nil, fun _ h => nomatch h⟩
/-- sums that stay within bounds -/
structure BagOk (r : Bag) : Prop where
  one : ∀ p ∈ r, Bd 4400 p.2
  sum : ∀ i c, Bd 4400 (rsum (r.take i) c)
theorem bd_sum {n : Nat} (hn : 1 ≤ n) : ∀ (r : Bag) (c : Str), (∀ p ∈ r, Bd n p.2) → Bd (r.length * (n + 1) + 1) (rsum r c)
  | [], c, _ => by rw [rsum_nil]; exact bd_zero (by omega)
  | p :: r, c, h => by
    have ih := bd_sum hn r c fun q hq => h q (List.mem_cons_of_mem _ hq)
    rw [rsum_cons]
    have h1 : Bd n (if p.1 = c then p.2 else 0) := by
      split
      · exact h p List.mem_cons_self
      · exact bd_zero hn
    refine (h1.add ih).mono ?_
    rw [List.length_cons, Nat.succ_mul]
    omega
theorem bagOk_of {n k : Nat} {r : Bag} (hn : 1 ≤ n) (h : ∀ p ∈ r, Bd n p.2) (hl : r.length ≤ k) (hk : k * (n + 1) + 1 ≤ 4400) (hn2 : n ≤ 4400) : BagOk r := by
  refine ⟨fun p hp => (h p hp).mono hn2, fun i c => (bd_sum hn (r.take i) c fun p hp => h p (List.mem_of_mem_take hp)).mono ?_⟩
  have : (r.take i).length ≤ k := by rw [List.length_take]; omega
  have := Nat.mul_le_mul_right (n + 1) this
  omega

/-! ### Purse -/
structure PurseC (K : PySem.W.Frag) (C : Addr) : Prop where
  ow : Own K C
  n1 : NoAttr K C "inside"
def purseFs (d : Addr) : List (Str × V) := [("inside", .ref d)]
/-- coins and their parts in a dict -/
def PartsAt (C : Addr) (H : Hp) (kvs : List (Key × V)) (m : Bag) : Prop := Paired (fun (kv : Key × V) (p : Str × Rat) => kv.1 = Sum.inr p.1 ∧ ∃ a, kv.2 = .ref a ∧ PartAt C H a p.2) kvs m
def PurseAt (C CP : Addr) (H : Hp) (a : Addr) (m : Bag) : Prop := ∃ dx d kvs, H a = some (.ins CP dx (purseFs d)) ∧ H d = some (.dK kvs) ∧ PartsAt C H kvs m
theorem PartsAt.mono {C : Addr} {H H' : Hp} (s : Same H H') : ∀ {kvs : List (Key × V)} {m : Bag}, PartsAt C H kvs m → PartsAt C H' kvs m
  | [], [], _ => .nil
  | _ :: _, _ :: _, .cons ⟨h1, a, h2, h3⟩ r => .cons ⟨h1, a, h2, h3.mono s⟩ (PartsAt.mono s r)
theorem PurseAt.mono {C CP a : Addr} {H H' : Hp} {m : Bag} (s : Same H H') (h : PurseAt C CP H a m) : PurseAt C CP H' a m := by
  obtain ⟨dx, d, kvs, h1, h2, h3⟩ := h
  exact ⟨dx, d, kvs, s _ _ h1, s _ _ h2, h3.mono s⟩
theorem PartAt.put {C a d : Addr} {H : Hp} {q : Rat} {o o' : HO} (h : PartAt C H a q) (hd : H d = some o) (hn : ∀ dx q, o ≠ .ins C dx (partFs q)) : PartAt C (upd H d o') a q := by
  obtain ⟨dx, h⟩ := h
  refine ⟨dx, ?_⟩
  rw [upd_ne (fun z => by rw [z, hd] at h; exact hn _ _ (Option.some.inj h))]
  exact h
theorem PartsAt.put {C d : Addr} {H : Hp} {o o' : HO} (hd : H d = some o) (hn : ∀ dx q, o ≠ .ins C dx (partFs q)) : ∀ {kvs : List (Key × V)} {m : Bag}, PartsAt C H kvs m → PartsAt C (upd H d o') kvs m
  | [], [], _ => .nil
  | _ :: _, _ :: _, .cons ⟨h1, a, h2, h3⟩ r => .cons ⟨h1, a, h2, h3.put hd hn⟩ (PartsAt.put hd hn r)
theorem PartsAt.len {C : Addr} {H : Hp} {kvs : List (Key × V)} {m : Bag} (h : PartsAt C H kvs m) : kvs.length = m.length := Paired.length h
theorem PartsAt.keys {C : Addr} {H : Hp} : ∀ {kvs : List (Key × V)} {m : Bag}, PartsAt C H kvs m → kvs.map (·.1) = (m.map (·.1)).map Sum.inr
  | [], [], _ => rfl
  | _ :: _, _ :: _, .cons ⟨h1, _⟩ r => by rw [List.map_cons, List.map_cons, List.map_cons, h1, PartsAt.keys r]
theorem PartsAt.get {C : Addr} {H : Hp} (c : Str) : ∀ {kvs : List (Key × V)} {m : Bag}, PartsAt C H kvs m → (∃ a q, valV kvs (Sum.inr c : Key) = some (.ref a) ∧ bagAt m c = some q ∧ PartAt C H a q) ∨ (valV kvs (Sum.inr c : Key) = none ∧ bagAt m c = none)
  | [], [], _ => Or.inr ⟨rfl, rfl⟩
  | (k, v) :: kvs, p :: m, .cons ⟨h1, a, h2, h3⟩ r => by
    rw [bagAt_cons]
    have e : valV ((k, v) :: kvs) (Sum.inr c : Key) = if p.1 = c then some v else valV kvs (Sum.inr c : Key) := by
      unfold valV
      rw [List.find?_cons]
      have h1' : k = Sum.inr p.1 := h1
      subst h1'
      by_cases hc : p.1 = c
      · subst hc
        simp
      · rw [if_neg hc]
        have : ¬ (Sum.inr p.1 : Key) = Sum.inr c := fun z => hc (Sum.inr.inj z)
        simp [this]
    rw [e]
    by_cases hc : p.1 = c
    · rw [if_pos hc, if_pos hc]
      exact Or.inl ⟨a, p.2, by rw [show v = .ref a from h2], rfl, h3⟩
    · rw [if_neg hc, if_neg hc]
      exact PartsAt.get c r
theorem parts_put {C : Addr} {H : Hp} {c : Str} {a : Addr} {q : Rat} (ha : PartAt C H a q) {kvs : List (Key × V)} {m : Bag} (h : PartsAt C H kvs m) : PartsAt C H (putK kvs (Sum.inr c : Key) (.ref a)) (bagPut m c q) := by
  have hm : ∀ {kvs : List (Key × V)} {m : Bag}, PartsAt C H kvs m → PartsAt C H (kvs.map fun p => if p.1 = (Sum.inr c : Key) then ((Sum.inr c : Key), V.ref a) else p) (m.map fun p => if p.1 = c then (c, q) else p) := by
    intro kvs m h
    induction h with
    | nil => exact .nil
    | @cons kv p kvs m h1 r ih =>
      rw [List.map_cons, List.map_cons]
      obtain ⟨h1, b, h2, h3⟩ := h1
      by_cases hc : p.1 = c
      · rw [if_pos (by rw [h1, hc]), if_pos hc]
        exact .cons ⟨rfl, a, rfl, ha⟩ ih
      · rw [if_neg (by rw [h1]; exact fun z => hc (Sum.inr.inj z)), if_neg hc]
        exact .cons ⟨h1, b, h2, h3⟩ ih
  have hs : (kvs.any fun p => decide (p.1 = (Sum.inr c : Key))) = (bagAt m c).isSome := by
    rw [Bool.eq_iff_iff, bagAt_some, List.any_eq_true]
    have hk := h.keys
    constructor
    · rintro ⟨p, hp, e⟩
      have : p.1 ∈ kvs.map (·.1) := List.mem_map_of_mem hp
      rw [hk, of_decide_eq_true e] at this
      obtain ⟨x, hx, e⟩ := List.mem_map.mp this
      rw [← Sum.inr.inj e]
      exact hx
    · intro hc
      have : (Sum.inr c : Key) ∈ kvs.map (·.1) := by rw [hk]; exact List.mem_map_of_mem hc
      obtain ⟨p, hp, e⟩ := List.mem_map.mp this
      exact ⟨p, hp, decide_eq_true e⟩
  unfold bagPut
  cases e : (bagAt m c).isSome with
  | true =>
    rw [if_pos rfl]
    have : putK kvs (Sum.inr c : Key) (.ref a) = kvs.map fun p => if p.1 = (Sum.inr c : Key) then ((Sum.inr c : Key), V.ref a) else p := by
      unfold putK
      rw [e] at hs
      rw [if_pos hs]
      refine List.map_congr_left fun p _ => ?_
      by_cases z : p.1 = (Sum.inr c : Key)
      · simp [z]
      · simp [z]
    rw [this]
    exact hm h
  | false =>
    rw [if_neg (by decide)]
    have : putK kvs (Sum.inr c : Key) (.ref a) = kvs ++ [((Sum.inr c : Key), V.ref a)] := by
      unfold putK
      rw [e] at hs
      rw [if_neg (by rw [hs]; decide)]
    rw [this]
    exact paired_app h (.cons ⟨rfl, a, rfl, ha⟩ .nil)
/-- rows of (coin, part) -/
def RowsAt (K : PySem.W.Frag) (C : Addr) (H : Hp) (xs : List V) (r : Bag) : Prop := Paired (fun (x : V) (p : Str × Rat) => ∃ t a, x = .ref t ∧ SqT K H t [.str p.1, .ref a] ∧ PartAt C H a p.2) xs r
theorem RowsAt.mono {C : Addr} {H H' : Hp} (s : Same H H') : ∀ {xs : List V} {r : Bag}, RowsAt K C H xs r → RowsAt K C H' xs r
  | [], [], _ => .nil
  | _ :: _, _ :: _, .cons ⟨t, a, h1, h2, h3⟩ r => .cons ⟨t, a, h1, s.seqT h2, h3.mono s⟩ (RowsAt.mono s r)
theorem RowsAt.get {C : Addr} {H : Hp} : ∀ {xs : List V} {r : Bag} {i : Nat} {x : V}, RowsAt K C H xs r → xs[i]? = some x → ∃ p t a, r[i]? = some p ∧ x = .ref t ∧ SqT K H t [.str p.1, .ref a] ∧ PartAt C H a p.2
  | [], [], _, _, _, h => nomatch h
  | _ :: _, p :: _, 0, _, .cons ⟨t, a, h1, h2, h3⟩ r, h => by cases h; exact ⟨p, t, a, rfl, h1, h2, h3⟩
  | _ :: _, _ :: _, i + 1, _, .cons _ r, h => RowsAt.get (i := i) r h
theorem RowsAt.len {C : Addr} {H : Hp} {xs : List V} {r : Bag} (h : RowsAt K C H xs r) : xs.length = r.length := Paired.length h
def spPurseInit (K : PySem.W.Frag) (C CP : Addr) : Sp := fun vs H Q _ => ∃ (x dx l : Addr) (H0 : Hp) (xs : List V) (r : Bag), vs = [.ref x, .ref l] ∧ Same H0 H ∧ H0 x = none ∧ H x = some (.ins CP dx []) ∧ (SqL K H0 l xs ∨ SqT K H0 l xs) ∧ RowsAt K C H0 xs r ∧ r.length ≤ 50000 ∧ (bagSum r).length < 64 ∧ BagOk r ∧
  ∀ H', Same H0 H' → PurseAt C CP H' x (mkPurse r) → Q .non H'
theorem putIn (v : V) : putF "inside" v [] = [(("inside" : Str), v)] := rfl

abbrev s_Purse_init : Stmt := inClass (topS 6) 0
abbrev N_Purse_init : List Str := ["self", "rows", "found", "coin", "part"]
abbrev P_Purse_init : List Str := ["self", "rows"]
theorem sc_Purse_init : FnScope N_Purse_init P_Purse_init (defScope s_Purse_init) := ⟨rfl, rfl, rfl, by decide +kernel, rfl, by decide +kernel, by decide +kernel⟩
theorem mkr_Purse {C CP : Addr} {dvs : List V} (F : IdfD K mg "Purse" CP "Purse.__init__" s_Purse_init P_Purse_init dvs) (T : PartC K C) (TP : PurseC K CP) (B : Blt mg) (t_Part_plus : Mtd P w K mg base 4 C "plus" [] (spPartOp C fun p q => p + q)) : Mkr P w K mg base 5 "Purse" CP dvs (spPurseInit K C CP) := by
  refine F.mkr sc_Purse_init (fun vs H Q E h => ?_) (fun f cdv A outer s H vs Q E hr hG h => ?_)
  · obtain ⟨x, dx, l, H0, xs, r, rfl, _⟩ := h
    rfl
  · obtain ⟨x, dx, l, H0, xs, r, rfl, s0, hx0, hx, hl, hrows, hrl, h64, hok, q⟩ := h
    have hu := hu_of hr
    have nd := sc_Purse_init.nd
    have hlen := hrows.len
    refine ⟨_, (pss_cons (ps_set (i := 2) nd rfl (Or.inr rfl) pe_dnewK)
      (Evl.pss_cut (ps_for PW rfl (ui_seq (K := K) (pv 1)) (ug_seq (K := K) (n := 2) rfl (pgs_cons (pg_name (i := 3) nd rfl (Or.inl rfl)) (pgs_cons (pg_name (i := 4) nd rfl (Or.inl rfl)) pgs_nil))) (pss_one (ps_asg (pe_ifExp (pt_cmpR (uq_notin (K := K) hu) (pv 3) (pv 2) (by rfl)) (pv 4) (ue_meth (pe_ix (uq_ix (K := K) hu) (pv 2) (pv 3) (fun _ _ => rfl)) t_Part_plus hr (by decide) hG PB (pa_cons (pv 4) pa_nil))) (pg_sub (pv 2) (pv 3) (uq_set hu)))))
      (pss_one (ps_fld (pv 0) (pe_dc (own := [("coin", 3)]) rfl nd (ui_seq (K := K) (pe_callB (uc_sorted (K := K)) (by rfl) B.b_sorted (by decide +kernel) (pa_cons (pv 2) pa_nil))) (blkOk_by (own := [("coin", 3)]) (N := N_Purse_init) (sc := defScope (s_Purse_init)) (by decide +kernel)) (fun _ _ _ _ _ => (pg_name (i := 3) nd rfl (Or.inl rfl))) (fun _ _ _ _ _ => (pts_one (pt_cmpR (uq_ne (K := K) hr) (ue_fld (K := K) (pe_ix (uq_ix (K := K) hu) (pv 2) (pv 3) (fun _ _ => rfl)) rfl) pe_int (nomark _)))) (fun _ _ _ _ _ => (pv 3)) (fun _ _ _ _ _ => (pe_ix (uq_ix (K := K) hu) (pv 2) (pv 3) (fun _ _ => rfl)))) rfl)))), ?_⟩
    walk_at "go"
    intro d hd
    generalize e1 : upd H d (.dK []) = H1
    obtain ⟨s1, hd1⟩ := newH hd e1
    have hd0 : H0 d = none := s0.free hd
    walk_at "go"
    refine ⟨fun σ' H' => ∃ (kvs : List (Key × V)) (v3 v4 : Option V), Same H H' ∧ H' d = some (.dK kvs) ∧ PartsAt C H' kvs (bagSum r) ∧ σ' = [some (.ref x), some (.ref l), some (.ref d), v3, v4], ?_, ?_⟩
    · obtain ⟨J, G, W, hG', go⟩ := seq_walk hl
      walk_at "go"
      refine go _ (fun J => Loop J _ _ _ _ _) _ (s0.trans s1) ?_
      refine for_it W (fun i σ H' => ∃ (kvs : List (Key × V)) (v3 v4 : Option V), Same H H' ∧ H' d = some (.dK kvs) ∧ PartsAt C H' kvs (bagSum (r.take i)) ∧ σ = [some (.ref x), some (.ref l), some (.ref d), v3, v4]) ⟨[], none, none, s1, hd1, .nil, rfl⟩
        (fun i σ H' _ ⟨_, _, _, s2, _⟩ => hG' H' (s0.trans s2)) ?_ ?_
      · rintro i y σ Hx H2 hi ⟨kvs, v3, v4, s2, hd2, hp, rfl⟩ ⟨rfl, hy⟩
        obtain ⟨p, t, a, h1, rfl, h3, h4⟩ := hrows.get hy
        have h3 := (s0.trans s2).seqT h3
        have h4 := h4.mono (s0.trans s2)
        have hkl : kvs.length ≤ 50000 := by
          have e1 := hp.len
          have e2 := sum_len (r.take i)
          rw [List.length_take] at e2
          omega
        obtain ⟨c, z⟩ := p
        have er : bagSum (r.take (i + 1)) = bagAdd (bagSum (r.take i)) c z := by rw [take_snoc h1, bagSum_snoc]
        refine g_gseqT h3 rfl ?_
        walk_at "go"
        have gk : DGet H2 d (.str c) (valV kvs (Sum.inr c : Key)) := DGet.k (k := Sum.inr c) hd2
        refine i_notinD gk ?_
        have hz : kvs.length < sizeLine := sz_small' (by omega)
        rcases hp.get c with ⟨a', z', e1, e2, h5⟩ | ⟨e1, e2⟩
        · rw [e1] at gk ⊢
          walk_at "go"
          refine i_ixD gk ?_
          obtain ⟨dx', h5'⟩ := id h5
          refine ⟨a', dx', _, rfl, h5', rfl, ?_⟩
          walk_at "go"
          have bz : z' = rsum (r.take i) c := by
            rw [← sum_val]
            unfold bagVal
            rw [e2]
            rfl
          refine ⟨a', a, z', z, rfl, h5, h4, by rw [bz]; exact hok.sum i c, hok.one _ (List.mem_of_getElem? h1), fun b H3 hb s3 h6 => ?_⟩
          walk_at "go"
          refine i_setD (DPut.k (k := Sum.inr c) (s3 _ _ hd2) hz) ?_
          refine ⟨_, _, _, (s2.trans s3).mut hd, upd_same, ?_, rfl⟩
          rw [er]
          unfold bagAdd
          rw [e2]
          exact (parts_put h6 (hp.mono s3)).put (s3 _ _ hd2) (fun _ _ z => nomatch z)
        · rw [e1] at gk ⊢
          walk_at "go"
          refine i_setD (DPut.k (k := Sum.inr c) hd2 hz) ?_
          refine ⟨_, _, _, s2.mut hd, upd_same, ?_, rfl⟩
          rw [er]
          unfold bagAdd
          rw [e2]
          exact (parts_put h4 hp).put hd2 (fun _ _ z => nomatch z)
      · rintro σ H2 ⟨kvs, v3, v4, s2, hd2, hp, rfl⟩
        rw [hlen, List.take_length] at hp
        exact ⟨kvs, v3, v4, s2, hd2, hp, rfl⟩
    · rintro σ' H2 ⟨kvs, v3, v4, s2, hd2, hp, rfl⟩
      walk_at "go"
      refine Or.inr (Or.inr ⟨d, kvs, (bagSum r).map (·.1), rfl, Rd.of hd2, hp.keys, by rw [List.length_map]; exact h64, fun ys p hys hsrt hp0 => ?_⟩)
      have ey := sorted_is hys hsrt
      generalize e3 : upd H2 p (.lst (ys.map V.str)) = H3
      obtain ⟨s3, hp3⟩ := newH hp0 e3
      refine Or.inl ⟨p, rfl, ⟨_, SqL.of hp3⟩, fun D hD => ?_⟩
      have hysl : ys.length < 64 := by rw [hys.length_eq, List.length_map]; exact h64
      have hDd : D ≠ d := fun z => by rw [z, s3 _ _ hd2] at hD; cases hD
      have hpp : PartsAt C H3 kvs (bagSum r) := hp.mono s3
      have kept : ∀ i, (((ys.take (i + 1)).map fun c => (c, bagVal (bagSum r) c)).filter fun p => decide (p.2 ≠ 0)).length ≤ i + 1 := fun i => by
        refine Nat.le_trans (List.length_filter_le _ _) ?_
        rw [List.length_map, List.length_take]
        omega
      refine dc_it (walk_list (K := K) (a := p) (xs := ys.map V.str)) (fun i H' => ∃ kv2, Same H3 H' ∧ H' D = some (.dK kv2) ∧ PartsAt C H' kv2 (((ys.take i).map fun c => (c, bagVal (bagSum r) c)).filter fun p => decide (p.2 ≠ 0)))
        ⟨[], Same.mut (Same.refl H3) hD, upd_same, .nil⟩ (fun i H' _ ⟨_, s4, _⟩ => SqL.of (s4 _ _ hp3)) ?_ ?_
      · rintro i y Hx H4 hi ⟨kv2, s4, hD4, hp4⟩ ⟨rfl, hy⟩
        rw [List.getElem?_map] at hy
        obtain ⟨c, hc, rfl⟩ : ∃ c, ys[i]? = some c ∧ V.str c = y := by
          cases e : ys[i]? with
          | none => rw [e] at hy; cases hy
          | some c => rw [e] at hy; exact ⟨c, rfl, Option.some.inj hy⟩
        have hcm : c ∈ (bagSum r).map (·.1) := hys.mem_iff.mp (List.mem_of_getElem? hc)
        have hd4 := s4 _ _ (s3 _ _ hd2)
        have gk : DGet H4 d (.str c) (valV kvs (Sum.inr c : Key)) := DGet.k (k := Sum.inr c) hd4
        have et : ys.take (i + 1) = ys.take i ++ [c] := take_snoc hc
        rcases (hpp.mono s4).get c with ⟨a', z', e1, e2, h5⟩ | ⟨e1, e2⟩
        · rw [e1] at gk
          have ev : bagVal (bagSum r) c = z' := by unfold bagVal; rw [e2]; rfl
          walk_at "go"
          refine ⟨rfl, ?_⟩
          walk_at "go"
          refine i_ixD gk ?_
          refine x_top T h5 ?_
          walk_at "go"
          have ez : z' = 0 ↔ z'.num = 0 := ⟨fun h => by rw [h]; rfl, fun h => Rat.num_eq_zero.mp h⟩
          by_cases hz : z'.num = 0
          · rw [decide_eq_true hz]
            walk_at "go"
            refine ⟨kv2, s4, hD4, ?_⟩
            rw [et, List.map_append, List.filter_append]
            have : ([c].map fun c => (c, bagVal (bagSum r) c)).filter (fun p => decide (p.2 ≠ 0)) = [] := by
              simp [ev, ez.mpr hz]
            rw [this, List.append_nil]
            exact hp4
          · rw [decide_eq_false hz]
            walk_at "go"
            refine i_ixD gk ?_
            have hk2 := hp4.len
            have hk3 : kv2.length ≤ 64 := by
              rw [hk2]
              refine Nat.le_trans (List.length_filter_le _ _) ?_
              rw [List.length_map, List.length_take]
              omega
            refine ⟨kv2, Sum.inr c, rfl, hD4, sz_small' (by omega), ?_⟩
            refine ⟨_, s4.mut hD, upd_same, ?_⟩
            rw [et, List.map_append, List.filter_append]
            have hz' : ¬ z' = 0 := fun h => hz (ez.mp h)
            have : ([c].map fun c => (c, bagVal (bagSum r) c)).filter (fun p => decide (p.2 ≠ 0)) = [(c, z')] := by
              simp [ev, hz']
            rw [this]
            have hnew : c ∉ ((((ys.take i).map fun c => (c, bagVal (bagSum r) c)).filter fun p => decide (p.2 ≠ 0)).map (·.1)) := by
              intro hmem
              obtain ⟨pp, hpp', rfl⟩ := List.mem_map.mp hmem
              obtain ⟨c', hc', rfl⟩ := List.mem_map.mp (List.mem_filter.mp hpp').1
              have hnd : ys.Nodup := hys.nodup_iff.mpr (sum_nodup r)
              have h1 : ys.take (i + 1) = ys.take i ++ [c'] := et
              have h2 : (ys.take (i + 1)).Nodup := hnd.sublist (List.take_sublist _ _)
              rw [h1, List.nodup_append] at h2
              exact h2.2.2 c' hc' c' (by simp) rfl
            have eput : bagPut (((ys.take i).map fun c => (c, bagVal (bagSum r) c)).filter fun p => decide (p.2 ≠ 0)) c z' = (((ys.take i).map fun c => (c, bagVal (bagSum r) c)).filter fun p => decide (p.2 ≠ 0)) ++ [(c, z')] := by
              unfold bagPut
              rw [if_neg (fun h => hnew (bagAt_some.mp h))]
            rw [← eput]
            exact (parts_put h5 hp4).put hD4 (fun _ _ z => nomatch z)
        · exact absurd (bagAt_some.mpr hcm) (by rw [e2]; decide)
      · rintro H4 ⟨kv2, s4, hD4, hp4⟩
        rw [List.length_map, List.take_length, ey] at hp4
        have sx : Same H H4 := s2.trans (s3.trans s4)
        walk_at "go"
        refine ⟨x, CP, dx, _, rfl, sx _ _ hx, TP.ow.cl, TP.n1, by decide, ?_⟩
        rw [putIn]
        have hDx : D ≠ x := fun z => by rw [z, (s2.trans s3) _ _ hx] at hD; cases hD
        refine q _ ((s0.trans sx).mut hx0) ⟨dx, D, kv2, upd_same, by rw [upd_ne hDx]; exact hD4, ?_⟩
        exact PartsAt.put (C := C) (sx _ _ hx) (fun _ _ z => nomatch z) hp4

/-! ### _law_cell -/
def cellBase (ns : List Int) : Int := ns.foldl (fun b v => (b * 31 + v) % 1000003) 17
def cell (ns : List Int) (k : Int) : Int := if k < (ns.length : Int) then ns.getD k.toNat 0 else (cellBase ns + 1) * (k + 3) * 7919 % 2147483629
def spCell (K : PySem.W.Frag) : Sp := fun vs H Q _ => ∃ (l : Addr) (ns : List Int) (k : Int), vs = [.ref l, .int k] ∧ SqL K H l (ns.map V.int) ∧ 0 ≤ k ∧ k < 1000000 ∧ Q (.int (cell ns k)) H
theorem base_lt : ∀ (ns : List Int) (b : Int), 0 ≤ b ∧ b < 1000003 → 0 ≤ ns.foldl (fun b v => (b * 31 + v) % 1000003) b ∧ ns.foldl (fun b v => (b * 31 + v) % 1000003) b < 1000003
  | [], b, h => h
  | v :: r, b, h => by
    rw [List.foldl_cons]
    exact base_lt r _ ⟨Int.emod_nonneg _ (by decide), Int.emod_lt_of_pos _ (by decide)⟩
abbrev s_law_cell : Stmt := topS 8
abbrev N_law_cell : List Str := ["_law_script", "_law_k", "_law_base", "_law_one"]
abbrev P_law_cell : List Str := ["_law_script", "_law_k"]
theorem sc_law_cell : FnScope N_law_cell P_law_cell (defScope s_law_cell) := ⟨rfl, rfl, rfl, by decide +kernel, rfl, by decide +kernel, by decide +kernel⟩
theorem cal_law_cell (F : Dfn K mg "_law_cell" s_law_cell P_law_cell []) (B : Blt mg) : Cal P w K mg base 1 "_law_cell" [] (spCell K) := by
  refine F.cal .nil sc_law_cell (fun vs H Q E h => ?_) (fun f cdv A outer s H vs Q E hr hG h => ?_)
  · obtain ⟨l, ns, k, rfl, _⟩ := h
    rfl
  · obtain ⟨l, ns, k, rfl, hl, h0, h1, q⟩ := h
    have hu := hu_of hr
    have nd := sc_law_cell.nd
    refine ⟨_, (pss_cons (ps_if (pt_cmpR uq_lt (pv 1) (pe_callB (uc_len (K := K)) (by rfl) B.b_len (by decide +kernel) (pa_cons (pv 0) pa_nil)) (nomark _)) (pss_one (ps_ret (pe_ix (uq_ix (K := K) hu) (pv 0) (pv 1) (fun _ _ => rfl)))) pss_nil)
      (pss_cons (ps_set (i := 2) nd rfl (Or.inl rfl) pe_int)
      (pss_cons (ps_for PW rfl (ui_seq (K := K) (pv 0)) (pg_name (i := 3) nd rfl (Or.inl rfl)) (pss_one (ps_set (i := 2) nd rfl (Or.inl rfl) (pe_op uq_mod (pe_op uq_add (pe_op uq_mul (pv 2) pe_int) (pv 3)) pe_int))))
      (pss_one (ps_ret (pe_op uq_mod (pe_op uq_mul (pe_op uq_mul (pe_op uq_add (pv 2) pe_int) (pe_op uq_add (pv 1) pe_int)) pe_int) pe_int)))))), ?_⟩
    walk_at "go"
    refine i_lenL hl ?_
    walk_at "go"
    rw [List.length_map]
    refine ite2 (fun hk => ?_) (fun hk => ?_)
    · have hk' := of_decide_eq_true hk
      walk_at "go"
      refine i_ixL hl (atI_ints h0 hk') ?_
      unfold cell at q
      rw [if_pos hk'] at q
      exact q
    · have hk' : ¬ k < (ns.length : Int) := fun z => hk (decide_eq_true z)
      walk_at "go"
      refine Or.inl ⟨l, rfl, ⟨_, hl⟩, ?_⟩
      refine for_list (K := K) (a := l) (xs := ns.map V.int) (fun i σ H' => H' = H ∧ ∃ v : Option V, σ = [some (.ref l), some (.int k), some (.int (cellBase (ns.take i))), v]) ⟨rfl, none, rfl⟩ (fun i σ H' _ h => by rw [h.1]; exact hl) ?_ ?_
      · rintro i y σ H' hi ⟨rfl, v, rfl⟩
        obtain ⟨z, hz, rfl⟩ := getMapInt hi
        have hb : 0 ≤ cellBase (ns.take i) ∧ cellBase (ns.take i) < 1000003 := base_lt _ _ ⟨by decide, by decide⟩
        walk_at "go"
        refine ⟨rfl, some (.int z), ?_⟩
        unfold cellBase
        rw [take_snoc hz, List.foldl_append]
        rfl
      · rintro σ H' ⟨rfl, v, rfl⟩
        rw [List.length_map, List.take_length]
        have hb : 0 ≤ cellBase ns ∧ cellBase ns < 1000003 := base_lt _ _ ⟨by decide, by decide⟩
        walk_at "go"
        unfold cell at q
        rw [if_neg hk'] at q
        exact q

/-! ### _law_digits -/
def digA : Int → List Int → List Int
  | _, [] => []
  | r, s :: ss => r % s :: digA (r / s) ss
def digB : Int → Int → List Int → List Int
  | _, _, [] => []
  | one, j, s :: ss => (((one * 48271 + 10007 * (j + 1)) % 2147483629 * ((one * 48271 + 10007 * (j + 1)) % 2147483629) + 69621 * ((one * 48271 + 10007 * (j + 1)) % 2147483629) + j) % 2147483563) / 11 % s :: digB ((one * 48271 + 10007 * (j + 1)) % 2147483629) (j + 1) ss
def digs (ns : List Int) (k : Int) (ss : List Int) : List Int := if (10 : Int) ^ 18 ≤ cell ns k then digA (cell ns k - 10 ^ 18) ss else digB (cell ns k % 2147483647) 0 ss
/-- as many digits as sizes, each below its size -/
inductive Within : List Int → List Int → Prop
  | nil : Within [] []
  | cons {d s : Int} {ds ss : List Int} : 0 ≤ d → d < s → Within ds ss → Within (d :: ds) (s :: ss)
theorem digA_in : ∀ (ss : List Int) (r : Int), (∀ s ∈ ss, 0 < s) → Within (digA r ss) ss
  | [], _, _ => .nil
  | s :: ss, r, h => .cons (Int.emod_nonneg _ (by have := h s List.mem_cons_self; omega)) (Int.emod_lt_of_pos _ (h s List.mem_cons_self)) (digA_in ss _ fun x hx => h x (List.mem_cons_of_mem _ hx))
theorem digB_in : ∀ (ss : List Int) (r j : Int), (∀ s ∈ ss, 0 < s) → Within (digB r j ss) ss
  | [], _, _, _ => .nil
  | s :: ss, r, j, h => .cons (Int.emod_nonneg _ (by have := h s List.mem_cons_self; omega)) (Int.emod_lt_of_pos _ (h s List.mem_cons_self)) (digB_in ss _ _ fun x hx => h x (List.mem_cons_of_mem _ hx))
theorem digs_in (ns : List Int) (k : Int) (ss : List Int) (h : ∀ s ∈ ss, 0 < s) : Within (digs ns k ss) ss := by
  unfold digs
  split
  · exact digA_in _ _ h
  · exact digB_in _ _ _ h
theorem Within.len {ds ss : List Int} (h : Within ds ss) : ds.length = ss.length := by
  induction h with
  | nil => rfl
  | cons _ _ _ ih => simp [ih]
theorem Within.one {ds : List Int} {a : Int} (h : Within ds [a]) : ∃ x, ds = [x] ∧ 0 ≤ x ∧ x < a := by
  cases h with
  | cons h1 h2 h3 => cases h3; exact ⟨_, rfl, h1, h2⟩
theorem Within.next {ds ss : List Int} {a : Int} (h : Within ds (a :: ss)) : ∃ x r, ds = x :: r ∧ 0 ≤ x ∧ x < a ∧ Within r ss := by
  cases h with
  | cons h1 h2 h3 => exact ⟨_, _, rfl, h1, h2, h3⟩
def spDigits (K : PySem.W.Frag) : Sp := fun vs H Q _ => ∃ (l z : Addr) (ns : List Int) (k : Int) (ss : List Int), vs = [.ref l, .int k, .ref z] ∧ SqL K H l (ns.map V.int) ∧ SqL K H z (ss.map V.int) ∧ 0 ≤ k ∧ k < 1000000 ∧ ss.length ≤ 1000 ∧
  (∀ s ∈ ss, 0 < s ∧ s < 1073741824) ∧ ∀ p H', H p = none → Same H H' → H' p = some (.lst ((digs ns k ss).map V.int)) → Q (.ref p) H'
theorem pow18 : ((10 : Int) ^ (18 : Int).toNat) = (10 : Int) ^ 18 := rfl
abbrev s_law_digits : Stmt := topS 9
abbrev N_law_digits : List Str := ["_law_script", "_law_k", "_law_sizes", "_law_cell_here", "_law_out", "_law_rest", "_law_size", "_law_one", "_law_j", "_law_two"]
abbrev P_law_digits : List Str := ["_law_script", "_law_k", "_law_sizes"]
theorem sc_law_digits : FnScope N_law_digits P_law_digits (defScope s_law_digits) := ⟨rfl, rfl, rfl, by decide +kernel, rfl, by decide +kernel, by decide +kernel⟩
theorem cal_law_digits (F : Dfn K mg "_law_digits" s_law_digits P_law_digits []) (B : Blt mg) (c__law_cell : Cal P w K mg base 1 "_law_cell" [] (spCell K)) : Cal P w K mg base 2 "_law_digits" [] (spDigits K) := by
  refine F.cal .nil sc_law_digits (fun vs H Q E h => ?_) (fun f cdv A outer s H vs Q E hr hG h => ?_)
  · obtain ⟨l, z, ns, k, ss, rfl, _⟩ := h
    rfl
  · obtain ⟨l, z, ns, k, ss, rfl, hl, hz, h0, h1, hlen, hss, q⟩ := h
    have hu := hu_of hr
    have nd := sc_law_digits.nd
    refine ⟨_, (pss_cons (ps_set (i := 3) nd rfl (Or.inl rfl) (ue_call c__law_cell hr (by decide) hG (by rfl) PB (pa_cons (pv 0) (pa_cons (pv 1) pa_nil))))
      (pss_cons (ps_set (i := 4) nd rfl (Or.inl rfl) (pe_lst pa_nil))
      (pss_cons (ps_if (pt_cmpR uq_ge (pv 3) (pe_op uq_pow pe_int pe_int) (nomark _)) (pss_cons (ps_set (i := 5) nd rfl (Or.inl rfl) (pe_op uq_sub (pv 3) (pe_op uq_pow pe_int pe_int)))
      (pss_cons (ps_for PW rfl (ui_seq (K := K) (pv 2)) (pg_name (i := 6) nd rfl (Or.inl rfl)) (pss_cons (ps_expr (ue_bm (K := K) PySem.F.plainAttrs_list PySem.F.slot_list_append PySem.F.type_list_append mt_append (pv 4) (pa_cons (pe_op uq_mod (pv 5) (pv 6)) pa_nil)))
      (pss_one (ps_set (i := 5) nd rfl (Or.inl rfl) (pe_op uq_fdiv (pv 5) (pv 6))))))
      (pss_one (ps_ret (pv 4))))) pss_nil)
      (pss_cons (ps_set (i := 7) nd rfl (Or.inl rfl) (pe_op uq_mod (pv 3) pe_int))
      (pss_cons (ps_for PW rfl (pi_range1 (by rfl) B.b_range (pa_cons (pe_callB (uc_len (K := K)) (by rfl) B.b_len (by decide +kernel) (pa_cons (pv 2) pa_nil)) pa_nil)) (pg_name (i := 8) nd rfl (Or.inl rfl)) (pss_cons (ps_set (i := 7) nd rfl (Or.inl rfl) (pe_op uq_mod (pe_op uq_add (pe_op uq_mul (pv 7) pe_int) (pe_op uq_mul pe_int (pe_op uq_add (pv 8) pe_int))) pe_int))
      (pss_cons (ps_set (i := 9) nd rfl (Or.inl rfl) (pe_op uq_mod (pe_op uq_add (pe_op uq_add (pe_op uq_mul (pv 7) (pv 7)) (pe_op uq_mul pe_int (pv 7))) (pv 8)) pe_int))
      (pss_one (ps_expr (ue_bm (K := K) PySem.F.plainAttrs_list PySem.F.slot_list_append PySem.F.type_list_append mt_append (pv 4) (pa_cons (pe_op uq_mod (pe_op uq_fdiv (pv 9) pe_int) (pe_ix (uq_ix (K := K) hu) (pv 2) (pv 8) (fun _ _ => rfl))) pa_nil)))))))
      (pss_one (ps_ret (pv 4)))))))), ?_⟩
    walk_at "go"
    refine ⟨l, ns, k, rfl, hl, h0, h1, ?_⟩
    walk_at "go"
    refine ⟨by decide, fun p hp => ?_⟩
    have sm : Same H (upd H p (.lst [])) := Same.mut (Same.refl H) hp
    walk_at "go"
    refine ite2 (fun hk => ?_) (fun hk => ?_)
    · have hk' : (10 : Int) ^ 18 ≤ cell ns k := of_decide_eq_true hk
      have ed : digs ns k ss = digA (cell ns k - 10 ^ 18) ss := by unfold digs; rw [if_pos hk']
      rw [ed] at q
      walk_at "go"
      refine Or.inl ⟨z, rfl, ⟨_, sm.seq hz⟩, ?_⟩
      refine for_list (K := K) (a := z) (xs := ss.map V.int) (fun i σ H' => ∃ (acc : List Int) (r : Int) (v : Option V), Same H H' ∧ H' p = some (.lst (acc.map V.int)) ∧ acc.length = i ∧
          acc ++ digA r (ss.drop i) = digA (cell ns k - 10 ^ 18) ss ∧ σ = [some (.ref l), some (.int k), some (.ref z), some (.int (cell ns k)), some (.ref p), some (.int r), v, none, none, none])
        ⟨[], _, none, sm, upd_same, rfl, rfl, rfl⟩ (fun i σ H' _ ⟨_, _, _, s2, _⟩ => s2.seq hz) ?_ ?_
      · rintro i y σ H' hi ⟨acc, r, v, s2, hp2, ha, he, rfl⟩
        obtain ⟨x, hx, rfl⟩ := getMapInt hi
        have hx2 := hss x (List.mem_of_getElem? hx)
        have hil : i < ss.length := (List.getElem?_eq_some_iff.mp hx).1
        walk_at "go"
        refine ⟨Or.inl ⟨rfl, _, SqL.of hp2⟩, ?_⟩
        walk_at "go"
        refine i_append hp2 (by rw [List.length_map]; exact sz_small' (by omega)) ?_
        walk_at "go"
        refine ⟨acc ++ [r % x], r / x, some (.int x), s2.mut hp, by rw [upd_same, List.map_append]; rfl, by simp [ha], ?_, rfl⟩
        rw [drop_cons hx] at he
        rw [← he, List.append_assoc]
        rfl
      · rintro σ H' ⟨acc, r, v, s2, hp2, ha, he, rfl⟩
        walk_at "go"
        rw [List.length_map, List.drop_length] at he
        have he' : acc = digA (cell ns k - 10 ^ 18) ss := by rw [← he]; exact (List.append_nil _).symm
        exact q p H' hp s2 (by rw [← he']; exact hp2)
    · have hk' : ¬ (10 : Int) ^ 18 ≤ cell ns k := fun z => hk (decide_eq_true z)
      have ed : digs ns k ss = digB (cell ns k % 2147483647) 0 ss := by unfold digs; rw [if_neg hk']
      rw [ed] at q
      have hc0 : 0 ≤ cell ns k % 2147483647 := Int.emod_nonneg _ (by decide)
      have hc1 : cell ns k % 2147483647 < 2147483647 := Int.emod_lt_of_pos _ (by decide)
      walk_at "go"
      refine i_lenL (sm.seq hz) ?_
      walk_at "go"
      rw [List.length_map]
      refine ⟨(ss.length : Int), rfl, by omega, by omega, ?_⟩
      refine for_range (lo := 0) (n := ((ss.length : Int)).toNat) (fun i σ H' => ∃ (acc : List Int) (one : Int) (v1 v2 : Option V), Same H H' ∧ H' p = some (.lst (acc.map V.int)) ∧ acc.length = i ∧ 0 ≤ one ∧ one < 2147483647 ∧
          acc ++ digB one i (ss.drop i) = digB (cell ns k % 2147483647) 0 ss ∧ σ = [some (.ref l), some (.int k), some (.ref z), some (.int (cell ns k)), some (.ref p), none, none, some (.int one), v1, v2])
        ⟨[], _, none, none, sm, upd_same, rfl, hc0, hc1, rfl, rfl⟩ ?_ ?_
      · rintro i σ H' hi ⟨acc, one, v1, v2, s2, hp2, ha, o0, o1, he, rfl⟩
        have hil : i < ss.length := by omega
        obtain ⟨x, hx⟩ : ∃ x, ss[i]? = some x := ⟨_, List.getElem?_eq_getElem hil⟩
        have hx2 := hss x (List.mem_of_getElem? hx)
        have m0 : 0 ≤ (one * 48271 + 10007 * ((0 : Int) + (i : Int) + 1)) % 2147483629 := Int.emod_nonneg _ (by decide)
        have m1 : (one * 48271 + 10007 * ((0 : Int) + (i : Int) + 1)) % 2147483629 < 2147483629 := Int.emod_lt_of_pos _ (by decide)
        walk_at "go"
        refine ⟨Or.inl ⟨rfl, _, SqL.of hp2⟩, ?_⟩
        walk_at "go"
        refine i_ixL (s2.seq hz) (atI_of (v := .int x) (by omega) (by rw [List.getElem?_map, show ((0 : Int) + (i : Int)).toNat = i by omega, hx]; rfl)) ?_
        walk_at "go"
        refine i_append hp2 (by rw [List.length_map]; exact sz_small' (by omega)) ?_
        walk_at "go"
        refine ⟨acc ++ [_], (one * 48271 + 10007 * ((0 : Int) + (i : Int) + 1)) % 2147483629, _, _, s2.mut hp, by rw [upd_same, List.map_append]; rfl, by simp [ha], m0, by omega, ?_, rfl⟩
        rw [drop_cons hx] at he
        rw [← he, List.append_assoc]
        simp only [Int.zero_add, digB, List.cons_append, List.nil_append, Int.natCast_add, Int.natCast_one]
      · rintro σ H' ⟨acc, one, v1, v2, s2, hp2, ha, o0, o1, he, rfl⟩
        walk_at "go"
        rw [show ((ss.length : Int)).toNat = ss.length by omega, List.drop_length] at he
        have he' : acc = digB (cell ns k % 2147483647) 0 ss := by rw [← he]; exact (List.append_nil _).symm
        exact q p H' hp s2 (by rw [← he']; exact hp2)

/-! ### the law's own promise -/
def spLaw (K : PySem.W.Frag) : Sp := fun vs H Q _ => ∃ (a : Addr) (ns : List Int), vs = [.ref a] ∧ SqL K H a (ns.map V.int) ∧ ∀ H', Q (.bl true) H'
theorem cutV_take {xs : List V} {i : Int} (h : 0 ≤ i) : cutV xs none (some i) = xs.take i.toNat := by
  unfold cutV
  have e : HT.sIx xs.length xs.length (some i) = min i.toNat xs.length := by
    show (if i < 0 then _ else min i.toNat xs.length) = _
    rw [if_neg (by omega)]
  have e0 : HT.sIx xs.length 0 none = 0 := rfl
  rw [e, e0, List.drop_zero, Nat.sub_zero, List.take_eq_take_iff]
  omega
theorem cut_ints (ns : List Int) : cutV (ns.map V.int) none (some 63) = (ns.take 63).map V.int := by
  rw [cutV_take (by decide), List.map_take]
  rfl
theorem atI_strs {xs : List Str} {i : Int} (h0 : 0 ≤ i) (h : i < (xs.length : Int)) : ∃ x, xs[i.toNat]? = some x ∧ atI (xs.map V.str) i = some (.str x) := by
  have hl : i.toNat < xs.length := by omega
  refine ⟨xs[i.toNat], List.getElem?_eq_getElem hl, atI_of h0 ?_⟩
  rw [List.getElem?_map, List.getElem?_eq_getElem hl]
  rfl
theorem mod_ok (i : Int) {n : Int} (h : 0 < n) : 0 ≤ i % n ∧ i % n < n := ⟨Int.emod_nonneg _ (by omega), Int.emod_lt_of_pos _ h⟩

/-! ### _law_names -/
def lett (i : Int) : Nat := 97 + i.toNat
def nmRest (one two size j : Int) : List Nat := (List.range size.toNat).map fun (i : Nat) => lett ((one + (i : Int) * two + 3 * j) % 26)
def nmFirst (one two size place j : Int) : List Nat := (nmRest one two size j).take place.toNat ++ [lett ((one + 7 * j + 11) % 26)] ++ (nmRest one two size j).drop place.toNat
def tails : List Nat := [105, 106, 107, 108, 109, 110, 111, 112, 113, 114, 115, 116]
def sx (l : List Nat) : Str := ⟨l.toArray⟩
def nmFree (j : Nat) (found : List Str) : Str := ((tails.filter fun t => decide (sx [122, 97 + j, t] ∉ found)).map fun t => sx [122, 97 + j, t]).headD (sx [])
def nmNext (ns : List Int) (k : Int) (j : Nat) (found : List Str) : Str :=
  let d := digs ns (k + (j : Int) % 2) [26, 26, 6, 5]
  let n := sx (nmFirst (d.getD 0 0) (d.getD 1 0) (d.getD 2 0) (d.getD 3 0) j)
  if n ∈ found then nmFree j found else n
def names (ns : List Int) (k : Int) : Nat → List Str
  | 0 => []
  | j + 1 => names ns k j ++ [nmNext ns k j (names ns k j)]
/-- one to six small letters -/
def NameOk (s : Str) : Prop := 1 ≤ s.length ∧ s.length ≤ 6 ∧ ∀ c ∈ s.cps.toList, 97 ≤ c ∧ c ≤ 122
theorem names_len (ns : List Int) (k : Int) : ∀ n, (names ns k n).length = n
  | 0 => rfl
  | n + 1 => by simp [names, names_len ns k n]
theorem lett_ok {i : Int} : 97 ≤ lett (i % 26) ∧ lett (i % 26) ≤ 122 := by
  have h1 := Int.emod_nonneg i (b := 26) (by decide)
  have h2 := Int.emod_lt_of_pos i (b := 26) (by decide)
  unfold lett
  omega
theorem nmRest_ok {one two size j : Int} : ∀ c ∈ nmRest one two size j, 97 ≤ c ∧ c ≤ 122 := by
  intro c hc
  obtain ⟨i, _, rfl⟩ := List.mem_map.mp hc
  exact lett_ok
theorem nmFirst_ok {one two size place j : Int} (h0 : 0 ≤ size) (h1 : size < 6) : NameOk (sx (nmFirst one two size place j)) := by
  have hl : (nmFirst one two size place j).length = size.toNat + 1 := by
    have e : (nmRest one two size j).length = size.toNat := by simp [nmRest]
    unfold nmFirst
    simp only [List.length_append, List.length_take, List.length_drop, List.length_singleton, e]
    omega
  refine ⟨?_, ?_, ?_⟩
  · show 1 ≤ (nmFirst one two size place j).toArray.size
    rw [List.size_toArray, hl]; omega
  · show (nmFirst one two size place j).toArray.size ≤ 6
    rw [List.size_toArray, hl]; omega
  · intro c hc
    have hc' : c ∈ nmFirst one two size place j := by simpa [sx] using hc
    unfold nmFirst at hc'
    rcases List.mem_append.mp hc' with h | h
    · rcases List.mem_append.mp h with h | h
      · exact nmRest_ok c (List.mem_of_mem_take h)
      · rw [List.mem_singleton.mp h]; exact lett_ok
    · exact nmRest_ok c (List.mem_of_mem_drop h)
theorem nd_le {α : Type} [DecidableEq α] : ∀ {l m : List α}, l.Nodup → (∀ x ∈ l, x ∈ m) → l.length ≤ m.length
  | [], _, _, _ => Nat.zero_le _
  | x :: l, m, hn, h => by
    have hx := h x List.mem_cons_self
    have h2 := nd_le (l := l) (m := m.erase x) (List.nodup_cons.mp hn).2 fun y hy => by
      have ne : y ≠ x := fun e => (List.nodup_cons.mp hn).1 (e ▸ hy)
      exact (List.mem_erase_of_ne ne).mpr (h y (List.mem_cons_of_mem _ hy))
    have e := List.length_erase_of_mem hx
    have p := List.length_pos_of_mem hx
    simp only [List.length_cons]
    omega
theorem sx_inj {a b : List Nat} (h : sx a = sx b) : a = b := by
  have := congrArg (fun s : Str => s.cps.toList) h
  simpa [sx] using this
theorem nmFree_some (j : Nat) (found : List Str) (h : found.length ≤ 11) : ∃ t r, tails.filter (fun t => decide (sx [122, 97 + j, t] ∉ found)) = t :: r ∧ t ∈ tails ∧ sx [122, 97 + j, t] ∉ found := by
  cases e : tails.filter (fun t => decide (sx [122, 97 + j, t] ∉ found)) with
  | cons t r =>
    have ht : t ∈ tails.filter (fun t => decide (sx [122, 97 + j, t] ∉ found)) := by rw [e]; exact List.mem_cons_self
    obtain ⟨h1, h2⟩ := List.mem_filter.mp ht
    exact ⟨t, r, rfl, h1, of_decide_eq_true h2⟩
  | nil =>
    have hall : ∀ x ∈ tails.map (fun t => sx [122, 97 + j, t]), x ∈ found := by
      intro x hx
      obtain ⟨t, ht, rfl⟩ := List.mem_map.mp hx
      have := List.filter_eq_nil_iff.mp e t ht
      simpa using this
    have hnd : (tails.map (fun t => sx [122, 97 + j, t])).Nodup := by
      refine List.Pairwise.map _ ?_ (show tails.Nodup by decide)
      intro a b hab z
      have := sx_inj z
      simp at this
      exact hab this
    have := nd_le hnd hall
    simp [tails] at this
    omega
theorem nmFree_ok {j : Nat} {found : List Str} (h : found.length ≤ 11) (hj : j < 26) : NameOk (nmFree j found) ∧ nmFree j found ∉ found := by
  obtain ⟨t, r, e, ht, hn⟩ := nmFree_some j found h
  have e2 : nmFree j found = sx [122, 97 + j, t] := by unfold nmFree; rw [e]; rfl
  rw [e2]
  refine ⟨⟨by simp [sx, Str.length], by simp [sx, Str.length], ?_⟩, hn⟩
  intro c hc
  have hc' : c = 122 ∨ c = 97 + j ∨ c = t := by simpa [sx] using hc
  have htt : 105 ≤ t ∧ t ≤ 116 := by simp [tails] at ht; omega
  omega
theorem digs4 (ns : List Int) (k a b c d : Int) (ha : 0 < a) (hb : 0 < b) (hc : 0 < c) (hd : 0 < d) : ∃ x y z u, digs ns k [a, b, c, d] = [x, y, z, u] ∧ 0 ≤ x ∧ x < a ∧ 0 ≤ y ∧ y < b ∧ 0 ≤ z ∧ z < c ∧ 0 ≤ u ∧ u < d := by
  have h := digs_in ns k [a, b, c, d] (by intro s hs; simp at hs; omega)
  obtain ⟨x, r, e1, x0, x1, h⟩ := h.next
  obtain ⟨y, r2, e2, y0, y1, h⟩ := h.next
  obtain ⟨z, r3, e3, z0, z1, h⟩ := h.next
  obtain ⟨u, e4, u0, u1⟩ := h.one
  exact ⟨x, y, z, u, by rw [e1, e2, e3, e4], x0, x1, y0, y1, z0, z1, u0, u1⟩
theorem nmNext_ok {ns : List Int} {k : Int} {j : Nat} {found : List Str} (h : found.length ≤ 11) (hj : j < 26) : NameOk (nmNext ns k j found) ∧ nmNext ns k j found ∉ found := by
  obtain ⟨x, y, z, u, e, x0, x1, y0, y1, z0, z1, u0, u1⟩ := digs4 ns (k + (j : Int) % 2) 26 26 6 5 (by decide) (by decide) (by decide) (by decide)
  unfold nmNext
  simp only [e]
  split
  · exact nmFree_ok h hj
  · exact ⟨nmFirst_ok z0 z1, by assumption⟩
theorem names_ok (ns : List Int) (k : Int) : ∀ n, n ≤ 12 → (names ns k n).Nodup ∧ ∀ x ∈ names ns k n, NameOk x
  | 0, _ => ⟨List.nodup_nil, fun _ h => nomatch h⟩
  | n + 1, h => by
    obtain ⟨h1, h2⟩ := names_ok ns k n (by omega)
    have h3 := nmNext_ok (ns := ns) (k := k) (j := n) (found := names ns k n) (by rw [names_len]; omega) (by omega)
    refine ⟨nd_snoc h1 h3.2, fun x hx => ?_⟩
    rcases List.mem_append.mp hx with hx | hx
    · exact h2 x hx
    · rw [List.mem_singleton.mp hx]; exact h3.1
theorem names_pre (ns : List Int) (k : Int) (n : Nat) : ∀ m, n ≤ m → (names ns k m).take n = names ns k n := by
  intro m h
  induction m with
  | zero => cases Nat.le_zero.mp h; rfl
  | succ m ih =>
    by_cases e : n = m + 1
    · subst e; rw [List.take_of_length_le (by rw [names_len]; omega)]
    · show (names ns k m ++ _).take n = _
      rw [List.take_append_of_le_length (by rw [names_len]; omega)]
      exact ih (by omega)
def spNames (K : PySem.W.Frag) : Sp := fun vs H Q _ => ∃ (l : Addr) (ns : List Int) (k : Int) (many : Nat), vs = [.ref l, .int k, .int many] ∧ SqL K H l (ns.map V.int) ∧ 0 ≤ k ∧ k < 900000 ∧ many ≤ 12 ∧
  ∀ p H', H p = none → Same H H' → H' p = some (.lst ((names ns k many).map V.str)) → Q (.ref p) H'
theorem alph_at {i : Int} (h0 : 0 ≤ i) (h1 : i < 26) : atI (Str.ofString "abcdefghijklmnopqrstuvwxyz").cps.toList i = some (lett i) := by
  refine atI_of h0 ?_
  have e : (Str.ofString "abcdefghijklmnopqrstuvwxyz").cps.toList = (List.range 26).map (97 + ·) := by decide +kernel
  rw [e, List.getElem?_map, List.getElem?_range (by omega)]
  rfl
theorem alph_len : (Str.ofString "abcdefghijklmnopqrstuvwxyz").length ≤ sizeLine := by decide +kernel
theorem sx_add (a b : List Nat) : sx a ++ sx b = sx (a ++ b) := by
  show (⟨a.toArray ++ b.toArray⟩ : Str) = ⟨(a ++ b).toArray⟩
  simp
theorem sx_len (a : List Nat) : (sx a).length = a.length := by simp [sx, Str.length]
theorem inV_str {x : Str} {xs : List Str} : inV (.str x) (xs.map V.str) = decide (x ∈ xs) := by
  induction xs with
  | nil => rfl
  | cons y ys ih =>
    have e : inV (.str x) ((y :: ys).map V.str) = (eqV (.str y) (.str x) || inV (.str x) (ys.map V.str)) := rfl
    rw [e, ih]
    have e2 : eqV (.str y) (.str x) = decide (y = x) := by
      show (y == x) = _
      rfl
    rw [e2]
    by_cases h : y = x
    · subst h
      simp
    · have h' : ¬ x = y := fun z => h z.symm
      simp [h, h']
theorem flat_strs (xs : List Str) : (xs.map V.str).all flatV = true := by
  rw [List.all_eq_true]
  intro x hx
  obtain ⟨y, _, rfl⟩ := List.mem_map.mp hx
  rfl
theorem tl_ext {a b : Str} (h : a.cps.toList = b.cps.toList) : a = b := by
  cases a
  cases b
  simp only at h
  congr 1
  exact Array.toList_inj.mp h
theorem join_empty (ls : List Nat) : Txt.join (Str.ofString "") (ls.map fun c => (⟨#[c]⟩ : Str)) = sx ls := by
  refine tl_ext ?_
  rw [TL.join_eq]
  have h := TL.tl_join (Str.ofString "") (ls.map fun c => (⟨#[c]⟩ : Str))
  refine h.trans ?_
  have e : TL.tl (Str.ofString "") = [] := by decide +kernel
  rw [e, List.map_map]
  induction ls with
  | nil => rfl
  | cons a r ih =>
    cases r with
    | nil => rfl
    | cons b r =>
      have ih' := ih (TL.tl_join (Str.ofString "") ((b :: r).map fun c => (⟨#[c]⟩ : Str)))
      show [a] ++ ([] ++ TL.joinL [] (List.map _ (b :: r))) = _
      rw [ih']
      rfl
theorem cut_take (l : List Nat) {i : Int} (h : 0 ≤ i) : cutS (sx l) none (some i) = sx (l.take i.toNat) := by
  refine tl_ext ?_
  unfold cutS
  have e : HT.sIx (sx l).length (sx l).length (some i) = min i.toNat l.length := by
    show (if i < 0 then _ else min i.toNat (sx l).length) = _
    rw [if_neg (by omega), sx_len]
  have e0 : HT.sIx (sx l).length 0 none = 0 := rfl
  rw [e, e0]
  simp only [sx, List.drop_zero, Nat.sub_zero]
  rw [List.take_eq_take_iff]
  omega
theorem cut_drop (l : List Nat) {i : Int} (h : 0 ≤ i) : cutS (sx l) (some i) none = sx (l.drop i.toNat) := by
  refine tl_ext ?_
  unfold cutS
  have e : HT.sIx (sx l).length 0 (some i) = min i.toNat l.length := by
    show (if i < 0 then _ else min i.toNat (sx l).length) = _
    rw [if_neg (by omega), sx_len]
  have e0 : HT.sIx (sx l).length (sx l).length none = l.length := by rw [sx_len]; rfl
  rw [e, e0]
  simp only [sx]
  by_cases c : i.toNat ≤ l.length
  · rw [Nat.min_eq_left c, List.take_of_length_le (by rw [List.length_drop]; exact Nat.le_refl _)]
  · rw [Nat.min_eq_right (by omega), List.drop_length, List.drop_eq_nil_of_le (by omega : l.length ≤ i.toNat)]
    simp
theorem sum_ones (l : List Nat) : ((l.map fun c => (⟨#[c]⟩ : Str)).map (·.length)).sum = l.length := by
  induction l with
  | nil => rfl
  | cons a r ih =>
    simp only [List.map_cons, List.sum_cons, ih, List.length_cons]
    have e : (⟨#[a]⟩ : Str).length = 1 := rfl
    omega
theorem of_len (s : String) (n : Nat) (h : (Str.ofString s).length = n) (h2 : n ≤ 1000000) : (Str.ofString s).length ≤ sizeLine := by rw [h]; exact sz_small h2
theorem sx_one (c : Nat) : (⟨#[c]⟩ : Str) = sx [c] := rfl
abbrev s_law_names : Stmt := topS 10
abbrev N_law_names : List Str := ["_law_script", "_law_k", "_law_many", "_law_found", "_law_letters", "_law_j", "_law_one", "_law_two", "_law_size", "_law_place", "_law_rest", "_law_name", "_law_i", "_law_tail"]
abbrev P_law_names : List Str := ["_law_script", "_law_k", "_law_many"]
theorem sc_law_names : FnScope N_law_names P_law_names (defScope s_law_names) := ⟨rfl, rfl, rfl, by decide +kernel, rfl, by decide +kernel, by decide +kernel⟩
theorem cal_law_names (F : Dfn K mg "_law_names" s_law_names P_law_names []) (B : Blt mg) (c__law_digits : Cal P w K mg base 2 "_law_digits" [] (spDigits K)) : Cal P w K mg base 3 "_law_names" [] (spNames K) := by
  refine F.cal .nil sc_law_names (fun vs H Q E h => ?_) (fun f cdv A outer s H vs Q E hr hG h => ?_)
  · obtain ⟨l, ns, k, many, rfl, _⟩ := h
    rfl
  · obtain ⟨l, ns, k, many, rfl, hl, h0, h1, hm, q⟩ := h
    have hu := hu_of hr
    have nd := sc_law_names.nd
    refine ⟨_, (pss_cons (ps_asg (pe_tup (pa_cons (pe_lst pa_nil) (pa_cons pe_str pa_nil))) (ug_seq (K := K) (n := 2) rfl (pgs_cons (pg_name (i := 3) nd rfl (Or.inr rfl)) (pgs_cons (pg_name (i := 4) nd rfl (Or.inr rfl)) pgs_nil))))
      (pss_cons (ps_for PW rfl (pi_range1 (by rfl) B.b_range (pa_cons (pv 2) pa_nil)) (pg_name (i := 5) nd rfl (Or.inr rfl)) (pss_cons (ps_asg (ue_call c__law_digits hr (by decide) hG (by rfl) PB (pa_cons (pv 0) (pa_cons (pe_op uq_add (pv 1) (pe_op uq_mod (pv 5) pe_int)) (pa_cons (pe_lst (pa_cons pe_int (pa_cons pe_int (pa_cons pe_int (pa_cons pe_int pa_nil))))) pa_nil)))) (ug_seq (K := K) (n := 4) rfl (pgs_cons (pg_name (i := 6) nd rfl (Or.inr rfl)) (pgs_cons (pg_name (i := 7) nd rfl (Or.inr rfl)) (pgs_cons (pg_name (i := 8) nd rfl (Or.inl rfl)) (pgs_cons (pg_name (i := 9) nd rfl (Or.inl rfl)) pgs_nil))))))
      (pss_cons (ps_set (i := 10) nd rfl (Or.inl rfl) (ue_join (K := K) pe_str (pe_lc (own := [("_law_i", 12)]) rfl nd (pi_range1 (by rfl) B.b_range (pa_cons (pv 8) pa_nil)) (blkOk_by (own := [("_law_i", 12)]) (N := N_law_names) (sc := defScope (s_law_names)) (by decide +kernel)) (fun _ _ _ _ _ => (pg_name (i := 12) nd rfl (Or.inl rfl))) (fun _ _ _ _ _ => pts_nil) (fun _ _ _ _ _ => (pe_ix (uq_ix (K := K) hu) (pv 4) (pe_op uq_mod (pe_op uq_add (pe_op uq_add (pv 6) (pe_op uq_mul (pv 12) (pv 7))) (pe_op uq_mul pe_int (pv 5))) pe_int) (fun _ _ => rfl))))))
      (pss_cons (ps_set (i := 11) nd rfl (Or.inl rfl) (pe_op uq_add (pe_op uq_add (pe_slice (uq_sl (K := K)) (pv 10) po_none (po_some (pv 9))) (pe_ix (uq_ix (K := K) hu) (pv 4) (pe_op uq_mod (pe_op uq_add (pe_op uq_add (pv 6) (pe_op uq_mul pe_int (pv 5))) pe_int) pe_int) (fun _ _ => rfl))) (pe_slice (uq_sl (K := K)) (pv 10) (po_some (pv 9)) po_none)))
      (pss_cons (ps_if (pt_cmpR (uq_in (K := K) hu) (pv 11) (pv 3) (by rfl)) (pss_one (ps_set (i := 11) nd rfl (Or.inl rfl) (pe_ix (uq_ix (K := K) hu) (pe_lc (own := [("_law_tail", 13)]) rfl nd (ui_seq (K := K) pe_str) (blkOk_by (own := [("_law_tail", 13)]) (N := N_law_names) (sc := defScope (s_law_names)) (by decide +kernel)) (fun _ _ _ _ _ => (pg_name (i := 13) nd rfl (Or.inl rfl))) (fun _ _ _ _ _ => (pts_one (pt_cmpR (uq_notin (K := K) hu) (pe_op uq_add (pe_op uq_add pe_str (pe_ix (uq_ix (K := K) hu) (pv 4) (pv 5) (fun _ _ => rfl))) (pv 13)) (pv 3) (by rfl)))) (fun _ _ _ _ _ => (pe_op uq_add (pe_op uq_add pe_str (pe_ix (uq_ix (K := K) hu) (pv 4) (pv 5) (fun _ _ => rfl))) (pv 13)))) pe_int (fun _ _ => rfl)))) pss_nil)
      (pss_one (ps_expr (ue_bm (K := K) PySem.F.plainAttrs_list PySem.F.slot_list_append PySem.F.type_list_append mt_append (pv 3) (pa_cons (pv 11) pa_nil)))))))))
      (pss_one (ps_ret (pv 3))))), ?_⟩
    walk_at "go"
    refine ⟨by decide, fun p hp => ?_⟩
    walk_at "go"
    refine ⟨sz_small (by simp), fun t ht => ?_⟩
    refine g_gseqT (SqT.of upd_same) rfl ?_
    walk_at "go"
    have hpt : p ≠ t := ne_of_none (upd_same (H := H) (o := .lst [])) ht
    have s0 : Same H (upd (upd H p (.lst [])) t (.tup [.ref p, .str (Str.ofString "abcdefghijklmnopqrstuvwxyz")])) := fun b o e => by
      rw [upd_ne (ne_of_none (Same.mut (Same.refl H) hp b o e) ht)]
      exact Same.mut (Same.refl H) hp b o e
    refine ⟨(many : Int), rfl, by omega, by omega, ?_⟩
    refine for_range (lo := 0) (n := ((many : Int)).toNat) (fun i σ H' => ∃ (v5 v6 v7 v8 v9 v10 v11 : Option V), Same H H' ∧ H' p = some (.lst ((names ns k i).map V.str)) ∧
        σ = [some (.ref l), some (.int k), some (.int many), some (.ref p), some (.str (Str.ofString "abcdefghijklmnopqrstuvwxyz")), v5, v6, v7, v8, v9, v10, v11, none, none])
      ⟨none, none, none, none, none, none, none, s0, by rw [upd_ne hpt, upd_same]; rfl, rfl⟩ ?_ ?_
    · rintro i σ H1 hi ⟨v5, v6, v7, v8, v9, v10, v11, s1, hp1, rfl⟩
      have hi' : i < many := by omega
      walk_at "go"
      refine ⟨sz_small (by decide), fun z hz => ?_⟩
      generalize e2 : upd H1 z (.lst [.int 26, .int 26, .int 6, .int 5]) = H2
      obtain ⟨s2, hz2⟩ := newH hz e2
      walk_at "go"
      have em : (k + (0 + (i : Int)) % 2) = k + (i : Int) % 2 := by rw [Int.zero_add]
      obtain ⟨one, two, size, place, ed, b1, b2, b3, b4, b5, b6, b7, b8⟩ := digs4 ns (k + (i : Int) % 2) 26 26 6 5 (by decide) (by decide) (by decide) (by decide)
      refine ⟨l, z, ns, k + (0 + (i : Int)) % 2, [26, 26, 6, 5], rfl, (s1.trans s2).seq hl, SqL.of hz2, by omega, by omega, by decide, by decide, fun y H3 hy s3 hy3 => ?_⟩
      rw [em, ed] at hy3
      have sH3 : Same H H3 := s1.trans (s2.trans s3)
      have hp3 : H3 p = some (.lst ((names ns k i).map V.str)) := s3 _ _ (s2 _ _ hp1)
      refine g_gseqL (xs := [.int one, .int two, .int size, .int place]) (SqL.of hy3) rfl ?_
      walk_at "go"
      refine ⟨size, rfl, by omega, by omega, fun D hD => ?_⟩
      have hDp : p ≠ D := ne_of_none hp3 hD
      refine lc_it walk_range (fun m H' => Same H3 H' ∧ H' D = some (.lst (((List.range m).map fun (x : Nat) => lett ((one + (x : Int) * two + 3 * (i : Int)) % 26)).map fun c => V.str ⟨#[c]⟩))) ⟨Same.mut (Same.refl H3) hD, upd_same⟩ (fun _ _ _ _ => trivial) ?_ ?_
      · rintro m x H4 H5 hm ⟨s4, hD4⟩ ⟨rfl, rfl⟩
        walk_at "go"
        refine ⟨rfl, ?_⟩
        walk_at "go"
        refine i_ixS alph_len (alph_at (Int.emod_nonneg _ (by decide)) (Int.emod_lt_of_pos _ (by decide))) ?_
        refine ⟨_, hD4, ?_, s4.mut hD, ?_⟩
        · rw [List.length_map, List.length_map, List.length_range]
          exact sz_small' (by omega)
        · rw [upd_same, List.range_succ, List.map_append, List.map_append]
          simp only [Int.zero_add]
          rfl
      · rintro H4 ⟨s4, hD4⟩
        walk_at "go"
        have er : ((List.range size.toNat).map fun (x : Nat) => lett ((one + (x : Int) * two + 3 * (i : Int)) % 26)) = nmRest one two size i := rfl
        rw [er] at hD4
        have hD4' : H4 D = some (.lst (((nmRest one two size i).map fun c => (⟨#[c]⟩ : Str)).map V.str)) := by rw [List.map_map]; exact hD4
        have hrl : (nmRest one two size i).length = size.toNat := by simp [nmRest]
        refine ⟨_, D, _, rfl, rfl, .inl (SqL.of hD4'), ?_, ?_⟩
        · rw [sum_ones, hrl, show (Str.ofString "").length = 0 by decide +kernel]
          omega
        rw [join_empty]
        walk_at "go"
        refine i_slS (sz_small (by rw [sx_len, hrl]; omega)) ?_
        rw [cut_take _ b7]
        walk_at "go"
        refine i_ixS alph_len (alph_at (Int.emod_nonneg _ (by decide)) (Int.emod_lt_of_pos _ (by decide))) ?_
        rw [sx_one]
        refine i_addS (sz_small (by rw [sx_len, sx_len, List.length_take, hrl]; simp; omega)) ?_
        rw [sx_add]
        walk_at "go"
        refine i_slS (sz_small (by rw [sx_len, hrl]; omega)) ?_
        rw [cut_drop _ b7]
        refine i_addS (sz_small (by rw [sx_len, sx_len, List.length_append, List.length_take, List.length_drop, hrl]; simp; omega)) ?_
        rw [sx_add]
        have en : (nmRest one two size i).take place.toNat ++ [lett ((one + 7 * (0 + (i : Int)) + 11) % 26)] ++ (nmRest one two size i).drop place.toNat = nmFirst one two size place i := by
          rw [Int.zero_add]
          rfl
        rw [en]
        walk_at "go"
        have sH4 : Same H H4 := sH3.trans s4
        have hp4 : H4 p = some (.lst ((names ns k i).map V.str)) := s4 _ _ hp3
        refine i_inL (SqL.of hp4) rfl (flat_strs _) ?_
        rw [inV_str]
        have hlen := names_len ns k i
        have hz : ((names ns k i).map V.str).length < sizeLine := by rw [List.length_map, hlen]; exact sz_small' (by omega)
        walk_at "go"
        have enx : nmNext ns k i (names ns k i) = if sx (nmFirst one two size place i) ∈ names ns k i then nmFree i (names ns k i) else sx (nmFirst one two size place i) := by
          unfold nmNext
          simp only [ed]
          rfl
        refine ite2 (fun hin => ?_) (fun hin => ?_)
        · have hin' := of_decide_eq_true hin
          rw [if_pos hin'] at enx
          walk_at "go"
          refine Or.inr (Or.inr (Or.inl ⟨_, rfl, fun E hE => ?_⟩))
          have hEp : p ≠ E := ne_of_none hp4 hE
          have hi26 : (0 : Int) + (i : Int) < 26 := by omega
          refine lc_it walk_str (fun m H' => Same H4 H' ∧ H' E = some (.lst ((((tails.take m).filter fun t => decide (sx [122, 97 + i, t] ∉ names ns k i)).map fun t => sx [122, 97 + i, t]).map V.str))) ⟨Same.mut (Same.refl H4) hE, upd_same⟩ (fun _ _ _ _ => trivial) ?_ ?_
          · rintro m x H5 H6 hm ⟨s5, hE5⟩ ⟨rfl, c, hc, rfl⟩
            have hc' : tails[m]? = some c := by
              have e : (Str.ofString "ijklmnopqrst").cps = tails.toArray := by decide +kernel
              rw [e] at hc
              simpa using hc
            have el : lett (0 + (i : Int)) = 97 + i := by unfold lett; omega
            walk_at "go"
            refine ⟨rfl, ?_⟩
            walk_at "go"
            refine i_ixS alph_len (alph_at (by omega) hi26) ?_
            rw [el, sx_one, show Str.ofString "z" = sx [122] by decide +kernel]
            refine i_addS (sz_small (by simp [sx_len])) ?_
            rw [sx_add]
            walk_at "go"
            rw [sx_one]
            refine i_addS (sz_small (by simp [sx_len])) ?_
            rw [sx_add]
            walk_at "go"
            refine i_notinL (SqL.of (s5 _ _ hp4)) rfl (flat_strs _) ?_
            rw [inV_str]
            walk_at "go"
            have et : tails.take (m + 1) = tails.take m ++ [c] := take_snoc hc'
            show if (!decide (sx [122, 97 + i, c] ∈ names ns k i)) = true then _ else _
            by_cases hf : sx [122, 97 + i, c] ∈ names ns k i
            · rw [if_neg (by simp [hf])]
              refine ⟨s5, ?_⟩
              rw [hE5, et, List.filter_append]
              simp [hf]
            · rw [if_pos (by simp [hf])]
              walk_at "go"
              refine i_ixS alph_len (alph_at (by omega) hi26) ?_
              rw [el, sx_one]
              refine i_addS (sz_small (by simp [sx_len])) ?_
              rw [sx_add]
              walk_at "go"
              refine i_addS (sz_small (by simp [sx_len])) ?_
              rw [sx_add]
              refine ⟨_, hE5, ?_, s5.mut hE, ?_⟩
              · rw [List.length_map, List.length_map]
                refine sz_small' (Nat.lt_of_le_of_lt (List.length_filter_le _ _) ?_)
                rw [List.length_take]
                simp [tails]
                omega
              · rw [upd_same, et, List.filter_append, List.map_append, List.map_append]
                simp [hf]
          · rintro H5 ⟨s5, hE5⟩
            walk_at "go"
            rw [show (Str.ofString "ijklmnopqrst").cps.size = 12 by decide +kernel, show tails.take 12 = tails by decide] at hE5
            obtain ⟨t, r, e, ht, hn⟩ := nmFree_some i (names ns k i) (by omega)
            rw [e] at hE5
            refine i_ixL (SqL.of hE5) (atI_of (v := .str (sx [122, 97 + i, t])) (by decide) rfl) ?_
            walk_at "go"
            refine ⟨Or.inl ⟨rfl, _, SqL.of (s5 _ _ hp4)⟩, ?_⟩
            walk_at "go"
            refine i_append (s5 _ _ hp4) hz ?_
            walk_at "go"
            refine ⟨_, _, _, _, _, _, _, (sH4.trans s5).mut hp, ?_, rfl⟩
            rw [upd_same]
            have ef : nmFree i (names ns k i) = sx [122, 97 + i, t] := by unfold nmFree; rw [e]; rfl
            show _ = some (HO.lst ((names ns k i ++ [nmNext ns k i (names ns k i)]).map V.str))
            rw [enx, ef, List.map_append]
            rfl
        · have hin' : ¬ sx (nmFirst one two size place i) ∈ names ns k i := fun z => hin (decide_eq_true z)
          rw [if_neg hin'] at enx
          walk_at "go"
          refine ⟨Or.inl ⟨rfl, _, SqL.of hp4⟩, ?_⟩
          walk_at "go"
          refine i_append hp4 hz ?_
          walk_at "go"
          refine ⟨_, _, _, _, _, _, _, sH4.mut hp, ?_, rfl⟩
          rw [upd_same]
          show _ = some (HO.lst ((names ns k i ++ [nmNext ns k i (names ns k i)]).map V.str))
          rw [enx, List.map_append]
          rfl
    · rintro σ H1 ⟨v5, v6, v7, v8, v9, v10, v11, s1, hp1, rfl⟩
      walk_at "go"
      exact q p H1 hp s1 (by rw [hp1]; simp)

theorem strs_getD {xs : List Str} {j : Nat} (h : j < xs.length) : atI (xs.map V.str) (0 + (j : Int)) = some (.str (xs.getD j (sx []))) := by
  refine atI_of (by omega) ?_
  rw [show ((0 : Int) + (j : Int)).toNat = j by omega, List.getElem?_map, List.getElem?_eq_getElem h, List.getD_eq_getElem?_getD, List.getElem?_eq_getElem h]
  rfl

/-! ### _law_frac, _law_whole -/
def spFrac : Sp := fun vs H Q _ => ∃ t l : Int, vs = [.int t, .int l] ∧ l ≠ 0 ∧ l.natAbs < 2 ^ 8900 ∧ ∀ p H', H p = none → Same H H' → H' p = some (.tup [.int (Rat.divInt t l).num, .int ((Rat.divInt t l).den : Int)]) → Q (.ref p) H'
abbrev s_law_frac : Stmt := topS 11
abbrev N_law_frac : List Str := ["_law_top", "_law_low", "_law_one", "_law_other", "_law_sign"]
abbrev P_law_frac : List Str := ["_law_top", "_law_low"]
theorem sc_law_frac : FnScope N_law_frac P_law_frac (defScope s_law_frac) := ⟨rfl, rfl, rfl, by decide +kernel, rfl, by decide +kernel, by decide +kernel⟩
theorem cal_law_frac (F : Dfn K mg "_law_frac" s_law_frac P_law_frac []) (B : Blt mg) : Cal P w K mg base 1 "_law_frac" [] spFrac := by
  refine F.cal .nil sc_law_frac (fun vs H Q E h => ?_) (fun f cdv A outer s H vs Q E hr hG h => ?_)
  · obtain ⟨t, l, rfl, _⟩ := h
    rfl
  · obtain ⟨t, l, rfl, l0, lb, q⟩ := h
    have hu := hu_of hr
    have nd := sc_law_frac.nd
    refine ⟨_, (pss_cons (ps_par (i := 2) (j := 3) (by rfl) nd rfl rfl (by decide) rfl rfl (pa_cons (pe_callB uc_abs (by rfl) B.b_abs (by decide +kernel) (pa_cons (pv 0) pa_nil)) (pa_cons (pe_callB uc_abs (by rfl) B.b_abs (by decide +kernel) (pa_cons (pv 1) pa_nil)) pa_nil)) (by rfl))
      (Evl.pss_cut (ps_while PW (pt_cmpR uq_gt (pv 3) pe_int (nomark _)) (pss_one (ps_par (i := 2) (j := 3) (by rfl) nd rfl rfl (by decide) rfl rfl (pa_cons (pv 3) (pa_cons (pe_op uq_mod (pv 2) (pv 3)) pa_nil)) (by rfl))))
      (pss_cons (ps_set (i := 4) nd rfl (Or.inl rfl) (pe_ifExp (pt_cmpR uq_gt (pv 1) pe_int (nomark _)) pe_int (pe_un un_neg pe_int)))
      (pss_one (ps_ret (pe_tup (pa_cons (pe_op uq_fdiv (pe_op uq_mul (pv 4) (pv 0)) (pv 2)) (pa_cons (pe_op uq_fdiv (pe_callB uc_abs (by rfl) B.b_abs (by decide +kernel) (pa_cons (pv 1) pa_nil)) (pv 2)) pa_nil)))))))), ?_⟩
    walk_at "go"
    refine ⟨fun σ' H' => H = H' ∧ ∃ z : Option V, σ' = [some (.int t), some (.int l), some (.int (Nat.gcd t.natAbs l.natAbs : Nat)), z, none], ?_, ?_⟩
    · refine g_while ⟨fun m σ H' => H = H' ∧ ∃ x : Nat, Nat.gcd x m = Nat.gcd t.natAbs l.natAbs ∧ σ = [some (.int t), some (.int l), some (.int (x : Int)), some (.int (m : Int)), none], ⟨l.natAbs, rfl, t.natAbs, rfl, rfl⟩, ?_⟩
      rintro m σ H' ⟨rfl, x, hx, rfl⟩
      walk_at "go"
      by_cases hm : (0 : Int) < (m : Int)
      · rw [decide_eq_true hm]
        walk_at "go"
        refine ⟨_, fun _ _ z => z, ?_⟩
        walk_at "go"
        refine ⟨x % m, Nat.mod_lt _ (by omega), rfl, m, ?_, ?_⟩
        · rw [← hx, Nat.gcd_comm x m, Nat.gcd_rec m x, Nat.gcd_comm]
        · simp only [List.set_cons_zero, List.set_cons_succ, Int.natCast_emod]
      · rw [decide_eq_false hm]
        walk_at "go"
        have : m = 0 := by omega
        subst this
        rw [Nat.gcd_zero_right] at hx
        rw [hx]
        exact ⟨rfl, _, rfl⟩
    · rintro σ' H' ⟨rfl, z, rfl⟩
      have hgp : 0 < Nat.gcd t.natAbs l.natAbs := Nat.gcd_pos_of_pos_right _ (by omega)
      have eg : l.gcd t = Nat.gcd t.natAbs l.natAbs := by unfold Int.gcd; exact Nat.gcd_comm _ _
      have e1 : (Rat.divInt t l).num = l.sign * t / ((Nat.gcd t.natAbs l.natAbs : Nat) : Int) := by rw [Rat.num_divInt, eg]
      have e2 : ((Rat.divInt t l).den : Int) = (l.natAbs : Int) / ((Nat.gcd t.natAbs l.natAbs : Nat) : Int) := by rw [Rat.den_divInt, if_neg l0, eg, Int.natCast_ediv]
      have cd : ∀ i : Int, CDivW i ((Nat.gcd t.natAbs l.natAbs : Nat) : Int) := fun i => cdiv_gcd (by omega) lb i
      walk_at "go"
      refine ite2 (fun h => ?_) (fun h => ?_)
      · have h := of_decide_eq_true h
        walk_at "go"
        refine i_fdivW (cd _) ?_
        walk_at "go"
        refine i_fdivW (cd _) ?_
        walk_at "go"
        rw [show (1 : Int) * t / ((Nat.gcd t.natAbs l.natAbs : Nat) : Int) = (Rat.divInt t l).num by rw [e1, Int.sign_eq_one_of_pos h], ← e2]
        refine ⟨sz_small (by simp), fun p hp => ?_⟩
        obtain ⟨s1, h1⟩ := newH hp rfl
        exact q p _ hp s1 h1
      · have h := of_nd h
        walk_at "go"
        refine i_fdivW (cd _) ?_
        walk_at "go"
        refine i_fdivW (cd _) ?_
        walk_at "go"
        rw [show -(1 : Int) * t / ((Nat.gcd t.natAbs l.natAbs : Nat) : Int) = (Rat.divInt t l).num by rw [e1, Int.sign_eq_neg_one_of_neg (by omega)], ← e2]
        refine ⟨sz_small (by simp), fun p hp => ?_⟩
        obtain ⟨s1, h1⟩ := newH hp rfl
        exact q p _ hp s1 h1

/-! ### the law's own fractions and bags -/
def FracV (K : PySem.W.Frag) (H : Hp) (v : V) (q : Rat) : Prop := ∃ a, v = .ref a ∧ SqT K H a [.int q.num, .int (q.den : Int)]
theorem FracV.mono {H H' : Hp} (s : Same H H') {v : V} {q : Rat} (h : FracV K H v q) : FracV K H' v q := by
  obtain ⟨a, e, h⟩ := h
  exact ⟨a, e, s.seqT h⟩
theorem FracV.hid {H : Hp} {d : Addr} {kvs : List (Key × V)} (hd : H d = some (.dK kvs)) {v : V} {q : Rat} (h : FracV K H v q) : FracV K (hid d H) v q := by
  obtain ⟨a, e, h⟩ := h
  refine ⟨a, e, ?_⟩
  have ne : ∀ {o : HO}, H a = some o → (∀ kvs, o ≠ .dK kvs) → Rf.hid d H a = some o := fun ho hn => hid_of (fun z => by rw [z, hd] at ho; exact hn _ (Option.some.inj ho).symm) ho
  rcases h with h | h
  · rcases h with h | ⟨o, h⟩
    · exact Or.inl (Or.inl (ne h (fun _ z => nomatch z)))
    · exact Or.inl (Or.inr ⟨o, ne h (fun _ z => nomatch z)⟩)
  · exact Or.inr h
def spFPlus (K : PySem.W.Frag) : Sp := fun vs H Q _ => ∃ (a b : Addr) (x y u v : Int), vs = [.ref a, .ref b] ∧ SqT K H a [.int x, .int y] ∧ SqT K H b [.int u, .int v] ∧ y ≠ 0 ∧ v ≠ 0 ∧ x.natAbs < 2 ^ 4400 ∧ y.natAbs < 2 ^ 4400 ∧ u.natAbs < 2 ^ 4400 ∧ v.natAbs < 2 ^ 4400 ∧
  ∀ p H', H p = none → Same H H' → FracV K H' (.ref p) (Rat.divInt x y + Rat.divInt u v) → Q (.ref p) H'
abbrev s_law_plus : Stmt := topS 12
abbrev N_law_plus : List Str := ["_law_one", "_law_other"]
abbrev P_law_plus : List Str := ["_law_one", "_law_other"]
theorem sc_law_plus : FnScope N_law_plus P_law_plus (defScope s_law_plus) := ⟨rfl, rfl, rfl, by decide +kernel, rfl, by decide +kernel, by decide +kernel⟩
theorem cal_law_plus (F : Dfn K mg "_law_plus" s_law_plus P_law_plus []) (B : Blt mg) (c__law_frac : Cal P w K mg base 1 "_law_frac" [] spFrac) : Cal P w K mg base 2 "_law_plus" [] (spFPlus K) := by
  refine F.cal .nil sc_law_plus (fun vs H Q E h => ?_) (fun f cdv A outer s H vs Q E hr hG h => ?_)
  · obtain ⟨a, b, x, y, u, v, rfl, _⟩ := h
    rfl
  · obtain ⟨a, b, x, y, u, v, rfl, h1, h2, y0, v0, bx, bY, bu, bv, k⟩ := h
    have hu := hu_of hr
    have nd := sc_law_plus.nd
    have cm : ∀ {i j : Int}, i.natAbs < 2 ^ 4400 → j.natAbs < 2 ^ 4400 → CMulW i j := fun hi hj => cmulW_of hi hj (by decide) (by decide) (by decide)
    refine ⟨_, (pss_one (ps_ret (ue_call c__law_frac hr (by decide) hG (by rfl) PB (pa_cons (pe_op uq_add (pe_op uq_mul (pe_ix (uq_ix (K := K) hu) (pv 0) pe_int (fun _ _ => rfl)) (pe_ix (uq_ix (K := K) hu) (pv 1) pe_int (fun _ _ => rfl))) (pe_op uq_mul (pe_ix (uq_ix (K := K) hu) (pv 1) pe_int (fun _ _ => rfl)) (pe_ix (uq_ix (K := K) hu) (pv 0) pe_int (fun _ _ => rfl)))) (pa_cons (pe_op uq_mul (pe_ix (uq_ix (K := K) hu) (pv 0) pe_int (fun _ _ => rfl)) (pe_ix (uq_ix (K := K) hu) (pv 1) pe_int (fun _ _ => rfl))) pa_nil))))), ?_⟩
    walk_at "go"
    refine i_ixT h1 rfl ?_
    walk_at "go"
    refine i_ixT h2 rfl ?_
    refine i_mulW (cm bx bv) ?_
    walk_at "go"
    refine i_ixT h2 rfl ?_
    walk_at "go"
    refine i_ixT h1 rfl ?_
    refine i_mulW (cm bu bY) ?_
    walk_at "go"
    refine i_ixT h1 rfl ?_
    walk_at "go"
    refine i_ixT h2 rfl ?_
    refine i_mulW (cm bY bv) ?_
    walk_at "go"
    refine ⟨_, _, rfl, Int.mul_ne_zero y0 v0, ?_, fun p H' hp s' hp' => ?_⟩
    · rw [Int.natAbs_mul]
      exact Nat.lt_of_lt_of_le (mul_lt_pow bY bv) (Nat.pow_le_pow_right (by decide) (by decide))
    · rw [← Rat.divInt_add_divInt x u y0 v0] at hp'
      exact k p H' hp s' ⟨p, rfl, SqT.of hp'⟩
/-- the bag's dict after one more -/
def spFAdd (K : PySem.W.Frag) : Sp := fun vs H Q _ => ∃ (d : Addr) (c : Str) (t l : Int) (kvs : List (Key × V)) (m : Bag), vs = [.ref d, .str c, .int t, .int l] ∧ H d = some (.dK kvs) ∧ KvAt (FracV K H) kvs m ∧ l ≠ 0 ∧ t.natAbs < 2 ^ 4400 ∧ l.natAbs < 2 ^ 4400 ∧ Bd 4400 (bagVal m c) ∧ kvs.length ≤ 50000 ∧
  ∀ H' kvs', Same (hid d H) H' → H' d = some (.dK kvs') → KvAt (FracV K (hid d H')) kvs' (bagPut m c (bagVal m c + Rat.divInt t l)) → Q .non H'
abbrev s_law_add : Stmt := topS 13
abbrev N_law_add : List Str := ["_law_bag", "_law_coin", "_law_top", "_law_low", "_law_old"]
abbrev P_law_add : List Str := ["_law_bag", "_law_coin", "_law_top", "_law_low"]
theorem sc_law_add : FnScope N_law_add P_law_add (defScope s_law_add) := ⟨rfl, rfl, rfl, by decide +kernel, rfl, by decide +kernel, by decide +kernel⟩
theorem cal_law_add (F : Dfn K mg "_law_add" s_law_add P_law_add []) (B : Blt mg) (c__law_plus : Cal P w K mg base 2 "_law_plus" [] (spFPlus K)) : Cal P w K mg base 3 "_law_add" [] (spFAdd K) := by
  refine F.cal .nil sc_law_add (fun vs H Q E h => ?_) (fun f cdv A outer s H vs Q E hr hG h => ?_)
  · obtain ⟨d, c, t, l, kvs, m, rfl, _⟩ := h
    rfl
  · obtain ⟨d, c, t, l, kvs, m, rfl, hd, hm, l0, bt, bl, bm, hkl, k⟩ := h
    have hu := hu_of hr
    have nd := sc_law_add.nd
    have gk : DGet H d (.str c) (valV kvs (Sum.inr c : Key)) := DGet.k (k := Sum.inr c) hd
    refine ⟨_, (Evl.pss_cut (ps_set (i := 4) nd rfl (Or.inl rfl) (pe_ifExp (pt_cmpR (uq_in (K := K) hu) (pv 1) (pv 0) (by rfl)) (pe_ix (uq_ix (K := K) hu) (pv 0) (pv 1) (fun _ _ => rfl)) (pe_tup (pa_cons pe_int (pa_cons pe_int pa_nil)))))
      (pss_one (ps_asg (ue_call c__law_plus hr (by decide) hG (by rfl) PB (pa_cons (pv 4) (pa_cons (pe_tup (pa_cons (pv 2) (pa_cons (pv 3) pa_nil))) pa_nil))) (pg_sub (pv 0) (pv 1) (uq_set hu))))), ?_⟩
    walk_at "go"
    refine ⟨fun σ' H' => ∃ a, Same H H' ∧ SqT K H' a [.int (bagVal m c).num, .int ((bagVal m c).den : Int)] ∧ σ' = [some (.ref d), some (.str c), some (.int t), some (.int l), some (.ref a)], ?_, ?_⟩
    · walk_at "go"
      refine i_inD gk ?_
      rcases hm.get c with ⟨v, q, e1, e2, a, rfl, h1⟩ | ⟨e1, e2⟩
      · rw [e1] at gk ⊢
        walk_at "go"
        refine i_ixD gk ?_
        have : bagVal m c = q := by unfold bagVal; rw [show bagAt m c = some q from e2]; rfl
        rw [this]
        exact ⟨a, Same.refl H, h1, rfl⟩
      · rw [e1] at gk ⊢
        walk_at "go"
        refine ⟨sz_small (by simp), fun a ha => ?_⟩
        obtain ⟨s1, h1⟩ := newH ha rfl
        have : bagVal m c = 0 := by unfold bagVal; rw [show bagAt m c = none from e2]; rfl
        rw [this]
        exact ⟨a, s1, SqT.of h1, rfl⟩
    · rintro σ' H1 ⟨a, s1, h1, rfl⟩
      walk_at "go"
      refine ⟨sz_small (by simp), fun b hb => ?_⟩
      generalize e2 : upd H1 b (.tup [.int t, .int l]) = H2
      obtain ⟨s2, hb2⟩ := newH hb e2
      walk_at "go"
      have lp := low_pos (bagVal m c)
      refine ⟨a, b, _, _, t, l, rfl, s2.seqT h1, SqT.of hb2, by omega, l0, bm.top, by rw [Int.natAbs_natCast]; exact bm.low, bt, bl, fun p H3 hp s3 h3 => ?_⟩
      rw [Rat.num_divInt_den] at h3
      have s13 := s1.trans (s2.trans s3)
      have hd3 := s13 _ _ hd
      walk_at "go"
      refine i_setD (DPut.k (k := Sum.inr c) hd3 (sz_small' (by omega))) ?_
      refine k _ _ (Same.mut ((hid_up).trans s13) (by unfold hid; rw [if_pos rfl])) upd_same ?_
      rw [hid_upd]
      exact KvAt.put (m := m) (h3.hid hd3) (hm.imp fun v x h => (h.mono s13).hid hd3)

/-! ### Part.times -/
abbrev s_Part_times : Stmt := inClass (topS 5) 5
abbrev N_Part_times : List Str := ["self", "other"]
abbrev P_Part_times : List Str := ["self", "other"]
theorem sc_Part_times : FnScope N_Part_times P_Part_times (defScope s_Part_times) := ⟨rfl, rfl, rfl, by decide +kernel, rfl, by decide +kernel, by decide +kernel⟩
theorem mtd_Part_times {C CN : Addr} (F : Mdf K C "times" "Part.times" s_Part_times P_Part_times []) (T : PartC K C) (B : Blt mg) (m_Part_2 : Mkr P w K mg base 2 "Part" C [] (spPartInit C CN)) : Mtd P w K mg base 4 C "times" [] (spPartOp C fun p q => p * q) := by
  refine F.mtd .nil sc_Part_times (fun vs H Q E h => ?_) (fun f cdv A outer s H vs Q E hr hG h => ?_)
  · obtain ⟨a, b, p, q, rfl, _⟩ := h
    rfl
  · obtain ⟨a, b, p, q, rfl, h1, h2, b1, b2, k⟩ := h
    have hu := hu_of hr
    have nd := sc_Part_times.nd
    refine ⟨_, (pss_one (ps_ret (ue_make m_Part_2 hr (by decide) hG (by rfl) PB (pa_cons (pe_op uq_mul (ue_fld (K := K) (pv 0) rfl) (ue_fld (K := K) (pv 1) rfl)) (pa_cons (pe_op uq_mul (ue_fld (K := K) (pv 0) rfl) (ue_fld (K := K) (pv 1) rfl)) pa_nil))))), ?_⟩
    walk_at "go"
    refine x_top T h1 ?_
    walk_at "go"
    refine x_top T h2 ?_
    walk_at "go"
    refine i_mulW (mul_nn b1 b2 (by decide) (by decide) (by decide)) ?_
    walk_at "go"
    refine x_low T h1 ?_
    walk_at "go"
    refine x_low T h2 ?_
    walk_at "go"
    refine i_mulW (mul_dd b1 b2 (by decide) (by decide) (by decide)) ?_
    walk_at "go"
    intro x dx hx hdx hne
    refine make_part rfl hx hdx hne (lows_ne p q) (Nat.lt_of_lt_of_le (lows_lt b1 b2) (Nat.pow_le_pow_right (by decide) (by decide))) fun H' s' h' => ?_
    rw [rat_mul p q] at h'
    exact k x H' hx s' h'

/-! ### Purse.worth -/
theorem PartAt.hid {C a d : Addr} {H : Hp} {q : Rat} {kvs : List (Key × V)} (hd : H d = some (.dK kvs)) (h : PartAt C H a q) : PartAt C (hid d H) a q := by
  obtain ⟨dx, h⟩ := h
  exact ⟨dx, hid_of (fun z => by rw [z, hd] at h; cases h) h⟩
theorem PartsAt.hid {C d : Addr} {H : Hp} {ls : List (Key × V)} (hd : H d = some (.dK ls)) : ∀ {kvs : List (Key × V)} {m : Bag}, PartsAt C H kvs m → PartsAt C (hid d H) kvs m
  | [], [], _ => .nil
  | _ :: _, _ :: _, .cons ⟨h1, a, h2, h3⟩ r => .cons ⟨h1, a, h2, h3.hid hd⟩ (PartsAt.hid hd r)
theorem PartsAt.at {C : Addr} {H : Hp} : ∀ {kvs : List (Key × V)} {m : Bag} {i : Nat} {p : Str × Rat}, PartsAt C H kvs m → m[i]? = some p → ∃ a, kvs[i]? = some ((Sum.inr p.1 : Key), .ref a) ∧ PartAt C H a p.2
  | [], [], _, _, _, h => nomatch h
  | (k, v) :: _, _ :: _, 0, _, .cons ⟨h1, a, h2, h3⟩ _, h => by cases h; cases h1; cases h2; exact ⟨a, rfl, h3⟩
  | _ :: _, _ :: _, i + 1, _, .cons _ r, h => PartsAt.at (i := i) r h
def IntV (v : V) (i : Int) : Prop := v = .int i
def wsum (m : Bag) (r : Str → Int) : Rat := (m.map fun p => p.2 * Rat.divInt (r p.1) 1000).sum
theorem wsum_nil (r : Str → Int) : wsum [] r = 0 := rfl
theorem wsum_snoc (m : Bag) (p : Str × Rat) (r : Str → Int) : wsum (m ++ [p]) r = wsum m r + p.2 * Rat.divInt (r p.1) 1000 := by
  unfold wsum
  rw [List.map_append, List.sum_append]
  show _ + (p.2 * Rat.divInt (r p.1) 1000 + 0) = _
  rw [Rat.add_zero]
theorem bd_wsum {n : Nat} (hn : 1 ≤ n) (r : Str → Int) (hr : ∀ c, (r c).natAbs < 2 ^ 64) : ∀ (m : Bag), (∀ p ∈ m, Bd n p.2) → Bd (m.length * (n + 65) + 1) (wsum m r)
  | [], _ => by rw [wsum_nil]; exact bd_zero (by omega)
  | p :: m, h => by
    have ih := bd_wsum hn r hr m fun q hq => h q (List.mem_cons_of_mem _ hq)
    have e : wsum (p :: m) r = p.2 * Rat.divInt (r p.1) 1000 + wsum m r := rfl
    rw [e]
    have h1 : Bd (n + 64) (p.2 * Rat.divInt (r p.1) 1000) := (h p List.mem_cons_self).mul (bd_divInt (hr _) (by decide) (by decide))
    refine (h1.add ih).mono ?_
    rw [List.length_cons, Nat.succ_mul]
    omega
def spWorth (K : PySem.W.Frag) (C CP : Addr) : Sp := fun vs H Q _ => ∃ (a dr : Addr) (m : Bag) (kvr : List (Key × V)) (rs : List (Str × Int)) (r : Str → Int) (n : Nat), vs = [.ref a, .ref dr] ∧ PurseAt C CP H a m ∧ H dr = some (.dK kvr) ∧ KvAt IntV kvr rs ∧ (∀ p ∈ m, asAt rs p.1 = some (r p.1)) ∧ (∀ c, (r c).natAbs < 2 ^ 64) ∧
  1 ≤ n ∧ (∀ p ∈ m, Bd n p.2) ∧ m.length * (n + 65) + 1 ≤ 4400 ∧ n + 64 ≤ 4400 ∧ ∀ x H', H x = none → Same H H' → PartAt C H' x (wsum m r) → Q (.ref x) H'
theorem x_inside {CP : Addr} {H : Hp} {a dx d : Addr} {R : V → Prop} (TP : PurseC K CP) (h : H a = some (.ins CP dx (purseFs d))) (k : R (.ref d)) : ∃ a' C' dx fs v, V.ref a = .ref a' ∧ H a' = some (.ins C' dx fs) ∧ Cls K C' ∧ NoAttr K C' "inside" ∧ fs.lookup ("inside" : Str) = some v ∧ R v :=
  ⟨a, CP, dx, _, _, rfl, h, TP.ow.cl, TP.n1, rfl, k⟩
abbrev s_Purse_worth : Stmt := inClass (topS 6) 9
abbrev N_Purse_worth : List Str := ["self", "rates", "found", "coin", "part"]
abbrev P_Purse_worth : List Str := ["self", "rates"]
theorem sc_Purse_worth : FnScope N_Purse_worth P_Purse_worth (defScope s_Purse_worth) := ⟨rfl, rfl, rfl, by decide +kernel, rfl, by decide +kernel, by decide +kernel⟩
theorem mtd_Purse_worth {C CN CP : Addr} (F : Mdf K CP "worth" "Purse.worth" s_Purse_worth P_Purse_worth []) (T : PartC K C) (TP : PurseC K CP) (B : Blt mg) (m_Part_1 : Mkr P w K mg base 2 "Part" C [.int 1] (spPartInit C CN)) (m_Part_2 : Mkr P w K mg base 2 "Part" C [] (spPartInit C CN))
    (t_Part_plus : Mtd P w K mg base 4 C "plus" [] (spPartOp C fun p q => p + q)) (t_Part_times : Mtd P w K mg base 4 C "times" [] (spPartOp C fun p q => p * q)) : Mtd P w K mg base 5 CP "worth" [] (spWorth K C CP) := by
  refine F.mtd .nil sc_Purse_worth (fun vs H Q E h => ?_) (fun f cdv A outer s H vs Q E hr hG h => ?_)
  · obtain ⟨a, dr, m, kvr, rs, r, n, rfl, _⟩ := h
    rfl
  · obtain ⟨a, dr, m, kvr, rs, r, n, rfl, ⟨dx, d, kvs, h1, h2, h3⟩, hdr, hkr, hrs, hrb, n1, hmb, hml, hn44, k⟩ := h
    have hu := hu_of hr
    have nd := sc_Purse_worth.nd
    have hlen := h3.len
    refine ⟨_, (pss_cons (ps_set (i := 2) nd rfl (Or.inl rfl) (ue_make m_Part_1 hr (by decide) hG (by rfl) PB (pa_cons pe_int pa_nil)))
      (pss_cons (ps_lock (ps_for PW rfl (pi_items (ue_fld (K := K) (pv 0) rfl)) (ug_seq (K := K) (n := 2) rfl (pgs_cons (pg_name (i := 3) nd rfl (Or.inl rfl)) (pgs_cons (pg_name (i := 4) nd rfl (Or.inl rfl)) pgs_nil))) (pss_one (ps_set (i := 2) nd rfl (Or.inl rfl) (ue_meth (pv 2) t_Part_plus hr (by decide) hG PB (pa_cons (ue_meth (pv 4) t_Part_times hr (by decide) hG PB (pa_cons (ue_make m_Part_2 hr (by decide) hG (by rfl) PB (pa_cons (pe_ix (uq_ix (K := K) hu) (pv 1) (pv 3) (fun _ _ => rfl)) (pa_cons pe_int pa_nil))) pa_nil)) pa_nil))))))
      (pss_one (ps_ret (pv 2))))), ?_⟩
    walk_at "go"
    intro x0 dx0 hx0 hdx0 hne0
    refine make_part rfl hx0 hdx0 hne0 (by decide) (by decide +kernel) fun H1 s1 hp1 => ?_
    have hp1 : PartAt C H1 x0 0 := hp1
    walk_at "go"
    have hd1 := s1 _ _ h2
    refine g_lock hd1 fun od => ?_
    generalize e2 : upd H1 d (.frz od (.dK kvs)) = H2
    have G2 : Same (hid d H1) H2 := by rw [← e2]; exact hid_lock
    have hd2 : H2 d = some (.frz od (.dK kvs)) := by rw [← e2]; exact upd_same
    have nad : a ≠ d := fun z => by rw [z, h2] at h1; cases h1
    have haG : hid d H1 a = some (.ins CP dx (purseFs d)) := hid_of nad (s1 _ _ h1)
    walk_at "go"
    refine x_inside TP (G2 _ _ haG) ?_
    refine ⟨d, od, kvs, rfl, hd2, ?_⟩
    have hpG : PartsAt C (hid d H1) kvs m := (h3.mono s1).hid hd1
    refine for_it (walk_items (d := d) (o := od) (kvs := kvs)) (fun i σ H' => ∃ (f : Addr) (v3 v4 : Option V), Same (hid d H1) H' ∧ H' d = some (.frz od (.dK kvs)) ∧ PartAt C H' f (wsum (m.take i) r) ∧ H f = none ∧ σ = [some (.ref a), some (.ref dr), some (.ref f), v3, v4])
      ⟨x0, none, none, G2, hd2, (hp1.hid hd1).mono G2, hx0, rfl⟩ (fun i σ H' _ ⟨_, _, _, _, h, _⟩ => h) ?_ ?_
    · rintro i y σ H3 H4 hi ⟨f, v3, v4, s3, hd3, hf3, hf0, rfl⟩ ⟨t, kx, vx, rfl, ht, rfl, hk, hv⟩
      have hi' : i < m.length := by omega
      obtain ⟨p, hp⟩ : ∃ p, m[i]? = some p := ⟨m[i], List.getElem?_eq_getElem hi'⟩
      obtain ⟨b, hb1, hb2⟩ := hpG.at hp
      simp only [hb1, Option.map_some] at hk hv
      cases hk
      cases hv
      generalize e5 : upd H3 t (.tup [kV (Sum.inr p.1), V.ref b]) = H5
      obtain ⟨s5, ht5⟩ := newH ht e5
      have ht5 : SqT K H5 t [.str p.1, .ref b] := SqT.of ht5
      have sG5 := s3.trans s5
      have hpm := List.mem_of_getElem? hp
      have ndr : dr ≠ d := fun z => by
        rw [z, h2] at hdr
        cases hdr
        obtain ⟨v, w⟩ := hkr.get p.1
        · obtain ⟨q, hv1, hv2, hv3⟩ := w
          rcases h3.get p.1 with ⟨a', q', e1, _⟩ | ⟨e1, _⟩
          · rw [hv1] at e1
            cases e1
            cases hv3
          · rw [hv1] at e1
            cases e1
        · rename_i w
          rw [hrs p hpm] at w
          cases w.2
      have hdrG : hid d H1 dr = some (.dK kvr) := hid_of ndr (s1 _ _ hdr)
      refine g_gseqT ht5 rfl ?_
      walk_at "go"
      have hf5 := hf3.mono s5
      obtain ⟨dxf, hf5'⟩ := id hf5
      refine ⟨f, dxf, _, rfl, hf5', rfl, ?_⟩
      walk_at "go"
      have hb5 := hb2.mono sG5
      obtain ⟨dxb, hb5'⟩ := id hb5
      refine ⟨b, dxb, _, rfl, hb5', rfl, ?_⟩
      walk_at "go"
      have hdr5 := sG5 _ _ hdrG
      have gk : DGet H5 dr (.str p.1) (valV kvr (Sum.inr p.1 : Key)) := DGet.k (k := Sum.inr p.1) hdr5
      have evr : valV kvr (Sum.inr p.1 : Key) = some (.int (r p.1)) := by
        rcases hkr.get p.1 with ⟨v, q, hv1, hv2, hv3⟩ | ⟨_, hv2⟩
        · rw [hrs p hpm] at hv2
          cases hv2
          rw [hv1, hv3]
        · rw [hrs p hpm] at hv2
          cases hv2
      rw [evr] at gk
      refine i_ixD gk ?_
      walk_at "go"
      intro x6 dx6 hx6 hdx6 hne6
      refine make_part rfl hx6 hdx6 hne6 (by decide) (by decide +kernel) fun H6 s6 hp6 => ?_
      have bdp : Bd n p.2 := hmb p hpm
      have bdr : Bd 64 (Rat.divInt (r p.1) 1000) := bd_divInt (hrb _) (by decide) (by decide)
      refine ⟨b, x6, _, _, rfl, hb5.mono s6, hp6, bdp.mono (by omega), bdr.mono (by decide), fun x7 H7 hx7 s7 hp7 => ?_⟩
      walk_at "go"
      have bds : Bd 4400 (wsum (m.take i) r) := (bd_wsum n1 r hrb (m.take i) fun q hq => hmb q (List.mem_of_mem_take hq)).mono (by
        have h1 : (m.take i).length ≤ m.length := by rw [List.length_take]; omega
        have := Nat.mul_le_mul_right (n + 65) h1
        omega)
      refine ⟨f, x7, _, _, rfl, hf5.mono (s6.trans s7), hp7, bds, (bdp.mul bdr).mono hn44, fun x8 H8 hx8 s8 hp8 => ?_⟩
      have hp8 : PartAt C H8 x8 (wsum (m.take i) r + p.2 * Rat.divInt (r p.1) 1000) := hp8
      rw [← wsum_snoc, ← take_snoc hp] at hp8
      walk_at "go"
      have s38 : Same H3 H8 := s5.trans (s6.trans (s7.trans s8))
      have hx80 : H x8 = none := by
        refine s1.free ?_
        cases e : H1 x8 with
        | none => rfl
        | some o =>
          exfalso
          have : x8 ≠ d := fun z => by rw [z, s7 _ _ (s6 _ _ (s5 _ _ hd3))] at hx8; cases hx8
          have := s7 _ _ (s6 _ _ (sG5 _ _ (hid_of this e)))
          rw [hx8] at this
          cases this
      exact ⟨x8, _, _, s3.trans s38, s38 _ _ hd3, hp8, hx80, rfl⟩
    · rintro σ H3 ⟨f, v3, v4, s3, hd3, hf3, hf0, rfl⟩
      refine ⟨hd3, ?_⟩
      walk_at "go"
      rw [hlen, List.take_length] at hf3
      exact k f _ hf0 (s1.trans (same_unlock hd1 s3)) (hf3.put hd3 (fun _ _ z => nomatch z))

/-! ### sums over bags -/
def fsum (m : Bag) (f : Str → Rat) : Rat := (m.map fun p => p.2 * f p.1).sum
theorem fsum_nil (f : Str → Rat) : fsum [] f = 0 := rfl
theorem fsum_cons (p : Str × Rat) (m : Bag) (f : Str → Rat) : fsum (p :: m) f = p.2 * f p.1 + fsum m f := rfl
theorem fsum_append (m n : Bag) (f : Str → Rat) : fsum (m ++ n) f = fsum m f + fsum n f := by
  unfold fsum
  rw [List.map_append, List.sum_append]
theorem fsum_perm {m n : Bag} (f : Str → Rat) (h : m.Perm n) : fsum m f = fsum n f := by
  induction h with
  | nil => rfl
  | cons p _ ih => rw [fsum_cons, fsum_cons, ih]
  | swap p q m => rw [fsum_cons, fsum_cons, fsum_cons, fsum_cons]; grind
  | trans _ _ h1 h2 => rw [h1, h2]
theorem fsum_filter (m : Bag) (f : Str → Rat) : fsum (m.filter fun p => decide (p.2 ≠ 0)) f = fsum m f := by
  induction m with
  | nil => rfl
  | cons p m ih =>
    rw [List.filter_cons]
    by_cases h : p.2 = 0
    · rw [if_neg (by simp [h]), ih, fsum_cons, h]
      grind
    · rw [if_pos (by simp [h]), fsum_cons, fsum_cons, ih]
theorem fsum_put (u : Bag) (c : Str) (q : Rat) (f : Str → Rat) (h : (u.map (·.1)).Nodup) : fsum (bagPut u c q) f = fsum u f + (q - bagVal u c) * f c := by
  unfold bagPut
  split
  · rename_i hs
    have hc := bagAt_some.mp hs
    clear hs
    induction u with
    | nil => cases hc
    | cons p u ih =>
      rw [List.map_cons, List.nodup_cons] at h
      rw [List.map_cons, fsum_cons, fsum_cons]
      by_cases e : p.1 = c
      · rw [if_pos e]
        have e2 : u.map (fun p => if p.1 = c then (c, q) else p) = u := by
          conv => rhs; rw [← List.map_id u]
          refine List.map_congr_left fun x hx => ?_
          rw [if_neg (fun z => h.1 (by rw [e, ← z]; exact List.mem_map_of_mem hx))]
          rfl
        rw [e2]
        have e3 : bagVal (p :: u) c = p.2 := by unfold bagVal; rw [bagAt_cons, if_pos e]; rfl
        rw [e3, e]
        grind
      · rw [if_neg e]
        have hc' : c ∈ u.map (·.1) := by
          rcases List.mem_cons.mp hc with z | z
          · exact absurd z.symm e
          · exact z
        have e3 : bagVal (p :: u) c = bagVal u c := by unfold bagVal; rw [bagAt_cons, if_neg e]
        rw [ih h.2 hc', e3]
        grind
  · rename_i hs
    have : bagVal u c = 0 := bagVal_out fun z => hs (bagAt_some.mpr z)
    rw [fsum_append, fsum_cons, fsum_nil, this]
    grind
theorem fsum_add (u : Bag) (c : Str) (q : Rat) (f : Str → Rat) (h : (u.map (·.1)).Nodup) : fsum (bagAdd u c q) f = fsum u f + q * f c := by
  unfold bagAdd
  rw [fsum_put u c _ f h]
  cases e : bagAt u c with
  | none =>
    have : bagVal u c = 0 := by unfold bagVal; rw [e]; rfl
    rw [this]
    grind
  | some z =>
    have : bagVal u c = z := by unfold bagVal; rw [e]; rfl
    rw [this]
    show _ + (z + q - z) * _ = _
    grind
theorem fsum_fold (f : Str → Rat) : ∀ (r u : Bag), (u.map (·.1)).Nodup → fsum (r.foldl (fun u p => bagAdd u p.1 p.2) u) f = fsum u f + fsum r f
  | [], u, _ => by rw [List.foldl_nil, fsum_nil]; grind
  | p :: r, u, h => by
    rw [List.foldl_cons, fsum_fold f r (bagAdd u p.1 p.2) (put_nodup h), fsum_add u p.1 p.2 f h, fsum_cons]
    grind
theorem bag_keys {u : Bag} (h : (u.map (·.1)).Nodup) : u = (u.map (·.1)).map fun c => (c, bagVal u c) := by
  rw [List.map_map]
  conv => lhs; rw [← List.map_id u]
  refine List.map_congr_left fun p hp => ?_
  show p = (p.1, bagVal u p.1)
  rw [bagVal_mem h hp]
theorem mk_perm (r : Bag) : ((sortS ((bagSum r).map (·.1))).map fun c => (c, bagVal (bagSum r) c)).Perm (bagSum r) := by
  have h := (sortS_perm ((bagSum r).map (·.1))).map fun c => (c, bagVal (bagSum r) c)
  rw [← bag_keys (sum_nodup r)] at h
  exact h
theorem fsum_mk (r : Bag) (f : Str → Rat) : fsum (mkPurse r) f = fsum r f := by
  unfold mkPurse
  rw [fsum_filter, fsum_perm f (mk_perm r)]
  unfold bagSum
  rw [fsum_fold f r [] List.nodup_nil, fsum_nil]
  grind
theorem mk_mem {r : Bag} {p : Str × Rat} (h : p ∈ mkPurse r) : p.1 ∈ r.map (·.1) ∧ p.2 = rsum r p.1 := by
  have h2 := bagVal_mem (canon_mk r).nodup h
  rw [val_mk] at h2
  refine ⟨Classical.byContradiction fun hn => ?_, h2.symm⟩
  have : rsum r p.1 = 0 := by
    have : ∀ (r : Bag), p.1 ∉ r.map (·.1) → rsum r p.1 = 0 := by
      intro r
      induction r with
      | nil => intro _; rfl
      | cons q r ih =>
        intro hq
        rw [List.map_cons, List.mem_cons] at hq
        rw [rsum_cons, if_neg (fun z => hq (Or.inl z.symm)), ih (fun z => hq (Or.inr z))]
        grind
    exact this r hn
  exact (canon_mk r).nz p h (by rw [← h2, this])
theorem mk_len (r : Bag) : (mkPurse r).length ≤ r.length := by
  unfold mkPurse
  refine Nat.le_trans (List.length_filter_le _ _) ?_
  rw [List.length_map, sortS_len, List.length_map]
  exact sum_len r
/-- dicts of ints are like themselves -/
theorem kv_self {kvs : List (Key × V)} {rs : List (Str × Int)} (h : KvAt IntV kvs rs) (hn : (rs.map (·.1)).Nodup) : ∀ p ∈ kvs, valV kvs p.1 = some p.2 ∧ flatB p.2 = true := by
  induction h with
  | nil => intro p hp; cases hp
  | @cons kv p kvs rs h1 r ih =>
    obtain ⟨h1, h2⟩ := h1
    rw [List.map_cons, List.nodup_cons] at hn
    obtain ⟨k, v⟩ := kv
    have h1 : k = Sum.inr p.1 := h1
    have h2 : v = .int p.2 := h2
    subst h1 h2
    intro z hz
    rcases List.mem_cons.mp hz with rfl | hz
    · rw [valV_cons, if_pos rfl]
      exact ⟨rfl, rfl⟩
    · obtain ⟨i1, i2⟩ := ih hn.2 z hz
      have hk : z.1 ∈ kvs.map (·.1) := List.mem_map_of_mem hz
      have hk2 : kvs.map (·.1) = (rs.map (·.1)).map Sum.inr := KvAt.keys (R := IntV) r
      rw [hk2] at hk
      obtain ⟨c, hc, e⟩ := List.mem_map.mp hk
      rw [← e, valV_cons, if_neg (fun q => hn.1 (by rw [q]; exact hc)), e]
      exact ⟨i1, i2⟩
theorem sqT_put {H : Hp} {a d : Addr} {xs : List V} {u o : HO} (hd : H d = some u) (hn : ∀ ys, u ≠ .tup ys) (hf : ∀ x y, u ≠ .frz x y) (h : SqT K H a xs) : SqT K (upd H d o) a xs := by
  rcases h with h | h
  · rcases h with h | ⟨w, h⟩
    · refine Or.inl (Or.inl ?_)
      rw [upd_ne (fun z => by rw [z, hd] at h; exact hn _ (Option.some.inj h))]
      exact h
    · refine Or.inl (Or.inr ⟨w, ?_⟩)
      rw [upd_ne (fun z => by rw [z, hd] at h; exact hf _ _ (Option.some.inj h))]
      exact h
  · exact Or.inr h
theorem FracV.put {H : Hp} {d : Addr} {kvs : List (Key × V)} {o : HO} (hd : H d = some (.dK kvs)) {v : V} {q : Rat} (h : FracV K H v q) : FracV K (upd H d o) v q := by
  obtain ⟨a, e, h⟩ := h
  exact ⟨a, e, sqT_put hd (fun _ z => nomatch z) (fun _ _ z => nomatch z) h⟩
theorem i_neDA {H : Hp} {a b : Addr} {ks : List (Key × V)} {Q : VK} (ha : H a = some (.dK ks)) (hb : H b = some (.dK ks)) (h : ∀ p ∈ ks, valV ks p.1 = some p.2 ∧ flatB p.2 = true) (k : Q (.bl false) H) : uNe K (.ref a) (.ref b) H Q := Or.inr (Or.inr ⟨a, b, ks, ks, rfl, rfl, ha, hb, rfl, h, k⟩)
theorem RowsAt.put {C d : Addr} {H : Hp} {ls : List V} {o : HO} (hd : H d = some (.lst ls)) : ∀ {xs : List V} {r : Bag}, RowsAt K C H xs r → RowsAt K C (upd H d o) xs r
  | [], [], _ => .nil
  | _ :: _, _ :: _, .cons ⟨t, a, h1, h2, h3⟩ r => .cons ⟨t, a, h1, sqT_put hd (fun _ z => nomatch z) (fun _ _ z => nomatch z) h2, h3.put hd (fun _ _ z => nomatch z)⟩ (RowsAt.put hd r)
theorem _root_.L2.DGet.f {H : Hp} {a : Addr} {o : Obj} {kvs : List (Key × V)} {k : Key} (e : H a = some (.frz o (.dK kvs))) : DGet H a (kV k) (valV kvs k) := .inl ⟨kvs, k, .inr ⟨o, e⟩, rfl, rfl⟩
theorem PurseAt.hidI {C CP a d : Addr} {H : Hp} {m : Bag} {kvr : List (Key × V)} {rs : List (Str × Int)} (hd : H d = some (.dK kvr)) (hk : KvAt IntV kvr rs) (hne : rs ≠ []) (h : PurseAt C CP H a m) : PurseAt C CP (hid d H) a m := by
  obtain ⟨dx, e, kvs, h1, h2, h3⟩ := h
  refine ⟨dx, e, kvs, hid_of (fun z => by rw [z, hd] at h1; cases h1) h1, hid_of (fun z => ?_) h2, h3.hid hd⟩
  rw [z, hd] at h2
  cases h2
  cases hk with
  | nil => exact hne rfl
  | @cons kv p kvs rs g1 g2 =>
    cases h3 with
    | cons g3 g4 =>
      obtain ⟨_, b, g5, _⟩ := g3
      have := g1.2
      rw [g5] at this
      cases this

/-! ### _law_same, of data without dicts -/
def SameOk (d : PyData) : Prop := SeqAt.shaped d = true ∧ d.showable = true ∧ d.shown.length ≤ sizeLine ∧ d.depth ≤ 40
def spSame (K : PySem.W.Frag) : Sp := fun vs H Q _ => ∃ (x y : V) (d : PyData), vs = [x, y] ∧ Dp K H x d ∧ Dp K H y d ∧ SameOk d ∧ Q (.bl true) H
theorem same_bool (b : Bool) : SameOk (.bool b) := by
  cases b <;> exact ⟨by decide, by decide, by decide, by decide⟩
theorem ty_seqL {H : Hp} {a : Addr} {xs : List V} (h : SqL K H a xs) : TyX K H (.ref a) (.type "list") := by
  rcases h with h | ⟨o, its, n, h1, h2, _⟩
  · rcases h with h | ⟨o, h⟩
    · exact .base (.lst h)
    · exact .base (.frz h)
  · exact .kList h1 h2
theorem ty_seqT {H : Hp} {a : Addr} {xs : List V} (h : SqT K H a xs) : TyX K H (.ref a) (.type "tuple") := by
  rcases h with h | ⟨o, its, n, h1, h2, _⟩
  · rcases h with h | ⟨o, h⟩
    · exact .base (.tup h)
    · exact .fTuple h
  · exact .kTuple h1 h2
theorem ty_noDict {H : Hp} {y : V} {d : PyData} (h : Dp K H y d) : ∃ n, TyX K H y (.type n) ∧ kitB n "dict" = some false := by
  cases h with
  | non => exact ⟨"NoneType", .base .non, by decide +kernel⟩
  | bl b => exact ⟨"bool", .base (.bl b), by decide +kernel⟩
  | int i => exact ⟨"int", .base (.int i), by decide +kernel⟩
  | str x => exact ⟨"str", .base (.str x), by decide +kernel⟩
  | lst h1 h2 => exact ⟨"list", ty_seqL h1, by decide +kernel⟩
  | tup h1 h2 => exact ⟨"tuple", ty_seqT h1, by decide +kernel⟩
abbrev s_law_same : Stmt := topS 14
abbrev N_law_same : List Str := ["_law_one", "_law_other"]
abbrev P_law_same : List Str := ["_law_one", "_law_other"]
theorem sc_law_same : FnScope N_law_same P_law_same (defScope s_law_same) := ⟨rfl, rfl, rfl, by decide +kernel, rfl, by decide +kernel, by decide +kernel⟩
theorem cal_law_same (F : Dfn K mg "_law_same" s_law_same P_law_same []) (B : Blt mg) : Cal P w K mg base 1 "_law_same" [] (spSame K) := by
  refine F.cal .nil sc_law_same (fun vs H Q E h => ?_) (fun f cdv A outer s H vs Q E hr hG h => ?_)
  · obtain ⟨x, y, d, rfl, _⟩ := h
    rfl
  · obtain ⟨x, y, d, rfl, hx, hy, ⟨h1, h2, h3, h4⟩, q⟩ := h
    have hu := hu_of hr
    have nd := sc_law_same.nd
    obtain ⟨n, ty, kt⟩ := ty_noDict hy
    refine ⟨_, (pss_cons (ps_if (ut_truth (K := K) (pe_callB (uc_isinstance (K := K)) (by rfl) B.b_isinstance (by decide +kernel) (pa_cons (pv 1) (pa_cons (pe_bltn (v := .ty "dict") (u := .type "dict") (by rfl) B.b_dict (by decide +kernel) rfl) pa_nil)))) pss_never pss_nil)
      (pss_one (ps_ret (pe_and (pe_cmpR (uq_eq (K := K) hr) (pv 0) (pv 1) (nomark _)) (pe_one (pe_cmpR (uq_eq (K := K) hr) (pe_callB (uc_repr (K := K) hr hG) (by rfl) B.b_repr (by decide +kernel) (pa_cons (pv 0) pa_nil)) (pe_callB (uc_repr (K := K) hr hG) (by rfl) B.b_repr (by decide +kernel) (pa_cons (pv 1) pa_nil)) (nomark _))))))), ?_⟩
    walk_at "go"
    refine ⟨y, .ty "dict", .type n, .type "dict", false, rfl, .ty _, ty, kit_ty kt, ?_⟩
    walk_at "go"
    refine i_eqD hx hy h1 h1 ?_
    rw [SeqAt.eqv_refl d (SeqAt.canLay_of_shaped h1)]
    walk_at "go"
    refine i_repr hx h2 h3 h4 ?_
    walk_at "go"
    refine i_repr hy h2 h3 h4 ?_
    walk_at "go"
    rw [decide_eq_true rfl]
    exact q

/-! ### data that shows -/
structure Good (d : PyData) (n k : Nat) : Prop where
  lay : d.canLay0 = true
  shw : d.showable = true
  len : d.shown.length ≤ n
  dep : d.depth ≤ k
theorem Good.same {d : PyData} {n k : Nat} (g : Good d n k) (hn : n ≤ 16000000) (hk : k ≤ 40) : SameOk d :=
  ⟨by unfold SeqAt.shaped; rw [g.lay, decide_eq_true (by have := g.dep; omega)]; rfl, g.shw, Nat.le_trans g.len (Nat.le_trans hn (by decide)), Nat.le_trans g.dep hk⟩
theorem Good.mono {d : PyData} {n m k j : Nat} (g : Good d n k) (hn : n ≤ m) (hk : k ≤ j) : Good d m j := ⟨g.lay, g.shw, Nat.le_trans g.len hn, Nat.le_trans g.dep hk⟩
theorem good_int {i : Int} {k : Nat} (h : i.natAbs < 2 ^ k) (h0 : 0 < k) (hk : k ≤ 1920) : Good (.int i) (k + 1) 0 := by
  have hl : i.natAbs.log2 < k := by
    by_cases hz : i.natAbs = 0
    · rw [hz]; simpa using h0
    · exact (Nat.log2_lt hz).mpr h
  refine ⟨rfl, ?_, ?_, Nat.le_refl _⟩
  · show decide (i.natAbs.log2 < 1920) = true
    exact decide_eq_true (by omega)
  · show (Str.ofString (toString i)).length ≤ k + 1
    rw [PySem.ofString_length]
    exact int_text_length_le h0 hl
theorem good_none : Good .none 4 0 := ⟨rfl, rfl, by decide, Nat.le_refl _⟩
theorem good_bool (b : Bool) : Good (.bool b) 5 0 := by cases b <;> exact ⟨rfl, rfl, by decide, Nat.le_refl _⟩
/-- texts of signs -/
def Asc (s : Str) : Prop := ∀ c ∈ s.cps.toList, c < 1114112
theorem good_str {s : Str} {m : Nat} (h : s.length ≤ m) (ha : Asc s) : Good (.str s) (10 * m + 2) 0 := by
  refine ⟨?_, rfl, ?_, Nat.le_refl _⟩
  · show PyData.strOk s = true
    unfold PyData.strOk
    rw [Array.all_eq_true']
    intro c hc
    have := ha c (by simpa using hc)
    simp
    omega
  · have := PySem.StrLaws.reprText_len s (fun c hc => Nat.lt_of_lt_of_le (ha c hc) (by decide))
    show (reprText s).length ≤ _
    omega
theorem asc_of (x : String) : Asc (Str.ofString x) := fun c hc => by
  have e := PyProof.Rows.signs_ofString x
  rw [e] at hc
  obtain ⟨ch, _, rfl⟩ := List.mem_map.mp hc
  have h := ch.valid
  have h2 : ch.toNat = ch.val.toNat := rfl
  rw [h2]
  rcases h with h | h
  · have h' : ch.val.toNat < 0xd800 := h
    omega
  · have h' : ch.val.toNat < 0x110000 := h.2
    omega
theorem asc_append {a b : Str} (h1 : Asc a) (h2 : Asc b) : Asc (a ++ b) := fun c hc => by
  have e : (a ++ b).cps.toList = a.cps.toList ++ b.cps.toList := by
    show (a.cps ++ b.cps).toList = _
    simp
  rw [e] at hc
  rcases List.mem_append.mp hc with h | h
  · exact h1 c h
  · exact h2 c h
theorem same_str {s : Str} (h : s.length ≤ 1000000) (ha : Asc s) : SameOk (.str s) := (good_str h ha).same (by decide) (by decide)
theorem same_int {i : Int} (h : i.natAbs < 2 ^ 1900) : SameOk (.int i) := (good_int h (by decide) (by decide)).same (by decide) (by decide)
theorem goodAll {n k : Nat} : ∀ {ds : List PyData}, (∀ d ∈ ds, Good d n k) → PyData.canLayAll0 ds = true ∧ PyData.showableAll ds = true ∧ PyData.depthAll ds ≤ k ∧ (∀ t ∈ PyData.shownAll ds, t.length ≤ n) ∧ (PyData.shownAll ds).length = ds.length
  | [], _ => ⟨rfl, rfl, Nat.zero_le _, by simp [PyData.shownAll], rfl⟩
  | d :: ds, h => by
    obtain ⟨h1, h2, h3, h4, h5⟩ := goodAll (fun x hx => h x (List.mem_cons_of_mem _ hx))
    have g := h d List.mem_cons_self
    refine ⟨by simp [PyData.canLayAll0, g.lay, h1], by simp [PyData.showableAll, g.shw, h2], ?_, ?_, by simp [PyData.shownAll, h5]⟩
    · have := g.dep
      simp only [PyData.depthAll]
      omega
    · intro t ht
      simp only [PyData.shownAll] at ht
      rcases List.mem_cons.mp ht with e | ht
      · rw [e]; exact g.len
      · exact h4 t ht
theorem textFrom_le {n : Nat} : ∀ (ts : List Str) (k : Nat) (acc : Str), (∀ t ∈ ts, t.length ≤ n) → (textFrom k acc ts).length ≤ acc.length + ts.length * (n + 2)
  | [], _, acc, _ => by show acc.length ≤ _; omega
  | t :: r, k, acc, h => by
    have ih := textFrom_le r (k + 1) (acc ++ (if k > 0 then ", " else "" : String) ++ t) (fun x hx => h x (List.mem_cons_of_mem _ hx))
    have e : (acc ++ (if k > 0 then ", " else "" : String) ++ t).length = acc.length + (if k > 0 then 2 else 0) + t.length := by
      rw [strLen_append, strLen_append]
      split <;> rfl
    have ht := h t List.mem_cons_self
    show (textFrom (k + 1) (acc ++ (if k > 0 then ", " else "" : String) ++ t) r).length ≤ _
    rw [List.length_cons, Nat.succ_mul]
    have e1 : (if k > 0 then 2 else 0) ≤ 2 := by split <;> omega
    omega
theorem good_list {ds : List PyData} {n k m : Nat} (h : ∀ d ∈ ds, Good d n k) (hm : ds.length ≤ m) : Good (.list ds) (m * (n + 2) + 2) (k + 1) := by
  obtain ⟨h1, h2, h3, h4, h5⟩ := goodAll h
  refine ⟨by simpa [PyData.canLay0] using h1, by simpa [PyData.showable] using h2, ?_, by simp only [PyData.depth]; omega⟩
  simp only [PyData.shown]
  unfold listText
  rw [strLen_append]
  have := textFrom_le (PyData.shownAll ds) 0 "[" h4
  rw [h5] at this
  have e1 : ((("[" : String) : Str)).length = 1 := rfl
  have e2 : ((("]" : String) : Str)).length = 1 := rfl
  have := Nat.mul_le_mul_right (n + 2) hm
  omega
theorem piled_le {n : Nat} : ∀ ts : List Str, (∀ t ∈ ts, t.length ≤ n) → piled ts ≤ ts.length * (n + 2)
  | [], _ => by simp [piled]
  | t :: r, h => by
    have ih := piled_le r (fun x hx => h x (List.mem_cons_of_mem _ hx))
    have ht := h t List.mem_cons_self
    have e : piled (t :: r) = t.length + 2 + piled r := by simp [piled]
    rw [e, List.length_cons, Nat.succ_mul]
    omega
theorem good_tuple {ds : List PyData} {n k m : Nat} (h : ∀ d ∈ ds, Good d n k) (hm : ds.length ≤ m) : Good (.tuple ds) (m * (n + 2) + 3) (k + 1) := by
  obtain ⟨h1, h2, h3, h4, h5⟩ := goodAll h
  refine ⟨by simpa [PyData.canLay0] using h1, by simpa [PyData.showable] using h2, ?_, by simp only [PyData.depth]; omega⟩
  simp only [PyData.shown]
  unfold tupleText
  rw [strLen_append, strLen_append]
  have hj : (Str.join ", " (PyData.shownAll ds)).length ≤ piled (PyData.shownAll ds) := by
    by_cases hn : PyData.shownAll ds = []
    · rw [hn]; exact Nat.zero_le _
    · have := join_length_add _ hn
      omega
  have hp := piled_le _ h4
  rw [h5] at hp
  have e1 : ((("(" : String) : Str)).length = 1 := rfl
  have e2 : (((if (PyData.shownAll ds).length == 1 then ",)" else ")" : String) : Str)).length ≤ 2 := by split <;> decide
  have := Nat.mul_le_mul_right (n + 2) hm
  omega
theorem pow_small {i : Int} {k : Nat} (h1 : -(2 ^ k : Int) < i) (h2 : i < 2 ^ k) : i.natAbs < 2 ^ k := by
  have e : ((2 ^ k : Nat) : Int) = (2 : Int) ^ k := by simp
  omega

theorem name_asc {s : Str} (h : NameOk s) : Asc s := fun c hc => by
  have := h.2.2 c hc
  omega
theorem good_name {s : Str} (h : NameOk s) : Good (.str s) 62 0 := good_str h.2.1 (name_asc h)

theorem at2 {P : Int → Prop} (a b : Int) {i : Int} (h0 : 0 ≤ i) (h1 : i < 2) (pa : P a) (pb : P b) : ∃ x, atI [V.int a, V.int b] i = some (.int x) ∧ P x := by
  have h : i = 0 ∨ i = 1 := by omega
  rcases h with rfl | rfl
  · exact ⟨a, rfl, pa⟩
  · exact ⟨b, rfl, pb⟩
theorem at4 {P : Int → Prop} (a b c d : Int) {i : Int} (h0 : 0 ≤ i) (h1 : i < 4) (pa : P a) (pb : P b) (pc : P c) (pd : P d) : ∃ x, atI [V.int a, V.int b, V.int c, V.int d] i = some (.int x) ∧ P x := by
  have h : i = 0 ∨ i = 1 ∨ i = 2 ∨ i = 3 := by omega
  rcases h with rfl | rfl | rfl | rfl
  · exact ⟨a, rfl, pa⟩
  · exact ⟨b, rfl, pb⟩
  · exact ⟨c, rfl, pc⟩
  · exact ⟨d, rfl, pd⟩
theorem digs5 (ns : List Int) (k a b c d e : Int) (ha : 0 < a) (hb : 0 < b) (hc : 0 < c) (hd : 0 < d) (he : 0 < e) : ∃ x y z u v, digs ns k [a, b, c, d, e] = [x, y, z, u, v] ∧ 0 ≤ x ∧ x < a ∧ 0 ≤ y ∧ y < b ∧ 0 ≤ z ∧ z < c ∧ 0 ≤ u ∧ u < d ∧ 0 ≤ v ∧ v < e := by
  have h := digs_in ns k [a, b, c, d, e] (by intro s hs; simp at hs; omega)
  obtain ⟨x, r, e1, x0, x1, h⟩ := h.next
  obtain ⟨y, r2, e2, y0, y1, h⟩ := h.next
  obtain ⟨z, r3, e3, z0, z1, h⟩ := h.next
  obtain ⟨u, r4, e4, u0, u1, h⟩ := h.next
  obtain ⟨v, e5, v0, v1⟩ := h.one
  exact ⟨x, y, z, u, v, by rw [e1, e2, e3, e4, e5], x0, x1, y0, y1, z0, z1, u0, u1, v0, v1⟩
structure BagInv (N : List Str) (m : Bag) (j : Nat) : Prop where
  nd : (m.map (·.1)).Nodup
  key : ∀ p ∈ m, p.1 ∈ N.take 4
  len : m.length ≤ j
  bd : ∀ c, Bd (16 * j + 1) (bagVal m c)
structure RatesInv (N : List Str) (rs : List (Str × Int)) (j n : Nat) : Prop where
  nd : (rs.map (·.1)).Nodup
  key : ∀ i, i < j → (asAt rs (N.getD i (sx []))).isSome = true
  val : ∀ c x, asAt rs c = some x → 1 ≤ x ∧ x ≤ 1000000000
  len : rs.length ≤ n
theorem RatesInv.put {N : List Str} {rs : List (Str × Int)} {j n : Nat} (h : RatesInv N rs j n) (c : Str) (x : Int) (hx : 1 ≤ x ∧ x ≤ 1000000000) : RatesInv N (asPut rs c x) j (n + 1) := by
  refine ⟨asPut_nodup h.nd, fun i hi => ?_, fun d y hd => ?_, ?_⟩
  · rw [asAt_put]
    split
    · rfl
    · exact h.key i hi
  · rw [asAt_put] at hd
    split at hd
    · cases hd; exact hx
    · exact h.val d y hd
  · have := h.len
    have e : ((asPut rs c x).map (·.1)).length ≤ rs.length + 1 := by
      rw [asPut_keys]
      split <;> simp
    rw [List.length_map] at e
    omega
theorem RatesInv.put' {N : List Str} {rs : List (Str × Int)} {j n : Nat} (h : RatesInv N rs j n) (c : Str) (x : Int) (hc : (asAt rs c).isSome = true) (hx : 1 ≤ x ∧ x ≤ 1000000000) : RatesInv N (asPut rs c x) j n := by
  have h' := h.put c x hx
  refine ⟨h'.nd, h'.key, h'.val, ?_⟩
  have e : ((asPut rs c x).map (·.1)).length = rs.length := by rw [asPut_keys, if_pos hc, List.length_map]
  rw [List.length_map] at e
  rw [e]
  exact h.len
theorem bag_put_inv {N : List Str} {m : Bag} {j : Nat} (h : BagInv N m j) {c : Str} {q : Rat} (hc : c ∈ N.take 4) (hq : Bd 14 q) : BagInv N (bagPut m c (bagVal m c + q)) (j + 1) := by
  refine ⟨put_nodup h.nd, fun p hp => ?_, ?_, fun d => ?_⟩
  · have : p.1 ∈ (bagPut m c (bagVal m c + q)).map (·.1) := List.mem_map_of_mem hp
    rw [put_keys] at this
    split at this
    · obtain ⟨p', hp', e⟩ := List.mem_map.mp this
      rw [← e]
      exact h.key p' hp'
    · rcases List.mem_append.mp this with z | z
      · obtain ⟨p', hp', e⟩ := List.mem_map.mp z
        rw [← e]
        exact h.key p' hp'
      · rw [List.mem_singleton.mp z]
        exact hc
  · have := h.len
    have e : ((bagPut m c (bagVal m c + q)).map (·.1)).length ≤ m.length + 1 := by
      rw [put_keys]
      split <;> simp
    rw [List.length_map] at e
    omega
  · have e : bagVal (bagPut m c (bagVal m c + q)) d = if d = c then bagVal m c + q else bagVal m d := by
      unfold bagVal
      rw [bagAt_put]
      split <;> rfl
    rw [e]
    split
    · exact ((h.bd c).add hq).mono (by omega)
    · exact (h.bd d).mono (by omega)
theorem frac_times (q : Rat) (x : Int) : Rat.divInt (q.num * x) ((q.den : Int) * 1000) = q * Rat.divInt x 1000 := by
  rw [← Rat.divInt_mul_divInt, Rat.num_divInt_den]
theorem wsum_fsum (m : Bag) (r : Str → Int) : wsum m r = fsum m fun c => Rat.divInt (r c) 1000 := rfl
abbrev s_law : Stmt := topS 15
abbrev N_law : List Str := ["_law_script", "_law_names_here", "_law_k", "_law_bag", "_law_by_rates", "_law_j", "_law_which", "_law_top", "_law_low", "_law_turn", "_law_rate", "_law_purse", "_law_again", "_law_due", "_law_coin", "_law_handed", "_law_part"]
abbrev P_law : List Str := ["_law_script"]
theorem sc_law : FnScope N_law P_law (defScope s_law) := ⟨rfl, rfl, rfl, by decide +kernel, rfl, by decide +kernel, by decide +kernel⟩
theorem fn_law {C CN CP : Addr} {fa : Addr} {fd : FuncData} (F : Src K "law" "law" s_law fa fd) (B : Blt mg) (T : PartC K C) (TP : PurseC K CP) (g_Part : Cst mg "Part" (.ref C)) (c__law_digits : Cal P w K mg base 2 "_law_digits" [] (spDigits K)) (c__law_names : Cal P w K mg base 3 "_law_names" [] (spNames K)) (c__law_frac : Cal P w K mg base 1 "_law_frac" [] spFrac)
    (c__law_plus : Cal P w K mg base 2 "_law_plus" [] (spFPlus K)) (c__law_add : Cal P w K mg base 3 "_law_add" [] (spFAdd K)) (c__law_same : Cal P w K mg base 1 "_law_same" [] (spSame K)) (m_Part_2 : Mkr P w K mg base 2 "Part" C [] (spPartInit C CN))
    (m_Purse_1 : Mkr P w K mg base 5 "Purse" CP [] (spPurseInit K C CP)) (t_Purse_worth : Mtd P w K mg base 5 CP "worth" [] (spWorth K C CP)) : Fn P w K mg base 7 fa fd P_law (spLaw K) := by
  refine F.fn sc_law (fun vs H Q E h => ?_) (fun cdv A outer s H vs Q E hr hG h => ?_)
  · obtain ⟨a, ns, rfl, _⟩ := h
    rfl
  · obtain ⟨a, ns0, rfl, ha, q⟩ := h
    have hu := hu_of hr
    have nd := sc_law.nd
    refine ⟨_, (pss_cons (ps_set (i := 0) nd rfl (Or.inl rfl) (pe_slice (uq_sl (K := K)) (pv 0) po_none (po_some pe_int)))
      (pss_cons (ps_set (i := 1) nd rfl (Or.inl rfl) (ue_call c__law_names hr (by decide) hG (by rfl) PB (pa_cons (pv 0) (pa_cons pe_int (pa_cons pe_int pa_nil)))))
      (pss_cons (ps_for PW rfl (pi_range1 (by rfl) B.b_range (pa_cons pe_int pa_nil)) (pg_name (i := 2) nd rfl (Or.inl rfl)) (pss_cons (ps_asg (pe_tup (pa_cons pe_dnewK (pa_cons pe_dnewK pa_nil))) (ug_seq (K := K) (n := 2) rfl (pgs_cons (pg_name (i := 3) nd rfl (Or.inr rfl)) (pgs_cons (pg_name (i := 4) nd rfl (Or.inl rfl)) pgs_nil))))
      (Evl.pss_cut (ps_for PW rfl (pi_range1 (by rfl) B.b_range (pa_cons pe_int pa_nil)) (pg_name (i := 5) nd rfl (Or.inl rfl)) (pss_cons (ps_asg (ue_call c__law_digits hr (by decide) hG (by rfl) PB (pa_cons (pv 0) (pa_cons (pe_op uq_add (pe_op uq_add pe_int (pe_op uq_mul pe_int (pv 2))) (pv 5)) (pa_cons (pe_lst (pa_cons pe_int (pa_cons pe_int (pa_cons pe_int (pa_cons pe_int (pa_cons pe_int pa_nil)))))) pa_nil)))) (ug_seq (K := K) (n := 5) rfl (pgs_cons (pg_name (i := 6) nd rfl (Or.inl rfl)) (pgs_cons (pg_name (i := 7) nd rfl (Or.inl rfl)) (pgs_cons (pg_name (i := 8) nd rfl (Or.inl rfl)) (pgs_cons (pg_name (i := 9) nd rfl (Or.inl rfl)) (pgs_cons (pg_name (i := 10) nd rfl (Or.inl rfl)) pgs_nil)))))))
      (pss_cons (ps_expr (ue_call c__law_add hr (by decide) hG (by rfl) PB (pa_cons (pv 3) (pa_cons (pe_ix (uq_ix (K := K) hu) (pv 1) (pv 6) (fun _ _ => rfl)) (pa_cons (pe_ix (uq_ix (K := K) hu) (pe_lst (pa_cons (pv 7) (pa_cons (pe_op uq_sub pe_int (pv 7)) pa_nil))) (pv 9) (fun _ _ => rfl)) (pa_cons (pe_op uq_add pe_int (pv 8)) pa_nil))))))
      (pss_one (ps_asg (pe_ix (uq_ix (K := K) hu) (pe_lst (pa_cons (pe_op uq_add pe_int (pv 10)) (pa_cons pe_int (pa_cons (pe_op uq_pow pe_int pe_int) (pa_cons pe_int pa_nil))))) (pe_op uq_mod (pe_op uq_add (pv 9) (pv 5)) pe_int) (fun _ _ => rfl)) (pg_sub (pv 4) (pe_ix (uq_ix (K := K) hu) (pv 1) (pv 5) (fun _ _ => rfl)) (uq_set hu)))))))
      (Evl.pss_cut (ps_if (pt_cmpR (uq_eq (K := K) hr) (pv 2) pe_int (nomark _)) (pss_one (ps_asg pe_int (pg_sub (pv 4) (pe_ix (uq_ix (K := K) hu) (pv 1) pe_int (fun _ _ => rfl)) (uq_set hu)))) pss_nil)
      (pss_cons (ps_set (i := 11) nd rfl (Or.inl rfl) (ue_make m_Purse_1 hr (by decide) hG (by rfl) PB (pa_cons (pe_lock (pe_lc (own := [("_law_coin", 14)]) rfl nd (pi_keys (pv 3)) (blkOk_by (own := [("_law_coin", 14)]) (N := N_law) (sc := defScope (s_law)) (by decide +kernel)) (fun _ _ _ _ _ => (pg_name (i := 14) nd rfl (Or.inl rfl))) (fun _ _ _ _ _ => pts_nil) (fun _ _ _ _ _ => (pe_tup (pa_cons (pv 14) (pa_cons (ue_make m_Part_2 hr (by decide) hG (by rfl) PC (pa_cons (pe_ix (uq_ix (K := K) hu) (pe_ix (uq_ix (K := K) hu) (pv 3) (pv 14) (fun _ _ => rfl)) pe_int (fun _ _ => rfl)) (pa_cons (pe_ix (uq_ix (K := K) hu) (pe_ix (uq_ix (K := K) hu) (pv 3) (pv 14) (fun _ _ => rfl)) pe_int (fun _ _ => rfl)) pa_nil))) pa_nil)))))) pa_nil)))
      (pss_one (ps_for PW rfl (pi_range1 (by rfl) B.b_range (pa_cons pe_int pa_nil)) (pg_name (i := 12) nd rfl (Or.inl rfl)) (pss_cons (ps_set (i := 13) nd rfl (Or.inl rfl) (pe_tup (pa_cons pe_int (pa_cons pe_int pa_nil))))
      (pss_cons (ps_lock (ps_for PW rfl (pi_keys (pv 3)) (pg_name (i := 14) nd rfl (Or.inl rfl)) (pss_one (ps_set (i := 13) nd rfl (Or.inl rfl) (ue_call c__law_plus hr (by decide) hG (by rfl) PB (pa_cons (pv 13) (pa_cons (ue_call c__law_frac hr (by decide) hG (by rfl) PB (pa_cons (pe_op uq_mul (pe_ix (uq_ix (K := K) hu) (pe_ix (uq_ix (K := K) hu) (pv 3) (pv 14) (fun _ _ => rfl)) pe_int (fun _ _ => rfl)) (pe_ix (uq_ix (K := K) hu) (pv 4) (pv 14) (fun _ _ => rfl))) (pa_cons (pe_op uq_mul (pe_ix (uq_ix (K := K) hu) (pe_ix (uq_ix (K := K) hu) (pv 3) (pv 14) (fun _ _ => rfl)) pe_int (fun _ _ => rfl)) pe_int) pa_nil))) pa_nil)))))))
      (pss_cons (ps_set (i := 15) nd rfl (Or.inl rfl) (pe_callTy uc_dict (by rfl) B.b_dict (by decide +kernel) (pa_cons (pv 4) pa_nil)))
      (pss_cons (ps_set (i := 16) nd rfl (Or.inl rfl) (ue_meth (pv 11) t_Purse_worth hr (by decide) hG PB (pa_cons (pv 15) pa_nil)))
      (pss_cons (ps_if (PW.pt (pw_or (pt_not (ut_truth (K := K) (pe_callB (uc_isinstance (K := K)) (by rfl) B.b_isinstance (by decide +kernel) (pa_cons (pv 16) (pa_cons (ue_cst g_Part (by rfl)) pa_nil))))) (pw_or (pt_not (ut_truth (K := K) (ue_call c__law_same hr (by decide) hG (by rfl) PB (pa_cons (pe_tup (pa_cons (ue_fld (K := K) (pv 16) rfl) (pa_cons (ue_fld (K := K) (pv 16) rfl) pa_nil))) (pa_cons (pv 13) pa_nil))))) (pw_or1 (pt_cmpR (uq_ne (K := K) hr) (pv 15) (pv 4) (nomark _)))))) (pss_one (ps_ret pe_bl)) pss_nil)
      (pss_one (ps_asg (pe_op uq_add (pe_op uq_mod (pe_ix (uq_ix (K := K) hu) (pv 4) (pe_ix (uq_ix (K := K) hu) (pv 1) pe_int (fun _ _ => rfl)) (fun _ _ => rfl)) pe_int) pe_int) (pg_sub (pv 4) (pe_ix (uq_ix (K := K) hu) (pv 1) pe_int (fun _ _ => rfl)) (uq_set hu))))))))))))))))
      (pss_one (ps_ret pe_bl))))), ?_⟩
    walk_at "go"
    refine i_slL ha fun l hl => ?_
    rw [cut_ints]
    generalize ns0.take 63 = ns
    generalize e1 : upd H l (.lst (ns.map V.int)) = H1
    obtain ⟨s1, hl1⟩ := newH hl e1
    walk_at "go"
    refine ⟨l, ns, 0, 5, rfl, SqL.of hl1, by decide, by decide, by decide, fun nm H2 hnm s2 hnm2 => ?_⟩
    obtain ⟨nok1, nok2⟩ := names_ok ns 0 5 (by decide)
    have nlen := names_len ns 0 5
    generalize eN : names ns 0 5 = N at hnm2 nok1 nok2 nlen
    have hnL : SqL K H2 nm (N.map V.str) := SqL.of hnm2
    have hlL : SqL K H2 l (ns.map V.int) := SqL.of (s2 _ _ hl1)
    walk_at "go"
    refine ⟨(3 : Int), rfl, by omega, by omega, ?_⟩
    refine for_range (lo := 0) (n := (3 : Int).toNat) (fun i σ H' => ∃ v2 v3 v4 v5 v6 v7 v8 v9 v10 v11 v12 v13 v14 v15 v16 : Option V, Same H2 H' ∧ σ = [some (.ref l), some (.ref nm), v2, v3, v4, v5, v6, v7, v8, v9, v10, v11, v12, v13, v14, v15, v16])
      ⟨none, none, none, none, none, none, none, none, none, none, none, none, none, none, none, Same.refl H2, rfl⟩ ?_ ?_
    · rintro i σ H3 hi ⟨v2, v3, v4, v5, v6, v7, v8, v9, v10, v11, v12, v13, v14, v15, v16, s3, rfl⟩
      have hi3 : i < 3 := hi
      walk_at "go"
      intro d1 hd1
      generalize e4 : upd H3 d1 (.dK []) = H4
      obtain ⟨s4, h14⟩ := newH hd1 e4
      walk_at "go"
      intro d2 hd2
      generalize e5 : upd H4 d2 (.dK []) = H5
      obtain ⟨s5, h25⟩ := newH hd2 e5
      have h15 := s5 _ _ h14
      walk_at "go"
      refine ⟨sz_small (by simp), fun tt htt => ?_⟩
      generalize e5a : upd H5 tt (.tup [.ref d1, .ref d2]) = H5a
      obtain ⟨s5a, htt5⟩ := newH htt e5a
      refine g_gseqT (xs := [.ref d1, .ref d2]) (SqT.of htt5) rfl ?_
      have h15 := s5a _ _ h15
      have h25 := s5a _ _ h25
      have s5 := s5.trans s5a
      have n12 : d2 ≠ d1 := fun z => by rw [z, h14] at hd2; cases hd2
      have hd2' : H3 d2 = none := s4.free hd2
      walk_at "go"
      refine ⟨fun σ' H' => ∃ (kvs kvr : List (Key × V)) (m : Bag) (rs : List (Str × Int)) (v5 v6 v7 v8 v9 v10 : Option V), Same H3 H' ∧ H' d1 = some (.dK kvs) ∧ H' d2 = some (.dK kvr) ∧ KvAt (FracV K H') kvs m ∧ KvAt IntV kvr rs ∧ BagInv N m 4 ∧ RatesInv N rs 4 4 ∧
        σ' = [some (.ref l), some (.ref nm), some (.int (0 + (i : Int))), some (.ref d1), some (.ref d2), v5, v6, v7, v8, v9, v10, v11, v12, v13, v14, v15, v16], ?_, ?_⟩
      · walk_at "go"
        refine ⟨(4 : Int), rfl, by omega, by omega, ?_⟩
        refine for_range (lo := 0) (n := (4 : Int).toNat) (fun j σ H' => ∃ (kvs kvr : List (Key × V)) (m : Bag) (rs : List (Str × Int)) (v5 v6 v7 v8 v9 v10 : Option V), Same H3 H' ∧ H' d1 = some (.dK kvs) ∧ H' d2 = some (.dK kvr) ∧ KvAt (FracV K H') kvs m ∧ KvAt IntV kvr rs ∧ BagInv N m j ∧ RatesInv N rs j j ∧
          σ = [some (.ref l), some (.ref nm), some (.int (0 + (i : Int))), some (.ref d1), some (.ref d2), v5, v6, v7, v8, v9, v10, v11, v12, v13, v14, v15, v16])
          ⟨[], [], [], [], v5, v6, v7, v8, v9, v10, s4.trans s5, h15, h25, .nil, .nil, ⟨List.nodup_nil, fun _ h => (nomatch h), Nat.le_refl _, fun c => bd_zero (by decide)⟩, ⟨List.nodup_nil, fun i h => absurd h (Nat.not_lt_zero i), fun c x h => (nomatch h), Nat.le_refl _⟩, rfl⟩ ?_ ?_
        · rintro j σ H6 hj ⟨kvs, kvr, m, rs, v5, v6, v7, v8, v9, v10, s6, h16, h26, hk, hkr, bi, ri, rfl⟩
          have hj4 : j < 4 := hj
          walk_at "go"
          refine ⟨sz_small (by simp), fun z hz => ?_⟩
          generalize e7 : upd H6 z (.lst [.int 4, .int 9000, .int 30, .int 2, .int 99991]) = H7
          obtain ⟨s7, hz7⟩ := newH hz e7
          walk_at "go"
          have s27 : Same H2 H7 := s3.trans (s6.trans s7)
          obtain ⟨x1, x2, x3, x4, x5, ed, a1, b1, a2, b2, a3, b3, a4, b4, a5, b5⟩ := digs5 ns (2 + 4 * (0 + (i : Int)) + (0 + (j : Int))) 4 9000 30 2 99991 (by decide) (by decide) (by decide) (by decide) (by decide)
          refine ⟨l, z, ns, 2 + 4 * (0 + (i : Int)) + (0 + (j : Int)), [4, 9000, 30, 2, 99991], rfl, s27.seq hlL, SqL.of hz7, by omega, by omega, by decide, by decide, fun p H8 hp s8 hp8 => ?_⟩
          rw [ed] at hp8
          refine g_gseqL (xs := [.int x1, .int x2, .int x3, .int x4, .int x5]) (SqL.of hp8) rfl ?_
          walk_at "go"
          have s68 : Same H6 H8 := s7.trans s8
          have hn8 := (s27.trans s8).seq hnL
          obtain ⟨nx, hx1, hx2⟩ := atI_strs (xs := N) (i := x1) a1 (by omega)
          refine i_ixL hn8 hx2 ?_
          walk_at "go"
          refine ⟨sz_small (by simp), fun z2 hz2 => ?_⟩
          generalize e9 : upd H8 z2 (.lst [.int x2, .int (0 - x2)]) = H9
          obtain ⟨s9, hz9⟩ := newH hz2 e9
          walk_at "go"
          obtain ⟨t, et, t0, t1⟩ := at2 (P := fun v => -9000 < v ∧ v < 9000) x2 (0 - x2) (i := x4) a4 b4 (by omega) (by omega)
          refine i_ixL (SqL.of hz9) et ?_
          walk_at "go"
          have s69 := s68.trans s9
          have p14 : (2 : Nat) ^ 14 = 16384 := by decide
          have big : ∀ {x : Int}, -9000 < x → x < 9000 → x.natAbs < 2 ^ 4400 := fun h1 h2 => Nat.lt_of_lt_of_le (m := 2 ^ 14) (by omega) (Nat.pow_le_pow_right (by decide) (by decide))
          have hnx4 : nx ∈ N.take 4 := List.mem_iff_getElem?.mpr ⟨x1.toNat, by rw [List.getElem?_take, if_pos (by omega)]; exact hx1⟩
          refine ⟨d1, nx, t, 1 + x3, kvs, m, rfl, s69 _ _ h16, hk.imp fun v x h => h.mono s69, by omega, big (by omega) (by omega), big (by omega) (by omega), (bi.bd nx).mono (by omega), by have := hk.len; have := bi.len; omega, fun H10 kvs' s10 h110 hk10 => ?_⟩
          have bi' : BagInv N (bagPut m nx (bagVal m nx + Rat.divInt t (1 + x3))) (j + 1) := bag_put_inv bi hnx4 (bd_divInt (by omega) (by omega) (by omega))
          have h210 : H10 d2 = some (.dK kvr) := s10 _ _ (hid_of n12 (s69 _ _ h26))
          have s310 : Same H3 H10 := by
            refine Same.trans ?_ s10
            exact hid_base (s6.trans s69) hd1
          walk_at "go"
          refine ⟨sz_small (by simp), fun z3 hz3 => ?_⟩
          have p9 : (10 : Int) ^ (9 : Int).toNat = 1000000000 := by decide
          rw [p9]
          generalize e11 : upd H10 z3 (.lst [.int (1 + x5), .int 1000, .int 1000000000, .int 1]) = H11
          obtain ⟨s11, hz11⟩ := newH hz3 e11
          walk_at "go"
          have m4 := mod_ok (x4 + (0 + (j : Int))) (n := 4) (by decide)
          obtain ⟨y, ey, y0, y1⟩ := at4 (P := fun v => 1 ≤ v ∧ v ≤ 1000000000) (1 + x5) 1000 1000000000 1 (i := (x4 + (0 + (j : Int))) % 4) m4.1 m4.2 (by omega) (by omega) (by omega) (by omega)
          refine i_ixL (SqL.of hz11) ey ?_
          walk_at "go"
          refine i_ixL ((s3.trans (s310.trans s11)).seq hnL) (strs_getD (by omega)) ?_
          have h211 := s11 _ _ h210
          refine i_setD (DPut.k (k := Sum.inr (N.getD j (sx []))) h211 (sz_small' (by have := hkr.len; have := ri.len; omega))) ?_
          refine ⟨kvs', _, _, asPut rs (N.getD j (sx [])) y, _, _, _, _, _, _, (s310.trans s11).mut hd2', by rw [upd_ne n12.symm]; exact s11 _ _ h110, upd_same, (hk10.imp fun v x h => ((h.mono hid_up).mono s11).put h211), KvAt.put (R := IntV) rfl hkr, bi', ?_, rfl⟩
          have r' := ri.put (N.getD j (sx [])) y ⟨y0, y1⟩
          refine ⟨r'.nd, fun i' hi' => ?_, r'.val, r'.len⟩
          by_cases e : i' = j
          · rw [e, asAt_put, if_pos rfl]
            rfl
          · exact r'.key i' (by omega)
        · rintro σ H6 ⟨kvs, kvr, m, rs, v5, v6, v7, v8, v9, v10, s6, h16, h26, hk, hkr, bi, ri, rfl⟩
          exact ⟨kvs, kvr, m, rs, v5, v6, v7, v8, v9, v10, s6, h16, h26, hk, hkr, bi, ri, rfl⟩
      · clear e4 e5 s4 h14 h15 h25
        rintro σ' H6 ⟨kvs, kvr, m, rs, v5, v6, v7, v8, v9, v10, s6, h16, h26, hk, hkr, bi, ri, rfl⟩
        walk_at "go"
        refine ⟨fun σ' H' => ∃ (kvr : List (Key × V)) (rs : List (Str × Int)), Same H3 H' ∧ H' d1 = some (.dK kvs) ∧ H' d2 = some (.dK kvr) ∧ KvAt (FracV K H') kvs m ∧ KvAt IntV kvr rs ∧ RatesInv N rs 4 5 ∧
          σ' = [some (.ref l), some (.ref nm), some (.int (0 + (i : Int))), some (.ref d1), some (.ref d2), v5, v6, v7, v8, v9, v10, v11, v12, v13, v14, v15, v16], ?_, ?_⟩
        · walk_at "go"
          refine ite2 (fun h => ?_) (fun h => ?_)
          · walk_at "go"
            refine i_ixL ((s3.trans s6).seq hnL) (strs_getD (j := 4) (by omega)) ?_
            refine i_setD (DPut.k (k := Sum.inr (N.getD 4 (sx []))) h26 (sz_small' (by have := hkr.len; have := ri.len; omega))) ?_
            exact ⟨_, asPut rs (N.getD 4 (sx [])) 17, s6.mut hd2', by rw [upd_ne n12.symm]; exact h16, upd_same, hk.imp fun v x h => h.put h26, KvAt.put (R := IntV) rfl hkr, ri.put _ 17 (by decide), rfl⟩
          · walk_at "go"
            exact ⟨kvr, rs, s6, h16, h26, hk, hkr, ⟨ri.nd, ri.key, ri.val, Nat.le_succ_of_le ri.len⟩, rfl⟩
        · clear hkr ri h26 hk h16 s6 H6 rs kvr
          rintro σ' H6 ⟨kvr, rs, s6, h16, h26, hk, hkr, ri, rfl⟩
          have hkl : kvs.length = m.length := hk.len
          have hml := bi.len
          have hmb : ∀ p ∈ m, Bd 65 p.2 := fun p hp => by
            have := bi.bd p.1
            rw [bagVal_mem bi.nd hp] at this
            exact this
          walk_at "go"
          refine g_lockE h16 fun od => ?_
          generalize e7 : upd H6 d1 (.frz od (.dK kvs)) = H7
          have G7 : Same (hid d1 H6) H7 := by rw [← e7]; exact hid_lock
          have h17 : H7 d1 = some (.frz od (.dK kvs)) := by rw [← e7]; exact upd_same
          have hkG : KvAt (FracV K (hid d1 H6)) kvs m := hk.imp fun v x h => h.hid h16
          walk_at "go"
          refine ⟨d1, od, rfl, Or.inl ⟨kvs, h17, fun D hD => ?_⟩⟩
          refine lc_it (walk_keys (d := d1) (o := od) (kvs := kvs)) (fun j H' => ∃ xs, Same (hid d1 H6) H' ∧ H' d1 = some (.frz od (.dK kvs)) ∧ H' D = some (.lst xs) ∧ RowsAt K C H' xs (m.take j))
            ⟨[], G7.mut (G7.free hD), by rw [upd_ne (fun z => by rw [← z, h17] at hD; cases hD)]; exact h17, upd_same, .nil⟩ (fun j H' _ ⟨_, _, h, _⟩ => h) ?_ ?_
          · rintro j y Hx H8 hj ⟨xs, s8, h18, hD8, hr8⟩ ⟨rfl, kx, vx, hkx, rfl⟩
            have hj' : j < m.length := by omega
            obtain ⟨p, hp⟩ : ∃ p, m[j]? = some p := ⟨m[j], List.getElem?_eq_getElem hj'⟩
            obtain ⟨v, hv1, b, rfl, hb2⟩ := (hkG.imp fun v x h => h.mono s8).at hp
            rw [hv1] at hkx
            cases hkx
            have evk : valV kvs (Sum.inr p.1 : Key) = some (.ref b) := by
              rcases hkG.get p.1 with ⟨v', x', e1, e2, _⟩ | ⟨_, e2⟩
              · rw [e1]
                have := valV_mem' hkG bi.nd hv1
                rw [e1] at this
                exact this
              · have : (asAt m p.1).isSome = true := asAt_some.mpr (List.mem_map_of_mem (List.mem_of_getElem? hp))
                rw [e2] at this
                cases this
            have gk : DGet H8 d1 (.str p.1) (some (.ref b)) := by rw [← evk]; exact DGet.f (k := Sum.inr p.1) h18
            walk_at "go"
            refine ⟨rfl, ?_⟩
            walk_at "go"
            refine i_ixD gk ?_
            walk_at "go"
            refine i_ixT hb2 rfl ?_
            walk_at "go"
            refine i_ixD gk ?_
            walk_at "go"
            refine i_ixT hb2 rfl ?_
            walk_at "go"
            intro x9 dx9 hx9 hdx9 hn9
            have bdp := hmb p (List.mem_of_getElem? hp)
            have lp := low_pos p.2
            refine make_part rfl hx9 hdx9 hn9 (by omega) (by rw [Int.natAbs_natCast]; exact Nat.lt_of_lt_of_le bdp.low (Nat.pow_le_pow_right (by decide) (by decide))) fun H9 s9 hp9 => ?_
            rw [Rat.num_divInt_den] at hp9
            walk_at "go"
            refine ⟨sz_small (by simp), fun t ht => ?_⟩
            generalize e10 : upd H9 t (.tup [kV (Sum.inr p.1), .ref x9]) = H10
            obtain ⟨s10, ht10⟩ := newH ht e10
            have hD10 := s10 _ _ (s9 _ _ hD8)
            have hxl := hr8.len
            rw [List.length_take] at hxl
            refine ⟨xs, hD10, sz_small' (by omega), ?_⟩
            refine ⟨xs ++ [.ref t], ((s8.trans s9).trans s10).mut (G7.free hD), ?_, upd_same, ?_⟩
            · rw [upd_ne (fun z => by rw [← z, h17] at hD; cases hD)]
              exact s10 _ _ (s9 _ _ h18)
            · rw [take_snoc hp]
              exact RowsAt.put hD10 (paired_app (hr8.mono (s9.trans s10)) (.cons ⟨t, x9, rfl, SqT.of ht10, hp9.mono s10⟩ .nil))
          · rintro H8 ⟨xs, s8, h18, hD8, hr8⟩
            refine ⟨h18, ?_⟩
            rw [hkl, List.take_length] at hr8
            have nD1 : D ≠ d1 := fun z => by rw [z, h17] at hD; cases hD
            generalize e9 : upd H8 d1 (.dK kvs) = H9
            have s69 : Same H6 H9 := by rw [← e9]; exact same_unlock h16 s8
            have hD9 : H9 D = some (.lst xs) := by rw [← e9, upd_ne nD1]; exact hD8
            have hr9 : RowsAt K C H9 xs m := by
              rw [← e9]
              have : ∀ {xs : List V} {r : Bag}, RowsAt K C H8 xs r → RowsAt K C (upd H8 d1 (.dK kvs)) xs r := by
                intro xs r h
                induction h with
                | nil => exact .nil
                | cons h1 _ ih =>
                  obtain ⟨t, b, e1, e2, e3⟩ := h1
                  refine .cons ⟨t, b, e1, ?_, e3.put h18 (fun _ _ z => nomatch z)⟩ ih
                  rcases e2 with e2 | e2
                  · rcases e2 with e2 | ⟨o, e2⟩
                    · refine Or.inl (Or.inl ?_)
                      rw [upd_ne (fun z => by rw [z, h18] at e2; cases e2)]
                      exact e2
                    · refine Or.inl (Or.inr ⟨o, ?_⟩)
                      rw [upd_ne (fun z => by rw [z, h18] at e2; cases e2)]
                      exact e2
                  · exact Or.inr e2
              exact this hr8
            walk_at "go"
            intro pu dpu hpu hdpu hnpu
            refine ⟨pu, dpu, D, H9, xs, m, rfl, ((Same.refl H9).mut hdpu).mut hpu, hpu, upd_same, Or.inl (SqL.of hD9), hr9, by omega, Nat.lt_of_le_of_lt (sum_len m) (by omega), bagOk_of (n := 65) (k := 4) (by decide) hmb (by omega) (by decide) (by decide), fun H10 s10 hpur => ⟨rfl, ?_⟩⟩
            walk_at "go"
            have s610 := s69.trans s10
            have h110 := s610 _ _ h16
            have h210 := s610 _ _ h26
            have hk10 := hk.imp fun v x (h : FracV K H6 v x) => h.mono s610
            have rne : rs ≠ [] := fun z => by
              have := ri.key 0 (by decide)
              rw [z] at this
              cases this
            have sG : Same H3 (hid d2 H10) := hid_base (s6.trans s610) hd2'
            have purG := hpur.hidI h210 hkr rne
            have h1G : hid d2 H10 d1 = some (.dK kvs) := hid_of n12.symm h110
            have hkG2 : KvAt (FracV K (hid d2 H10)) kvs m := hk10.imp fun v x h => h.hid h210
            have d2G : hid d2 H10 d2 = none := by unfold hid; rw [if_pos rfl]
            have upG : Same (hid d2 H10) H10 := hid_up
            generalize hid d2 H10 = G at sG purG h1G hkG2 d2G upG
            refine ⟨(2 : Int), rfl, by omega, by omega, ?_⟩
            refine for_range (lo := 0) (n := (2 : Int).toNat) (fun _ σ H' => ∃ (kvr : List (Key × V)) (rs : List (Str × Int)) (v12 v13 v14 v15 v16 : Option V), Same G H' ∧ H' d2 = some (.dK kvr) ∧ KvAt IntV kvr rs ∧ RatesInv N rs 4 5 ∧
              σ = [some (.ref l), some (.ref nm), some (.int (0 + (i : Int))), some (.ref d1), some (.ref d2), v5, v6, v7, v8, v9, v10, some (.ref pu), v12, v13, v14, v15, v16]) ⟨kvr, rs, v12, v13, v14, v15, v16, ?_, h210, hkr, ri, rfl⟩ ?_ ?_
            · exact upG
            · clear hkr ri h210 rne h26 hpur
              rintro j σ H11 hj ⟨kvr, rs, v12, v13, v14, v15, v16, sg, h2, hkr, ri, rfl⟩
              have inR : ∀ c ∈ N.take 4, ∃ x, asAt rs c = some x ∧ 1 ≤ x ∧ x ≤ 1000000000 := fun c hc => by
                obtain ⟨k, hk4⟩ := List.mem_iff_getElem?.mp hc
                rw [List.getElem?_take] at hk4
                have hk4l : k < 4 := by
                  rcases Nat.lt_or_ge k 4 with h | h
                  · exact h
                  · rw [if_neg (by omega)] at hk4; cases hk4
                rw [if_pos hk4l] at hk4
                have e : N.getD k (sx []) = c := by rw [List.getD_eq_getElem?_getD, hk4]; rfl
                have := ri.key k hk4l
                rw [e] at this
                obtain ⟨x, hx⟩ := Option.isSome_iff_exists.mp this
                exact ⟨x, hx, ri.val c x hx⟩
              have inM : ∀ p ∈ m, ∃ x, asAt rs p.1 = some x ∧ 1 ≤ x ∧ x ≤ 1000000000 := fun p hp => inR _ (bi.key p hp)
              generalize er : (fun c : Str => (asAt rs c).getD 0) = r
              have rv : ∀ {c x}, asAt rs c = some x → r c = x := fun {c x} h => by rw [← er]; show (asAt rs c).getD 0 = x; rw [h]; rfl
              have rb : ∀ c, (r c).natAbs < 2 ^ 64 := fun c => by
                have p64 : (2 : Nat) ^ 64 = 18446744073709551616 := by decide
                cases e : asAt rs c with
                | none =>
                  have : r c = 0 := by rw [← er]; show (asAt rs c).getD 0 = 0; rw [e]; rfl
                  rw [this]
                  decide
                | some x =>
                  have := ri.val c x e
                  rw [rv e]
                  omega
              walk_at "go"
              refine ⟨sz_small (by simp), fun t0 ht0 => ?_⟩
              generalize e12 : upd H11 t0 (.tup [.int 0, .int 1]) = H12
              obtain ⟨s12, ht12⟩ := newH ht0 e12
              walk_at "go"
              have sg12 := sg.trans s12
              have h1b : H12 d1 = some (.dK kvs) := sg12 _ _ h1G
              have h2b : H12 d2 = some (.dK kvr) := s12 _ _ h2
              refine g_lock h1b fun od2 => ?_
              generalize e13 : upd H12 d1 (.frz od2 (.dK kvs)) = H13
              have L13 : Same (hid d1 H12) H13 := by rw [← e13]; exact hid_lock
              have h1c : H13 d1 = some (.frz od2 (.dK kvs)) := by rw [← e13]; exact upd_same
              have hkL : KvAt (FracV K (hid d1 H12)) kvs m := hkG2.imp fun v x h => (h.mono sg12).hid h1b
              have h2L : hid d1 H12 d2 = some (.dK kvr) := hid_of n12 h2b
              have t0L : FracV K (hid d1 H12) (.ref t0) 0 := FracV.hid h1b ⟨t0, rfl, SqT.of ht12⟩
              walk_at "go"
              refine ⟨d1, od2, rfl, Or.inl ⟨kvs, h1c, ?_⟩⟩
              refine for_it (walk_keys (d := d1) (o := od2) (kvs := kvs)) (fun n σ H' => ∃ (u : Addr) (v14 : Option V), Same (hid d1 H12) H' ∧ H' d1 = some (.frz od2 (.dK kvs)) ∧ FracV K H' (.ref u) (wsum (m.take n) r) ∧
                  σ = [some (.ref l), some (.ref nm), some (.int (0 + (i : Int))), some (.ref d1), some (.ref d2), v5, v6, v7, v8, v9, v10, some (.ref pu), some (.int (0 + (j : Int))), some (.ref u), v14, v15, v16])
                ⟨t0, v14, L13, h1c, t0L.mono L13, rfl⟩ (fun n σ H' _ ⟨_, _, _, h, _⟩ => h) ?_ ?_
              · rintro n y σ Hx H14 hn ⟨u, v14, s14, h1d, hu14, rfl⟩ ⟨rfl, kx, vx, hkx, rfl⟩
                have hn' : n < m.length := by omega
                obtain ⟨p, hp⟩ : ∃ p, m[n]? = some p := ⟨m[n], List.getElem?_eq_getElem hn'⟩
                have hpm := List.mem_of_getElem? hp
                obtain ⟨v, hv1, b, rfl, hb2⟩ := (hkL.imp fun v x h => h.mono s14).at hp
                rw [hv1] at hkx
                cases hkx
                have evk := valV_mem' hkL bi.nd hv1
                have gk : DGet H14 d1 (.str p.1) (some (.ref b)) := by rw [← evk]; exact DGet.f (k := Sum.inr p.1) h1d
                obtain ⟨x, hx1, hx2, hx3⟩ := inM p hpm
                have h2d := s14 _ _ h2L
                have evr : valV kvr (Sum.inr p.1 : Key) = some (.int x) := by
                  rcases hkr.get p.1 with ⟨v, q, w1, w2, w3⟩ | ⟨_, w2⟩
                  · rw [hx1] at w2
                    cases w2
                    rw [w1, w3]
                  · rw [hx1] at w2
                    cases w2
                have gk2 : DGet H14 d2 (.str p.1) (some (.int x)) := by rw [← evr]; exact DGet.k (k := Sum.inr p.1) h2d
                walk_at "go"
                refine i_ixD gk ?_
                walk_at "go"
                refine i_ixT hb2 rfl ?_
                walk_at "go"
                refine i_ixD gk2 ?_
                refine i_mul (Or.inr ⟨by omega, by omega⟩) ?_
                walk_at "go"
                refine i_ixD gk ?_
                walk_at "go"
                refine i_ixT hb2 rfl ?_
                walk_at "go"
                have bdp := hmb p hpm
                have lp := low_pos p.2
                have p10 : (2 : Nat) ^ 10 = 1024 := by decide
                refine ⟨_, _, rfl, by omega, ?_, fun pf H15 hpf s15 hpf15 => ?_⟩
                · rw [Int.natAbs_mul, Int.natAbs_natCast]
                  exact Nat.lt_of_lt_of_le (mul_lt_pow bdp.low (show (1000 : Int).natAbs < 2 ^ 10 by omega)) (Nat.pow_le_pow_right (by decide) (by decide))
                · rw [frac_times] at hpf15
                  have exr : x = r p.1 := (rv hx1).symm
                  rw [exr] at hpf15
                  walk_at "go"
                  obtain ⟨u', eu', hu15⟩ := hu14.mono s15
                  cases eu'
                  have bds : Bd 600 (wsum (m.take n) r) := (bd_wsum (n := 65) (by decide) r rb (m.take n) fun q hq => hmb q (List.mem_of_mem_take hq)).mono (by
                    have h1 : (m.take n).length ≤ 4 := by rw [List.length_take]; omega
                    omega)
                  have bdf : Bd 129 (p.2 * Rat.divInt (r p.1) 1000) := (bdp.mul (bd_divInt (rb _) (by decide) (by decide)))
                  have l1 := low_pos (wsum (m.take n) r)
                  have l2 := low_pos (p.2 * Rat.divInt (r p.1) 1000)
                  have up : ∀ {z : Nat} {e : Nat}, z < 2 ^ e → e ≤ 4400 → z < 2 ^ 4400 := fun h1 h2 => Nat.lt_of_lt_of_le h1 (Nat.pow_le_pow_right (by decide) h2)
                  refine ⟨u, pf, _, _, _, _, rfl, hu15, SqT.of hpf15, by omega, by omega, up bds.top (by decide), by rw [Int.natAbs_natCast]; exact up bds.low (by decide), up bdf.top (by decide), by rw [Int.natAbs_natCast]; exact up bdf.low (by decide), fun pn H16 hpn s16 hpn16 => ?_⟩
                  rw [Rat.num_divInt_den, Rat.num_divInt_den, ← wsum_snoc, ← take_snoc hp] at hpn16
                  walk_at "go"
                  exact ⟨pn, _, s14.trans (s15.trans s16), s16 _ _ (s15 _ _ h1d), hpn16, rfl⟩
              · rintro σ H14 ⟨u, v14, s14, h1d, hu14, rfl⟩
                refine ⟨h1d, ?_⟩
                rw [hkl, List.take_length] at hu14
                generalize e15 : upd H14 d1 (.dK kvs) = H15
                have s1215 : Same H12 H15 := by rw [← e15]; exact same_unlock h1b s14
                have hu15 : FracV K H15 (.ref u) (wsum m r) := by
                  obtain ⟨u', eu', hh⟩ := hu14
                  cases eu'
                  refine ⟨u, rfl, ?_⟩
                  rw [← e15]
                  rcases hh with hh | hh
                  · rcases hh with hh | ⟨o, hh⟩
                    · refine Or.inl (Or.inl ?_)
                      rw [upd_ne (fun z => by rw [z, h1d] at hh; cases hh)]
                      exact hh
                    · refine Or.inl (Or.inr ⟨o, ?_⟩)
                      rw [upd_ne (fun z => by rw [z, h1d] at hh; cases hh)]
                      exact hh
                  · exact Or.inr hh
                have h2e := s1215 _ _ h2b
                walk_at "go"
                refine i_dictD (Rd.of h2e) fun dh hdh => ?_
                generalize e16 : upd H15 dh (.dK kvr) = H16
                obtain ⟨s16, hdh16⟩ := newH hdh e16
                have sg16 := sg12.trans (s1215.trans s16)
                have pur16 := purG.mono sg16
                walk_at "go"
                obtain ⟨dpx, dpi, kvp, hpu16, _⟩ := id pur16
                refine ⟨pu, dpx, _, rfl, hpu16, rfl, ?_⟩
                walk_at "go"
                have mkk : ∀ p ∈ mkPurse m, p.1 ∈ N.take 4 ∧ Bd 65 p.2 := fun p hp => by
                  obtain ⟨h1, h2⟩ := mk_mem hp
                  obtain ⟨p', hp', e⟩ := List.mem_map.mp h1
                  refine ⟨by rw [← e]; exact bi.key p' hp', ?_⟩
                  rw [h2, rsum_val bi.nd]
                  exact bi.bd p.1
                have mkl := mk_len m
                refine ⟨pu, dh, mkPurse m, kvr, rs, r, 65, rfl, pur16, hdh16, hkr, fun p hp => ?_, rb, by decide, fun p hp => (mkk p hp).2, by omega, by decide, fun x H17 hx s17 hx17 => ?_⟩
                · obtain ⟨x, hx, _⟩ := inR _ (mkk p hp).1
                  rw [hx, rv hx]
                · rw [wsum_fsum, fsum_mk, ← wsum_fsum] at hx17
                  have bdw : Bd 600 (wsum m r) := (bd_wsum (n := 65) (by decide) r rb m hmb).mono (by omega)
                  generalize wsum m r = W at *
                  walk_at "go"
                  obtain ⟨dxx, hx17'⟩ := id hx17
                  refine ⟨.ref x, .ref C, .ref C, .ref C, true, rfl, .own C, T.ow.is hx17', kit_self, ?_⟩
                  walk_at "go"
                  refine x_top T hx17 ?_
                  walk_at "go"
                  refine x_low T hx17 ?_
                  walk_at "go"
                  refine ⟨sz_small (by simp), fun tu htu => ?_⟩
                  generalize e18 : upd H17 tu (.tup [.int W.num, .int (W.den : Int)]) = H18
                  obtain ⟨s18, htu18⟩ := newH htu e18
                  walk_at "go"
                  have s1518 := s16.trans (s17.trans s18)
                  obtain ⟨u', eu', hu18⟩ := hu15.mono s1518
                  cases eu'
                  have dd : ∀ {b : Addr}, SqT K H18 b [.int W.num, .int (W.den : Int)] → Dp K H18 (.ref b) (.tuple [.int W.num, .int (W.den : Int)]) := fun h => .tup h (.cons (.int _) (.cons (.int _) .nil))
                  have okd : SameOk (.tuple [.int W.num, .int (W.den : Int)]) := by
                    refine (good_tuple (n := 601) (k := 0) (m := 2) (fun d hd => ?_) (Nat.le_refl _)).same (by decide) (by decide)
                    have hd' : d = .int W.num ∨ d = .int (W.den : Int) := by simpa using hd
                    rcases hd' with rfl | rfl
                    · exact good_int bdw.top (by decide) (by decide)
                    · exact good_int (by rw [Int.natAbs_natCast]; exact bdw.low) (by decide) (by decide)
                  refine ⟨.ref tu, .ref u, _, rfl, dd (SqT.of htu18), dd hu18, okd, ?_⟩
                  walk_at "go"
                  have h2f := s1518 _ _ h2e
                  refine i_neDA (s18 _ _ (s17 _ _ hdh16)) h2f (kv_self hkr ri.nd) ?_
                  walk_at "go"
                  have sg18 := sg16.trans (s17.trans s18)
                  have nm18 := ((s3.trans sG).trans sg18).seq hnL
                  obtain ⟨x0, hx0, hx0a, hx0b⟩ := inR (N.getD 0 (sx [])) (by
                    refine List.mem_iff_getElem?.mpr ⟨0, ?_⟩
                    rw [List.getElem?_take, if_pos (by decide), List.getD_eq_getElem?_getD, List.getElem?_eq_getElem (by omega)]
                    rfl)
                  have evr : valV kvr (Sum.inr (N.getD 0 (sx [])) : Key) = some (.int x0) := by
                    rcases hkr.get (N.getD 0 (sx [])) with ⟨v, q, w1, w2, w3⟩ | ⟨_, w2⟩
                    · rw [hx0] at w2
                      cases w2
                      rw [w1, w3]
                    · rw [hx0] at w2
                      cases w2
                  have gk3 : DGet H18 d2 (.str (N.getD 0 (sx []))) (some (.int x0)) := by rw [← evr]; exact DGet.k (k := Sum.inr (N.getD 0 (sx []))) h2f
                  refine i_ixL nm18 (strs_getD (j := 0) (by omega)) ?_
                  walk_at "go"
                  refine i_ixD gk3 ?_
                  walk_at "go"
                  refine i_ixL nm18 (strs_getD (j := 0) (by omega)) ?_
                  refine i_setD (DPut.k (k := Sum.inr (N.getD 0 (sx []))) h2f (sz_small' (by have := hkr.len; have := ri.len; omega))) ?_
                  exact ⟨_, asPut rs (N.getD 0 (sx [])) (x0 % 999983 + 2), _, _, _, _, _, sg18.mut d2G, upd_same, KvAt.put (R := IntV) rfl hkr, ri.put' _ _ (by rw [hx0]; rfl) (by omega), rfl⟩
            · rintro σ H11 ⟨kvr, rs, v12, v13, v14, v15, v16, sg, _, _, _, rfl⟩
              exact ⟨_, _, _, _, _, _, _, _, _, _, _, _, _, _, _, s3.trans (sG.trans sg), rfl⟩
    · rintro σ H3 ⟨v2, v3, v4, v5, v6, v7, v8, v9, v10, v11, v12, v13, v14, v15, v16, s3, rfl⟩
      walk_at "go"
      exact q H3

end
theorem all_mk {P : Program} {w : World} {K : PySem.W.Frag} {h : Heap} {mg : Str → Option Value} {fa : Addr} (X : K.In h) (G : h.Ns mainGlobals mg) (hfa : mg "law" = some (.ref fa))
    {C_NoMeasure : Addr}
    {C_Part : Addr}
    {C_Purse : Addr}
    {od1 an1 : Option Addr} {sl1 : Array (Option Value)} {oc1 kV1 dc1 pm1 cd1 ct1 : Value} {f1 : Addr}
    {dt2_0 : Tok}
    {T2 : Addr} {tod2 : Option Addr} {tn2 : Nat} {tsl2 : Array (Option Value)}
    {od2 an2 : Option Addr} {sl2 : Array (Option Value)} {oc2 kV2 dc2 pm2 cd2 ct2 : Value} {f2 : Addr}
    {od3 an3 : Option Addr} {sl3 : Array (Option Value)} {oc3 kV3 dc3 pm3 cd3 ct3 : Value} {f3 : Addr}
    {od4 an4 : Option Addr} {sl4 : Array (Option Value)} {oc4 kV4 dc4 pm4 cd4 ct4 : Value} {f4 : Addr}
    {da5_0 : Addr}
    {eod5_0 : Option Addr} {en5_0 : Nat} {esl5_0 : Array (Option Value)}
    {T5 : Addr} {tod5 : Option Addr} {tn5 : Nat} {tsl5 : Array (Option Value)}
    {od5 an5 : Option Addr} {sl5 : Array (Option Value)} {oc5 kV5 dc5 pm5 cd5 ct5 : Value} {f5 : Addr}
    {od6 an6 : Option Addr} {sl6 : Array (Option Value)} {oc6 kV6 dc6 pm6 cd6 ct6 : Value} {f6 : Addr}
    {od7 an7 : Option Addr} {sl7 : Array (Option Value)} {oc7 kV7 dc7 pm7 cd7 ct7 : Value} {f7 : Addr}
    {od8 an8 : Option Addr} {sl8 : Array (Option Value)} {oc8 kV8 dc8 pm8 cd8 ct8 : Value} {f8 : Addr}
    {od9 an9 : Option Addr} {sl9 : Array (Option Value)} {oc9 kV9 dc9 pm9 cd9 ct9 : Value} {f9 : Addr}
    {od10 an10 : Option Addr} {sl10 : Array (Option Value)} {oc10 kV10 dc10 pm10 cd10 ct10 : Value} {f10 : Addr}
    {od11 an11 : Option Addr} {sl11 : Array (Option Value)} {oc11 kV11 dc11 pm11 cd11 ct11 : Value} {f11 : Addr}
    {od12 an12 : Option Addr} {sl12 : Array (Option Value)} {oc12 kV12 dc12 pm12 cd12 ct12 : Value} {f12 : Addr}
    {od13 an13 : Option Addr} {sl13 : Array (Option Value)} {oc13 kV13 dc13 pm13 cd13 ct13 : Value} {f13 : Addr}
    {od14 an14 : Option Addr} {sl14 : Array (Option Value)} {oc14 kV14 dc14 pm14 cd14 ct14 : Value} {f14 : Addr}
    (nC_NoMeasure : PySem.W.nsIn K mainGlobals "NoMeasure" = some (some (.ref C_NoMeasure)))
    (xe_NoMeasure : PySem.W.excIn K C_NoMeasure [.type "ZeroDivisionError", .type "ArithmeticError", .type "Exception", .type "BaseException", .type "object"] "ZeroDivisionError.__new__" = true)
    (xk_NoMeasure : PySem.W.keepIn K (.ref C_NoMeasure) = true)
    (xb_NoMeasure : PySem.W.subIn K (.ref C_NoMeasure) (.type "BaseException") = some true)
    (xt_NoMeasure : PySem.W.typeIn K (.ref C_NoMeasure) = some (.type "type"))
    (nC_Part : PySem.W.nsIn K mainGlobals "Part" = some (some (.ref C_Part)))
    (pg_Part : PySem.W.plainGet K C_Part Str.empty = true)
    (hd_Part : PySem.W.hasDictIn K C_Part = true)
    (po_Part : PySem.W.plainOver K C_Part = true)
    (sa_Part : PySem.W.findIn K (.ref C_Part) "__setattr__" = some (some (.builtin "object.__setattr__")))
    (kc_Part : PySem.W.findIn K (.ref C_Part) "__class__" = some (some (.builtin "object.__class__")))
    (kg_Part : PySem.W.specialIn K (.builtin "object.__class__") "__get__" = some (some (.builtin "getset_descriptor.__get__")))
    (kt_Part : PySem.W.takesIn K (.builtin "object.__class__") = some true)
    (ob_Part : PySem.W.mroIn K C_Part (.type "object") = some true)
    (ne_Part : PySem.W.findIn K (.ref C_Part) "__ne__" = some (some (.builtin "object.__ne__")))
    (ci_Part : PySem.W.isClsIn K C_Part = true)
    (ty_Part : PySem.W.typeIn K (.ref C_Part) = some (.type "type"))
    (na_Part_top : PySem.W.findIn K (.ref C_Part) "top" = some none)
    (na_Part_low : PySem.W.findIn K (.ref C_Part) "low" = some none)
    (nC_Purse : PySem.W.nsIn K mainGlobals "Purse" = some (some (.ref C_Purse)))
    (pg_Purse : PySem.W.plainGet K C_Purse Str.empty = true)
    (hd_Purse : PySem.W.hasDictIn K C_Purse = true)
    (po_Purse : PySem.W.plainOver K C_Purse = true)
    (sa_Purse : PySem.W.findIn K (.ref C_Purse) "__setattr__" = some (some (.builtin "object.__setattr__")))
    (kc_Purse : PySem.W.findIn K (.ref C_Purse) "__class__" = some (some (.builtin "object.__class__")))
    (kg_Purse : PySem.W.specialIn K (.builtin "object.__class__") "__get__" = some (some (.builtin "getset_descriptor.__get__")))
    (kt_Purse : PySem.W.takesIn K (.builtin "object.__class__") = some true)
    (ob_Purse : PySem.W.mroIn K C_Purse (.type "object") = some true)
    (ne_Purse : PySem.W.findIn K (.ref C_Purse) "__ne__" = some (some (.builtin "object.__ne__")))
    (ci_Purse : PySem.W.isClsIn K C_Purse = true)
    (ty_Purse : PySem.W.typeIn K (.ref C_Purse) = some (.type "type"))
    (na_Purse_inside : PySem.W.findIn K (.ref C_Purse) "inside" = some none)
    (a1 : PySem.W.nsIn K mainGlobals "common_measure" = some (some (.ref f1)))
    (l1 : K.lookup f1 = some ⟨oc1, od1, .func (PySem.W.fnOf "common_measure" "common_measure" (defArgs s_common_measure) (defBody s_common_measure) (defScope s_common_measure) .none kV1 dc1 pm1 an1 cd1 ct1), sl1⟩)
    (c1 : PySem.W.codeIn K cd1 "common_measure" = true)
    (k1 : PySem.W.keepIn K (.ref f1) = true)
    (a2 : PySem.W.findIn K (.ref C_Part) "__init__" = some (some (.ref f2)))
    (i2 : PySem.W.isFn K (.ref f2) = true)
    (l2 : K.lookup f2 = some ⟨oc2, od2, .func (PySem.W.fnOf "__init__" "Part.__init__" (defArgs s_Part_init) (defBody s_Part_init) (defScope s_Part_init) (.ref T2) kV2 dc2 pm2 an2 cd2 ct2), sl2⟩)
    (c2 : PySem.W.codeIn K cd2 "Part.__init__" = true)
    (mk2 : PySem.W.makesIn K C_Part = true)
    (kc2 : PySem.W.keepIn K (.ref C_Part) = true)
    (k2 : PySem.W.keepIn K (.ref f2) = true)
    (t2 : K.lookup T2 = some ⟨.type "tuple", tod2, .seq [.int 1 dt2_0].toArray tn2, tsl2⟩)
    (a3 : PySem.W.findIn K (.ref C_Part) "plus" = some (some (.ref f3)))
    (i3 : PySem.W.isFn K (.ref f3) = true)
    (l3 : K.lookup f3 = some ⟨oc3, od3, .func (PySem.W.fnOf "plus" "Part.plus" (defArgs s_Part_plus) (defBody s_Part_plus) (defScope s_Part_plus) .none kV3 dc3 pm3 an3 cd3 ct3), sl3⟩)
    (c3 : PySem.W.codeIn K cd3 "Part.plus" = true)
    (k3 : PySem.W.keepIn K (.ref f3) = true)
    (a4 : PySem.W.findIn K (.ref C_Part) "times" = some (some (.ref f4)))
    (i4 : PySem.W.isFn K (.ref f4) = true)
    (l4 : K.lookup f4 = some ⟨oc4, od4, .func (PySem.W.fnOf "times" "Part.times" (defArgs s_Part_times) (defBody s_Part_times) (defScope s_Part_times) .none kV4 dc4 pm4 an4 cd4 ct4), sl4⟩)
    (c4 : PySem.W.codeIn K cd4 "Part.times" = true)
    (k4 : PySem.W.keepIn K (.ref f4) = true)
    (a5 : PySem.W.findIn K (.ref C_Purse) "__init__" = some (some (.ref f5)))
    (i5 : PySem.W.isFn K (.ref f5) = true)
    (l5 : K.lookup f5 = some ⟨oc5, od5, .func (PySem.W.fnOf "__init__" "Purse.__init__" (defArgs s_Purse_init) (defBody s_Purse_init) (defScope s_Purse_init) (.ref T5) kV5 dc5 pm5 an5 cd5 ct5), sl5⟩)
    (c5 : PySem.W.codeIn K cd5 "Purse.__init__" = true)
    (mk5 : PySem.W.makesIn K C_Purse = true)
    (kc5 : PySem.W.keepIn K (.ref C_Purse) = true)
    (k5 : PySem.W.keepIn K (.ref f5) = true)
    (t5 : K.lookup T5 = some ⟨.type "tuple", tod5, .seq [.ref da5_0].toArray tn5, tsl5⟩)
    (et5_0 : K.lookup da5_0 = some ⟨.type "tuple", eod5_0, .seq #[] en5_0, esl5_0⟩)
    (a6 : PySem.W.findIn K (.ref C_Purse) "worth" = some (some (.ref f6)))
    (i6 : PySem.W.isFn K (.ref f6) = true)
    (l6 : K.lookup f6 = some ⟨oc6, od6, .func (PySem.W.fnOf "worth" "Purse.worth" (defArgs s_Purse_worth) (defBody s_Purse_worth) (defScope s_Purse_worth) .none kV6 dc6 pm6 an6 cd6 ct6), sl6⟩)
    (c6 : PySem.W.codeIn K cd6 "Purse.worth" = true)
    (k6 : PySem.W.keepIn K (.ref f6) = true)
    (a7 : PySem.W.nsIn K mainGlobals "_law_cell" = some (some (.ref f7)))
    (l7 : K.lookup f7 = some ⟨oc7, od7, .func (PySem.W.fnOf "_law_cell" "_law_cell" (defArgs s_law_cell) (defBody s_law_cell) (defScope s_law_cell) .none kV7 dc7 pm7 an7 cd7 ct7), sl7⟩)
    (c7 : PySem.W.codeIn K cd7 "_law_cell" = true)
    (k7 : PySem.W.keepIn K (.ref f7) = true)
    (a8 : PySem.W.nsIn K mainGlobals "_law_digits" = some (some (.ref f8)))
    (l8 : K.lookup f8 = some ⟨oc8, od8, .func (PySem.W.fnOf "_law_digits" "_law_digits" (defArgs s_law_digits) (defBody s_law_digits) (defScope s_law_digits) .none kV8 dc8 pm8 an8 cd8 ct8), sl8⟩)
    (c8 : PySem.W.codeIn K cd8 "_law_digits" = true)
    (k8 : PySem.W.keepIn K (.ref f8) = true)
    (a9 : PySem.W.nsIn K mainGlobals "_law_names" = some (some (.ref f9)))
    (l9 : K.lookup f9 = some ⟨oc9, od9, .func (PySem.W.fnOf "_law_names" "_law_names" (defArgs s_law_names) (defBody s_law_names) (defScope s_law_names) .none kV9 dc9 pm9 an9 cd9 ct9), sl9⟩)
    (c9 : PySem.W.codeIn K cd9 "_law_names" = true)
    (k9 : PySem.W.keepIn K (.ref f9) = true)
    (a10 : PySem.W.nsIn K mainGlobals "_law_frac" = some (some (.ref f10)))
    (l10 : K.lookup f10 = some ⟨oc10, od10, .func (PySem.W.fnOf "_law_frac" "_law_frac" (defArgs s_law_frac) (defBody s_law_frac) (defScope s_law_frac) .none kV10 dc10 pm10 an10 cd10 ct10), sl10⟩)
    (c10 : PySem.W.codeIn K cd10 "_law_frac" = true)
    (k10 : PySem.W.keepIn K (.ref f10) = true)
    (a11 : PySem.W.nsIn K mainGlobals "_law_plus" = some (some (.ref f11)))
    (l11 : K.lookup f11 = some ⟨oc11, od11, .func (PySem.W.fnOf "_law_plus" "_law_plus" (defArgs s_law_plus) (defBody s_law_plus) (defScope s_law_plus) .none kV11 dc11 pm11 an11 cd11 ct11), sl11⟩)
    (c11 : PySem.W.codeIn K cd11 "_law_plus" = true)
    (k11 : PySem.W.keepIn K (.ref f11) = true)
    (a12 : PySem.W.nsIn K mainGlobals "_law_add" = some (some (.ref f12)))
    (l12 : K.lookup f12 = some ⟨oc12, od12, .func (PySem.W.fnOf "_law_add" "_law_add" (defArgs s_law_add) (defBody s_law_add) (defScope s_law_add) .none kV12 dc12 pm12 an12 cd12 ct12), sl12⟩)
    (c12 : PySem.W.codeIn K cd12 "_law_add" = true)
    (k12 : PySem.W.keepIn K (.ref f12) = true)
    (a13 : PySem.W.nsIn K mainGlobals "_law_same" = some (some (.ref f13)))
    (l13 : K.lookup f13 = some ⟨oc13, od13, .func (PySem.W.fnOf "_law_same" "_law_same" (defArgs s_law_same) (defBody s_law_same) (defScope s_law_same) .none kV13 dc13 pm13 an13 cd13 ct13), sl13⟩)
    (c13 : PySem.W.codeIn K cd13 "_law_same" = true)
    (k13 : PySem.W.keepIn K (.ref f13) = true)
    (a14 : PySem.W.nsIn K mainGlobals "law" = some (some (.ref f14)))
    (l14 : K.lookup f14 = some ⟨oc14, od14, .func (PySem.W.fnOf "law" "law" (defArgs s_law) (defBody s_law) (defScope s_law) .none kV14 dc14 pm14 an14 cd14 ct14), sl14⟩)
    (c14 : PySem.W.codeIn K cd14 "law" = true)
    (k14 : PySem.W.keepIn K (.ref f14) = true)
    (z_len : PySem.W.nsIn K mainGlobals "len" = some none)
    (z_range : PySem.W.nsIn K mainGlobals "range" = some none)
    (z_abs : PySem.W.nsIn K mainGlobals "abs" = some none)
    (z_max : PySem.W.nsIn K mainGlobals "max" = some none)
    (z_min : PySem.W.nsIn K mainGlobals "min" = some none)
    (z_sorted : PySem.W.nsIn K mainGlobals "sorted" = some none)
    (z_isinstance : PySem.W.nsIn K mainGlobals "isinstance" = some none)
    (z_repr : PySem.W.nsIn K mainGlobals "repr" = some none)
    (z_list : PySem.W.nsIn K mainGlobals "list" = some none)
    (z_dict : PySem.W.nsIn K mainGlobals "dict" = some none)
    (z_str : PySem.W.nsIn K mainGlobals "str" = some none)
    (z_int : PySem.W.nsIn K mainGlobals "int" = some none)
    (z_bool : PySem.W.nsIn K mainGlobals "bool" = some none)
    (z_tuple : PySem.W.nsIn K mainGlobals "tuple" = some none)
    (z_all : PySem.W.nsIn K mainGlobals "all" = some none)
    (z_any : PySem.W.nsIn K mainGlobals "any" = some none)
    (z_sum : PySem.W.nsIn K mainGlobals "sum" = some none)
    (z_enumerate : PySem.W.nsIn K mainGlobals "enumerate" = some none)
    (z_zip : PySem.W.nsIn K mainGlobals "zip" = some none) :
    ∃ fd : FuncData, (∀ (s : Shared) (v : Value), BindsTo s fd ⟨[v], []⟩ [("_law_script", v)]) ∧ ∀ base : Heap, K.In base → base.Ns mainGlobals mg → Fn P w K mg base 7 fa fd P_law (spLaw K) := by
  cases hfa.symm.trans (PySem.W.mg_of X G a14)
  have B : Blt mg := ⟨PySem.W.mg_none_of X G z_len, PySem.W.mg_none_of X G z_range, PySem.W.mg_none_of X G z_abs, PySem.W.mg_none_of X G z_max, PySem.W.mg_none_of X G z_min, PySem.W.mg_none_of X G z_sorted, PySem.W.mg_none_of X G z_isinstance, PySem.W.mg_none_of X G z_repr, PySem.W.mg_none_of X G z_list, PySem.W.mg_none_of X G z_dict, PySem.W.mg_none_of X G z_str, PySem.W.mg_none_of X G z_int, PySem.W.mg_none_of X G z_bool, PySem.W.mg_none_of X G z_tuple, PySem.W.mg_none_of X G z_all, PySem.W.mg_none_of X G z_any, PySem.W.mg_none_of X G z_sum, PySem.W.mg_none_of X G z_enumerate, PySem.W.mg_none_of X G z_zip⟩
  refine ⟨PySem.W.fnOf "law" "law" (defArgs s_law) (defBody s_law) (defScope s_law) .none kV14 dc14 pm14 an14 cd14 ct14, fun s v => .of_eq rfl, fun base _ _ => ?_⟩
  have X_NoMeasure : XPl K mg "NoMeasure" C_NoMeasure := ⟨_, _, _, _, PySem.F.excBase_ZeroDivisionError, xe_NoMeasure, PySem.W.mg_of X G nC_NoMeasure, xk_NoMeasure, xb_NoMeasure, xt_NoMeasure⟩
  have U_Part : Cls K C_Part := ⟨pg_Part, hd_Part, po_Part, sa_Part⟩
  have O_Part : Own K C_Part := ⟨U_Part, kc_Part, kg_Part, kt_Part, ob_Part, ne_Part, ci_Part, ty_Part⟩
  have T_Part : PartC K C_Part := ⟨O_Part, na_Part_top, na_Part_low⟩
  have G_Part : Cst mg "Part" (.ref C_Part) := ⟨_, PySem.W.mg_of X G nC_Part, rfl⟩
  have U_Purse : Cls K C_Purse := ⟨pg_Purse, hd_Purse, po_Purse, sa_Purse⟩
  have O_Purse : Own K C_Purse := ⟨U_Purse, kc_Purse, kg_Purse, kt_Purse, ob_Purse, ne_Purse, ci_Purse, ty_Purse⟩
  have T_Purse : PurseC K C_Purse := ⟨O_Purse, na_Purse_inside⟩
  have G_Purse : Cst mg "Purse" (.ref C_Purse) := ⟨_, PySem.W.mg_of X G nC_Purse, rfl⟩
  have D_common_measure : Dfn K mg "common_measure" s_common_measure P_common_measure [] := dfn_mk X G (fun us hl => match us, hl with | [_, _], _ => rfl) a1 l1 c1 k1
  have C_common_measure := cal_common_measure (P := P) (w := w) (base := base) D_common_measure B
  have D_Part_init_1 := idfD_mk (x := "Part") (qual := "Part.__init__") (st := s_Part_init) (ps := P_Part_init) (dvs := [.int 1]) 2 0 X G (by simp) rfl (fun T kV doc pm an cdv ct us its hu hi => match us, its, hu, hi with | [_, _], [_], _, _ => ⟨_, rfl, rfl⟩) nC_Part mk2 kc2 a2 i2 l2 c2 k2 t2 rfl (Paired.cons ⟨_, rfl⟩ (Paired.nil))
  have C_Part_init_1 := mkr_Part (P := P) (w := w) (base := base) D_Part_init_1 T_Part B X_NoMeasure C_common_measure
  have D_Part_init_2 := idfD_mk (x := "Part") (qual := "Part.__init__") (st := s_Part_init) (ps := P_Part_init) (dvs := [.int 1]) 3 1 X G (by simp) rfl (fun T kV doc pm an cdv ct us its hu hi => match us, its, hu, hi with | [_, _, _], [_], _, _ => ⟨_, rfl, rfl⟩) nC_Part mk2 kc2 a2 i2 l2 c2 k2 t2 rfl (Paired.cons ⟨_, rfl⟩ (Paired.nil))
  have C_Part_init_2 := mkr_Part (P := P) (w := w) (base := base) D_Part_init_2 T_Part B X_NoMeasure C_common_measure
  have D_Part_plus : Mdf K C_Part "plus" "Part.plus" s_Part_plus P_Part_plus [] := mdf_mk U_Part (fun us hl => match us, hl with | [_, _], _ => rfl) a3 i3 l3 c3 k3
  have C_Part_plus := mtd_Part_plus D_Part_plus T_Part B C_Part_init_2
  have D_Part_times : Mdf K C_Part "times" "Part.times" s_Part_times P_Part_times [] := mdf_mk U_Part (fun us hl => match us, hl with | [_, _], _ => rfl) a4 i4 l4 c4 k4
  have C_Part_times := mtd_Part_times D_Part_times T_Part B C_Part_init_2
  have D_Purse_init_0 := idfD_mk (x := "Purse") (qual := "Purse.__init__") (st := s_Purse_init) (ps := P_Purse_init) (dvs := [.ref da5_0]) 1 0 X G (by simp) rfl (fun T kV doc pm an cdv ct us its hu hi => match us, its, hu, hi with | [_], [_], _, _ => ⟨_, rfl, rfl⟩) nC_Purse mk5 kc5 a5 i5 l5 c5 k5 t5 rfl (Paired.cons rfl (Paired.nil))
  have C_Purse_init_0 := mkr_Purse D_Purse_init_0 T_Part T_Purse B C_Part_plus
  have D_Purse_init_1 := idfD_mk (x := "Purse") (qual := "Purse.__init__") (st := s_Purse_init) (ps := P_Purse_init) (dvs := [.ref da5_0]) 2 1 X G (by simp) rfl (fun T kV doc pm an cdv ct us its hu hi => match us, its, hu, hi with | [_, _], [_], _, _ => ⟨_, rfl, rfl⟩) nC_Purse mk5 kc5 a5 i5 l5 c5 k5 t5 rfl (Paired.cons rfl (Paired.nil))
  have C_Purse_init_1 := mkr_Purse D_Purse_init_1 T_Part T_Purse B C_Part_plus
  have D_Purse_worth : Mdf K C_Purse "worth" "Purse.worth" s_Purse_worth P_Purse_worth [] := mdf_mk U_Purse (fun us hl => match us, hl with | [_, _], _ => rfl) a6 i6 l6 c6 k6
  have C_Purse_worth := mtd_Purse_worth D_Purse_worth T_Part T_Purse B C_Part_init_1 C_Part_init_2 C_Part_plus C_Part_times
  have D_law_cell : Dfn K mg "_law_cell" s_law_cell P_law_cell [] := dfn_mk X G (fun us hl => match us, hl with | [_, _], _ => rfl) a7 l7 c7 k7
  have C_law_cell := cal_law_cell (P := P) (w := w) (base := base) D_law_cell B
  have D_law_digits : Dfn K mg "_law_digits" s_law_digits P_law_digits [] := dfn_mk X G (fun us hl => match us, hl with | [_, _, _], _ => rfl) a8 l8 c8 k8
  have C_law_digits := cal_law_digits D_law_digits B C_law_cell
  have D_law_names : Dfn K mg "_law_names" s_law_names P_law_names [] := dfn_mk X G (fun us hl => match us, hl with | [_, _, _], _ => rfl) a9 l9 c9 k9
  have C_law_names := cal_law_names D_law_names B C_law_digits
  have D_law_frac : Dfn K mg "_law_frac" s_law_frac P_law_frac [] := dfn_mk X G (fun us hl => match us, hl with | [_, _], _ => rfl) a10 l10 c10 k10
  have C_law_frac := cal_law_frac (P := P) (w := w) (K := K) (base := base) D_law_frac B
  have D_law_plus : Dfn K mg "_law_plus" s_law_plus P_law_plus [] := dfn_mk X G (fun us hl => match us, hl with | [_, _], _ => rfl) a11 l11 c11 k11
  have C_law_plus := cal_law_plus D_law_plus B C_law_frac
  have D_law_add : Dfn K mg "_law_add" s_law_add P_law_add [] := dfn_mk X G (fun us hl => match us, hl with | [_, _, _, _], _ => rfl) a12 l12 c12 k12
  have C_law_add := cal_law_add D_law_add B C_law_plus
  have D_law_same : Dfn K mg "_law_same" s_law_same P_law_same [] := dfn_mk X G (fun us hl => match us, hl with | [_, _], _ => rfl) a13 l13 c13 k13
  have C_law_same := cal_law_same (P := P) (w := w) (base := base) D_law_same B
  exact fn_law (src_mk (st := s_law) l14 c14) B T_Part T_Purse G_Part C_law_digits C_law_names C_law_frac C_law_plus C_law_add C_law_same C_Part_init_2 C_Purse_init_1 C_Purse_worth
end Rf
open PySem PySem.W PyProof.Rows
set_option maxRecDepth 100000 in
set_option maxHeartbeats 0 in
theorem PySem.Challenge.cw_oneroof_k05_purses_worth_holds : PySem.Challenge.rw_oneroof_k05_purses_worth.Holds := by
  w_on; o_law; k_head; (case hw => w_witness2)
  k_fill
  refine Rf.walk_fn (l := PySem.Challenge.rw_oneroof_k05_purses_worth) (n := 63) (k := 7) (x := "_law_script") (sp := Rf.spLaw) rfl (by decide) rfl ⟨rfl, by decide, by decide⟩ (fun w h Y => PySem.W.kIn_of Y) ?F (fun K H a ns _ _ hS => ⟨a, ns, rfl, hS, fun _ => rfl⟩)
  case F =>
    intro w mg fa h KX G hmg
    refine' Rf.all_mk KX G hmg ?nC_NoMeasure ?xe_NoMeasure ?xk_NoMeasure ?xb_NoMeasure ?xt_NoMeasure ?nC_Part ?pg_Part ?hd_Part ?po_Part ?sa_Part ?kc_Part ?kg_Part ?kt_Part ?ob_Part ?ne_Part ?ci_Part ?ty_Part ?na_Part_top ?na_Part_low ?nC_Purse ?pg_Purse ?hd_Purse ?po_Purse ?sa_Purse ?kc_Purse ?kg_Purse ?kt_Purse ?ob_Purse ?ne_Purse ?ci_Purse ?ty_Purse ?na_Purse_inside ?a1 ?l1 ?c1 ?k1 ?a2 ?i2 ?l2 ?c2 ?mk2 ?kc2 ?k2 ?t2 ?a3 ?i3 ?l3 ?c3 ?k3 ?a4 ?i4 ?l4 ?c4 ?k4 ?a5 ?i5 ?l5 ?c5 ?mk5 ?kc5 ?k5 ?t5 ?et5_0 ?a6 ?i6 ?l6 ?c6 ?k6 ?a7 ?l7 ?c7 ?k7 ?a8 ?l8 ?c8 ?k8 ?a9 ?l9 ?c9 ?k9 ?a10 ?l10 ?c10 ?k10 ?a11 ?l11 ?c11 ?k11 ?a12 ?l12 ?c12 ?k12 ?a13 ?l13 ?c13 ?k13 ?a14 ?l14 ?c14 ?k14 ?z_len ?z_range ?z_abs ?z_max ?z_min ?z_sorted ?z_isinstance ?z_repr ?z_list ?z_dict ?z_str ?z_int ?z_bool ?z_tuple ?z_all ?z_any ?z_sum ?z_enumerate ?z_zip
    (case nC_NoMeasure => k_is)
    (case xe_NoMeasure => k_exc)
    (case xk_NoMeasure => k_is)
    (case xb_NoMeasure => k_is)
    (case xt_NoMeasure => k_is)
    (case nC_Part => k_is)
    (case pg_Part => k_is)
    (case hd_Part => k_is)
    (case po_Part => k_is)
    (case sa_Part => k_is)
    (case kc_Part => k_is)
    (case kg_Part => k_is)
    (case kt_Part => k_is)
    (case ob_Part => k_is)
    (case ne_Part => k_is)
    (case ci_Part => k_is)
    (case ty_Part => k_is)
    (case na_Part_top => k_is)
    (case na_Part_low => k_is)
    (case nC_Purse => k_is)
    (case pg_Purse => k_is)
    (case hd_Purse => k_is)
    (case po_Purse => k_is)
    (case sa_Purse => k_is)
    (case kc_Purse => k_is)
    (case kg_Purse => k_is)
    (case kt_Purse => k_is)
    (case ob_Purse => k_is)
    (case ne_Purse => k_is)
    (case ci_Purse => k_is)
    (case ty_Purse => k_is)
    (case na_Purse_inside => k_is)
    (case a1 => k_is)
    (case l1 => k_is)
    (case c1 => k_is)
    (case k1 => k_is)
    (case a2 => k_is)
    (case i2 => k_is)
    (case l2 => k_is)
    (case c2 => k_is)
    (case mk2 => k_is)
    (case kc2 => k_is)
    (case k2 => k_is)
    (case t2 => k_is)
    (case a3 => k_is)
    (case i3 => k_is)
    (case l3 => k_is)
    (case c3 => k_is)
    (case k3 => k_is)
    (case a4 => k_is)
    (case i4 => k_is)
    (case l4 => k_is)
    (case c4 => k_is)
    (case k4 => k_is)
    (case a5 => k_is)
    (case i5 => k_is)
    (case l5 => k_is)
    (case c5 => k_is)
    (case mk5 => k_is)
    (case kc5 => k_is)
    (case k5 => k_is)
    (case t5 => k_is)
    (case et5_0 => k_is)
    (case a6 => k_is)
    (case i6 => k_is)
    (case l6 => k_is)
    (case c6 => k_is)
    (case k6 => k_is)
    (case a7 => k_is)
    (case l7 => k_is)
    (case c7 => k_is)
    (case k7 => k_is)
    (case a8 => k_is)
    (case l8 => k_is)
    (case c8 => k_is)
    (case k8 => k_is)
    (case a9 => k_is)
    (case l9 => k_is)
    (case c9 => k_is)
    (case k9 => k_is)
    (case a10 => k_is)
    (case l10 => k_is)
    (case c10 => k_is)
    (case k10 => k_is)
    (case a11 => k_is)
    (case l11 => k_is)
    (case c11 => k_is)
    (case k11 => k_is)
    (case a12 => k_is)
    (case l12 => k_is)
    (case c12 => k_is)
    (case k12 => k_is)
    (case a13 => k_is)
    (case l13 => k_is)
    (case c13 => k_is)
    (case k13 => k_is)
    (case a14 => k_is)
    (case l14 => k_is)
    (case c14 => k_is)
    (case k14 => k_is)
    (case z_len => k_is)
    (case z_range => k_is)
    (case z_abs => k_is)
    (case z_max => k_is)
    (case z_min => k_is)
    (case z_sorted => k_is)
    (case z_isinstance => k_is)
    (case z_repr => k_is)
    (case z_list => k_is)
    (case z_dict => k_is)
    (case z_str => k_is)
    (case z_int => k_is)
    (case z_bool => k_is)
    (case z_tuple => k_is)
    (case z_all => k_is)
    (case z_any => k_is)
    (case z_sum => k_is)
    (case z_enumerate => k_is)
    (case z_zip => k_is)
