import PyProof.Rows.All
import Wide.All
import OpenK.AllK
import Wide.FinOn
import HandS.ForMost
import HandS.ForExc
import HandS.Wide
import HandS.NoneIn
import HandS.IsInst
import HandS.More
import HandS.RaiseMore
import HandS.DictComp
import HandS.ListItems
import HandS.CallSlots
import HandS.FStr
import HandS.Walk
import HandS.Evl
import HandS.ExcInit
import PySem.Challenge.RW_oneroof_k07_worlds_told
set_option Elab.async false
set_option linter.all false
set_option maxRecDepth 100000
set_option maxHeartbeats 4000000
namespace Rf
open PySem PySem.Spec PyProof.Rows L2
/-! ## operators whatever the kinds of the operands are -/
section
variable {X : Cx}
abbrev rStrAdd : R2 := fun x y H Q => ∃ i j, x = .str i ∧ y = .str j ∧ i.length + j.length ≤ sizeLine ∧ Q (.str (i ++ j)) H
def uAdd : R2 := fun x y H Q => rI0 (fun i j => .int (i + j)) x y H Q ∨ (rStrAdd x y H Q ∨ rCat x y H Q)
theorem uq_add : OpR X (binaryOp .Add) uAdd := OpR.or op_add (OpR.or op_add_str op_cat)
def uSub : R2 := rI0 fun i j => .int (i - j)
theorem uq_sub : OpR X (binaryOp .Sub) uSub := op_sub
def uMul : R2 := fun x y H Q => rI CMul (fun i j => .int (i * j)) x y H Q ∨ rI CMulW (fun i j => .int (i * j)) x y H Q
theorem uq_mul : OpR X (binaryOp .Mult) uMul := OpR.or op_mul op_mulW
def uFdiv : R2 := fun x y H Q => rI CDiv (fun i j => .int (i / j)) x y H Q ∨ rI CDivW (fun i j => .int (i / j)) x y H Q
theorem uq_fdiv : OpR X (binaryOp .FloorDiv) uFdiv := OpR.or op_fdiv op_fdivW
def uMod : R2 := rI (fun _ j => 0 < j) fun i j => .int (i % j)
theorem uq_mod : OpR X (binaryOp .Mod) uMod := op_mod
def uPow : R2 := rI CPow fun i j => .int (i ^ j.toNat)
theorem uq_pow : OpR X (binaryOp .Pow) uPow := op_pow
def uLt : R2 := rI0 fun i j => .bl (decide (i < j))
theorem uq_lt : OpR X (compareOp .Lt) uLt := op_lt
def uLe : R2 := rI0 fun i j => .bl (decide (i ≤ j))
theorem uq_le : OpR X (compareOp .LtE) uLe := op_le
def uGt : R2 := rI0 fun i j => .bl (decide (j < i))
theorem uq_gt : OpR X (compareOp .Gt) uGt := op_gt
def uGe : R2 := rI0 fun i j => .bl (decide (j ≤ i))
theorem uq_ge : OpR X (compareOp .GtE) uGe := op_ge
def uEq (K : PySem.W.Frag) : R2 := fun x y H Q => rEq x y H Q ∨ (rEqD K x y H Q ∨ rEqDA x y H Q)
theorem uq_eq {K : PySem.W.Frag} {k : Nat} (hr : Room k X.A) (hK : X.K = K := by rfl) : OpR X (compareOp .Eq) (uEq K) := by subst hK; exact OpR.or op_eq (OpR.or (op_eqD hr.units) (op_eq_dictA hr.units0))
def uNe (K : PySem.W.Frag) : R2 := fun x y H Q => rNe x y H Q ∨ (rNeD K x y H Q ∨ rNeDA x y H Q)
theorem uq_ne {K : PySem.W.Frag} {k : Nat} (hr : Room k X.A) (hK : X.K = K := by rfl) : OpR X (compareOp .NotEq) (uNe K) := by subst hK; exact OpR.or op_ne (OpR.or (op_neD hr.units) (op_ne_dictA hr.units0))
/-- y in a dict, by values -/
def rDIn : R2 := fun y x H Q => ∃ a o, x = .ref a ∧ DGet H a y o ∧ Q (.bl o.isSome) H
def rDNotIn : R2 := fun y x H Q => ∃ a o, x = .ref a ∧ DGet H a y o ∧ Q (.bl (!o.isSome)) H
theorem op_dIn (hu : X.A.units + 1 < cLine) : OpR X (compareOp .In) rDIn := by
  intro pins s σ H y x iv u Q I ry rx h
  obtain ⟨a, ov, ex, g, q⟩ := h
  subst ex
  cases (show u = Value.ref a from rx)
  exact d_in hu I g ry fun s3 I3 => ⟨.bl ov.isSome, H, I3, rfl, q⟩
theorem op_dNotIn (hu : X.A.units + 1 < cLine) : OpR X (compareOp .NotIn) rDNotIn := by
  intro pins s σ H y x iv u Q I ry rx h
  obtain ⟨a, ov, ex, g, q⟩ := h
  subst ex
  cases (show u = Value.ref a from rx)
  exact d_notIn hu I g ry fun s3 I3 => ⟨.bl (!ov.isSome), H, I3, rfl, q⟩
abbrev rSignIn : R2 := fun x y H Q => ∃ (c : Nat) (z : Str), x = .str ⟨#[c]⟩ ∧ y = .str z ∧ Q (.bl (decide (c ∈ z.cps.toList))) H
abbrev rSignNotIn : R2 := fun x y H Q => ∃ (c : Nat) (z : Str), x = .str ⟨#[c]⟩ ∧ y = .str z ∧ Q (.bl (!decide (c ∈ z.cps.toList))) H
def uIn (K : PySem.W.Frag) : R2 := fun x y H Q => rDIn x y H Q ∨ (rIn K false x y H Q ∨ rSignIn x y H Q)
theorem uq_in {K : PySem.W.Frag} (hu : X.A.units + 1 < cLine) (hK : X.K = K := by rfl) : OpR X (compareOp .In) (uIn K) := by subst hK; exact OpR.or (op_dIn hu) (OpR.or op_in_seq op_in_sign)
def uNotIn (K : PySem.W.Frag) : R2 := fun x y H Q => rDNotIn x y H Q ∨ (rIn K true x y H Q ∨ rSignNotIn x y H Q)
theorem uq_notin {K : PySem.W.Frag} (hu : X.A.units + 1 < cLine) (hK : X.K = K := by rfl) : OpR X (compareOp .NotIn) (uNotIn K) := by subst hK; exact OpR.or (op_dNotIn hu) (OpR.or op_notIn_seq op_notIn_sign)
def uIs : R2 := fun x y H Q => y = .non ∧ Q (.bl (decide (x = .non))) H
theorem uq_is : OpR X (compareOp .Is) uIs := op_isN
def uIsNot : R2 := fun x y H Q => y = .non ∧ Q (.bl (!decide (x = .non))) H
theorem uq_isnot : OpR X (compareOp .IsNot) uIsNot := op_notN
/-! ## subscripts -/
def rIxDict : R2 := fun x y H Q => ∃ a v, x = .ref a ∧ DGet H a y (some v) ∧ Q v H
theorem ix_dict (hu : X.A.units + 1 < cLine) : IxR X rIxDict := by
  intro value slice pins s σ H x y v u Q I rx ry h hs
  obtain ⟨a, w, ex, g, q⟩ := h
  subst ex
  cases (show v = Value.ref a from rx)
  have hT := dict_typeIs I g
  unfold subscriptTail
  refine wpAny_bind ?_
  rw [getitemInPython_of_ne hT.not_modules]
  refine wpAny_bind (wpAny_specialOf hT PySem.F.slot_dict_getitem.lookup ?_)
  have fin : wpAny (model X.prog X.w) X.A (subscripted slice false (.ref a) u) (fun r s₃ => wpAny (model X.prog X.w) X.A (letTemporaryGo value (.ref a) r >>= fun _ => pure r) (EP X pins σ Q) X.xe s₃) X.xe s := by
    rw [hs]
    exact wpAny_operating (d_getItem hu I g ry fun w' s3 I3 rw' => wpAny_bind (wpAny_letTemporaryGo (wpAny_pure ⟨w, H, I3, rw', q⟩)))
  first
    | exact wpAny_pure (wpAny_bind fin)
    | exact wpAny_bind (wpAny_pure (wpAny_bind fin))
    | exact wpAny_bind fin
def uIx (K : PySem.W.Frag) : R2 := fun x y H Q => rIxL K x y H Q ∨ (rIxT K x y H Q ∨ (rIxS x y H Q ∨ rIxDict x y H Q))
theorem uq_ix {K : PySem.W.Frag} (hu : X.A.units + 1 < cLine) (hK : X.K = K := by rfl) : IxR X (uIx K) := by subst hK; exact IxR.or ix_list (IxR.or ix_tup (IxR.or ix_str (ix_dict hu)))
def uSl (K : PySem.W.Frag) : V → Option Int → Option Int → Hp → VK → Prop := fun x lo hi H Q => rSlL K x lo hi H Q ∨ (rSlS x lo hi H Q ∨ rSlT K x lo hi H Q)
theorem uq_sl {K : PySem.W.Frag} (hK : X.K = K := by rfl) : SlR X (uSl K) := by subst hK; exact SlR.or sl_list (SlR.or sl_str sl_tup)
/-! ## stores -/
def rSetD : V → V → V → Hp → (Hp → Prop) → Prop := fun o y v H Q => ∃ a H', o = .ref a ∧ DPut H a y v H' ∧ Q H'
def uSet : V → V → V → Hp → (Hp → Prop) → Prop := fun o i v H Q => rSetL o i v H Q ∨ rSetD o i v H Q
/-! ## calls of built-ins -/
abbrev rLenD : List V → Hp → VK → Prop := fun xs H Q => ∃ a kvs, xs = [V.ref a] ∧ H a = some (.dK kvs) ∧ Q (.int kvs.length) H
def uLen (K : PySem.W.Frag) : List V → Hp → VK → Prop := fun xs H Q => (∃ x n, xs = [x] ∧ LenV K x H n ∧ Q (.int n) H) ∨ rLenD xs H Q
theorem uc_len {K : PySem.W.Frag} (hK : X.K = K := by rfl) : CallR X (.builtin "len") (uLen K) := by subst hK; exact CallR.or call_len call_lenD
def uAbs : List V → Hp → VK → Prop := fun xs H Q => ∃ i, xs = [.int i] ∧ Q (.int (if i < 0 then -i else i)) H
theorem uc_abs : CallR X (.builtin "abs") uAbs := call_abs
def uMax2 : List V → Hp → VK → Prop := fun xs H Q => ∃ i j, xs = [.int i, .int j] ∧ Q (.int (if j > i then j else i)) H
def uMin2 : List V → Hp → VK → Prop := fun xs H Q => ∃ i j, xs = [.int i, .int j] ∧ Q (.int (if j < i then j else i)) H
theorem uc_max2 (hc : X.calm = true := by rfl) : CallR X (.builtin "max") uMax2 := call_max2 hc
theorem uc_min2 (hc : X.calm = true := by rfl) : CallR X (.builtin "min") uMin2 := call_min2 hc
end
end Rf

namespace Rf
open PySem PySem.Spec PyProof.Rows L2
/-! ## a def's promise where nothing is being shown (no repr runs around) and exceptions may leave -/
abbrev Quiet (A : Around) : Prop := A.guards = some []
structure Fn (P : Program) (w : World) (K : PySem.W.Frag) (mg : Str → Option Value) (base : Heap) (k : Nat) (f : Addr) (fd : FuncData) (ps : List Str) (sp : Sp) : Prop where
  len : ∀ vs H Q E, sp vs H Q E → vs.length = ps.length
  go : ∀ (A : Around) (outer : List Env) (s : Shared) (H : Hp) (args : Args) (us : List Value) (vs : List V) (Q : VK) (E : XK), Room k A → Quiet A →
    Env0 P w K mg base A outer s H → BindsTo s fd args (ps.zip us) → Vals vs us → sp vs H Q E →
    codeAny (model P w) A (.call (.ref f) args) (CR (L2.CX P w) outer P w H s Q E) s
section
variable {P : Program} {w : World} {K : PySem.W.Frag} {mg : Str → Option Value} {base : Heap}
theorem Fn.up {i j : Nat} {f : Addr} {fd : FuncData} {ps : List Str} {sp : Sp} (F : Fn P w K mg base i f fd ps sp) (h : i ≤ j) : Fn P w K mg base j f fd ps sp :=
  ⟨F.len, fun A outer s H args us vs Q E hr => F.go A outer s H args us vs Q E (hr.mono h)⟩
theorem Fn.weak {i : Nat} {f : Addr} {fd : FuncData} {ps : List Str} {sp sp' : Sp} (F : Fn P w K mg base i f fd ps sp) (h : ∀ vs H Q E, sp' vs H Q E → sp vs H Q E) : Fn P w K mg base i f fd ps sp' :=
  ⟨fun vs H Q E q => F.len vs H Q E (h _ _ _ _ q), fun A outer s H args us vs Q E hr hG he hb hv hs => F.go A outer s H args us vs Q E hr hG he hb hv (h _ _ _ _ hs)⟩
/-- a def of the text by its body -/
theorem fn_body {k : Nat} {f : Addr} {name qual : Str} {params : Arguments} {body : List Stmt} {scope : Scope} {dV kV doc pm cdv ct oc : Value} {an od : Option Addr} {osl : Array (Option Value)} {N ps : List Str} {sp : Sp}
    (hf : K.lookup f = some ⟨oc, od, .func (PySem.W.fnOf name qual params body scope dV kV doc pm an cdv ct), osl⟩) (hcode : PySem.W.codeIn K cdv qual = true) (S : FnScope N ps scope)
    (hlen : ∀ vs H Q E, sp vs H Q E → vs.length = ps.length)
    (hb : ∀ (A : Around) (outer : List Env) (s : Shared) (H : Hp) (vs : List V) (Q : VK) (E : XK), Room k (A.deeper (envOfC qual scope s.heap.objs.size f cdv)) → Quiet (A.deeper (envOfC qual scope s.heap.objs.size f cdv)) → sp vs H Q E →
      ∃ t, PSs (cxOf (L2.CX P w) P w K mg base N qual scope f cdv A outer s H E) body t ∧ t { nx := fun _ H' => Q .non H', rt := Q } (start N vs) H) :
    Fn P w K mg base (k + 1) f (PySem.W.fnOf name qual params body scope dV kV doc pm an cdv ct) ps sp := by
  refine ⟨hlen, ?_⟩
  intro A outer s H args us vs Q E hr hG e0 hbind r hsp
  have hin : K.In s.heap := e0.mod.kin.keeps fun b o e => (e0.bs b o e).1
  have hnl : s.heap.NoLimit := e0.mod.nolimit.keeps fun b o e => (e0.bs b o e).1
  have hnames : ∀ y ∈ ps.zip us, scope.names.lookup y.1 = some .local ∨ (scope.names.lookup y.1 = some .cell ∧ ((cellsFrom (s.heap.objs.size + 1) scope.names []).lookup y.1).isSome = true) := by
    rintro ⟨n, v⟩ hy
    cases S.par n (List.of_mem_zip hy).1 with
    | inl q => exact Or.inl q
    | inr q => exact Or.inr ⟨q, PySem.W.cellsFrom_some _ _ _ (Or.inl q)⟩
  refine codeAny_call_function hr.depth (hin _ _ hf) rfl S.co S.gen rfl (PySem.W.codeRec_of hin hcode) (hbind _ _ _ _ ?_)
  refine wpAny_newFunctionEnv_cells S.kind hnames fun env he s1 x => ?_
  subst he
  refine ⟨hnl.keeps x.toInCall.keep, codeAny_func ?_⟩
  obtain ⟨t, ht, hq⟩ := hb A outer s H vs Q E (hr.deeper _) hG hsp
  have I0 := inv_start (CX := L2.CX P w) (E := E) S hr.hd e0 (hlen _ _ _ _ hsp) r x
  refine wpAny_mono (ht.run [] s1 (start N vs) H _ I0 hq) ?_ (fun e s' hs => hs)
  intro fl s' hs
  cases fl with
  | ret u =>
    obtain ⟨v, σ', H', J, rv, q⟩ := hs
    exact ⟨v, H', J.os, J.bare, J.base, J.hok, rv, q⟩
  | next =>
    obtain ⟨σ', H', J, q⟩ := hs
    exact ⟨V.non, H', J.os, J.bare, J.base, J.hok, rfl, q⟩
  | brk =>
    obtain ⟨_, _, _, q⟩ := hs
    exact q.elim
  | cont =>
    obtain ⟨_, _, _, q⟩ := hs
    exact q.elim
/-- a def of the text, as it stands behind the top -/
structure Src (K : PySem.W.Frag) (x qual : Str) (st : Stmt) (f : Addr) (fd : FuncData) : Prop where
  ex : ∃ (oc : Value) (od : Option Addr) (dV kV doc pm : Value) (an : Option Addr) (cdv ct : Value) (osl : Array (Option Value)),
    fd = PySem.W.fnOf x qual (defArgs st) (defBody st) (defScope st) dV kV doc pm an cdv ct ∧ K.lookup f = some ⟨oc, od, .func fd, osl⟩ ∧ PySem.W.codeIn K cdv qual = true
theorem Src.fn {x qual : Str} {st : Stmt} {f : Addr} {fd : FuncData} {N ps : List Str} {k : Nat} {sp : Sp} (F : Src K x qual st f fd) (S : FnScope N ps (defScope st)) (hlen : ∀ vs H Q E, sp vs H Q E → vs.length = ps.length)
    (hb : ∀ (cdv : Value) (A : Around) (outer : List Env) (s : Shared) (H : Hp) (vs : List V) (Q : VK) (E : XK), Room k (A.deeper (envOfC qual (defScope st) s.heap.objs.size f cdv)) → Quiet (A.deeper (envOfC qual (defScope st) s.heap.objs.size f cdv)) → sp vs H Q E →
      ∃ t, PSs (cxOf (L2.CX P w) P w K mg base N qual (defScope st) f cdv A outer s H E) (defBody st) t ∧ t { nx := fun _ H' => Q .non H', rt := Q } (start N vs) H) : Fn P w K mg base (k + 1) f fd ps sp := by
  obtain ⟨oc, od, dV, kV, doc, pm, an, cdv, ct, osl, rfl, lk, hcd⟩ := F.ex
  exact fn_body lk hcd S hlen fun A outer s H vs Q E => hb cdv A outer s H vs Q E
/-- a def that may be called by its name with so many arguments (the rest dvs) -/
structure Cal (P : Program) (w : World) (K : PySem.W.Frag) (mg : Str → Option Value) (base : Heap) (k : Nat) (x : Str) (dvs : List V) (sp : Sp) : Prop where
  ex : ∃ (f : Addr) (fd : FuncData) (ps : List Str) (ds : List Value), Fn P w K mg base k f fd ps sp ∧ mg x = some (.ref f) ∧ PySem.W.keepIn K (.ref f) = true ∧ Binds K fd ps ds ∧ Vals dvs ds
/-- a method of the class at C -/
structure Mtd (P : Program) (w : World) (K : PySem.W.Frag) (mg : Str → Option Value) (base : Heap) (k : Nat) (C : Addr) (m : Str) (dvs : List V) (sp : Sp) : Prop where
  ex : ∃ (f : Addr) (fd : FuncData) (ps : List Str) (ds : List Value), Cls K C ∧ Meth K C m f ∧ Fn P w K mg base k f fd ps sp ∧ Binds K fd ps ds ∧ Vals dvs ds
/-- a class at C that may be made by its name -/
structure Mkr (P : Program) (w : World) (K : PySem.W.Frag) (mg : Str → Option Value) (base : Heap) (k : Nat) (x : Str) (C : Addr) (dvs : List V) (sp : Sp) : Prop where
  ex : ∃ (f : Addr) (fd : FuncData) (ps : List Str) (ds : List Value), Mk K C f ∧ Fn P w K mg base k f fd ps sp ∧ mg x = some (.ref C) ∧ Binds K fd ps ds ∧ Vals dvs ds
end
section
variable {X : Cx} {j k : Nat} {f C : Addr} {fd : FuncData} {ps : List Str} {sp : Sp} {dvs : List V} {ds : List Value} {E : L2.St → XK} {x m : Str} {p pos apos : Pos} {e o : Expr} {es : List Expr} {ta : TE} {t : TA}
abbrev Pas (X : Cx) (E : L2.St → XK) : Prop := ∀ σ, PassesAt (L2.CX X.prog X.w) X σ (E σ)
theorem run_def {pins : List (Addr × Obj)} {σ : L2.St} {H : Hp} {s : Shared} {Q : VK} {us : List Value} {vs : List V} (F : Fn X.prog X.w X.K X.mg X.base k f fd ps sp) (hr : Room k X.A) (hG : Quiet X.A) (hb : Binds X.K fd ps ds) (hd : Vals dvs ds)
    (hx : Pas X E) (I : Inv X pins σ H s) (r : Vals vs us) (h : sp (vs ++ dvs) H Q (E σ)) : wpAny (model X.prog X.w) X.A (call (.ref f) us) (EP X pins σ Q) X.xe s := by
  have rr : Vals (vs ++ dvs) (us ++ ds) := r.append hd
  have hl : (us ++ ds).length = ps.length := rr.length.symm.trans (F.len _ _ _ _ h)
  refine wpAny_call (codeAny_mono (F.go X.A X.stack s H ⟨us, []⟩ (us ++ ds) (vs ++ dvs) Q (E σ) hr hG I.env0 (hb s us I.kIn hl) rr h) ?_)
  rintro (e | fl) s' hq
  · exact hx σ pins H s e s' I hq
  · cases fl with
    | ret u => exact I.after hq
    | next => exact hq.elim
    | brk => exact hq.elim
    | cont => exact hq.elim
def uCall (sp : Sp) (dvs : List V) (E : L2.St → XK) (t : TA) : TE := fun σ H Q => t σ H fun vs H1 => sp (vs ++ dvs) H1 Q (E σ)
theorem ue_call (c : Cal X.prog X.w X.K X.mg X.base k x dvs sp) (hr : Room j X.A) (hk : k ≤ j) (hG : Quiet X.A) (hg : Gl X x) (hx : Pas X E) (ha : PA X (e :: es) t)
    (hdb : (x == ("__debug__" : Str)) = false := by decide) (he : starEach (e :: es) X.env = (false, eval e X.env) :: starEach es X.env := by rfl) (hpl : (backTo pos (starEach es X.env)).any (·.1) = false := by rfl) :
    PE X (.Call (.Name x p) (e :: es) [] pos) (uCall sp dvs E t) := by
  obtain ⟨f, fd, ps, ds, F, hm, kp, b, d⟩ := c.ex
  constructor
  intro pins s σ H Q I h
  refine wpAny_Call_Name_kw (ld_glob I hg hm ?_ hdb)
  refine PySem.W.callWith_K (h₀ := X.base) I.ok.mod.kin kp (thn (ha.run pos pins s σ H _ I h) ?_) he hpl
  rintro us s1 ⟨vs, H1, I1, r, q⟩
  exact ⟨I1.kIn, run_def F (hr.mono hk) hG b d hx I1 r q⟩
theorem ue_call0 (c : Cal X.prog X.w X.K X.mg X.base k x dvs sp) (hr : Room j X.A) (hk : k ≤ j) (hG : Quiet X.A) (hg : Gl X x) (hx : Pas X E) (hdb : (x == ("__debug__" : Str)) = false := by decide) :
    PE X (.Call (.Name x p) [] [] pos) (uCall sp dvs E tNil) := by
  obtain ⟨f, fd, ps, ds, F, hm, kp, b, d⟩ := c.ex
  constructor
  intro pins s σ H Q I h
  refine wpAny_Call_Name_kw (ld_glob I hg hm ?_ hdb)
  exact PySem.W.callWith_K0 I.kIn kp (run_def (us := []) F (hr.mono hk) hG b d hx I .nil h)
/-- o.m(..) -/
def uMeth (C : Addr) (m : Str) (sp : Sp) (dvs : List V) (E : L2.St → XK) (ta : TE) (t : TA) : TE := fun σ H Q => ta σ H fun x H1 => ∃ a dx fs, x = .ref a ∧ H1 a = some (.ins C dx fs) ∧ fs.lookup m = none ∧ t σ H1 fun vs H2 => sp (x :: (vs ++ dvs)) H2 Q (E σ)
theorem ue_meth {pl : Sem Bool} (he : PE X o ta) (c : Mtd X.prog X.w X.K X.mg X.base k C m dvs sp) (hr : Room j X.A) (hk : k ≤ j) (hG : Quiet X.A) (hx : Pas X E) (ha : PA X (e :: es) t)
    (hst : starEach (e :: es) X.env = (false, eval e X.env) :: starEach es X.env := by rfl) (hpl : (backTo pos (starEach es X.env)).any (·.1) = false := by rfl)
    (ht : eval (.Call (.Attribute o m apos) (e :: es) [] pos) X.env = (do
      let ov ← eval o X.env; standAt apos.atName; let (f, first) ← holding [ov] (getMethod ov m pl); callWith pos f first (backTo pos (starEach (e :: es) X.env)) (backToKw pos (keywordEach [] X.env))) := by rfl) :
    PE X (.Call (.Attribute o m apos) (e :: es) [] pos) (uMeth C m sp dvs E ta t) := by
  obtain ⟨f, fd, ps, ds, cc, hm, F, b, d⟩ := c.ex
  constructor
  intro pins s σ H Q I h
  refine PySem.W.methodCall_KW (pl := pl) (thn (he.run pins s σ H _ I h) ?_) ht
  rintro u s1 ⟨y, H1, I1, rx, a, dx, fs, ex, ea, l, q⟩
  subst ex
  cases (show u = Value.ref a from rx)
  refine getmeth_ok I1 ea cc hm l ?_
  refine PySem.W.callWith_K (first := [.ref a]) (h₀ := X.base) I.ok.mod.kin hm.kp (thn (ha.run pos pins s1 σ H1 _ I1 q) ?_) hst hpl
  rintro us s2 ⟨vs, H2, I2, r, q2⟩
  exact ⟨I2.kIn, run_def (us := .ref a :: us) (vs := .ref a :: vs) F (hr.mono hk) hG b d hx I2 (.cons rfl r) q2⟩
theorem ue_meth0 {pl : Sem Bool} (he : PE X o ta) (c : Mtd X.prog X.w X.K X.mg X.base k C m dvs sp) (hr : Room j X.A) (hk : k ≤ j) (hG : Quiet X.A) (hx : Pas X E)
    (ht : eval (.Call (.Attribute o m apos) [] [] pos) X.env = (do
      let ov ← eval o X.env; standAt apos.atName; let (f, first) ← holding [ov] (getMethod ov m pl); callWith pos f first (backTo pos (starEach [] X.env)) (backToKw pos (keywordEach [] X.env))) := by rfl) :
    PE X (.Call (.Attribute o m apos) [] [] pos) (uMeth C m sp dvs E ta tNil) := by
  obtain ⟨f, fd, ps, ds, cc, hm, F, b, d⟩ := c.ex
  constructor
  intro pins s σ H Q I h
  refine PySem.W.methodCall_KW (pl := pl) (thn (he.run pins s σ H _ I h) ?_) ht
  rintro u s1 ⟨y, H1, I1, rx, a, dx, fs, ex, ea, l, q⟩
  subst ex
  cases (show u = Value.ref a from rx)
  refine getmeth_ok I1 ea cc hm l ?_
  exact PySem.W.callWith_K0 (first := [.ref a]) I1.kIn hm.kp (run_def (us := [.ref a]) (vs := [.ref a]) F (hr.mono hk) hG b d hx I1 (.cons rfl .nil) q)
/-- C(..) -/
def uMake (C : Addr) (sp : Sp) (dvs : List V) (E : L2.St → XK) (t : TA) : TE := fun σ H Q => t σ H fun vs H1 => ∀ x dx, H1 x = none → H1 dx = none → dx ≠ x →
  sp (.ref x :: (vs ++ dvs)) (upd (upd H1 dx (.own x)) x (.ins C dx [])) (fun v H2 => v = .non ∧ Q (.ref x) H2) (E σ)
theorem make_quiet {A : Around} {us : List Value} {kw : List (Str × Value)} (h : Quiet A) : Quiet (A.under (.builtin "type.__call__" ⟨.ref C :: us, kw⟩)) := by
  unfold Quiet at h ⊢
  first
    | exact h
    | simpa [Around.under, Code.guards, Code.isGuard, guardIds] using h
theorem run_new {pins : List (Addr × Obj)} {σ : L2.St} {H : Hp} {s : Shared} {Q : VK} {us : List Value} {vs : List V} (M : Mk X.K C f) (F : Fn X.prog X.w X.K X.mg X.base k f fd ps sp) (hr : Room (k + 1) X.A) (hG : Quiet X.A) (hb : Binds X.K fd ps ds) (hd : Vals dvs ds)
    (hx : Pas X E) (I : Inv X pins σ H s) (r : Vals vs us)
    (h : ∀ x dx, H x = none → H dx = none → dx ≠ x → sp (.ref x :: (vs ++ dvs)) (upd (upd H dx (.own x)) x (.ins C dx [])) (fun v H2 => v = .non ∧ Q (.ref x) H2) (E σ)) :
    wpAny (model X.prog X.w) X.A (call (.ref C) us) (EP X pins σ Q) X.xe s := by
  have h0 := h (s.heap.objs.size + 1) s.heap.objs.size (I.hok.fresh (Nat.le_succ _)) (I.hok.fresh (Nat.le_refl _)) (Nat.ne_of_lt (Nat.lt_succ_self _))
  have J := Inv.made (C := C) I
  have rr : Vals (V.ref (s.heap.objs.size + 1) :: (vs ++ dvs)) (Value.ref (s.heap.objs.size + 1) :: (us ++ ds)) := .cons rfl (r.append hd)
  have hl : (Value.ref (s.heap.objs.size + 1) :: us ++ ds).length = ps.length := (rr.length.symm.trans (F.len _ _ _ _ h0))
  have run := F.go _ X.stack _ _ ⟨Value.ref (s.heap.objs.size + 1) :: us, []⟩ (Value.ref (s.heap.objs.size + 1) :: (us ++ ds)) _ _ (E σ) (hr.make C us []) (make_quiet hG) (J.env0.make C us []) (hb _ (Value.ref (s.heap.objs.size + 1) :: us) J.kIn hl) rr h0
  refine wpAny_call (make_map (f := f) I.kIn M.makes M.init (beq_iff_eq.mp M.fn) (codeAny_mono run ?_))
  rintro (e | fl) s' hq
  · exact hx σ pins _ _ e s' J hq
  · cases fl with
    | ret u =>
      obtain ⟨v, H', I3, rv, ev, q3⟩ := J.after hq
      subst ev
      exact ⟨rv, ⟨V.ref (s.heap.objs.size + 1), H', I3, rfl, q3⟩⟩
    | next => exact hq.elim
    | brk => exact hq.elim
    | cont => exact hq.elim
theorem ue_make (c : Mkr X.prog X.w X.K X.mg X.base k x C dvs sp) (hr : Room j X.A) (hk : k + 1 ≤ j) (hG : Quiet X.A) (hg : Gl X x) (hx : Pas X E) (ha : PA X (e :: es) t)
    (hdb : (x == ("__debug__" : Str)) = false := by decide) (he : starEach (e :: es) X.env = (false, eval e X.env) :: starEach es X.env := by rfl) (hpl : (backTo pos (starEach es X.env)).any (·.1) = false := by rfl) :
    PE X (.Call (.Name x p) (e :: es) [] pos) (uMake C sp dvs E t) := by
  obtain ⟨f, fd, ps, ds, M, F, hm, b, d⟩ := c.ex
  constructor
  intro pins s σ H Q I h
  refine wpAny_Call_Name_kw (ld_glob I hg hm ?_ hdb)
  refine PySem.W.callWith_K (h₀ := X.base) I.ok.mod.kin M.kp (thn (ha.run pos pins s σ H _ I h) ?_) he hpl
  rintro us s1 ⟨vs, H1, I1, r, q⟩
  exact ⟨I1.kIn, run_new M F (hr.mono hk) hG b d hx I1 r q⟩
theorem ue_make0 (c : Mkr X.prog X.w X.K X.mg X.base k x C dvs sp) (hr : Room j X.A) (hk : k + 1 ≤ j) (hG : Quiet X.A) (hg : Gl X x) (hx : Pas X E) (hdb : (x == ("__debug__" : Str)) = false := by decide) :
    PE X (.Call (.Name x p) [] [] pos) (uMake C sp dvs E tNil) := by
  obtain ⟨f, fd, ps, ds, M, F, hm, b, d⟩ := c.ex
  constructor
  intro pins s σ H Q I h
  refine wpAny_Call_Name_kw (ld_glob I hg hm ?_ hdb)
  exact PySem.W.callWith_K0 I.kIn M.kp (run_new (us := []) M F (hr.mono hk) hG b d hx I .nil h)
/-- what leaves a callee leaves the def; nothing leaves a callee -/
theorem PC : Pas X (fun _ => E0) := fun σ pins H s e s' I h => passL pins σ H s e s' I h
end
theorem PB {P : Program} {w : World} {K : PySem.W.Frag} {mg : Str → Option Value} {base : Heap} {N : List Str} {qual : Str} {scope : Scope} {f : Addr} {cd : Value} {A : Around} {outer : List Env} {s : Shared} {H : Hp} {E : XK} :
    Pas (cxOf (L2.CX P w) P w K mg base N qual scope f cd A outer s H E) (fun _ => E) := fun σ => passAt (W := fun cls d _ H => E cls d H) (takes_of rfl rfl rfl rfl) σ
theorem PW {P : Program} {w : World} {K : PySem.W.Frag} {mg : Str → Option Value} {base : Heap} {N : List Str} {qual : Str} {scope : Scope} {f : Addr} {cd : Value} {A : Around} {outer : List Env} {s : Shared} {H : Hp} {E : XK} :
    PassesOwn (model (cxOf (L2.CX P w) P w K mg base N qual scope f cd A outer s H E).prog (cxOf (L2.CX P w) P w K mg base N qual scope f cd A outer s H E).w) (cxOf (L2.CX P w) P w K mg base N qual scope f cd A outer s H E).A (cxOf (L2.CX P w) P w K mg base N qual scope f cd A outer s H E).env (cxOf (L2.CX P w) P w K mg base N qual scope f cd A outer s H E).xe := passes_of rfl
end Rf

namespace Rf
open PySem PySem.Spec PyProof.Rows L2
/-! ## the end of a law's row -/
theorem law_run {P : Program} {w : World} {K : PySem.W.Frag} {mg mb : Str → Option Value} {k : Nat} {fa a : Addr} {fd : FuncData} {x : Str} {sp : Sp} {s₁ : Shared} {vs : List Value} {ns : List Int}
    (KX : K.In s₁.heap) (hns : s₁.heap.Ns mainGlobals mg) (hb : s₁.heap.Ns builtinsNs mb) (hbb : ∀ x : Str, x ≠ "__name__" → mb x = bootBuiltins x) (hlim : s₁.heap.NoLimit) (hg : s₁.gens = #[])
    (ha : s₁.heap.get? a = some { cls := .type "list", data := .seq vs.toArray }) (hi : IntsAre vs ns) (hl : ns.length ≤ sizeLine) (hr : Room k callerA)
    (F : ∀ base : Heap, K.In base → base.Ns mainGlobals mg → Fn P w K mg base k fa fd [x] sp) (hbind : ∀ (s : Shared) (u : Value), BindsTo s fd ⟨[u], []⟩ [(x, u)])
    (hsp : ∀ H : Hp, Only H → SqL K H a (ns.map V.int) → sp [.ref a] H (fun v _ => v = .bl true) fun _ _ _ => False) :
    codeAny (model P w) callerA (.call (.ref fa) ⟨[.ref a], []⟩) (fun r s' => r = .ok (.ret (.bool true)) ∧ OldK s₁.heap s'.heap ∧ s'.os = s₁.os ∧ AllBare s'.gens) s₁ := by
  have rv := vals_ints hi
  have lenV := hi.length
  have main : ∀ H : Hp, Only H → SqL K H a (ns.map V.int) → HOk P w H s₁.heap → (∀ b, H b ≠ none → b = a) → (H a ≠ none → K.lookup a = none) →
      codeAny (model P w) callerA (.call (.ref fa) ⟨[.ref a], []⟩) (fun r s' => r = .ok (.ret (.bool true)) ∧ OldK s₁.heap s'.heap ∧ s'.os = s₁.os ∧ AllBare s'.gens) s₁ := by
    intro H hO hS hok hA hK
    have isA : ∀ {b : Addr} {u : HO}, H b = some u → b = a := fun {b u} q => hA b (by rw [q]; exact fun z => nomatch z)
    have noDict : ∀ {b : Addr} {o : Obj} {es : Array DictEntry} {ep : Nat}, s₁.heap.get? b = some o → o.data = .dict es ep → H b = none := by
      intro b o es ep e d
      cases q : H b with
      | none => rfl
      | some u =>
        cases isA q
        rw [ha] at e
        cases e
        cases (show Data.seq vs.toArray _ = Data.dict es ep from d)
    have ns' : ∀ {b : Addr} {m : Str → Option Value}, s₁.heap.Ns b m → (hidT s₁.heap H).Ns b m := by
      rintro b m ⟨o, es, ep, e, d, r⟩
      exact ⟨o, es, ep, hidT_get e (noDict e d), d, r⟩
    have hKb : K.In (hidT s₁.heap H) := by
      intro b o e
      refine hidT_get (KX b o e) ?_
      cases q : H b with
      | none => rfl
      | some u =>
        cases isA q
        rw [hK (by rw [q]; exact fun z => nomatch z)] at e
        cases e
    obtain ⟨mc, l1, l2⟩ := hlim
    have hM : Mod K mg (hidT s₁.heap H) := ⟨hKb, ns' hns, ⟨mb, ns' hb, hbb⟩, ⟨mc, ns' l1, l2⟩⟩
    have e0 : Env0 P w K mg (hidT s₁.heap H) callerA [] s₁ H := ⟨rfl, hM, fun _ _ e => of_hidT e, Nat.le_of_eq (hidT_size _ _), trivial, fun b z => absurd (show b ∈ ([] : List Addr) from z) (by simp), hok, .of_eq hg⟩
    refine codeAny_mono ((F _ hKb (ns' hns)).go callerA [] s₁ H ⟨[.ref a], []⟩ [.ref a] [.ref a] _ _ hr rfl e0 (hbind s₁ (.ref a)) (.cons rfl .nil) (hsp H hO hS)) ?_
    rintro (e | fl) s' h
    · obtain ⟨_, _, _, _, _, _, _, _, _, _, _, _, z⟩ := h
      exact z.elim
    · cases fl with
      | next => exact h.elim
      | brk => exact h.elim
      | cont => exact h.elim
      | ret u =>
        obtain ⟨v, H', os, bare, un, hok', r', q⟩ := h
        cases (show v = .bl true from q)
        cases (show u = Value.bool true from r')
        refine ⟨rfl, OldK.of_keep ?_, os, bare⟩
        intro b o e
        cases q : H b with
        | none => exact un.keep b o e q (fun z => absurd (show b ∈ ([] : List Addr) from z) (by simp)) (by simp)
        | some u =>
          rcases hO b with z | ⟨ob, xs, z⟩
          · rw [q] at z
            cases z
          · obtain ⟨e1, _⟩ := hok b _ z
            obtain ⟨e2, _⟩ := hok' b _ (un.frzs b ob _ z)
            rw [e] at e1
            cases e1
            exact e2
  cases hk : K.lookup a with
  | some o =>
    have e := KX a o hk
    rw [ha] at e
    cases e
    refine main (fun _ => none) (fun _ => Or.inl rfl) (Or.inr ⟨_, vs.toArray, _, hk, rfl, rfl, rfl, ?_, by simpa using rv⟩) ?_ ?_ ?_
    · rw [List.size_toArray, lenV]
      exact hl
    · intro b u z
      cases (show (none : Option HO) = some u from z)
    · exact fun b z => absurd rfl z
    · exact fun z => absurd rfl z
  | none =>
    refine main (fun b => if b = a then some (.frz { cls := .type "list", data := .seq vs.toArray } (.lst (ns.map V.int))) else none) ?_ (Or.inl (Or.inr ⟨{ cls := .type "list", data := .seq vs.toArray }, if_pos rfl⟩)) ?_ ?_ (fun _ => hk)
    · intro b
      by_cases hb : b = a
      · exact Or.inr ⟨_, _, if_pos hb⟩
      · exact Or.inl (if_neg hb)
    · intro b u z
      by_cases hb : b = a
      · cases (if_pos hb).symm.trans z
        subst hb
        exact ⟨ha, by rw [List.length_map]; exact hl, vs, _, rv, ha⟩
      · cases (if_neg hb).symm.trans z
    · intro b z
      by_cases hb : b = a
      · exact hb
      · exact absurd (if_neg hb) z
theorem walk_fn {l : PySem.W.OpenLaw} {n k : Nat} {q : Program} {loose : List Str} {XP : (Str → Option Value) → Heap → Prop} {YP : World → Heap → Prop} {d : DefRec} {K : Params → PySem.W.Frag} {sp : PySem.W.Frag → Sp} {x : Str}
    (hn : l.most = some n) (hn2 : n ≤ sizeLine) (hdf : d.params.defaults = []) (hr : Room k callerA) (hY : ∀ (w : World) (h : Heap), YP w h → (K w.params).In h)
    (F : ∀ (w : World) (mg : Str → Option Value) (fa : Addr) (h : Heap), (K w.params).In h → h.Ns mainGlobals mg → mg d.name = some (.ref fa) →
      ∃ fd : FuncData, (∀ (s : Shared) (u : Value), BindsTo s fd ⟨[u], []⟩ [(x, u)]) ∧ ∀ base : Heap, (K w.params).In base → base.Ns mainGlobals mg → Fn l.prog w (K w.params) mg base k fa fd [x] (sp (K w.params)))
    (hsp : ∀ (K : PySem.W.Frag) (H : Hp) (a : Addr) (ns : List Int), ns.length ≤ n → Only H → SqL K H a (ns.map V.int) → sp K [.ref a] H (fun v _ => v = .bl true) fun _ _ _ => False) :
    PySem.W.WalkO q loose XP YP l.row.toRowW d [] (fun f vs => PySem.call f vs) := by
  refine Att.attach_call hn hdf ?_
  intro w s₀ s₁ mg mb fa o pm cd doc a vs ns G Y ho hd hcd hmg hobj hints hlen hg
  have KX := hY w _ Y
  obtain ⟨fd, hb, hF⟩ := F w mg fa _ KX G.T.g hmg
  exact law_run KX G.T.g G.T.b G.T.builtins G.T.nolimit hg hobj hints (Nat.le_trans hlen hn2) hr hF hb fun H hO hS => hsp (K w.params) H a ns hlen hO hS
end Rf

namespace Rf
open PySem PySem.Spec PyProof.Rows L2
section
variable {X : Cx} {tg e : Expr} {te : TE} {pos : Pos}
/-! ## what is walked: a list, a tuple, a text -/
theorem PI.or {w1 w2 : TI} (h1 : PI X tg e w1) (h2 : PI X tg e w2) : PI X tg e (fun σ H R => w1 σ H R ∨ w2 σ H R) :=
  ⟨fun pins s σ H R I h => h.elim (h1.run pins s σ H R I) (h2.run pins s σ H R I)⟩
/-- a list, a tuple, a text, a dict's keys (the dict locked) -/
def uSeq (K : PySem.W.Frag) (te : TE) : TI := fun σ H R => te σ H fun x H1 => (∃ a, x = .ref a ∧ (∃ xs, SqL K H1 a xs) ∧ R (Itl K a) H1) ∨ ((∃ a, x = .ref a ∧ (∃ xs, SqT K H1 a xs) ∧ R (Itt K a) H1) ∨
  ((∃ z, x = .str z ∧ R (Its z) H1) ∨ (∃ d o kvs, x = .ref d ∧ H1 d = some (.frz o (.dK kvs)) ∧ R (Itk d o kvs) H1)))
theorem ui_seq {K : PySem.W.Frag} (h : PE X e te) (hK : X.K = K := by rfl) : PI X tg e (uSeq K te) := by
  subst hK
  constructor
  intro pins s σ H R I hw
  refine thn (h.run pins s σ H _ I hw) ?_
  rintro v s1 ⟨x, H1, I1, r1, ⟨a, ex, ⟨xs, hq⟩, q⟩ | ⟨a, ex, ⟨xs, hq⟩, q⟩ | ⟨z, ex, q⟩ | ⟨d, o, kvs, ex, hd, q⟩⟩
  · subst ex
    cases r1
    obtain ⟨its, rv, p, hz⟩ := I1.list hq
    exact wpAny_pyIter_list p.isList (pi_one (tk := s1.toks) I1 _ (turn_list a _) ⟨_, Heap.get?_push_size _ rfl, rfl, rfl⟩ q)
  · subst ex
    cases r1
    obtain ⟨its, rv, p, hz⟩ := I1.tuple hq
    exact wpAny_pyIter_tuple (show s1.heap.IsTuple a its.toArray from p) (pi_one (tk := s1.toks) I1 _ (turn_tuple a _) ⟨_, Heap.get?_push_size _ rfl, rfl, rfl⟩ q)
  · subst ex
    obtain ⟨t, rfl⟩ := r1
    cases ha : z.cps.all (· < 128)
    · exact wpAny_pyIter_wide ha (pi_one (tk := s1.toks) I1 _ (turn_str _ z t "str_iterator" (Or.inr rfl)) ⟨_, Heap.get?_push_size _ rfl, rfl, rfl⟩ q)
    · exact wpAny_pyIter_ascii ha (pi_one (tk := s1.toks) I1 _ (turn_str _ z t "str_ascii_iterator" (Or.inl rfl)) ⟨_, Heap.get?_push_size _ rfl, rfl, rfl⟩ q)
  · subst ex
    cases (show v = Value.ref d from r1)
    obtain ⟨hs, hgd, hx, es, ep, vs, hdt, hsz, kv, hm⟩ := I1.frzK hd
    refine iter_keys hs hgd hx hdt (pi_one (tk := s1.toks) I1 _ (turn_keys _ hdt) ⟨_, Heap.get?_push_size _ rfl, rfl, ?_⟩ q)
    rw [hsz] <;> rfl
theorem PG.or {t1 t2 : TG} (h1 : PG X e t1) (h2 : PG X e t2) : PG X e (fun v σ H Q => t1 v σ H Q ∨ t2 v σ H Q) :=
  ⟨fun pins s σ H v u Q I r h => h.elim (h1.run pins s σ H v u Q I r) (h2.run pins s σ H v u Q I r)⟩
/-- a, b, .. = a tuple or a list of that length -/
def gSeq (K : PySem.W.Frag) (n : Nat) (t : TGs) : TG := fun v σ H Q => ∃ a xs, v = .ref a ∧ (SqT K H a xs ∨ SqL K H a xs) ∧ xs.length = n ∧ t xs σ H Q
theorem ug_seq {K : PySem.W.Frag} {es : List Expr} {k : Nat} {t : TGs} {n : Nat} (hc : X.calm = true) (h : PGs X es t) (hK : X.K = K := by rfl) (hn : (assignEach es X.env).length = n := by rfl) (hst : (assignEach es X.env).findIdx? (·.1) = none := by rfl) :
    PG X (.Tuple es k pos) (gSeq K n t) := by
  subst hK
  constructor
  rintro pins s σ H v u Q I r ⟨a, xs, e1, hq | hq, hl, hw⟩
  · exact (pg_tup hc h hn hst).run pins s σ H v u Q I r ⟨a, xs, e1, hq, hl, hw⟩
  · exact (pg_lst hc h hn hst).run pins s σ H v u Q I r ⟨a, xs, e1, hq, hl, hw⟩
theorem set_dict (hu : X.A.units + 1 < cLine) : PSet X rSetD := by
  intro pins s σ H o i v ov iv u Q I ro ri rv h
  obtain ⟨a, H', ex, g, q⟩ := h
  subst ex
  cases (show ov = Value.ref a from ro)
  exact d_setItem hu I g ri rv fun s4 I4 => ⟨H', I4, q⟩
theorem uq_set (hu : X.A.units + 1 < cLine) : PSet X uSet := by
  intro pins s σ H o i v ov iv u Q I ro ri rv h
  cases h with
  | inl h => exact set_list pins s σ H o i v ov iv u Q I ro ri rv h
  | inr h => exact set_dict hu pins s σ H o i v ov iv u Q I ro ri rv h
/-! ## truth, not -/
def uTru (K : PySem.W.Frag) (te : TE) : TT := fun σ H Q => te σ H fun x H' => ∃ k, TruV K x H' k ∧ Q k H'
theorem ut_truth {K : PySem.W.Frag} (h : PE X e te) (hK : X.K = K := by rfl) (hs : ∀ w, isTrue e X.env w = (do let v ← w; standAt e.pos; holding [v] (truthy v)) := by intro _; rfl) : PT X e (uTru K te) := by subst hK; exact pt_truth h hs
/-! ## the library's rules with K told -/
theorem ue_fld {K : PySem.W.Frag} {f : Str} (he : PE X e te) (hb : attributeBase e f X.env (eval e X.env) = eval e X.env) (hK : X.K = K := by rfl) : PE X (.Attribute e f pos) (tFld K te f) := by
  subst hK
  exact pe_fld he hb
theorem ue_bm {K : PySem.W.Frag} {T id : String} {name : Str} {r : V → List V → Hp → VK → Prop} {o : Expr} {es : List Expr} {to : TE} {t : TA} {apos cpos : Pos} (pa : PlainAttrs T) (slot : Slot T name id) (hty : typeOf (.builtin id) = pure (.type "method_descriptor")) (hm : MtR X id r) (ho : PE X o to) (ha : PA X (e :: es) t) (hK : X.K = K := by rfl)
    (hbase : attributeBase o name X.env (eval o X.env) = eval o X.env := by rfl)
    (hfew : ((backTo cpos (starEach (e :: es) X.env)).all (fun x => !x.1) && (backToKw cpos (keywordEach [] X.env)).all (fun x => x.1.isSome) && decide ((e :: es).length + ([] : List Keyword).length + (if ([] : List Keyword).isEmpty then 0 else 1) < 30)) = true := by rfl)
    (hline : (apos.endLine == cpos.line) = true := by rfl) (hs : starEach (e :: es) X.env = (false, eval e X.env) :: starEach es X.env := by rfl) (hplain : (backTo cpos (starEach es X.env)).any (·.1) = false := by rfl) :
    PE X (.Call (.Attribute o name apos) (e :: es) [] cpos) (tBM K T r to t) := by
  subst hK
  exact pe_bm pa slot hty hm ho ha hbase hfew hline hs hplain
def rJoin (K : PySem.W.Frag) : V → List V → Hp → VK → Prop := fun x xs H Q => ∃ a p, ∃ ys : List Str, x = .str a ∧ xs = [.ref p] ∧ (SqL K H p (ys.map V.str) ∨ SqT K H p (ys.map V.str)) ∧ (ys.map (·.length)).sum + ys.length * a.length ≤ 16777216 ∧ Q (.str (Txt.join a ys)) H
theorem ue_join {K : PySem.W.Frag} {o : Expr} {to : TE} {apos : Pos} (ho : PE X o to) (he : PE X e te) (hK : X.K = K := by rfl) (hs : starEach [e] X.env = [(false, eval e X.env)] := by rfl) (hbase : attributeBase o "join" X.env (eval o X.env) = eval o X.env := by rfl) (hline : (apos.endLine == pos.line) = true := by rfl) :
    PE X (.Call (.Attribute o "join" apos) [e] [] pos) (tM1 (rJoin K) to te) := by
  subst hK
  exact pe_join ho he hs hbase hline
/-! ## repr, isinstance -/
theorem dp_noDict {K : PySem.W.Frag} {H : Hp} : ∀ {v : V} {d : PyData}, Dp K H v d → d.hasDict = false := by
  intro v d h
  refine Dp.rec (motive_1 := fun _ d _ => d.hasDict = false) (motive_2 := fun _ ds _ => PyData.hasDictAll ds = false) ?_ ?_ ?_ ?_ ?_ ?_ ?_ ?_ h
  · rfl
  · intro b; rfl
  · intro i; rfl
  · intro x; rfl
  · intro a xs ds _ _ ih; simpa [PyData.hasDict] using ih
  · intro a xs ds _ _ ih; simpa [PyData.hasDict] using ih
  · rfl
  · intro v vs d ds _ _ i1 i2; simp [PyData.hasDictAll, i1, i2]
def uRepr (K : PySem.W.Frag) : List V → Hp → VK → Prop := fun xs H Q => ∃ x d, xs = [x] ∧ Dp K H x d ∧ d.showable = true ∧ d.shown.length ≤ sizeLine ∧ d.depth ≤ 40 ∧ Q (.str d.shown) H
theorem uc_repr {K : PySem.W.Frag} {k : Nat} (hr : Room k X.A) (hG : Quiet X.A) (hK : X.K = K := by rfl) : CallR X (.builtin "repr") (uRepr K) := by
  subst hK
  intro pins s σ H xs us Q I r h
  obtain ⟨x, d, rfl, hd, hs, hz, hdp, q⟩ := h
  obtain ⟨u, rfl, rx⟩ := vals1 r
  have hu := hr.units
  cases hd with
  | non =>
    cases (show u = Value.none from rx)
    exact P.repr_of_none ⟨.str _, H, I.tok _, ⟨_, rfl⟩, q⟩
  | bl b =>
    cases (show u = Value.bool b from rx)
    exact P.repr_of_bool ⟨.str _, H, I.tok _, ⟨_, rfl⟩, q⟩
  | int i =>
    obtain ⟨t, rfl⟩ := rx
    exact P.repr_of_int (of_decide_eq_true hs) ⟨.str _, H, I.tok _, ⟨_, rfl⟩, q⟩
  | str y =>
    obtain ⟨t, rfl⟩ := rx
    exact P.repr_of_str ⟨.str _, H, I.tok _, ⟨_, rfl⟩, q⟩ hz
  | @lst a ys ds h1 h2 =>
    cases (show u = Value.ref a from rx)
    have hd : Dp X.K H (.ref a) (.list ds) := .lst h1 h2
    obtain ⟨as, rd⟩ := Dp.reads I _ _ _ hd rx
    exact repr_of_reads' rd hs (fun z => by rw [dp_noDict hd] at z; cases z) hG (by omega) (fun _ _ z => z) (fun h' u' tk hk => ⟨.str _, H, I.kept hk, ⟨_, rfl⟩, q⟩) hz
  | @tup a ys ds h1 h2 =>
    cases (show u = Value.ref a from rx)
    have hd : Dp X.K H (.ref a) (.tuple ds) := .tup h1 h2
    obtain ⟨as, rd⟩ := Dp.reads I _ _ _ hd rx
    exact repr_of_reads' rd hs (fun z => by rw [dp_noDict hd] at z; cases z) hG (by omega) (fun _ _ z => z) (fun h' u' tk hk => ⟨.str _, H, I.kept hk, ⟨_, rfl⟩, q⟩) hz
theorem uc_isinstance {K : PySem.W.Frag} (hK : X.K = K := by rfl) : CallR X (.builtin "isinstance") (rIsi K) := by subst hK; exact call_isi
/-! ## built-in classes called -/
abbrev rListSq (K : PySem.W.Frag) : List V → Hp → VK → Prop := fun xs H Q => ∃ p ys, xs = [.ref p] ∧ (SqL K H p ys ∨ SqT K H p ys) ∧ ∀ l, H l = none → Q (.ref l) (upd H l (.lst ys))
abbrev rListDk : List V → Hp → VK → Prop := fun xs H Q => ∃ (a : Addr) (kvs : List (Key × V)), xs = [.ref a] ∧ Rd H a (.dK kvs) ∧ ∀ p, H p = none → Q (.ref p) (upd H p (.lst (kvs.map fun kv => kV kv.1)))
def uList (K : PySem.W.Frag) : List V → Hp → VK → Prop := fun xs H Q => rListSq K xs H Q ∨ rListDk xs H Q
theorem uc_list {K : PySem.W.Frag} (hc : X.calm = true := by rfl) (hK : X.K = K := by rfl) : CallR X (.type "list") (uList K) := by subst hK; exact CallR.or call_list_of (call_listD hc)
def uDict : List V → Hp → VK → Prop := fun xs H Q => ∃ (a : Addr) (kvs : List (Key × V)), xs = [.ref a] ∧ Rd H a (.dK kvs) ∧ ∀ p, H p = none → Q (.ref p) (upd H p (.dK kvs))
theorem uc_dict : CallR X (.type "dict") uDict := call_dictD
abbrev rStrI : List V → Hp → VK → Prop := fun xs H Q => ∃ i, xs = [.int i] ∧ i.natAbs.log2 < 1920 ∧ Q (.str (toString i)) H
abbrev rStrS : List V → Hp → VK → Prop := fun xs H Q => ∃ a, xs = [.str a] ∧ Q (.str a) H
def uStr : List V → Hp → VK → Prop := fun xs H Q => rStrI xs H Q ∨ rStrS xs H Q
theorem uc_str : CallR X (.type "str") uStr := CallR.or call_str_int SkE.call_str_str
abbrev rIntS : List V → Hp → VK → Prop := fun xs H Q => ∃ a n, xs = [.str a] ∧ PySem.intText? a = some n ∧ a.length ≤ 640 ∧ Q (.int n) H
def uInt : List V → Hp → VK → Prop := rIntS
theorem uc_int : CallR X (.type "int") uInt := call_int_str
end
/-! ## steps of a reading, by its head -/
section
variable {D : Ends} {σ : L2.St} {H : Hp} {K : PySem.W.Frag} {Q : VK}
/-- the loop itself, its iterator made -/
abbrev Loop (J : It) (g : TG) (tb : TS) (D : Ends) (σ : L2.St) (H1 : Hp) : Prop := ∃ W : Nat → Nat → L2.St → Hp → Prop, (∃ m, W 0 m σ H1) ∧ ∀ i m σ H, W i m σ H →
  (J.stop i H ∧ D.nx σ H) ∨ (J.go i H ∧ ∃ N : L2.St → Hp → Prop, (∀ σ' H', N σ' H' → ∃ m', m' < m ∧ W (i + 1) m' σ' H') ∧ ∀ x H', J.yld i H x H' → g x σ H' fun σ2 H2 => tb { D with nx := N, ct := N, bk := D.nx } σ2 H2)
theorem g_for {wi : TI} {g : TG} {tb : TS} (h : wi σ H fun J H1 => Loop J g tb D σ H1) : tFor wi g tb D σ H := h
theorem g_rng1 {ta : TA} {R : It → Hp → Prop} (h : ta σ H fun vs H1 => ∃ j : Int, vs = [.int j] ∧ -(2 ^ 62) ≤ j ∧ j < 2 ^ 62 ∧ R (Itr 0 j.toNat) H1) : iRng1 ta σ H R := h
theorem g_rng2 {ta : TA} {R : It → Hp → Prop} (h : ta σ H fun vs H1 => ∃ i j : Int, vs = [.int i, .int j] ∧ (-(2 ^ 62) ≤ i ∧ i < 2 ^ 62 ∧ -(2 ^ 62) ≤ j ∧ j < 2 ^ 62) ∧ R (Itr i (j - i).toNat) H1) : iRng2 ta σ H R := h
theorem g_seqI {te : TE} {R : It → Hp → Prop} (h : te σ H fun x H1 => (∃ a, x = .ref a ∧ (∃ xs, SqL K H1 a xs) ∧ R (Itl K a) H1) ∨ ((∃ a, x = .ref a ∧ (∃ xs, SqT K H1 a xs) ∧ R (Itt K a) H1) ∨
  ((∃ z, x = .str z ∧ R (Its z) H1) ∨ (∃ d o kvs, x = .ref d ∧ H1 d = some (.frz o (.dK kvs)) ∧ R (Itk d o kvs) H1)))) : uSeq K te σ H R := h
theorem n_rng1 {j : Int} {P : Int → Prop} (h0 : 0 ≤ j) (h1 : j < 1000000000) (h : P j) : ∃ j' : Int, [V.int j] = [.int j'] ∧ -(2 ^ 62) ≤ j' ∧ j' < 2 ^ 62 ∧ P j' := ⟨j, rfl, by omega, by omega, h⟩
theorem n_seqL {a : Addr} {xs : List V} {R : It → Prop} {B : Prop} (h1 : SqL K H a xs) (h : R (Itl K a)) : (∃ a', V.ref a = .ref a' ∧ (∃ xs, SqL K H a' xs) ∧ R (Itl K a')) ∨ B := Or.inl ⟨a, rfl, ⟨xs, h1⟩, h⟩
theorem n_seqT {a : Addr} {xs : List V} {R : It → Prop} {A B : Prop} (h1 : SqT K H a xs) (h : R (Itt K a)) : A ∨ ((∃ a', V.ref a = .ref a' ∧ (∃ xs, SqT K H a' xs) ∧ R (Itt K a')) ∨ B) := Or.inr (Or.inl ⟨a, rfl, ⟨xs, h1⟩, h⟩)
theorem n_seqS {z : Str} {R : It → Prop} {A B C : Prop} (h : R (Its z)) : A ∨ (B ∨ ((∃ z', V.str z = .str z' ∧ R (Its z')) ∨ C)) := Or.inr (Or.inr (Or.inl ⟨z, rfl, h⟩))
theorem g_while {c : TT} {tb : TS} (h : ∃ W : Nat → L2.St → Hp → Prop, (∃ m, W m σ H) ∧ ∀ m σ H, W m σ H → c σ H fun b H1 => if b = true then ∃ N : L2.St → Hp → Prop, (∀ σ' H', N σ' H' → ∃ m', m' < m ∧ W m' σ' H') ∧ tb { D with nx := N, ct := N, bk := D.nx } σ H1 else D.nx σ H1) : tWhile c tb D σ H := h
theorem g_m1 {r : V → List V → Hp → VK → Prop} {to te : TE} (h : to σ H fun x H1 => (∃ a, x = .str a) ∧ te σ H1 fun y H2 => r x [y] H2 Q) : tM1 r to te σ H Q := h
theorem g_m0 {r : V → List V → Hp → VK → Prop} {to : TE} (h : to σ H fun x H1 => (∃ a, x = .str a) ∧ r x [] H1 Q) : tM0 r to σ H Q := h
theorem g_isStr {a : Str} {B : Prop} (h : B) : (∃ a', V.str a = .str a') ∧ B := ⟨⟨a, rfl⟩, h⟩
/-- a comprehension's loop, its iterator and its list made -/
abbrev LcLoop (J : It) (g : TG) (tt : TT) (te : TE) (vs : List Nat) (σ : L2.St) (H1 : Hp) (Dl : Addr) (Qd : Hp → Prop) : Prop := ∃ W : Nat → Nat → Hp → Prop, (∃ m, W 0 m (upd H1 Dl (.lst []))) ∧ ∀ i m H, W i m H →
  (J.stop i H ∧ Qd H) ∨ (J.go i H ∧ ∃ Nx : Hp → Prop, (∀ H', Nx H' → ∃ m', m' < m ∧ W (i + 1) m' H') ∧ ∀ x H', J.yld i H x H' → g x (wipe σ vs) H' fun σ2 H2 => wipe σ2 vs = wipe σ vs ∧ tt σ2 H2 fun b H3 =>
    if b = true then te σ2 H3 fun y H4 => ∃ acc, H4 Dl = some (.lst acc) ∧ acc.length < sizeLine ∧ Nx (upd H4 Dl (.lst (acc ++ [y]))) else Nx H3)
theorem g_lc {wi : TI} {g : TG} {tt : TT} {te : TE} {vs : List Nat} (h : wi σ H fun J H1 => ∀ Dl, H1 Dl = none → LcLoop J g tt te vs σ H1 Dl (fun H' => Q (.ref Dl) H')) : tLc wi g tt te vs σ H Q := h
theorem g_yes {Q : Bool → Hp → Prop} (h : Q true H) : tYes σ H Q := h
theorem g_seq {t u : TS} (h : t { D with nx := u D } σ H) : tSeq t u D σ H := h
theorem g_asg {te : TE} {g : TG} (h : te σ H fun x H1 => g x σ H1 D.nx) : tAsg te g D σ H := h
theorem g_name {v : V} {i : Nat} {Q : L2.St → Hp → Prop} (h : Q (σ.set i (some v)) H) : gName i v σ H Q := h
theorem g_drop {te : TE} (h : te σ H fun _ H1 => D.nx σ H1) : tDrop te D σ H := h
theorem g_next (h : D.nx σ H) : tNext D σ H := h
theorem g_ret {te : TE} (h : te σ H D.rt) : tRet te D σ H := h
theorem g_retN (h : D.rt .non H) : tRetN D σ H := h
theorem g_if {c : TT} {t u : TS} (h : c σ H fun b H1 => if b = true then t D σ H1 else u D σ H1) : tIfS c t u D σ H := h
theorem g_ifE {c : TT} {ta tb : TE} (h : c σ H fun b H1 => if b = true then ta σ H1 Q else tb σ H1 Q) : tIf c ta tb σ H Q := h
theorem g_par {i j : Nat} {ta : TA} (h : ta σ H fun vs H1 => ∃ v w, vs = [v, w] ∧ D.nx ((σ.set i (some v)).set j (some w)) H1) : tPar i j ta D σ H := h
theorem g_par2 {v w : V} {P : V → V → Prop} (h : P v w) : ∃ v' w', [v, w] = [v', w'] ∧ P v' w' := ⟨v, w, rfl, h⟩
theorem g_var {i : Nat} {v : V} (e : σ[i]? = some (some v)) (h : Q v H) : tVar i σ H Q := ⟨v, e, h⟩
theorem g_c {v : V} (h : Q v H) : tC v σ H Q := h
theorem g_op {r : R2} {ta tb : TE} (h : ta σ H fun x H1 => tb σ H1 fun y H2 => r x y H2 Q) : tOp r ta tb σ H Q := h
theorem g_un {r : V → Hp → VK → Prop} {ta : TE} (h : ta σ H fun x H1 => r x H1 Q) : tUn r ta σ H Q := h
theorem g_cb {r : List V → Hp → VK → Prop} {t : TA} (h : t σ H fun vs H1 => r vs H1 Q) : tCB r t σ H Q := h
theorem g_nil {Q : List V → Hp → Prop} (h : Q [] H) : tNil σ H Q := h
theorem g_cons {ta : TE} {tr : TA} {Q : List V → Hp → Prop} (h : ta σ H fun x H1 => tr σ H1 fun xs H2 => Q (x :: xs) H2) : tCons ta tr σ H Q := h
theorem g_test {t : TE} {Q : Bool → Hp → Prop} (h : t σ H fun x H' => ∃ k, x = .bl k ∧ Q k H') : tTest t σ H Q := h
theorem g_bl {b : Bool} {P : Bool → Prop} (h : P b) : ∃ k, V.bl b = .bl k ∧ P k := ⟨b, rfl, h⟩
theorem g_tru {t : TE} {Q : Bool → Hp → Prop} (h : t σ H fun x H' => ∃ k, TruV K x H' k ∧ Q k H') : uTru K t σ H Q := h
theorem g_truB {b : Bool} {P : Bool → Prop} (h : P b) : ∃ k, TruV K (.bl b) H k ∧ P k := ⟨b, rfl, h⟩
theorem g_not {t : TT} {Q : Bool → Hp → Prop} (h : t σ H fun b H1 => Q (!b) H1) : tNot t σ H Q := h
theorem g_and {t u : TT} {Q : Bool → Hp → Prop} (h : t σ H fun b H1 => if b = true then u σ H1 Q else Q false H1) : tAnd t u σ H Q := h
theorem g_or {t u : TT} {Q : Bool → Hp → Prop} (h : t σ H fun b H1 => if b = true then Q true H1 else u σ H1 Q) : tOr t u σ H Q := h
theorem g_andV {ta tb : TE} (h : ta σ H fun x H1 => ∃ c, x = .bl c ∧ if c = true then tb σ H1 Q else Q (.bl false) H1) : tAndV ta tb σ H Q := h
theorem g_orV {ta tb : TE} (h : ta σ H fun x H1 => ∃ c, x = .bl c ∧ if c = true then Q (.bl true) H1 else tb σ H1 Q) : tOrV ta tb σ H Q := h
theorem g_notV {ta : TE} (h : ta σ H fun x H1 => ∃ c, x = .bl c ∧ Q (.bl (!c)) H1) : tNotV ta σ H Q := h
theorem g_call {sp : Sp} {dvs : List V} {E : L2.St → XK} {t : TA} (h : t σ H fun vs H1 => sp (vs ++ dvs) H1 Q (E σ)) : uCall sp dvs E t σ H Q := h
theorem g_tup {t : TA} (h : t σ H fun xs H1 => xs.length ≤ sizeLine ∧ ∀ p, H1 p = none → Q (.ref p) (upd H1 p (.tup xs))) : tTup t σ H Q := h
theorem g_lst {t : TA} (h : t σ H fun xs H1 => xs.length ≤ sizeLine ∧ ∀ p, H1 p = none → Q (.ref p) (upd H1 p (.lst xs))) : tLst t σ H Q := h
theorem g_chain {r r' : R2} {ta tb tc : TE} (h : ta σ H fun x H1 => tb σ H1 fun y H2 => r x y H2 fun z H3 => ∃ k, z = .bl k ∧ if k = true then tc σ H3 fun w H4 => r' y w H4 Q else Q (.bl false) H3) : tChain r r' ta tb tc σ H Q := h
theorem g_sl {r : V → Option Int → Option Int → Hp → VK → Prop} {te : TE} {tl th : TO} (h : te σ H fun x H1 => tl σ H1 fun l H2 => th σ H2 fun u H3 => r x l u H3 Q) : tSl r te tl th σ H Q := h
theorem g_noPart {Q : Option Int → Hp → Prop} (h : Q none H) : tNoPart σ H Q := h
theorem g_part {te : TE} {Q : Option Int → Hp → Prop} (h : te σ H fun x H1 => ∃ i, x = .int i ∧ Q (some i) H1) : tPart te σ H Q := h
theorem g_int {i : Int} {P : Int → Prop} (h : P i) : ∃ j, V.int i = .int j ∧ P j := ⟨i, rfl, h⟩
theorem g_iteT {A B : Prop} (h : A) : if true = true then A else B := by rw [if_pos rfl]; exact h
theorem g_iteF {A B : Prop} (h : B) : if false = true then A else B := by rw [if_neg Bool.false_ne_true]; exact h
theorem g_iteTc {A B : Prop} {c : Bool} (e : c = true) (h : A) : if c = true then A else B := by rw [if_pos e]; exact h
theorem g_iteFc {A B : Prop} {c : Bool} (e : c = false) (h : B) : if c = true then A else B := by rw [e, if_neg Bool.false_ne_true]; exact h
theorem g_new {H : Hp} {o : HO} {P : V → Hp → Prop} (h : ∀ p H', H p = none → Same H H' → H' p = some o → P (.ref p) H') : ∀ p, H p = none → P (.ref p) (upd H p o) := fun p hp =>
  h p (upd H p o) hp (fun b u e => by rw [upd_ne (ne_of_none e hp)]; exact e) upd_same
theorem g_fld {te : TE} {f : Str} (h : te σ H fun x H1 => ∃ a C dx fs v, x = .ref a ∧ H1 a = some (.ins C dx fs) ∧ Cls K C ∧ NoAttr K C f ∧ fs.lookup f = some v ∧ Q v H1) : tFld K te f σ H Q := h
theorem g_bm {T : String} {r : V → List V → Hp → VK → Prop} {to : TE} {t : TA} (h : to σ H fun x H1 => tyV K T x H1 ∧ t σ H1 fun xs H2 => r x xs H2 Q) : tBM K T r to t σ H Q := h
theorem g_bm0 {T : String} {r : V → List V → Hp → VK → Prop} {to : TE} (h : to σ H fun x H1 => tyV K T x H1 ∧ r x [] H1 Q) : tBM0 K T r to σ H Q := h
theorem g_gcons {t : TG} {u : TGs} {v : V} {r : List V} {Q : L2.St → Hp → Prop} (h : t v σ H fun σ' H' => u r σ' H' Q) : gCons t u (v :: r) σ H Q := ⟨v, r, rfl, h⟩
theorem g_gnil {Q : L2.St → Hp → Prop} (h : Q σ H) : gNil [] σ H Q := ⟨rfl, h⟩
theorem g_gsub {to ti : TE} {t : TSet} {v : V} {Q : L2.St → Hp → Prop} (h : to σ H fun o H1 => ti σ H1 fun i H2 => t o i v H2 fun H3 => Q σ H3) : gSub to ti t v σ H Q := h
theorem g_gseqT {n : Nat} {t : TGs} {a : Addr} {xs : List V} {Q : L2.St → Hp → Prop} (h1 : SqT K H a xs) (hl : xs.length = n) (h : t xs σ H Q) : gSeq K n t (.ref a) σ H Q := ⟨a, xs, rfl, .inl h1, hl, h⟩
theorem g_gseqL {n : Nat} {t : TGs} {a : Addr} {xs : List V} {Q : L2.St → Hp → Prop} (h1 : SqL K H a xs) (hl : xs.length = n) (h : t xs σ H Q) : gSeq K n t (.ref a) σ H Q := ⟨a, xs, rfl, .inr h1, hl, h⟩
/-! ## values -/
theorem i_add {i j : Int} (h : Q (.int (i + j)) H) : uAdd (.int i) (.int j) H Q := Or.inl ⟨i, j, rfl, rfl, h⟩
theorem i_addS {i j : Str} (hl : i.length + j.length ≤ sizeLine) (h : Q (.str (i ++ j)) H) : uAdd (.str i) (.str j) H Q := Or.inr (Or.inl ⟨i, j, rfl, rfl, hl, h⟩)
theorem i_sub {i j : Int} (h : Q (.int (i - j)) H) : uSub (.int i) (.int j) H Q := ⟨i, j, rfl, rfl, h⟩
theorem i_mul {i j : Int} (c : CMul i j) (h : Q (.int (i * j)) H) : uMul (.int i) (.int j) H Q := Or.inl ⟨i, j, rfl, rfl, c, h⟩
theorem i_mulW {i j : Int} (c : CMulW i j) (h : Q (.int (i * j)) H) : uMul (.int i) (.int j) H Q := Or.inr ⟨i, j, rfl, rfl, c, h⟩
theorem i_fdiv {i j : Int} (c : CDiv i j) (h : Q (.int (i / j)) H) : uFdiv (.int i) (.int j) H Q := Or.inl ⟨i, j, rfl, rfl, c, h⟩
theorem i_fdivW {i j : Int} (c : CDivW i j) (h : Q (.int (i / j)) H) : uFdiv (.int i) (.int j) H Q := Or.inr ⟨i, j, rfl, rfl, c, h⟩
theorem i_mod {i j : Int} (c : 0 < j) (h : Q (.int (i % j)) H) : uMod (.int i) (.int j) H Q := ⟨i, j, rfl, rfl, c, h⟩
theorem i_pow {i j : Int} (c : CPow i j) (h : Q (.int (i ^ j.toNat)) H) : uPow (.int i) (.int j) H Q := ⟨i, j, rfl, rfl, c, h⟩
theorem i_lt {i j : Int} (h : Q (.bl (decide (i < j))) H) : uLt (.int i) (.int j) H Q := ⟨i, j, rfl, rfl, h⟩
theorem i_le {i j : Int} (h : Q (.bl (decide (i ≤ j))) H) : uLe (.int i) (.int j) H Q := ⟨i, j, rfl, rfl, h⟩
theorem i_gt {i j : Int} (h : Q (.bl (decide (j < i))) H) : uGt (.int i) (.int j) H Q := ⟨i, j, rfl, rfl, h⟩
theorem i_ge {i j : Int} (h : Q (.bl (decide (j ≤ i))) H) : uGe (.int i) (.int j) H Q := ⟨i, j, rfl, rfl, h⟩
theorem i_neg {i : Int} (h : Q (.int (-i)) H) : (rU fun i => .int (-i)) (.int i) H Q := ⟨i, rfl, h⟩
theorem i_eqI {i j : Int} (h : Q (.bl (decide (i = j))) H) : uEq K (.int i) (.int j) H Q := Or.inl ⟨rfl, by rw [show decide (V.int i = V.int j) = decide (i = j) by simp]; exact h⟩
theorem i_eqS {i j : Str} (h : Q (.bl (decide (i = j))) H) : uEq K (.str i) (.str j) H Q := Or.inl ⟨rfl, by rw [show decide (V.str i = V.str j) = decide (i = j) by simp]; exact h⟩
theorem i_neI {i j : Int} (h : Q (.bl (!decide (i = j))) H) : uNe K (.int i) (.int j) H Q := Or.inl ⟨rfl, by rw [show decide (V.int i = V.int j) = decide (i = j) by simp]; exact h⟩
theorem i_neS {i j : Str} (h : Q (.bl (!decide (i = j))) H) : uNe K (.str i) (.str j) H Q := Or.inl ⟨rfl, by rw [show decide (V.str i = V.str j) = decide (i = j) by simp]; exact h⟩
theorem i_eqD {x y : V} {d e : PyData} (h1 : Dp K H x d) (h2 : Dp K H y e) (s1 : SeqAt.shaped d = true) (s2 : SeqAt.shaped e = true) (h : Q (.bl (PyData.eqv d e)) H) : uEq K x y H Q := Or.inr (Or.inl ⟨d, e, h1, h2, s1, s2, h⟩)
theorem i_neD {x y : V} {d e : PyData} (h1 : Dp K H x d) (h2 : Dp K H y e) (s1 : SeqAt.shaped d = true) (s2 : SeqAt.shaped e = true) (h : Q (.bl (!PyData.eqv d e)) H) : uNe K x y H Q := Or.inr (Or.inl ⟨d, e, h1, h2, s1, s2, h⟩)
theorem i_ixL {p : Addr} {xs : List V} {i : Int} {v : V} (h1 : SqL K H p xs) (h2 : atI xs i = some v) (h : Q v H) : uIx K (.ref p) (.int i) H Q := Or.inl ⟨p, xs, i, v, rfl, rfl, h1, h2, h⟩
theorem i_ixT {p : Addr} {xs : List V} {i : Int} {v : V} (h1 : SqT K H p xs) (h2 : atI xs i = some v) (h : Q v H) : uIx K (.ref p) (.int i) H Q := Or.inr (Or.inl ⟨p, xs, i, v, rfl, rfl, h1, h2, h⟩)
theorem i_ixS {z : Str} {i : Int} {c : Nat} (hl : z.length ≤ sizeLine) (h2 : atI z.cps.toList i = some c) (h : Q (.str ⟨#[c]⟩) H) : uIx K (.str z) (.int i) H Q := Or.inr (Or.inr (Or.inl ⟨z, i, c, rfl, rfl, hl, h2, h⟩))
theorem i_ixD {a : Addr} {y v : V} (h1 : DGet H a y (some v)) (h : Q v H) : uIx K (.ref a) y H Q := Or.inr (Or.inr (Or.inr ⟨a, v, rfl, h1, h⟩))
theorem i_inD {a : Addr} {y : V} {o : Option V} (h1 : DGet H a y o) (h : Q (.bl o.isSome) H) : uIn K y (.ref a) H Q := Or.inl ⟨a, o, rfl, h1, h⟩
theorem i_notinD {a : Addr} {y : V} {o : Option V} (h1 : DGet H a y o) (h : Q (.bl (!o.isSome)) H) : uNotIn K y (.ref a) H Q := Or.inl ⟨a, o, rfl, h1, h⟩
theorem i_inL {p : Addr} {x : V} {xs : List V} (h1 : SqL K H p xs) (hx : flatV x = true) (ha : xs.all flatV = true) (h : Q (.bl (inV x xs)) H) : uIn K x (.ref p) H Q := Or.inr (Or.inl ⟨p, xs, rfl, .inl h1, hx, ha, h⟩)
theorem i_inT {p : Addr} {x : V} {xs : List V} (h1 : SqT K H p xs) (hx : flatV x = true) (ha : xs.all flatV = true) (h : Q (.bl (inV x xs)) H) : uIn K x (.ref p) H Q := Or.inr (Or.inl ⟨p, xs, rfl, .inr h1, hx, ha, h⟩)
theorem i_notinL {p : Addr} {x : V} {xs : List V} (h1 : SqL K H p xs) (hx : flatV x = true) (ha : xs.all flatV = true) (h : Q (.bl (!inV x xs)) H) : uNotIn K x (.ref p) H Q := Or.inr (Or.inl ⟨p, xs, rfl, .inl h1, hx, ha, h⟩)
theorem i_notinT {p : Addr} {x : V} {xs : List V} (h1 : SqT K H p xs) (hx : flatV x = true) (ha : xs.all flatV = true) (h : Q (.bl (!inV x xs)) H) : uNotIn K x (.ref p) H Q := Or.inr (Or.inl ⟨p, xs, rfl, .inr h1, hx, ha, h⟩)
theorem i_inC {c : Nat} {z : Str} (h : Q (.bl (decide (c ∈ z.cps.toList))) H) : uIn K (.str ⟨#[c]⟩) (.str z) H Q := Or.inr (Or.inr ⟨c, z, rfl, rfl, h⟩)
theorem i_notinC {c : Nat} {z : Str} (h : Q (.bl (!decide (c ∈ z.cps.toList))) H) : uNotIn K (.str ⟨#[c]⟩) (.str z) H Q := Or.inr (Or.inr ⟨c, z, rfl, rfl, h⟩)
theorem i_slL {a : Addr} {xs : List V} {lo hi : Option Int} (h1 : SqL K H a xs) (h : ∀ p, H p = none → Q (.ref p) (upd H p (.lst (cutV xs lo hi)))) : uSl K (.ref a) lo hi H Q := Or.inl ⟨a, xs, rfl, h1, h⟩
theorem i_slS {z : Str} {lo hi : Option Int} (hl : z.length ≤ sizeLine) (h : Q (.str (cutS z lo hi)) H) : uSl K (.str z) lo hi H Q := Or.inr (Or.inl ⟨z, rfl, hl, h⟩)
theorem i_setL {p : Addr} {xs : List V} {k : Int} {j : Nat} {v : V} {Q : Hp → Prop} (h1 : H p = some (.lst xs)) (hj : ixN xs.length k = some j) (h : Q (upd H p (.lst (xs.set j v)))) : uSet (.ref p) (.int k) v H Q := Or.inl ⟨p, xs, k, j, rfl, rfl, h1, hj, h⟩
theorem i_setD {a : Addr} {y v : V} {H' : Hp} {Q : Hp → Prop} (h1 : DPut H a y v H') (h : Q H') : uSet (.ref a) y v H Q := Or.inr ⟨a, H', rfl, h1, h⟩
theorem i_lenS {z : Str} (hl : z.length ≤ sizeLine) (h : Q (.int z.length) H) : uLen K [.str z] H Q := Or.inl ⟨_, _, rfl, ⟨hl, rfl⟩, h⟩
theorem i_lenL {p : Addr} {xs : List V} (h1 : SqL K H p xs) (h : Q (.int xs.length) H) : uLen K [.ref p] H Q := Or.inl ⟨_, _, rfl, .inl ⟨xs, h1, rfl⟩, h⟩
theorem i_lenT {p : Addr} {xs : List V} (h1 : SqT K H p xs) (h : Q (.int xs.length) H) : uLen K [.ref p] H Q := Or.inl ⟨_, _, rfl, .inr ⟨xs, h1, rfl⟩, h⟩
theorem i_lenD {p : Addr} {kvs : List (Key × V)} (h1 : H p = some (.dK kvs)) (h : Q (.int kvs.length) H) : uLen K [.ref p] H Q := Or.inr ⟨p, kvs, rfl, h1, h⟩
theorem i_max2 {i j : Int} (h : Q (.int (max i j)) H) : uMax2 [.int i, .int j] H Q := ⟨i, j, rfl, by
  have e : (if j > i then j else i) = max i j := by split <;> omega
  rw [e]; exact h⟩
theorem i_min2 {i j : Int} (h : Q (.int (min i j)) H) : uMin2 [.int i, .int j] H Q := ⟨i, j, rfl, by
  have e : (if j < i then j else i) = min i j := by split <;> omega
  rw [e]; exact h⟩
theorem i_abs {i : Int} (h : Q (.int (i.natAbs : Int)) H) : uAbs [.int i] H Q := ⟨i, rfl, by
  have e : (if i < 0 then -i else i) = (i.natAbs : Int) := by split <;> omega
  rw [e]; exact h⟩
theorem i_listSq {p : Addr} {ys : List V} (h1 : SqL K H p ys ∨ SqT K H p ys) (h : ∀ l, H l = none → Q (.ref l) (upd H l (.lst ys))) : uList K [.ref p] H Q := Or.inl ⟨p, ys, rfl, h1, h⟩
theorem i_listD {a : Addr} {kvs : List (Key × V)} (h1 : Rd H a (.dK kvs)) (h : ∀ p, H p = none → Q (.ref p) (upd H p (.lst (kvs.map fun kv => kV kv.1)))) : uList K [.ref a] H Q := Or.inr ⟨a, kvs, rfl, h1, h⟩
theorem i_dictD {a : Addr} {kvs : List (Key × V)} (h1 : Rd H a (.dK kvs)) (h : ∀ p, H p = none → Q (.ref p) (upd H p (.dK kvs))) : uDict [.ref a] H Q := ⟨a, kvs, rfl, h1, h⟩
theorem i_strI {i : Int} (c : i.natAbs.log2 < 1920) (h : Q (.str (toString i)) H) : uStr [.int i] H Q := Or.inl ⟨i, rfl, c, h⟩
theorem i_repr {x : V} {d : PyData} (h1 : Dp K H x d) (h2 : d.showable = true) (h3 : d.shown.length ≤ sizeLine) (h4 : d.depth ≤ 40) (h : Q (.str d.shown) H) : uRepr K [x] H Q := ⟨x, d, rfl, h1, h2, h3, h4, h⟩
theorem i_append {l : Addr} {xs : List V} {y : V} (h1 : H l = some (.lst xs)) (hz : xs.length < sizeLine) (h : Q .non (upd H l (.lst (xs ++ [y])))) : rAppend (.ref l) [y] H Q := ⟨l, xs, y, rfl, rfl, h1, hz, h⟩
end
end Rf

namespace Rf
open PySem PySem.Spec PyProof.Rows L2
/-! ## small things -/
theorem take_snoc {α : Type} {l : List α} {i : Nat} {x : α} (h : l[i]? = some x) : l.take (i + 1) = l.take i ++ [x] := by
  rw [List.take_add_one, h]
  rfl
theorem getMapInt {ns : List Int} {i : Nat} {y : V} (h : (ns.map V.int)[i]? = some y) : ∃ z, ns[i]? = some z ∧ y = .int z := by
  rw [List.getElem?_map] at h
  cases e : ns[i]? with
  | none => rw [e] at h; cases h
  | some z => rw [e] at h; exact ⟨z, rfl, (Option.some.inj h).symm⟩
theorem atI_of {α : Type} {xs : List α} {i : Int} {v : α} (h0 : 0 ≤ i) (h : xs[i.toNat]? = some v) : atI xs i = some v := by
  have hl : i.toNat < xs.length := (List.getElem?_eq_some_iff.mp h).1
  unfold atI ixN
  rw [if_pos h0, if_pos (by omega)]
  exact h
theorem atI_ints {ns : List Int} {i : Int} (h0 : 0 ≤ i) (h : i < (ns.length : Int)) : atI (ns.map V.int) i = some (.int (ns.getD i.toNat 0)) := by
  refine atI_of h0 ?_
  have hl : i.toNat < ns.length := by omega
  rw [List.getElem?_map, List.getElem?_eq_getElem hl, List.getD_eq_getElem?_getD, List.getElem?_eq_getElem hl]
  rfl
theorem sz_small {n : Nat} (h : n ≤ 1000000) : n ≤ sizeLine := Nat.le_trans h (by decide)
theorem sz_small' {n : Nat} (h : n < 1000000) : n < sizeLine := Nat.lt_of_lt_of_le h (by decide)
theorem _root_.L2.Same.mut {H H' : Hp} {p : Addr} {o : HO} (e : Same H H') (h : H p = none) : Same H (upd H' p o) := fun a u ha => by
  rw [upd_ne (ne_of_none ha h)]
  exact e a u ha
theorem _root_.L2.Same.seqT {K : PySem.W.Frag} {H H' : Hp} {a : Addr} {xs : List V} (e : Same H H') (h : SqT K H a xs) : SqT K H' a xs := by
  rcases h with h | h
  · rcases h with h | ⟨o, h⟩
    · exact Or.inl (Or.inl (e _ _ h))
    · exact Or.inl (Or.inr ⟨o, e _ _ h⟩)
  · exact Or.inr h
theorem drop_cons {α : Type} {l : List α} {i : Nat} {x : α} (h : l[i]? = some x) : l.drop i = x :: l.drop (i + 1) := by
  obtain ⟨h1, h2⟩ := List.getElem?_eq_some_iff.mp h
  rw [List.drop_eq_getElem_cons h1, h2]
theorem newH {H H1 : Hp} {p : Addr} {o : HO} (hp : H p = none) (e : upd H p o = H1) : Same H H1 ∧ H1 p = some o := by
  subst e
  exact ⟨Same.mut (Same.refl H) hp, upd_same⟩
/-- the names of built-ins are the built-ins' -/
structure Blt (mg : Str → Option Value) : Prop where
  b_len : mg "len" = none
  b_range : mg "range" = none
  b_abs : mg "abs" = none
  b_max : mg "max" = none
  b_min : mg "min" = none
  b_sorted : mg "sorted" = none
  b_isinstance : mg "isinstance" = none
  b_repr : mg "repr" = none
  b_list : mg "list" = none
  b_dict : mg "dict" = none
  b_str : mg "str" = none
  b_int : mg "int" = none
  b_bool : mg "bool" = none
  b_tuple : mg "tuple" = none
  b_all : mg "all" = none
  b_any : mg "any" = none
  b_sum : mg "sum" = none
  b_enumerate : mg "enumerate" = none
  b_zip : mg "zip" = none
/-- a def of the text under its name -/
structure Dfn (K : PySem.W.Frag) (mg : Str → Option Value) (x : Str) (st : Stmt) (ps : List Str) (ds : List Value) : Prop where
  ex : ∃ (f : Addr) (fd : FuncData), Src K x x st f fd ∧ mg x = some (.ref f) ∧ PySem.W.keepIn K (.ref f) = true ∧ Binds K fd ps ds
section
variable {P : Program} {w : World} {K : PySem.W.Frag} {mg : Str → Option Value} {base : Heap}
theorem Dfn.cal {x : Str} {st : Stmt} {N ps : List Str} {ds : List Value} {dvs : List V} {k : Nat} {sp : Sp} (F : Dfn K mg x st ps ds) (hd : Vals dvs ds) (S : FnScope N ps (defScope st)) (hlen : ∀ vs H Q E, sp vs H Q E → vs.length = ps.length)
    (hb : ∀ (f : Addr) (cdv : Value) (A : Around) (outer : List Env) (s : Shared) (H : Hp) (vs : List V) (Q : VK) (E : XK), Room k (A.deeper (envOfC x (defScope st) s.heap.objs.size f cdv)) → Quiet (A.deeper (envOfC x (defScope st) s.heap.objs.size f cdv)) → sp vs H Q E →
      ∃ t, PSs (cxOf (L2.CX P w) P w K mg base N x (defScope st) f cdv A outer s H E) (defBody st) t ∧ t { nx := fun _ H' => Q .non H', rt := Q } (start N vs) H) : Cal P w K mg base (k + 1) x dvs sp := by
  obtain ⟨f, fd, F, hm, kp, b⟩ := F.ex
  exact ⟨f, fd, ps, ds, F.fn S hlen (hb f), hm, kp, b, hd⟩
theorem src_mk {x qual : Str} {st : Stmt} {f : Addr} {oc : Value} {od an : Option Addr} {osl : Array (Option Value)} {dV kV doc pm cdv ct : Value}
    (l : K.lookup f = some ⟨oc, od, .func (PySem.W.fnOf x qual (defArgs st) (defBody st) (defScope st) dV kV doc pm an cdv ct), osl⟩) (c : PySem.W.codeIn K cdv qual = true) :
    Src K x qual st f (PySem.W.fnOf x qual (defArgs st) (defBody st) (defScope st) dV kV doc pm an cdv ct) := ⟨oc, od, dV, kV, doc, pm, an, cdv, ct, osl, rfl, l, c⟩
/-- a def without defaults, from what the head tells -/
theorem dfn_mk {h : Heap} {x : Str} {st : Stmt} {ps : List Str} {f : Addr} {oc : Value} {od an : Option Addr} {osl : Array (Option Value)} {kV doc pm cdv ct : Value} (X : K.In h) (G : h.Ns mainGlobals mg)
    (hb : ∀ us : List Value, us.length = ps.length → bindArgs (PySem.W.fnOf x x (defArgs st) (defBody st) (defScope st) .none kV doc pm an cdv ct) ⟨us, []⟩ = pure (ps.zip us))
    (a : PySem.W.nsIn K mainGlobals x = some (some (.ref f))) (l : K.lookup f = some ⟨oc, od, .func (PySem.W.fnOf x x (defArgs st) (defBody st) (defScope st) .none kV doc pm an cdv ct), osl⟩) (c : PySem.W.codeIn K cdv x = true) (k : PySem.W.keepIn K (.ref f) = true) :
    Dfn K mg x st ps [] := ⟨f, _, src_mk l c, PySem.W.mg_of X G a, k, Binds.all hb⟩
end
end Rf

/-! ## own exceptions whose __init__ stores its arguments, over any base whose mro is bmB -/
namespace Rf
open PySem PySem.Spec PyProof.Rows L2 Builtin Builtin.ObjectAttr
/-- own classes, then the base's mro -/
def mroB (cs : List Addr) (bmB : List Value) : List Value := cs.map Value.ref ++ bmB
theorem mroB_has (bmB : List Value) (T : String) : ∀ cs : List Addr, (mroB cs bmB).contains (.type T) = bmB.contains (.type T)
  | [] => rfl
  | c :: cs => by
    show (Value.ref c :: mroB cs bmB).contains (.type T) = _
    rw [List.contains_cons, mroB_has bmB T cs]
    rfl
theorem mroB_pass {bmB : List Value} {self : Value} (hb : refuseLoop self "__setattr__" bmB = pure ()) : ∀ cs : List Addr, refuseLoop self "__setattr__" (mroB cs bmB) = pure ()
  | [] => hb
  | c :: cs => by
    show refuseLoop self "__setattr__" (Value.ref c :: mroB cs bmB) = _
    rw [refuseLoop_ref]
    exact mroB_pass hb cs
/-- the base's facts that a store asks -/
structure BaseOk (B newId initId : String) (bmB : List Value) : Prop where
  base : ExcBaseFacts B newId initId bmB
  pass : ∀ self : Value, refuseLoop self "__setattr__" bmB = pure ()
  obj : bmB.contains (.type "object") = true
  ne : bmB.isEmpty = false
abbrev bmVE : List Value := [.type "ValueError", .type "Exception", .type "BaseException", .type "object"]
abbrev bmLE : List Value := [.type "LookupError", .type "Exception", .type "BaseException", .type "object"]
theorem baseVE : BaseOk "ValueError" "ValueError.__new__" "ValueError.__init__" bmVE := ⟨F.excBase_ValueError, fun self => F.store_ValueError.passes self, by decide +kernel, rfl⟩
theorem baseLE : BaseOk "LookupError" "LookupError.__new__" "LookupError.__init__" bmLE := ⟨F.excBase_LookupError, fun self => by kernel_rfl, by decide +kernel, rfl⟩
section
variable {prog : Program} {w : World} {A : Around} {E : Value → Shared → Prop} {R : Result → Shared → Prop} {hp : Heap} {g : Array GenState} {d : Drawn} {t : Nat} {os : OsState} {B newId initId : String} {bmB : List Value}
theorem ex_first {K : W.Frag} {name : Str} {tk : Tok} {v : Value} {x C : Addr} {fv : Array Value} {cd : ClassData} {cs : List Addr} (hB : BaseOk B newId initId bmB) (hin : K.In hp) (hx : hp.get? x = some { cls := .ref C, data := .fields fv }) (hcd : W.clsIn K C = some cd)
    (hm : cd.mro = mroB cs bmB) (hh : cd.hasDict = true) (ha : W.findIn K (.ref C) name = some none)
    (hq : ∀ h' tk' dx, (∀ b o, b ≠ x → hp.get? b = some o → h'.get? b = some o) → hp.objs.size ≤ dx → dx ≠ x → h'.get? x = some { cls := .ref C, dict := some dx, data := .fields fv } → h'.Ns1 dx (fun y => if y = name then some v else none) → R (.ok (.ret .none)) ⟨h', g, d, tk', os⟩) :
    codeAny (model prog w) A (.call (.builtin "object.__setattr__") ⟨[.ref x, .str name tk, v], []⟩) R ⟨hp, g, d, t, os⟩ := by
  have J : W.InstAt hp x { cls := .ref C, data := .fields fv } C none := ⟨hx, rfl, rfl, trivial⟩
  have SF := F.store_object
  have hne : cd.mro.isEmpty = false := by
    rw [hm]
    cases cs with
    | nil => exact hB.ne
    | cons c cs => rfl
  have hob : cd.mro.contains (.type "object") = true := by rw [hm, mroB_has]; exact hB.obj
  have hxs : x ≠ hp.objs.size := Nat.ne_of_lt (Heap.lt_size hx)
  have isO : W.Looks (model prog w) hp (isInstance (.ref x) (.type "object")) true := J.type.andThen (W.looks_mroIn hin (by unfold W.mroIn; rw [hcd, Option.bind_some, if_neg (by rw [hne]; decide), hob]))
  refine codeAny_call_builtin SF.slot.plain SF.entry (@W.check_slot (model prog w) _ _ ⟨hp, g, d, t, os⟩ "object.__setattr__" "object" "__setattr__" (.ref x) [.str name tk, v] [] _ SF.kind SF.split isO (SF.args (.ref x) (.str name tk) v) ?_)
  have lm : W.Looks (model prog w) hp (mroOf (.ref C)) cd.mro := (W.looks_clsIn hin hcd).andThen .now
  have ls : W.Looks (model prog w) hp (storeTaker? none) none := .now
  have lc : W.Looks (model prog w) hp (classData C) cd := W.looks_clsIn hin hcd
  rw [W.osa_eq, refuse_eq]
  refine wpAny_bind (wpAny_bind (J.type.at (wpAny_bind (lm.at ?_))))
  rw [hm, mroB_pass (hB.pass _) cs]
  refine wpAny_pure (wpAny_bind (J.type.at (wpAny_bind ((W.looks_findIn hin ha).at (wpAny_bind (ls.at ?_))))))
  show wpAny _ _ (storeInOwnDict (.ref x) (.ref C) (.str name tk) name v false) _ _ _
  obtain ⟨nm, bs, mro, ns, qn, hd, sn, sb, ab, col, del⟩ := cd
  dsimp only at hh
  subst hh
  unfold storeInOwnDict ownDictForStores
  repeat (first | with_reducible refine HandSPX.store_in_new ?_ ?_ | with_reducible refine wpAny_loadPart_at hx ?_ | with_reducible refine lc.at ?_ | wp_step)
  · exact ⟨_, #[], _, (Heap.get?_update_ne _ _ _ _ hxs.symm).trans (Heap.get?_push_at rfl rfl), rfl, fun e he => absurd he (by simp), fun _ => rfl⟩
  · intro h' tk' hn' hs
    have hx1 : (hp.push { cls := .type "dict", data := .dict #[] }).get? x = some { cls := .ref C, data := .fields fv } := Heap.get?_push_of_some _ hx
    refine hq h' tk' hp.objs.size ?_ (Nat.le_refl _) hxs.symm ((hs.2 x hxs).trans (Heap.get?_update_self _ hx1 rfl)) hn'
    intro b o hb ho
    exact (hs.2 b (Nat.ne_of_lt (Heap.lt_size ho))).trans ((Heap.get?_update_ne _ _ _ _ hb).trans (Heap.get?_push_of_some _ ho))
theorem ex_next {K : W.Frag} {name : Str} {tk : Tok} {v : Value} {x C dx : Addr} {fv : Array Value} {cd : ClassData} {cs : List Addr} {m0 : Str → Option Value} {nl : List Str} (hB : BaseOk B newId initId bmB) (hin : K.In hp)
    (hx : hp.get? x = some { cls := .ref C, dict := some dx, data := .fields fv }) (hns : hp.Ns1 dx m0) (hw : PySem.Within m0 nl) (hz : nl.length ≤ 1000) (hcd : W.clsIn K C = some cd) (hm : cd.mro = mroB cs bmB) (hh : cd.hasDict = true)
    (ha : W.findIn K (.ref C) name = some none)
    (hq : ∀ h' tk', (∀ b o, b ≠ dx → hp.get? b = some o → h'.get? b = some o) → h'.Ns1 dx (fun y => if y = name then some v else m0 y) → R (.ok (.ret .none)) ⟨h', g, d, tk', os⟩) :
    codeAny (model prog w) A (.call (.builtin "object.__setattr__") ⟨[.ref x, .str name tk, v], []⟩) R ⟨hp, g, d, t, os⟩ := by
  obtain ⟨oD, esD, epD, hoD, hdD, _⟩ := hns.count hw
  have J : W.InstAt hp x { cls := .ref C, dict := some dx, data := .fields fv } C (some oD) := ⟨hx, rfl, rfl, hoD⟩
  have SF := F.store_object
  have hne : cd.mro.isEmpty = false := by
    rw [hm]
    cases cs with
    | nil => exact hB.ne
    | cons c cs => rfl
  have hob : cd.mro.contains (.type "object") = true := by rw [hm, mroB_has]; exact hB.obj
  have isO : W.Looks (model prog w) hp (isInstance (.ref x) (.type "object")) true := J.type.andThen (W.looks_mroIn hin (by unfold W.mroIn; rw [hcd, Option.bind_some, if_neg (by rw [hne]; decide), hob]))
  refine codeAny_call_builtin SF.slot.plain SF.entry (@W.check_slot (model prog w) _ _ ⟨hp, g, d, t, os⟩ "object.__setattr__" "object" "__setattr__" (.ref x) [.str name tk, v] [] _ SF.kind SF.split isO (SF.args (.ref x) (.str name tk) v) ?_)
  have lm : W.Looks (model prog w) hp (mroOf (.ref C)) cd.mro := (W.looks_clsIn hin hcd).andThen .now
  have ls : W.Looks (model prog w) hp (storeTaker? none) none := .now
  have lc : W.Looks (model prog w) hp (classData C) cd := W.looks_clsIn hin hcd
  rw [W.osa_eq, refuse_eq]
  refine wpAny_bind (wpAny_bind (J.type.at (wpAny_bind (lm.at ?_))))
  rw [hm, mroB_pass (hB.pass _) cs]
  refine wpAny_pure (wpAny_bind (J.type.at (wpAny_bind ((W.looks_findIn hin ha).at (wpAny_bind (ls.at ?_))))))
  show wpAny _ _ (storeInOwnDict (.ref x) (.ref C) (.str name tk) name v false) _ _ _
  obtain ⟨nm, bs, mro, ns, qn, hd, sn, sb, ab, col, del⟩ := cd
  dsimp only at hh
  subst hh
  unfold storeInOwnDict ownDictForStores
  repeat (first | with_reducible refine PySem.OEX.store_in_old hns hw hz ?_ | with_reducible refine wpAny_loadPart_at hx ?_ | with_reducible refine lc.at ?_ | wp_step)
  intro h' tk' hn' hs
  exact hq h' tk' (fun b o hb ho => (hs.2 b hb).trans ho) hn'
end
/-- what the written part says of such a class at C -/
structure Exq (K : PySem.W.Frag) (C : Addr) (newId : String) (bmB : List Value) : Prop where
  cls : ∃ nm q N bs cs sn sub ab col dd k0 k1 k2 k3 k5, K.lookup C = some (excClassObj nm q C N bs (mroB cs bmB) true sn sub ab col dd k0 k1 k2 k3 k5 newId)
  sa : PySem.W.findIn K (.ref C) "__setattr__" = some (some (.builtin "object.__setattr__"))
  exC : PySem.W.subIn K (.ref C) (.type "BaseException") = some true
  tyC : PySem.W.typeIn K (.ref C) = some (.type "type")
  kC : PySem.W.keepIn K (.ref C) = true
section
variable {X : Cx} {pins : List (Addr × Obj)} {σ : L2.St} {H : Hp} {s : Shared} {a C dx : Addr} {f : Str} {y : V} {u : Value} {fs : List (Str × V)} {Q : Unit → Shared → Prop} {E : Value → Shared → Prop} {A : Around} {B newId initId : String} {bmB : List Value}
theorem Exq.cd (T : Exq X.K C newId bmB) : ∃ cd cs, PySem.W.clsIn X.K C = some cd ∧ cd.mro = mroB cs bmB ∧ cd.hasDict = true := by
  obtain ⟨nm, q, N, bs, cs, sn, sub, ab, col, dd, k0, k1, k2, k3, k5, hC⟩ := T.cls
  refine ⟨{ name := nm, bases := bs, mro := .ref C :: mroB cs bmB, ns := N, qualname := q, hasDict := true, slotNames := sn, subclasses := sub, abstract := ab, collection := col, hasDel := false }, C :: cs, ?_, rfl, rfl⟩
  unfold PySem.W.clsIn
  rw [hC] <;> rfl
theorem ex_ost1 (hB : BaseOk B newId initId bmB) (T : Exq X.K C newId bmB) (I : L2.Inv X pins σ H s) (e : H a = some (exo a C none)) (hno : PySem.W.findIn X.K (.ref C) f = some none) (ry : L2.RelV y u)
    (h : ∀ dx s', H dx = none → dx ≠ a → L2.Inv X pins σ (upd (upd H dx (exd dx [(f, y)])) a (exo a C (some dx))) s' → Q () s') : wpAny (model X.prog X.w) A (setAttr (.ref a) f u) Q E s := by
  obtain ⟨cd, cs, hcd, hm, hh⟩ := T.cd
  obtain ⟨t1, ho⟩ := exo_at I.hok e
  obtain ⟨hp, g, d, t, os⟩ := s
  refine PySem.W.set_plain I.kIn (ox := { cls := .ref C, dict := none, data := .fields #[.ref t1, .none, .none, .none, .bool false, .none] }) (od := none) ⟨ho, rfl, rfl, trivial⟩ T.sa ?_
  refine ex_first hB I.kIn ho hcd hm hh hno ?_
  intro h' tk' dx k dn dne hx hn
  have hnd : H dx = none := I.hok.fresh dn
  have nd : ∀ {b : Addr} {o : Obj}, hp.get? b = some o → b ≠ dx := fun {b o} q => Nat.ne_of_lt (Nat.lt_of_lt_of_le (Heap.lt_size q) dn)
  have na : ∀ {b : Addr}, H b = none → b ≠ a := by
    intro b n z
    rw [z, e] at n
    cases n
  have un : L2.Un X.fs [] H (upd (upd H dx (exd dx [(f, y)])) a (exo a C (some dx))) hp h' := by
    constructor
    · exact fun b o q n _ _ => k b o (na n) q
    · exact fun b o q n _ _ => ⟨o.slots, k b o (na n) q⟩
    · intro b o q n _
      rw [upd_ne (na n), upd_ne (nd q)]
      exact n
    · intro b o q _
      by_cases hb : b = a
      · exact ⟨_, by rw [hb]; exact hx⟩
      · exact ⟨o, k b o hb q⟩
    · intro b xs q
      rw [upd_ne (at_ne e q exo_tup), upd_ne (ne_of_none q hnd)]
      exact q
    · intro b o v q
      rw [upd_ne (at_ne e q exo_frz), upd_ne (ne_of_none q hnd)]
      exact q
    · intro b ps q
      exact ⟨#[], by rw [upd_ne (at_ne e q exo_tbl), upd_ne (ne_of_none q hnd), q]; simp⟩
  refine h dx _ hnd dne (I.un (t' := tk') un ?_)
  intro b o q
  by_cases hb : b = a
  · subst hb
    rw [upd_same] at q
    cases q
    exact exo_ok hx
  · rw [upd_ne hb] at q
    by_cases hd : b = dx
    · subst hd
      rw [upd_same] at q
      cases q
      exact exd_ok hn (relO_put (fs := []) ry fun _ => True.intro)
    · rw [upd_ne hd] at q
      refine (I.hok b o q).stay ?_ ?_ ?_
      · intro c v hc z
        refine k c v ?_ z
        rcases hc with hc | hc
        · rw [hc]; exact hb
        · exact at_ne e hc exo_own
      · intro c hc
        rw [upd_ne (at_ne e hc exo_own), upd_ne (ne_of_none hc hnd)]
        exact hc
      · intro c xs hc
        rw [upd_ne (at_ne e hc exo_tup), upd_ne (ne_of_none hc hnd)]
        exact hc
theorem ex_ost2 (hB : BaseOk B newId initId bmB) (T : Exq X.K C newId bmB) (I : L2.Inv X pins σ H s) (e : H a = some (exo a C (some dx))) (ed : H dx = some (exd dx fs)) (hl : fs.length ≤ 900) (hno : PySem.W.findIn X.K (.ref C) f = some none) (ry : L2.RelV y u)
    (h : ∀ s', L2.Inv X pins σ (upd H dx (exd dx ((f, y) :: fs))) s' → Q () s') : wpAny (model X.prog X.w) A (setAttr (.ref a) f u) Q E s := by
  obtain ⟨cd, cs, hcd, hm, hh⟩ := T.cd
  obtain ⟨t1, ho⟩ := exo_at I.hok e
  obtain ⟨mA, hns, rel⟩ := exd_at I.hok ed
  have hw := within_of rel
  obtain ⟨hp, g, d, t, os⟩ := s
  obtain ⟨oD, _, _, hoD, _, _⟩ := hns.count hw
  refine PySem.W.set_plain I.kIn (ox := { cls := .ref C, dict := some dx, data := .fields #[.ref t1, .none, .none, .none, .bool false, .none] }) (od := some oD) ⟨ho, rfl, rfl, hoD⟩ T.sa ?_
  refine ex_next hB I.kIn ho hns hw (by rw [List.length_map]; omega) hcd hm hh hno ?_
  intro h' tk' k hn
  have hd : ∃ o, h'.get? dx = some o := by
    obtain ⟨o, _, _, e', _⟩ := hn
    exact ⟨o, e'⟩
  exact h _ (I.write (t' := tk') (x := dx) (e := dx) (o := exd dx ((f, y) :: fs)) (by rw [ed]; exact True.intro) (Or.inl rfl) k hd (exd_ok hn (relO_put ry rel)))
/-- self.f = e, of an exception in the making -/
def uOst (K : PySem.W.Frag) (newId : String) (bmB : List Value) (f : Str) (to te : TE) : TS := fun D σ H => te σ H fun y H1 => to σ H1 fun x H2 => ∃ a C : Addr, x = .ref a ∧ Exq K C newId bmB ∧ PySem.W.findIn K (.ref C) f = some none ∧
  ((H2 a = some (exo a C none) ∧ ∀ dx, H2 dx = none → dx ≠ a → D.nx σ (upd (upd H2 dx (exd dx [(f, y)])) a (exo a C (some dx)))) ∨
    ∃ (dx : Addr) (fs : List (Str × V)), H2 a = some (exo a C (some dx)) ∧ H2 dx = some (exd dx fs) ∧ fs.length ≤ 900 ∧ D.nx σ (upd H2 dx (exd dx ((f, y) :: fs))))
theorem us_ost {o e : Expr} {to te : TE} {p' pos : Pos} (hB : BaseOk B newId initId bmB) (ho : PE X o to) (he : PE X e te) (hs : swapsWith e (some (.Attribute o f p')) pos.line X.env = pure false := by rfl) :
    PS X (.Assign [.Attribute o f p'] e pos) (uOst X.K newId bmB f to te) := by
  constructor
  intro pins s σ H D I h
  refine plainObj_wpAny_Assign_Attribute (thn (he.run pins s σ H _ I h) ?_) hs
  rintro v s1 ⟨y, H1, I1, r1, q1⟩
  refine thn (ho.run pins s1 σ H1 _ I1 q1) ?_
  rintro u s2 ⟨x, H2, I2, r2, a, C, ex, T, hno, q⟩
  subst ex
  cases (show u = Value.ref a from r2)
  rcases q with ⟨ea, q⟩ | ⟨dx, fs, ea, ed, hl, q⟩
  · exact ex_ost1 hB T I2 ea hno r1 fun dx s' n ne J => ⟨σ, _, J, q dx n ne⟩
  · exact ex_ost2 hB T I2 ea ed hl hno r1 fun s' J => ⟨σ, _, J, q⟩
end
end Rf

namespace Rf
open PySem PySem.Spec PyProof.Rows L2
/-! ## raise C(e, ..) -/
/-- the fields that an __init__ of stores leaves, the last one first -/
def exFs (names : List Str) (ws : List V) : List (Str × V) := (names.zip ws).reverse
def spEx (C : Addr) (names : List Str) : Sp := fun vs H Q _ => ∃ (a : Addr) (ws : List V), vs = .ref a :: ws ∧ ws.length = names.length ∧ H a = some (exo a C none) ∧
  ∀ d, H d = none → d ≠ a → Q .non (upd (upd H d (exd d (exFs names ws))) a (exo a C (some d)))
/-- an own exception class whose __init__ stores its arguments -/
structure XIni (P : Program) (w : World) (K : PySem.W.Frag) (mg : Str → Option Value) (base : Heap) (k : Nat) (x : Str) (C : Addr) (names : List Str) : Prop where
  ex : ∃ (B newId initId : String) (bmB : List Value) (fI : Addr) (fd : FuncData) (ps : List Str), BaseOk B newId initId bmB ∧ Exq K C newId bmB ∧ mg x = some (.ref C) ∧ PySem.W.findIn K (.ref C) "__init__" = some (some (.ref fI)) ∧
    PySem.W.typeIn K (.ref fI) = some (.type "function") ∧ Fn P w K mg base k fI fd ps (spEx C names) ∧ Binds K fd ps []
/-- one without __init__ -/
structure XPl (K : PySem.W.Frag) (mg : Str → Option Value) (x : Str) (C : Addr) : Prop where
  ex : ∃ (B newId initId : String) (bmB : List Value), ExcBaseFacts B newId initId bmB ∧ PySem.W.excIn K C bmB newId = true ∧ mg x = some (.ref C) ∧ PySem.W.keepIn K (.ref C) = true ∧
    PySem.W.subIn K (.ref C) (.type "BaseException") = some true ∧ PySem.W.typeIn K (.ref C) = some (.type "type")
section
variable {X : Cx} {j k : Nat} {C : Addr} {names : List Str} {x m : Str} {p p2 pos pos2 : Pos} {e : Expr} {es : List Expr} {ta : TA} {W : WX}
def uMkE (C : Addr) (names : List Str) (ta : TA) : L2.St → Hp → XK → Prop := fun σ H Q => ta σ H fun vs H1 => vs.length = names.length ∧ names.length ≤ 100 ∧ ∀ d, H1 d = none → Q (.ref C) (some d) (upd H1 d (.xd (exFs names vs)))
theorem ex_heap {H1 : Hp} {a d : Addr} {fs : List (Str × V)} (ha : H1 a = none) (hda : d ≠ a) : upd (del (upd (upd (upd H1 a (exo a C none)) d (exd d fs)) a (exo a C (some d))) a) d (.xd fs) = upd H1 d (.xd fs) := by
  funext b
  by_cases hb : b = d
  · subst hb
    rw [upd_same, upd_same]
  · rw [upd_ne hb, upd_ne hb]
    by_cases hba : b = a
    · subst hba
      rw [del_same, ha]
    · rw [del_ne hba, upd_ne hba, upd_ne hb, upd_ne hba]
theorem ux_ini (c : XIni X.prog X.w X.K X.mg X.base k x C names) (hr : Room j X.A) (hk : k + 1 ≤ j) (hG : Quiet X.A) (hg : Gl X x) (ha : PA X (e :: es) ta)
    (hdb : (x == ("__debug__" : Str)) = false := by decide) (he : starEach (e :: es) X.env = (false, eval e X.env) :: starEach es X.env := by rfl) (hpl : (backTo pos (starEach es X.env)).any (·.1) = false := by rfl) :
    PMk X (.Call (.Name x p) (e :: es) [] pos) (uMkE C names ta) := by
  obtain ⟨B, newId, initId, bmB, fI, fd, ps, hB, T, hm, iC, tI, F1, hb⟩ := c.ex
  have hr := hr.mono hk
  intro pins s σ H Q I h
  obtain ⟨nm, q, N, bs, cs, sn, sub, ab, col, dd, k0, k1, k2, k3, k5, hC⟩ := T.cls
  refine wpAny_Call_Name_kw (ld_glob I hg hm ?_ hdb)
  refine PySem.W.callWith_K (h₀ := X.base) I.ok.mod.kin T.kC (thn (ha.run pos pins s σ H _ I h) ?_) he hpl
  rintro us s1 ⟨vs, H1, I1, r1, hz, hn100, q1⟩
  refine ⟨I1.kIn, ?_⟩
  show wpAny _ _ (call (.ref C) us) _ _ _
  obtain ⟨hp, g, dr, tk, os⟩ := s1
  have hsz : hp.objs.size ≤ hp.objs.size + 1 := Nat.le_succ _
  have hn : H1 (hp.objs.size + 1) = none := I1.hok.fresh hsz
  have keep : ∀ b o, hp.get? b = some o → ((hp.push (PySem.W.kdv_tup us)).push (PySem.HandSPX.excO C hp.objs.size)).get? b = some o := fun b o e => Heap.get?_push_of_some _ (Heap.get?_push_of_some _ e)
  have got : ((hp.push (PySem.W.kdv_tup us)).push (PySem.HandSPX.excO C hp.objs.size)).get? (hp.objs.size + 1) = some (PySem.HandSPX.excO C hp.objs.size) := by heap_get
  have I2 : L2.Inv X pins σ (upd H1 (hp.objs.size + 1) (exo (hp.objs.size + 1) C none)) ⟨(hp.push (PySem.W.kdv_tup us)).push (PySem.HandSPX.excO C hp.objs.size), g, dr, tk, os⟩ :=
    I1.laid (t' := tk) (a := hp.objs.size + 1) (o := exo (hp.objs.size + 1) C none) (h' := (hp.push (PySem.W.kdv_tup us)).push (PySem.HandSPX.excO C hp.objs.size)) keep hsz (exo_ok got)
  have rr : Vals (V.ref (hp.objs.size + 1) :: vs) (Value.ref (hp.objs.size + 1) :: us) := .cons rfl r1
  have hsp : spEx C names (.ref (hp.objs.size + 1) :: vs) (upd H1 (hp.objs.size + 1) (exo (hp.objs.size + 1) C none))
      (fun v H2 => v = .non ∧ ∃ (d : Addr) (fs : List (Str × V)), H2 (hp.objs.size + 1) = some (exo (hp.objs.size + 1) C (some d)) ∧ H2 d = some (exd d fs) ∧ H1 d = none ∧ Q (.ref C) (some d) (upd (del H2 (hp.objs.size + 1)) d (.xd fs))) (fun _ _ _ => False) := by
    refine ⟨_, vs, rfl, hz, upd_same, ?_⟩
    intro d hd hda
    have hd1 : H1 d = none := by
      rw [upd_ne hda] at hd
      exact hd
    refine ⟨rfl, d, exFs names vs, upd_same, by rw [upd_ne hda, upd_same], hd1, ?_⟩
    rw [ex_heap hn hda]
    exact q1 d hd1
  have hl : (Value.ref (hp.objs.size + 1) :: us).length = ps.length := rr.length.symm.trans (F1.len _ _ _ _ hsp)
  have hus : us.length ≤ sizeLine := by
    rw [← Paired.length r1, hz]
    exact sz_small (by omega)
  have bind := hb ⟨(hp.push (PySem.W.kdv_tup us)).push (PySem.HandSPX.excO C hp.objs.size), g, dr, tk, os⟩ (Value.ref (hp.objs.size + 1) :: us) I2.kIn (by rw [List.append_nil]; exact hl)
  rw [List.append_nil] at bind
  have run := F1.go _ X.stack _ _ ⟨Value.ref (hp.objs.size + 1) :: us, []⟩ (Value.ref (hp.objs.size + 1) :: us) _ _ (fun _ _ _ => False) (hr.make C us []) (make_quiet hG) (I2.env0.make C us []) bind rr hsp
  refine wpAny_call (PySem.HandSPX.call_own hB.base (fun Y => mroB_has bmB Y cs) (I1.kIn _ _ hC) (PySem.W.looks_findIn I1.kIn iC) (fun self => PySem.W.bind_fn I1.kIn self tI) hus (codeAny_mono run ?_))
  rintro (er | fl) s' hq'
  · obtain ⟨_, _, _, _, _, _, _, _, _, _, _, _, z⟩ := hq'
    exact z.elim
  · cases fl with
    | ret u =>
      obtain ⟨v, H2, os2, bare2, un2, hok2, rv, ev, d, fs, ea, ed, hd1, q2⟩ := hq'
      subst ev
      obtain ⟨h2, g2, d2, t2, os'⟩ := s'
      exact ⟨rv, mk_end (raises_own T.exC T.tyC) I1 hsz keep un2 hok2 os2 bare2 ea ed hd1 q2⟩
    | next => exact hq'.elim
    | brk => exact hq'.elim
    | cont => exact hq'.elim
theorem ux_pl {jj : Nat} (c : XPl X.K X.mg x C) (hg : Gl X x) (hdb : (x == ("__debug__" : Str)) = false := by decide) : PMk X (.Call (.Name x p) [.Constant (.str m) jj p2] [] pos) (fun _ H Q => Q (.ref C) none H) := by
  obtain ⟨B, newId, initId, bmB, F, q, gC, kC, h1, h2⟩ := c.ex
  exact pmk_own F q gC kC (raises_own h1 h2) hg hdb
/-- raise C(e, ..), W wished -/
def uRaise (C : Addr) (names : List Str) (W : WX) (ta : TA) : TS := fun _ σ H => uMkE C names ta σ H fun cls d H' => W cls d σ H'
def uRaise0 (C : Addr) (W : WX) : TS := fun _ σ H => W (.ref C) none σ H
theorem us_raise (c : XIni X.prog X.w X.K X.mg X.base k x C names) (hc : X.calm = true) (tk : Takes X W) (hr : Room j X.A) (hk : k + 1 ≤ j) (hG : Quiet X.A) (hg : Gl X x) (ha : PA X (e :: es) ta)
    (hdb : (x == ("__debug__" : Str)) = false := by decide) (he : starEach (e :: es) X.env = (false, eval e X.env) :: starEach es X.env := by rfl) (hpl : (backTo pos (starEach es X.env)).any (·.1) = false := by rfl) :
    PS X (.Raise (some (.Call (.Name x p) (e :: es) [] pos)) none pos2) (uRaise C names W ta) := ps_raise hc tk (ux_ini c hr hk hG hg ha hdb he hpl)
theorem us_raise0 {jj : Nat} (c : XPl X.K X.mg x C) (hc : X.calm = true) (tk : Takes X W) (hg : Gl X x) (hdb : (x == ("__debug__" : Str)) = false := by decide) :
    PS X (.Raise (some (.Call (.Name x p) [.Constant (.str m) jj p2] [] pos)) none pos2) (uRaise0 C W) := ps_raise hc tk (ux_pl c hg hdb)
end
/-- what is raised leaves the def -/
theorem tkB {P : Program} {w : World} {K : PySem.W.Frag} {mg : Str → Option Value} {base : Heap} {N : List Str} {qual : Str} {scope : Scope} {f : Addr} {cd : Value} {A : Around} {outer : List Env} {s : Shared} {H : Hp} {E : XK} :
    Takes (cxOf (L2.CX P w) P w K mg base N qual scope f cd A outer s H E) (fun cls d _ H => E cls d H) := takes_of rfl rfl rfl rfl
section
variable {D : Ends} {σ : L2.St} {H : Hp}
theorem g_raise {C : Addr} {names : List Str} {W : WX} {ta : TA} (h : ta σ H fun vs H1 => vs.length = names.length ∧ names.length ≤ 100 ∧ ∀ d, H1 d = none → W (.ref C) (some d) σ (upd H1 d (.xd (exFs names vs)))) : uRaise C names W ta D σ H := h
theorem g_raise0 {C : Addr} {W : WX} (h : W (.ref C) none σ H) : uRaise0 C W D σ H := h
end
/-! ## constants of the module -/
structure Cst (mg : Str → Option Value) (x : Str) (v : V) : Prop where
  ex : ∃ u, mg x = some u ∧ RelV v u
theorem ue_cst {X : Cx} {x : Str} {v : V} {pos : Pos} (c : Cst X.mg x v) (hg : Gl X x) (hd : (x == ("__debug__" : Str)) = false := by decide) : PE X (.Name x pos) (tC v) := by
  obtain ⟨u, h1, h2⟩ := c.ex
  exact pe_glob hg h1 h2 hd
end Rf

namespace Rf
open PySem PySem.Spec PyProof.Rows L2
/-! ## methods and __init__ of the text -/
structure Mdf (K : PySem.W.Frag) (C : Addr) (m qual : Str) (st : Stmt) (ps : List Str) (ds : List Value) : Prop where
  ex : ∃ (f : Addr) (fd : FuncData), Cls K C ∧ Meth K C m f ∧ Src K m qual st f fd ∧ Binds K fd ps ds
structure Idf (K : PySem.W.Frag) (mg : Str → Option Value) (x : Str) (C : Addr) (qual : Str) (st : Stmt) (ps : List Str) (ds : List Value) : Prop where
  ex : ∃ (f : Addr) (fd : FuncData), Mk K C f ∧ mg x = some (.ref C) ∧ Src K "__init__" qual st f fd ∧ Binds K fd ps ds
section
variable {P : Program} {w : World} {K : PySem.W.Frag} {mg : Str → Option Value} {base : Heap}
theorem Mdf.mtd {m qual : Str} {C : Addr} {st : Stmt} {N ps : List Str} {ds : List Value} {dvs : List V} {k : Nat} {sp : Sp} (F : Mdf K C m qual st ps ds) (hd : Vals dvs ds) (S : FnScope N ps (defScope st)) (hlen : ∀ vs H Q E, sp vs H Q E → vs.length = ps.length)
    (hb : ∀ (f : Addr) (cdv : Value) (A : Around) (outer : List Env) (s : Shared) (H : Hp) (vs : List V) (Q : VK) (E : XK), Room k (A.deeper (envOfC qual (defScope st) s.heap.objs.size f cdv)) → Quiet (A.deeper (envOfC qual (defScope st) s.heap.objs.size f cdv)) → sp vs H Q E →
      ∃ t, PSs (cxOf (L2.CX P w) P w K mg base N qual (defScope st) f cdv A outer s H E) (defBody st) t ∧ t { nx := fun _ H' => Q .non H', rt := Q } (start N vs) H) : Mtd P w K mg base (k + 1) C m dvs sp := by
  obtain ⟨f, fd, c, me, F, b⟩ := F.ex
  exact ⟨f, fd, ps, ds, c, me, F.fn S hlen (hb f), b, hd⟩
theorem Idf.mkr {x qual : Str} {C : Addr} {st : Stmt} {N ps : List Str} {ds : List Value} {dvs : List V} {k : Nat} {sp : Sp} (F : Idf K mg x C qual st ps ds) (hd : Vals dvs ds) (S : FnScope N ps (defScope st)) (hlen : ∀ vs H Q E, sp vs H Q E → vs.length = ps.length)
    (hb : ∀ (f : Addr) (cdv : Value) (A : Around) (outer : List Env) (s : Shared) (H : Hp) (vs : List V) (Q : VK) (E : XK), Room k (A.deeper (envOfC qual (defScope st) s.heap.objs.size f cdv)) → Quiet (A.deeper (envOfC qual (defScope st) s.heap.objs.size f cdv)) → sp vs H Q E →
      ∃ t, PSs (cxOf (L2.CX P w) P w K mg base N qual (defScope st) f cdv A outer s H E) (defBody st) t ∧ t { nx := fun _ H' => Q .non H', rt := Q } (start N vs) H) : Mkr P w K mg base (k + 1) x C dvs sp := by
  obtain ⟨f, fd, M, hm, F, b⟩ := F.ex
  exact ⟨f, fd, ps, ds, M, F.fn S hlen (hb f), hm, b, hd⟩
/-- from what the head tells -/
theorem mdf_mk {m qual : Str} {C : Addr} {st : Stmt} {ps : List Str} {f : Addr} {oc : Value} {od an : Option Addr} {osl : Array (Option Value)} {kV doc pm cdv ct : Value} (c : Cls K C)
    (hb : ∀ us : List Value, us.length = ps.length → bindArgs (PySem.W.fnOf m qual (defArgs st) (defBody st) (defScope st) .none kV doc pm an cdv ct) ⟨us, []⟩ = pure (ps.zip us))
    (a : PySem.W.findIn K (.ref C) m = some (some (.ref f))) (i : PySem.W.isFn K (.ref f) = true) (l : K.lookup f = some ⟨oc, od, .func (PySem.W.fnOf m qual (defArgs st) (defBody st) (defScope st) .none kV doc pm an cdv ct), osl⟩) (cc : PySem.W.codeIn K cdv qual = true) (k : PySem.W.keepIn K (.ref f) = true) :
    Mdf K C m qual st ps [] := ⟨f, _, c, ⟨a, i, k⟩, src_mk l cc, Binds.all hb⟩
theorem idf_mk {h : Heap} {x qual : Str} {C : Addr} {st : Stmt} {ps : List Str} {f : Addr} {oc : Value} {od an : Option Addr} {osl : Array (Option Value)} {kV doc pm cdv ct : Value} (X : K.In h) (G : h.Ns mainGlobals mg)
    (hb : ∀ us : List Value, us.length = ps.length → bindArgs (PySem.W.fnOf "__init__" qual (defArgs st) (defBody st) (defScope st) .none kV doc pm an cdv ct) ⟨us, []⟩ = pure (ps.zip us))
    (aC : PySem.W.nsIn K mainGlobals x = some (some (.ref C))) (mk : PySem.W.makesIn K C = true) (kc : PySem.W.keepIn K (.ref C) = true)
    (a : PySem.W.findIn K (.ref C) "__init__" = some (some (.ref f))) (i : PySem.W.isFn K (.ref f) = true) (l : K.lookup f = some ⟨oc, od, .func (PySem.W.fnOf "__init__" qual (defArgs st) (defBody st) (defScope st) .none kV doc pm an cdv ct), osl⟩) (cc : PySem.W.codeIn K cdv qual = true) :
    Idf K mg x C qual st ps [] := ⟨f, _, ⟨mk, a, i, kc⟩, PySem.W.mg_of X G aC, src_mk l cc, Binds.all hb⟩
/-- an exception's __init__ of one field -/
theorem xini_mk1 {x f1 : Str} {C fI : Addr} {B newId initId : String} {bmB : List Value} {qual : Str} {st : Stmt} {fd : FuncData} {ps : List Str} (hB : BaseOk B newId initId bmB) (T : Exq K C newId bmB) (hm : mg x = some (.ref C)) (iC : PySem.W.findIn K (.ref C) "__init__" = some (some (.ref fI)))
    (tI : PySem.W.typeIn K (.ref fI) = some (.type "function")) (F : Src K "__init__" qual st fI fd) (hb : Binds K fd ps []) (hps : ps.length = 2) (S : FnScope ps ps (defScope st)) (hno : PySem.W.findIn K (.ref C) f1 = some none)
    (hp : ∀ (f : Addr) (cdv : Value) (A : Around) (outer : List Env) (s : Shared) (H : Hp) (E : XK), PSs (cxOf (L2.CX P w) P w K mg base ps qual (defScope st) f cdv A outer s H E) (defBody st) (uOst K newId bmB f1 (tVar 0) (tVar 1))) :
    XIni P w K mg base 1 x C [f1] := by
  refine ⟨B, newId, initId, bmB, fI, fd, ps, hB, T, hm, iC, tI, F.fn S ?_ ?_, hb⟩
  · rintro vs H Q E ⟨a, ws, rfl, hl, _⟩
    have hl' : ws.length = 1 := hl
    rw [List.length_cons, hl', hps]
  · rintro cdv A outer s H vs Q E hr hG ⟨a, ws, rfl, hl, ha, q⟩
    obtain ⟨y, rfl⟩ : ∃ y, ws = [y] := by
      match ws, hl with
      | [y], _ => exact ⟨y, rfl⟩
    refine ⟨_, hp fI cdv A outer s H E, ?_⟩
    match ps, hps with
    | [p1, p2], _ => exact ⟨y, rfl, .ref a, rfl, a, C, rfl, T, hno, Or.inl ⟨ha, fun dx h1 h2 => q dx h1 h2⟩⟩
end
section
variable {D : Ends} {σ : L2.St} {H : Hp} {K : PySem.W.Frag} {Q : VK}
theorem g_meth {C : Addr} {m : Str} {sp : Sp} {dvs : List V} {E : L2.St → XK} {ta : TE} {t : TA} (h : ta σ H fun x H1 => ∃ a dx fs, x = .ref a ∧ H1 a = some (.ins C dx fs) ∧ fs.lookup m = none ∧ t σ H1 fun vs H2 => sp (x :: (vs ++ dvs)) H2 Q (E σ)) : uMeth C m sp dvs E ta t σ H Q := h
theorem g_make {C : Addr} {sp : Sp} {dvs : List V} {E : L2.St → XK} {t : TA} (h : t σ H fun vs H1 => ∀ x dx, H1 x = none → H1 dx = none → dx ≠ x →
  sp (.ref x :: (vs ++ dvs)) (upd (upd H1 dx (.own x)) x (.ins C dx [])) (fun v H2 => v = .non ∧ Q (.ref x) H2) (E σ)) : uMake C sp dvs E t σ H Q := h
theorem g_sfld {ta tv : TE} {f : Str} (h : tv σ H fun y H1 => ta σ H1 fun x H2 => ∃ a C dx fs, x = .ref a ∧ H2 a = some (.ins C dx fs) ∧ Cls K C ∧ NoAttr K C f ∧ fs.length < 1000 ∧ D.nx σ (upd H2 a (.ins C dx (putF f y fs)))) : sFld K ta tv f D σ H := h
theorem g_dnew {P : V → Hp → Prop} (h : ∀ p, H p = none → P (.ref p) (upd H p (.dK []))) : tDNewK σ H P := h
end
section
variable {X : Cx} {K : PySem.W.Frag}
theorem uc_all (hc : X.calm = true := by rfl) (hK : X.K = K := by rfl) : CallR X (.builtin "all") (rAll K) := by subst hK; exact cr_all hc
theorem uc_any (hc : X.calm = true := by rfl) (hK : X.K = K := by rfl) : CallR X (.builtin "any") (rAny K) := by subst hK; exact cr_any hc
theorem uc_sum (hc : X.calm = true := by rfl) (hK : X.K = K := by rfl) : CallR X (.builtin "sum") (rSum K) := by subst hK; exact cr_sum hc
theorem uc_max1 (hc : X.calm = true := by rfl) (hK : X.K = K := by rfl) : CallR X (.builtin "max") (rMax K) := by subst hK; exact cr_max hc
theorem uc_min1 (hc : X.calm = true := by rfl) (hK : X.K = K := by rfl) : CallR X (.builtin "min") (rMin K) := by subst hK; exact cr_min hc
end
/-! ## data and the heap's growth -/
mutual
theorem dp_mono {K : PySem.W.Frag} {H H' : Hp} (s : Same H H') : ∀ {v : V} {d : PyData}, Dp K H v d → Dp K H' v d
  | _, _, .non => .non
  | _, _, .bl b => .bl b
  | _, _, .int i => .int i
  | _, _, .str x => .str x
  | _, _, .lst h1 h2 => .lst (s.seq h1) (dpAll_mono s h2)
  | _, _, .tup h1 h2 => .tup (s.seqT h1) (dpAll_mono s h2)
theorem dpAll_mono {K : PySem.W.Frag} {H H' : Hp} (s : Same H H') : ∀ {vs : List V} {ds : List PyData}, DpAll K H vs ds → DpAll K H' vs ds
  | _, _, .nil => .nil
  | _, _, .cons h1 h2 => .cons (dp_mono s h1) (dpAll_mono s h2)
end
theorem dpAll_len {K : PySem.W.Frag} {H : Hp} : ∀ {vs : List V} {ds : List PyData}, DpAll K H vs ds → vs.length = ds.length
  | _, _, .nil => rfl
  | _, _, .cons _ h => by rw [List.length_cons, List.length_cons, dpAll_len h]
theorem dpAll_get {K : PySem.W.Frag} {H : Hp} : ∀ {vs : List V} {ds : List PyData} {i : Nat} {d : PyData}, DpAll K H vs ds → ds[i]? = some d → ∃ v, vs[i]? = some v ∧ Dp K H v d
  | _, _, _, _, .nil, h => nomatch h
  | _, _, 0, _, .cons h1 _, h => ⟨_, rfl, by cases h; exact h1⟩
  | _, _, i + 1, _, .cons _ h2, h => dpAll_get (i := i) h2 h
theorem dpAll_get' {K : PySem.W.Frag} {H : Hp} : ∀ {vs : List V} {ds : List PyData} {i : Nat} {v : V}, DpAll K H vs ds → vs[i]? = some v → ∃ d, ds[i]? = some d ∧ Dp K H v d
  | _, _, _, _, .nil, h => nomatch h
  | _, _, 0, _, .cons h1 _, h => ⟨_, rfl, by cases h; exact h1⟩
  | _, _, i + 1, _, .cons _ h2, h => dpAll_get' (i := i) h2 h
theorem dpAll_snoc {K : PySem.W.Frag} {H : Hp} : ∀ {vs : List V} {ds : List PyData} {v : V} {d : PyData}, DpAll K H vs ds → Dp K H v d → DpAll K H (vs ++ [v]) (ds ++ [d])
  | _, _, _, _, .nil, h => .cons h .nil
  | _, _, _, _, .cons h1 h2, h => .cons h1 (dpAll_snoc h2 h)
theorem dpAll_append {K : PySem.W.Frag} {H : Hp} : ∀ {vs us : List V} {ds es : List PyData}, DpAll K H vs ds → DpAll K H us es → DpAll K H (vs ++ us) (ds ++ es)
  | _, _, _, _, .nil, h => h
  | _, _, _, _, .cons h1 h2, h => .cons h1 (dpAll_append h2 h)
theorem dp_list {K : PySem.W.Frag} {H : Hp} {v : V} {ds : List PyData} (h : Dp K H v (.list ds)) : ∃ a xs, v = .ref a ∧ SqL K H a xs ∧ DpAll K H xs ds := by
  cases h with
  | lst h1 h2 => exact ⟨_, _, rfl, h1, h2⟩
theorem dp_tuple {K : PySem.W.Frag} {H : Hp} {v : V} {ds : List PyData} (h : Dp K H v (.tuple ds)) : ∃ a xs, v = .ref a ∧ SqT K H a xs ∧ DpAll K H xs ds := by
  cases h with
  | tup h1 h2 => exact ⟨_, _, rfl, h1, h2⟩
theorem dp_str {K : PySem.W.Frag} {H : Hp} {v : V} {x : Str} (h : Dp K H v (.str x)) : v = .str x := by cases h; rfl
theorem dp_int {K : PySem.W.Frag} {H : Hp} {v : V} {x : Int} (h : Dp K H v (.int x)) : v = .int x := by cases h; rfl
theorem dpAll_strs {K : PySem.W.Frag} {H : Hp} : ∀ (xs : List Str), DpAll K H (xs.map V.str) (xs.map PyData.str)
  | [] => .nil
  | x :: xs => .cons (.str x) (dpAll_strs xs)
theorem dpAll_ints {K : PySem.W.Frag} {H : Hp} : ∀ (xs : List Int), DpAll K H (xs.map V.int) (xs.map PyData.int)
  | [] => .nil
  | x :: xs => .cons (.int x) (dpAll_ints xs)
/-! ## what stands while one thing changes -/
def hid (p : Addr) (H : Hp) : Hp := fun b => if b = p then none else H b
theorem hid_upd {p : Addr} {H : Hp} {o : HO} : hid p (upd H p o) = hid p H := by
  funext b
  unfold hid upd
  split <;> rfl
theorem hid_up {p : Addr} {H : Hp} : Same (hid p H) H := fun b o e => by
  unfold hid at e
  split at e
  · cases e
  · exact e
theorem hid_same {p : Addr} {H H' : Hp} (s : Same H H') : Same (hid p H) (hid p H') := fun b o e => by
  unfold hid at e ⊢
  split at e
  · cases e
  · rename_i h
    rw [if_neg h]
    exact s b o e
theorem hid_of {p b : Addr} {H : Hp} {o : HO} (n : b ≠ p) (e : H b = some o) : hid p H b = some o := by
  unfold hid
  rw [if_neg n]
  exact e
theorem hid_base {p : Addr} {H H' : Hp} (s : Same H H') (hp : H p = none) : Same H (hid p H') := fun b o e => hid_of (ne_of_none e hp) (s b o e)
/-- a row (name, number) -/
abbrev rowD (p : Str × Int) : PyData := .tuple [.str p.1, .int p.2]
abbrev rowsD (r : List (Str × Int)) : PyData := .list (r.map rowD)
theorem dp_row {K : PySem.W.Frag} {H : Hp} {v : V} {p : Str × Int} (h : Dp K H v (rowD p)) : ∃ t, v = .ref t ∧ SqT K H t [.str p.1, .int p.2] := by
  obtain ⟨t, xs, rfl, h1, h2⟩ := dp_tuple h
  cases h2 with
  | cons a b =>
    cases b with
    | cons c d =>
      cases d
      rw [dp_str a, dp_int c] at h1
      exact ⟨t, rfl, h1⟩
theorem row_dp {K : PySem.W.Frag} {H : Hp} {t : Addr} {p : Str × Int} (h : SqT K H t [.str p.1, .int p.2]) : Dp K H (.ref t) (rowD p) := .tup h (.cons (.str _) (.cons (.int _) .nil))
/-- an exception with one field is what is wished -/
def XF (H : Hp) (E : XK) (C : Addr) (f : Str) (v : V) : Prop := ∀ d H', Same H H' → H d = none → H' d = some (.xd [(f, v)]) → E (.ref C) (some d) H'
theorem XF.go {H H1 : Hp} {E : XK} {C d : Addr} {f : Str} {v : V} (h : XF H E C f v) (s : Same H H1) (hd : H1 d = none) : E (.ref C) (some d) (upd H1 d (.xd (exFs [f] [v]))) :=
  h d _ (s.trans (Same.mut (Same.refl H1) hd)) (s.free hd) upd_same
end Rf

namespace Rf
open PySem PySem.Spec PyProof.Rows L2
section
variable {X : Cx}
theorem ue_bm0 {K : PySem.W.Frag} {T id : String} {name : Str} {r : V → List V → Hp → VK → Prop} {o : Expr} {to : TE} {apos cpos : Pos} (pa : PlainAttrs T) (slot : Slot T name id) (hty : typeOf (.builtin id) = pure (.type "method_descriptor")) (hm : MtR X id r) (ho : PE X o to) (hK : X.K = K := by rfl)
    (hbase : attributeBase o name X.env (eval o X.env) = eval o X.env := by rfl) (hline : (apos.endLine == cpos.line) = true := by rfl) :
    PE X (.Call (.Attribute o name apos) [] [] cpos) (tBM0 K T r to) := by
  subst hK
  exact pe_bm0 pa slot hty hm ho hbase hline
end
section
variable {H : Hp} {K : PySem.W.Frag} {Q : VK}
theorem i_clear {l : Addr} {xs : List V} (h1 : H l = some (.lst xs)) (h : Q .non (upd H l (.lst []))) : rClear (.ref l) [] H Q := ⟨l, xs, rfl, rfl, h1, h⟩
theorem i_reverse {l : Addr} {xs : List V} (h1 : H l = some (.lst xs)) (h : Q .non (upd H l (.lst xs.reverse))) : rReverse (.ref l) [] H Q := ⟨l, xs, rfl, rfl, h1, h⟩
theorem i_pop {l : Addr} {xs : List V} {y : V} (h1 : H l = some (.lst xs)) (hy : xs[xs.length - 1]? = some y) (h : Q y (upd H l (.lst xs.dropLast))) : rPop (.ref l) [] H Q := ⟨l, xs, y, rfl, rfl, h1, hy, h⟩
theorem tyL {l : Addr} {xs : List V} (h1 : H l = some (.lst xs)) : tyV K "list" (.ref l) H := Or.inl ⟨rfl, xs, SqL.of h1⟩
end
/-! ## what stands while several things change -/
def hidL (ps : List Addr) (H : Hp) : Hp := fun b => if b ∈ ps then none else H b
theorem hidL_in {ps : List Addr} {H : Hp} {p : Addr} (h : p ∈ ps) : hidL ps H p = none := if_pos h
theorem hidL_up {ps : List Addr} {H : Hp} : Same (hidL ps H) H := fun b o e => by
  unfold hidL at e
  split at e
  · cases e
  · exact e
theorem hidL_of {ps : List Addr} {b : Addr} {H : Hp} {o : HO} (n : b ∉ ps) (e : H b = some o) : hidL ps H b = some o := (if_neg n).trans e
theorem hidL_base {ps : List Addr} {H H' : Hp} (s : Same H H') (hp : ∀ p ∈ ps, H p = none) : Same H (hidL ps H') := fun b o e => hidL_of (fun z => by rw [hp b z] at e; cases e) (s b o e)
/-- a thing that is no list is not among lists -/
theorem hidL_no {ps : List Addr} {b : Addr} {H : Hp} {o : HO} (hl : ∀ p ∈ ps, ∃ xs, H p = some (.lst xs)) (n : ∀ xs, o ≠ .lst xs) (e : H b = some o) : hidL ps H b = some o :=
  hidL_of (fun z => by obtain ⟨xs, h⟩ := hl b z; rw [h] at e; exact n xs (Option.some.inj e).symm) e
/-! ## an own exception class, as the written part holds it -/
def ExL (K : PySem.W.Frag) (C : Addr) (newId : String) (bm : List Value) : Prop := ∃ nm q N bs sn sub ab col dd k0 k1 k2 k3 k5, K.lookup C = some (excClassObj nm q C N bs bm true sn sub ab col dd k0 k1 k2 k3 k5 newId)
theorem exq_mk {K : PySem.W.Frag} {C : Addr} {newId : String} {bmB : List Value} {cs : List Addr} (l : ExL K C newId (mroB cs bmB)) (sa : PySem.W.findIn K (.ref C) "__setattr__" = some (some (.builtin "object.__setattr__")))
    (exC : PySem.W.subIn K (.ref C) (.type "BaseException") = some true) (tyC : PySem.W.typeIn K (.ref C) = some (.type "type")) (kC : PySem.W.keepIn K (.ref C) = true) : Exq K C newId bmB := by
  obtain ⟨nm, q, N, bs, sn, sub, ab, col, dd, k0, k1, k2, k3, k5, h⟩ := l
  exact ⟨⟨nm, q, N, bs, cs, sn, sub, ab, col, dd, k0, k1, k2, k3, k5, h⟩, sa, exC, tyC, kC⟩
end Rf

namespace Rf
open PySem PySem.Spec PyProof.Rows L2
def topS (i : Nat) : Stmt := PySem.Challenge.pw_oneroof_k07_worlds_told.main.body.getD i (.Pass ⟨0, 0, 0, 0⟩)
section
variable {P : Program} {w : World} {K : PySem.W.Frag} {mg : Str → Option Value} {base : Heap}
local macro_rules | `(tactic| walk_at "g1") => `(tactic| first
  | with_reducible refine g_seq ?_
  | with_reducible refine g_asg ?_
  | with_reducible refine g_name ?_
  | ((with_reducible refine' g_var ?gv ?_); (case gv => exact rfl))
  | with_reducible refine g_c ?_
  | with_reducible refine g_op ?_
  | with_reducible refine g_cons ?_
  | with_reducible refine g_nil ?_
  | with_reducible refine g_cb ?_
  | with_reducible refine g_if ?_
  | with_reducible refine g_test ?_
  | with_reducible refine g_bl ?_
  | with_reducible refine g_ret ?_
  | with_reducible refine g_for ?_
  | with_reducible refine g_lc ?_
  | with_reducible refine g_yes ?_
  | with_reducible refine g_m1 ?_
  | with_reducible refine g_m0 ?_
  | with_reducible refine g_isStr ?_
  | with_reducible refine g_rng1 ?_
  | with_reducible refine g_rng2 ?_
  | with_reducible refine g_seqI ?_
  | with_reducible refine g_call ?_
  | with_reducible refine g_meth ?_
  | with_reducible refine g_make ?_
  | with_reducible refine g_sfld ?_
  | with_reducible refine g_dnew ?_
  | with_reducible refine g_raise ?_
  | with_reducible refine g_raise0 ?_
  | with_reducible refine g_drop ?_
  | with_reducible refine g_next ?_
  | with_reducible refine g_ifE ?_
  | with_reducible refine g_iteT ?_
  | with_reducible refine g_iteF ?_
  | with_reducible refine g_par ?_
  | with_reducible refine g_par2 ?_
  | with_reducible refine g_un ?_
  | with_reducible refine g_and ?_
  | with_reducible refine g_or ?_
  | with_reducible refine g_not ?_
  | with_reducible refine g_andV ?_
  | with_reducible refine g_orV ?_
  | with_reducible refine g_notV ?_
  | with_reducible refine g_tru ?_
  | with_reducible refine g_truB ?_
  | with_reducible refine g_retN ?_
  | with_reducible refine g_tup ?_
  | with_reducible refine g_lst ?_
  | with_reducible refine g_chain ?_
  | with_reducible refine g_sl ?_
  | with_reducible refine g_noPart ?_
  | with_reducible refine g_part ?_
  | with_reducible refine g_int ?_
  | with_reducible refine g_fld ?_
  | with_reducible refine g_bm ?_
  | with_reducible refine g_bm0 ?_
  | with_reducible refine g_gcons ?_
  | with_reducible refine g_gnil ?_
  | with_reducible refine g_gsub ?_
  | with_reducible refine i_add ?_
  | with_reducible refine i_sub ?_
  | ((with_reducible refine i_mul ?c ?_); (case c => first | exact Or.inr ⟨by decide, by decide⟩ | exact Or.inl ⟨by decide, by decide⟩ | exact Or.inl ⟨by omega, by omega⟩ | exact Or.inr ⟨by omega, by omega⟩))
  | ((with_reducible refine i_fdiv ?c ?_); (case c => first | exact ⟨by decide, by decide⟩ | exact ⟨by omega, by omega⟩))
  | ((with_reducible refine i_mod ?c ?_); (case c => first | decide | omega))
  | ((with_reducible refine i_pow ?c ?_); (case c => exact ⟨by decide, by decide, by decide⟩))
  | with_reducible refine i_lt ?_
  | with_reducible refine i_le ?_
  | with_reducible refine i_gt ?_
  | with_reducible refine i_ge ?_
  | with_reducible refine i_neg ?_
  | with_reducible refine i_eqI ?_
  | with_reducible refine i_neI ?_
  | with_reducible refine i_eqS ?_
  | with_reducible refine i_neS ?_
  | with_reducible refine i_max2 ?_
  | with_reducible refine i_min2 ?_
  | with_reducible refine i_abs ?_
  | ((with_reducible refine g_iteTc ?c ?_); (case c => exact rfl))
  | ((with_reducible refine g_iteFc ?c ?_); (case c => exact rfl)))
local macro_rules | `(tactic| walk_at "go") => `(tactic| repeat walk_at "g1")
/-! ### _law_cell -/
def cellBase (ns : List Int) : Int := ns.foldl (fun b v => (b * 31 + v) % 1000003) 17
def cell (ns : List Int) (k : Int) : Int := if k < (ns.length : Int) then ns.getD k.toNat 0 else (cellBase ns + 1) * (k + 3) * 7919 % 2147483629
def spCell (K : PySem.W.Frag) : Sp := fun vs H Q _ => ∃ (l : Addr) (ns : List Int) (k : Int), vs = [.ref l, .int k] ∧ SqL K H l (ns.map V.int) ∧ 0 ≤ k ∧ k < 1000000 ∧ Q (.int (cell ns k)) H
theorem base_lt : ∀ (ns : List Int) (b : Int), 0 ≤ b ∧ b < 1000003 → 0 ≤ ns.foldl (fun b v => (b * 31 + v) % 1000003) b ∧ ns.foldl (fun b v => (b * 31 + v) % 1000003) b < 1000003
  | [], b, h => h
  | v :: r, b, h => by
    rw [List.foldl_cons]
    exact base_lt r _ ⟨Int.emod_nonneg _ (by decide), Int.emod_lt_of_pos _ (by decide)⟩
abbrev s_law_cell : Stmt := topS 15
abbrev N_law_cell : List Str := ["_law_script", "_law_k", "_law_base", "_law_one"]
abbrev P_law_cell : List Str := ["_law_script", "_law_k"]
theorem sc_law_cell : FnScope N_law_cell P_law_cell (defScope s_law_cell) := ⟨rfl, rfl, rfl, by decide +kernel, rfl, by decide +kernel, by decide +kernel⟩
theorem cal_law_cell (F : Dfn K mg "_law_cell" s_law_cell P_law_cell []) (B : Blt mg) : Cal P w K mg base 1 "_law_cell" [] (spCell K) := by
  refine F.cal .nil sc_law_cell (fun vs H Q E h => ?_) (fun f cdv A outer s H vs Q E hr hG h => ?_)
  · obtain ⟨l, ns, k, rfl, _⟩ := h
    rfl
  · obtain ⟨l, ns, k, rfl, hl, h0, h1, q⟩ := h
    have hu := hu_of hr
    have nd := sc_law_cell.nd
    refine ⟨_, (pss_cons (ps_if (pt_cmpR uq_lt (pv 1) (pe_callB (uc_len (K := K)) (by rfl) B.b_len (by decide +kernel) (pa_cons (pv 0) pa_nil)) (nomark _)) (pss_one (ps_ret (pe_ix (uq_ix (K := K) hu) (pv 0) (pv 1) (fun _ _ => rfl)))) pss_nil)
      (pss_cons (ps_set (i := 2) nd rfl (Or.inl rfl) pe_int)
      (pss_cons (ps_for PW rfl (ui_seq (K := K) (pv 0)) (pg_name (i := 3) nd rfl (Or.inl rfl)) (pss_one (ps_set (i := 2) nd rfl (Or.inl rfl) (pe_op uq_mod (pe_op uq_add (pe_op uq_mul (pv 2) pe_int) (pv 3)) pe_int))))
      (pss_one (ps_ret (pe_op uq_mod (pe_op uq_mul (pe_op uq_mul (pe_op uq_add (pv 2) pe_int) (pe_op uq_add (pv 1) pe_int)) pe_int) pe_int)))))), ?_⟩
    walk_at "go"
    refine i_lenL hl ?_
    walk_at "go"
    rw [List.length_map]
    refine ite2 (fun hk => ?_) (fun hk => ?_)
    · have hk' := of_decide_eq_true hk
      walk_at "go"
      refine i_ixL hl (atI_ints h0 hk') ?_
      unfold cell at q
      rw [if_pos hk'] at q
      exact q
    · have hk' : ¬ k < (ns.length : Int) := fun z => hk (decide_eq_true z)
      walk_at "go"
      refine Or.inl ⟨l, rfl, ⟨_, hl⟩, ?_⟩
      refine for_list (K := K) (a := l) (xs := ns.map V.int) (fun i σ H' => H' = H ∧ ∃ v : Option V, σ = [some (.ref l), some (.int k), some (.int (cellBase (ns.take i))), v]) ⟨rfl, none, rfl⟩ (fun i σ H' _ h => by rw [h.1]; exact hl) ?_ ?_
      · rintro i y σ H' hi ⟨rfl, v, rfl⟩
        obtain ⟨z, hz, rfl⟩ := getMapInt hi
        have hb : 0 ≤ cellBase (ns.take i) ∧ cellBase (ns.take i) < 1000003 := base_lt _ _ ⟨by decide, by decide⟩
        walk_at "go"
        refine ⟨rfl, some (.int z), ?_⟩
        unfold cellBase
        rw [take_snoc hz, List.foldl_append]
        rfl
      · rintro σ H' ⟨rfl, v, rfl⟩
        rw [List.length_map, List.take_length]
        have hb : 0 ≤ cellBase ns ∧ cellBase ns < 1000003 := base_lt _ _ ⟨by decide, by decide⟩
        walk_at "go"
        unfold cell at q
        rw [if_neg hk'] at q
        exact q

/-! ### _law_digits -/
def digA : Int → List Int → List Int
  | _, [] => []
  | r, s :: ss => r % s :: digA (r / s) ss
def digB : Int → Int → List Int → List Int
  | _, _, [] => []
  | one, j, s :: ss => (((one * 48271 + 10007 * (j + 1)) % 2147483629 * ((one * 48271 + 10007 * (j + 1)) % 2147483629) + 69621 * ((one * 48271 + 10007 * (j + 1)) % 2147483629) + j) % 2147483563) / 11 % s :: digB ((one * 48271 + 10007 * (j + 1)) % 2147483629) (j + 1) ss
def digs (ns : List Int) (k : Int) (ss : List Int) : List Int := if (10 : Int) ^ 18 ≤ cell ns k then digA (cell ns k - 10 ^ 18) ss else digB (cell ns k % 2147483647) 0 ss
/-- as many digits as sizes, each below its size -/
inductive Within : List Int → List Int → Prop
  | nil : Within [] []
  | cons {d s : Int} {ds ss : List Int} : 0 ≤ d → d < s → Within ds ss → Within (d :: ds) (s :: ss)
theorem digA_in : ∀ (ss : List Int) (r : Int), (∀ s ∈ ss, 0 < s) → Within (digA r ss) ss
  | [], _, _ => .nil
  | s :: ss, r, h => .cons (Int.emod_nonneg _ (by have := h s List.mem_cons_self; omega)) (Int.emod_lt_of_pos _ (h s List.mem_cons_self)) (digA_in ss _ fun x hx => h x (List.mem_cons_of_mem _ hx))
theorem digB_in : ∀ (ss : List Int) (r j : Int), (∀ s ∈ ss, 0 < s) → Within (digB r j ss) ss
  | [], _, _, _ => .nil
  | s :: ss, r, j, h => .cons (Int.emod_nonneg _ (by have := h s List.mem_cons_self; omega)) (Int.emod_lt_of_pos _ (h s List.mem_cons_self)) (digB_in ss _ _ fun x hx => h x (List.mem_cons_of_mem _ hx))
theorem digs_in (ns : List Int) (k : Int) (ss : List Int) (h : ∀ s ∈ ss, 0 < s) : Within (digs ns k ss) ss := by
  unfold digs
  split
  · exact digA_in _ _ h
  · exact digB_in _ _ _ h
theorem Within.len {ds ss : List Int} (h : Within ds ss) : ds.length = ss.length := by
  induction h with
  | nil => rfl
  | cons _ _ _ ih => simp [ih]
theorem Within.one {ds : List Int} {a : Int} (h : Within ds [a]) : ∃ x, ds = [x] ∧ 0 ≤ x ∧ x < a := by
  cases h with
  | cons h1 h2 h3 => cases h3; exact ⟨_, rfl, h1, h2⟩
theorem Within.next {ds ss : List Int} {a : Int} (h : Within ds (a :: ss)) : ∃ x r, ds = x :: r ∧ 0 ≤ x ∧ x < a ∧ Within r ss := by
  cases h with
  | cons h1 h2 h3 => exact ⟨_, _, rfl, h1, h2, h3⟩
def spDigits (K : PySem.W.Frag) : Sp := fun vs H Q _ => ∃ (l z : Addr) (ns : List Int) (k : Int) (ss : List Int), vs = [.ref l, .int k, .ref z] ∧ SqL K H l (ns.map V.int) ∧ SqL K H z (ss.map V.int) ∧ 0 ≤ k ∧ k < 1000000 ∧ ss.length ≤ 1000 ∧
  (∀ s ∈ ss, 0 < s ∧ s < 1073741824) ∧ ∀ p H', H p = none → Same H H' → H' p = some (.lst ((digs ns k ss).map V.int)) → Q (.ref p) H'
theorem pow18 : ((10 : Int) ^ (18 : Int).toNat) = (10 : Int) ^ 18 := rfl
abbrev s_law_digits : Stmt := topS 16
abbrev N_law_digits : List Str := ["_law_script", "_law_k", "_law_sizes", "_law_cell_here", "_law_out", "_law_rest", "_law_size", "_law_one", "_law_j", "_law_two"]
abbrev P_law_digits : List Str := ["_law_script", "_law_k", "_law_sizes"]
theorem sc_law_digits : FnScope N_law_digits P_law_digits (defScope s_law_digits) := ⟨rfl, rfl, rfl, by decide +kernel, rfl, by decide +kernel, by decide +kernel⟩
theorem cal_law_digits (F : Dfn K mg "_law_digits" s_law_digits P_law_digits []) (B : Blt mg) (c__law_cell : Cal P w K mg base 1 "_law_cell" [] (spCell K)) : Cal P w K mg base 2 "_law_digits" [] (spDigits K) := by
  refine F.cal .nil sc_law_digits (fun vs H Q E h => ?_) (fun f cdv A outer s H vs Q E hr hG h => ?_)
  · obtain ⟨l, z, ns, k, ss, rfl, _⟩ := h
    rfl
  · obtain ⟨l, z, ns, k, ss, rfl, hl, hz, h0, h1, hlen, hss, q⟩ := h
    have hu := hu_of hr
    have nd := sc_law_digits.nd
    refine ⟨_, (pss_cons (ps_set (i := 3) nd rfl (Or.inl rfl) (ue_call c__law_cell hr (by decide) hG (by rfl) PB (pa_cons (pv 0) (pa_cons (pv 1) pa_nil))))
      (pss_cons (ps_set (i := 4) nd rfl (Or.inl rfl) (pe_lst pa_nil))
      (pss_cons (ps_if (pt_cmpR uq_ge (pv 3) (pe_op uq_pow pe_int pe_int) (nomark _)) (pss_cons (ps_set (i := 5) nd rfl (Or.inl rfl) (pe_op uq_sub (pv 3) (pe_op uq_pow pe_int pe_int)))
      (pss_cons (ps_for PW rfl (ui_seq (K := K) (pv 2)) (pg_name (i := 6) nd rfl (Or.inl rfl)) (pss_cons (ps_expr (ue_bm (K := K) PySem.F.plainAttrs_list PySem.F.slot_list_append PySem.F.type_list_append mt_append (pv 4) (pa_cons (pe_op uq_mod (pv 5) (pv 6)) pa_nil)))
      (pss_one (ps_set (i := 5) nd rfl (Or.inl rfl) (pe_op uq_fdiv (pv 5) (pv 6))))))
      (pss_one (ps_ret (pv 4))))) pss_nil)
      (pss_cons (ps_set (i := 7) nd rfl (Or.inl rfl) (pe_op uq_mod (pv 3) pe_int))
      (pss_cons (ps_for PW rfl (pi_range1 (by rfl) B.b_range (pa_cons (pe_callB (uc_len (K := K)) (by rfl) B.b_len (by decide +kernel) (pa_cons (pv 2) pa_nil)) pa_nil)) (pg_name (i := 8) nd rfl (Or.inl rfl)) (pss_cons (ps_set (i := 7) nd rfl (Or.inl rfl) (pe_op uq_mod (pe_op uq_add (pe_op uq_mul (pv 7) pe_int) (pe_op uq_mul pe_int (pe_op uq_add (pv 8) pe_int))) pe_int))
      (pss_cons (ps_set (i := 9) nd rfl (Or.inl rfl) (pe_op uq_mod (pe_op uq_add (pe_op uq_add (pe_op uq_mul (pv 7) (pv 7)) (pe_op uq_mul pe_int (pv 7))) (pv 8)) pe_int))
      (pss_one (ps_expr (ue_bm (K := K) PySem.F.plainAttrs_list PySem.F.slot_list_append PySem.F.type_list_append mt_append (pv 4) (pa_cons (pe_op uq_mod (pe_op uq_fdiv (pv 9) pe_int) (pe_ix (uq_ix (K := K) hu) (pv 2) (pv 8) (fun _ _ => rfl))) pa_nil)))))))
      (pss_one (ps_ret (pv 4)))))))), ?_⟩
    walk_at "go"
    refine ⟨l, ns, k, rfl, hl, h0, h1, ?_⟩
    walk_at "go"
    refine ⟨by decide, fun p hp => ?_⟩
    have sm : Same H (upd H p (.lst [])) := Same.mut (Same.refl H) hp
    walk_at "go"
    refine ite2 (fun hk => ?_) (fun hk => ?_)
    · have hk' : (10 : Int) ^ 18 ≤ cell ns k := of_decide_eq_true hk
      have ed : digs ns k ss = digA (cell ns k - 10 ^ 18) ss := by unfold digs; rw [if_pos hk']
      rw [ed] at q
      walk_at "go"
      refine Or.inl ⟨z, rfl, ⟨_, sm.seq hz⟩, ?_⟩
      refine for_list (K := K) (a := z) (xs := ss.map V.int) (fun i σ H' => ∃ (acc : List Int) (r : Int) (v : Option V), Same H H' ∧ H' p = some (.lst (acc.map V.int)) ∧ acc.length = i ∧
          acc ++ digA r (ss.drop i) = digA (cell ns k - 10 ^ 18) ss ∧ σ = [some (.ref l), some (.int k), some (.ref z), some (.int (cell ns k)), some (.ref p), some (.int r), v, none, none, none])
        ⟨[], _, none, sm, upd_same, rfl, rfl, rfl⟩ (fun i σ H' _ ⟨_, _, _, s2, _⟩ => s2.seq hz) ?_ ?_
      · rintro i y σ H' hi ⟨acc, r, v, s2, hp2, ha, he, rfl⟩
        obtain ⟨x, hx, rfl⟩ := getMapInt hi
        have hx2 := hss x (List.mem_of_getElem? hx)
        have hil : i < ss.length := (List.getElem?_eq_some_iff.mp hx).1
        walk_at "go"
        refine ⟨Or.inl ⟨rfl, _, SqL.of hp2⟩, ?_⟩
        walk_at "go"
        refine i_append hp2 (by rw [List.length_map]; exact sz_small' (by omega)) ?_
        walk_at "go"
        refine ⟨acc ++ [r % x], r / x, some (.int x), s2.mut hp, by rw [upd_same, List.map_append]; rfl, by simp [ha], ?_, rfl⟩
        rw [drop_cons hx] at he
        rw [← he, List.append_assoc]
        rfl
      · rintro σ H' ⟨acc, r, v, s2, hp2, ha, he, rfl⟩
        walk_at "go"
        rw [List.length_map, List.drop_length] at he
        have he' : acc = digA (cell ns k - 10 ^ 18) ss := by rw [← he]; exact (List.append_nil _).symm
        exact q p H' hp s2 (by rw [← he']; exact hp2)
    · have hk' : ¬ (10 : Int) ^ 18 ≤ cell ns k := fun z => hk (decide_eq_true z)
      have ed : digs ns k ss = digB (cell ns k % 2147483647) 0 ss := by unfold digs; rw [if_neg hk']
      rw [ed] at q
      have hc0 : 0 ≤ cell ns k % 2147483647 := Int.emod_nonneg _ (by decide)
      have hc1 : cell ns k % 2147483647 < 2147483647 := Int.emod_lt_of_pos _ (by decide)
      walk_at "go"
      refine i_lenL (sm.seq hz) ?_
      walk_at "go"
      rw [List.length_map]
      refine ⟨(ss.length : Int), rfl, by omega, by omega, ?_⟩
      refine for_range (lo := 0) (n := ((ss.length : Int)).toNat) (fun i σ H' => ∃ (acc : List Int) (one : Int) (v1 v2 : Option V), Same H H' ∧ H' p = some (.lst (acc.map V.int)) ∧ acc.length = i ∧ 0 ≤ one ∧ one < 2147483647 ∧
          acc ++ digB one i (ss.drop i) = digB (cell ns k % 2147483647) 0 ss ∧ σ = [some (.ref l), some (.int k), some (.ref z), some (.int (cell ns k)), some (.ref p), none, none, some (.int one), v1, v2])
        ⟨[], _, none, none, sm, upd_same, rfl, hc0, hc1, rfl, rfl⟩ ?_ ?_
      · rintro i σ H' hi ⟨acc, one, v1, v2, s2, hp2, ha, o0, o1, he, rfl⟩
        have hil : i < ss.length := by omega
        obtain ⟨x, hx⟩ : ∃ x, ss[i]? = some x := ⟨_, List.getElem?_eq_getElem hil⟩
        have hx2 := hss x (List.mem_of_getElem? hx)
        have m0 : 0 ≤ (one * 48271 + 10007 * ((0 : Int) + (i : Int) + 1)) % 2147483629 := Int.emod_nonneg _ (by decide)
        have m1 : (one * 48271 + 10007 * ((0 : Int) + (i : Int) + 1)) % 2147483629 < 2147483629 := Int.emod_lt_of_pos _ (by decide)
        walk_at "go"
        refine ⟨Or.inl ⟨rfl, _, SqL.of hp2⟩, ?_⟩
        walk_at "go"
        refine i_ixL (s2.seq hz) (atI_of (v := .int x) (by omega) (by rw [List.getElem?_map, show ((0 : Int) + (i : Int)).toNat = i by omega, hx]; rfl)) ?_
        walk_at "go"
        refine i_append hp2 (by rw [List.length_map]; exact sz_small' (by omega)) ?_
        walk_at "go"
        refine ⟨acc ++ [_], (one * 48271 + 10007 * ((0 : Int) + (i : Int) + 1)) % 2147483629, _, _, s2.mut hp, by rw [upd_same, List.map_append]; rfl, by simp [ha], m0, by omega, ?_, rfl⟩
        rw [drop_cons hx] at he
        rw [← he, List.append_assoc]
        simp only [Int.zero_add, digB, List.cons_append, List.nil_append, Int.natCast_add, Int.natCast_one]
      · rintro σ H' ⟨acc, one, v1, v2, s2, hp2, ha, o0, o1, he, rfl⟩
        walk_at "go"
        rw [show ((ss.length : Int)).toNat = ss.length by omega, List.drop_length] at he
        have he' : acc = digB (cell ns k % 2147483647) 0 ss := by rw [← he]; exact (List.append_nil _).symm
        exact q p H' hp s2 (by rw [← he']; exact hp2)

/-! ### _law_names -/
def lett (i : Int) : Nat := 97 + i.toNat
def nmRest (one two size j : Int) : List Nat := (List.range size.toNat).map fun (i : Nat) => lett ((one + (i : Int) * two + 3 * j) % 26)
def nmFirst (one two size place j : Int) : List Nat := (nmRest one two size j).take place.toNat ++ [lett ((one + 7 * j + 11) % 26)] ++ (nmRest one two size j).drop place.toNat
def tails : List Nat := [105, 106, 107, 108, 109, 110, 111, 112, 113, 114, 115, 116]
def sx (l : List Nat) : Str := ⟨l.toArray⟩
def nmFree (j : Nat) (found : List Str) : Str := ((tails.filter fun t => decide (sx [122, 97 + j, t] ∉ found)).map fun t => sx [122, 97 + j, t]).headD (sx [])
def nmNext (ns : List Int) (k : Int) (j : Nat) (found : List Str) : Str :=
  let d := digs ns (k + (j : Int) % 2) [26, 26, 6, 5]
  let n := sx (nmFirst (d.getD 0 0) (d.getD 1 0) (d.getD 2 0) (d.getD 3 0) j)
  if n ∈ found then nmFree j found else n
def names (ns : List Int) (k : Int) : Nat → List Str
  | 0 => []
  | j + 1 => names ns k j ++ [nmNext ns k j (names ns k j)]
/-- one to six small letters -/
def NameOk (s : Str) : Prop := 1 ≤ s.length ∧ s.length ≤ 6 ∧ ∀ c ∈ s.cps.toList, 97 ≤ c ∧ c ≤ 122
theorem names_len (ns : List Int) (k : Int) : ∀ n, (names ns k n).length = n
  | 0 => rfl
  | n + 1 => by simp [names, names_len ns k n]
theorem lett_ok {i : Int} : 97 ≤ lett (i % 26) ∧ lett (i % 26) ≤ 122 := by
  have h1 := Int.emod_nonneg i (b := 26) (by decide)
  have h2 := Int.emod_lt_of_pos i (b := 26) (by decide)
  unfold lett
  omega
theorem nmRest_ok {one two size j : Int} : ∀ c ∈ nmRest one two size j, 97 ≤ c ∧ c ≤ 122 := by
  intro c hc
  obtain ⟨i, _, rfl⟩ := List.mem_map.mp hc
  exact lett_ok
theorem nmFirst_ok {one two size place j : Int} (h0 : 0 ≤ size) (h1 : size < 6) : NameOk (sx (nmFirst one two size place j)) := by
  have hl : (nmFirst one two size place j).length = size.toNat + 1 := by
    have e : (nmRest one two size j).length = size.toNat := by simp [nmRest]
    unfold nmFirst
    simp only [List.length_append, List.length_take, List.length_drop, List.length_singleton, e]
    omega
  refine ⟨?_, ?_, ?_⟩
  · show 1 ≤ (nmFirst one two size place j).toArray.size
    rw [List.size_toArray, hl]; omega
  · show (nmFirst one two size place j).toArray.size ≤ 6
    rw [List.size_toArray, hl]; omega
  · intro c hc
    have hc' : c ∈ nmFirst one two size place j := by simpa [sx] using hc
    unfold nmFirst at hc'
    rcases List.mem_append.mp hc' with h | h
    · rcases List.mem_append.mp h with h | h
      · exact nmRest_ok c (List.mem_of_mem_take h)
      · rw [List.mem_singleton.mp h]; exact lett_ok
    · exact nmRest_ok c (List.mem_of_mem_drop h)
theorem nd_le {α : Type} [DecidableEq α] : ∀ {l m : List α}, l.Nodup → (∀ x ∈ l, x ∈ m) → l.length ≤ m.length
  | [], _, _, _ => Nat.zero_le _
  | x :: l, m, hn, h => by
    have hx := h x List.mem_cons_self
    have h2 := nd_le (l := l) (m := m.erase x) (List.nodup_cons.mp hn).2 fun y hy => by
      have ne : y ≠ x := fun e => (List.nodup_cons.mp hn).1 (e ▸ hy)
      exact (List.mem_erase_of_ne ne).mpr (h y (List.mem_cons_of_mem _ hy))
    have e := List.length_erase_of_mem hx
    have p := List.length_pos_of_mem hx
    simp only [List.length_cons]
    omega
theorem sx_inj {a b : List Nat} (h : sx a = sx b) : a = b := by
  have := congrArg (fun s : Str => s.cps.toList) h
  simpa [sx] using this
theorem nmFree_some (j : Nat) (found : List Str) (h : found.length ≤ 11) : ∃ t r, tails.filter (fun t => decide (sx [122, 97 + j, t] ∉ found)) = t :: r ∧ t ∈ tails ∧ sx [122, 97 + j, t] ∉ found := by
  cases e : tails.filter (fun t => decide (sx [122, 97 + j, t] ∉ found)) with
  | cons t r =>
    have ht : t ∈ tails.filter (fun t => decide (sx [122, 97 + j, t] ∉ found)) := by rw [e]; exact List.mem_cons_self
    obtain ⟨h1, h2⟩ := List.mem_filter.mp ht
    exact ⟨t, r, rfl, h1, of_decide_eq_true h2⟩
  | nil =>
    have hall : ∀ x ∈ tails.map (fun t => sx [122, 97 + j, t]), x ∈ found := by
      intro x hx
      obtain ⟨t, ht, rfl⟩ := List.mem_map.mp hx
      have := List.filter_eq_nil_iff.mp e t ht
      simpa using this
    have hnd : (tails.map (fun t => sx [122, 97 + j, t])).Nodup := by
      refine List.Pairwise.map _ ?_ (show tails.Nodup by decide)
      intro a b hab z
      have := sx_inj z
      simp at this
      exact hab this
    have := nd_le hnd hall
    simp [tails] at this
    omega
theorem nmFree_ok {j : Nat} {found : List Str} (h : found.length ≤ 11) (hj : j < 26) : NameOk (nmFree j found) ∧ nmFree j found ∉ found := by
  obtain ⟨t, r, e, ht, hn⟩ := nmFree_some j found h
  have e2 : nmFree j found = sx [122, 97 + j, t] := by unfold nmFree; rw [e]; rfl
  rw [e2]
  refine ⟨⟨by simp [sx, Str.length], by simp [sx, Str.length], ?_⟩, hn⟩
  intro c hc
  have hc' : c = 122 ∨ c = 97 + j ∨ c = t := by simpa [sx] using hc
  have htt : 105 ≤ t ∧ t ≤ 116 := by simp [tails] at ht; omega
  omega
theorem digs4 (ns : List Int) (k a b c d : Int) (ha : 0 < a) (hb : 0 < b) (hc : 0 < c) (hd : 0 < d) : ∃ x y z u, digs ns k [a, b, c, d] = [x, y, z, u] ∧ 0 ≤ x ∧ x < a ∧ 0 ≤ y ∧ y < b ∧ 0 ≤ z ∧ z < c ∧ 0 ≤ u ∧ u < d := by
  have h := digs_in ns k [a, b, c, d] (by intro s hs; simp at hs; omega)
  obtain ⟨x, r, e1, x0, x1, h⟩ := h.next
  obtain ⟨y, r2, e2, y0, y1, h⟩ := h.next
  obtain ⟨z, r3, e3, z0, z1, h⟩ := h.next
  obtain ⟨u, e4, u0, u1⟩ := h.one
  exact ⟨x, y, z, u, by rw [e1, e2, e3, e4], x0, x1, y0, y1, z0, z1, u0, u1⟩
theorem nmNext_ok {ns : List Int} {k : Int} {j : Nat} {found : List Str} (h : found.length ≤ 11) (hj : j < 26) : NameOk (nmNext ns k j found) ∧ nmNext ns k j found ∉ found := by
  obtain ⟨x, y, z, u, e, x0, x1, y0, y1, z0, z1, u0, u1⟩ := digs4 ns (k + (j : Int) % 2) 26 26 6 5 (by decide) (by decide) (by decide) (by decide)
  unfold nmNext
  simp only [e]
  split
  · exact nmFree_ok h hj
  · exact ⟨nmFirst_ok z0 z1, by assumption⟩
theorem names_ok (ns : List Int) (k : Int) : ∀ n, n ≤ 12 → (names ns k n).Nodup ∧ ∀ x ∈ names ns k n, NameOk x
  | 0, _ => ⟨List.nodup_nil, fun _ h => nomatch h⟩
  | n + 1, h => by
    obtain ⟨h1, h2⟩ := names_ok ns k n (by omega)
    have h3 := nmNext_ok (ns := ns) (k := k) (j := n) (found := names ns k n) (by rw [names_len]; omega) (by omega)
    refine ⟨nd_snoc h1 h3.2, fun x hx => ?_⟩
    rcases List.mem_append.mp hx with hx | hx
    · exact h2 x hx
    · rw [List.mem_singleton.mp hx]; exact h3.1
theorem names_pre (ns : List Int) (k : Int) (n : Nat) : ∀ m, n ≤ m → (names ns k m).take n = names ns k n := by
  intro m h
  induction m with
  | zero => cases Nat.le_zero.mp h; rfl
  | succ m ih =>
    by_cases e : n = m + 1
    · subst e; rw [List.take_of_length_le (by rw [names_len]; omega)]
    · show (names ns k m ++ _).take n = _
      rw [List.take_append_of_le_length (by rw [names_len]; omega)]
      exact ih (by omega)
def spNames (K : PySem.W.Frag) : Sp := fun vs H Q _ => ∃ (l : Addr) (ns : List Int) (k : Int) (many : Nat), vs = [.ref l, .int k, .int many] ∧ SqL K H l (ns.map V.int) ∧ 0 ≤ k ∧ k < 900000 ∧ many ≤ 12 ∧
  ∀ p H', H p = none → Same H H' → H' p = some (.lst ((names ns k many).map V.str)) → Q (.ref p) H'
theorem alph_at {i : Int} (h0 : 0 ≤ i) (h1 : i < 26) : atI (Str.ofString "abcdefghijklmnopqrstuvwxyz").cps.toList i = some (lett i) := by
  refine atI_of h0 ?_
  have e : (Str.ofString "abcdefghijklmnopqrstuvwxyz").cps.toList = (List.range 26).map (97 + ·) := by decide +kernel
  rw [e, List.getElem?_map, List.getElem?_range (by omega)]
  rfl
theorem alph_len : (Str.ofString "abcdefghijklmnopqrstuvwxyz").length ≤ sizeLine := by decide +kernel
theorem sx_add (a b : List Nat) : sx a ++ sx b = sx (a ++ b) := by
  show (⟨a.toArray ++ b.toArray⟩ : Str) = ⟨(a ++ b).toArray⟩
  simp
theorem sx_len (a : List Nat) : (sx a).length = a.length := by simp [sx, Str.length]
theorem inV_str {x : Str} {xs : List Str} : inV (.str x) (xs.map V.str) = decide (x ∈ xs) := by
  induction xs with
  | nil => rfl
  | cons y ys ih =>
    have e : inV (.str x) ((y :: ys).map V.str) = (eqV (.str y) (.str x) || inV (.str x) (ys.map V.str)) := rfl
    rw [e, ih]
    have e2 : eqV (.str y) (.str x) = decide (y = x) := by
      show (y == x) = _
      rfl
    rw [e2]
    by_cases h : y = x
    · subst h
      simp
    · have h' : ¬ x = y := fun z => h z.symm
      simp [h, h']
theorem flat_strs (xs : List Str) : (xs.map V.str).all flatV = true := by
  rw [List.all_eq_true]
  intro x hx
  obtain ⟨y, _, rfl⟩ := List.mem_map.mp hx
  rfl
theorem tl_ext {a b : Str} (h : a.cps.toList = b.cps.toList) : a = b := by
  cases a
  cases b
  simp only at h
  congr 1
  exact Array.toList_inj.mp h
theorem join_empty (ls : List Nat) : Txt.join (Str.ofString "") (ls.map fun c => (⟨#[c]⟩ : Str)) = sx ls := by
  refine tl_ext ?_
  rw [TL.join_eq]
  have h := TL.tl_join (Str.ofString "") (ls.map fun c => (⟨#[c]⟩ : Str))
  refine h.trans ?_
  have e : TL.tl (Str.ofString "") = [] := by decide +kernel
  rw [e, List.map_map]
  induction ls with
  | nil => rfl
  | cons a r ih =>
    cases r with
    | nil => rfl
    | cons b r =>
      have ih' := ih (TL.tl_join (Str.ofString "") ((b :: r).map fun c => (⟨#[c]⟩ : Str)))
      show [a] ++ ([] ++ TL.joinL [] (List.map _ (b :: r))) = _
      rw [ih']
      rfl
theorem cut_take (l : List Nat) {i : Int} (h : 0 ≤ i) : cutS (sx l) none (some i) = sx (l.take i.toNat) := by
  refine tl_ext ?_
  unfold cutS
  have e : HT.sIx (sx l).length (sx l).length (some i) = min i.toNat l.length := by
    show (if i < 0 then _ else min i.toNat (sx l).length) = _
    rw [if_neg (by omega), sx_len]
  have e0 : HT.sIx (sx l).length 0 none = 0 := rfl
  rw [e, e0]
  simp only [sx, List.drop_zero, Nat.sub_zero]
  rw [List.take_eq_take_iff]
  omega
theorem cut_drop (l : List Nat) {i : Int} (h : 0 ≤ i) : cutS (sx l) (some i) none = sx (l.drop i.toNat) := by
  refine tl_ext ?_
  unfold cutS
  have e : HT.sIx (sx l).length 0 (some i) = min i.toNat l.length := by
    show (if i < 0 then _ else min i.toNat (sx l).length) = _
    rw [if_neg (by omega), sx_len]
  have e0 : HT.sIx (sx l).length (sx l).length none = l.length := by rw [sx_len]; rfl
  rw [e, e0]
  simp only [sx]
  by_cases c : i.toNat ≤ l.length
  · rw [Nat.min_eq_left c, List.take_of_length_le (by rw [List.length_drop]; exact Nat.le_refl _)]
  · rw [Nat.min_eq_right (by omega), List.drop_length, List.drop_eq_nil_of_le (by omega : l.length ≤ i.toNat)]
    simp
theorem sum_ones (l : List Nat) : ((l.map fun c => (⟨#[c]⟩ : Str)).map (·.length)).sum = l.length := by
  induction l with
  | nil => rfl
  | cons a r ih =>
    simp only [List.map_cons, List.sum_cons, ih, List.length_cons]
    have e : (⟨#[a]⟩ : Str).length = 1 := rfl
    omega
theorem of_len (s : String) (n : Nat) (h : (Str.ofString s).length = n) (h2 : n ≤ 1000000) : (Str.ofString s).length ≤ sizeLine := by rw [h]; exact sz_small h2
theorem sx_one (c : Nat) : (⟨#[c]⟩ : Str) = sx [c] := rfl
abbrev s_law_names : Stmt := topS 17
abbrev N_law_names : List Str := ["_law_script", "_law_k", "_law_many", "_law_found", "_law_letters", "_law_j", "_law_one", "_law_two", "_law_size", "_law_place", "_law_rest", "_law_name", "_law_i", "_law_tail"]
abbrev P_law_names : List Str := ["_law_script", "_law_k", "_law_many"]
theorem sc_law_names : FnScope N_law_names P_law_names (defScope s_law_names) := ⟨rfl, rfl, rfl, by decide +kernel, rfl, by decide +kernel, by decide +kernel⟩
theorem cal_law_names (F : Dfn K mg "_law_names" s_law_names P_law_names []) (B : Blt mg) (c__law_digits : Cal P w K mg base 2 "_law_digits" [] (spDigits K)) : Cal P w K mg base 3 "_law_names" [] (spNames K) := by
  refine F.cal .nil sc_law_names (fun vs H Q E h => ?_) (fun f cdv A outer s H vs Q E hr hG h => ?_)
  · obtain ⟨l, ns, k, many, rfl, _⟩ := h
    rfl
  · obtain ⟨l, ns, k, many, rfl, hl, h0, h1, hm, q⟩ := h
    have hu := hu_of hr
    have nd := sc_law_names.nd
    refine ⟨_, (pss_cons (ps_asg (pe_tup (pa_cons (pe_lst pa_nil) (pa_cons pe_str pa_nil))) (ug_seq (K := K) (n := 2) rfl (pgs_cons (pg_name (i := 3) nd rfl (Or.inr rfl)) (pgs_cons (pg_name (i := 4) nd rfl (Or.inr rfl)) pgs_nil))))
      (pss_cons (ps_for PW rfl (pi_range1 (by rfl) B.b_range (pa_cons (pv 2) pa_nil)) (pg_name (i := 5) nd rfl (Or.inr rfl)) (pss_cons (ps_asg (ue_call c__law_digits hr (by decide) hG (by rfl) PB (pa_cons (pv 0) (pa_cons (pe_op uq_add (pv 1) (pe_op uq_mod (pv 5) pe_int)) (pa_cons (pe_lst (pa_cons pe_int (pa_cons pe_int (pa_cons pe_int (pa_cons pe_int pa_nil))))) pa_nil)))) (ug_seq (K := K) (n := 4) rfl (pgs_cons (pg_name (i := 6) nd rfl (Or.inr rfl)) (pgs_cons (pg_name (i := 7) nd rfl (Or.inr rfl)) (pgs_cons (pg_name (i := 8) nd rfl (Or.inl rfl)) (pgs_cons (pg_name (i := 9) nd rfl (Or.inl rfl)) pgs_nil))))))
      (pss_cons (ps_set (i := 10) nd rfl (Or.inl rfl) (ue_join (K := K) pe_str (pe_lc (own := [("_law_i", 12)]) rfl nd (pi_range1 (by rfl) B.b_range (pa_cons (pv 8) pa_nil)) (blkOk_by (own := [("_law_i", 12)]) (N := N_law_names) (sc := defScope (s_law_names)) (by decide +kernel)) (fun _ _ _ _ _ => (pg_name (i := 12) nd rfl (Or.inl rfl))) (fun _ _ _ _ _ => pts_nil) (fun _ _ _ _ _ => (pe_ix (uq_ix (K := K) hu) (pv 4) (pe_op uq_mod (pe_op uq_add (pe_op uq_add (pv 6) (pe_op uq_mul (pv 12) (pv 7))) (pe_op uq_mul pe_int (pv 5))) pe_int) (fun _ _ => rfl))))))
      (pss_cons (ps_set (i := 11) nd rfl (Or.inl rfl) (pe_op uq_add (pe_op uq_add (pe_slice (uq_sl (K := K)) (pv 10) po_none (po_some (pv 9))) (pe_ix (uq_ix (K := K) hu) (pv 4) (pe_op uq_mod (pe_op uq_add (pe_op uq_add (pv 6) (pe_op uq_mul pe_int (pv 5))) pe_int) pe_int) (fun _ _ => rfl))) (pe_slice (uq_sl (K := K)) (pv 10) (po_some (pv 9)) po_none)))
      (pss_cons (ps_if (pt_cmpR (uq_in (K := K) hu) (pv 11) (pv 3) (by rfl)) (pss_one (ps_set (i := 11) nd rfl (Or.inl rfl) (pe_ix (uq_ix (K := K) hu) (pe_lc (own := [("_law_tail", 13)]) rfl nd (ui_seq (K := K) pe_str) (blkOk_by (own := [("_law_tail", 13)]) (N := N_law_names) (sc := defScope (s_law_names)) (by decide +kernel)) (fun _ _ _ _ _ => (pg_name (i := 13) nd rfl (Or.inl rfl))) (fun _ _ _ _ _ => (pts_one (pt_cmpR (uq_notin (K := K) hu) (pe_op uq_add (pe_op uq_add pe_str (pe_ix (uq_ix (K := K) hu) (pv 4) (pv 5) (fun _ _ => rfl))) (pv 13)) (pv 3) (by rfl)))) (fun _ _ _ _ _ => (pe_op uq_add (pe_op uq_add pe_str (pe_ix (uq_ix (K := K) hu) (pv 4) (pv 5) (fun _ _ => rfl))) (pv 13)))) pe_int (fun _ _ => rfl)))) pss_nil)
      (pss_one (ps_expr (ue_bm (K := K) PySem.F.plainAttrs_list PySem.F.slot_list_append PySem.F.type_list_append mt_append (pv 3) (pa_cons (pv 11) pa_nil)))))))))
      (pss_one (ps_ret (pv 3))))), ?_⟩
    walk_at "go"
    refine ⟨by decide, fun p hp => ?_⟩
    walk_at "go"
    refine ⟨sz_small (by simp), fun t ht => ?_⟩
    refine g_gseqT (SqT.of upd_same) rfl ?_
    walk_at "go"
    have hpt : p ≠ t := ne_of_none (upd_same (H := H) (o := .lst [])) ht
    have s0 : Same H (upd (upd H p (.lst [])) t (.tup [.ref p, .str (Str.ofString "abcdefghijklmnopqrstuvwxyz")])) := fun b o e => by
      rw [upd_ne (ne_of_none (Same.mut (Same.refl H) hp b o e) ht)]
      exact Same.mut (Same.refl H) hp b o e
    refine ⟨(many : Int), rfl, by omega, by omega, ?_⟩
    refine for_range (lo := 0) (n := ((many : Int)).toNat) (fun i σ H' => ∃ (v5 v6 v7 v8 v9 v10 v11 : Option V), Same H H' ∧ H' p = some (.lst ((names ns k i).map V.str)) ∧
        σ = [some (.ref l), some (.int k), some (.int many), some (.ref p), some (.str (Str.ofString "abcdefghijklmnopqrstuvwxyz")), v5, v6, v7, v8, v9, v10, v11, none, none])
      ⟨none, none, none, none, none, none, none, s0, by rw [upd_ne hpt, upd_same]; rfl, rfl⟩ ?_ ?_
    · rintro i σ H1 hi ⟨v5, v6, v7, v8, v9, v10, v11, s1, hp1, rfl⟩
      have hi' : i < many := by omega
      walk_at "go"
      refine ⟨sz_small (by decide), fun z hz => ?_⟩
      generalize e2 : upd H1 z (.lst [.int 26, .int 26, .int 6, .int 5]) = H2
      obtain ⟨s2, hz2⟩ := newH hz e2
      walk_at "go"
      have em : (k + (0 + (i : Int)) % 2) = k + (i : Int) % 2 := by rw [Int.zero_add]
      obtain ⟨one, two, size, place, ed, b1, b2, b3, b4, b5, b6, b7, b8⟩ := digs4 ns (k + (i : Int) % 2) 26 26 6 5 (by decide) (by decide) (by decide) (by decide)
      refine ⟨l, z, ns, k + (0 + (i : Int)) % 2, [26, 26, 6, 5], rfl, (s1.trans s2).seq hl, SqL.of hz2, by omega, by omega, by decide, by decide, fun y H3 hy s3 hy3 => ?_⟩
      rw [em, ed] at hy3
      have sH3 : Same H H3 := s1.trans (s2.trans s3)
      have hp3 : H3 p = some (.lst ((names ns k i).map V.str)) := s3 _ _ (s2 _ _ hp1)
      refine g_gseqL (xs := [.int one, .int two, .int size, .int place]) (SqL.of hy3) rfl ?_
      walk_at "go"
      refine ⟨size, rfl, by omega, by omega, fun D hD => ?_⟩
      have hDp : p ≠ D := ne_of_none hp3 hD
      refine lc_it walk_range (fun m H' => Same H3 H' ∧ H' D = some (.lst (((List.range m).map fun (x : Nat) => lett ((one + (x : Int) * two + 3 * (i : Int)) % 26)).map fun c => V.str ⟨#[c]⟩))) ⟨Same.mut (Same.refl H3) hD, upd_same⟩ (fun _ _ _ _ => trivial) ?_ ?_
      · rintro m x H4 H5 hm ⟨s4, hD4⟩ ⟨rfl, rfl⟩
        walk_at "go"
        refine ⟨rfl, ?_⟩
        walk_at "go"
        refine i_ixS alph_len (alph_at (Int.emod_nonneg _ (by decide)) (Int.emod_lt_of_pos _ (by decide))) ?_
        refine ⟨_, hD4, ?_, s4.mut hD, ?_⟩
        · rw [List.length_map, List.length_map, List.length_range]
          exact sz_small' (by omega)
        · rw [upd_same, List.range_succ, List.map_append, List.map_append]
          simp only [Int.zero_add]
          rfl
      · rintro H4 ⟨s4, hD4⟩
        walk_at "go"
        have er : ((List.range size.toNat).map fun (x : Nat) => lett ((one + (x : Int) * two + 3 * (i : Int)) % 26)) = nmRest one two size i := rfl
        rw [er] at hD4
        have hD4' : H4 D = some (.lst (((nmRest one two size i).map fun c => (⟨#[c]⟩ : Str)).map V.str)) := by rw [List.map_map]; exact hD4
        have hrl : (nmRest one two size i).length = size.toNat := by simp [nmRest]
        refine ⟨_, D, _, rfl, rfl, .inl (SqL.of hD4'), ?_, ?_⟩
        · rw [sum_ones, hrl, show (Str.ofString "").length = 0 by decide +kernel]
          omega
        rw [join_empty]
        walk_at "go"
        refine i_slS (sz_small (by rw [sx_len, hrl]; omega)) ?_
        rw [cut_take _ b7]
        walk_at "go"
        refine i_ixS alph_len (alph_at (Int.emod_nonneg _ (by decide)) (Int.emod_lt_of_pos _ (by decide))) ?_
        rw [sx_one]
        refine i_addS (sz_small (by rw [sx_len, sx_len, List.length_take, hrl]; simp; omega)) ?_
        rw [sx_add]
        walk_at "go"
        refine i_slS (sz_small (by rw [sx_len, hrl]; omega)) ?_
        rw [cut_drop _ b7]
        refine i_addS (sz_small (by rw [sx_len, sx_len, List.length_append, List.length_take, List.length_drop, hrl]; simp; omega)) ?_
        rw [sx_add]
        have en : (nmRest one two size i).take place.toNat ++ [lett ((one + 7 * (0 + (i : Int)) + 11) % 26)] ++ (nmRest one two size i).drop place.toNat = nmFirst one two size place i := by
          rw [Int.zero_add]
          rfl
        rw [en]
        walk_at "go"
        have sH4 : Same H H4 := sH3.trans s4
        have hp4 : H4 p = some (.lst ((names ns k i).map V.str)) := s4 _ _ hp3
        refine i_inL (SqL.of hp4) rfl (flat_strs _) ?_
        rw [inV_str]
        have hlen := names_len ns k i
        have hz : ((names ns k i).map V.str).length < sizeLine := by rw [List.length_map, hlen]; exact sz_small' (by omega)
        walk_at "go"
        have enx : nmNext ns k i (names ns k i) = if sx (nmFirst one two size place i) ∈ names ns k i then nmFree i (names ns k i) else sx (nmFirst one two size place i) := by
          unfold nmNext
          simp only [ed]
          rfl
        refine ite2 (fun hin => ?_) (fun hin => ?_)
        · have hin' := of_decide_eq_true hin
          rw [if_pos hin'] at enx
          walk_at "go"
          refine Or.inr (Or.inr (Or.inl ⟨_, rfl, fun E hE => ?_⟩))
          have hEp : p ≠ E := ne_of_none hp4 hE
          have hi26 : (0 : Int) + (i : Int) < 26 := by omega
          refine lc_it walk_str (fun m H' => Same H4 H' ∧ H' E = some (.lst ((((tails.take m).filter fun t => decide (sx [122, 97 + i, t] ∉ names ns k i)).map fun t => sx [122, 97 + i, t]).map V.str))) ⟨Same.mut (Same.refl H4) hE, upd_same⟩ (fun _ _ _ _ => trivial) ?_ ?_
          · rintro m x H5 H6 hm ⟨s5, hE5⟩ ⟨rfl, c, hc, rfl⟩
            have hc' : tails[m]? = some c := by
              have e : (Str.ofString "ijklmnopqrst").cps = tails.toArray := by decide +kernel
              rw [e] at hc
              simpa using hc
            have el : lett (0 + (i : Int)) = 97 + i := by unfold lett; omega
            walk_at "go"
            refine ⟨rfl, ?_⟩
            walk_at "go"
            refine i_ixS alph_len (alph_at (by omega) hi26) ?_
            rw [el, sx_one, show Str.ofString "z" = sx [122] by decide +kernel]
            refine i_addS (sz_small (by simp [sx_len])) ?_
            rw [sx_add]
            walk_at "go"
            rw [sx_one]
            refine i_addS (sz_small (by simp [sx_len])) ?_
            rw [sx_add]
            walk_at "go"
            refine i_notinL (SqL.of (s5 _ _ hp4)) rfl (flat_strs _) ?_
            rw [inV_str]
            walk_at "go"
            have et : tails.take (m + 1) = tails.take m ++ [c] := take_snoc hc'
            show if (!decide (sx [122, 97 + i, c] ∈ names ns k i)) = true then _ else _
            by_cases hf : sx [122, 97 + i, c] ∈ names ns k i
            · rw [if_neg (by simp [hf])]
              refine ⟨s5, ?_⟩
              rw [hE5, et, List.filter_append]
              simp [hf]
            · rw [if_pos (by simp [hf])]
              walk_at "go"
              refine i_ixS alph_len (alph_at (by omega) hi26) ?_
              rw [el, sx_one]
              refine i_addS (sz_small (by simp [sx_len])) ?_
              rw [sx_add]
              walk_at "go"
              refine i_addS (sz_small (by simp [sx_len])) ?_
              rw [sx_add]
              refine ⟨_, hE5, ?_, s5.mut hE, ?_⟩
              · rw [List.length_map, List.length_map]
                refine sz_small' (Nat.lt_of_le_of_lt (List.length_filter_le _ _) ?_)
                rw [List.length_take]
                simp [tails]
                omega
              · rw [upd_same, et, List.filter_append, List.map_append, List.map_append]
                simp [hf]
          · rintro H5 ⟨s5, hE5⟩
            walk_at "go"
            rw [show (Str.ofString "ijklmnopqrst").cps.size = 12 by decide +kernel, show tails.take 12 = tails by decide] at hE5
            obtain ⟨t, r, e, ht, hn⟩ := nmFree_some i (names ns k i) (by omega)
            rw [e] at hE5
            refine i_ixL (SqL.of hE5) (atI_of (v := .str (sx [122, 97 + i, t])) (by decide) rfl) ?_
            walk_at "go"
            refine ⟨Or.inl ⟨rfl, _, SqL.of (s5 _ _ hp4)⟩, ?_⟩
            walk_at "go"
            refine i_append (s5 _ _ hp4) hz ?_
            walk_at "go"
            refine ⟨_, _, _, _, _, _, _, (sH4.trans s5).mut hp, ?_, rfl⟩
            rw [upd_same]
            have ef : nmFree i (names ns k i) = sx [122, 97 + i, t] := by unfold nmFree; rw [e]; rfl
            show _ = some (HO.lst ((names ns k i ++ [nmNext ns k i (names ns k i)]).map V.str))
            rw [enx, ef, List.map_append]
            rfl
        · have hin' : ¬ sx (nmFirst one two size place i) ∈ names ns k i := fun z => hin (decide_eq_true z)
          rw [if_neg hin'] at enx
          walk_at "go"
          refine ⟨Or.inl ⟨rfl, _, SqL.of hp4⟩, ?_⟩
          walk_at "go"
          refine i_append hp4 hz ?_
          walk_at "go"
          refine ⟨_, _, _, _, _, _, _, sH4.mut hp, ?_, rfl⟩
          rw [upd_same]
          show _ = some (HO.lst ((names ns k i ++ [nmNext ns k i (names ns k i)]).map V.str))
          rw [enx, List.map_append]
          rfl
    · rintro σ H1 ⟨v5, v6, v7, v8, v9, v10, v11, s1, hp1, rfl⟩
      walk_at "go"
      exact q p H1 hp s1 (by rw [hp1]; simp)

/-- a dict of since-days -/
abbrev Days := List (Str × Int)
def dayKV (u : Days) : List (Key × V) := u.map fun p => (Sum.inr p.1, V.int p.2)
def dayAt (u : Days) (x : Str) : Option Int := (u.find? fun p => decide (p.1 = x)).map (·.2)
theorem valV_days (u : Days) (x : Str) : valV (dayKV u) (Sum.inr x : Key) = (dayAt u x).map V.int := by
  unfold valV dayAt dayKV
  induction u with
  | nil => rfl
  | cons p r ih =>
    rw [List.map_cons, List.find?_cons, List.find?_cons]
    have e : decide ((Sum.inr p.1 : Key) = Sum.inr x) = decide (p.1 = x) := key_rr _ _
    simp only [e]
    cases decide (p.1 = x) with
    | true => rfl
    | false => exact ih

/-! ### is_name -/
def isName (s : Str) : Bool := decide (1 ≤ s.length ∧ s.length ≤ 6) && s.cps.toList.all fun c => decide (97 ≤ c ∧ c ≤ 122)
theorem isName_iff {s : Str} : isName s = true ↔ NameOk s := by
  unfold isName NameOk
  simp only [Bool.and_eq_true, decide_eq_true_eq, List.all_eq_true, and_assoc]
theorem in_alph (c : Nat) : decide (c ∈ (Str.ofString "abcdefghijklmnopqrstuvwxyz").cps.toList) = decide (97 ≤ c ∧ c ≤ 122) := by
  have e : (Str.ofString "abcdefghijklmnopqrstuvwxyz").cps.toList = (List.range 26).map (97 + ·) := by decide +kernel
  rw [e, Bool.eq_iff_iff]
  simp only [decide_eq_true_eq, List.mem_map, List.mem_range]
  constructor
  · rintro ⟨i, hi, rfl⟩
    omega
  · intro h
    exact ⟨c - 97, by omega, by omega⟩
def spIsName (K : PySem.W.Frag) : Sp := fun vs H Q _ => ∃ z : Str, vs = [.str z] ∧ z.length ≤ 1000000 ∧ ∀ H', Same H H' → Q (.bl (isName z)) H'
theorem cps_get {z : Str} {i : Nat} {c : Nat} (h : z.cps[i]? = some c) : z.cps.toList[i]? = some c := by
  rw [Array.getElem?_toList]
  exact h
abbrev s_is_name : Stmt := topS 11
abbrev N_is_name : List Str := ["name", "sign"]
abbrev P_is_name : List Str := ["name"]
theorem sc_is_name : FnScope N_is_name P_is_name (defScope s_is_name) := ⟨rfl, rfl, rfl, by decide +kernel, rfl, by decide +kernel, by decide +kernel⟩
theorem cal_is_name (F : Dfn K mg "is_name" s_is_name P_is_name []) (B : Blt mg) : Cal P w K mg base 1 "is_name" [] (spIsName K) := by
  refine F.cal .nil sc_is_name (fun vs H Q E h => ?_) (fun f cdv A outer s H vs Q E hr hG h => ?_)
  · obtain ⟨z, rfl, _⟩ := h
    rfl
  · obtain ⟨z, rfl, hz, q⟩ := h
    have hu := hu_of hr
    have nd := sc_is_name.nd
    refine ⟨_, (pss_cons (ps_if (pt_not (pt_chain uq_le uq_le pe_int (pe_callB (uc_len (K := K)) (by rfl) B.b_len (by decide +kernel) (pa_cons (pv 0) pa_nil)) pe_int)) (pss_one (ps_ret pe_bl)) pss_nil)
      (pss_one (ps_ret (pe_callB (uc_all (K := K)) (by rfl) B.b_all (by decide +kernel) (pa_cons (pe_lc (own := [("sign", 1)]) rfl nd (ui_seq (K := K) (pv 0)) (blkOk_by (own := [("sign", 1)]) (N := N_is_name) (sc := defScope (s_is_name)) (by decide +kernel)) (fun _ _ _ _ _ => (pg_name (i := 1) nd rfl (Or.inl rfl))) (fun _ _ _ _ _ => pts_nil) (fun _ _ _ _ _ => (pe_cmpR (uq_in (K := K) hu) (pv 1) pe_str (by rfl)))) pa_nil))))), ?_⟩
    walk_at "go"
    refine i_lenS (sz_small hz) ?_
    walk_at "go"
    by_cases h1 : (1 : Int) ≤ (z.length : Int)
    · by_cases h2 : (z.length : Int) ≤ 6
      · rw [decide_eq_true h1]
        walk_at "go"
        rw [decide_eq_true h2]
        walk_at "go"
        refine Or.inr (Or.inr (Or.inl ⟨z, rfl, fun D hD => ?_⟩))
        refine lc_it walk_str (fun m H' => Same H H' ∧ H' D = some (.lst (((z.cps.toList.take m).map fun c => decide (97 ≤ c ∧ c ≤ 122)).map V.bl))) ⟨Same.mut (Same.refl H) hD, upd_same⟩ (fun _ _ _ _ => trivial) ?_ ?_
        · rintro m x H4 H5 hm ⟨s4, hD4⟩ ⟨rfl, c, hc, rfl⟩
          walk_at "go"
          refine ⟨rfl, ?_⟩
          walk_at "go"
          refine i_inC ?_
          rw [in_alph]
          refine ⟨_, hD4, ?_, s4.mut hD, ?_⟩
          · rw [List.length_map, List.length_map, List.length_take]
            have hzz : z.cps.toList.length = z.length := by simp [Str.length]
            exact sz_small' (by omega)
          · rw [upd_same, take_snoc (cps_get hc), List.map_append, List.map_append]
            rfl
        · rintro H4 ⟨s4, hD4⟩
          walk_at "go"
          rw [show z.cps.size = z.cps.toList.length by simp, List.take_length] at hD4
          refine ⟨D, _, rfl, SqL.of hD4, ?_⟩
          have e : ((z.cps.toList.map fun c => decide (97 ≤ c ∧ c ≤ 122)).all id) = isName z := by
            unfold isName
            rw [decide_eq_true (show 1 ≤ z.length ∧ z.length ≤ 6 by omega), Bool.true_and, List.all_map]
            rfl
          rw [e]
          exact q H4 s4
      · rw [decide_eq_true h1]
        walk_at "go"
        rw [decide_eq_false h2]
        walk_at "go"
        have e : isName z = false := by
          unfold isName
          rw [decide_eq_false (show ¬ (1 ≤ z.length ∧ z.length ≤ 6) by omega), Bool.false_and]
        rw [← e]
        exact q H (Same.refl H)
    · rw [decide_eq_false h1]
      walk_at "go"
      have e : isName z = false := by
        unfold isName
        rw [decide_eq_false (show ¬ (1 ≤ z.length ∧ z.length ≤ 6) by omega), Bool.false_and]
      rw [← e]
      exact q H (Same.refl H)
/-! ### need_rows -/
/-- a refusal: class, field, what was refused -/
structure Rfs where
  cls : Str
  fld : Str
  val : V
def rowsLoop (bound : Int) : List (Str × Int) → Days → Except Rfs Days
  | [], u => .ok u
  | (n, k) :: r, u => if isName n = false then .error ⟨"BadName", "name", .str n⟩ else if (dayAt u n).isSome then .error ⟨"Taken", "name", .str n⟩
    else if 1 ≤ k ∧ k ≤ bound then rowsLoop bound r (u ++ [(n, k)]) else .error ⟨"BadNumber", "number", .int k⟩
def needRows (r : List (Str × Int)) (most bound : Int) : Except Rfs Days :=
  if 1 ≤ (r.length : Int) ∧ (r.length : Int) ≤ most then rowsLoop bound r [] else .error ⟨"BadCount", "count", .int r.length⟩
/-- the dict, new; or the refusal -/
def DictOr (H : Hp) (Q : VK) (E : XK) (cx : Str → Addr) : Except Rfs Days → Prop
  | .ok u => ∀ p H', H p = none → Same H H' → H' p = some (.dK (dayKV u)) → Q (.ref p) H'
  | .error e => XF H E (cx e.cls) e.fld e.val
def spNeedRows (K : PySem.W.Frag) (cx : Str → Addr) : Sp := fun vs H Q E => ∃ (v : V) (r : List (Str × Int)) (most bound : Int), vs = [v, .int most, .int bound] ∧ Dp K H v (rowsD r) ∧ r.length ≤ 100000 ∧ (∀ p ∈ r, p.1.length ≤ 1000000) ∧ DictOr H Q E cx (needRows r most bound)
theorem put_new {u : Days} {x : Str} {v : Int} (h : dayAt u x = none) : putK (dayKV u) (Sum.inr x : Key) (.int v) = dayKV (u ++ [(x, v)]) := by
  rw [putK_new _ (by rw [valV_days, h]; rfl)]
  simp [dayKV]
abbrev s_need_rows : Stmt := topS 12
abbrev N_need_rows : List Str := ["rows", "most", "bound", "found", "name", "number"]
abbrev P_need_rows : List Str := ["rows", "most", "bound"]
theorem sc_need_rows : FnScope N_need_rows P_need_rows (defScope s_need_rows) := ⟨rfl, rfl, rfl, by decide +kernel, rfl, by decide +kernel, by decide +kernel⟩
theorem cal_need_rows {cx : Str → Addr} (F : Dfn K mg "need_rows" s_need_rows P_need_rows []) (B : Blt mg) (c_is_name : Cal P w K mg base 1 "is_name" [] (spIsName K)) (x_BadCount : XIni P w K mg base 1 "BadCount" (cx "BadCount") ["count"])
    (x_BadName : XIni P w K mg base 1 "BadName" (cx "BadName") ["name"]) (x_Taken : XIni P w K mg base 1 "Taken" (cx "Taken") ["name"]) (x_BadNumber : XIni P w K mg base 1 "BadNumber" (cx "BadNumber") ["number"]) : Cal P w K mg base 3 "need_rows" [] (spNeedRows K cx) := by
  refine F.cal .nil sc_need_rows (fun vs H Q E h => ?_) (fun f cdv A outer s H vs Q E hr hG h => ?_)
  · obtain ⟨v, r, most, bound, rfl, _⟩ := h
    rfl
  · obtain ⟨v, r, most, bound, rfl, hv, hrl, hrn, q⟩ := h
    have hu := hu_of hr
    have nd := sc_need_rows.nd
    obtain ⟨l, xs, rfl, hl, hxs⟩ := dp_list hv
    have hlen : xs.length = r.length := by rw [dpAll_len hxs, List.length_map]
    refine ⟨_, (pss_cons (ps_if (pt_not (pt_chain uq_le uq_le pe_int (pe_callB (uc_len (K := K)) (by rfl) B.b_len (by decide +kernel) (pa_cons (pv 0) pa_nil)) (pv 1))) (pss_one (us_raise x_BadCount rfl tkB hr (by decide) hG (by rfl) (pa_cons (pe_callB (uc_len (K := K)) (by rfl) B.b_len (by decide +kernel) (pa_cons (pv 0) pa_nil)) pa_nil))) pss_nil)
      (pss_cons (ps_set (i := 3) nd rfl (Or.inl rfl) pe_dnewK)
      (pss_cons (ps_for PW rfl (ui_seq (K := K) (pv 0)) (ug_seq (K := K) (n := 2) rfl (pgs_cons (pg_name (i := 4) nd rfl (Or.inl rfl)) (pgs_cons (pg_name (i := 5) nd rfl (Or.inl rfl)) pgs_nil))) (pss_cons (ps_if (pt_not (ut_truth (K := K) (ue_call c_is_name hr (by decide) hG (by rfl) PB (pa_cons (pv 4) pa_nil)))) (pss_one (us_raise x_BadName rfl tkB hr (by decide) hG (by rfl) (pa_cons (pv 4) pa_nil))) pss_nil)
      (pss_cons (ps_if (pt_cmpR (uq_in (K := K) hu) (pv 4) (pv 3) (by rfl)) (pss_one (us_raise x_Taken rfl tkB hr (by decide) hG (by rfl) (pa_cons (pv 4) pa_nil))) pss_nil)
      (pss_cons (ps_if (pt_not (pt_chain uq_le uq_le pe_int (pv 5) (pv 2))) (pss_one (us_raise x_BadNumber rfl tkB hr (by decide) hG (by rfl) (pa_cons (pv 5) pa_nil))) pss_nil)
      (pss_one (ps_asg (pv 5) (pg_sub (pv 3) (pv 4) (uq_set hu))))))))
      (pss_one (ps_ret (pv 3)))))), ?_⟩
    walk_at "go"
    refine i_lenL hl ?_
    rw [hlen]
    walk_at "go"
    have bad : ¬ (1 ≤ (r.length : Int) ∧ (r.length : Int) ≤ most) → XF H E (cx "BadCount") "count" (.int r.length) := fun h => by
      unfold needRows at q
      rw [if_neg h] at q
      exact q
    by_cases h1 : (1 : Int) ≤ (r.length : Int)
    · rw [decide_eq_true h1]
      walk_at "go"
      by_cases h2 : (r.length : Int) ≤ most
      · rw [decide_eq_true h2]
        walk_at "go"
        intro d hd
        generalize e1 : upd H d (.dK []) = H1
        obtain ⟨s1, hd1⟩ := newH hd e1
        unfold needRows at q
        rw [if_pos ⟨h1, h2⟩] at q
        walk_at "go"
        refine Or.inl ⟨l, rfl, ⟨_, s1.seq hl⟩, ?_⟩
        refine for_list (K := K) (a := l) (xs := xs) (fun i σ H' => ∃ (u : Days) (v4 v5 : Option V), Same H H' ∧ H' d = some (.dK (dayKV u)) ∧ u.length = i ∧ i ≤ r.length ∧ DictOr H Q E cx (rowsLoop bound (r.drop i) u) ∧
            σ = [some (.ref l), some (.int most), some (.int bound), some (.ref d), v4, v5]) ⟨[], none, none, s1, hd1, rfl, Nat.zero_le _, q, rfl⟩ (fun i σ H' _ ⟨_, _, _, s2, _⟩ => s2.seq hl) ?_ ?_
        · rintro i y σ H2 hi ⟨u, v4, v5, s2, hd2, hul, hil, q2, rfl⟩
          obtain ⟨dd, hdd, hy⟩ := dpAll_get' hxs hi
          rw [List.getElem?_map] at hdd
          obtain ⟨p, hp, rfl⟩ : ∃ p, r[i]? = some p ∧ rowD p = dd := by
            cases e : r[i]? with
            | none => rw [e] at hdd; cases hdd
            | some p => rw [e] at hdd; exact ⟨p, rfl, Option.some.inj hdd⟩
          obtain ⟨n, k⟩ := p
          obtain ⟨t, rfl, ht⟩ := dp_row hy
          have hnz := hrn _ (List.mem_of_getElem? hp)
          rw [drop_cons hp] at q2
          unfold rowsLoop at q2
          refine g_gseqT (s2.seqT ht) rfl ?_
          walk_at "go"
          refine ⟨n, rfl, hnz, fun H3 s3 => ?_⟩
          have s23 := s2.trans s3
          have hd3 := s3 _ _ hd2
          have gk : DGet H3 d (.str n) ((dayAt u n).map V.int) := by rw [← valV_days]; exact DGet.k (k := Sum.inr n) hd3
          refine ⟨isName n, rfl, ?_⟩
          cases en : isName n with
          | false =>
            rw [en, if_pos rfl] at q2
            walk_at "go"
            exact ⟨rfl, by decide, fun d' hd' => XF.go q2 s23 hd'⟩
          | true =>
            rw [en, if_neg (by decide)] at q2
            walk_at "go"
            refine i_inD gk ?_
            walk_at "go"
            cases ed : dayAt u n with
            | some x =>
              rw [ed, if_pos (by rfl)] at q2
              walk_at "go"
              exact ⟨rfl, by decide, fun d' hd' => XF.go q2 s23 hd'⟩
            | none =>
              rw [ed, if_neg (by decide)] at q2
              walk_at "go"
              by_cases k1 : (1 : Int) ≤ k
              · rw [decide_eq_true k1]
                walk_at "go"
                by_cases k2 : k ≤ bound
                · rw [decide_eq_true k2]
                  rw [if_pos ⟨k1, k2⟩] at q2
                  walk_at "go"
                  refine i_setD (DPut.k (k := Sum.inr n) hd3 (by unfold dayKV; rw [List.length_map]; exact sz_small' (by omega))) ?_
                  refine ⟨u ++ [(n, k)], _, _, s23.mut hd, ?_, by simp [hul], by have := (List.getElem?_eq_some_iff.mp hp).1; omega, q2, rfl⟩
                  rw [upd_same, put_new ed]
                · rw [decide_eq_false k2]
                  rw [if_neg (fun z => k2 z.2)] at q2
                  walk_at "go"
                  exact ⟨rfl, by decide, fun d' hd' => XF.go q2 s23 hd'⟩
              · rw [decide_eq_false k1]
                rw [if_neg (fun z => k1 z.1)] at q2
                walk_at "go"
                exact ⟨rfl, by decide, fun d' hd' => XF.go q2 s23 hd'⟩
        · rintro σ H2 ⟨u, v4, v5, s2, hd2, hul, hil, q2, rfl⟩
          walk_at "go"
          rw [hlen, List.drop_length] at q2
          exact q2 d H2 hd s2 hd2
      · rw [decide_eq_false h2]
        walk_at "go"
        refine i_lenL hl ?_
        rw [hlen]
        walk_at "go"
        exact ⟨rfl, by decide, fun d' hd' => XF.go (bad fun z => h2 z.2) (Same.refl H) hd'⟩
    · rw [decide_eq_false h1]
      walk_at "go"
      refine i_lenL hl ?_
      rw [hlen]
      walk_at "go"
      exact ⟨rfl, by decide, fun d' hd' => XF.go (bad fun z => h1 z.1) (Same.refl H) hd'⟩

/-! ### World -/
def wFs (d1 d2 : Addr) : List (Str × V) := [("first_rates", .ref d1), ("first_shares", .ref d2)]
structure WorldC (K : PySem.W.Frag) (C : Addr) : Prop where
  cl : Cls K C
  n1 : NoAttr K C "first_rates"
  n2 : NoAttr K C "first_shares"
/-- a World stands at a -/
def WorldAt (C : Addr) (H : Hp) (a : Addr) (coins houses : Days) : Prop := ∃ dx d1 d2, H a = some (.ins C dx (wFs d1 d2)) ∧ H d1 = some (.dK (dayKV coins)) ∧ H d2 = some (.dK (dayKV houses))
theorem WorldAt.mono {C a : Addr} {H H' : Hp} {coins houses : Days} (s : Same H H') (h : WorldAt C H a coins houses) : WorldAt C H' a coins houses := by
  obtain ⟨dx, d1, d2, h1, h2, h3⟩ := h
  exact ⟨dx, d1, d2, s _ _ h1, s _ _ h2, s _ _ h3⟩
theorem XF.mono {H H1 : Hp} {E : XK} {C : Addr} {f : Str} {v : V} (h : XF H E C f v) (s : Same H H1) : XF H1 E C f v := fun d H' s' hd h' => h d H' (s.trans s') (s.free hd) h'
theorem putF1 (v : V) : putF "first_rates" v [] = [(("first_rates" : Str), v)] := rfl
theorem putF2 (d1 d2 : Addr) : putF "first_shares" (.ref d2) [(("first_rates" : Str), V.ref d1)] = wFs d1 d2 := by
  show (if ("first_rates" : Str) = "first_shares" then _ else (("first_rates" : Str), V.ref d1) :: putF "first_shares" (V.ref d2) []) = _
  rw [if_neg (by decide +kernel)]
  rfl
def needWorld (rc rh : List (Str × Int)) : Except Rfs (Days × Days) := match needRows rc 5 1000000000 with
  | .error e => .error e
  | .ok c => match needRows rh 8 1000000 with
    | .error e => .error e
    | .ok h => .ok (c, h)
def spWorldInit (K : PySem.W.Frag) (C : Addr) (cx : Str → Addr) : Sp := fun vs H Q E => ∃ (x dx : Addr) (H0 : Hp) (vc vh : V) (rc rh : List (Str × Int)), vs = [.ref x, vc, vh] ∧ Same H0 H ∧ H0 x = none ∧ H x = some (.ins C dx []) ∧ Dp K H0 vc (rowsD rc) ∧ Dp K H0 vh (rowsD rh) ∧
  rc.length ≤ 100000 ∧ rh.length ≤ 100000 ∧ (∀ p ∈ rc, p.1.length ≤ 1000000) ∧ (∀ p ∈ rh, p.1.length ≤ 1000000) ∧
  (match needWorld rc rh with
   | .error e => XF H0 E (cx e.cls) e.fld e.val
   | .ok (c, h) => ∀ H', Same H0 H' → WorldAt C H' x c h → Q .non H')
abbrev s_World_init : Stmt := inClass (topS 13) 0
abbrev N_World_init : List Str := ["self", "coins", "houses"]
abbrev P_World_init : List Str := ["self", "coins", "houses"]
theorem sc_World_init : FnScope N_World_init P_World_init (defScope s_World_init) := ⟨rfl, rfl, rfl, by decide +kernel, rfl, by decide +kernel, by decide +kernel⟩
theorem mkr_World {C : Addr} {cx : Str → Addr} (F : Idf K mg "World" C "World.__init__" s_World_init P_World_init []) (T : WorldC K C) (B : Blt mg) (c_need_rows : Cal P w K mg base 3 "need_rows" [] (spNeedRows K cx)) (g_MOST_COINS : Cst mg "MOST_COINS" (.int 5)) (g_MOST_RATE : Cst mg "MOST_RATE" (.int 1000000000))
    (g_MOST_HOUSES : Cst mg "MOST_HOUSES" (.int 8)) (g_MOST_SHARES : Cst mg "MOST_SHARES" (.int 1000000)) : Mkr P w K mg base 4 "World" C [] (spWorldInit K C cx) := by
  refine F.mkr .nil sc_World_init (fun vs H Q E h => ?_) (fun f cdv A outer s H vs Q E hr hG h => ?_)
  · obtain ⟨x, dx, H0, vc, vh, rc, rh, rfl, _⟩ := h
    rfl
  · obtain ⟨x, dx, H0, vc, vh, rc, rh, rfl, s0, hx0, hx, hc, hh, l1, l2, l3, l4, q⟩ := h
    have hu := hu_of hr
    have nd := sc_World_init.nd
    unfold needWorld at q
    refine ⟨_, (pss_cons (ps_fld (pv 0) (ue_call c_need_rows hr (by decide) hG (by rfl) PB (pa_cons (pv 1) (pa_cons (ue_cst g_MOST_COINS (by rfl)) (pa_cons (ue_cst g_MOST_RATE (by rfl)) pa_nil)))) rfl)
      (pss_one (ps_fld (pv 0) (ue_call c_need_rows hr (by decide) hG (by rfl) PB (pa_cons (pv 2) (pa_cons (ue_cst g_MOST_HOUSES (by rfl)) (pa_cons (ue_cst g_MOST_SHARES (by rfl)) pa_nil)))) rfl))), ?_⟩
    walk_at "go"
    refine ⟨vc, rc, 5, 1000000000, rfl, dp_mono s0 hc, l1, l3, ?_⟩
    cases ec : needRows rc 5 1000000000 with
    | error e =>
      rw [ec] at q
      exact XF.mono q s0
    | ok c =>
      rw [ec] at q
      intro p H1 hp s1 hp1
      walk_at "go"
      have hx1 := s1 _ _ hx
      refine ⟨x, C, dx, _, rfl, hx1, T.cl, T.n1, by decide, ?_⟩
      rw [putF1]
      have npx : p ≠ x := fun z => by rw [z, hx] at hp; cases hp
      generalize e2 : upd H1 x (.ins C dx [(("first_rates" : Str), V.ref p)]) = H2
      have hx2 : H2 x = some (.ins C dx [(("first_rates" : Str), V.ref p)]) := by rw [← e2]; exact upd_same
      have hp2 : H2 p = some (.dK (dayKV c)) := by rw [← e2, upd_ne npx]; exact hp1
      have s02 : Same H0 H2 := by rw [← e2]; exact (s0.trans s1).mut hx0
      walk_at "go"
      refine ⟨vh, rh, 8, 1000000, rfl, dp_mono s02 hh, l2, l4, ?_⟩
      cases eh : needRows rh 8 1000000 with
      | error e =>
        simp only [eh] at q
        exact XF.mono q s02
      | ok h =>
        simp only [eh] at q
        intro p' H3 hp' s3 hp3
        walk_at "go"
        have hx3 := s3 _ _ hx2
        refine ⟨x, C, dx, _, rfl, hx3, T.cl, T.n2, by show 1 < 1000; decide, ?_⟩
        rw [putF2]
        have npx' : p' ≠ x := fun z => by rw [z, hx2] at hp'; cases hp'
        refine q _ ((s02.trans s3).mut hx0) ⟨dx, p, p', upd_same, ?_, ?_⟩
        · rw [upd_ne npx]
          exact s3 _ _ hp2
        · rw [upd_ne npx']
          exact hp3
/-- a new list of the rows of a dict -/
def spRowsOf (K : PySem.W.Frag) (C : Addr) (pick : Days → Days → Days) : Sp := fun vs H Q _ => ∃ (a : Addr) (c h : Days), vs = [.ref a] ∧ WorldAt C H a c h ∧
  ∀ p xs H', H p = none → Same H H' → H' p = some (.lst xs) → DpAll K H' xs ((pick c h).map rowD) → Q (.ref p) H'
theorem items_dp {H' : Hp} : ∀ {ts : List Addr} {u : Days}, Paired (fun (t : Addr) (q : Key × V) => H' t = some (.tup [kV q.1, q.2])) ts (dayKV u) → DpAll K H' (ts.map V.ref) (u.map rowD)
  | [], [], _ => .nil
  | [], _ :: _, h => nomatch h
  | _ :: _, [], h => nomatch h
  | t :: ts, p :: u, .cons h r => .cons (row_dp (SqT.of h)) (items_dp r)
abbrev s_World_coin_rows : Stmt := inClass (topS 13) 1
abbrev N_World_coin_rows : List Str := ["self"]
abbrev P_World_coin_rows : List Str := ["self"]
theorem sc_World_coin_rows : FnScope N_World_coin_rows P_World_coin_rows (defScope s_World_coin_rows) := ⟨rfl, rfl, rfl, by decide +kernel, rfl, by decide +kernel, by decide +kernel⟩
theorem mtd_coin_rows {C : Addr} (F : Mdf K C "coin_rows" "World.coin_rows" s_World_coin_rows P_World_coin_rows []) (T : WorldC K C) (B : Blt mg) : Mtd P w K mg base 1 C "coin_rows" [] (spRowsOf K C fun c _ => c) := by
  refine F.mtd .nil sc_World_coin_rows (fun vs H Q E h => ?_) (fun f cdv A outer s H vs Q E hr hG h => ?_)
  · obtain ⟨a, c, h, rfl, _⟩ := h
    rfl
  · obtain ⟨a, c, h, rfl, ⟨dx, d1, d2, h1, h2, h3⟩, q⟩ := h
    have hu := hu_of hr
    have nd := sc_World_coin_rows.nd
    refine ⟨_, (pss_one (ps_ret (LiI.pe_listItems rfl (ue_fld (K := K) (pv 0) rfl) (by rfl) B.b_list (by decide +kernel)))), ?_⟩
    walk_at "go"
    refine g_fld (g_var rfl ⟨a, C, dx, _, _, rfl, h1, T.cl, T.n1, rfl, ?_⟩)
    refine ⟨d1, _, rfl, h2, fun H' p ts s1 hp _ _ hp1 hts => ?_⟩
    exact q p _ H' hp s1 hp1 (items_dp hts)

abbrev s_World_house_rows : Stmt := inClass (topS 13) 2
abbrev N_World_house_rows : List Str := ["self"]
abbrev P_World_house_rows : List Str := ["self"]
theorem sc_World_house_rows : FnScope N_World_house_rows P_World_house_rows (defScope s_World_house_rows) := ⟨rfl, rfl, rfl, by decide +kernel, rfl, by decide +kernel, by decide +kernel⟩
theorem mtd_house_rows {C : Addr} (F : Mdf K C "house_rows" "World.house_rows" s_World_house_rows P_World_house_rows []) (T : WorldC K C) (B : Blt mg) : Mtd P w K mg base 1 C "house_rows" [] (spRowsOf K C fun _ h => h) := by
  refine F.mtd .nil sc_World_house_rows (fun vs H Q E h => ?_) (fun f cdv A outer s H vs Q E hr hG h => ?_)
  · obtain ⟨a, c, h, rfl, _⟩ := h
    rfl
  · obtain ⟨a, c, h, rfl, ⟨dx, d1, d2, h1, h2, h3⟩, q⟩ := h
    have hu := hu_of hr
    have nd := sc_World_house_rows.nd
    refine ⟨_, (pss_one (ps_ret (LiI.pe_listItems rfl (ue_fld (K := K) (pv 0) rfl) (by rfl) B.b_list (by decide +kernel)))), ?_⟩
    walk_at "go"
    refine g_fld (g_var rfl ⟨a, C, dx, _, _, rfl, h1, T.cl, T.n2, rfl, ?_⟩)
    refine ⟨d2, _, rfl, h3, fun H' p ts s1 hp _ _ hp1 hts => ?_⟩
    exact q p _ H' hp s1 hp1 (items_dp hts)

/-! ### the law's own promise -/
def spLaw (K : PySem.W.Frag) : Sp := fun vs H Q _ => ∃ (a : Addr) (ns : List Int), vs = [.ref a] ∧ SqL K H a (ns.map V.int) ∧ ∀ H', Q (.bl true) H'
theorem cutV_take {xs : List V} {i : Int} (h : 0 ≤ i) : cutV xs none (some i) = xs.take i.toNat := by
  unfold cutV
  have e : HT.sIx xs.length xs.length (some i) = min i.toNat xs.length := by
    show (if i < 0 then _ else min i.toNat xs.length) = _
    rw [if_neg (by omega)]
  have e0 : HT.sIx xs.length 0 none = 0 := rfl
  rw [e, e0, List.drop_zero, Nat.sub_zero, List.take_eq_take_iff]
  omega
theorem cut_ints (ns : List Int) : cutV (ns.map V.int) none (some 63) = (ns.take 63).map V.int := by
  rw [cutV_take (by decide), List.map_take]
  rfl
theorem atI_strs {xs : List Str} {i : Int} (h0 : 0 ≤ i) (h : i < (xs.length : Int)) : ∃ x, xs[i.toNat]? = some x ∧ atI (xs.map V.str) i = some (.str x) := by
  have hl : i.toNat < xs.length := by omega
  refine ⟨xs[i.toNat], List.getElem?_eq_getElem hl, atI_of h0 ?_⟩
  rw [List.getElem?_map, List.getElem?_eq_getElem hl]
  rfl
theorem mod_ok (i : Int) {n : Int} (h : 0 < n) : 0 ≤ i % n ∧ i % n < n := ⟨Int.emod_nonneg _ (by omega), Int.emod_lt_of_pos _ h⟩

/-! ### _law_world -/
def coinVal (ns : List Int) (k : Int) (j : Nat) : Int :=
  let d := digs ns (k + (j : Int) % 2) [9000, 5, 7]
  [1000, 1 + d.getD 0 0, 1000000000, 1, 1 + d.getD 0 0 * 100000].getD ((d.getD 1 0 + j) % 5).toNat 0
def houseVal (ns : List Int) (k : Int) (j : Nat) : Int :=
  let d := digs ns (k + 1) [3, 100, 7]
  [100, 10 + d.getD 1 0 + j, 1000000, 7, 3].getD ((d.getD 0 0 + j * (1 + d.getD 2 0 % 3)) % 5).toNat 0
def coinRows (ns : List Int) (k : Int) (n : Nat) : List (Str × Int) := (List.range n).map fun j => ((names ns k n).getD j (sx []), coinVal ns k j)
def houseRows (ns : List Int) (k : Int) (n : Nat) : List (Str × Int) := (List.range n).map fun j => ((names ns (k + 1) n).getD j (sx []), houseVal ns k j)
theorem digs3 (ns : List Int) (k a b c : Int) (ha : 0 < a) (hb : 0 < b) (hc : 0 < c) : ∃ x y z, digs ns k [a, b, c] = [x, y, z] ∧ 0 ≤ x ∧ x < a ∧ 0 ≤ y ∧ y < b ∧ 0 ≤ z ∧ z < c := by
  have h := digs_in ns k [a, b, c] (by intro s hs; simp at hs; omega)
  obtain ⟨x, r, e1, x0, x1, h⟩ := h.next
  obtain ⟨y, r2, e2, y0, y1, h⟩ := h.next
  obtain ⟨z, e3, z0, z1⟩ := h.one
  exact ⟨x, y, z, by rw [e1, e2, e3], x0, x1, y0, y1, z0, z1⟩
theorem pick5 (a b c d e : Int) {i : Int} (h0 : 0 ≤ i) (h1 : i < 5) : atI [V.int a, V.int b, V.int c, V.int d, V.int e] i = some (.int ([a, b, c, d, e].getD i.toNat 0)) := by
  have h : i = 0 ∨ i = 1 ∨ i = 2 ∨ i = 3 ∨ i = 4 := by omega
  rcases h with rfl | rfl | rfl | rfl | rfl <;> rfl
theorem getD5 (P : Int → Prop) {a b c d e i : Int} (h0 : 0 ≤ i) (h1 : i < 5) (pa : P a) (pb : P b) (pc : P c) (pd : P d) (pe : P e) : P ([a, b, c, d, e].getD i.toNat 0) := by
  have h : i = 0 ∨ i = 1 ∨ i = 2 ∨ i = 3 ∨ i = 4 := by omega
  rcases h with rfl | rfl | rfl | rfl | rfl <;> assumption
theorem coinVal_ok (ns : List Int) (k : Int) (j : Nat) : 1 ≤ coinVal ns k j ∧ coinVal ns k j ≤ 1000000000 := by
  obtain ⟨x, y, z, e, x0, x1, y0, y1, z0, z1⟩ := digs3 ns (k + (j : Int) % 2) 9000 5 7 (by decide) (by decide) (by decide)
  unfold coinVal
  simp only [e, List.getD_cons_zero, List.getD_cons_succ]
  have m := mod_ok (y + j) (n := 5) (by decide)
  exact getD5 (fun v => 1 ≤ v ∧ v ≤ 1000000000) m.1 m.2 (by omega) (by omega) (by omega) (by omega) (by omega)
theorem houseVal_ok (ns : List Int) (k : Int) (j : Nat) (hj : j ≤ 1000) : 1 ≤ houseVal ns k j ∧ houseVal ns k j ≤ 1000000 := by
  obtain ⟨x, y, z, e, x0, x1, y0, y1, z0, z1⟩ := digs3 ns (k + 1) 3 100 7 (by decide) (by decide) (by decide)
  unfold houseVal
  simp only [e, List.getD_cons_zero, List.getD_cons_succ]
  have m := mod_ok (x + j * (1 + z % 3)) (n := 5) (by decide)
  exact getD5 (fun v => 1 ≤ v ∧ v ≤ 1000000) m.1 m.2 (by omega) (by omega) (by omega) (by omega) (by omega)
/-- rows as a world wants them -/
structure RowsOk (r : List (Str × Int)) (bound : Int) : Prop where
  nd : (r.map (·.1)).Nodup
  ok : ∀ p ∈ r, NameOk p.1 ∧ 1 ≤ p.2 ∧ p.2 ≤ bound
theorem map_getD {α β : Type} (f : Nat → α) (g : Nat → β) (n : Nat) : ((List.range n).map fun j => (f j, g j)).map (·.1) = (List.range n).map f := by
  rw [List.map_map]
  rfl
theorem range_getD {α : Type} (l : List α) (x : α) : (List.range l.length).map (fun j => l.getD j x) = l := by
  apply List.ext_getElem
  · simp
  · intro i h1 h2
    simp at h1
    simp [List.getD_eq_getElem?_getD, h1]
theorem rows_ok (ns : List Int) (k : Int) (n : Nat) (f : Nat → Int) (bound : Int) (hn : n ≤ 12) (hf : ∀ j, j < n → 1 ≤ f j ∧ f j ≤ bound) : RowsOk ((List.range n).map fun j => ((names ns k n).getD j (sx []), f j)) bound := by
  have hl := names_len ns k n
  obtain ⟨h1, h2⟩ := names_ok ns k n hn
  refine ⟨?_, ?_⟩
  · rw [map_getD]
    have e := range_getD (names ns k n) (sx [])
    rw [hl] at e
    rw [e]
    exact h1
  · intro p hp
    obtain ⟨j, hj, rfl⟩ := List.mem_map.mp hp
    have hj' := List.mem_range.mp hj
    have hg : (names ns k n)[j]? = some ((names ns k n).getD j (sx [])) := by
      rw [List.getD_eq_getElem?_getD, List.getElem?_eq_getElem (by omega)]
      rfl
    exact ⟨h2 _ (List.mem_of_getElem? hg), hf j hj'⟩
theorem coinRows_ok (ns : List Int) (k : Int) (n : Nat) (hn : n ≤ 12) : RowsOk (coinRows ns k n) 1000000000 := rows_ok ns k n _ _ hn fun j _ => coinVal_ok ns k j
theorem houseRows_ok (ns : List Int) (k : Int) (n : Nat) (hn : n ≤ 12) : RowsOk (houseRows ns k n) 1000000 := rows_ok ns (k + 1) n _ _ hn fun j h => houseVal_ok ns k j (by omega)
theorem coinRows_len (ns : List Int) (k : Int) (n : Nat) : (coinRows ns k n).length = n := by simp [coinRows]
theorem houseRows_len (ns : List Int) (k : Int) (n : Nat) : (houseRows ns k n).length = n := by simp [houseRows]
def spLawWorld (K : PySem.W.Frag) : Sp := fun vs H Q _ => ∃ (l : Addr) (ns : List Int) (k : Int) (nc nh : Nat), vs = [.ref l, .int k, .int nc, .int nh] ∧ SqL K H l (ns.map V.int) ∧ 0 ≤ k ∧ k < 800000 ∧ nc ≤ 12 ∧ nh ≤ 12 ∧
  ∀ t H', H t = none → Same H H' → Dp K H' (.ref t) (.tuple [rowsD (coinRows ns k nc), rowsD (houseRows ns k nh)]) → Q (.ref t) H'
theorem range_snoc {α : Type} (f : Nat → α) (n i : Nat) (h : i < n) : ((List.range n).map f).take (i + 1) = ((List.range n).map f).take i ++ [f i] := by
  refine take_snoc ?_
  rw [List.getElem?_map, List.getElem?_range h]
  rfl
theorem strs_getD {xs : List Str} {j : Nat} (h : j < xs.length) : atI (xs.map V.str) (0 + (j : Int)) = some (.str (xs.getD j (sx []))) := by
  refine atI_of (by omega) ?_
  rw [show ((0 : Int) + (j : Int)).toNat = j by omega, List.getElem?_map, List.getElem?_eq_getElem h, List.getD_eq_getElem?_getD, List.getElem?_eq_getElem h]
  rfl
abbrev s_law_world : Stmt := topS 18
abbrev N_law_world : List Str := ["_law_script", "_law_k", "_law_coins", "_law_houses", "_law_names_here", "_law_rows", "_law_j", "_law_rate", "_law_folk", "_law_made", "_law_shares"]
abbrev P_law_world : List Str := ["_law_script", "_law_k", "_law_coins", "_law_houses"]
theorem sc_law_world : FnScope N_law_world P_law_world (defScope s_law_world) := ⟨rfl, rfl, rfl, by decide +kernel, rfl, by decide +kernel, by decide +kernel⟩
theorem cal_law_world (F : Dfn K mg "_law_world" s_law_world P_law_world []) (B : Blt mg) (c__law_digits : Cal P w K mg base 2 "_law_digits" [] (spDigits K)) (c__law_names : Cal P w K mg base 3 "_law_names" [] (spNames K)) : Cal P w K mg base 4 "_law_world" [] (spLawWorld K) := by
  refine F.cal .nil sc_law_world (fun vs H Q E h => ?_) (fun f cdv A outer s H vs Q E hr hG h => ?_)
  · obtain ⟨l, ns, k, nc, nh, rfl, _⟩ := h
    rfl
  · obtain ⟨l, ns, k, nc, nh, rfl, hl, h0, h1, hnc, hnh, q⟩ := h
    have hu := hu_of hr
    have nd := sc_law_world.nd
    refine ⟨_, (pss_cons (ps_par (i := 4) (j := 5) (by rfl) nd rfl rfl (by decide) rfl rfl (pa_cons (ue_call c__law_names hr (by decide) hG (by rfl) PB (pa_cons (pv 0) (pa_cons (pv 1) (pa_cons (pv 2) pa_nil)))) (pa_cons (pe_lst pa_nil) pa_nil)) (by rfl))
      (pss_cons (ps_for PW rfl (pi_range1 (by rfl) B.b_range (pa_cons (pv 2) pa_nil)) (pg_name (i := 6) nd rfl (Or.inl rfl)) (pss_cons (ps_set (i := 7) nd rfl (Or.inl rfl) (ue_call c__law_digits hr (by decide) hG (by rfl) PB (pa_cons (pv 0) (pa_cons (pe_op uq_add (pv 1) (pe_op uq_mod (pv 6) pe_int)) (pa_cons (pe_lst (pa_cons pe_int (pa_cons pe_int (pa_cons pe_int pa_nil)))) pa_nil)))))
      (pss_one (ps_expr (ue_bm (K := K) PySem.F.plainAttrs_list PySem.F.slot_list_append PySem.F.type_list_append mt_append (pv 5) (pa_cons (pe_tup (pa_cons (pe_ix (uq_ix (K := K) hu) (pv 4) (pv 6) (fun _ _ => rfl)) (pa_cons (pe_ix (uq_ix (K := K) hu) (pe_lst (pa_cons pe_int (pa_cons (pe_op uq_add pe_int (pe_ix (uq_ix (K := K) hu) (pv 7) pe_int (fun _ _ => rfl))) (pa_cons pe_int (pa_cons pe_int (pa_cons (pe_op uq_add pe_int (pe_op uq_mul (pe_ix (uq_ix (K := K) hu) (pv 7) pe_int (fun _ _ => rfl)) pe_int)) pa_nil)))))) (pe_op uq_mod (pe_op uq_add (pe_ix (uq_ix (K := K) hu) (pv 7) pe_int (fun _ _ => rfl)) (pv 6)) pe_int) (fun _ _ => rfl)) pa_nil))) pa_nil))))))
      (pss_cons (ps_par (i := 8) (j := 9) (by rfl) nd rfl rfl (by decide) rfl rfl (pa_cons (ue_call c__law_names hr (by decide) hG (by rfl) PB (pa_cons (pv 0) (pa_cons (pe_op uq_add (pv 1) pe_int) (pa_cons (pv 3) pa_nil)))) (pa_cons (pe_lst pa_nil) pa_nil)) (by rfl))
      (pss_cons (ps_set (i := 10) nd rfl (Or.inl rfl) (ue_call c__law_digits hr (by decide) hG (by rfl) PB (pa_cons (pv 0) (pa_cons (pe_op uq_add (pv 1) pe_int) (pa_cons (pe_lst (pa_cons pe_int (pa_cons pe_int (pa_cons pe_int pa_nil)))) pa_nil)))))
      (pss_cons (ps_for PW rfl (pi_range1 (by rfl) B.b_range (pa_cons (pv 3) pa_nil)) (pg_name (i := 6) nd rfl (Or.inl rfl)) (pss_one (ps_expr (ue_bm (K := K) PySem.F.plainAttrs_list PySem.F.slot_list_append PySem.F.type_list_append mt_append (pv 9) (pa_cons (pe_tup (pa_cons (pe_ix (uq_ix (K := K) hu) (pv 8) (pv 6) (fun _ _ => rfl)) (pa_cons (pe_ix (uq_ix (K := K) hu) (pe_lst (pa_cons pe_int (pa_cons (pe_op uq_add (pe_op uq_add pe_int (pe_ix (uq_ix (K := K) hu) (pv 10) pe_int (fun _ _ => rfl))) (pv 6)) (pa_cons pe_int (pa_cons pe_int (pa_cons pe_int pa_nil)))))) (pe_op uq_mod (pe_op uq_add (pe_ix (uq_ix (K := K) hu) (pv 10) pe_int (fun _ _ => rfl)) (pe_op uq_mul (pv 6) (pe_op uq_add pe_int (pe_op uq_mod (pe_ix (uq_ix (K := K) hu) (pv 10) pe_int (fun _ _ => rfl)) pe_int)))) pe_int) (fun _ _ => rfl)) pa_nil))) pa_nil)))))
      (pss_one (ps_ret (pe_tup (pa_cons (pv 5) (pa_cons (pv 9) pa_nil)))))))))), ?_⟩
    walk_at "go"
    refine ⟨l, ns, k, nc, rfl, hl, h0, by omega, hnc, fun p H1 hp s1 hp1 => ?_⟩
    walk_at "go"
    refine ⟨sz_small (by simp), fun r hr' => ?_⟩
    generalize e2 : upd H1 r (.lst []) = H2
    obtain ⟨s2, hr2⟩ := newH hr' e2
    walk_at "go"
    have hlen := names_len ns k nc
    refine ⟨(nc : Int), rfl, by omega, by omega, ?_⟩
    refine for_range (lo := 0) (n := ((nc : Int)).toNat) (fun i σ H' => ∃ (xs : List V) (v6 v7 : Option V), Same H1 H' ∧ H' r = some (.lst xs) ∧ DpAll K (hid r H') xs (((coinRows ns k nc).take i).map rowD) ∧
        σ = [some (.ref l), some (.int k), some (.int nc), some (.int nh), some (.ref p), some (.ref r), v6, v7, none, none, none]) ⟨[], none, none, s2, hr2, .nil, rfl⟩ ?_ ?_
    · rintro i σ H3 hi ⟨xs, v6, v7, s3, hr3, hx3, rfl⟩
      have hi' : i < nc := by omega
      walk_at "go"
      refine ⟨sz_small (by simp), fun z hz => ?_⟩
      generalize e4 : upd H3 z (.lst [.int 9000, .int 5, .int 7]) = H4
      obtain ⟨s4, hz4⟩ := newH hz e4
      walk_at "go"
      obtain ⟨x, y, u, ed, x0, x1, y0, y1, u0, u1⟩ := digs3 ns (k + (i : Int) % 2) 9000 5 7 (by decide) (by decide) (by decide)
      have ei : k + (0 + (i : Int)) % 2 = k + (i : Int) % 2 := by rw [Int.zero_add]
      refine ⟨l, z, ns, k + (0 + (i : Int)) % 2, [9000, 5, 7], rfl, (s1.trans (s3.trans s4)).seq hl, SqL.of hz4, by omega, by omega, by decide, by decide, fun a H5 ha s5 ha5 => ?_⟩
      rw [ei, ed] at ha5
      have ha5' : SqL K H5 a [.int x, .int y, .int u] := SqL.of ha5
      walk_at "go"
      refine ⟨Or.inl ⟨rfl, _, SqL.of (s5 _ _ (s4 _ _ hr3))⟩, ?_⟩
      walk_at "go"
      refine i_ixL (SqL.of (s5 _ _ (s4 _ _ (s3 _ _ hp1)))) (strs_getD (by omega)) ?_
      walk_at "go"
      refine i_ixL ha5' rfl ?_
      walk_at "go"
      refine i_ixL ha5' rfl ?_
      walk_at "go"
      refine ⟨sz_small (by simp), fun b hb => ?_⟩
      generalize e6 : upd H5 b (.lst [.int 1000, .int (1 + x), .int 1000000000, .int 1, .int (1 + x * 100000)]) = H6
      obtain ⟨s6, hb6⟩ := newH hb e6
      walk_at "go"
      refine i_ixL (s6.seq ha5') rfl ?_
      walk_at "go"
      have m := mod_ok (y + (0 + (i : Int))) (n := 5) (by decide)
      refine i_ixL (SqL.of hb6) (pick5 1000 (1 + x) 1000000000 1 (1 + x * 100000) m.1 m.2) ?_
      have ev : [1000, 1 + x, 1000000000, 1, 1 + x * 100000].getD ((y + (0 + (i : Int))) % 5).toNat 0 = coinVal ns k i := by
        unfold coinVal
        simp only [ed, Int.zero_add]
        rfl
      rw [ev]
      walk_at "go"
      refine ⟨sz_small (by simp), fun t ht => ?_⟩
      generalize e7 : upd H6 t (.tup [.str ((names ns k nc).getD i (sx [])), .int (coinVal ns k i)]) = H7
      obtain ⟨s7, ht7⟩ := newH ht e7
      have s37 : Same H3 H7 := s4.trans (s5.trans (s6.trans s7))
      have hr7 := s37 _ _ hr3
      have ntr : t ≠ r := fun z => by
        have q := (s4.trans (s5.trans s6)) _ _ hr3
        rw [← z, ht] at q
        cases q
      have hxl : xs.length = i := by
        rw [dpAll_len hx3, List.length_map, List.length_take, coinRows_len]
        omega
      walk_at "go"
      refine i_append hr7 (sz_small' (by omega)) ?_
      walk_at "go"
      refine ⟨xs ++ [.ref t], _, _, (s3.trans s37).mut hr', upd_same, ?_, rfl⟩
      rw [hid_upd]
      have er : (coinRows ns k nc).take (i + 1) = (coinRows ns k nc).take i ++ [((names ns k nc).getD i (sx []), coinVal ns k i)] := range_snoc _ nc i hi'
      rw [er, List.map_append]
      exact dpAll_snoc (dpAll_mono (hid_same s37) hx3) (row_dp (SqT.of (hid_of ntr ht7)))
    · rintro σ H3 ⟨xs, v6, v7, s3, hr3, hx3, rfl⟩
      rw [show ((nc : Int)).toNat = nc by omega, List.take_of_length_le (by rw [coinRows_len]; exact Nat.le_refl _)] at hx3
      walk_at "go"
      refine ⟨l, ns, k + 1, nh, rfl, (s1.trans s3).seq hl, by omega, by omega, hnh, fun p' H4 hp' s4 hp4 => ?_⟩
      have hlen' := names_len ns (k + 1) nh
      walk_at "go"
      refine ⟨sz_small (by simp), fun m hm => ?_⟩
      generalize e5 : upd H4 m (.lst []) = H5
      obtain ⟨s5, hm5⟩ := newH hm e5
      walk_at "go"
      refine ⟨sz_small (by simp), fun z hz => ?_⟩
      generalize e6 : upd H5 z (.lst [.int 3, .int 100, .int 7]) = H6
      obtain ⟨s6, hz6⟩ := newH hz e6
      walk_at "go"
      obtain ⟨x, y, u, ed, x0, x1, y0, y1, u0, u1⟩ := digs3 ns (k + 1) 3 100 7 (by decide) (by decide) (by decide)
      refine ⟨l, z, ns, k + 1, [3, 100, 7], rfl, (s1.trans (s3.trans (s4.trans (s5.trans s6)))).seq hl, SqL.of hz6, by omega, by omega, by decide, by decide, fun a H7 ha s7 ha7 => ?_⟩
      rw [ed] at ha7
      have ha7' : SqL K H7 a [.int x, .int y, .int u] := SqL.of ha7
      -- what stands: all but m
      have nam : a ≠ m := fun z => by
        rw [z, s6 _ _ hm5] at ha
        cases ha
      have s47 : Same H4 (hid m H7) := hid_base (s5.trans (s6.trans s7)) hm
      have haG : SqL K (hid m H7) a [.int x, .int y, .int u] := SqL.of (hid_of nam ha7)
      have s17 : Same H1 H7 := s3.trans (s4.trans (s5.trans (s6.trans s7)))
      walk_at "go"
      refine ⟨(nh : Int), rfl, by omega, by omega, ?_⟩
      refine for_range (lo := 0) (n := ((nh : Int)).toNat) (fun i σ H' => ∃ (ys : List V) (w6 : Option V), Same (hid m H7) H' ∧ H' m = some (.lst ys) ∧ DpAll K (hid m H') ys (((houseRows ns k nh).take i).map rowD) ∧
        σ = [some (.ref l), some (.int k), some (.int nc), some (.int nh), some (.ref p), some (.ref r), w6, v7, some (.ref p'), some (.ref m), some (.ref a)]) ⟨[], v6, hid_up, s7 _ _ (s6 _ _ hm5), .nil, rfl⟩ ?_ ?_
      · rintro i σ H8 hi ⟨ys, w6, s8, hm8, hy8, rfl⟩
        have hi' : i < nh := by omega
        have ha8 := s8.seq haG
        walk_at "go"
        refine ⟨Or.inl ⟨rfl, _, SqL.of hm8⟩, ?_⟩
        walk_at "go"
        refine i_ixL (SqL.of (s8 _ _ (s47 _ _ hp4))) (strs_getD (by omega)) ?_
        walk_at "go"
        refine i_ixL ha8 rfl ?_
        walk_at "go"
        refine ⟨sz_small (by simp), fun b hb => ?_⟩
        generalize e9 : upd H8 b (.lst [.int 100, .int (10 + y + (0 + (i : Int))), .int 1000000, .int 7, .int 3]) = H9
        obtain ⟨s9, hb9⟩ := newH hb e9
        walk_at "go"
        refine i_ixL (s9.seq ha8) rfl ?_
        walk_at "go"
        refine i_ixL (s9.seq ha8) rfl ?_
        walk_at "go"
        have mm := mod_ok (x + (0 + (i : Int)) * (1 + u % 3)) (n := 5) (by decide)
        refine i_ixL (SqL.of hb9) (pick5 100 (10 + y + (0 + (i : Int))) 1000000 7 3 mm.1 mm.2) ?_
        have ev : [100, 10 + y + (0 + (i : Int)), 1000000, 7, 3].getD ((x + (0 + (i : Int)) * (1 + u % 3)) % 5).toNat 0 = houseVal ns k i := by
          unfold houseVal
          simp only [ed, Int.zero_add]
          rfl
        rw [ev]
        walk_at "go"
        refine ⟨sz_small (by simp), fun t ht => ?_⟩
        generalize e10 : upd H9 t (.tup [.str ((names ns (k + 1) nh).getD i (sx [])), .int (houseVal ns k i)]) = H10
        obtain ⟨s10, ht10⟩ := newH ht e10
        have s810 : Same H8 H10 := s9.trans s10
        have hm10 := s810 _ _ hm8
        have ntm : t ≠ m := fun z => by
          have q := s9 _ _ hm8
          rw [← z, ht] at q
          cases q
        have hyl : ys.length = i := by
          rw [dpAll_len hy8, List.length_map, List.length_take, houseRows_len]
          omega
        walk_at "go"
        refine i_append hm10 (sz_small' (by omega)) ?_
        walk_at "go"
        have hmG : hid m H7 m = none := by unfold hid; rw [if_pos rfl]
        refine ⟨ys ++ [.ref t], _, (s8.trans s810).mut hmG, upd_same, ?_, rfl⟩
        rw [hid_upd]
        have er : (houseRows ns k nh).take (i + 1) = (houseRows ns k nh).take i ++ [((names ns (k + 1) nh).getD i (sx []), houseVal ns k i)] := range_snoc _ nh i hi'
        rw [er, List.map_append]
        exact dpAll_snoc (dpAll_mono (hid_same s810) hy8) (row_dp (SqT.of (hid_of ntm ht10)))
      · rintro σ H8 ⟨ys, w6, s8, hm8, hy8, rfl⟩
        rw [show ((nh : Int)).toNat = nh by omega, List.take_of_length_le (by rw [houseRows_len]; exact Nat.le_refl _)] at hy8
        walk_at "go"
        refine ⟨sz_small (by simp), fun t ht => ?_⟩
        generalize e9 : upd H8 t (.tup [.ref r, .ref m]) = H9
        obtain ⟨s9, ht9⟩ := newH ht e9
        have s34 : Same H3 H8 := (s4.trans s47).trans s8
        have s18 : Same H1 H9 := (s3.trans s34).trans s9
        refine q t H9 ((s1.trans (s3.trans s34)).free ht) (s1.trans s18) (.tup (SqT.of ht9) (.cons (.lst (SqL.of (s9 _ _ (s34 _ _ hr3))) (dpAll_mono (hid_up.trans (s34.trans s9)) hx3)) (.cons (.lst (SqL.of (s9 _ _ hm8)) (dpAll_mono (hid_up.trans s9) hy8)) .nil)))

/-! ### _law_same, of data without dicts -/
def SameOk (d : PyData) : Prop := SeqAt.shaped d = true ∧ d.showable = true ∧ d.shown.length ≤ sizeLine ∧ d.depth ≤ 40
def spSame (K : PySem.W.Frag) : Sp := fun vs H Q _ => ∃ (x y : V) (d : PyData), vs = [x, y] ∧ Dp K H x d ∧ Dp K H y d ∧ SameOk d ∧ Q (.bl true) H
theorem same_bool (b : Bool) : SameOk (.bool b) := by
  cases b <;> exact ⟨by decide, by decide, by decide, by decide⟩
theorem ty_seqL {H : Hp} {a : Addr} {xs : List V} (h : SqL K H a xs) : TyX K H (.ref a) (.type "list") := by
  rcases h with h | ⟨o, its, n, h1, h2, _⟩
  · rcases h with h | ⟨o, h⟩
    · exact .base (.lst h)
    · exact .base (.frz h)
  · exact .kList h1 h2
theorem ty_seqT {H : Hp} {a : Addr} {xs : List V} (h : SqT K H a xs) : TyX K H (.ref a) (.type "tuple") := by
  rcases h with h | ⟨o, its, n, h1, h2, _⟩
  · rcases h with h | ⟨o, h⟩
    · exact .base (.tup h)
    · exact .fTuple h
  · exact .kTuple h1 h2
theorem ty_noDict {H : Hp} {y : V} {d : PyData} (h : Dp K H y d) : ∃ n, TyX K H y (.type n) ∧ kitB n "dict" = some false := by
  cases h with
  | non => exact ⟨"NoneType", .base .non, by decide +kernel⟩
  | bl b => exact ⟨"bool", .base (.bl b), by decide +kernel⟩
  | int i => exact ⟨"int", .base (.int i), by decide +kernel⟩
  | str x => exact ⟨"str", .base (.str x), by decide +kernel⟩
  | lst h1 h2 => exact ⟨"list", ty_seqL h1, by decide +kernel⟩
  | tup h1 h2 => exact ⟨"tuple", ty_seqT h1, by decide +kernel⟩
abbrev s_law_same : Stmt := topS 19
abbrev N_law_same : List Str := ["_law_one", "_law_other"]
abbrev P_law_same : List Str := ["_law_one", "_law_other"]
theorem sc_law_same : FnScope N_law_same P_law_same (defScope s_law_same) := ⟨rfl, rfl, rfl, by decide +kernel, rfl, by decide +kernel, by decide +kernel⟩
theorem cal_law_same (F : Dfn K mg "_law_same" s_law_same P_law_same []) (B : Blt mg) : Cal P w K mg base 1 "_law_same" [] (spSame K) := by
  refine F.cal .nil sc_law_same (fun vs H Q E h => ?_) (fun f cdv A outer s H vs Q E hr hG h => ?_)
  · obtain ⟨x, y, d, rfl, _⟩ := h
    rfl
  · obtain ⟨x, y, d, rfl, hx, hy, ⟨h1, h2, h3, h4⟩, q⟩ := h
    have hu := hu_of hr
    have nd := sc_law_same.nd
    obtain ⟨n, ty, kt⟩ := ty_noDict hy
    refine ⟨_, (pss_cons (ps_if (ut_truth (K := K) (pe_callB (uc_isinstance (K := K)) (by rfl) B.b_isinstance (by decide +kernel) (pa_cons (pv 1) (pa_cons (pe_bltn (v := .ty "dict") (u := .type "dict") (by rfl) B.b_dict (by decide +kernel) rfl) pa_nil)))) pss_never pss_nil)
      (pss_one (ps_ret (pe_and (pe_cmpR (uq_eq (K := K) hr) (pv 0) (pv 1) (nomark _)) (pe_one (pe_cmpR (uq_eq (K := K) hr) (pe_callB (uc_repr (K := K) hr hG) (by rfl) B.b_repr (by decide +kernel) (pa_cons (pv 0) pa_nil)) (pe_callB (uc_repr (K := K) hr hG) (by rfl) B.b_repr (by decide +kernel) (pa_cons (pv 1) pa_nil)) (nomark _))))))), ?_⟩
    walk_at "go"
    refine ⟨y, .ty "dict", .type n, .type "dict", false, rfl, .ty _, ty, kit_ty kt, ?_⟩
    walk_at "go"
    refine i_eqD hx hy h1 h1 ?_
    rw [SeqAt.eqv_refl d (SeqAt.canLay_of_shaped h1)]
    walk_at "go"
    refine i_repr hx h2 h3 h4 ?_
    walk_at "go"
    refine i_repr hy h2 h3 h4 ?_
    walk_at "go"
    rw [decide_eq_true rfl]
    exact q

/-! ### data that shows -/
structure Good (d : PyData) (n k : Nat) : Prop where
  lay : d.canLay0 = true
  shw : d.showable = true
  len : d.shown.length ≤ n
  dep : d.depth ≤ k
theorem Good.same {d : PyData} {n k : Nat} (g : Good d n k) (hn : n ≤ 16000000) (hk : k ≤ 40) : SameOk d :=
  ⟨by unfold SeqAt.shaped; rw [g.lay, decide_eq_true (by have := g.dep; omega)]; rfl, g.shw, Nat.le_trans g.len (Nat.le_trans hn (by decide)), Nat.le_trans g.dep hk⟩
theorem Good.mono {d : PyData} {n m k j : Nat} (g : Good d n k) (hn : n ≤ m) (hk : k ≤ j) : Good d m j := ⟨g.lay, g.shw, Nat.le_trans g.len hn, Nat.le_trans g.dep hk⟩
theorem good_int {i : Int} {k : Nat} (h : i.natAbs < 2 ^ k) (h0 : 0 < k) (hk : k ≤ 1920) : Good (.int i) (k + 1) 0 := by
  have hl : i.natAbs.log2 < k := by
    by_cases hz : i.natAbs = 0
    · rw [hz]; simpa using h0
    · exact (Nat.log2_lt hz).mpr h
  refine ⟨rfl, ?_, ?_, Nat.le_refl _⟩
  · show decide (i.natAbs.log2 < 1920) = true
    exact decide_eq_true (by omega)
  · show (Str.ofString (toString i)).length ≤ k + 1
    rw [PySem.ofString_length]
    exact int_text_length_le h0 hl
theorem good_none : Good .none 4 0 := ⟨rfl, rfl, by decide, Nat.le_refl _⟩
theorem good_bool (b : Bool) : Good (.bool b) 5 0 := by cases b <;> exact ⟨rfl, rfl, by decide, Nat.le_refl _⟩
/-- ASCII texts -/
def Asc (s : Str) : Prop := ∀ c ∈ s.cps.toList, c < 128
theorem good_str {s : Str} {m : Nat} (h : s.length ≤ m) (ha : Asc s) : Good (.str s) (10 * m + 2) 0 := by
  refine ⟨?_, rfl, ?_, Nat.le_refl _⟩
  · show PyData.strOk s = true
    unfold PyData.strOk
    rw [Array.all_eq_true']
    intro c hc
    have := ha c (by simpa using hc)
    simp
    omega
  · have := PySem.StrLaws.reprText_len s (fun c hc => Nat.lt_of_lt_of_le (ha c hc) (by decide))
    show (reprText s).length ≤ _
    omega
theorem name_asc {s : Str} (h : NameOk s) : Asc s := fun c hc => by
  have := h.2.2 c hc
  omega
theorem good_name {s : Str} (h : NameOk s) : Good (.str s) 62 0 := good_str h.2.1 (name_asc h)
theorem goodAll {n k : Nat} : ∀ {ds : List PyData}, (∀ d ∈ ds, Good d n k) → PyData.canLayAll0 ds = true ∧ PyData.showableAll ds = true ∧ PyData.depthAll ds ≤ k ∧ (∀ t ∈ PyData.shownAll ds, t.length ≤ n) ∧ (PyData.shownAll ds).length = ds.length
  | [], _ => ⟨rfl, rfl, Nat.zero_le _, by simp [PyData.shownAll], rfl⟩
  | d :: ds, h => by
    obtain ⟨h1, h2, h3, h4, h5⟩ := goodAll (fun x hx => h x (List.mem_cons_of_mem _ hx))
    have g := h d List.mem_cons_self
    refine ⟨by simp [PyData.canLayAll0, g.lay, h1], by simp [PyData.showableAll, g.shw, h2], ?_, ?_, by simp [PyData.shownAll, h5]⟩
    · have := g.dep
      simp only [PyData.depthAll]
      omega
    · intro t ht
      simp only [PyData.shownAll] at ht
      rcases List.mem_cons.mp ht with e | ht
      · rw [e]; exact g.len
      · exact h4 t ht
theorem textFrom_le {n : Nat} : ∀ (ts : List Str) (k : Nat) (acc : Str), (∀ t ∈ ts, t.length ≤ n) → (textFrom k acc ts).length ≤ acc.length + ts.length * (n + 2)
  | [], _, acc, _ => by show acc.length ≤ _; omega
  | t :: r, k, acc, h => by
    have ih := textFrom_le r (k + 1) (acc ++ (if k > 0 then ", " else "" : String) ++ t) (fun x hx => h x (List.mem_cons_of_mem _ hx))
    have e : (acc ++ (if k > 0 then ", " else "" : String) ++ t).length = acc.length + (if k > 0 then 2 else 0) + t.length := by
      rw [strLen_append, strLen_append]
      split <;> rfl
    have ht := h t List.mem_cons_self
    show (textFrom (k + 1) (acc ++ (if k > 0 then ", " else "" : String) ++ t) r).length ≤ _
    rw [List.length_cons, Nat.succ_mul]
    have e1 : (if k > 0 then 2 else 0) ≤ 2 := by split <;> omega
    omega
theorem good_list {ds : List PyData} {n k m : Nat} (h : ∀ d ∈ ds, Good d n k) (hm : ds.length ≤ m) : Good (.list ds) (m * (n + 2) + 2) (k + 1) := by
  obtain ⟨h1, h2, h3, h4, h5⟩ := goodAll h
  refine ⟨by simpa [PyData.canLay0] using h1, by simpa [PyData.showable] using h2, ?_, by simp only [PyData.depth]; omega⟩
  simp only [PyData.shown]
  unfold listText
  rw [strLen_append]
  have := textFrom_le (PyData.shownAll ds) 0 "[" h4
  rw [h5] at this
  have e1 : ((("[" : String) : Str)).length = 1 := rfl
  have e2 : ((("]" : String) : Str)).length = 1 := rfl
  have := Nat.mul_le_mul_right (n + 2) hm
  omega
theorem piled_le {n : Nat} : ∀ ts : List Str, (∀ t ∈ ts, t.length ≤ n) → piled ts ≤ ts.length * (n + 2)
  | [], _ => by simp [piled]
  | t :: r, h => by
    have ih := piled_le r (fun x hx => h x (List.mem_cons_of_mem _ hx))
    have ht := h t List.mem_cons_self
    have e : piled (t :: r) = t.length + 2 + piled r := by simp [piled]
    rw [e, List.length_cons, Nat.succ_mul]
    omega
theorem good_tuple {ds : List PyData} {n k m : Nat} (h : ∀ d ∈ ds, Good d n k) (hm : ds.length ≤ m) : Good (.tuple ds) (m * (n + 2) + 3) (k + 1) := by
  obtain ⟨h1, h2, h3, h4, h5⟩ := goodAll h
  refine ⟨by simpa [PyData.canLay0] using h1, by simpa [PyData.showable] using h2, ?_, by simp only [PyData.depth]; omega⟩
  simp only [PyData.shown]
  unfold tupleText
  rw [strLen_append, strLen_append]
  have hj : (Str.join ", " (PyData.shownAll ds)).length ≤ piled (PyData.shownAll ds) := by
    by_cases hn : PyData.shownAll ds = []
    · rw [hn]; exact Nat.zero_le _
    · have := join_length_add _ hn
      omega
  have hp := piled_le _ h4
  rw [h5] at hp
  have e1 : ((("(" : String) : Str)).length = 1 := rfl
  have e2 : (((if (PyData.shownAll ds).length == 1 then ",)" else ")" : String) : Str)).length ≤ 2 := by split <;> decide
  have := Nat.mul_le_mul_right (n + 2) hm
  omega
theorem pow_small {i : Int} {k : Nat} (h1 : -(2 ^ k : Int) < i) (h2 : i < 2 ^ k) : i.natAbs < 2 ^ k := by
  have e : ((2 ^ k : Nat) : Int) = (2 : Int) ^ k := by simp
  omega

/-! ### rows that make a world -/
theorem dayAt_none {u : Days} {x : Str} (h : x ∉ u.map (·.1)) : dayAt u x = none := by
  unfold dayAt
  rw [List.find?_eq_none.mpr]
  · rfl
  · intro p hp
    simp only [decide_eq_true_eq]
    intro e
    exact h (List.mem_map.mpr ⟨p, hp, e⟩)
theorem rowsLoop_ok {bound : Int} : ∀ (r : List (Str × Int)) (u : Days), ((u ++ r).map (·.1)).Nodup → (∀ p ∈ r, NameOk p.1 ∧ 1 ≤ p.2 ∧ p.2 ≤ bound) → rowsLoop bound r u = .ok (u ++ r)
  | [], u, _, _ => by rw [List.append_nil]; rfl
  | (n, k) :: r, u, hn, h => by
    obtain ⟨h1, h2, h3⟩ := h (n, k) List.mem_cons_self
    have hn' : n ∉ u.map (·.1) := fun hu => by
      rw [List.map_append, List.map_cons, List.nodup_append] at hn
      exact hn.2.2 n hu n List.mem_cons_self rfl
    unfold rowsLoop
    rw [if_neg (by rw [isName_iff.mpr h1]; decide), dayAt_none hn', if_neg (by decide), if_pos ⟨h2, h3⟩]
    have e : u ++ (n, k) :: r = (u ++ [(n, k)]) ++ r := by simp
    rw [e] at hn ⊢
    exact rowsLoop_ok r _ hn fun p hp => h p (List.mem_cons_of_mem _ hp)
theorem needRows_ok {r : List (Str × Int)} {bound : Int} {most : Int} (h : RowsOk r bound) (h1 : 1 ≤ r.length) (h2 : (r.length : Int) ≤ most) : needRows r most bound = .ok r := by
  unfold needRows
  rw [if_pos ⟨by omega, h2⟩, rowsLoop_ok r [] (by simpa using h.nd) h.ok]
  rfl
structure WRows (c h : List (Str × Int)) : Prop where
  rc : RowsOk c 1000000000
  rh : RowsOk h 1000000
  c1 : 1 ≤ c.length
  c2 : c.length ≤ 5
  h1 : 1 ≤ h.length
  h2 : h.length ≤ 8
theorem WRows.need {c h : List (Str × Int)} (W : WRows c h) : needWorld c h = .ok (c, h) := by
  have e1 : needRows c 5 1000000000 = .ok c := needRows_ok W.rc W.c1 (by have := W.c2; omega)
  have e2 : needRows h 8 1000000 = .ok h := needRows_ok W.rh W.h1 (by have := W.h2; omega)
  unfold needWorld
  rw [e1]
  simp only [e2]
theorem wrows (ns : List Int) (k : Int) {n m : Nat} (hn1 : 1 ≤ n) (hn : n ≤ 5) (hm1 : 1 ≤ m) (hm : m ≤ 8) : WRows (coinRows ns k n) (houseRows ns k m) :=
  ⟨coinRows_ok ns k n (by omega), houseRows_ok ns k m (by omega), by rw [coinRows_len]; omega, by rw [coinRows_len]; omega, by rw [houseRows_len]; omega, by rw [houseRows_len]; omega⟩
theorem RowsOk.len6 {r : List (Str × Int)} {b : Int} (h : RowsOk r b) : ∀ p ∈ r, p.1.length ≤ 1000000 := fun p hp => by
  have := (h.ok p hp).1.2.1
  omega
/-- a world is made of right rows -/
theorem make_world {C : Addr} {cx : Str → Addr} {H : Hp} {vc vh : V} {c h : List (Str × Int)} {R : Hp → Prop} {E : XK} {x dx : Addr} (W : WRows c h) (hc : Dp K H vc (rowsD c)) (hh : Dp K H vh (rowsD h)) (hx : H x = none) (hdx : H dx = none) (hne : dx ≠ x)
    (q : ∀ H', Same H H' → WorldAt C H' x c h → R H') : spWorldInit K C cx (.ref x :: ([vc, vh] ++ [])) (upd (upd H dx (.own x)) x (.ins C dx [])) (fun v H2 => v = .non ∧ R H2) E := by
  have hs : Same H (upd (upd H dx (.own x)) x (.ins C dx [])) := ((Same.refl H).mut hdx).mut hx
  refine ⟨x, dx, H, vc, vh, c, h, rfl, hs, hx, upd_same, hc, hh, by have := W.c2; omega, by have := W.h2; omega, W.rc.len6, W.rh.len6, ?_⟩
  rw [W.need]
  exact fun H' s' w' => ⟨rfl, q H' s' w'⟩
theorem good_row {p : Str × Int} {b : Int} (h : NameOk p.1 ∧ 1 ≤ p.2 ∧ p.2 ≤ b) (hb : b ≤ 1000000000) : Good (rowD p) 200 1 := by
  refine (good_tuple (n := 62) (k := 0) (m := 2) (fun d hd => ?_) (Nat.le_refl _)).mono (by decide) (by decide)
  have hd' : d = .str p.1 ∨ d = .int p.2 := by simpa using hd
  rcases hd' with rfl | rfl
  · exact good_name h.1
  · exact (good_int (k := 40) (by have : p.2.natAbs < 2 ^ 40 := by (have : (2 : Nat) ^ 40 = 1099511627776 := rfl); omega
                                  exact this) (by decide) (by decide)).mono (by decide) (by decide)
theorem good_rows {r : List (Str × Int)} {b : Int} (h : RowsOk r b) (hb : b ≤ 1000000000) (hl : r.length ≤ 12) : Good (rowsD r) 3000 2 := by
  refine (good_list (n := 200) (k := 1) (m := 12) (fun d hd => ?_) (by rw [List.length_map]; exact hl)).mono (by decide) (by decide)
  obtain ⟨p, hp, rfl⟩ := List.mem_map.mp hd
  exact good_row (h.ok p hp) hb

theorem digs5 (ns : List Int) (k a b c d e : Int) (ha : 0 < a) (hb : 0 < b) (hc : 0 < c) (hd : 0 < d) (he : 0 < e) : ∃ x y z u v, digs ns k [a, b, c, d, e] = [x, y, z, u, v] ∧ 0 ≤ x ∧ x < a ∧ 0 ≤ y ∧ y < b ∧ 0 ≤ z ∧ z < c ∧ 0 ≤ u ∧ u < d ∧ 0 ≤ v ∧ v < e := by
  have h := digs_in ns k [a, b, c, d, e] (by intro s hs; simp at hs; omega)
  obtain ⟨x, r, e1, x0, x1, h⟩ := h.next
  obtain ⟨y, r2, e2, y0, y1, h⟩ := h.next
  obtain ⟨z, r3, e3, z0, z1, h⟩ := h.next
  obtain ⟨u, r4, e4, u0, u1, h⟩ := h.next
  obtain ⟨v, e5, v0, v1⟩ := h.one
  exact ⟨x, y, z, u, v, by rw [e1, e2, e3, e4, e5], x0, x1, y0, y1, z0, z1, u0, u1, v0, v1⟩
theorem dp_pair {H : Hp} {t : Addr} {a b : PyData} (h : Dp K H (.ref t) (.tuple [a, b])) : ∃ x y, SqT K H t [x, y] ∧ Dp K H x a ∧ Dp K H y b := by
  obtain ⟨t', xs, e, h1, h2⟩ := dp_tuple h
  cases e
  cases h2 with
  | cons a1 r =>
    cases r with
    | cons b1 r2 =>
      cases r2
      exact ⟨_, _, h1, a1, b1⟩
theorem WorldAt.hidL {C a : Addr} {H : Hp} {ps : List Addr} {c h : Days} (hl : ∀ p ∈ ps, ∃ xs, H p = some (.lst xs)) (W : WorldAt C H a c h) : WorldAt C (hidL ps H) a c h := by
  obtain ⟨dx, d1, d2, h1, h2, h3⟩ := W
  exact ⟨dx, d1, d2, hidL_no hl (fun _ e => nomatch e) h1, hidL_no hl (fun _ e => nomatch e) h2, hidL_no hl (fun _ e => nomatch e) h3⟩
abbrev s_law : Stmt := topS 20
abbrev N_law : List Str := ["_law_script", "_law_many", "_law_folk", "_law_other_many", "_law_other_folk", "_law_alike", "_law_one_rows", "_law_two_rows", "_law_handed", "_law_one", "_law_two", "_law_rows", "_law_k", "_law_seen"]
abbrev P_law : List Str := ["_law_script"]
theorem sc_law : FnScope N_law P_law (defScope s_law) := ⟨rfl, rfl, rfl, by decide +kernel, rfl, by decide +kernel, by decide +kernel⟩
theorem fn_law {C : Addr} {cx : Str → Addr} {fa : Addr} {fd : FuncData} (F : Src K "law" "law" s_law fa fd) (B : Blt mg) (T : WorldC K C) (c__law_digits : Cal P w K mg base 2 "_law_digits" [] (spDigits K)) (c__law_world : Cal P w K mg base 4 "_law_world" [] (spLawWorld K))
    (c__law_same : Cal P w K mg base 1 "_law_same" [] (spSame K)) (m_World_2 : Mkr P w K mg base 4 "World" C [] (spWorldInit K C cx)) (t_World_coin_rows : Mtd P w K mg base 1 C "coin_rows" [] (spRowsOf K C fun c _ => c)) (t_World_house_rows : Mtd P w K mg base 1 C "house_rows" [] (spRowsOf K C fun _ h => h)) : Fn P w K mg base 6 fa fd P_law (spLaw K) := by
  refine F.fn sc_law (fun vs H Q E h => ?_) (fun cdv A outer s H vs Q E hr hG h => ?_)
  · obtain ⟨a, ns, rfl, _⟩ := h
    rfl
  · obtain ⟨a, ns0, rfl, ha, q⟩ := h
    have hu := hu_of hr
    have nd := sc_law.nd
    refine ⟨_, (pss_cons (ps_set (i := 0) nd rfl (Or.inl rfl) (pe_slice (uq_sl (K := K)) (pv 0) po_none (po_some pe_int)))
      (pss_cons (ps_asg (ue_call c__law_digits hr (by decide) hG (by rfl) PB (pa_cons (pv 0) (pa_cons pe_int (pa_cons (pe_lst (pa_cons pe_int (pa_cons pe_int (pa_cons pe_int (pa_cons pe_int (pa_cons pe_int pa_nil)))))) pa_nil)))) (ug_seq (K := K) (n := 5) rfl (pgs_cons (pg_name (i := 1) nd rfl (Or.inl rfl)) (pgs_cons (pg_name (i := 2) nd rfl (Or.inl rfl)) (pgs_cons (pg_name (i := 3) nd rfl (Or.inl rfl)) (pgs_cons (pg_name (i := 4) nd rfl (Or.inl rfl)) (pgs_cons (pg_name (i := 5) nd rfl (Or.inl rfl)) pgs_nil)))))))
      (pss_cons (ps_set (i := 6) nd rfl (Or.inl rfl) (ue_call c__law_world hr (by decide) hG (by rfl) PB (pa_cons (pv 0) (pa_cons pe_int (pa_cons (pe_op uq_add pe_int (pv 1)) (pa_cons (pe_op uq_add pe_int (pv 2)) pa_nil))))))
      (pss_cons (ps_set (i := 7) nd rfl (Or.inl rfl) (ue_call c__law_world hr (by decide) hG (by rfl) PB (pa_cons (pv 0) (pa_cons pe_int (pa_cons (pe_op uq_add pe_int (pv 3)) (pa_cons (pe_op uq_add pe_int (pv 4)) pa_nil))))))
      (Evl.pss_cut (ps_if (pt_cmpR (uq_eq (K := K) hr) (pv 5) pe_int (nomark _)) (pss_one (ps_set (i := 7) nd rfl (Or.inl rfl) (pe_tup (pa_cons (pe_ix (uq_ix (K := K) hu) (pv 7) pe_int (fun _ _ => rfl)) (pa_cons (pe_lst (pa_cons (pe_tup (pa_cons (pe_ix (uq_ix (K := K) hu) (pe_ix (uq_ix (K := K) hu) (pe_ix (uq_ix (K := K) hu) (pv 7) pe_int (fun _ _ => rfl)) pe_int (fun _ _ => rfl)) pe_int (fun _ _ => rfl)) (pa_cons pe_int pa_nil))) pa_nil)) pa_nil))))) pss_nil)
      (pss_cons (ps_set (i := 8) nd rfl (Or.inl rfl) (pe_lst (pa_cons (pe_callTy (uc_list (K := K)) (by rfl) B.b_list (by decide +kernel) (pa_cons (pe_ix (uq_ix (K := K) hu) (pv 6) pe_int (fun _ _ => rfl)) pa_nil)) (pa_cons (pe_callTy (uc_list (K := K)) (by rfl) B.b_list (by decide +kernel) (pa_cons (pe_ix (uq_ix (K := K) hu) (pv 6) pe_int (fun _ _ => rfl)) pa_nil)) (pa_cons (pe_callTy (uc_list (K := K)) (by rfl) B.b_list (by decide +kernel) (pa_cons (pe_ix (uq_ix (K := K) hu) (pv 7) pe_int (fun _ _ => rfl)) pa_nil)) (pa_cons (pe_callTy (uc_list (K := K)) (by rfl) B.b_list (by decide +kernel) (pa_cons (pe_ix (uq_ix (K := K) hu) (pv 7) pe_int (fun _ _ => rfl)) pa_nil)) pa_nil))))))
      (pss_cons (ps_set (i := 9) nd rfl (Or.inl rfl) (ue_make m_World_2 hr (by decide) hG (by rfl) PB (pa_cons (pe_ix (uq_ix (K := K) hu) (pv 8) pe_int (fun _ _ => rfl)) (pa_cons (pe_ix (uq_ix (K := K) hu) (pv 8) pe_int (fun _ _ => rfl)) pa_nil))))
      (pss_cons (ps_set (i := 10) nd rfl (Or.inl rfl) (ue_make m_World_2 hr (by decide) hG (by rfl) PB (pa_cons (pe_ix (uq_ix (K := K) hu) (pv 8) pe_int (fun _ _ => rfl)) (pa_cons (pe_ix (uq_ix (K := K) hu) (pv 8) pe_int (fun _ _ => rfl)) pa_nil))))
      (pss_cons (ps_for PW rfl (ui_seq (K := K) (pv 8)) (pg_name (i := 11) nd rfl (Or.inl rfl)) (pss_cons (ps_expr (ue_bm (K := K) PySem.F.plainAttrs_list PySem.F.slot_list_append PySem.F.type_list_append mt_append (pv 11) (pa_cons (pe_tup (pa_cons pe_str (pa_cons pe_int pa_nil))) pa_nil)))
      (pss_one (ps_asg (pe_tup (pa_cons pe_str (pa_cons pe_int pa_nil))) (pg_sub (pv 11) pe_int (uq_set hu))))))
      (pss_cons (ps_for PW rfl (pi_range1 (by rfl) B.b_range (pa_cons pe_int pa_nil)) (pg_name (i := 12) nd rfl (Or.inl rfl)) (pss_cons (ps_set (i := 13) nd rfl (Or.inl rfl) (pe_lst (pa_cons (ue_meth0 (pv 9) t_World_coin_rows hr (by decide) hG PB) (pa_cons (ue_meth0 (pv 10) t_World_coin_rows hr (by decide) hG PB) (pa_cons (ue_meth0 (pv 9) t_World_house_rows hr (by decide) hG PB) (pa_cons (ue_meth0 (pv 10) t_World_house_rows hr (by decide) hG PB) pa_nil))))))
      (pss_cons (ps_if (pt_not (ut_truth (K := K) (ue_call c__law_same hr (by decide) hG (by rfl) PB (pa_cons (pv 13) (pa_cons (pe_lst (pa_cons (pe_ix (uq_ix (K := K) hu) (pv 6) pe_int (fun _ _ => rfl)) (pa_cons (pe_ix (uq_ix (K := K) hu) (pv 7) pe_int (fun _ _ => rfl)) (pa_cons (pe_ix (uq_ix (K := K) hu) (pv 6) pe_int (fun _ _ => rfl)) (pa_cons (pe_ix (uq_ix (K := K) hu) (pv 7) pe_int (fun _ _ => rfl)) pa_nil))))) pa_nil))))) (pss_one (ps_ret pe_bl)) pss_nil)
      (pss_cons (ps_expr (ue_bm0 (K := K) PySem.F.plainAttrs_list PySem.F.slot_list_clear PySem.F.type_list_clear mt_clear (pe_ix (uq_ix (K := K) hu) (pv 13) pe_int (fun _ _ => rfl))))
      (pss_cons (ps_expr (ue_bm (K := K) PySem.F.plainAttrs_list PySem.F.slot_list_append PySem.F.type_list_append mt_append (pe_ix (uq_ix (K := K) hu) (pv 13) pe_int (fun _ _ => rfl)) (pa_cons (pe_tup (pa_cons pe_str (pa_cons pe_int pa_nil))) pa_nil)))
      (pss_cons (ps_expr (ue_bm0 (K := K) PySem.F.plainAttrs_list PySem.F.slot_list_reverse PySem.F.type_list_reverse mt_reverse (pe_ix (uq_ix (K := K) hu) (pv 13) pe_int (fun _ _ => rfl))))
      (pss_one (ps_expr (ue_bm0 (K := K) PySem.F.plainAttrs_list PySem.F.slot_list_pop PySem.F.type_list_pop mt_pop (pe_ix (uq_ix (K := K) hu) (pv 13) pe_int (fun _ _ => rfl)))))))))))
      (pss_one (ps_ret pe_bl)))))))))))), ?_⟩
    walk_at "go"
    refine i_slL ha fun l hl => ?_
    rw [cut_ints]
    generalize ns0.take 63 = ns
    generalize e1 : upd H l (.lst (ns.map V.int)) = H1
    obtain ⟨s1, hl1⟩ := newH hl e1
    walk_at "go"
    refine ⟨sz_small (by simp), fun z hz => ?_⟩
    generalize e2 : upd H1 z (.lst [.int 5, .int 8, .int 5, .int 8, .int 2]) = H2
    obtain ⟨s2, hz2⟩ := newH hz e2
    walk_at "go"
    obtain ⟨x1, x2, x3, x4, x5, ed, a1, b1, a2, b2, a3, b3, a4, b4, a5, b5⟩ := digs5 ns 0 5 8 5 8 2 (by decide) (by decide) (by decide) (by decide) (by decide)
    refine ⟨l, z, ns, 0, [5, 8, 5, 8, 2], rfl, SqL.of (s2 _ _ hl1), SqL.of hz2, by decide, by decide, by decide, by decide, fun p H3 hp s3 hp3 => ?_⟩
    rw [ed] at hp3
    refine g_gseqL (xs := [.int x1, .int x2, .int x3, .int x4, .int x5]) (SqL.of hp3) rfl ?_
    walk_at "go"
    have hl3 : SqL K H3 l (ns.map V.int) := SqL.of (s3 _ _ (s2 _ _ hl1))
    refine ⟨l, ns, 1, (1 + x1).toNat, (1 + x2).toNat, by rw [Int.toNat_of_nonneg (by omega), Int.toNat_of_nonneg (by omega)]; rfl, hl3, by decide, by decide, by omega, by omega, fun t1 H4 ht1 s4 ht4 => ?_⟩
    walk_at "go"
    refine ⟨l, ns, 9, (1 + x3).toNat, (1 + x4).toNat, by rw [Int.toNat_of_nonneg (by omega), Int.toNat_of_nonneg (by omega)]; rfl, s4.seq hl3, by decide, by decide, by omega, by omega, fun t2 H5 ht2 s5 ht5 => ?_⟩
    have W1 := wrows ns 1 (n := (1 + x1).toNat) (m := (1 + x2).toNat) (by omega) (by omega) (by omega) (by omega)
    have W2 := wrows ns 9 (n := (1 + x3).toNat) (m := (1 + x4).toNat) (by omega) (by omega) (by omega) (by omega)
    have ht4 := dp_mono s5 ht4
    generalize coinRows ns 1 (1 + x1).toNat = c1 at *
    generalize houseRows ns 1 (1 + x2).toNat = h1 at *
    generalize coinRows ns 9 (1 + x3).toNat = c2 at *
    generalize houseRows ns 9 (1 + x4).toNat = h2 at *
    walk_at "go"
    refine ⟨fun σ' H' => ∃ (t2 : Addr) (c2 h2 : List (Str × Int)), WRows c2 h2 ∧ Dp K H' (.ref t1) (.tuple [rowsD c1, rowsD h1]) ∧ Dp K H' (.ref t2) (.tuple [rowsD c2, rowsD h2]) ∧
      σ' = [some (.ref l), some (.int x1), some (.int x2), some (.int x3), some (.int x4), some (.int x5), some (.ref t1), some (.ref t2), none, none, none, none, none, none], ?_, ?_⟩
    · walk_at "go"
      refine ite2 (fun h => ?_) (fun h => ?_)
      · obtain ⟨v1, v2, q1, q2, q3⟩ := dp_pair ht5
        obtain ⟨l2, xs, rfl, q4, q5⟩ := dp_list q2
        obtain ⟨r0, hr0⟩ : ∃ r0, c2[0]? = some r0 := ⟨c2[0]'W2.c1, List.getElem?_eq_getElem W2.c1⟩
        obtain ⟨y, hy, hyd⟩ := dpAll_get q5 (i := 0) (d := rowD r0) (by rw [List.getElem?_map, hr0]; rfl)
        obtain ⟨t, rfl, ht⟩ := dp_row hyd
        walk_at "go"
        refine i_ixT q1 rfl ?_
        walk_at "go"
        refine i_ixT q1 rfl ?_
        walk_at "go"
        refine i_ixL q4 (atI_of (by decide) hy) ?_
        walk_at "go"
        refine i_ixT ht rfl ?_
        walk_at "go"
        refine ⟨sz_small (by simp), fun a1 ha1 => ?_⟩
        generalize e6 : upd H5 a1 (.tup [.str r0.1, .int 7]) = H6
        obtain ⟨s6, ha6⟩ := newH ha1 e6
        walk_at "go"
        refine ⟨sz_small (by simp), fun a2 ha2 => ?_⟩
        generalize e7 : upd H6 a2 (.lst [.ref a1]) = H7
        obtain ⟨s7, ha7⟩ := newH ha2 e7
        walk_at "go"
        refine ⟨sz_small (by simp), fun a3 ha3 => ?_⟩
        generalize e8 : upd H7 a3 (.tup [.ref l2, .ref a2]) = H8
        obtain ⟨s8, ha8⟩ := newH ha3 e8
        walk_at "go"
        have s58 := s6.trans (s7.trans s8)
        have hk := (W2.rc.ok _ (List.mem_of_getElem? hr0)).1
        refine ⟨a3, c2, [(r0.1, 7)], ⟨W2.rc, ⟨by simp, fun p hp => ?_⟩, W2.c1, W2.c2, Nat.le_refl 1, by simp⟩, dp_mono s58 ht4, .tup (SqT.of ha8) (.cons (dp_mono s58 q2) (.cons (.lst (SqL.of (s8 _ _ ha7)) (.cons (row_dp (p := (r0.1, 7)) (SqT.of (s8 _ _ (s7 _ _ ha6)))) .nil)) .nil)), rfl⟩
        rw [List.mem_singleton.mp hp]
        exact ⟨hk, by show (1 : Int) ≤ 7; decide, by show (7 : Int) ≤ 1000000; decide⟩
      · walk_at "go"
        exact ⟨t2, c2, h2, W2, ht4, ht5, rfl⟩
    · clear ht5 W2 c2 h2
      rintro σ' H4 ⟨t2, c2, h2, W2, ht1, ht2, rfl⟩
      obtain ⟨v1, v2, q1, qc1, qh1⟩ := dp_pair ht1
      obtain ⟨v3, v4, q2, qc2, qh2⟩ := dp_pair ht2
      obtain ⟨l1, xs1, rfl, p1, d1⟩ := dp_list qc1
      obtain ⟨l2, xs2, rfl, p2, d2⟩ := dp_list qh1
      obtain ⟨l3, xs3, rfl, p3, d3⟩ := dp_list qc2
      obtain ⟨l4, xs4, rfl, p4, d4⟩ := dp_list qh2
      have n1 : xs1.length = c1.length := by rw [dpAll_len d1, List.length_map]
      have n2 : xs2.length = h1.length := by rw [dpAll_len d2, List.length_map]
      have n3 : xs3.length = c2.length := by rw [dpAll_len d3, List.length_map]
      have n4 : xs4.length = h2.length := by rw [dpAll_len d4, List.length_map]
      walk_at "go"
      refine i_ixT q1 rfl ?_
      walk_at "go"
      refine i_listSq (.inl p1) fun m1 hm1 => ?_
      generalize e5 : upd H4 m1 (.lst xs1) = H5
      obtain ⟨s5, hm5⟩ := newH hm1 e5
      walk_at "go"
      refine i_ixT (s5.seqT q1) rfl ?_
      walk_at "go"
      refine i_listSq (.inl (s5.seq p2)) fun m2 hm2 => ?_
      generalize e6 : upd H5 m2 (.lst xs2) = H6
      obtain ⟨s6, hm6⟩ := newH hm2 e6
      have s46 := s5.trans s6
      walk_at "go"
      refine i_ixT (s46.seqT q2) rfl ?_
      walk_at "go"
      refine i_listSq (.inl (s46.seq p3)) fun m3 hm3 => ?_
      generalize e7 : upd H6 m3 (.lst xs3) = H7
      obtain ⟨s7, hm7⟩ := newH hm3 e7
      have s47 := s46.trans s7
      walk_at "go"
      refine i_ixT (s47.seqT q2) rfl ?_
      walk_at "go"
      refine i_listSq (.inl (s47.seq p4)) fun m4 hm4 => ?_
      generalize e8 : upd H7 m4 (.lst xs4) = H8
      obtain ⟨s8, hm8⟩ := newH hm4 e8
      have s48 := s47.trans s8
      walk_at "go"
      refine ⟨sz_small (by simp), fun b hb => ?_⟩
      generalize e9 : upd H8 b (.lst [.ref m1, .ref m2, .ref m3, .ref m4]) = H9
      obtain ⟨s9, hb9⟩ := newH hb e9
      have s49 := s48.trans s9
      have hbL : SqL K H9 b [.ref m1, .ref m2, .ref m3, .ref m4] := SqL.of hb9
      have k1 : H9 m1 = some (.lst xs1) := s9 _ _ (s8 _ _ (s7 _ _ (s6 _ _ hm5)))
      have k2 : H9 m2 = some (.lst xs2) := s9 _ _ (s8 _ _ (s7 _ _ hm6))
      have k3 : H9 m3 = some (.lst xs3) := s9 _ _ (s8 _ _ hm7)
      have k4 : H9 m4 = some (.lst xs4) := s9 _ _ hm8
      walk_at "go"
      refine i_ixL hbL rfl ?_
      walk_at "go"
      refine i_ixL hbL rfl ?_
      walk_at "go"
      intro w1 dx1 hw1 hdx1 ne1
      refine make_world W1 (.lst (SqL.of k1) (dpAll_mono s49 d1)) (.lst (SqL.of k2) (dpAll_mono s49 d2)) hw1 hdx1 ne1 fun H10 s10 hW1 => ?_
      walk_at "go"
      refine i_ixL (s10.seq hbL) rfl ?_
      walk_at "go"
      refine i_ixL (s10.seq hbL) rfl ?_
      walk_at "go"
      intro w2 dx2 hw2 hdx2 ne2
      refine make_world W2 (.lst (SqL.of (s10 _ _ k3)) (dpAll_mono (s49.trans s10) d3)) (.lst (SqL.of (s10 _ _ k4)) (dpAll_mono (s49.trans s10) d4)) hw2 hdx2 ne2 fun H11 s11 hW2 => ?_
      have s911 := s10.trans s11
      have hW1 := hW1.mono s11
      have hbL11 := s911.seq hbL
      -- the lists that change
      have hls : ∀ p ∈ [m1, m2, m3, m4], ∃ xs, H11 p = some (.lst xs) := by
        intro p hp
        simp only [List.mem_cons, List.not_mem_nil, or_false] at hp
        rcases hp with rfl | rfl | rfl | rfl
        · exact ⟨_, s911 _ _ k1⟩
        · exact ⟨_, s911 _ _ k2⟩
        · exact ⟨_, s911 _ _ k3⟩
        · exact ⟨_, s911 _ _ k4⟩
      have hfree : ∀ p ∈ [m1, m2, m3, m4], H4 p = none := by
        intro p hp
        simp only [List.mem_cons, List.not_mem_nil, or_false] at hp
        rcases hp with rfl | rfl | rfl | rfl
        · exact hm1
        · exact s5.free hm2
        · exact s46.free hm3
        · exact s47.free hm4
      generalize eG : hidL [m1, m2, m3, m4] H11 = G
      have sG : Same H4 G := by rw [← eG]; exact hidL_base (s49.trans s911) hfree
      have upG : Same G H11 := by rw [← eG]; exact hidL_up
      have inG : ∀ p ∈ [m1, m2, m3, m4], G p = none := fun p hp => by rw [← eG]; exact hidL_in hp
      have W1G : WorldAt C G w1 c1 h1 := by rw [← eG]; exact hW1.hidL hls
      have W2G : WorldAt C G w2 c2 h2 := by rw [← eG]; exact hW2.hidL hls
      have hbG : SqL K G b [.ref m1, .ref m2, .ref m3, .ref m4] := by
        refine SqL.of ?_
        rw [← eG]
        refine hidL_of (fun z => ?_) (s911 _ _ hb9)
        simp only [List.mem_cons, List.not_mem_nil, or_false] at z
        rcases z with rfl | rfl | rfl | rfl
        · rw [s8 _ _ (s7 _ _ (s6 _ _ hm5))] at hb; cases hb
        · rw [s8 _ _ (s7 _ _ hm6)] at hb; cases hb
        · rw [s8 _ _ hm7] at hb; cases hb
        · rw [hm8] at hb; cases hb
      walk_at "go"
      refine Or.inl ⟨b, rfl, ⟨_, hbL11⟩, ?_⟩
      refine for_list (K := K) (a := b) (xs := [.ref m1, .ref m2, .ref m3, .ref m4]) (fun i σ H' => ∃ v11 : Option V, Same G H' ∧ (∀ p ∈ [m1, m2, m3, m4], ∃ xs, H' p = some (.lst xs) ∧ 1 ≤ xs.length ∧ xs.length ≤ 8 + i) ∧
          σ = [some (.ref l), some (.int x1), some (.int x2), some (.int x3), some (.int x4), some (.int x5), some (.ref t1), some (.ref t2), some (.ref b), some (.ref w1), some (.ref w2), v11, none, none]) ⟨none, upG, ?_, rfl⟩ (fun i σ H' _ ⟨_, sg, _⟩ => sg.seq hbG) ?_ ?_
      · intro p hp
        have := W1.c1; have := W1.c2; have := W1.h1; have := W1.h2; have := W2.c1; have := W2.c2; have := W2.h1; have := W2.h2
        simp only [List.mem_cons, List.not_mem_nil, or_false] at hp
        rcases hp with rfl | rfl | rfl | rfl
        · exact ⟨_, s911 _ _ k1, by omega, by omega⟩
        · exact ⟨_, s911 _ _ k2, by omega, by omega⟩
        · exact ⟨_, s911 _ _ k3, by omega, by omega⟩
        · exact ⟨_, s911 _ _ k4, by omega, by omega⟩
      · rintro i y σ H12 hi ⟨v11, sg, hx, rfl⟩
        have hi4 : i < 4 := (List.getElem?_eq_some_iff.mp hi).1
        obtain ⟨m, hm, rfl⟩ : ∃ m ∈ [m1, m2, m3, m4], y = .ref m := by
          have := List.mem_of_getElem? hi
          simp only [List.mem_cons, List.not_mem_nil, or_false] at this
          rcases this with rfl | rfl | rfl | rfl <;> exact ⟨_, by simp, rfl⟩
        obtain ⟨xs, hmx, hx1, hx2⟩ := hx m hm
        walk_at "go"
        refine ⟨tyL hmx, ?_⟩
        walk_at "go"
        refine ⟨sz_small (by simp), fun u hu' => ?_⟩
        generalize e13 : upd H12 u (.tup [.str "zzz", .int 4]) = H13
        obtain ⟨s13, _⟩ := newH hu' e13
        walk_at "go"
        refine i_append (s13 _ _ hmx) (sz_small' (by omega)) ?_
        generalize e14 : upd H13 m (.lst (xs ++ [.ref u])) = H14
        have hm14 : H14 m = some (.lst (xs ++ [.ref u])) := by rw [← e14]; exact upd_same
        walk_at "go"
        refine ⟨sz_small (by simp), fun u2 hu2 => ?_⟩
        generalize e15 : upd H14 u2 (.tup [.str "yyy", .int 2]) = H15
        obtain ⟨s15, _⟩ := newH hu2 e15
        walk_at "go"
        refine i_setL (j := 0) (s15 _ _ hm14) (by unfold ixN; rw [if_pos (by decide), if_pos (by simp)]; rfl) ?_
        have sg14 : Same G H14 := by rw [← e14]; exact (sg.trans s13).mut (inG m hm)
        refine ⟨_, (sg14.trans s15).mut (inG m hm), fun p hp => ?_, rfl⟩
        by_cases hpm : p = m
        · subst hpm
          exact ⟨_, upd_same, by simp, by simp; omega⟩
        · obtain ⟨ys, hy1, hy2, hy3⟩ := hx p hp
          refine ⟨ys, ?_, hy2, by omega⟩
          rw [upd_ne hpm]
          refine s15 _ _ ?_
          rw [← e14, upd_ne hpm]
          exact s13 _ _ hy1
      · rintro σ H12 ⟨v11, sg, _, rfl⟩
        walk_at "go"
        refine ⟨(2 : Int), rfl, by omega, by omega, ?_⟩
        refine for_range (lo := 0) (n := (2 : Int).toNat) (fun i σ H' => ∃ v12 v13 : Option V, Same G H' ∧
          σ = [some (.ref l), some (.int x1), some (.int x2), some (.int x3), some (.int x4), some (.int x5), some (.ref t1), some (.ref t2), some (.ref b), some (.ref w1), some (.ref w2), v11, v12, v13]) ⟨none, none, sg, rfl⟩ ?_ ?_
        · clear sg
          rintro i σ H12 hi ⟨v12, v13, sg, rfl⟩
          obtain ⟨dx1', f1, f2, g1, g2, g3⟩ := W1G
          obtain ⟨dx2', f3, f4, g4, g5, g6⟩ := W2G
          walk_at "go"
          refine ⟨w1, dx1', wFs f1 f2, rfl, sg _ _ g1, rfl, ?_⟩
          refine ⟨w1, c1, h1, rfl, ⟨dx1', f1, f2, sg _ _ g1, sg _ _ g2, sg _ _ g3⟩, fun r1 ys1 H13 hr1 s13 hr1' dy1 => ?_⟩
          walk_at "go"
          have sg13 := sg.trans s13
          refine ⟨w2, dx2', wFs f3 f4, rfl, sg13 _ _ g4, rfl, ?_⟩
          refine ⟨w2, c2, h2, rfl, ⟨dx2', f3, f4, sg13 _ _ g4, sg13 _ _ g5, sg13 _ _ g6⟩, fun r2 ys2 H14 hr2 s14 hr2' dy2 => ?_⟩
          walk_at "go"
          have sg14 := sg13.trans s14
          refine ⟨w1, dx1', wFs f1 f2, rfl, sg14 _ _ g1, rfl, ?_⟩
          refine ⟨w1, c1, h1, rfl, ⟨dx1', f1, f2, sg14 _ _ g1, sg14 _ _ g2, sg14 _ _ g3⟩, fun r3 ys3 H15 hr3 s15 hr3' dy3 => ?_⟩
          walk_at "go"
          have sg15 := sg14.trans s15
          refine ⟨w2, dx2', wFs f3 f4, rfl, sg15 _ _ g4, rfl, ?_⟩
          refine ⟨w2, c2, h2, rfl, ⟨dx2', f3, f4, sg15 _ _ g4, sg15 _ _ g5, sg15 _ _ g6⟩, fun r4 ys4 H16 hr4 s16 hr4' dy4 => ?_⟩
          walk_at "go"
          refine ⟨sz_small (by simp), fun e he => ?_⟩
          generalize e17 : upd H16 e (.lst [.ref r1, .ref r2, .ref r3, .ref r4]) = H17
          obtain ⟨s17, he17⟩ := newH he e17
          have sg17 := (sg15.trans s16).trans s17
          have sH17 := sG.trans sg17
          walk_at "go"
          refine i_ixT (sH17.seqT q1) rfl ?_
          walk_at "go"
          refine i_ixT (sH17.seqT q2) rfl ?_
          walk_at "go"
          refine i_ixT (sH17.seqT q1) rfl ?_
          walk_at "go"
          refine i_ixT (sH17.seqT q2) rfl ?_
          walk_at "go"
          refine ⟨sz_small (by simp), fun e' he' => ?_⟩
          generalize e18 : upd H17 e' (.lst [.ref l1, .ref l3, .ref l2, .ref l4]) = H18
          obtain ⟨s18, he18⟩ := newH he' e18
          have sH18 := sH17.trans s18
          walk_at "go"
          have z1 : H18 r1 = some (.lst ys1) := s18 _ _ (s17 _ _ (s16 _ _ (s15 _ _ (s14 _ _ hr1'))))
          have z2 : H18 r2 = some (.lst ys2) := s18 _ _ (s17 _ _ (s16 _ _ (s15 _ _ hr2')))
          have z3 : H18 r3 = some (.lst ys3) := s18 _ _ (s17 _ _ (s16 _ _ hr3'))
          have z4 : H18 r4 = some (.lst ys4) := s18 _ _ (s17 _ _ hr4')
          have y1 := dpAll_mono (s14.trans (s15.trans (s16.trans (s17.trans s18)))) dy1
          have y2 := dpAll_mono (s15.trans (s16.trans (s17.trans s18))) dy2
          have y3 := dpAll_mono (s16.trans (s17.trans s18)) dy3
          have y4 := dpAll_mono (s17.trans s18) dy4
          have hok : SameOk (.list [rowsD c1, rowsD c2, rowsD h1, rowsD h2]) := by
            refine (good_list (n := 3000) (k := 2) (m := 4) (fun d hd => ?_) (by simp)).same (by decide) (by decide)
            have := W1.c2; have := W1.h2; have := W2.c2; have := W2.h2
            simp only [List.mem_cons, List.not_mem_nil, or_false] at hd
            rcases hd with rfl | rfl | rfl | rfl
            · exact good_rows W1.rc (by decide) (by omega)
            · exact good_rows W2.rc (by decide) (by omega)
            · exact good_rows W1.rh (by decide) (by omega)
            · exact good_rows W2.rh (by decide) (by omega)
          refine ⟨.ref e, .ref e', _, rfl, .lst (SqL.of (s18 _ _ he17)) (.cons (.lst (SqL.of z1) y1) (.cons (.lst (SqL.of z2) y2) (.cons (.lst (SqL.of z3) y3) (.cons (.lst (SqL.of z4) y4) .nil)))),
            .lst (SqL.of he18) (.cons (dp_mono sH18 qc1) (.cons (dp_mono sH18 qc2) (.cons (dp_mono sH18 qh1) (.cons (dp_mono sH18 qh2) .nil)))), hok, ?_⟩
          walk_at "go"
          have heL : SqL K H18 e [.ref r1, .ref r2, .ref r3, .ref r4] := SqL.of (s18 _ _ he17)
          have sg18 := sg17.trans s18
          have fr1 : G r1 = none := sg.free hr1
          have fr2 : G r2 = none := sg13.free hr2
          have fr3 : G r3 = none := sg14.free hr3
          have fr4 : G r4 = none := sg15.free hr4
          have n12 : r2 ≠ r1 := fun z => by rw [z, hr1'] at hr2; cases hr2
          have n13 : r3 ≠ r1 := fun z => by rw [z, s14 _ _ hr1'] at hr3; cases hr3
          have n14 : r4 ≠ r1 := fun z => by rw [z, s15 _ _ (s14 _ _ hr1')] at hr4; cases hr4
          have n23 : r3 ≠ r2 := fun z => by rw [z, hr2'] at hr3; cases hr3
          have n24 : r4 ≠ r2 := fun z => by rw [z, s15 _ _ hr2'] at hr4; cases hr4
          have n34 : r4 ≠ r3 := fun z => by rw [z, hr3'] at hr4; cases hr4
          have ne1 : e ≠ r1 := fun z => by rw [z, s16 _ _ (s15 _ _ (s14 _ _ hr1'))] at he; cases he
          have ne2 : e ≠ r2 := fun z => by rw [z, s16 _ _ (s15 _ _ hr2')] at he; cases he
          have ne3 : e ≠ r3 := fun z => by rw [z, s16 _ _ hr3'] at he; cases he
          have he18' : H18 e = some (.lst [.ref r1, .ref r2, .ref r3, .ref r4]) := s18 _ _ he17
          refine i_ixL heL rfl ?_
          refine ⟨tyL z1, ?_⟩
          refine i_clear z1 ?_
          generalize e19 : upd H18 r1 (.lst []) = H19
          have sg19 : Same G H19 := by rw [← e19]; exact sg18.mut fr1
          have he19 : H19 e = some (.lst [.ref r1, .ref r2, .ref r3, .ref r4]) := by rw [← e19, upd_ne ne1]; exact he18'
          have z2' : H19 r2 = some (.lst ys2) := by rw [← e19, upd_ne n12]; exact z2
          have z3' : H19 r3 = some (.lst ys3) := by rw [← e19, upd_ne n13]; exact z3
          have z4' : H19 r4 = some (.lst ys4) := by rw [← e19, upd_ne n14]; exact z4
          walk_at "go"
          refine i_ixL (SqL.of he19) rfl ?_
          refine ⟨tyL z3', ?_⟩
          walk_at "go"
          refine ⟨sz_small (by simp), fun u hu' => ?_⟩
          generalize e20 : upd H19 u (.tup [.str "q", .int 1]) = H20
          obtain ⟨s20, _⟩ := newH hu' e20
          walk_at "go"
          have m3 : ys3.length ≤ 8 := by rw [dpAll_len dy3, List.length_map]; exact W1.h2
          refine i_append (s20 _ _ z3') (sz_small' (by omega)) ?_
          generalize e21 : upd H20 r3 (.lst (ys3 ++ [.ref u])) = H21
          have sg21 : Same G H21 := by rw [← e21]; exact (sg19.trans s20).mut fr3
          have he21 : H21 e = some (.lst [.ref r1, .ref r2, .ref r3, .ref r4]) := by rw [← e21, upd_ne ne3]; exact s20 _ _ he19
          have z2'' : H21 r2 = some (.lst ys2) := by rw [← e21, upd_ne n23.symm]; exact s20 _ _ z2'
          have z4'' : H21 r4 = some (.lst ys4) := by rw [← e21, upd_ne n34]; exact s20 _ _ z4'
          walk_at "go"
          refine i_ixL (SqL.of he21) rfl ?_
          refine ⟨tyL z2'', ?_⟩
          refine i_reverse z2'' ?_
          generalize e22 : upd H21 r2 (.lst ys2.reverse) = H22
          have sg22 : Same G H22 := by rw [← e22]; exact sg21.mut fr2
          have he22 : H22 e = some (.lst [.ref r1, .ref r2, .ref r3, .ref r4]) := by rw [← e22, upd_ne ne2]; exact he21
          have z4a : H22 r4 = some (.lst ys4) := by rw [← e22, upd_ne n24]; exact z4''
          walk_at "go"
          refine i_ixL (SqL.of he22) rfl ?_
          refine ⟨tyL z4a, ?_⟩
          have m4 : ys4.length = h2.length := by rw [dpAll_len dy4, List.length_map]
          have m4' := W2.h1
          refine i_pop (y := ys4[ys4.length - 1]'(by omega)) z4a (List.getElem?_eq_getElem (by omega)) ?_
          walk_at "go"
          exact ⟨_, _, sg22.mut fr4, rfl⟩
        · rintro σ H13 ⟨v12, v13, _, rfl⟩
          walk_at "go"
          exact q H13

end
abbrev s_BadCount_init : Stmt := inClass (topS 4) 0
abbrev N_BadCount_init : List Str := ["self", "count"]
abbrev P_BadCount_init : List Str := ["self", "count"]
theorem sc_BadCount_init : FnScope N_BadCount_init P_BadCount_init (defScope s_BadCount_init) := ⟨rfl, rfl, rfl, by decide +kernel, rfl, by decide +kernel, by decide +kernel⟩
abbrev s_BadName_init : Stmt := inClass (topS 2) 0
abbrev N_BadName_init : List Str := ["self", "name"]
abbrev P_BadName_init : List Str := ["self", "name"]
theorem sc_BadName_init : FnScope N_BadName_init P_BadName_init (defScope s_BadName_init) := ⟨rfl, rfl, rfl, by decide +kernel, rfl, by decide +kernel, by decide +kernel⟩
abbrev s_Taken_init : Stmt := inClass (topS 5) 0
abbrev N_Taken_init : List Str := ["self", "name"]
abbrev P_Taken_init : List Str := ["self", "name"]
theorem sc_Taken_init : FnScope N_Taken_init P_Taken_init (defScope s_Taken_init) := ⟨rfl, rfl, rfl, by decide +kernel, rfl, by decide +kernel, by decide +kernel⟩
abbrev s_BadNumber_init : Stmt := inClass (topS 3) 0
abbrev N_BadNumber_init : List Str := ["self", "number"]
abbrev P_BadNumber_init : List Str := ["self", "number"]
theorem sc_BadNumber_init : FnScope N_BadNumber_init P_BadNumber_init (defScope s_BadNumber_init) := ⟨rfl, rfl, rfl, by decide +kernel, rfl, by decide +kernel, by decide +kernel⟩
theorem all_mk {P : Program} {w : World} {K : PySem.W.Frag} {h : Heap} {mg : Str → Option Value} {fa : Addr} (X : K.In h) (G : h.Ns mainGlobals mg) (hfa : mg "law" = some (.ref fa))
    {C_RoofError : Addr}
    {C_BadCount : Addr}
    {nm_BadCount q_BadCount : Str} {N_BadCount : Addr} {bs_BadCount : List Value} {sn_BadCount : List Str} {sub_BadCount : List Value} {ab_BadCount : Bool} {col_BadCount : Option Bool} {dd_BadCount : Option Addr} {k0_BadCount k1_BadCount k2_BadCount k3_BadCount k5_BadCount : Option Value}
    {od_BadCount an_BadCount : Option Addr} {sl_BadCount : Array (Option Value)} {oc_BadCount kV_BadCount dc_BadCount pm_BadCount cd_BadCount ct_BadCount : Value} {f_BadCount : Addr}
    {C_BadName : Addr}
    {nm_BadName q_BadName : Str} {N_BadName : Addr} {bs_BadName : List Value} {sn_BadName : List Str} {sub_BadName : List Value} {ab_BadName : Bool} {col_BadName : Option Bool} {dd_BadName : Option Addr} {k0_BadName k1_BadName k2_BadName k3_BadName k5_BadName : Option Value}
    {od_BadName an_BadName : Option Addr} {sl_BadName : Array (Option Value)} {oc_BadName kV_BadName dc_BadName pm_BadName cd_BadName ct_BadName : Value} {f_BadName : Addr}
    {C_Taken : Addr}
    {nm_Taken q_Taken : Str} {N_Taken : Addr} {bs_Taken : List Value} {sn_Taken : List Str} {sub_Taken : List Value} {ab_Taken : Bool} {col_Taken : Option Bool} {dd_Taken : Option Addr} {k0_Taken k1_Taken k2_Taken k3_Taken k5_Taken : Option Value}
    {od_Taken an_Taken : Option Addr} {sl_Taken : Array (Option Value)} {oc_Taken kV_Taken dc_Taken pm_Taken cd_Taken ct_Taken : Value} {f_Taken : Addr}
    {C_BadNumber : Addr}
    {nm_BadNumber q_BadNumber : Str} {N_BadNumber : Addr} {bs_BadNumber : List Value} {sn_BadNumber : List Str} {sub_BadNumber : List Value} {ab_BadNumber : Bool} {col_BadNumber : Option Bool} {dd_BadNumber : Option Addr} {k0_BadNumber k1_BadNumber k2_BadNumber k3_BadNumber k5_BadNumber : Option Value}
    {od_BadNumber an_BadNumber : Option Addr} {sl_BadNumber : Array (Option Value)} {oc_BadNumber kV_BadNumber dc_BadNumber pm_BadNumber cd_BadNumber ct_BadNumber : Value} {f_BadNumber : Addr}
    {tk_MOST_COINS : Tok}
    {tk_MOST_RATE : Tok}
    {tk_MOST_HOUSES : Tok}
    {tk_MOST_SHARES : Tok}
    {C_World : Addr}
    {od1 an1 : Option Addr} {sl1 : Array (Option Value)} {oc1 kV1 dc1 pm1 cd1 ct1 : Value} {f1 : Addr}
    {od2 an2 : Option Addr} {sl2 : Array (Option Value)} {oc2 kV2 dc2 pm2 cd2 ct2 : Value} {f2 : Addr}
    {od3 an3 : Option Addr} {sl3 : Array (Option Value)} {oc3 kV3 dc3 pm3 cd3 ct3 : Value} {f3 : Addr}
    {od4 an4 : Option Addr} {sl4 : Array (Option Value)} {oc4 kV4 dc4 pm4 cd4 ct4 : Value} {f4 : Addr}
    {od5 an5 : Option Addr} {sl5 : Array (Option Value)} {oc5 kV5 dc5 pm5 cd5 ct5 : Value} {f5 : Addr}
    {od6 an6 : Option Addr} {sl6 : Array (Option Value)} {oc6 kV6 dc6 pm6 cd6 ct6 : Value} {f6 : Addr}
    {od7 an7 : Option Addr} {sl7 : Array (Option Value)} {oc7 kV7 dc7 pm7 cd7 ct7 : Value} {f7 : Addr}
    {od8 an8 : Option Addr} {sl8 : Array (Option Value)} {oc8 kV8 dc8 pm8 cd8 ct8 : Value} {f8 : Addr}
    {od9 an9 : Option Addr} {sl9 : Array (Option Value)} {oc9 kV9 dc9 pm9 cd9 ct9 : Value} {f9 : Addr}
    {od10 an10 : Option Addr} {sl10 : Array (Option Value)} {oc10 kV10 dc10 pm10 cd10 ct10 : Value} {f10 : Addr}
    {od11 an11 : Option Addr} {sl11 : Array (Option Value)} {oc11 kV11 dc11 pm11 cd11 ct11 : Value} {f11 : Addr}
    (nC_RoofError : PySem.W.nsIn K mainGlobals "RoofError" = some (some (.ref C_RoofError)))
    (nC_BadCount : PySem.W.nsIn K mainGlobals "BadCount" = some (some (.ref C_BadCount)))
    (xl_BadCount : K.lookup C_BadCount = some (excClassObj nm_BadCount q_BadCount C_BadCount N_BadCount bs_BadCount [.ref C_RoofError, .type "ValueError", .type "Exception", .type "BaseException", .type "object"] true sn_BadCount sub_BadCount ab_BadCount col_BadCount dd_BadCount k0_BadCount k1_BadCount k2_BadCount k3_BadCount k5_BadCount "ValueError.__new__"))
    (xs_BadCount : PySem.W.findIn K (.ref C_BadCount) "__setattr__" = some (some (.builtin "object.__setattr__")))
    (xb_BadCount : PySem.W.subIn K (.ref C_BadCount) (.type "BaseException") = some true)
    (xt_BadCount : PySem.W.typeIn K (.ref C_BadCount) = some (.type "type"))
    (xk_BadCount : PySem.W.keepIn K (.ref C_BadCount) = true)
    (xi_BadCount : PySem.W.findIn K (.ref C_BadCount) "__init__" = some (some (.ref f_BadCount)))
    (xf_BadCount : PySem.W.typeIn K (.ref f_BadCount) = some (.type "function"))
    (xg_BadCount : K.lookup f_BadCount = some ⟨oc_BadCount, od_BadCount, .func (PySem.W.fnOf "__init__" "BadCount.__init__" (defArgs s_BadCount_init) (defBody s_BadCount_init) (defScope s_BadCount_init) .none kV_BadCount dc_BadCount pm_BadCount an_BadCount cd_BadCount ct_BadCount), sl_BadCount⟩)
    (xc_BadCount : PySem.W.codeIn K cd_BadCount "BadCount.__init__" = true)
    (xn_BadCount_count : PySem.W.findIn K (.ref C_BadCount) "count" = some none)
    (nC_BadName : PySem.W.nsIn K mainGlobals "BadName" = some (some (.ref C_BadName)))
    (xl_BadName : K.lookup C_BadName = some (excClassObj nm_BadName q_BadName C_BadName N_BadName bs_BadName [.ref C_RoofError, .type "ValueError", .type "Exception", .type "BaseException", .type "object"] true sn_BadName sub_BadName ab_BadName col_BadName dd_BadName k0_BadName k1_BadName k2_BadName k3_BadName k5_BadName "ValueError.__new__"))
    (xs_BadName : PySem.W.findIn K (.ref C_BadName) "__setattr__" = some (some (.builtin "object.__setattr__")))
    (xb_BadName : PySem.W.subIn K (.ref C_BadName) (.type "BaseException") = some true)
    (xt_BadName : PySem.W.typeIn K (.ref C_BadName) = some (.type "type"))
    (xk_BadName : PySem.W.keepIn K (.ref C_BadName) = true)
    (xi_BadName : PySem.W.findIn K (.ref C_BadName) "__init__" = some (some (.ref f_BadName)))
    (xf_BadName : PySem.W.typeIn K (.ref f_BadName) = some (.type "function"))
    (xg_BadName : K.lookup f_BadName = some ⟨oc_BadName, od_BadName, .func (PySem.W.fnOf "__init__" "BadName.__init__" (defArgs s_BadName_init) (defBody s_BadName_init) (defScope s_BadName_init) .none kV_BadName dc_BadName pm_BadName an_BadName cd_BadName ct_BadName), sl_BadName⟩)
    (xc_BadName : PySem.W.codeIn K cd_BadName "BadName.__init__" = true)
    (xn_BadName_name : PySem.W.findIn K (.ref C_BadName) "name" = some none)
    (nC_Taken : PySem.W.nsIn K mainGlobals "Taken" = some (some (.ref C_Taken)))
    (xl_Taken : K.lookup C_Taken = some (excClassObj nm_Taken q_Taken C_Taken N_Taken bs_Taken [.ref C_RoofError, .type "ValueError", .type "Exception", .type "BaseException", .type "object"] true sn_Taken sub_Taken ab_Taken col_Taken dd_Taken k0_Taken k1_Taken k2_Taken k3_Taken k5_Taken "ValueError.__new__"))
    (xs_Taken : PySem.W.findIn K (.ref C_Taken) "__setattr__" = some (some (.builtin "object.__setattr__")))
    (xb_Taken : PySem.W.subIn K (.ref C_Taken) (.type "BaseException") = some true)
    (xt_Taken : PySem.W.typeIn K (.ref C_Taken) = some (.type "type"))
    (xk_Taken : PySem.W.keepIn K (.ref C_Taken) = true)
    (xi_Taken : PySem.W.findIn K (.ref C_Taken) "__init__" = some (some (.ref f_Taken)))
    (xf_Taken : PySem.W.typeIn K (.ref f_Taken) = some (.type "function"))
    (xg_Taken : K.lookup f_Taken = some ⟨oc_Taken, od_Taken, .func (PySem.W.fnOf "__init__" "Taken.__init__" (defArgs s_Taken_init) (defBody s_Taken_init) (defScope s_Taken_init) .none kV_Taken dc_Taken pm_Taken an_Taken cd_Taken ct_Taken), sl_Taken⟩)
    (xc_Taken : PySem.W.codeIn K cd_Taken "Taken.__init__" = true)
    (xn_Taken_name : PySem.W.findIn K (.ref C_Taken) "name" = some none)
    (nC_BadNumber : PySem.W.nsIn K mainGlobals "BadNumber" = some (some (.ref C_BadNumber)))
    (xl_BadNumber : K.lookup C_BadNumber = some (excClassObj nm_BadNumber q_BadNumber C_BadNumber N_BadNumber bs_BadNumber [.ref C_RoofError, .type "ValueError", .type "Exception", .type "BaseException", .type "object"] true sn_BadNumber sub_BadNumber ab_BadNumber col_BadNumber dd_BadNumber k0_BadNumber k1_BadNumber k2_BadNumber k3_BadNumber k5_BadNumber "ValueError.__new__"))
    (xs_BadNumber : PySem.W.findIn K (.ref C_BadNumber) "__setattr__" = some (some (.builtin "object.__setattr__")))
    (xb_BadNumber : PySem.W.subIn K (.ref C_BadNumber) (.type "BaseException") = some true)
    (xt_BadNumber : PySem.W.typeIn K (.ref C_BadNumber) = some (.type "type"))
    (xk_BadNumber : PySem.W.keepIn K (.ref C_BadNumber) = true)
    (xi_BadNumber : PySem.W.findIn K (.ref C_BadNumber) "__init__" = some (some (.ref f_BadNumber)))
    (xf_BadNumber : PySem.W.typeIn K (.ref f_BadNumber) = some (.type "function"))
    (xg_BadNumber : K.lookup f_BadNumber = some ⟨oc_BadNumber, od_BadNumber, .func (PySem.W.fnOf "__init__" "BadNumber.__init__" (defArgs s_BadNumber_init) (defBody s_BadNumber_init) (defScope s_BadNumber_init) .none kV_BadNumber dc_BadNumber pm_BadNumber an_BadNumber cd_BadNumber ct_BadNumber), sl_BadNumber⟩)
    (xc_BadNumber : PySem.W.codeIn K cd_BadNumber "BadNumber.__init__" = true)
    (xn_BadNumber_number : PySem.W.findIn K (.ref C_BadNumber) "number" = some none)
    (g_MOST_COINS : PySem.W.nsIn K mainGlobals "MOST_COINS" = some (some (.int 5 tk_MOST_COINS)))
    (g_MOST_RATE : PySem.W.nsIn K mainGlobals "MOST_RATE" = some (some (.int 1000000000 tk_MOST_RATE)))
    (g_MOST_HOUSES : PySem.W.nsIn K mainGlobals "MOST_HOUSES" = some (some (.int 8 tk_MOST_HOUSES)))
    (g_MOST_SHARES : PySem.W.nsIn K mainGlobals "MOST_SHARES" = some (some (.int 1000000 tk_MOST_SHARES)))
    (nC_World : PySem.W.nsIn K mainGlobals "World" = some (some (.ref C_World)))
    (pg_World : PySem.W.plainGet K C_World Str.empty = true)
    (hd_World : PySem.W.hasDictIn K C_World = true)
    (po_World : PySem.W.plainOver K C_World = true)
    (sa_World : PySem.W.findIn K (.ref C_World) "__setattr__" = some (some (.builtin "object.__setattr__")))
    (na_World_first_rates : PySem.W.findIn K (.ref C_World) "first_rates" = some none)
    (na_World_first_shares : PySem.W.findIn K (.ref C_World) "first_shares" = some none)
    (a1 : PySem.W.nsIn K mainGlobals "_law_cell" = some (some (.ref f1)))
    (l1 : K.lookup f1 = some ⟨oc1, od1, .func (PySem.W.fnOf "_law_cell" "_law_cell" (defArgs s_law_cell) (defBody s_law_cell) (defScope s_law_cell) .none kV1 dc1 pm1 an1 cd1 ct1), sl1⟩)
    (c1 : PySem.W.codeIn K cd1 "_law_cell" = true)
    (k1 : PySem.W.keepIn K (.ref f1) = true)
    (a2 : PySem.W.nsIn K mainGlobals "_law_digits" = some (some (.ref f2)))
    (l2 : K.lookup f2 = some ⟨oc2, od2, .func (PySem.W.fnOf "_law_digits" "_law_digits" (defArgs s_law_digits) (defBody s_law_digits) (defScope s_law_digits) .none kV2 dc2 pm2 an2 cd2 ct2), sl2⟩)
    (c2 : PySem.W.codeIn K cd2 "_law_digits" = true)
    (k2 : PySem.W.keepIn K (.ref f2) = true)
    (a3 : PySem.W.nsIn K mainGlobals "_law_names" = some (some (.ref f3)))
    (l3 : K.lookup f3 = some ⟨oc3, od3, .func (PySem.W.fnOf "_law_names" "_law_names" (defArgs s_law_names) (defBody s_law_names) (defScope s_law_names) .none kV3 dc3 pm3 an3 cd3 ct3), sl3⟩)
    (c3 : PySem.W.codeIn K cd3 "_law_names" = true)
    (k3 : PySem.W.keepIn K (.ref f3) = true)
    (a4 : PySem.W.nsIn K mainGlobals "_law_same" = some (some (.ref f4)))
    (l4 : K.lookup f4 = some ⟨oc4, od4, .func (PySem.W.fnOf "_law_same" "_law_same" (defArgs s_law_same) (defBody s_law_same) (defScope s_law_same) .none kV4 dc4 pm4 an4 cd4 ct4), sl4⟩)
    (c4 : PySem.W.codeIn K cd4 "_law_same" = true)
    (k4 : PySem.W.keepIn K (.ref f4) = true)
    (a5 : PySem.W.nsIn K mainGlobals "_law_world" = some (some (.ref f5)))
    (l5 : K.lookup f5 = some ⟨oc5, od5, .func (PySem.W.fnOf "_law_world" "_law_world" (defArgs s_law_world) (defBody s_law_world) (defScope s_law_world) .none kV5 dc5 pm5 an5 cd5 ct5), sl5⟩)
    (c5 : PySem.W.codeIn K cd5 "_law_world" = true)
    (k5 : PySem.W.keepIn K (.ref f5) = true)
    (a6 : PySem.W.nsIn K mainGlobals "is_name" = some (some (.ref f6)))
    (l6 : K.lookup f6 = some ⟨oc6, od6, .func (PySem.W.fnOf "is_name" "is_name" (defArgs s_is_name) (defBody s_is_name) (defScope s_is_name) .none kV6 dc6 pm6 an6 cd6 ct6), sl6⟩)
    (c6 : PySem.W.codeIn K cd6 "is_name" = true)
    (k6 : PySem.W.keepIn K (.ref f6) = true)
    (a7 : PySem.W.nsIn K mainGlobals "need_rows" = some (some (.ref f7)))
    (l7 : K.lookup f7 = some ⟨oc7, od7, .func (PySem.W.fnOf "need_rows" "need_rows" (defArgs s_need_rows) (defBody s_need_rows) (defScope s_need_rows) .none kV7 dc7 pm7 an7 cd7 ct7), sl7⟩)
    (c7 : PySem.W.codeIn K cd7 "need_rows" = true)
    (k7 : PySem.W.keepIn K (.ref f7) = true)
    (a8 : PySem.W.findIn K (.ref C_World) "__init__" = some (some (.ref f8)))
    (i8 : PySem.W.isFn K (.ref f8) = true)
    (l8 : K.lookup f8 = some ⟨oc8, od8, .func (PySem.W.fnOf "__init__" "World.__init__" (defArgs s_World_init) (defBody s_World_init) (defScope s_World_init) .none kV8 dc8 pm8 an8 cd8 ct8), sl8⟩)
    (c8 : PySem.W.codeIn K cd8 "World.__init__" = true)
    (mk8 : PySem.W.makesIn K C_World = true)
    (kc8 : PySem.W.keepIn K (.ref C_World) = true)
    (a9 : PySem.W.findIn K (.ref C_World) "coin_rows" = some (some (.ref f9)))
    (i9 : PySem.W.isFn K (.ref f9) = true)
    (l9 : K.lookup f9 = some ⟨oc9, od9, .func (PySem.W.fnOf "coin_rows" "World.coin_rows" (defArgs s_World_coin_rows) (defBody s_World_coin_rows) (defScope s_World_coin_rows) .none kV9 dc9 pm9 an9 cd9 ct9), sl9⟩)
    (c9 : PySem.W.codeIn K cd9 "World.coin_rows" = true)
    (k9 : PySem.W.keepIn K (.ref f9) = true)
    (a10 : PySem.W.findIn K (.ref C_World) "house_rows" = some (some (.ref f10)))
    (i10 : PySem.W.isFn K (.ref f10) = true)
    (l10 : K.lookup f10 = some ⟨oc10, od10, .func (PySem.W.fnOf "house_rows" "World.house_rows" (defArgs s_World_house_rows) (defBody s_World_house_rows) (defScope s_World_house_rows) .none kV10 dc10 pm10 an10 cd10 ct10), sl10⟩)
    (c10 : PySem.W.codeIn K cd10 "World.house_rows" = true)
    (k10 : PySem.W.keepIn K (.ref f10) = true)
    (a11 : PySem.W.nsIn K mainGlobals "law" = some (some (.ref f11)))
    (l11 : K.lookup f11 = some ⟨oc11, od11, .func (PySem.W.fnOf "law" "law" (defArgs s_law) (defBody s_law) (defScope s_law) .none kV11 dc11 pm11 an11 cd11 ct11), sl11⟩)
    (c11 : PySem.W.codeIn K cd11 "law" = true)
    (k11 : PySem.W.keepIn K (.ref f11) = true)
    (z_len : PySem.W.nsIn K mainGlobals "len" = some none)
    (z_range : PySem.W.nsIn K mainGlobals "range" = some none)
    (z_abs : PySem.W.nsIn K mainGlobals "abs" = some none)
    (z_max : PySem.W.nsIn K mainGlobals "max" = some none)
    (z_min : PySem.W.nsIn K mainGlobals "min" = some none)
    (z_sorted : PySem.W.nsIn K mainGlobals "sorted" = some none)
    (z_isinstance : PySem.W.nsIn K mainGlobals "isinstance" = some none)
    (z_repr : PySem.W.nsIn K mainGlobals "repr" = some none)
    (z_list : PySem.W.nsIn K mainGlobals "list" = some none)
    (z_dict : PySem.W.nsIn K mainGlobals "dict" = some none)
    (z_str : PySem.W.nsIn K mainGlobals "str" = some none)
    (z_int : PySem.W.nsIn K mainGlobals "int" = some none)
    (z_bool : PySem.W.nsIn K mainGlobals "bool" = some none)
    (z_tuple : PySem.W.nsIn K mainGlobals "tuple" = some none)
    (z_all : PySem.W.nsIn K mainGlobals "all" = some none)
    (z_any : PySem.W.nsIn K mainGlobals "any" = some none)
    (z_sum : PySem.W.nsIn K mainGlobals "sum" = some none)
    (z_enumerate : PySem.W.nsIn K mainGlobals "enumerate" = some none)
    (z_zip : PySem.W.nsIn K mainGlobals "zip" = some none) :
    ∃ fd : FuncData, (∀ (s : Shared) (v : Value), BindsTo s fd ⟨[v], []⟩ [("_law_script", v)]) ∧ ∀ base : Heap, K.In base → base.Ns mainGlobals mg → Fn P w K mg base 6 fa fd P_law (spLaw K) := by
  cases hfa.symm.trans (PySem.W.mg_of X G a11)
  have B : Blt mg := ⟨PySem.W.mg_none_of X G z_len, PySem.W.mg_none_of X G z_range, PySem.W.mg_none_of X G z_abs, PySem.W.mg_none_of X G z_max, PySem.W.mg_none_of X G z_min, PySem.W.mg_none_of X G z_sorted, PySem.W.mg_none_of X G z_isinstance, PySem.W.mg_none_of X G z_repr, PySem.W.mg_none_of X G z_list, PySem.W.mg_none_of X G z_dict, PySem.W.mg_none_of X G z_str, PySem.W.mg_none_of X G z_int, PySem.W.mg_none_of X G z_bool, PySem.W.mg_none_of X G z_tuple, PySem.W.mg_none_of X G z_all, PySem.W.mg_none_of X G z_any, PySem.W.mg_none_of X G z_sum, PySem.W.mg_none_of X G z_enumerate, PySem.W.mg_none_of X G z_zip⟩
  refine ⟨PySem.W.fnOf "law" "law" (defArgs s_law) (defBody s_law) (defScope s_law) .none kV11 dc11 pm11 an11 cd11 ct11, fun s v => .of_eq rfl, fun base _ _ => ?_⟩
  have E_BadCount : Exq K C_BadCount "ValueError.__new__" bmVE := exq_mk (cs := [C_RoofError]) ⟨_, _, _, _, _, _, _, _, _, _, _, _, _, _, xl_BadCount⟩ xs_BadCount xb_BadCount xt_BadCount xk_BadCount
  have X_BadCount : XIni P w K mg base 1 "BadCount" C_BadCount ["count"] := xini_mk1 baseVE E_BadCount (PySem.W.mg_of X G nC_BadCount) xi_BadCount xf_BadCount (src_mk (st := s_BadCount_init) xg_BadCount xc_BadCount) (Binds.all fun us hl => match us, hl with | [_, _], _ => rfl) rfl sc_BadCount_init xn_BadCount_count (fun f cdv A outer s H E => pss_one (us_ost baseVE (pv 0) (pv 1)))
  have E_BadName : Exq K C_BadName "ValueError.__new__" bmVE := exq_mk (cs := [C_RoofError]) ⟨_, _, _, _, _, _, _, _, _, _, _, _, _, _, xl_BadName⟩ xs_BadName xb_BadName xt_BadName xk_BadName
  have X_BadName : XIni P w K mg base 1 "BadName" C_BadName ["name"] := xini_mk1 baseVE E_BadName (PySem.W.mg_of X G nC_BadName) xi_BadName xf_BadName (src_mk (st := s_BadName_init) xg_BadName xc_BadName) (Binds.all fun us hl => match us, hl with | [_, _], _ => rfl) rfl sc_BadName_init xn_BadName_name (fun f cdv A outer s H E => pss_one (us_ost baseVE (pv 0) (pv 1)))
  have E_Taken : Exq K C_Taken "ValueError.__new__" bmVE := exq_mk (cs := [C_RoofError]) ⟨_, _, _, _, _, _, _, _, _, _, _, _, _, _, xl_Taken⟩ xs_Taken xb_Taken xt_Taken xk_Taken
  have X_Taken : XIni P w K mg base 1 "Taken" C_Taken ["name"] := xini_mk1 baseVE E_Taken (PySem.W.mg_of X G nC_Taken) xi_Taken xf_Taken (src_mk (st := s_Taken_init) xg_Taken xc_Taken) (Binds.all fun us hl => match us, hl with | [_, _], _ => rfl) rfl sc_Taken_init xn_Taken_name (fun f cdv A outer s H E => pss_one (us_ost baseVE (pv 0) (pv 1)))
  have E_BadNumber : Exq K C_BadNumber "ValueError.__new__" bmVE := exq_mk (cs := [C_RoofError]) ⟨_, _, _, _, _, _, _, _, _, _, _, _, _, _, xl_BadNumber⟩ xs_BadNumber xb_BadNumber xt_BadNumber xk_BadNumber
  have X_BadNumber : XIni P w K mg base 1 "BadNumber" C_BadNumber ["number"] := xini_mk1 baseVE E_BadNumber (PySem.W.mg_of X G nC_BadNumber) xi_BadNumber xf_BadNumber (src_mk (st := s_BadNumber_init) xg_BadNumber xc_BadNumber) (Binds.all fun us hl => match us, hl with | [_, _], _ => rfl) rfl sc_BadNumber_init xn_BadNumber_number (fun f cdv A outer s H E => pss_one (us_ost baseVE (pv 0) (pv 1)))
  let cx : Str → Addr := fun x => if x = "BadCount" then C_BadCount else if x = "BadName" then C_BadName else if x = "Taken" then C_Taken else C_BadNumber
  have cx_BadCount : cx "BadCount" = C_BadCount := if_pos rfl
  have Y_BadCount := cx_BadCount.symm ▸ X_BadCount
  have cx_BadName : cx "BadName" = C_BadName := (if_neg (by decide +kernel)).trans (if_pos rfl)
  have Y_BadName := cx_BadName.symm ▸ X_BadName
  have cx_Taken : cx "Taken" = C_Taken := (if_neg (by decide +kernel)).trans ((if_neg (by decide +kernel)).trans (if_pos rfl))
  have Y_Taken := cx_Taken.symm ▸ X_Taken
  have cx_BadNumber : cx "BadNumber" = C_BadNumber := (if_neg (by decide +kernel)).trans ((if_neg (by decide +kernel)).trans ((if_neg (by decide +kernel)).trans (rfl)))
  have Y_BadNumber := cx_BadNumber.symm ▸ X_BadNumber
  have G_MOST_COINS : Cst mg "MOST_COINS" (.int 5) := ⟨_, PySem.W.mg_of X G g_MOST_COINS, ⟨_, rfl⟩⟩
  have G_MOST_RATE : Cst mg "MOST_RATE" (.int 1000000000) := ⟨_, PySem.W.mg_of X G g_MOST_RATE, ⟨_, rfl⟩⟩
  have G_MOST_HOUSES : Cst mg "MOST_HOUSES" (.int 8) := ⟨_, PySem.W.mg_of X G g_MOST_HOUSES, ⟨_, rfl⟩⟩
  have G_MOST_SHARES : Cst mg "MOST_SHARES" (.int 1000000) := ⟨_, PySem.W.mg_of X G g_MOST_SHARES, ⟨_, rfl⟩⟩
  have U_World : Cls K C_World := ⟨pg_World, hd_World, po_World, sa_World⟩
  have T_World : WorldC K C_World := ⟨U_World, na_World_first_rates, na_World_first_shares⟩
  have D_law_cell : Dfn K mg "_law_cell" s_law_cell P_law_cell [] := dfn_mk X G (fun us hl => match us, hl with | [_, _], _ => rfl) a1 l1 c1 k1
  have C_law_cell := cal_law_cell (P := P) (w := w) (base := base) D_law_cell B
  have D_law_digits : Dfn K mg "_law_digits" s_law_digits P_law_digits [] := dfn_mk X G (fun us hl => match us, hl with | [_, _, _], _ => rfl) a2 l2 c2 k2
  have C_law_digits := cal_law_digits D_law_digits B C_law_cell
  have D_law_names : Dfn K mg "_law_names" s_law_names P_law_names [] := dfn_mk X G (fun us hl => match us, hl with | [_, _, _], _ => rfl) a3 l3 c3 k3
  have C_law_names := cal_law_names D_law_names B C_law_digits
  have D_law_same : Dfn K mg "_law_same" s_law_same P_law_same [] := dfn_mk X G (fun us hl => match us, hl with | [_, _], _ => rfl) a4 l4 c4 k4
  have C_law_same := cal_law_same (P := P) (w := w) (base := base) D_law_same B
  have D_law_world : Dfn K mg "_law_world" s_law_world P_law_world [] := dfn_mk X G (fun us hl => match us, hl with | [_, _, _, _], _ => rfl) a5 l5 c5 k5
  have C_law_world := cal_law_world D_law_world B C_law_digits C_law_names
  have D_is_name : Dfn K mg "is_name" s_is_name P_is_name [] := dfn_mk X G (fun us hl => match us, hl with | [_], _ => rfl) a6 l6 c6 k6
  have C_is_name := cal_is_name (P := P) (w := w) (base := base) D_is_name B
  have D_need_rows : Dfn K mg "need_rows" s_need_rows P_need_rows [] := dfn_mk X G (fun us hl => match us, hl with | [_, _, _], _ => rfl) a7 l7 c7 k7
  have C_need_rows := cal_need_rows (cx := cx) D_need_rows B C_is_name Y_BadCount Y_BadName Y_Taken Y_BadNumber
  have D_World_init : Idf K mg "World" C_World "World.__init__" s_World_init P_World_init [] := idf_mk X G (fun us hl => match us, hl with | [_, _, _], _ => rfl) nC_World mk8 kc8 a8 i8 l8 c8
  have C_World_init := mkr_World D_World_init T_World B C_need_rows G_MOST_COINS G_MOST_RATE G_MOST_HOUSES G_MOST_SHARES
  have D_World_coin_rows : Mdf K C_World "coin_rows" "World.coin_rows" s_World_coin_rows P_World_coin_rows [] := mdf_mk U_World (fun us hl => match us, hl with | [_], _ => rfl) a9 i9 l9 c9 k9
  have C_World_coin_rows := mtd_coin_rows (P := P) (w := w) (base := base) D_World_coin_rows T_World B
  have D_World_house_rows : Mdf K C_World "house_rows" "World.house_rows" s_World_house_rows P_World_house_rows [] := mdf_mk U_World (fun us hl => match us, hl with | [_], _ => rfl) a10 i10 l10 c10 k10
  have C_World_house_rows := mtd_house_rows (P := P) (w := w) (base := base) D_World_house_rows T_World B
  exact fn_law (src_mk (st := s_law) l11 c11) B T_World C_law_digits C_law_world C_law_same C_World_init C_World_coin_rows C_World_house_rows
end Rf
open PySem PySem.W PyProof.Rows
set_option maxRecDepth 100000 in
set_option maxHeartbeats 0 in
theorem PySem.Challenge.cw_oneroof_k07_worlds_told_holds : PySem.Challenge.rw_oneroof_k07_worlds_told.Holds := by
  w_on; o_law; k_head; (case hw => w_witness2)
  k_fill
  refine Rf.walk_fn (l := PySem.Challenge.rw_oneroof_k07_worlds_told) (n := 63) (k := 6) (x := "_law_script") (sp := Rf.spLaw) rfl (by decide) rfl ⟨rfl, by decide, by decide⟩ (fun w h Y => PySem.W.kIn_of Y) ?F (fun K H a ns _ _ hS => ⟨a, ns, rfl, hS, fun _ => rfl⟩)
  case F =>
    intro w mg fa h KX G hmg
    refine' Rf.all_mk KX G hmg ?nC_RoofError ?nC_BadCount ?xl_BadCount ?xs_BadCount ?xb_BadCount ?xt_BadCount ?xk_BadCount ?xi_BadCount ?xf_BadCount ?xg_BadCount ?xc_BadCount ?xn_BadCount_count ?nC_BadName ?xl_BadName ?xs_BadName ?xb_BadName ?xt_BadName ?xk_BadName ?xi_BadName ?xf_BadName ?xg_BadName ?xc_BadName ?xn_BadName_name ?nC_Taken ?xl_Taken ?xs_Taken ?xb_Taken ?xt_Taken ?xk_Taken ?xi_Taken ?xf_Taken ?xg_Taken ?xc_Taken ?xn_Taken_name ?nC_BadNumber ?xl_BadNumber ?xs_BadNumber ?xb_BadNumber ?xt_BadNumber ?xk_BadNumber ?xi_BadNumber ?xf_BadNumber ?xg_BadNumber ?xc_BadNumber ?xn_BadNumber_number ?g_MOST_COINS ?g_MOST_RATE ?g_MOST_HOUSES ?g_MOST_SHARES ?nC_World ?pg_World ?hd_World ?po_World ?sa_World ?na_World_first_rates ?na_World_first_shares ?a1 ?l1 ?c1 ?k1 ?a2 ?l2 ?c2 ?k2 ?a3 ?l3 ?c3 ?k3 ?a4 ?l4 ?c4 ?k4 ?a5 ?l5 ?c5 ?k5 ?a6 ?l6 ?c6 ?k6 ?a7 ?l7 ?c7 ?k7 ?a8 ?i8 ?l8 ?c8 ?mk8 ?kc8 ?a9 ?i9 ?l9 ?c9 ?k9 ?a10 ?i10 ?l10 ?c10 ?k10 ?a11 ?l11 ?c11 ?k11 ?z_len ?z_range ?z_abs ?z_max ?z_min ?z_sorted ?z_isinstance ?z_repr ?z_list ?z_dict ?z_str ?z_int ?z_bool ?z_tuple ?z_all ?z_any ?z_sum ?z_enumerate ?z_zip
    (case nC_RoofError => k_is)
    (case nC_BadCount => k_is)
    (case xl_BadCount => k_is)
    (case xs_BadCount => k_is)
    (case xb_BadCount => k_is)
    (case xt_BadCount => k_is)
    (case xk_BadCount => k_is)
    (case xi_BadCount => k_is)
    (case xf_BadCount => k_is)
    (case xg_BadCount => k_is)
    (case xc_BadCount => k_is)
    (case xn_BadCount_count => k_is)
    (case nC_BadName => k_is)
    (case xl_BadName => k_is)
    (case xs_BadName => k_is)
    (case xb_BadName => k_is)
    (case xt_BadName => k_is)
    (case xk_BadName => k_is)
    (case xi_BadName => k_is)
    (case xf_BadName => k_is)
    (case xg_BadName => k_is)
    (case xc_BadName => k_is)
    (case xn_BadName_name => k_is)
    (case nC_Taken => k_is)
    (case xl_Taken => k_is)
    (case xs_Taken => k_is)
    (case xb_Taken => k_is)
    (case xt_Taken => k_is)
    (case xk_Taken => k_is)
    (case xi_Taken => k_is)
    (case xf_Taken => k_is)
    (case xg_Taken => k_is)
    (case xc_Taken => k_is)
    (case xn_Taken_name => k_is)
    (case nC_BadNumber => k_is)
    (case xl_BadNumber => k_is)
    (case xs_BadNumber => k_is)
    (case xb_BadNumber => k_is)
    (case xt_BadNumber => k_is)
    (case xk_BadNumber => k_is)
    (case xi_BadNumber => k_is)
    (case xf_BadNumber => k_is)
    (case xg_BadNumber => k_is)
    (case xc_BadNumber => k_is)
    (case xn_BadNumber_number => k_is)
    (case g_MOST_COINS => k_is)
    (case g_MOST_RATE => k_is)
    (case g_MOST_HOUSES => k_is)
    (case g_MOST_SHARES => k_is)
    (case nC_World => k_is)
    (case pg_World => k_is)
    (case hd_World => k_is)
    (case po_World => k_is)
    (case sa_World => k_is)
    (case na_World_first_rates => k_is)
    (case na_World_first_shares => k_is)
    (case a1 => k_is)
    (case l1 => k_is)
    (case c1 => k_is)
    (case k1 => k_is)
    (case a2 => k_is)
    (case l2 => k_is)
    (case c2 => k_is)
    (case k2 => k_is)
    (case a3 => k_is)
    (case l3 => k_is)
    (case c3 => k_is)
    (case k3 => k_is)
    (case a4 => k_is)
    (case l4 => k_is)
    (case c4 => k_is)
    (case k4 => k_is)
    (case a5 => k_is)
    (case l5 => k_is)
    (case c5 => k_is)
    (case k5 => k_is)
    (case a6 => k_is)
    (case l6 => k_is)
    (case c6 => k_is)
    (case k6 => k_is)
    (case a7 => k_is)
    (case l7 => k_is)
    (case c7 => k_is)
    (case k7 => k_is)
    (case a8 => k_is)
    (case i8 => k_is)
    (case l8 => k_is)
    (case c8 => k_is)
    (case mk8 => k_is)
    (case kc8 => k_is)
    (case a9 => k_is)
    (case i9 => k_is)
    (case l9 => k_is)
    (case c9 => k_is)
    (case k9 => k_is)
    (case a10 => k_is)
    (case i10 => k_is)
    (case l10 => k_is)
    (case c10 => k_is)
    (case k10 => k_is)
    (case a11 => k_is)
    (case l11 => k_is)
    (case c11 => k_is)
    (case k11 => k_is)
    (case z_len => k_is)
    (case z_range => k_is)
    (case z_abs => k_is)
    (case z_max => k_is)
    (case z_min => k_is)
    (case z_sorted => k_is)
    (case z_isinstance => k_is)
    (case z_repr => k_is)
    (case z_list => k_is)
    (case z_dict => k_is)
    (case z_str => k_is)
    (case z_int => k_is)
    (case z_bool => k_is)
    (case z_tuple => k_is)
    (case z_all => k_is)
    (case z_any => k_is)
    (case z_sum => k_is)
    (case z_enumerate => k_is)
    (case z_zip => k_is)
