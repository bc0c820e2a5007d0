import PyProof.Rows.All
import Wide.All
import OpenK.AllK
import Wide.FinOn
import HandS.ForMost
import HandS.ForExc
import HandS.Wide
import HandS.NoneIn
import HandS.IsInst
import HandS.More
import HandS.RaiseMore
import HandS.DictComp
import HandS.ListItems
import HandS.CallSlots
import HandS.FStr
import HandS.Walk
import HandS.Evl
import PySem.Challenge.RW_oneroof_k13_inner_links
set_option Elab.async false
set_option linter.all false
set_option maxRecDepth 100000
set_option maxHeartbeats 4000000
namespace Rf
open PySem PySem.Spec PyProof.Rows L2
/-! ## operators whatever the kinds of the operands are -/
section
variable {X : Cx}
abbrev rStrAdd : R2 := fun x y H Q => ∃ i j, x = .str i ∧ y = .str j ∧ i.length + j.length ≤ sizeLine ∧ Q (.str (i ++ j)) H
def uAdd : R2 := fun x y H Q => rI0 (fun i j => .int (i + j)) x y H Q ∨ (rStrAdd x y H Q ∨ rCat x y H Q)
theorem uq_add : OpR X (binaryOp .Add) uAdd := OpR.or op_add (OpR.or op_add_str op_cat)
def uSub : R2 := rI0 fun i j => .int (i - j)
theorem uq_sub : OpR X (binaryOp .Sub) uSub := op_sub
def uMul : R2 := fun x y H Q => rI CMul (fun i j => .int (i * j)) x y H Q ∨ rI CMulW (fun i j => .int (i * j)) x y H Q
theorem uq_mul : OpR X (binaryOp .Mult) uMul := OpR.or op_mul op_mulW
def uFdiv : R2 := fun x y H Q => rI CDiv (fun i j => .int (i / j)) x y H Q ∨ rI CDivW (fun i j => .int (i / j)) x y H Q
theorem uq_fdiv : OpR X (binaryOp .FloorDiv) uFdiv := OpR.or op_fdiv op_fdivW
def uMod : R2 := rI (fun _ j => 0 < j) fun i j => .int (i % j)
theorem uq_mod : OpR X (binaryOp .Mod) uMod := op_mod
def uPow : R2 := rI CPow fun i j => .int (i ^ j.toNat)
theorem uq_pow : OpR X (binaryOp .Pow) uPow := op_pow
def uLt : R2 := rI0 fun i j => .bl (decide (i < j))
theorem uq_lt : OpR X (compareOp .Lt) uLt := op_lt
def uLe : R2 := rI0 fun i j => .bl (decide (i ≤ j))
theorem uq_le : OpR X (compareOp .LtE) uLe := op_le
def uGt : R2 := rI0 fun i j => .bl (decide (j < i))
theorem uq_gt : OpR X (compareOp .Gt) uGt := op_gt
def uGe : R2 := rI0 fun i j => .bl (decide (j ≤ i))
theorem uq_ge : OpR X (compareOp .GtE) uGe := op_ge
def uEq (K : PySem.W.Frag) : R2 := fun x y H Q => rEq x y H Q ∨ (rEqD K x y H Q ∨ rEqDA x y H Q)
theorem uq_eq {K : PySem.W.Frag} {k : Nat} (hr : Room k X.A) (hK : X.K = K := by rfl) : OpR X (compareOp .Eq) (uEq K) := by subst hK; exact OpR.or op_eq (OpR.or (op_eqD hr.units) (op_eq_dictA hr.units0))
def uNe (K : PySem.W.Frag) : R2 := fun x y H Q => rNe x y H Q ∨ (rNeD K x y H Q ∨ rNeDA x y H Q)
theorem uq_ne {K : PySem.W.Frag} {k : Nat} (hr : Room k X.A) (hK : X.K = K := by rfl) : OpR X (compareOp .NotEq) (uNe K) := by subst hK; exact OpR.or op_ne (OpR.or (op_neD hr.units) (op_ne_dictA hr.units0))
/-- y in a dict, by values -/
def rDIn : R2 := fun y x H Q => ∃ a o, x = .ref a ∧ DGet H a y o ∧ Q (.bl o.isSome) H
def rDNotIn : R2 := fun y x H Q => ∃ a o, x = .ref a ∧ DGet H a y o ∧ Q (.bl (!o.isSome)) H
theorem op_dIn (hu : X.A.units + 1 < cLine) : OpR X (compareOp .In) rDIn := by
  intro pins s σ H y x iv u Q I ry rx h
  obtain ⟨a, ov, ex, g, q⟩ := h
  subst ex
  cases (show u = Value.ref a from rx)
  exact d_in hu I g ry fun s3 I3 => ⟨.bl ov.isSome, H, I3, rfl, q⟩
theorem op_dNotIn (hu : X.A.units + 1 < cLine) : OpR X (compareOp .NotIn) rDNotIn := by
  intro pins s σ H y x iv u Q I ry rx h
  obtain ⟨a, ov, ex, g, q⟩ := h
  subst ex
  cases (show u = Value.ref a from rx)
  exact d_notIn hu I g ry fun s3 I3 => ⟨.bl (!ov.isSome), H, I3, rfl, q⟩
abbrev rSignIn : R2 := fun x y H Q => ∃ (c : Nat) (z : Str), x = .str ⟨#[c]⟩ ∧ y = .str z ∧ Q (.bl (decide (c ∈ z.cps.toList))) H
abbrev rSignNotIn : R2 := fun x y H Q => ∃ (c : Nat) (z : Str), x = .str ⟨#[c]⟩ ∧ y = .str z ∧ Q (.bl (!decide (c ∈ z.cps.toList))) H
def uIn (K : PySem.W.Frag) : R2 := fun x y H Q => rDIn x y H Q ∨ (rIn K false x y H Q ∨ rSignIn x y H Q)
theorem uq_in {K : PySem.W.Frag} (hu : X.A.units + 1 < cLine) (hK : X.K = K := by rfl) : OpR X (compareOp .In) (uIn K) := by subst hK; exact OpR.or (op_dIn hu) (OpR.or op_in_seq op_in_sign)
def uNotIn (K : PySem.W.Frag) : R2 := fun x y H Q => rDNotIn x y H Q ∨ (rIn K true x y H Q ∨ rSignNotIn x y H Q)
theorem uq_notin {K : PySem.W.Frag} (hu : X.A.units + 1 < cLine) (hK : X.K = K := by rfl) : OpR X (compareOp .NotIn) (uNotIn K) := by subst hK; exact OpR.or (op_dNotIn hu) (OpR.or op_notIn_seq op_notIn_sign)
def uIs : R2 := fun x y H Q => y = .non ∧ Q (.bl (decide (x = .non))) H
theorem uq_is : OpR X (compareOp .Is) uIs := op_isN
def uIsNot : R2 := fun x y H Q => y = .non ∧ Q (.bl (!decide (x = .non))) H
theorem uq_isnot : OpR X (compareOp .IsNot) uIsNot := op_notN
/-! ## subscripts -/
def rIxDict : R2 := fun x y H Q => ∃ a v, x = .ref a ∧ DGet H a y (some v) ∧ Q v H
theorem ix_dict (hu : X.A.units + 1 < cLine) : IxR X rIxDict := by
  intro value slice pins s σ H x y v u Q I rx ry h hs
  obtain ⟨a, w, ex, g, q⟩ := h
  subst ex
  cases (show v = Value.ref a from rx)
  have hT := dict_typeIs I g
  unfold subscriptTail
  refine wpAny_bind ?_
  rw [getitemInPython_of_ne hT.not_modules]
  refine wpAny_bind (wpAny_specialOf hT PySem.F.slot_dict_getitem.lookup ?_)
  have fin : wpAny (model X.prog X.w) X.A (subscripted slice false (.ref a) u) (fun r s₃ => wpAny (model X.prog X.w) X.A (letTemporaryGo value (.ref a) r >>= fun _ => pure r) (EP X pins σ Q) X.xe s₃) X.xe s := by
    rw [hs]
    exact wpAny_operating (d_getItem hu I g ry fun w' s3 I3 rw' => wpAny_bind (wpAny_letTemporaryGo (wpAny_pure ⟨w, H, I3, rw', q⟩)))
  first
    | exact wpAny_pure (wpAny_bind fin)
    | exact wpAny_bind (wpAny_pure (wpAny_bind fin))
    | exact wpAny_bind fin
def uIx (K : PySem.W.Frag) : R2 := fun x y H Q => rIxL K x y H Q ∨ (rIxT K x y H Q ∨ (rIxS x y H Q ∨ rIxDict x y H Q))
theorem uq_ix {K : PySem.W.Frag} (hu : X.A.units + 1 < cLine) (hK : X.K = K := by rfl) : IxR X (uIx K) := by subst hK; exact IxR.or ix_list (IxR.or ix_tup (IxR.or ix_str (ix_dict hu)))
def uSl (K : PySem.W.Frag) : V → Option Int → Option Int → Hp → VK → Prop := fun x lo hi H Q => rSlL K x lo hi H Q ∨ (rSlS x lo hi H Q ∨ rSlT K x lo hi H Q)
theorem uq_sl {K : PySem.W.Frag} (hK : X.K = K := by rfl) : SlR X (uSl K) := by subst hK; exact SlR.or sl_list (SlR.or sl_str sl_tup)
/-! ## stores -/
def rSetD : V → V → V → Hp → (Hp → Prop) → Prop := fun o y v H Q => ∃ a H', o = .ref a ∧ DPut H a y v H' ∧ Q H'
def uSet : V → V → V → Hp → (Hp → Prop) → Prop := fun o i v H Q => rSetL o i v H Q ∨ rSetD o i v H Q
/-! ## calls of built-ins -/
abbrev rLenD : List V → Hp → VK → Prop := fun xs H Q => ∃ a kvs, xs = [V.ref a] ∧ H a = some (.dK kvs) ∧ Q (.int kvs.length) H
def uLen (K : PySem.W.Frag) : List V → Hp → VK → Prop := fun xs H Q => (∃ x n, xs = [x] ∧ LenV K x H n ∧ Q (.int n) H) ∨ rLenD xs H Q
theorem uc_len {K : PySem.W.Frag} (hK : X.K = K := by rfl) : CallR X (.builtin "len") (uLen K) := by subst hK; exact CallR.or call_len call_lenD
def uAbs : List V → Hp → VK → Prop := fun xs H Q => ∃ i, xs = [.int i] ∧ Q (.int (if i < 0 then -i else i)) H
theorem uc_abs : CallR X (.builtin "abs") uAbs := call_abs
def uMax2 : List V → Hp → VK → Prop := fun xs H Q => ∃ i j, xs = [.int i, .int j] ∧ Q (.int (if j > i then j else i)) H
def uMin2 : List V → Hp → VK → Prop := fun xs H Q => ∃ i j, xs = [.int i, .int j] ∧ Q (.int (if j < i then j else i)) H
theorem uc_max2 (hc : X.calm = true := by rfl) : CallR X (.builtin "max") uMax2 := call_max2 hc
theorem uc_min2 (hc : X.calm = true := by rfl) : CallR X (.builtin "min") uMin2 := call_min2 hc
end
end Rf

namespace Rf
open PySem PySem.Spec PyProof.Rows L2
/-! ## a def's promise where nothing is being shown (no repr runs around) and exceptions may leave -/
abbrev Quiet (A : Around) : Prop := A.guards = some []
structure Fn (P : Program) (w : World) (K : PySem.W.Frag) (mg : Str → Option Value) (base : Heap) (k : Nat) (f : Addr) (fd : FuncData) (ps : List Str) (sp : Sp) : Prop where
  len : ∀ vs H Q E, sp vs H Q E → vs.length = ps.length
  go : ∀ (A : Around) (outer : List Env) (s : Shared) (H : Hp) (args : Args) (us : List Value) (vs : List V) (Q : VK) (E : XK), Room k A → Quiet A →
    Env0 P w K mg base A outer s H → BindsTo s fd args (ps.zip us) → Vals vs us → sp vs H Q E →
    codeAny (model P w) A (.call (.ref f) args) (CR (L2.CX P w) outer P w H s Q E) s
section
variable {P : Program} {w : World} {K : PySem.W.Frag} {mg : Str → Option Value} {base : Heap}
theorem Fn.up {i j : Nat} {f : Addr} {fd : FuncData} {ps : List Str} {sp : Sp} (F : Fn P w K mg base i f fd ps sp) (h : i ≤ j) : Fn P w K mg base j f fd ps sp :=
  ⟨F.len, fun A outer s H args us vs Q E hr => F.go A outer s H args us vs Q E (hr.mono h)⟩
theorem Fn.weak {i : Nat} {f : Addr} {fd : FuncData} {ps : List Str} {sp sp' : Sp} (F : Fn P w K mg base i f fd ps sp) (h : ∀ vs H Q E, sp' vs H Q E → sp vs H Q E) : Fn P w K mg base i f fd ps sp' :=
  ⟨fun vs H Q E q => F.len vs H Q E (h _ _ _ _ q), fun A outer s H args us vs Q E hr hG he hb hv hs => F.go A outer s H args us vs Q E hr hG he hb hv (h _ _ _ _ hs)⟩
/-- a def of the text by its body -/
theorem fn_body {k : Nat} {f : Addr} {name qual : Str} {params : Arguments} {body : List Stmt} {scope : Scope} {dV kV doc pm cdv ct oc : Value} {an od : Option Addr} {osl : Array (Option Value)} {N ps : List Str} {sp : Sp}
    (hf : K.lookup f = some ⟨oc, od, .func (PySem.W.fnOf name qual params body scope dV kV doc pm an cdv ct), osl⟩) (hcode : PySem.W.codeIn K cdv qual = true) (S : FnScope N ps scope)
    (hlen : ∀ vs H Q E, sp vs H Q E → vs.length = ps.length)
    (hb : ∀ (A : Around) (outer : List Env) (s : Shared) (H : Hp) (vs : List V) (Q : VK) (E : XK), Room k (A.deeper (envOfC qual scope s.heap.objs.size f cdv)) → Quiet (A.deeper (envOfC qual scope s.heap.objs.size f cdv)) → sp vs H Q E →
      ∃ t, PSs (cxOf (L2.CX P w) P w K mg base N qual scope f cdv A outer s H E) body t ∧ t { nx := fun _ H' => Q .non H', rt := Q } (start N vs) H) :
    Fn P w K mg base (k + 1) f (PySem.W.fnOf name qual params body scope dV kV doc pm an cdv ct) ps sp := by
  refine ⟨hlen, ?_⟩
  intro A outer s H args us vs Q E hr hG e0 hbind r hsp
  have hin : K.In s.heap := e0.mod.kin.keeps fun b o e => (e0.bs b o e).1
  have hnl : s.heap.NoLimit := e0.mod.nolimit.keeps fun b o e => (e0.bs b o e).1
  have hnames : ∀ y ∈ ps.zip us, scope.names.lookup y.1 = some .local ∨ (scope.names.lookup y.1 = some .cell ∧ ((cellsFrom (s.heap.objs.size + 1) scope.names []).lookup y.1).isSome = true) := by
    rintro ⟨n, v⟩ hy
    cases S.par n (List.of_mem_zip hy).1 with
    | inl q => exact Or.inl q
    | inr q => exact Or.inr ⟨q, PySem.W.cellsFrom_some _ _ _ (Or.inl q)⟩
  refine codeAny_call_function hr.depth (hin _ _ hf) rfl S.co S.gen rfl (PySem.W.codeRec_of hin hcode) (hbind _ _ _ _ ?_)
  refine wpAny_newFunctionEnv_cells S.kind hnames fun env he s1 x => ?_
  subst he
  refine ⟨hnl.keeps x.toInCall.keep, codeAny_func ?_⟩
  obtain ⟨t, ht, hq⟩ := hb A outer s H vs Q E (hr.deeper _) hG hsp
  have I0 := inv_start (CX := L2.CX P w) (E := E) S hr.hd e0 (hlen _ _ _ _ hsp) r x
  refine wpAny_mono (ht.run [] s1 (start N vs) H _ I0 hq) ?_ (fun e s' hs => hs)
  intro fl s' hs
  cases fl with
  | ret u =>
    obtain ⟨v, σ', H', J, rv, q⟩ := hs
    exact ⟨v, H', J.os, J.bare, J.base, J.hok, rv, q⟩
  | next =>
    obtain ⟨σ', H', J, q⟩ := hs
    exact ⟨V.non, H', J.os, J.bare, J.base, J.hok, rfl, q⟩
  | brk =>
    obtain ⟨_, _, _, q⟩ := hs
    exact q.elim
  | cont =>
    obtain ⟨_, _, _, q⟩ := hs
    exact q.elim
/-- a def of the text, as it stands behind the top -/
structure Src (K : PySem.W.Frag) (x qual : Str) (st : Stmt) (f : Addr) (fd : FuncData) : Prop where
  ex : ∃ (oc : Value) (od : Option Addr) (dV kV doc pm : Value) (an : Option Addr) (cdv ct : Value) (osl : Array (Option Value)),
    fd = PySem.W.fnOf x qual (defArgs st) (defBody st) (defScope st) dV kV doc pm an cdv ct ∧ K.lookup f = some ⟨oc, od, .func fd, osl⟩ ∧ PySem.W.codeIn K cdv qual = true
theorem Src.fn {x qual : Str} {st : Stmt} {f : Addr} {fd : FuncData} {N ps : List Str} {k : Nat} {sp : Sp} (F : Src K x qual st f fd) (S : FnScope N ps (defScope st)) (hlen : ∀ vs H Q E, sp vs H Q E → vs.length = ps.length)
    (hb : ∀ (cdv : Value) (A : Around) (outer : List Env) (s : Shared) (H : Hp) (vs : List V) (Q : VK) (E : XK), Room k (A.deeper (envOfC qual (defScope st) s.heap.objs.size f cdv)) → Quiet (A.deeper (envOfC qual (defScope st) s.heap.objs.size f cdv)) → sp vs H Q E →
      ∃ t, PSs (cxOf (L2.CX P w) P w K mg base N qual (defScope st) f cdv A outer s H E) (defBody st) t ∧ t { nx := fun _ H' => Q .non H', rt := Q } (start N vs) H) : Fn P w K mg base (k + 1) f fd ps sp := by
  obtain ⟨oc, od, dV, kV, doc, pm, an, cdv, ct, osl, rfl, lk, hcd⟩ := F.ex
  exact fn_body lk hcd S hlen fun A outer s H vs Q E => hb cdv A outer s H vs Q E
/-- a def that may be called by its name with so many arguments (the rest dvs) -/
structure Cal (P : Program) (w : World) (K : PySem.W.Frag) (mg : Str → Option Value) (base : Heap) (k : Nat) (x : Str) (dvs : List V) (sp : Sp) : Prop where
  ex : ∃ (f : Addr) (fd : FuncData) (ps : List Str) (ds : List Value), Fn P w K mg base k f fd ps sp ∧ mg x = some (.ref f) ∧ PySem.W.keepIn K (.ref f) = true ∧ Binds K fd ps ds ∧ Vals dvs ds
/-- a method of the class at C -/
structure Mtd (P : Program) (w : World) (K : PySem.W.Frag) (mg : Str → Option Value) (base : Heap) (k : Nat) (C : Addr) (m : Str) (dvs : List V) (sp : Sp) : Prop where
  ex : ∃ (f : Addr) (fd : FuncData) (ps : List Str) (ds : List Value), Cls K C ∧ Meth K C m f ∧ Fn P w K mg base k f fd ps sp ∧ Binds K fd ps ds ∧ Vals dvs ds
/-- a class at C that may be made by its name -/
structure Mkr (P : Program) (w : World) (K : PySem.W.Frag) (mg : Str → Option Value) (base : Heap) (k : Nat) (x : Str) (C : Addr) (dvs : List V) (sp : Sp) : Prop where
  ex : ∃ (f : Addr) (fd : FuncData) (ps : List Str) (ds : List Value), Mk K C f ∧ Fn P w K mg base k f fd ps sp ∧ mg x = some (.ref C) ∧ Binds K fd ps ds ∧ Vals dvs ds
end
section
variable {X : Cx} {j k : Nat} {f C : Addr} {fd : FuncData} {ps : List Str} {sp : Sp} {dvs : List V} {ds : List Value} {E : L2.St → XK} {x m : Str} {p pos apos : Pos} {e o : Expr} {es : List Expr} {ta : TE} {t : TA}
abbrev Pas (X : Cx) (E : L2.St → XK) : Prop := ∀ σ, PassesAt (L2.CX X.prog X.w) X σ (E σ)
theorem run_def {pins : List (Addr × Obj)} {σ : L2.St} {H : Hp} {s : Shared} {Q : VK} {us : List Value} {vs : List V} (F : Fn X.prog X.w X.K X.mg X.base k f fd ps sp) (hr : Room k X.A) (hG : Quiet X.A) (hb : Binds X.K fd ps ds) (hd : Vals dvs ds)
    (hx : Pas X E) (I : Inv X pins σ H s) (r : Vals vs us) (h : sp (vs ++ dvs) H Q (E σ)) : wpAny (model X.prog X.w) X.A (call (.ref f) us) (EP X pins σ Q) X.xe s := by
  have rr : Vals (vs ++ dvs) (us ++ ds) := r.append hd
  have hl : (us ++ ds).length = ps.length := rr.length.symm.trans (F.len _ _ _ _ h)
  refine wpAny_call (codeAny_mono (F.go X.A X.stack s H ⟨us, []⟩ (us ++ ds) (vs ++ dvs) Q (E σ) hr hG I.env0 (hb s us I.kIn hl) rr h) ?_)
  rintro (e | fl) s' hq
  · exact hx σ pins H s e s' I hq
  · cases fl with
    | ret u => exact I.after hq
    | next => exact hq.elim
    | brk => exact hq.elim
    | cont => exact hq.elim
def uCall (sp : Sp) (dvs : List V) (E : L2.St → XK) (t : TA) : TE := fun σ H Q => t σ H fun vs H1 => sp (vs ++ dvs) H1 Q (E σ)
theorem ue_call (c : Cal X.prog X.w X.K X.mg X.base k x dvs sp) (hr : Room j X.A) (hk : k ≤ j) (hG : Quiet X.A) (hg : Gl X x) (hx : Pas X E) (ha : PA X (e :: es) t)
    (hdb : (x == ("__debug__" : Str)) = false := by decide) (he : starEach (e :: es) X.env = (false, eval e X.env) :: starEach es X.env := by rfl) (hpl : (backTo pos (starEach es X.env)).any (·.1) = false := by rfl) :
    PE X (.Call (.Name x p) (e :: es) [] pos) (uCall sp dvs E t) := by
  obtain ⟨f, fd, ps, ds, F, hm, kp, b, d⟩ := c.ex
  constructor
  intro pins s σ H Q I h
  refine wpAny_Call_Name_kw (ld_glob I hg hm ?_ hdb)
  refine PySem.W.callWith_K (h₀ := X.base) I.ok.mod.kin kp (thn (ha.run pos pins s σ H _ I h) ?_) he hpl
  rintro us s1 ⟨vs, H1, I1, r, q⟩
  exact ⟨I1.kIn, run_def F (hr.mono hk) hG b d hx I1 r q⟩
theorem ue_call0 (c : Cal X.prog X.w X.K X.mg X.base k x dvs sp) (hr : Room j X.A) (hk : k ≤ j) (hG : Quiet X.A) (hg : Gl X x) (hx : Pas X E) (hdb : (x == ("__debug__" : Str)) = false := by decide) :
    PE X (.Call (.Name x p) [] [] pos) (uCall sp dvs E tNil) := by
  obtain ⟨f, fd, ps, ds, F, hm, kp, b, d⟩ := c.ex
  constructor
  intro pins s σ H Q I h
  refine wpAny_Call_Name_kw (ld_glob I hg hm ?_ hdb)
  exact PySem.W.callWith_K0 I.kIn kp (run_def (us := []) F (hr.mono hk) hG b d hx I .nil h)
/-- o.m(..) -/
def uMeth (C : Addr) (m : Str) (sp : Sp) (dvs : List V) (E : L2.St → XK) (ta : TE) (t : TA) : TE := fun σ H Q => ta σ H fun x H1 => ∃ a dx fs, x = .ref a ∧ H1 a = some (.ins C dx fs) ∧ fs.lookup m = none ∧ t σ H1 fun vs H2 => sp (x :: (vs ++ dvs)) H2 Q (E σ)
theorem ue_meth {pl : Sem Bool} (he : PE X o ta) (c : Mtd X.prog X.w X.K X.mg X.base k C m dvs sp) (hr : Room j X.A) (hk : k ≤ j) (hG : Quiet X.A) (hx : Pas X E) (ha : PA X (e :: es) t)
    (hst : starEach (e :: es) X.env = (false, eval e X.env) :: starEach es X.env := by rfl) (hpl : (backTo pos (starEach es X.env)).any (·.1) = false := by rfl)
    (ht : eval (.Call (.Attribute o m apos) (e :: es) [] pos) X.env = (do
      let ov ← eval o X.env; standAt apos.atName; let (f, first) ← holding [ov] (getMethod ov m pl); callWith pos f first (backTo pos (starEach (e :: es) X.env)) (backToKw pos (keywordEach [] X.env))) := by rfl) :
    PE X (.Call (.Attribute o m apos) (e :: es) [] pos) (uMeth C m sp dvs E ta t) := by
  obtain ⟨f, fd, ps, ds, cc, hm, F, b, d⟩ := c.ex
  constructor
  intro pins s σ H Q I h
  refine PySem.W.methodCall_KW (pl := pl) (thn (he.run pins s σ H _ I h) ?_) ht
  rintro u s1 ⟨y, H1, I1, rx, a, dx, fs, ex, ea, l, q⟩
  subst ex
  cases (show u = Value.ref a from rx)
  refine getmeth_ok I1 ea cc hm l ?_
  refine PySem.W.callWith_K (first := [.ref a]) (h₀ := X.base) I.ok.mod.kin hm.kp (thn (ha.run pos pins s1 σ H1 _ I1 q) ?_) hst hpl
  rintro us s2 ⟨vs, H2, I2, r, q2⟩
  exact ⟨I2.kIn, run_def (us := .ref a :: us) (vs := .ref a :: vs) F (hr.mono hk) hG b d hx I2 (.cons rfl r) q2⟩
theorem ue_meth0 {pl : Sem Bool} (he : PE X o ta) (c : Mtd X.prog X.w X.K X.mg X.base k C m dvs sp) (hr : Room j X.A) (hk : k ≤ j) (hG : Quiet X.A) (hx : Pas X E)
    (ht : eval (.Call (.Attribute o m apos) [] [] pos) X.env = (do
      let ov ← eval o X.env; standAt apos.atName; let (f, first) ← holding [ov] (getMethod ov m pl); callWith pos f first (backTo pos (starEach [] X.env)) (backToKw pos (keywordEach [] X.env))) := by rfl) :
    PE X (.Call (.Attribute o m apos) [] [] pos) (uMeth C m sp dvs E ta tNil) := by
  obtain ⟨f, fd, ps, ds, cc, hm, F, b, d⟩ := c.ex
  constructor
  intro pins s σ H Q I h
  refine PySem.W.methodCall_KW (pl := pl) (thn (he.run pins s σ H _ I h) ?_) ht
  rintro u s1 ⟨y, H1, I1, rx, a, dx, fs, ex, ea, l, q⟩
  subst ex
  cases (show u = Value.ref a from rx)
  refine getmeth_ok I1 ea cc hm l ?_
  exact PySem.W.callWith_K0 (first := [.ref a]) I1.kIn hm.kp (run_def (us := [.ref a]) (vs := [.ref a]) F (hr.mono hk) hG b d hx I1 (.cons rfl .nil) q)
/-- C(..) -/
def uMake (C : Addr) (sp : Sp) (dvs : List V) (E : L2.St → XK) (t : TA) : TE := fun σ H Q => t σ H fun vs H1 => ∀ x dx, H1 x = none → H1 dx = none → dx ≠ x →
  sp (.ref x :: (vs ++ dvs)) (upd (upd H1 dx (.own x)) x (.ins C dx [])) (fun v H2 => v = .non ∧ Q (.ref x) H2) (E σ)
theorem make_quiet {A : Around} {us : List Value} {kw : List (Str × Value)} (h : Quiet A) : Quiet (A.under (.builtin "type.__call__" ⟨.ref C :: us, kw⟩)) := by
  unfold Quiet at h ⊢
  first
    | exact h
    | simpa [Around.under, Code.guards, Code.isGuard, guardIds] using h
theorem run_new {pins : List (Addr × Obj)} {σ : L2.St} {H : Hp} {s : Shared} {Q : VK} {us : List Value} {vs : List V} (M : Mk X.K C f) (F : Fn X.prog X.w X.K X.mg X.base k f fd ps sp) (hr : Room (k + 1) X.A) (hG : Quiet X.A) (hb : Binds X.K fd ps ds) (hd : Vals dvs ds)
    (hx : Pas X E) (I : Inv X pins σ H s) (r : Vals vs us)
    (h : ∀ x dx, H x = none → H dx = none → dx ≠ x → sp (.ref x :: (vs ++ dvs)) (upd (upd H dx (.own x)) x (.ins C dx [])) (fun v H2 => v = .non ∧ Q (.ref x) H2) (E σ)) :
    wpAny (model X.prog X.w) X.A (call (.ref C) us) (EP X pins σ Q) X.xe s := by
  have h0 := h (s.heap.objs.size + 1) s.heap.objs.size (I.hok.fresh (Nat.le_succ _)) (I.hok.fresh (Nat.le_refl _)) (Nat.ne_of_lt (Nat.lt_succ_self _))
  have J := Inv.made (C := C) I
  have rr : Vals (V.ref (s.heap.objs.size + 1) :: (vs ++ dvs)) (Value.ref (s.heap.objs.size + 1) :: (us ++ ds)) := .cons rfl (r.append hd)
  have hl : (Value.ref (s.heap.objs.size + 1) :: us ++ ds).length = ps.length := (rr.length.symm.trans (F.len _ _ _ _ h0))
  have run := F.go _ X.stack _ _ ⟨Value.ref (s.heap.objs.size + 1) :: us, []⟩ (Value.ref (s.heap.objs.size + 1) :: (us ++ ds)) _ _ (E σ) (hr.make C us []) (make_quiet hG) (J.env0.make C us []) (hb _ (Value.ref (s.heap.objs.size + 1) :: us) J.kIn hl) rr h0
  refine wpAny_call (make_map (f := f) I.kIn M.makes M.init (beq_iff_eq.mp M.fn) (codeAny_mono run ?_))
  rintro (e | fl) s' hq
  · exact hx σ pins _ _ e s' J hq
  · cases fl with
    | ret u =>
      obtain ⟨v, H', I3, rv, ev, q3⟩ := J.after hq
      subst ev
      exact ⟨rv, ⟨V.ref (s.heap.objs.size + 1), H', I3, rfl, q3⟩⟩
    | next => exact hq.elim
    | brk => exact hq.elim
    | cont => exact hq.elim
theorem ue_make (c : Mkr X.prog X.w X.K X.mg X.base k x C dvs sp) (hr : Room j X.A) (hk : k + 1 ≤ j) (hG : Quiet X.A) (hg : Gl X x) (hx : Pas X E) (ha : PA X (e :: es) t)
    (hdb : (x == ("__debug__" : Str)) = false := by decide) (he : starEach (e :: es) X.env = (false, eval e X.env) :: starEach es X.env := by rfl) (hpl : (backTo pos (starEach es X.env)).any (·.1) = false := by rfl) :
    PE X (.Call (.Name x p) (e :: es) [] pos) (uMake C sp dvs E t) := by
  obtain ⟨f, fd, ps, ds, M, F, hm, b, d⟩ := c.ex
  constructor
  intro pins s σ H Q I h
  refine wpAny_Call_Name_kw (ld_glob I hg hm ?_ hdb)
  refine PySem.W.callWith_K (h₀ := X.base) I.ok.mod.kin M.kp (thn (ha.run pos pins s σ H _ I h) ?_) he hpl
  rintro us s1 ⟨vs, H1, I1, r, q⟩
  exact ⟨I1.kIn, run_new M F (hr.mono hk) hG b d hx I1 r q⟩
theorem ue_make0 (c : Mkr X.prog X.w X.K X.mg X.base k x C dvs sp) (hr : Room j X.A) (hk : k + 1 ≤ j) (hG : Quiet X.A) (hg : Gl X x) (hx : Pas X E) (hdb : (x == ("__debug__" : Str)) = false := by decide) :
    PE X (.Call (.Name x p) [] [] pos) (uMake C sp dvs E tNil) := by
  obtain ⟨f, fd, ps, ds, M, F, hm, b, d⟩ := c.ex
  constructor
  intro pins s σ H Q I h
  refine wpAny_Call_Name_kw (ld_glob I hg hm ?_ hdb)
  exact PySem.W.callWith_K0 I.kIn M.kp (run_new (us := []) M F (hr.mono hk) hG b d hx I .nil h)
/-- what leaves a callee leaves the def; nothing leaves a callee -/
theorem PC : Pas X (fun _ => E0) := fun σ pins H s e s' I h => passL pins σ H s e s' I h
end
theorem PB {P : Program} {w : World} {K : PySem.W.Frag} {mg : Str → Option Value} {base : Heap} {N : List Str} {qual : Str} {scope : Scope} {f : Addr} {cd : Value} {A : Around} {outer : List Env} {s : Shared} {H : Hp} {E : XK} :
    Pas (cxOf (L2.CX P w) P w K mg base N qual scope f cd A outer s H E) (fun _ => E) := fun σ => passAt (W := fun cls d _ H => E cls d H) (takes_of rfl rfl rfl rfl) σ
theorem PW {P : Program} {w : World} {K : PySem.W.Frag} {mg : Str → Option Value} {base : Heap} {N : List Str} {qual : Str} {scope : Scope} {f : Addr} {cd : Value} {A : Around} {outer : List Env} {s : Shared} {H : Hp} {E : XK} :
    PassesOwn (model (cxOf (L2.CX P w) P w K mg base N qual scope f cd A outer s H E).prog (cxOf (L2.CX P w) P w K mg base N qual scope f cd A outer s H E).w) (cxOf (L2.CX P w) P w K mg base N qual scope f cd A outer s H E).A (cxOf (L2.CX P w) P w K mg base N qual scope f cd A outer s H E).env (cxOf (L2.CX P w) P w K mg base N qual scope f cd A outer s H E).xe := passes_of rfl
end Rf

namespace Rf
open PySem PySem.Spec PyProof.Rows L2
/-! ## the end of a law's row -/
theorem law_run {P : Program} {w : World} {K : PySem.W.Frag} {mg mb : Str → Option Value} {k : Nat} {fa a : Addr} {fd : FuncData} {x : Str} {sp : Sp} {s₁ : Shared} {vs : List Value} {ns : List Int}
    (KX : K.In s₁.heap) (hns : s₁.heap.Ns mainGlobals mg) (hb : s₁.heap.Ns builtinsNs mb) (hbb : ∀ x : Str, x ≠ "__name__" → mb x = bootBuiltins x) (hlim : s₁.heap.NoLimit) (hg : s₁.gens = #[])
    (ha : s₁.heap.get? a = some { cls := .type "list", data := .seq vs.toArray }) (hi : IntsAre vs ns) (hl : ns.length ≤ sizeLine) (hr : Room k callerA)
    (F : ∀ base : Heap, K.In base → base.Ns mainGlobals mg → Fn P w K mg base k fa fd [x] sp) (hbind : ∀ (s : Shared) (u : Value), BindsTo s fd ⟨[u], []⟩ [(x, u)])
    (hsp : ∀ H : Hp, Only H → SqL K H a (ns.map V.int) → sp [.ref a] H (fun v _ => v = .bl true) fun _ _ _ => False) :
    codeAny (model P w) callerA (.call (.ref fa) ⟨[.ref a], []⟩) (fun r s' => r = .ok (.ret (.bool true)) ∧ OldK s₁.heap s'.heap ∧ s'.os = s₁.os ∧ AllBare s'.gens) s₁ := by
  have rv := vals_ints hi
  have lenV := hi.length
  have main : ∀ H : Hp, Only H → SqL K H a (ns.map V.int) → HOk P w H s₁.heap → (∀ b, H b ≠ none → b = a) → (H a ≠ none → K.lookup a = none) →
      codeAny (model P w) callerA (.call (.ref fa) ⟨[.ref a], []⟩) (fun r s' => r = .ok (.ret (.bool true)) ∧ OldK s₁.heap s'.heap ∧ s'.os = s₁.os ∧ AllBare s'.gens) s₁ := by
    intro H hO hS hok hA hK
    have isA : ∀ {b : Addr} {u : HO}, H b = some u → b = a := fun {b u} q => hA b (by rw [q]; exact fun z => nomatch z)
    have noDict : ∀ {b : Addr} {o : Obj} {es : Array DictEntry} {ep : Nat}, s₁.heap.get? b = some o → o.data = .dict es ep → H b = none := by
      intro b o es ep e d
      cases q : H b with
      | none => rfl
      | some u =>
        cases isA q
        rw [ha] at e
        cases e
        cases (show Data.seq vs.toArray _ = Data.dict es ep from d)
    have ns' : ∀ {b : Addr} {m : Str → Option Value}, s₁.heap.Ns b m → (hidT s₁.heap H).Ns b m := by
      rintro b m ⟨o, es, ep, e, d, r⟩
      exact ⟨o, es, ep, hidT_get e (noDict e d), d, r⟩
    have hKb : K.In (hidT s₁.heap H) := by
      intro b o e
      refine hidT_get (KX b o e) ?_
      cases q : H b with
      | none => rfl
      | some u =>
        cases isA q
        rw [hK (by rw [q]; exact fun z => nomatch z)] at e
        cases e
    obtain ⟨mc, l1, l2⟩ := hlim
    have hM : Mod K mg (hidT s₁.heap H) := ⟨hKb, ns' hns, ⟨mb, ns' hb, hbb⟩, ⟨mc, ns' l1, l2⟩⟩
    have e0 : Env0 P w K mg (hidT s₁.heap H) callerA [] s₁ H := ⟨rfl, hM, fun _ _ e => of_hidT e, Nat.le_of_eq (hidT_size _ _), trivial, fun b z => absurd (show b ∈ ([] : List Addr) from z) (by simp), hok, .of_eq hg⟩
    refine codeAny_mono ((F _ hKb (ns' hns)).go callerA [] s₁ H ⟨[.ref a], []⟩ [.ref a] [.ref a] _ _ hr rfl e0 (hbind s₁ (.ref a)) (.cons rfl .nil) (hsp H hO hS)) ?_
    rintro (e | fl) s' h
    · obtain ⟨_, _, _, _, _, _, _, _, _, _, _, _, z⟩ := h
      exact z.elim
    · cases fl with
      | next => exact h.elim
      | brk => exact h.elim
      | cont => exact h.elim
      | ret u =>
        obtain ⟨v, H', os, bare, un, hok', r', q⟩ := h
        cases (show v = .bl true from q)
        cases (show u = Value.bool true from r')
        refine ⟨rfl, OldK.of_keep ?_, os, bare⟩
        intro b o e
        cases q : H b with
        | none => exact un.keep b o e q (fun z => absurd (show b ∈ ([] : List Addr) from z) (by simp)) (by simp)
        | some u =>
          rcases hO b with z | ⟨ob, xs, z⟩
          · rw [q] at z
            cases z
          · obtain ⟨e1, _⟩ := hok b _ z
            obtain ⟨e2, _⟩ := hok' b _ (un.frzs b ob _ z)
            rw [e] at e1
            cases e1
            exact e2
  cases hk : K.lookup a with
  | some o =>
    have e := KX a o hk
    rw [ha] at e
    cases e
    refine main (fun _ => none) (fun _ => Or.inl rfl) (Or.inr ⟨_, vs.toArray, _, hk, rfl, rfl, rfl, ?_, by simpa using rv⟩) ?_ ?_ ?_
    · rw [List.size_toArray, lenV]
      exact hl
    · intro b u z
      cases (show (none : Option HO) = some u from z)
    · exact fun b z => absurd rfl z
    · exact fun z => absurd rfl z
  | none =>
    refine main (fun b => if b = a then some (.frz { cls := .type "list", data := .seq vs.toArray } (.lst (ns.map V.int))) else none) ?_ (Or.inl (Or.inr ⟨{ cls := .type "list", data := .seq vs.toArray }, if_pos rfl⟩)) ?_ ?_ (fun _ => hk)
    · intro b
      by_cases hb : b = a
      · exact Or.inr ⟨_, _, if_pos hb⟩
      · exact Or.inl (if_neg hb)
    · intro b u z
      by_cases hb : b = a
      · cases (if_pos hb).symm.trans z
        subst hb
        exact ⟨ha, by rw [List.length_map]; exact hl, vs, _, rv, ha⟩
      · cases (if_neg hb).symm.trans z
    · intro b z
      by_cases hb : b = a
      · exact hb
      · exact absurd (if_neg hb) z
theorem walk_fn {l : PySem.W.OpenLaw} {n k : Nat} {q : Program} {loose : List Str} {XP : (Str → Option Value) → Heap → Prop} {YP : World → Heap → Prop} {d : DefRec} {K : Params → PySem.W.Frag} {sp : PySem.W.Frag → Sp} {x : Str}
    (hn : l.most = some n) (hn2 : n ≤ sizeLine) (hdf : d.params.defaults = []) (hr : Room k callerA) (hY : ∀ (w : World) (h : Heap), YP w h → (K w.params).In h)
    (F : ∀ (w : World) (mg : Str → Option Value) (fa : Addr) (h : Heap), (K w.params).In h → h.Ns mainGlobals mg → mg d.name = some (.ref fa) →
      ∃ fd : FuncData, (∀ (s : Shared) (u : Value), BindsTo s fd ⟨[u], []⟩ [(x, u)]) ∧ ∀ base : Heap, (K w.params).In base → base.Ns mainGlobals mg → Fn l.prog w (K w.params) mg base k fa fd [x] (sp (K w.params)))
    (hsp : ∀ (K : PySem.W.Frag) (H : Hp) (a : Addr) (ns : List Int), ns.length ≤ n → Only H → SqL K H a (ns.map V.int) → sp K [.ref a] H (fun v _ => v = .bl true) fun _ _ _ => False) :
    PySem.W.WalkO q loose XP YP l.row.toRowW d [] (fun f vs => PySem.call f vs) := by
  refine Att.attach_call hn hdf ?_
  intro w s₀ s₁ mg mb fa o pm cd doc a vs ns G Y ho hd hcd hmg hobj hints hlen hg
  have KX := hY w _ Y
  obtain ⟨fd, hb, hF⟩ := F w mg fa _ KX G.T.g hmg
  exact law_run KX G.T.g G.T.b G.T.builtins G.T.nolimit hg hobj hints (Nat.le_trans hlen hn2) hr hF hb fun H hO hS => hsp (K w.params) H a ns hlen hO hS
end Rf

namespace Rf
open PySem PySem.Spec PyProof.Rows L2
section
variable {X : Cx} {tg e : Expr} {te : TE} {pos : Pos}
/-! ## what is walked: a list, a tuple, a text -/
theorem PI.or {w1 w2 : TI} (h1 : PI X tg e w1) (h2 : PI X tg e w2) : PI X tg e (fun σ H R => w1 σ H R ∨ w2 σ H R) :=
  ⟨fun pins s σ H R I h => h.elim (h1.run pins s σ H R I) (h2.run pins s σ H R I)⟩
/-- a list, a tuple, a text, a dict's keys (the dict locked) -/
def uSeq (K : PySem.W.Frag) (te : TE) : TI := fun σ H R => te σ H fun x H1 => (∃ a, x = .ref a ∧ (∃ xs, SqL K H1 a xs) ∧ R (Itl K a) H1) ∨ ((∃ a, x = .ref a ∧ (∃ xs, SqT K H1 a xs) ∧ R (Itt K a) H1) ∨
  ((∃ z, x = .str z ∧ R (Its z) H1) ∨ (∃ d o kvs, x = .ref d ∧ H1 d = some (.frz o (.dK kvs)) ∧ R (Itk d o kvs) H1)))
theorem ui_seq {K : PySem.W.Frag} (h : PE X e te) (hK : X.K = K := by rfl) : PI X tg e (uSeq K te) := by
  subst hK
  constructor
  intro pins s σ H R I hw
  refine thn (h.run pins s σ H _ I hw) ?_
  rintro v s1 ⟨x, H1, I1, r1, ⟨a, ex, ⟨xs, hq⟩, q⟩ | ⟨a, ex, ⟨xs, hq⟩, q⟩ | ⟨z, ex, q⟩ | ⟨d, o, kvs, ex, hd, q⟩⟩
  · subst ex
    cases r1
    obtain ⟨its, rv, p, hz⟩ := I1.list hq
    exact wpAny_pyIter_list p.isList (pi_one (tk := s1.toks) I1 _ (turn_list a _) ⟨_, Heap.get?_push_size _ rfl, rfl, rfl⟩ q)
  · subst ex
    cases r1
    obtain ⟨its, rv, p, hz⟩ := I1.tuple hq
    exact wpAny_pyIter_tuple (show s1.heap.IsTuple a its.toArray from p) (pi_one (tk := s1.toks) I1 _ (turn_tuple a _) ⟨_, Heap.get?_push_size _ rfl, rfl, rfl⟩ q)
  · subst ex
    obtain ⟨t, rfl⟩ := r1
    cases ha : z.cps.all (· < 128)
    · exact wpAny_pyIter_wide ha (pi_one (tk := s1.toks) I1 _ (turn_str _ z t "str_iterator" (Or.inr rfl)) ⟨_, Heap.get?_push_size _ rfl, rfl, rfl⟩ q)
    · exact wpAny_pyIter_ascii ha (pi_one (tk := s1.toks) I1 _ (turn_str _ z t "str_ascii_iterator" (Or.inl rfl)) ⟨_, Heap.get?_push_size _ rfl, rfl, rfl⟩ q)
  · subst ex
    cases (show v = Value.ref d from r1)
    obtain ⟨hs, hgd, hx, es, ep, vs, hdt, hsz, kv, hm⟩ := I1.frzK hd
    refine iter_keys hs hgd hx hdt (pi_one (tk := s1.toks) I1 _ (turn_keys _ hdt) ⟨_, Heap.get?_push_size _ rfl, rfl, ?_⟩ q)
    rw [hsz] <;> rfl
theorem PG.or {t1 t2 : TG} (h1 : PG X e t1) (h2 : PG X e t2) : PG X e (fun v σ H Q => t1 v σ H Q ∨ t2 v σ H Q) :=
  ⟨fun pins s σ H v u Q I r h => h.elim (h1.run pins s σ H v u Q I r) (h2.run pins s σ H v u Q I r)⟩
/-- a, b, .. = a tuple or a list of that length -/
def gSeq (K : PySem.W.Frag) (n : Nat) (t : TGs) : TG := fun v σ H Q => ∃ a xs, v = .ref a ∧ (SqT K H a xs ∨ SqL K H a xs) ∧ xs.length = n ∧ t xs σ H Q
theorem ug_seq {K : PySem.W.Frag} {es : List Expr} {k : Nat} {t : TGs} {n : Nat} (hc : X.calm = true) (h : PGs X es t) (hK : X.K = K := by rfl) (hn : (assignEach es X.env).length = n := by rfl) (hst : (assignEach es X.env).findIdx? (·.1) = none := by rfl) :
    PG X (.Tuple es k pos) (gSeq K n t) := by
  subst hK
  constructor
  rintro pins s σ H v u Q I r ⟨a, xs, e1, hq | hq, hl, hw⟩
  · exact (pg_tup hc h hn hst).run pins s σ H v u Q I r ⟨a, xs, e1, hq, hl, hw⟩
  · exact (pg_lst hc h hn hst).run pins s σ H v u Q I r ⟨a, xs, e1, hq, hl, hw⟩
theorem set_dict (hu : X.A.units + 1 < cLine) : PSet X rSetD := by
  intro pins s σ H o i v ov iv u Q I ro ri rv h
  obtain ⟨a, H', ex, g, q⟩ := h
  subst ex
  cases (show ov = Value.ref a from ro)
  exact d_setItem hu I g ri rv fun s4 I4 => ⟨H', I4, q⟩
theorem uq_set (hu : X.A.units + 1 < cLine) : PSet X uSet := by
  intro pins s σ H o i v ov iv u Q I ro ri rv h
  cases h with
  | inl h => exact set_list pins s σ H o i v ov iv u Q I ro ri rv h
  | inr h => exact set_dict hu pins s σ H o i v ov iv u Q I ro ri rv h
/-! ## truth, not -/
def uTru (K : PySem.W.Frag) (te : TE) : TT := fun σ H Q => te σ H fun x H' => ∃ k, TruV K x H' k ∧ Q k H'
theorem ut_truth {K : PySem.W.Frag} (h : PE X e te) (hK : X.K = K := by rfl) (hs : ∀ w, isTrue e X.env w = (do let v ← w; standAt e.pos; holding [v] (truthy v)) := by intro _; rfl) : PT X e (uTru K te) := by subst hK; exact pt_truth h hs
/-! ## the library's rules with K told -/
theorem ue_fld {K : PySem.W.Frag} {f : Str} (he : PE X e te) (hb : attributeBase e f X.env (eval e X.env) = eval e X.env) (hK : X.K = K := by rfl) : PE X (.Attribute e f pos) (tFld K te f) := by
  subst hK
  exact pe_fld he hb
theorem ue_bm {K : PySem.W.Frag} {T id : String} {name : Str} {r : V → List V → Hp → VK → Prop} {o : Expr} {es : List Expr} {to : TE} {t : TA} {apos cpos : Pos} (pa : PlainAttrs T) (slot : Slot T name id) (hty : typeOf (.builtin id) = pure (.type "method_descriptor")) (hm : MtR X id r) (ho : PE X o to) (ha : PA X (e :: es) t) (hK : X.K = K := by rfl)
    (hbase : attributeBase o name X.env (eval o X.env) = eval o X.env := by rfl)
    (hfew : ((backTo cpos (starEach (e :: es) X.env)).all (fun x => !x.1) && (backToKw cpos (keywordEach [] X.env)).all (fun x => x.1.isSome) && decide ((e :: es).length + ([] : List Keyword).length + (if ([] : List Keyword).isEmpty then 0 else 1) < 30)) = true := by rfl)
    (hline : (apos.endLine == cpos.line) = true := by rfl) (hs : starEach (e :: es) X.env = (false, eval e X.env) :: starEach es X.env := by rfl) (hplain : (backTo cpos (starEach es X.env)).any (·.1) = false := by rfl) :
    PE X (.Call (.Attribute o name apos) (e :: es) [] cpos) (tBM K T r to t) := by
  subst hK
  exact pe_bm pa slot hty hm ho ha hbase hfew hline hs hplain
def rJoin (K : PySem.W.Frag) : V → List V → Hp → VK → Prop := fun x xs H Q => ∃ a p, ∃ ys : List Str, x = .str a ∧ xs = [.ref p] ∧ (SqL K H p (ys.map V.str) ∨ SqT K H p (ys.map V.str)) ∧ (ys.map (·.length)).sum + ys.length * a.length ≤ 16777216 ∧ Q (.str (Txt.join a ys)) H
theorem ue_join {K : PySem.W.Frag} {o : Expr} {to : TE} {apos : Pos} (ho : PE X o to) (he : PE X e te) (hK : X.K = K := by rfl) (hs : starEach [e] X.env = [(false, eval e X.env)] := by rfl) (hbase : attributeBase o "join" X.env (eval o X.env) = eval o X.env := by rfl) (hline : (apos.endLine == pos.line) = true := by rfl) :
    PE X (.Call (.Attribute o "join" apos) [e] [] pos) (tM1 (rJoin K) to te) := by
  subst hK
  exact pe_join ho he hs hbase hline
/-! ## repr, isinstance -/
theorem dp_noDict {K : PySem.W.Frag} {H : Hp} : ∀ {v : V} {d : PyData}, Dp K H v d → d.hasDict = false := by
  intro v d h
  refine Dp.rec (motive_1 := fun _ d _ => d.hasDict = false) (motive_2 := fun _ ds _ => PyData.hasDictAll ds = false) ?_ ?_ ?_ ?_ ?_ ?_ ?_ ?_ h
  · rfl
  · intro b; rfl
  · intro i; rfl
  · intro x; rfl
  · intro a xs ds _ _ ih; simpa [PyData.hasDict] using ih
  · intro a xs ds _ _ ih; simpa [PyData.hasDict] using ih
  · rfl
  · intro v vs d ds _ _ i1 i2; simp [PyData.hasDictAll, i1, i2]
def uRepr (K : PySem.W.Frag) : List V → Hp → VK → Prop := fun xs H Q => ∃ x d, xs = [x] ∧ Dp K H x d ∧ d.showable = true ∧ d.shown.length ≤ sizeLine ∧ d.depth ≤ 40 ∧ Q (.str d.shown) H
theorem uc_repr {K : PySem.W.Frag} {k : Nat} (hr : Room k X.A) (hG : Quiet X.A) (hK : X.K = K := by rfl) : CallR X (.builtin "repr") (uRepr K) := by
  subst hK
  intro pins s σ H xs us Q I r h
  obtain ⟨x, d, rfl, hd, hs, hz, hdp, q⟩ := h
  obtain ⟨u, rfl, rx⟩ := vals1 r
  have hu := hr.units
  cases hd with
  | non =>
    cases (show u = Value.none from rx)
    exact P.repr_of_none ⟨.str _, H, I.tok _, ⟨_, rfl⟩, q⟩
  | bl b =>
    cases (show u = Value.bool b from rx)
    exact P.repr_of_bool ⟨.str _, H, I.tok _, ⟨_, rfl⟩, q⟩
  | int i =>
    obtain ⟨t, rfl⟩ := rx
    exact P.repr_of_int (of_decide_eq_true hs) ⟨.str _, H, I.tok _, ⟨_, rfl⟩, q⟩
  | str y =>
    obtain ⟨t, rfl⟩ := rx
    exact P.repr_of_str ⟨.str _, H, I.tok _, ⟨_, rfl⟩, q⟩ hz
  | @lst a ys ds h1 h2 =>
    cases (show u = Value.ref a from rx)
    have hd : Dp X.K H (.ref a) (.list ds) := .lst h1 h2
    obtain ⟨as, rd⟩ := Dp.reads I _ _ _ hd rx
    exact repr_of_reads' rd hs (fun z => by rw [dp_noDict hd] at z; cases z) hG (by omega) (fun _ _ z => z) (fun h' u' tk hk => ⟨.str _, H, I.kept hk, ⟨_, rfl⟩, q⟩) hz
  | @tup a ys ds h1 h2 =>
    cases (show u = Value.ref a from rx)
    have hd : Dp X.K H (.ref a) (.tuple ds) := .tup h1 h2
    obtain ⟨as, rd⟩ := Dp.reads I _ _ _ hd rx
    exact repr_of_reads' rd hs (fun z => by rw [dp_noDict hd] at z; cases z) hG (by omega) (fun _ _ z => z) (fun h' u' tk hk => ⟨.str _, H, I.kept hk, ⟨_, rfl⟩, q⟩) hz
theorem uc_isinstance {K : PySem.W.Frag} (hK : X.K = K := by rfl) : CallR X (.builtin "isinstance") (rIsi K) := by subst hK; exact call_isi
/-! ## built-in classes called -/
abbrev rListSq (K : PySem.W.Frag) : List V → Hp → VK → Prop := fun xs H Q => ∃ p ys, xs = [.ref p] ∧ (SqL K H p ys ∨ SqT K H p ys) ∧ ∀ l, H l = none → Q (.ref l) (upd H l (.lst ys))
abbrev rListDk : List V → Hp → VK → Prop := fun xs H Q => ∃ (a : Addr) (kvs : List (Key × V)), xs = [.ref a] ∧ Rd H a (.dK kvs) ∧ ∀ p, H p = none → Q (.ref p) (upd H p (.lst (kvs.map fun kv => kV kv.1)))
def uList (K : PySem.W.Frag) : List V → Hp → VK → Prop := fun xs H Q => rListSq K xs H Q ∨ rListDk xs H Q
theorem uc_list {K : PySem.W.Frag} (hc : X.calm = true := by rfl) (hK : X.K = K := by rfl) : CallR X (.type "list") (uList K) := by subst hK; exact CallR.or call_list_of (call_listD hc)
def uDict : List V → Hp → VK → Prop := fun xs H Q => ∃ (a : Addr) (kvs : List (Key × V)), xs = [.ref a] ∧ Rd H a (.dK kvs) ∧ ∀ p, H p = none → Q (.ref p) (upd H p (.dK kvs))
theorem uc_dict : CallR X (.type "dict") uDict := call_dictD
abbrev rStrI : List V → Hp → VK → Prop := fun xs H Q => ∃ i, xs = [.int i] ∧ i.natAbs.log2 < 1920 ∧ Q (.str (toString i)) H
abbrev rStrS : List V → Hp → VK → Prop := fun xs H Q => ∃ a, xs = [.str a] ∧ Q (.str a) H
def uStr : List V → Hp → VK → Prop := fun xs H Q => rStrI xs H Q ∨ rStrS xs H Q
theorem uc_str : CallR X (.type "str") uStr := CallR.or call_str_int SkE.call_str_str
abbrev rIntS : List V → Hp → VK → Prop := fun xs H Q => ∃ a n, xs = [.str a] ∧ PySem.intText? a = some n ∧ a.length ≤ 640 ∧ Q (.int n) H
def uInt : List V → Hp → VK → Prop := rIntS
theorem uc_int : CallR X (.type "int") uInt := call_int_str
end
/-! ## steps of a reading, by its head -/
section
variable {D : Ends} {σ : L2.St} {H : Hp} {K : PySem.W.Frag} {Q : VK}
/-- the loop itself, its iterator made -/
abbrev Loop (J : It) (g : TG) (tb : TS) (D : Ends) (σ : L2.St) (H1 : Hp) : Prop := ∃ W : Nat → Nat → L2.St → Hp → Prop, (∃ m, W 0 m σ H1) ∧ ∀ i m σ H, W i m σ H →
  (J.stop i H ∧ D.nx σ H) ∨ (J.go i H ∧ ∃ N : L2.St → Hp → Prop, (∀ σ' H', N σ' H' → ∃ m', m' < m ∧ W (i + 1) m' σ' H') ∧ ∀ x H', J.yld i H x H' → g x σ H' fun σ2 H2 => tb { D with nx := N, ct := N, bk := D.nx } σ2 H2)
theorem g_for {wi : TI} {g : TG} {tb : TS} (h : wi σ H fun J H1 => Loop J g tb D σ H1) : tFor wi g tb D σ H := h
theorem g_rng1 {ta : TA} {R : It → Hp → Prop} (h : ta σ H fun vs H1 => ∃ j : Int, vs = [.int j] ∧ -(2 ^ 62) ≤ j ∧ j < 2 ^ 62 ∧ R (Itr 0 j.toNat) H1) : iRng1 ta σ H R := h
theorem g_rng2 {ta : TA} {R : It → Hp → Prop} (h : ta σ H fun vs H1 => ∃ i j : Int, vs = [.int i, .int j] ∧ (-(2 ^ 62) ≤ i ∧ i < 2 ^ 62 ∧ -(2 ^ 62) ≤ j ∧ j < 2 ^ 62) ∧ R (Itr i (j - i).toNat) H1) : iRng2 ta σ H R := h
theorem g_seqI {te : TE} {R : It → Hp → Prop} (h : te σ H fun x H1 => (∃ a, x = .ref a ∧ (∃ xs, SqL K H1 a xs) ∧ R (Itl K a) H1) ∨ ((∃ a, x = .ref a ∧ (∃ xs, SqT K H1 a xs) ∧ R (Itt K a) H1) ∨
  ((∃ z, x = .str z ∧ R (Its z) H1) ∨ (∃ d o kvs, x = .ref d ∧ H1 d = some (.frz o (.dK kvs)) ∧ R (Itk d o kvs) H1)))) : uSeq K te σ H R := h
theorem n_rng1 {j : Int} {P : Int → Prop} (h0 : 0 ≤ j) (h1 : j < 1000000000) (h : P j) : ∃ j' : Int, [V.int j] = [.int j'] ∧ -(2 ^ 62) ≤ j' ∧ j' < 2 ^ 62 ∧ P j' := ⟨j, rfl, by omega, by omega, h⟩
theorem n_seqL {a : Addr} {xs : List V} {R : It → Prop} {B : Prop} (h1 : SqL K H a xs) (h : R (Itl K a)) : (∃ a', V.ref a = .ref a' ∧ (∃ xs, SqL K H a' xs) ∧ R (Itl K a')) ∨ B := Or.inl ⟨a, rfl, ⟨xs, h1⟩, h⟩
theorem n_seqT {a : Addr} {xs : List V} {R : It → Prop} {A B : Prop} (h1 : SqT K H a xs) (h : R (Itt K a)) : A ∨ ((∃ a', V.ref a = .ref a' ∧ (∃ xs, SqT K H a' xs) ∧ R (Itt K a')) ∨ B) := Or.inr (Or.inl ⟨a, rfl, ⟨xs, h1⟩, h⟩)
theorem n_seqS {z : Str} {R : It → Prop} {A B C : Prop} (h : R (Its z)) : A ∨ (B ∨ ((∃ z', V.str z = .str z' ∧ R (Its z')) ∨ C)) := Or.inr (Or.inr (Or.inl ⟨z, rfl, h⟩))
theorem g_while {c : TT} {tb : TS} (h : ∃ W : Nat → L2.St → Hp → Prop, (∃ m, W m σ H) ∧ ∀ m σ H, W m σ H → c σ H fun b H1 => if b = true then ∃ N : L2.St → Hp → Prop, (∀ σ' H', N σ' H' → ∃ m', m' < m ∧ W m' σ' H') ∧ tb { D with nx := N, ct := N, bk := D.nx } σ H1 else D.nx σ H1) : tWhile c tb D σ H := h
theorem g_m1 {r : V → List V → Hp → VK → Prop} {to te : TE} (h : to σ H fun x H1 => (∃ a, x = .str a) ∧ te σ H1 fun y H2 => r x [y] H2 Q) : tM1 r to te σ H Q := h
theorem g_m0 {r : V → List V → Hp → VK → Prop} {to : TE} (h : to σ H fun x H1 => (∃ a, x = .str a) ∧ r x [] H1 Q) : tM0 r to σ H Q := h
theorem g_isStr {a : Str} {B : Prop} (h : B) : (∃ a', V.str a = .str a') ∧ B := ⟨⟨a, rfl⟩, h⟩
/-- a comprehension's loop, its iterator and its list made -/
abbrev LcLoop (J : It) (g : TG) (tt : TT) (te : TE) (vs : List Nat) (σ : L2.St) (H1 : Hp) (Dl : Addr) (Qd : Hp → Prop) : Prop := ∃ W : Nat → Nat → Hp → Prop, (∃ m, W 0 m (upd H1 Dl (.lst []))) ∧ ∀ i m H, W i m H →
  (J.stop i H ∧ Qd H) ∨ (J.go i H ∧ ∃ Nx : Hp → Prop, (∀ H', Nx H' → ∃ m', m' < m ∧ W (i + 1) m' H') ∧ ∀ x H', J.yld i H x H' → g x (wipe σ vs) H' fun σ2 H2 => wipe σ2 vs = wipe σ vs ∧ tt σ2 H2 fun b H3 =>
    if b = true then te σ2 H3 fun y H4 => ∃ acc, H4 Dl = some (.lst acc) ∧ acc.length < sizeLine ∧ Nx (upd H4 Dl (.lst (acc ++ [y]))) else Nx H3)
theorem g_lc {wi : TI} {g : TG} {tt : TT} {te : TE} {vs : List Nat} (h : wi σ H fun J H1 => ∀ Dl, H1 Dl = none → LcLoop J g tt te vs σ H1 Dl (fun H' => Q (.ref Dl) H')) : tLc wi g tt te vs σ H Q := h
theorem g_yes {Q : Bool → Hp → Prop} (h : Q true H) : tYes σ H Q := h
theorem g_seq {t u : TS} (h : t { D with nx := u D } σ H) : tSeq t u D σ H := h
theorem g_asg {te : TE} {g : TG} (h : te σ H fun x H1 => g x σ H1 D.nx) : tAsg te g D σ H := h
theorem g_name {v : V} {i : Nat} {Q : L2.St → Hp → Prop} (h : Q (σ.set i (some v)) H) : gName i v σ H Q := h
theorem g_drop {te : TE} (h : te σ H fun _ H1 => D.nx σ H1) : tDrop te D σ H := h
theorem g_next (h : D.nx σ H) : tNext D σ H := h
theorem g_ret {te : TE} (h : te σ H D.rt) : tRet te D σ H := h
theorem g_retN (h : D.rt .non H) : tRetN D σ H := h
theorem g_if {c : TT} {t u : TS} (h : c σ H fun b H1 => if b = true then t D σ H1 else u D σ H1) : tIfS c t u D σ H := h
theorem g_ifE {c : TT} {ta tb : TE} (h : c σ H fun b H1 => if b = true then ta σ H1 Q else tb σ H1 Q) : tIf c ta tb σ H Q := h
theorem g_par {i j : Nat} {ta : TA} (h : ta σ H fun vs H1 => ∃ v w, vs = [v, w] ∧ D.nx ((σ.set i (some v)).set j (some w)) H1) : tPar i j ta D σ H := h
theorem g_par2 {v w : V} {P : V → V → Prop} (h : P v w) : ∃ v' w', [v, w] = [v', w'] ∧ P v' w' := ⟨v, w, rfl, h⟩
theorem g_var {i : Nat} {v : V} (e : σ[i]? = some (some v)) (h : Q v H) : tVar i σ H Q := ⟨v, e, h⟩
theorem g_c {v : V} (h : Q v H) : tC v σ H Q := h
theorem g_op {r : R2} {ta tb : TE} (h : ta σ H fun x H1 => tb σ H1 fun y H2 => r x y H2 Q) : tOp r ta tb σ H Q := h
theorem g_un {r : V → Hp → VK → Prop} {ta : TE} (h : ta σ H fun x H1 => r x H1 Q) : tUn r ta σ H Q := h
theorem g_cb {r : List V → Hp → VK → Prop} {t : TA} (h : t σ H fun vs H1 => r vs H1 Q) : tCB r t σ H Q := h
theorem g_nil {Q : List V → Hp → Prop} (h : Q [] H) : tNil σ H Q := h
theorem g_cons {ta : TE} {tr : TA} {Q : List V → Hp → Prop} (h : ta σ H fun x H1 => tr σ H1 fun xs H2 => Q (x :: xs) H2) : tCons ta tr σ H Q := h
theorem g_test {t : TE} {Q : Bool → Hp → Prop} (h : t σ H fun x H' => ∃ k, x = .bl k ∧ Q k H') : tTest t σ H Q := h
theorem g_bl {b : Bool} {P : Bool → Prop} (h : P b) : ∃ k, V.bl b = .bl k ∧ P k := ⟨b, rfl, h⟩
theorem g_tru {t : TE} {Q : Bool → Hp → Prop} (h : t σ H fun x H' => ∃ k, TruV K x H' k ∧ Q k H') : uTru K t σ H Q := h
theorem g_truB {b : Bool} {P : Bool → Prop} (h : P b) : ∃ k, TruV K (.bl b) H k ∧ P k := ⟨b, rfl, h⟩
theorem g_not {t : TT} {Q : Bool → Hp → Prop} (h : t σ H fun b H1 => Q (!b) H1) : tNot t σ H Q := h
theorem g_and {t u : TT} {Q : Bool → Hp → Prop} (h : t σ H fun b H1 => if b = true then u σ H1 Q else Q false H1) : tAnd t u σ H Q := h
theorem g_or {t u : TT} {Q : Bool → Hp → Prop} (h : t σ H fun b H1 => if b = true then Q true H1 else u σ H1 Q) : tOr t u σ H Q := h
theorem g_andV {ta tb : TE} (h : ta σ H fun x H1 => ∃ c, x = .bl c ∧ if c = true then tb σ H1 Q else Q (.bl false) H1) : tAndV ta tb σ H Q := h
theorem g_orV {ta tb : TE} (h : ta σ H fun x H1 => ∃ c, x = .bl c ∧ if c = true then Q (.bl true) H1 else tb σ H1 Q) : tOrV ta tb σ H Q := h
theorem g_notV {ta : TE} (h : ta σ H fun x H1 => ∃ c, x = .bl c ∧ Q (.bl (!c)) H1) : tNotV ta σ H Q := h
theorem g_call {sp : Sp} {dvs : List V} {E : L2.St → XK} {t : TA} (h : t σ H fun vs H1 => sp (vs ++ dvs) H1 Q (E σ)) : uCall sp dvs E t σ H Q := h
theorem g_tup {t : TA} (h : t σ H fun xs H1 => xs.length ≤ sizeLine ∧ ∀ p, H1 p = none → Q (.ref p) (upd H1 p (.tup xs))) : tTup t σ H Q := h
theorem g_lst {t : TA} (h : t σ H fun xs H1 => xs.length ≤ sizeLine ∧ ∀ p, H1 p = none → Q (.ref p) (upd H1 p (.lst xs))) : tLst t σ H Q := h
theorem g_chain {r r' : R2} {ta tb tc : TE} (h : ta σ H fun x H1 => tb σ H1 fun y H2 => r x y H2 fun z H3 => ∃ k, z = .bl k ∧ if k = true then tc σ H3 fun w H4 => r' y w H4 Q else Q (.bl false) H3) : tChain r r' ta tb tc σ H Q := h
theorem g_sl {r : V → Option Int → Option Int → Hp → VK → Prop} {te : TE} {tl th : TO} (h : te σ H fun x H1 => tl σ H1 fun l H2 => th σ H2 fun u H3 => r x l u H3 Q) : tSl r te tl th σ H Q := h
theorem g_noPart {Q : Option Int → Hp → Prop} (h : Q none H) : tNoPart σ H Q := h
theorem g_part {te : TE} {Q : Option Int → Hp → Prop} (h : te σ H fun x H1 => ∃ i, x = .int i ∧ Q (some i) H1) : tPart te σ H Q := h
theorem g_int {i : Int} {P : Int → Prop} (h : P i) : ∃ j, V.int i = .int j ∧ P j := ⟨i, rfl, h⟩
theorem g_iteT {A B : Prop} (h : A) : if true = true then A else B := by rw [if_pos rfl]; exact h
theorem g_iteF {A B : Prop} (h : B) : if false = true then A else B := by rw [if_neg Bool.false_ne_true]; exact h
theorem g_iteTc {A B : Prop} {c : Bool} (e : c = true) (h : A) : if c = true then A else B := by rw [if_pos e]; exact h
theorem g_iteFc {A B : Prop} {c : Bool} (e : c = false) (h : B) : if c = true then A else B := by rw [e, if_neg Bool.false_ne_true]; exact h
theorem g_new {H : Hp} {o : HO} {P : V → Hp → Prop} (h : ∀ p H', H p = none → Same H H' → H' p = some o → P (.ref p) H') : ∀ p, H p = none → P (.ref p) (upd H p o) := fun p hp =>
  h p (upd H p o) hp (fun b u e => by rw [upd_ne (ne_of_none e hp)]; exact e) upd_same
theorem g_fld {te : TE} {f : Str} (h : te σ H fun x H1 => ∃ a C dx fs v, x = .ref a ∧ H1 a = some (.ins C dx fs) ∧ Cls K C ∧ NoAttr K C f ∧ fs.lookup f = some v ∧ Q v H1) : tFld K te f σ H Q := h
theorem g_bm {T : String} {r : V → List V → Hp → VK → Prop} {to : TE} {t : TA} (h : to σ H fun x H1 => tyV K T x H1 ∧ t σ H1 fun xs H2 => r x xs H2 Q) : tBM K T r to t σ H Q := h
theorem g_bm0 {T : String} {r : V → List V → Hp → VK → Prop} {to : TE} (h : to σ H fun x H1 => tyV K T x H1 ∧ r x [] H1 Q) : tBM0 K T r to σ H Q := h
theorem g_gcons {t : TG} {u : TGs} {v : V} {r : List V} {Q : L2.St → Hp → Prop} (h : t v σ H fun σ' H' => u r σ' H' Q) : gCons t u (v :: r) σ H Q := ⟨v, r, rfl, h⟩
theorem g_gnil {Q : L2.St → Hp → Prop} (h : Q σ H) : gNil [] σ H Q := ⟨rfl, h⟩
theorem g_gsub {to ti : TE} {t : TSet} {v : V} {Q : L2.St → Hp → Prop} (h : to σ H fun o H1 => ti σ H1 fun i H2 => t o i v H2 fun H3 => Q σ H3) : gSub to ti t v σ H Q := h
theorem g_gseqT {n : Nat} {t : TGs} {a : Addr} {xs : List V} {Q : L2.St → Hp → Prop} (h1 : SqT K H a xs) (hl : xs.length = n) (h : t xs σ H Q) : gSeq K n t (.ref a) σ H Q := ⟨a, xs, rfl, .inl h1, hl, h⟩
theorem g_gseqL {n : Nat} {t : TGs} {a : Addr} {xs : List V} {Q : L2.St → Hp → Prop} (h1 : SqL K H a xs) (hl : xs.length = n) (h : t xs σ H Q) : gSeq K n t (.ref a) σ H Q := ⟨a, xs, rfl, .inr h1, hl, h⟩
/-! ## values -/
theorem i_add {i j : Int} (h : Q (.int (i + j)) H) : uAdd (.int i) (.int j) H Q := Or.inl ⟨i, j, rfl, rfl, h⟩
theorem i_addS {i j : Str} (hl : i.length + j.length ≤ sizeLine) (h : Q (.str (i ++ j)) H) : uAdd (.str i) (.str j) H Q := Or.inr (Or.inl ⟨i, j, rfl, rfl, hl, h⟩)
theorem i_sub {i j : Int} (h : Q (.int (i - j)) H) : uSub (.int i) (.int j) H Q := ⟨i, j, rfl, rfl, h⟩
theorem i_mul {i j : Int} (c : CMul i j) (h : Q (.int (i * j)) H) : uMul (.int i) (.int j) H Q := Or.inl ⟨i, j, rfl, rfl, c, h⟩
theorem i_mulW {i j : Int} (c : CMulW i j) (h : Q (.int (i * j)) H) : uMul (.int i) (.int j) H Q := Or.inr ⟨i, j, rfl, rfl, c, h⟩
theorem i_fdiv {i j : Int} (c : CDiv i j) (h : Q (.int (i / j)) H) : uFdiv (.int i) (.int j) H Q := Or.inl ⟨i, j, rfl, rfl, c, h⟩
theorem i_fdivW {i j : Int} (c : CDivW i j) (h : Q (.int (i / j)) H) : uFdiv (.int i) (.int j) H Q := Or.inr ⟨i, j, rfl, rfl, c, h⟩
theorem i_mod {i j : Int} (c : 0 < j) (h : Q (.int (i % j)) H) : uMod (.int i) (.int j) H Q := ⟨i, j, rfl, rfl, c, h⟩
theorem i_pow {i j : Int} (c : CPow i j) (h : Q (.int (i ^ j.toNat)) H) : uPow (.int i) (.int j) H Q := ⟨i, j, rfl, rfl, c, h⟩
theorem i_lt {i j : Int} (h : Q (.bl (decide (i < j))) H) : uLt (.int i) (.int j) H Q := ⟨i, j, rfl, rfl, h⟩
theorem i_le {i j : Int} (h : Q (.bl (decide (i ≤ j))) H) : uLe (.int i) (.int j) H Q := ⟨i, j, rfl, rfl, h⟩
theorem i_gt {i j : Int} (h : Q (.bl (decide (j < i))) H) : uGt (.int i) (.int j) H Q := ⟨i, j, rfl, rfl, h⟩
theorem i_ge {i j : Int} (h : Q (.bl (decide (j ≤ i))) H) : uGe (.int i) (.int j) H Q := ⟨i, j, rfl, rfl, h⟩
theorem i_neg {i : Int} (h : Q (.int (-i)) H) : (rU fun i => .int (-i)) (.int i) H Q := ⟨i, rfl, h⟩
theorem i_eqI {i j : Int} (h : Q (.bl (decide (i = j))) H) : uEq K (.int i) (.int j) H Q := Or.inl ⟨rfl, by rw [show decide (V.int i = V.int j) = decide (i = j) by simp]; exact h⟩
theorem i_eqS {i j : Str} (h : Q (.bl (decide (i = j))) H) : uEq K (.str i) (.str j) H Q := Or.inl ⟨rfl, by rw [show decide (V.str i = V.str j) = decide (i = j) by simp]; exact h⟩
theorem i_neI {i j : Int} (h : Q (.bl (!decide (i = j))) H) : uNe K (.int i) (.int j) H Q := Or.inl ⟨rfl, by rw [show decide (V.int i = V.int j) = decide (i = j) by simp]; exact h⟩
theorem i_neS {i j : Str} (h : Q (.bl (!decide (i = j))) H) : uNe K (.str i) (.str j) H Q := Or.inl ⟨rfl, by rw [show decide (V.str i = V.str j) = decide (i = j) by simp]; exact h⟩
theorem i_eqD {x y : V} {d e : PyData} (h1 : Dp K H x d) (h2 : Dp K H y e) (s1 : SeqAt.shaped d = true) (s2 : SeqAt.shaped e = true) (h : Q (.bl (PyData.eqv d e)) H) : uEq K x y H Q := Or.inr (Or.inl ⟨d, e, h1, h2, s1, s2, h⟩)
theorem i_neD {x y : V} {d e : PyData} (h1 : Dp K H x d) (h2 : Dp K H y e) (s1 : SeqAt.shaped d = true) (s2 : SeqAt.shaped e = true) (h : Q (.bl (!PyData.eqv d e)) H) : uNe K x y H Q := Or.inr (Or.inl ⟨d, e, h1, h2, s1, s2, h⟩)
theorem i_ixL {p : Addr} {xs : List V} {i : Int} {v : V} (h1 : SqL K H p xs) (h2 : atI xs i = some v) (h : Q v H) : uIx K (.ref p) (.int i) H Q := Or.inl ⟨p, xs, i, v, rfl, rfl, h1, h2, h⟩
theorem i_ixT {p : Addr} {xs : List V} {i : Int} {v : V} (h1 : SqT K H p xs) (h2 : atI xs i = some v) (h : Q v H) : uIx K (.ref p) (.int i) H Q := Or.inr (Or.inl ⟨p, xs, i, v, rfl, rfl, h1, h2, h⟩)
theorem i_ixS {z : Str} {i : Int} {c : Nat} (hl : z.length ≤ sizeLine) (h2 : atI z.cps.toList i = some c) (h : Q (.str ⟨#[c]⟩) H) : uIx K (.str z) (.int i) H Q := Or.inr (Or.inr (Or.inl ⟨z, i, c, rfl, rfl, hl, h2, h⟩))
theorem i_ixD {a : Addr} {y v : V} (h1 : DGet H a y (some v)) (h : Q v H) : uIx K (.ref a) y H Q := Or.inr (Or.inr (Or.inr ⟨a, v, rfl, h1, h⟩))
theorem i_inD {a : Addr} {y : V} {o : Option V} (h1 : DGet H a y o) (h : Q (.bl o.isSome) H) : uIn K y (.ref a) H Q := Or.inl ⟨a, o, rfl, h1, h⟩
theorem i_notinD {a : Addr} {y : V} {o : Option V} (h1 : DGet H a y o) (h : Q (.bl (!o.isSome)) H) : uNotIn K y (.ref a) H Q := Or.inl ⟨a, o, rfl, h1, h⟩
theorem i_inL {p : Addr} {x : V} {xs : List V} (h1 : SqL K H p xs) (hx : flatV x = true) (ha : xs.all flatV = true) (h : Q (.bl (inV x xs)) H) : uIn K x (.ref p) H Q := Or.inr (Or.inl ⟨p, xs, rfl, .inl h1, hx, ha, h⟩)
theorem i_inT {p : Addr} {x : V} {xs : List V} (h1 : SqT K H p xs) (hx : flatV x = true) (ha : xs.all flatV = true) (h : Q (.bl (inV x xs)) H) : uIn K x (.ref p) H Q := Or.inr (Or.inl ⟨p, xs, rfl, .inr h1, hx, ha, h⟩)
theorem i_notinL {p : Addr} {x : V} {xs : List V} (h1 : SqL K H p xs) (hx : flatV x = true) (ha : xs.all flatV = true) (h : Q (.bl (!inV x xs)) H) : uNotIn K x (.ref p) H Q := Or.inr (Or.inl ⟨p, xs, rfl, .inl h1, hx, ha, h⟩)
theorem i_notinT {p : Addr} {x : V} {xs : List V} (h1 : SqT K H p xs) (hx : flatV x = true) (ha : xs.all flatV = true) (h : Q (.bl (!inV x xs)) H) : uNotIn K x (.ref p) H Q := Or.inr (Or.inl ⟨p, xs, rfl, .inr h1, hx, ha, h⟩)
theorem i_inC {c : Nat} {z : Str} (h : Q (.bl (decide (c ∈ z.cps.toList))) H) : uIn K (.str ⟨#[c]⟩) (.str z) H Q := Or.inr (Or.inr ⟨c, z, rfl, rfl, h⟩)
theorem i_notinC {c : Nat} {z : Str} (h : Q (.bl (!decide (c ∈ z.cps.toList))) H) : uNotIn K (.str ⟨#[c]⟩) (.str z) H Q := Or.inr (Or.inr ⟨c, z, rfl, rfl, h⟩)
theorem i_slL {a : Addr} {xs : List V} {lo hi : Option Int} (h1 : SqL K H a xs) (h : ∀ p, H p = none → Q (.ref p) (upd H p (.lst (cutV xs lo hi)))) : uSl K (.ref a) lo hi H Q := Or.inl ⟨a, xs, rfl, h1, h⟩
theorem i_slS {z : Str} {lo hi : Option Int} (hl : z.length ≤ sizeLine) (h : Q (.str (cutS z lo hi)) H) : uSl K (.str z) lo hi H Q := Or.inr (Or.inl ⟨z, rfl, hl, h⟩)
theorem i_setL {p : Addr} {xs : List V} {k : Int} {j : Nat} {v : V} {Q : Hp → Prop} (h1 : H p = some (.lst xs)) (hj : ixN xs.length k = some j) (h : Q (upd H p (.lst (xs.set j v)))) : uSet (.ref p) (.int k) v H Q := Or.inl ⟨p, xs, k, j, rfl, rfl, h1, hj, h⟩
theorem i_setD {a : Addr} {y v : V} {H' : Hp} {Q : Hp → Prop} (h1 : DPut H a y v H') (h : Q H') : uSet (.ref a) y v H Q := Or.inr ⟨a, H', rfl, h1, h⟩
theorem i_lenS {z : Str} (hl : z.length ≤ sizeLine) (h : Q (.int z.length) H) : uLen K [.str z] H Q := Or.inl ⟨_, _, rfl, ⟨hl, rfl⟩, h⟩
theorem i_lenL {p : Addr} {xs : List V} (h1 : SqL K H p xs) (h : Q (.int xs.length) H) : uLen K [.ref p] H Q := Or.inl ⟨_, _, rfl, .inl ⟨xs, h1, rfl⟩, h⟩
theorem i_lenT {p : Addr} {xs : List V} (h1 : SqT K H p xs) (h : Q (.int xs.length) H) : uLen K [.ref p] H Q := Or.inl ⟨_, _, rfl, .inr ⟨xs, h1, rfl⟩, h⟩
theorem i_lenD {p : Addr} {kvs : List (Key × V)} (h1 : H p = some (.dK kvs)) (h : Q (.int kvs.length) H) : uLen K [.ref p] H Q := Or.inr ⟨p, kvs, rfl, h1, h⟩
theorem i_max2 {i j : Int} (h : Q (.int (max i j)) H) : uMax2 [.int i, .int j] H Q := ⟨i, j, rfl, by
  have e : (if j > i then j else i) = max i j := by split <;> omega
  rw [e]; exact h⟩
theorem i_min2 {i j : Int} (h : Q (.int (min i j)) H) : uMin2 [.int i, .int j] H Q := ⟨i, j, rfl, by
  have e : (if j < i then j else i) = min i j := by split <;> omega
  rw [e]; exact h⟩
theorem i_abs {i : Int} (h : Q (.int (i.natAbs : Int)) H) : uAbs [.int i] H Q := ⟨i, rfl, by
  have e : (if i < 0 then -i else i) = (i.natAbs : Int) := by split <;> omega
  rw [e]; exact h⟩
theorem i_listSq {p : Addr} {ys : List V} (h1 : SqL K H p ys ∨ SqT K H p ys) (h : ∀ l, H l = none → Q (.ref l) (upd H l (.lst ys))) : uList K [.ref p] H Q := Or.inl ⟨p, ys, rfl, h1, h⟩
theorem i_listD {a : Addr} {kvs : List (Key × V)} (h1 : Rd H a (.dK kvs)) (h : ∀ p, H p = none → Q (.ref p) (upd H p (.lst (kvs.map fun kv => kV kv.1)))) : uList K [.ref a] H Q := Or.inr ⟨a, kvs, rfl, h1, h⟩
theorem i_dictD {a : Addr} {kvs : List (Key × V)} (h1 : Rd H a (.dK kvs)) (h : ∀ p, H p = none → Q (.ref p) (upd H p (.dK kvs))) : uDict [.ref a] H Q := ⟨a, kvs, rfl, h1, h⟩
theorem i_strI {i : Int} (c : i.natAbs.log2 < 1920) (h : Q (.str (toString i)) H) : uStr [.int i] H Q := Or.inl ⟨i, rfl, c, h⟩
theorem i_repr {x : V} {d : PyData} (h1 : Dp K H x d) (h2 : d.showable = true) (h3 : d.shown.length ≤ sizeLine) (h4 : d.depth ≤ 40) (h : Q (.str d.shown) H) : uRepr K [x] H Q := ⟨x, d, rfl, h1, h2, h3, h4, h⟩
theorem i_append {l : Addr} {xs : List V} {y : V} (h1 : H l = some (.lst xs)) (hz : xs.length < sizeLine) (h : Q .non (upd H l (.lst (xs ++ [y])))) : rAppend (.ref l) [y] H Q := ⟨l, xs, y, rfl, rfl, h1, hz, h⟩
end
end Rf

namespace Rf
open PySem PySem.Spec PyProof.Rows L2
/-! ## small things -/
theorem take_snoc {α : Type} {l : List α} {i : Nat} {x : α} (h : l[i]? = some x) : l.take (i + 1) = l.take i ++ [x] := by
  rw [List.take_add_one, h]
  rfl
theorem getMapInt {ns : List Int} {i : Nat} {y : V} (h : (ns.map V.int)[i]? = some y) : ∃ z, ns[i]? = some z ∧ y = .int z := by
  rw [List.getElem?_map] at h
  cases e : ns[i]? with
  | none => rw [e] at h; cases h
  | some z => rw [e] at h; exact ⟨z, rfl, (Option.some.inj h).symm⟩
theorem atI_of {α : Type} {xs : List α} {i : Int} {v : α} (h0 : 0 ≤ i) (h : xs[i.toNat]? = some v) : atI xs i = some v := by
  have hl : i.toNat < xs.length := (List.getElem?_eq_some_iff.mp h).1
  unfold atI ixN
  rw [if_pos h0, if_pos (by omega)]
  exact h
theorem atI_ints {ns : List Int} {i : Int} (h0 : 0 ≤ i) (h : i < (ns.length : Int)) : atI (ns.map V.int) i = some (.int (ns.getD i.toNat 0)) := by
  refine atI_of h0 ?_
  have hl : i.toNat < ns.length := by omega
  rw [List.getElem?_map, List.getElem?_eq_getElem hl, List.getD_eq_getElem?_getD, List.getElem?_eq_getElem hl]
  rfl
theorem sz_small {n : Nat} (h : n ≤ 1000000) : n ≤ sizeLine := Nat.le_trans h (by decide)
theorem sz_small' {n : Nat} (h : n < 1000000) : n < sizeLine := Nat.lt_of_lt_of_le h (by decide)
theorem _root_.L2.Same.mut {H H' : Hp} {p : Addr} {o : HO} (e : Same H H') (h : H p = none) : Same H (upd H' p o) := fun a u ha => by
  rw [upd_ne (ne_of_none ha h)]
  exact e a u ha
theorem _root_.L2.Same.seqT {K : PySem.W.Frag} {H H' : Hp} {a : Addr} {xs : List V} (e : Same H H') (h : SqT K H a xs) : SqT K H' a xs := by
  rcases h with h | h
  · rcases h with h | ⟨o, h⟩
    · exact Or.inl (Or.inl (e _ _ h))
    · exact Or.inl (Or.inr ⟨o, e _ _ h⟩)
  · exact Or.inr h
theorem drop_cons {α : Type} {l : List α} {i : Nat} {x : α} (h : l[i]? = some x) : l.drop i = x :: l.drop (i + 1) := by
  obtain ⟨h1, h2⟩ := List.getElem?_eq_some_iff.mp h
  rw [List.drop_eq_getElem_cons h1, h2]
theorem newH {H H1 : Hp} {p : Addr} {o : HO} (hp : H p = none) (e : upd H p o = H1) : Same H H1 ∧ H1 p = some o := by
  subst e
  exact ⟨Same.mut (Same.refl H) hp, upd_same⟩
/-- the names of built-ins are the built-ins' -/
structure Blt (mg : Str → Option Value) : Prop where
  b_len : mg "len" = none
  b_range : mg "range" = none
  b_abs : mg "abs" = none
  b_max : mg "max" = none
  b_min : mg "min" = none
  b_sorted : mg "sorted" = none
  b_isinstance : mg "isinstance" = none
  b_repr : mg "repr" = none
  b_list : mg "list" = none
  b_dict : mg "dict" = none
  b_str : mg "str" = none
  b_int : mg "int" = none
  b_bool : mg "bool" = none
  b_tuple : mg "tuple" = none
  b_all : mg "all" = none
  b_any : mg "any" = none
  b_sum : mg "sum" = none
  b_enumerate : mg "enumerate" = none
  b_zip : mg "zip" = none
/-- a def of the text under its name -/
structure Dfn (K : PySem.W.Frag) (mg : Str → Option Value) (x : Str) (st : Stmt) (ps : List Str) (ds : List Value) : Prop where
  ex : ∃ (f : Addr) (fd : FuncData), Src K x x st f fd ∧ mg x = some (.ref f) ∧ PySem.W.keepIn K (.ref f) = true ∧ Binds K fd ps ds
section
variable {P : Program} {w : World} {K : PySem.W.Frag} {mg : Str → Option Value} {base : Heap}
theorem Dfn.cal {x : Str} {st : Stmt} {N ps : List Str} {ds : List Value} {dvs : List V} {k : Nat} {sp : Sp} (F : Dfn K mg x st ps ds) (hd : Vals dvs ds) (S : FnScope N ps (defScope st)) (hlen : ∀ vs H Q E, sp vs H Q E → vs.length = ps.length)
    (hb : ∀ (f : Addr) (cdv : Value) (A : Around) (outer : List Env) (s : Shared) (H : Hp) (vs : List V) (Q : VK) (E : XK), Room k (A.deeper (envOfC x (defScope st) s.heap.objs.size f cdv)) → Quiet (A.deeper (envOfC x (defScope st) s.heap.objs.size f cdv)) → sp vs H Q E →
      ∃ t, PSs (cxOf (L2.CX P w) P w K mg base N x (defScope st) f cdv A outer s H E) (defBody st) t ∧ t { nx := fun _ H' => Q .non H', rt := Q } (start N vs) H) : Cal P w K mg base (k + 1) x dvs sp := by
  obtain ⟨f, fd, F, hm, kp, b⟩ := F.ex
  exact ⟨f, fd, ps, ds, F.fn S hlen (hb f), hm, kp, b, hd⟩
theorem src_mk {x qual : Str} {st : Stmt} {f : Addr} {oc : Value} {od an : Option Addr} {osl : Array (Option Value)} {dV kV doc pm cdv ct : Value}
    (l : K.lookup f = some ⟨oc, od, .func (PySem.W.fnOf x qual (defArgs st) (defBody st) (defScope st) dV kV doc pm an cdv ct), osl⟩) (c : PySem.W.codeIn K cdv qual = true) :
    Src K x qual st f (PySem.W.fnOf x qual (defArgs st) (defBody st) (defScope st) dV kV doc pm an cdv ct) := ⟨oc, od, dV, kV, doc, pm, an, cdv, ct, osl, rfl, l, c⟩
/-- a def without defaults, from what the head tells -/
theorem dfn_mk {h : Heap} {x : Str} {st : Stmt} {ps : List Str} {f : Addr} {oc : Value} {od an : Option Addr} {osl : Array (Option Value)} {kV doc pm cdv ct : Value} (X : K.In h) (G : h.Ns mainGlobals mg)
    (hb : ∀ us : List Value, us.length = ps.length → bindArgs (PySem.W.fnOf x x (defArgs st) (defBody st) (defScope st) .none kV doc pm an cdv ct) ⟨us, []⟩ = pure (ps.zip us))
    (a : PySem.W.nsIn K mainGlobals x = some (some (.ref f))) (l : K.lookup f = some ⟨oc, od, .func (PySem.W.fnOf x x (defArgs st) (defBody st) (defScope st) .none kV doc pm an cdv ct), osl⟩) (c : PySem.W.codeIn K cdv x = true) (k : PySem.W.keepIn K (.ref f) = true) :
    Dfn K mg x st ps [] := ⟨f, _, src_mk l c, PySem.W.mg_of X G a, k, Binds.all hb⟩
end
end Rf

namespace Rf
open PySem PySem.Spec PyProof.Rows L2
def topS (i : Nat) : Stmt := PySem.Challenge.pw_oneroof_k13_inner_links.main.body.getD i (.Pass ⟨0, 0, 0, 0⟩)
section
variable {P : Program} {w : World} {K : PySem.W.Frag} {mg : Str → Option Value} {base : Heap}
local macro_rules | `(tactic| walk_at "g1") => `(tactic| first
  | with_reducible refine g_seq ?_
  | with_reducible refine g_asg ?_
  | with_reducible refine g_name ?_
  | ((with_reducible refine' g_var ?gv ?_); (case gv => exact rfl))
  | with_reducible refine g_c ?_
  | with_reducible refine g_op ?_
  | with_reducible refine g_cons ?_
  | with_reducible refine g_nil ?_
  | with_reducible refine g_cb ?_
  | with_reducible refine g_if ?_
  | with_reducible refine g_test ?_
  | with_reducible refine g_bl ?_
  | with_reducible refine g_ret ?_
  | with_reducible refine g_for ?_
  | with_reducible refine g_lc ?_
  | with_reducible refine g_yes ?_
  | with_reducible refine g_m1 ?_
  | with_reducible refine g_m0 ?_
  | with_reducible refine g_isStr ?_
  | with_reducible refine g_rng1 ?_
  | with_reducible refine g_rng2 ?_
  | with_reducible refine g_seqI ?_
  | with_reducible refine g_call ?_
  | with_reducible refine g_drop ?_
  | with_reducible refine g_next ?_
  | with_reducible refine g_ifE ?_
  | with_reducible refine g_iteT ?_
  | with_reducible refine g_iteF ?_
  | with_reducible refine g_par ?_
  | with_reducible refine g_par2 ?_
  | with_reducible refine g_un ?_
  | with_reducible refine g_and ?_
  | with_reducible refine g_or ?_
  | with_reducible refine g_not ?_
  | with_reducible refine g_andV ?_
  | with_reducible refine g_orV ?_
  | with_reducible refine g_notV ?_
  | with_reducible refine g_tru ?_
  | with_reducible refine g_truB ?_
  | with_reducible refine g_retN ?_
  | with_reducible refine g_tup ?_
  | with_reducible refine g_lst ?_
  | with_reducible refine g_chain ?_
  | with_reducible refine g_sl ?_
  | with_reducible refine g_noPart ?_
  | with_reducible refine g_part ?_
  | with_reducible refine g_int ?_
  | with_reducible refine g_fld ?_
  | with_reducible refine g_bm ?_
  | with_reducible refine g_bm0 ?_
  | with_reducible refine g_gcons ?_
  | with_reducible refine g_gnil ?_
  | with_reducible refine g_gsub ?_
  | with_reducible refine i_add ?_
  | with_reducible refine i_sub ?_
  | ((with_reducible refine i_mul ?c ?_); (case c => first | exact Or.inr ⟨by decide, by decide⟩ | exact Or.inl ⟨by decide, by decide⟩ | exact Or.inl ⟨by omega, by omega⟩ | exact Or.inr ⟨by omega, by omega⟩))
  | ((with_reducible refine i_fdiv ?c ?_); (case c => first | exact ⟨by decide, by decide⟩ | exact ⟨by omega, by omega⟩))
  | ((with_reducible refine i_mod ?c ?_); (case c => first | decide | omega))
  | ((with_reducible refine i_pow ?c ?_); (case c => exact ⟨by decide, by decide, by decide⟩))
  | with_reducible refine i_lt ?_
  | with_reducible refine i_le ?_
  | with_reducible refine i_gt ?_
  | with_reducible refine i_ge ?_
  | with_reducible refine i_neg ?_
  | with_reducible refine i_eqI ?_
  | with_reducible refine i_neI ?_
  | with_reducible refine i_eqS ?_
  | with_reducible refine i_neS ?_
  | with_reducible refine i_max2 ?_
  | with_reducible refine i_min2 ?_
  | with_reducible refine i_abs ?_
  | ((with_reducible refine g_iteTc ?c ?_); (case c => exact rfl))
  | ((with_reducible refine g_iteFc ?c ?_); (case c => exact rfl)))
local macro_rules | `(tactic| walk_at "go") => `(tactic| repeat walk_at "g1")
/-! ### _law_cell -/
def cellBase (ns : List Int) : Int := ns.foldl (fun b v => (b * 31 + v) % 1000003) 17
def cell (ns : List Int) (k : Int) : Int := if k < (ns.length : Int) then ns.getD k.toNat 0 else (cellBase ns + 1) * (k + 3) * 7919 % 2147483629
def spCell (K : PySem.W.Frag) : Sp := fun vs H Q _ => ∃ (l : Addr) (ns : List Int) (k : Int), vs = [.ref l, .int k] ∧ SqL K H l (ns.map V.int) ∧ 0 ≤ k ∧ k < 1000000 ∧ Q (.int (cell ns k)) H
theorem base_lt : ∀ (ns : List Int) (b : Int), 0 ≤ b ∧ b < 1000003 → 0 ≤ ns.foldl (fun b v => (b * 31 + v) % 1000003) b ∧ ns.foldl (fun b v => (b * 31 + v) % 1000003) b < 1000003
  | [], b, h => h
  | v :: r, b, h => by
    rw [List.foldl_cons]
    exact base_lt r _ ⟨Int.emod_nonneg _ (by decide), Int.emod_lt_of_pos _ (by decide)⟩
abbrev s_law_cell : Stmt := topS 3
abbrev N_law_cell : List Str := ["_law_script", "_law_k", "_law_base", "_law_one"]
abbrev P_law_cell : List Str := ["_law_script", "_law_k"]
theorem sc_law_cell : FnScope N_law_cell P_law_cell (defScope s_law_cell) := ⟨rfl, rfl, rfl, by decide +kernel, rfl, by decide +kernel, by decide +kernel⟩
theorem cal_law_cell (F : Dfn K mg "_law_cell" s_law_cell P_law_cell []) (B : Blt mg) : Cal P w K mg base 1 "_law_cell" [] (spCell K) := by
  refine F.cal .nil sc_law_cell (fun vs H Q E h => ?_) (fun f cdv A outer s H vs Q E hr hG h => ?_)
  · obtain ⟨l, ns, k, rfl, _⟩ := h
    rfl
  · obtain ⟨l, ns, k, rfl, hl, h0, h1, q⟩ := h
    have hu := hu_of hr
    have nd := sc_law_cell.nd
    refine ⟨_, (pss_cons (ps_if (pt_cmpR uq_lt (pv 1) (pe_callB (uc_len (K := K)) (by rfl) B.b_len (by decide +kernel) (pa_cons (pv 0) pa_nil)) (nomark _)) (pss_one (ps_ret (pe_ix (uq_ix (K := K) hu) (pv 0) (pv 1) (fun _ _ => rfl)))) pss_nil)
      (pss_cons (ps_set (i := 2) nd rfl (Or.inl rfl) pe_int)
      (pss_cons (ps_for PW rfl (ui_seq (K := K) (pv 0)) (pg_name (i := 3) nd rfl (Or.inl rfl)) (pss_one (ps_set (i := 2) nd rfl (Or.inl rfl) (pe_op uq_mod (pe_op uq_add (pe_op uq_mul (pv 2) pe_int) (pv 3)) pe_int))))
      (pss_one (ps_ret (pe_op uq_mod (pe_op uq_mul (pe_op uq_mul (pe_op uq_add (pv 2) pe_int) (pe_op uq_add (pv 1) pe_int)) pe_int) pe_int)))))), ?_⟩
    walk_at "go"
    refine i_lenL hl ?_
    walk_at "go"
    rw [List.length_map]
    refine ite2 (fun hk => ?_) (fun hk => ?_)
    · have hk' := of_decide_eq_true hk
      walk_at "go"
      refine i_ixL hl (atI_ints h0 hk') ?_
      unfold cell at q
      rw [if_pos hk'] at q
      exact q
    · have hk' : ¬ k < (ns.length : Int) := fun z => hk (decide_eq_true z)
      walk_at "go"
      refine Or.inl ⟨l, rfl, ⟨_, hl⟩, ?_⟩
      refine for_list (K := K) (a := l) (xs := ns.map V.int) (fun i σ H' => H' = H ∧ ∃ v : Option V, σ = [some (.ref l), some (.int k), some (.int (cellBase (ns.take i))), v]) ⟨rfl, none, rfl⟩ (fun i σ H' _ h => by rw [h.1]; exact hl) ?_ ?_
      · rintro i y σ H' hi ⟨rfl, v, rfl⟩
        obtain ⟨z, hz, rfl⟩ := getMapInt hi
        have hb : 0 ≤ cellBase (ns.take i) ∧ cellBase (ns.take i) < 1000003 := base_lt _ _ ⟨by decide, by decide⟩
        walk_at "go"
        refine ⟨rfl, some (.int z), ?_⟩
        unfold cellBase
        rw [take_snoc hz, List.foldl_append]
        rfl
      · rintro σ H' ⟨rfl, v, rfl⟩
        rw [List.length_map, List.take_length]
        have hb : 0 ≤ cellBase ns ∧ cellBase ns < 1000003 := base_lt _ _ ⟨by decide, by decide⟩
        walk_at "go"
        unfold cell at q
        rw [if_neg hk'] at q
        exact q

/-! ### _law_digits -/
def digA : Int → List Int → List Int
  | _, [] => []
  | r, s :: ss => r % s :: digA (r / s) ss
def digB : Int → Int → List Int → List Int
  | _, _, [] => []
  | one, j, s :: ss => (((one * 48271 + 10007 * (j + 1)) % 2147483629 * ((one * 48271 + 10007 * (j + 1)) % 2147483629) + 69621 * ((one * 48271 + 10007 * (j + 1)) % 2147483629) + j) % 2147483563) / 11 % s :: digB ((one * 48271 + 10007 * (j + 1)) % 2147483629) (j + 1) ss
def digs (ns : List Int) (k : Int) (ss : List Int) : List Int := if (10 : Int) ^ 18 ≤ cell ns k then digA (cell ns k - 10 ^ 18) ss else digB (cell ns k % 2147483647) 0 ss
/-- as many digits as sizes, each below its size -/
inductive Within : List Int → List Int → Prop
  | nil : Within [] []
  | cons {d s : Int} {ds ss : List Int} : 0 ≤ d → d < s → Within ds ss → Within (d :: ds) (s :: ss)
theorem digA_in : ∀ (ss : List Int) (r : Int), (∀ s ∈ ss, 0 < s) → Within (digA r ss) ss
  | [], _, _ => .nil
  | s :: ss, r, h => .cons (Int.emod_nonneg _ (by have := h s List.mem_cons_self; omega)) (Int.emod_lt_of_pos _ (h s List.mem_cons_self)) (digA_in ss _ fun x hx => h x (List.mem_cons_of_mem _ hx))
theorem digB_in : ∀ (ss : List Int) (r j : Int), (∀ s ∈ ss, 0 < s) → Within (digB r j ss) ss
  | [], _, _, _ => .nil
  | s :: ss, r, j, h => .cons (Int.emod_nonneg _ (by have := h s List.mem_cons_self; omega)) (Int.emod_lt_of_pos _ (h s List.mem_cons_self)) (digB_in ss _ _ fun x hx => h x (List.mem_cons_of_mem _ hx))
theorem digs_in (ns : List Int) (k : Int) (ss : List Int) (h : ∀ s ∈ ss, 0 < s) : Within (digs ns k ss) ss := by
  unfold digs
  split
  · exact digA_in _ _ h
  · exact digB_in _ _ _ h
theorem Within.len {ds ss : List Int} (h : Within ds ss) : ds.length = ss.length := by
  induction h with
  | nil => rfl
  | cons _ _ _ ih => simp [ih]
theorem Within.one {ds : List Int} {a : Int} (h : Within ds [a]) : ∃ x, ds = [x] ∧ 0 ≤ x ∧ x < a := by
  cases h with
  | cons h1 h2 h3 => cases h3; exact ⟨_, rfl, h1, h2⟩
theorem Within.next {ds ss : List Int} {a : Int} (h : Within ds (a :: ss)) : ∃ x r, ds = x :: r ∧ 0 ≤ x ∧ x < a ∧ Within r ss := by
  cases h with
  | cons h1 h2 h3 => exact ⟨_, _, rfl, h1, h2, h3⟩
def spDigits (K : PySem.W.Frag) : Sp := fun vs H Q _ => ∃ (l z : Addr) (ns : List Int) (k : Int) (ss : List Int), vs = [.ref l, .int k, .ref z] ∧ SqL K H l (ns.map V.int) ∧ SqL K H z (ss.map V.int) ∧ 0 ≤ k ∧ k < 1000000 ∧ ss.length ≤ 1000 ∧
  (∀ s ∈ ss, 0 < s ∧ s < 1073741824) ∧ ∀ p H', H p = none → Same H H' → H' p = some (.lst ((digs ns k ss).map V.int)) → Q (.ref p) H'
theorem pow18 : ((10 : Int) ^ (18 : Int).toNat) = (10 : Int) ^ 18 := rfl
abbrev s_law_digits : Stmt := topS 4
abbrev N_law_digits : List Str := ["_law_script", "_law_k", "_law_sizes", "_law_cell_here", "_law_out", "_law_rest", "_law_size", "_law_one", "_law_j", "_law_two"]
abbrev P_law_digits : List Str := ["_law_script", "_law_k", "_law_sizes"]
theorem sc_law_digits : FnScope N_law_digits P_law_digits (defScope s_law_digits) := ⟨rfl, rfl, rfl, by decide +kernel, rfl, by decide +kernel, by decide +kernel⟩
theorem cal_law_digits (F : Dfn K mg "_law_digits" s_law_digits P_law_digits []) (B : Blt mg) (c__law_cell : Cal P w K mg base 1 "_law_cell" [] (spCell K)) : Cal P w K mg base 2 "_law_digits" [] (spDigits K) := by
  refine F.cal .nil sc_law_digits (fun vs H Q E h => ?_) (fun f cdv A outer s H vs Q E hr hG h => ?_)
  · obtain ⟨l, z, ns, k, ss, rfl, _⟩ := h
    rfl
  · obtain ⟨l, z, ns, k, ss, rfl, hl, hz, h0, h1, hlen, hss, q⟩ := h
    have hu := hu_of hr
    have nd := sc_law_digits.nd
    refine ⟨_, (pss_cons (ps_set (i := 3) nd rfl (Or.inl rfl) (ue_call c__law_cell hr (by decide) hG (by rfl) PB (pa_cons (pv 0) (pa_cons (pv 1) pa_nil))))
      (pss_cons (ps_set (i := 4) nd rfl (Or.inl rfl) (pe_lst pa_nil))
      (pss_cons (ps_if (pt_cmpR uq_ge (pv 3) (pe_op uq_pow pe_int pe_int) (nomark _)) (pss_cons (ps_set (i := 5) nd rfl (Or.inl rfl) (pe_op uq_sub (pv 3) (pe_op uq_pow pe_int pe_int)))
      (pss_cons (ps_for PW rfl (ui_seq (K := K) (pv 2)) (pg_name (i := 6) nd rfl (Or.inl rfl)) (pss_cons (ps_expr (ue_bm (K := K) PySem.F.plainAttrs_list PySem.F.slot_list_append PySem.F.type_list_append mt_append (pv 4) (pa_cons (pe_op uq_mod (pv 5) (pv 6)) pa_nil)))
      (pss_one (ps_set (i := 5) nd rfl (Or.inl rfl) (pe_op uq_fdiv (pv 5) (pv 6))))))
      (pss_one (ps_ret (pv 4))))) pss_nil)
      (pss_cons (ps_set (i := 7) nd rfl (Or.inl rfl) (pe_op uq_mod (pv 3) pe_int))
      (pss_cons (ps_for PW rfl (pi_range1 (by rfl) B.b_range (pa_cons (pe_callB (uc_len (K := K)) (by rfl) B.b_len (by decide +kernel) (pa_cons (pv 2) pa_nil)) pa_nil)) (pg_name (i := 8) nd rfl (Or.inl rfl)) (pss_cons (ps_set (i := 7) nd rfl (Or.inl rfl) (pe_op uq_mod (pe_op uq_add (pe_op uq_mul (pv 7) pe_int) (pe_op uq_mul pe_int (pe_op uq_add (pv 8) pe_int))) pe_int))
      (pss_cons (ps_set (i := 9) nd rfl (Or.inl rfl) (pe_op uq_mod (pe_op uq_add (pe_op uq_add (pe_op uq_mul (pv 7) (pv 7)) (pe_op uq_mul pe_int (pv 7))) (pv 8)) pe_int))
      (pss_one (ps_expr (ue_bm (K := K) PySem.F.plainAttrs_list PySem.F.slot_list_append PySem.F.type_list_append mt_append (pv 4) (pa_cons (pe_op uq_mod (pe_op uq_fdiv (pv 9) pe_int) (pe_ix (uq_ix (K := K) hu) (pv 2) (pv 8) (fun _ _ => rfl))) pa_nil)))))))
      (pss_one (ps_ret (pv 4)))))))), ?_⟩
    walk_at "go"
    refine ⟨l, ns, k, rfl, hl, h0, h1, ?_⟩
    walk_at "go"
    refine ⟨by decide, fun p hp => ?_⟩
    have sm : Same H (upd H p (.lst [])) := Same.mut (Same.refl H) hp
    walk_at "go"
    refine ite2 (fun hk => ?_) (fun hk => ?_)
    · have hk' : (10 : Int) ^ 18 ≤ cell ns k := of_decide_eq_true hk
      have ed : digs ns k ss = digA (cell ns k - 10 ^ 18) ss := by unfold digs; rw [if_pos hk']
      rw [ed] at q
      walk_at "go"
      refine Or.inl ⟨z, rfl, ⟨_, sm.seq hz⟩, ?_⟩
      refine for_list (K := K) (a := z) (xs := ss.map V.int) (fun i σ H' => ∃ (acc : List Int) (r : Int) (v : Option V), Same H H' ∧ H' p = some (.lst (acc.map V.int)) ∧ acc.length = i ∧
          acc ++ digA r (ss.drop i) = digA (cell ns k - 10 ^ 18) ss ∧ σ = [some (.ref l), some (.int k), some (.ref z), some (.int (cell ns k)), some (.ref p), some (.int r), v, none, none, none])
        ⟨[], _, none, sm, upd_same, rfl, rfl, rfl⟩ (fun i σ H' _ ⟨_, _, _, s2, _⟩ => s2.seq hz) ?_ ?_
      · rintro i y σ H' hi ⟨acc, r, v, s2, hp2, ha, he, rfl⟩
        obtain ⟨x, hx, rfl⟩ := getMapInt hi
        have hx2 := hss x (List.mem_of_getElem? hx)
        have hil : i < ss.length := (List.getElem?_eq_some_iff.mp hx).1
        walk_at "go"
        refine ⟨Or.inl ⟨rfl, _, SqL.of hp2⟩, ?_⟩
        walk_at "go"
        refine i_append hp2 (by rw [List.length_map]; exact sz_small' (by omega)) ?_
        walk_at "go"
        refine ⟨acc ++ [r % x], r / x, some (.int x), s2.mut hp, by rw [upd_same, List.map_append]; rfl, by simp [ha], ?_, rfl⟩
        rw [drop_cons hx] at he
        rw [← he, List.append_assoc]
        rfl
      · rintro σ H' ⟨acc, r, v, s2, hp2, ha, he, rfl⟩
        walk_at "go"
        rw [List.length_map, List.drop_length] at he
        have he' : acc = digA (cell ns k - 10 ^ 18) ss := by rw [← he]; exact (List.append_nil _).symm
        exact q p H' hp s2 (by rw [← he']; exact hp2)
    · have hk' : ¬ (10 : Int) ^ 18 ≤ cell ns k := fun z => hk (decide_eq_true z)
      have ed : digs ns k ss = digB (cell ns k % 2147483647) 0 ss := by unfold digs; rw [if_neg hk']
      rw [ed] at q
      have hc0 : 0 ≤ cell ns k % 2147483647 := Int.emod_nonneg _ (by decide)
      have hc1 : cell ns k % 2147483647 < 2147483647 := Int.emod_lt_of_pos _ (by decide)
      walk_at "go"
      refine i_lenL (sm.seq hz) ?_
      walk_at "go"
      rw [List.length_map]
      refine ⟨(ss.length : Int), rfl, by omega, by omega, ?_⟩
      refine for_range (lo := 0) (n := ((ss.length : Int)).toNat) (fun i σ H' => ∃ (acc : List Int) (one : Int) (v1 v2 : Option V), Same H H' ∧ H' p = some (.lst (acc.map V.int)) ∧ acc.length = i ∧ 0 ≤ one ∧ one < 2147483647 ∧
          acc ++ digB one i (ss.drop i) = digB (cell ns k % 2147483647) 0 ss ∧ σ = [some (.ref l), some (.int k), some (.ref z), some (.int (cell ns k)), some (.ref p), none, none, some (.int one), v1, v2])
        ⟨[], _, none, none, sm, upd_same, rfl, hc0, hc1, rfl, rfl⟩ ?_ ?_
      · rintro i σ H' hi ⟨acc, one, v1, v2, s2, hp2, ha, o0, o1, he, rfl⟩
        have hil : i < ss.length := by omega
        obtain ⟨x, hx⟩ : ∃ x, ss[i]? = some x := ⟨_, List.getElem?_eq_getElem hil⟩
        have hx2 := hss x (List.mem_of_getElem? hx)
        have m0 : 0 ≤ (one * 48271 + 10007 * ((0 : Int) + (i : Int) + 1)) % 2147483629 := Int.emod_nonneg _ (by decide)
        have m1 : (one * 48271 + 10007 * ((0 : Int) + (i : Int) + 1)) % 2147483629 < 2147483629 := Int.emod_lt_of_pos _ (by decide)
        walk_at "go"
        refine ⟨Or.inl ⟨rfl, _, SqL.of hp2⟩, ?_⟩
        walk_at "go"
        refine i_ixL (s2.seq hz) (atI_of (v := .int x) (by omega) (by rw [List.getElem?_map, show ((0 : Int) + (i : Int)).toNat = i by omega, hx]; rfl)) ?_
        walk_at "go"
        refine i_append hp2 (by rw [List.length_map]; exact sz_small' (by omega)) ?_
        walk_at "go"
        refine ⟨acc ++ [_], (one * 48271 + 10007 * ((0 : Int) + (i : Int) + 1)) % 2147483629, _, _, s2.mut hp, by rw [upd_same, List.map_append]; rfl, by simp [ha], m0, by omega, ?_, rfl⟩
        rw [drop_cons hx] at he
        rw [← he, List.append_assoc]
        simp only [Int.zero_add, digB, List.cons_append, List.nil_append, Int.natCast_add, Int.natCast_one]
      · rintro σ H' ⟨acc, one, v1, v2, s2, hp2, ha, o0, o1, he, rfl⟩
        walk_at "go"
        rw [show ((ss.length : Int)).toNat = ss.length by omega, List.drop_length] at he
        have he' : acc = digB (cell ns k % 2147483647) 0 ss := by rw [← he]; exact (List.append_nil _).symm
        exact q p H' hp s2 (by rw [← he']; exact hp2)

/-! ### _law_names -/
def lett (i : Int) : Nat := 97 + i.toNat
def nmRest (one two size j : Int) : List Nat := (List.range size.toNat).map fun (i : Nat) => lett ((one + (i : Int) * two + 3 * j) % 26)
def nmFirst (one two size place j : Int) : List Nat := (nmRest one two size j).take place.toNat ++ [lett ((one + 7 * j + 11) % 26)] ++ (nmRest one two size j).drop place.toNat
def tails : List Nat := [105, 106, 107, 108, 109, 110, 111, 112, 113, 114, 115, 116]
def sx (l : List Nat) : Str := ⟨l.toArray⟩
def nmFree (j : Nat) (found : List Str) : Str := ((tails.filter fun t => decide (sx [122, 97 + j, t] ∉ found)).map fun t => sx [122, 97 + j, t]).headD (sx [])
def nmNext (ns : List Int) (k : Int) (j : Nat) (found : List Str) : Str :=
  let d := digs ns (k + (j : Int) % 2) [26, 26, 6, 5]
  let n := sx (nmFirst (d.getD 0 0) (d.getD 1 0) (d.getD 2 0) (d.getD 3 0) j)
  if n ∈ found then nmFree j found else n
def names (ns : List Int) (k : Int) : Nat → List Str
  | 0 => []
  | j + 1 => names ns k j ++ [nmNext ns k j (names ns k j)]
/-- one to six small letters -/
def NameOk (s : Str) : Prop := 1 ≤ s.length ∧ s.length ≤ 6 ∧ ∀ c ∈ s.cps.toList, 97 ≤ c ∧ c ≤ 122
theorem names_len (ns : List Int) (k : Int) : ∀ n, (names ns k n).length = n
  | 0 => rfl
  | n + 1 => by simp [names, names_len ns k n]
theorem lett_ok {i : Int} : 97 ≤ lett (i % 26) ∧ lett (i % 26) ≤ 122 := by
  have h1 := Int.emod_nonneg i (b := 26) (by decide)
  have h2 := Int.emod_lt_of_pos i (b := 26) (by decide)
  unfold lett
  omega
theorem nmRest_ok {one two size j : Int} : ∀ c ∈ nmRest one two size j, 97 ≤ c ∧ c ≤ 122 := by
  intro c hc
  obtain ⟨i, _, rfl⟩ := List.mem_map.mp hc
  exact lett_ok
theorem nmFirst_ok {one two size place j : Int} (h0 : 0 ≤ size) (h1 : size < 6) : NameOk (sx (nmFirst one two size place j)) := by
  have hl : (nmFirst one two size place j).length = size.toNat + 1 := by
    have e : (nmRest one two size j).length = size.toNat := by simp [nmRest]
    unfold nmFirst
    simp only [List.length_append, List.length_take, List.length_drop, List.length_singleton, e]
    omega
  refine ⟨?_, ?_, ?_⟩
  · show 1 ≤ (nmFirst one two size place j).toArray.size
    rw [List.size_toArray, hl]; omega
  · show (nmFirst one two size place j).toArray.size ≤ 6
    rw [List.size_toArray, hl]; omega
  · intro c hc
    have hc' : c ∈ nmFirst one two size place j := by simpa [sx] using hc
    unfold nmFirst at hc'
    rcases List.mem_append.mp hc' with h | h
    · rcases List.mem_append.mp h with h | h
      · exact nmRest_ok c (List.mem_of_mem_take h)
      · rw [List.mem_singleton.mp h]; exact lett_ok
    · exact nmRest_ok c (List.mem_of_mem_drop h)
theorem nd_le {α : Type} [DecidableEq α] : ∀ {l m : List α}, l.Nodup → (∀ x ∈ l, x ∈ m) → l.length ≤ m.length
  | [], _, _, _ => Nat.zero_le _
  | x :: l, m, hn, h => by
    have hx := h x List.mem_cons_self
    have h2 := nd_le (l := l) (m := m.erase x) (List.nodup_cons.mp hn).2 fun y hy => by
      have ne : y ≠ x := fun e => (List.nodup_cons.mp hn).1 (e ▸ hy)
      exact (List.mem_erase_of_ne ne).mpr (h y (List.mem_cons_of_mem _ hy))
    have e := List.length_erase_of_mem hx
    have p := List.length_pos_of_mem hx
    simp only [List.length_cons]
    omega
theorem sx_inj {a b : List Nat} (h : sx a = sx b) : a = b := by
  have := congrArg (fun s : Str => s.cps.toList) h
  simpa [sx] using this
theorem nmFree_some (j : Nat) (found : List Str) (h : found.length ≤ 11) : ∃ t r, tails.filter (fun t => decide (sx [122, 97 + j, t] ∉ found)) = t :: r ∧ t ∈ tails ∧ sx [122, 97 + j, t] ∉ found := by
  cases e : tails.filter (fun t => decide (sx [122, 97 + j, t] ∉ found)) with
  | cons t r =>
    have ht : t ∈ tails.filter (fun t => decide (sx [122, 97 + j, t] ∉ found)) := by rw [e]; exact List.mem_cons_self
    obtain ⟨h1, h2⟩ := List.mem_filter.mp ht
    exact ⟨t, r, rfl, h1, of_decide_eq_true h2⟩
  | nil =>
    have hall : ∀ x ∈ tails.map (fun t => sx [122, 97 + j, t]), x ∈ found := by
      intro x hx
      obtain ⟨t, ht, rfl⟩ := List.mem_map.mp hx
      have := List.filter_eq_nil_iff.mp e t ht
      simpa using this
    have hnd : (tails.map (fun t => sx [122, 97 + j, t])).Nodup := by
      refine List.Pairwise.map _ ?_ (show tails.Nodup by decide)
      intro a b hab z
      have := sx_inj z
      simp at this
      exact hab this
    have := nd_le hnd hall
    simp [tails] at this
    omega
theorem nmFree_ok {j : Nat} {found : List Str} (h : found.length ≤ 11) (hj : j < 26) : NameOk (nmFree j found) ∧ nmFree j found ∉ found := by
  obtain ⟨t, r, e, ht, hn⟩ := nmFree_some j found h
  have e2 : nmFree j found = sx [122, 97 + j, t] := by unfold nmFree; rw [e]; rfl
  rw [e2]
  refine ⟨⟨by simp [sx, Str.length], by simp [sx, Str.length], ?_⟩, hn⟩
  intro c hc
  have hc' : c = 122 ∨ c = 97 + j ∨ c = t := by simpa [sx] using hc
  have htt : 105 ≤ t ∧ t ≤ 116 := by simp [tails] at ht; omega
  omega
theorem digs4 (ns : List Int) (k a b c d : Int) (ha : 0 < a) (hb : 0 < b) (hc : 0 < c) (hd : 0 < d) : ∃ x y z u, digs ns k [a, b, c, d] = [x, y, z, u] ∧ 0 ≤ x ∧ x < a ∧ 0 ≤ y ∧ y < b ∧ 0 ≤ z ∧ z < c ∧ 0 ≤ u ∧ u < d := by
  have h := digs_in ns k [a, b, c, d] (by intro s hs; simp at hs; omega)
  obtain ⟨x, r, e1, x0, x1, h⟩ := h.next
  obtain ⟨y, r2, e2, y0, y1, h⟩ := h.next
  obtain ⟨z, r3, e3, z0, z1, h⟩ := h.next
  obtain ⟨u, e4, u0, u1⟩ := h.one
  exact ⟨x, y, z, u, by rw [e1, e2, e3, e4], x0, x1, y0, y1, z0, z1, u0, u1⟩
theorem nmNext_ok {ns : List Int} {k : Int} {j : Nat} {found : List Str} (h : found.length ≤ 11) (hj : j < 26) : NameOk (nmNext ns k j found) ∧ nmNext ns k j found ∉ found := by
  obtain ⟨x, y, z, u, e, x0, x1, y0, y1, z0, z1, u0, u1⟩ := digs4 ns (k + (j : Int) % 2) 26 26 6 5 (by decide) (by decide) (by decide) (by decide)
  unfold nmNext
  simp only [e]
  split
  · exact nmFree_ok h hj
  · exact ⟨nmFirst_ok z0 z1, by assumption⟩
theorem names_ok (ns : List Int) (k : Int) : ∀ n, n ≤ 12 → (names ns k n).Nodup ∧ ∀ x ∈ names ns k n, NameOk x
  | 0, _ => ⟨List.nodup_nil, fun _ h => nomatch h⟩
  | n + 1, h => by
    obtain ⟨h1, h2⟩ := names_ok ns k n (by omega)
    have h3 := nmNext_ok (ns := ns) (k := k) (j := n) (found := names ns k n) (by rw [names_len]; omega) (by omega)
    refine ⟨nd_snoc h1 h3.2, fun x hx => ?_⟩
    rcases List.mem_append.mp hx with hx | hx
    · exact h2 x hx
    · rw [List.mem_singleton.mp hx]; exact h3.1
theorem names_pre (ns : List Int) (k : Int) (n : Nat) : ∀ m, n ≤ m → (names ns k m).take n = names ns k n := by
  intro m h
  induction m with
  | zero => cases Nat.le_zero.mp h; rfl
  | succ m ih =>
    by_cases e : n = m + 1
    · subst e; rw [List.take_of_length_le (by rw [names_len]; omega)]
    · show (names ns k m ++ _).take n = _
      rw [List.take_append_of_le_length (by rw [names_len]; omega)]
      exact ih (by omega)
def spNames (K : PySem.W.Frag) : Sp := fun vs H Q _ => ∃ (l : Addr) (ns : List Int) (k : Int) (many : Nat), vs = [.ref l, .int k, .int many] ∧ SqL K H l (ns.map V.int) ∧ 0 ≤ k ∧ k < 900000 ∧ many ≤ 12 ∧
  ∀ p H', H p = none → Same H H' → H' p = some (.lst ((names ns k many).map V.str)) → Q (.ref p) H'
theorem alph_at {i : Int} (h0 : 0 ≤ i) (h1 : i < 26) : atI (Str.ofString "abcdefghijklmnopqrstuvwxyz").cps.toList i = some (lett i) := by
  refine atI_of h0 ?_
  have e : (Str.ofString "abcdefghijklmnopqrstuvwxyz").cps.toList = (List.range 26).map (97 + ·) := by decide +kernel
  rw [e, List.getElem?_map, List.getElem?_range (by omega)]
  rfl
theorem alph_len : (Str.ofString "abcdefghijklmnopqrstuvwxyz").length ≤ sizeLine := by decide +kernel
theorem sx_add (a b : List Nat) : sx a ++ sx b = sx (a ++ b) := by
  show (⟨a.toArray ++ b.toArray⟩ : Str) = ⟨(a ++ b).toArray⟩
  simp
theorem sx_len (a : List Nat) : (sx a).length = a.length := by simp [sx, Str.length]
theorem inV_str {x : Str} {xs : List Str} : inV (.str x) (xs.map V.str) = decide (x ∈ xs) := by
  induction xs with
  | nil => rfl
  | cons y ys ih =>
    have e : inV (.str x) ((y :: ys).map V.str) = (eqV (.str y) (.str x) || inV (.str x) (ys.map V.str)) := rfl
    rw [e, ih]
    have e2 : eqV (.str y) (.str x) = decide (y = x) := by
      show (y == x) = _
      rfl
    rw [e2]
    by_cases h : y = x
    · subst h
      simp
    · have h' : ¬ x = y := fun z => h z.symm
      simp [h, h']
theorem flat_strs (xs : List Str) : (xs.map V.str).all flatV = true := by
  rw [List.all_eq_true]
  intro x hx
  obtain ⟨y, _, rfl⟩ := List.mem_map.mp hx
  rfl
theorem tl_ext {a b : Str} (h : a.cps.toList = b.cps.toList) : a = b := by
  cases a
  cases b
  simp only at h
  congr 1
  exact Array.toList_inj.mp h
theorem join_empty (ls : List Nat) : Txt.join (Str.ofString "") (ls.map fun c => (⟨#[c]⟩ : Str)) = sx ls := by
  refine tl_ext ?_
  rw [TL.join_eq]
  have h := TL.tl_join (Str.ofString "") (ls.map fun c => (⟨#[c]⟩ : Str))
  refine h.trans ?_
  have e : TL.tl (Str.ofString "") = [] := by decide +kernel
  rw [e, List.map_map]
  induction ls with
  | nil => rfl
  | cons a r ih =>
    cases r with
    | nil => rfl
    | cons b r =>
      have ih' := ih (TL.tl_join (Str.ofString "") ((b :: r).map fun c => (⟨#[c]⟩ : Str)))
      show [a] ++ ([] ++ TL.joinL [] (List.map _ (b :: r))) = _
      rw [ih']
      rfl
theorem cut_take (l : List Nat) {i : Int} (h : 0 ≤ i) : cutS (sx l) none (some i) = sx (l.take i.toNat) := by
  refine tl_ext ?_
  unfold cutS
  have e : HT.sIx (sx l).length (sx l).length (some i) = min i.toNat l.length := by
    show (if i < 0 then _ else min i.toNat (sx l).length) = _
    rw [if_neg (by omega), sx_len]
  have e0 : HT.sIx (sx l).length 0 none = 0 := rfl
  rw [e, e0]
  simp only [sx, List.drop_zero, Nat.sub_zero]
  rw [List.take_eq_take_iff]
  omega
theorem cut_drop (l : List Nat) {i : Int} (h : 0 ≤ i) : cutS (sx l) (some i) none = sx (l.drop i.toNat) := by
  refine tl_ext ?_
  unfold cutS
  have e : HT.sIx (sx l).length 0 (some i) = min i.toNat l.length := by
    show (if i < 0 then _ else min i.toNat (sx l).length) = _
    rw [if_neg (by omega), sx_len]
  have e0 : HT.sIx (sx l).length (sx l).length none = l.length := by rw [sx_len]; rfl
  rw [e, e0]
  simp only [sx]
  by_cases c : i.toNat ≤ l.length
  · rw [Nat.min_eq_left c, List.take_of_length_le (by rw [List.length_drop]; exact Nat.le_refl _)]
  · rw [Nat.min_eq_right (by omega), List.drop_length, List.drop_eq_nil_of_le (by omega : l.length ≤ i.toNat)]
    simp
theorem sum_ones (l : List Nat) : ((l.map fun c => (⟨#[c]⟩ : Str)).map (·.length)).sum = l.length := by
  induction l with
  | nil => rfl
  | cons a r ih =>
    simp only [List.map_cons, List.sum_cons, ih, List.length_cons]
    have e : (⟨#[a]⟩ : Str).length = 1 := rfl
    omega
theorem of_len (s : String) (n : Nat) (h : (Str.ofString s).length = n) (h2 : n ≤ 1000000) : (Str.ofString s).length ≤ sizeLine := by rw [h]; exact sz_small h2
theorem sx_one (c : Nat) : (⟨#[c]⟩ : Str) = sx [c] := rfl
abbrev s_law_names : Stmt := topS 5
abbrev N_law_names : List Str := ["_law_script", "_law_k", "_law_many", "_law_found", "_law_letters", "_law_j", "_law_one", "_law_two", "_law_size", "_law_place", "_law_rest", "_law_name", "_law_i", "_law_tail"]
abbrev P_law_names : List Str := ["_law_script", "_law_k", "_law_many"]
theorem sc_law_names : FnScope N_law_names P_law_names (defScope s_law_names) := ⟨rfl, rfl, rfl, by decide +kernel, rfl, by decide +kernel, by decide +kernel⟩
theorem cal_law_names (F : Dfn K mg "_law_names" s_law_names P_law_names []) (B : Blt mg) (c__law_digits : Cal P w K mg base 2 "_law_digits" [] (spDigits K)) : Cal P w K mg base 3 "_law_names" [] (spNames K) := by
  refine F.cal .nil sc_law_names (fun vs H Q E h => ?_) (fun f cdv A outer s H vs Q E hr hG h => ?_)
  · obtain ⟨l, ns, k, many, rfl, _⟩ := h
    rfl
  · obtain ⟨l, ns, k, many, rfl, hl, h0, h1, hm, q⟩ := h
    have hu := hu_of hr
    have nd := sc_law_names.nd
    refine ⟨_, (pss_cons (ps_asg (pe_tup (pa_cons (pe_lst pa_nil) (pa_cons pe_str pa_nil))) (ug_seq (K := K) (n := 2) rfl (pgs_cons (pg_name (i := 3) nd rfl (Or.inr rfl)) (pgs_cons (pg_name (i := 4) nd rfl (Or.inr rfl)) pgs_nil))))
      (pss_cons (ps_for PW rfl (pi_range1 (by rfl) B.b_range (pa_cons (pv 2) pa_nil)) (pg_name (i := 5) nd rfl (Or.inr rfl)) (pss_cons (ps_asg (ue_call c__law_digits hr (by decide) hG (by rfl) PB (pa_cons (pv 0) (pa_cons (pe_op uq_add (pv 1) (pe_op uq_mod (pv 5) pe_int)) (pa_cons (pe_lst (pa_cons pe_int (pa_cons pe_int (pa_cons pe_int (pa_cons pe_int pa_nil))))) pa_nil)))) (ug_seq (K := K) (n := 4) rfl (pgs_cons (pg_name (i := 6) nd rfl (Or.inr rfl)) (pgs_cons (pg_name (i := 7) nd rfl (Or.inr rfl)) (pgs_cons (pg_name (i := 8) nd rfl (Or.inl rfl)) (pgs_cons (pg_name (i := 9) nd rfl (Or.inl rfl)) pgs_nil))))))
      (pss_cons (ps_set (i := 10) nd rfl (Or.inl rfl) (ue_join (K := K) pe_str (pe_lc (own := [("_law_i", 12)]) rfl nd (pi_range1 (by rfl) B.b_range (pa_cons (pv 8) pa_nil)) (blkOk_by (own := [("_law_i", 12)]) (N := N_law_names) (sc := defScope (s_law_names)) (by decide +kernel)) (fun _ _ _ _ _ => (pg_name (i := 12) nd rfl (Or.inl rfl))) (fun _ _ _ _ _ => pts_nil) (fun _ _ _ _ _ => (pe_ix (uq_ix (K := K) hu) (pv 4) (pe_op uq_mod (pe_op uq_add (pe_op uq_add (pv 6) (pe_op uq_mul (pv 12) (pv 7))) (pe_op uq_mul pe_int (pv 5))) pe_int) (fun _ _ => rfl))))))
      (pss_cons (ps_set (i := 11) nd rfl (Or.inl rfl) (pe_op uq_add (pe_op uq_add (pe_slice (uq_sl (K := K)) (pv 10) po_none (po_some (pv 9))) (pe_ix (uq_ix (K := K) hu) (pv 4) (pe_op uq_mod (pe_op uq_add (pe_op uq_add (pv 6) (pe_op uq_mul pe_int (pv 5))) pe_int) pe_int) (fun _ _ => rfl))) (pe_slice (uq_sl (K := K)) (pv 10) (po_some (pv 9)) po_none)))
      (pss_cons (ps_if (pt_cmpR (uq_in (K := K) hu) (pv 11) (pv 3) (by rfl)) (pss_one (ps_set (i := 11) nd rfl (Or.inl rfl) (pe_ix (uq_ix (K := K) hu) (pe_lc (own := [("_law_tail", 13)]) rfl nd (ui_seq (K := K) pe_str) (blkOk_by (own := [("_law_tail", 13)]) (N := N_law_names) (sc := defScope (s_law_names)) (by decide +kernel)) (fun _ _ _ _ _ => (pg_name (i := 13) nd rfl (Or.inl rfl))) (fun _ _ _ _ _ => (pts_one (pt_cmpR (uq_notin (K := K) hu) (pe_op uq_add (pe_op uq_add pe_str (pe_ix (uq_ix (K := K) hu) (pv 4) (pv 5) (fun _ _ => rfl))) (pv 13)) (pv 3) (by rfl)))) (fun _ _ _ _ _ => (pe_op uq_add (pe_op uq_add pe_str (pe_ix (uq_ix (K := K) hu) (pv 4) (pv 5) (fun _ _ => rfl))) (pv 13)))) pe_int (fun _ _ => rfl)))) pss_nil)
      (pss_one (ps_expr (ue_bm (K := K) PySem.F.plainAttrs_list PySem.F.slot_list_append PySem.F.type_list_append mt_append (pv 3) (pa_cons (pv 11) pa_nil)))))))))
      (pss_one (ps_ret (pv 3))))), ?_⟩
    walk_at "go"
    refine ⟨by decide, fun p hp => ?_⟩
    walk_at "go"
    refine ⟨sz_small (by simp), fun t ht => ?_⟩
    refine g_gseqT (SqT.of upd_same) rfl ?_
    walk_at "go"
    have hpt : p ≠ t := ne_of_none (upd_same (H := H) (o := .lst [])) ht
    have s0 : Same H (upd (upd H p (.lst [])) t (.tup [.ref p, .str (Str.ofString "abcdefghijklmnopqrstuvwxyz")])) := fun b o e => by
      rw [upd_ne (ne_of_none (Same.mut (Same.refl H) hp b o e) ht)]
      exact Same.mut (Same.refl H) hp b o e
    refine ⟨(many : Int), rfl, by omega, by omega, ?_⟩
    refine for_range (lo := 0) (n := ((many : Int)).toNat) (fun i σ H' => ∃ (v5 v6 v7 v8 v9 v10 v11 : Option V), Same H H' ∧ H' p = some (.lst ((names ns k i).map V.str)) ∧
        σ = [some (.ref l), some (.int k), some (.int many), some (.ref p), some (.str (Str.ofString "abcdefghijklmnopqrstuvwxyz")), v5, v6, v7, v8, v9, v10, v11, none, none])
      ⟨none, none, none, none, none, none, none, s0, by rw [upd_ne hpt, upd_same]; rfl, rfl⟩ ?_ ?_
    · rintro i σ H1 hi ⟨v5, v6, v7, v8, v9, v10, v11, s1, hp1, rfl⟩
      have hi' : i < many := by omega
      walk_at "go"
      refine ⟨sz_small (by decide), fun z hz => ?_⟩
      generalize e2 : upd H1 z (.lst [.int 26, .int 26, .int 6, .int 5]) = H2
      obtain ⟨s2, hz2⟩ := newH hz e2
      walk_at "go"
      have em : (k + (0 + (i : Int)) % 2) = k + (i : Int) % 2 := by rw [Int.zero_add]
      obtain ⟨one, two, size, place, ed, b1, b2, b3, b4, b5, b6, b7, b8⟩ := digs4 ns (k + (i : Int) % 2) 26 26 6 5 (by decide) (by decide) (by decide) (by decide)
      refine ⟨l, z, ns, k + (0 + (i : Int)) % 2, [26, 26, 6, 5], rfl, (s1.trans s2).seq hl, SqL.of hz2, by omega, by omega, by decide, by decide, fun y H3 hy s3 hy3 => ?_⟩
      rw [em, ed] at hy3
      have sH3 : Same H H3 := s1.trans (s2.trans s3)
      have hp3 : H3 p = some (.lst ((names ns k i).map V.str)) := s3 _ _ (s2 _ _ hp1)
      refine g_gseqL (xs := [.int one, .int two, .int size, .int place]) (SqL.of hy3) rfl ?_
      walk_at "go"
      refine ⟨size, rfl, by omega, by omega, fun D hD => ?_⟩
      have hDp : p ≠ D := ne_of_none hp3 hD
      refine lc_it walk_range (fun m H' => Same H3 H' ∧ H' D = some (.lst (((List.range m).map fun (x : Nat) => lett ((one + (x : Int) * two + 3 * (i : Int)) % 26)).map fun c => V.str ⟨#[c]⟩))) ⟨Same.mut (Same.refl H3) hD, upd_same⟩ (fun _ _ _ _ => trivial) ?_ ?_
      · rintro m x H4 H5 hm ⟨s4, hD4⟩ ⟨rfl, rfl⟩
        walk_at "go"
        refine ⟨rfl, ?_⟩
        walk_at "go"
        refine i_ixS alph_len (alph_at (Int.emod_nonneg _ (by decide)) (Int.emod_lt_of_pos _ (by decide))) ?_
        refine ⟨_, hD4, ?_, s4.mut hD, ?_⟩
        · rw [List.length_map, List.length_map, List.length_range]
          exact sz_small' (by omega)
        · rw [upd_same, List.range_succ, List.map_append, List.map_append]
          simp only [Int.zero_add]
          rfl
      · rintro H4 ⟨s4, hD4⟩
        walk_at "go"
        have er : ((List.range size.toNat).map fun (x : Nat) => lett ((one + (x : Int) * two + 3 * (i : Int)) % 26)) = nmRest one two size i := rfl
        rw [er] at hD4
        have hD4' : H4 D = some (.lst (((nmRest one two size i).map fun c => (⟨#[c]⟩ : Str)).map V.str)) := by rw [List.map_map]; exact hD4
        have hrl : (nmRest one two size i).length = size.toNat := by simp [nmRest]
        refine ⟨_, D, _, rfl, rfl, .inl (SqL.of hD4'), ?_, ?_⟩
        · rw [sum_ones, hrl, show (Str.ofString "").length = 0 by decide +kernel]
          omega
        rw [join_empty]
        walk_at "go"
        refine i_slS (sz_small (by rw [sx_len, hrl]; omega)) ?_
        rw [cut_take _ b7]
        walk_at "go"
        refine i_ixS alph_len (alph_at (Int.emod_nonneg _ (by decide)) (Int.emod_lt_of_pos _ (by decide))) ?_
        rw [sx_one]
        refine i_addS (sz_small (by rw [sx_len, sx_len, List.length_take, hrl]; simp; omega)) ?_
        rw [sx_add]
        walk_at "go"
        refine i_slS (sz_small (by rw [sx_len, hrl]; omega)) ?_
        rw [cut_drop _ b7]
        refine i_addS (sz_small (by rw [sx_len, sx_len, List.length_append, List.length_take, List.length_drop, hrl]; simp; omega)) ?_
        rw [sx_add]
        have en : (nmRest one two size i).take place.toNat ++ [lett ((one + 7 * (0 + (i : Int)) + 11) % 26)] ++ (nmRest one two size i).drop place.toNat = nmFirst one two size place i := by
          rw [Int.zero_add]
          rfl
        rw [en]
        walk_at "go"
        have sH4 : Same H H4 := sH3.trans s4
        have hp4 : H4 p = some (.lst ((names ns k i).map V.str)) := s4 _ _ hp3
        refine i_inL (SqL.of hp4) rfl (flat_strs _) ?_
        rw [inV_str]
        have hlen := names_len ns k i
        have hz : ((names ns k i).map V.str).length < sizeLine := by rw [List.length_map, hlen]; exact sz_small' (by omega)
        walk_at "go"
        have enx : nmNext ns k i (names ns k i) = if sx (nmFirst one two size place i) ∈ names ns k i then nmFree i (names ns k i) else sx (nmFirst one two size place i) := by
          unfold nmNext
          simp only [ed]
          rfl
        refine ite2 (fun hin => ?_) (fun hin => ?_)
        · have hin' := of_decide_eq_true hin
          rw [if_pos hin'] at enx
          walk_at "go"
          refine Or.inr (Or.inr (Or.inl ⟨_, rfl, fun E hE => ?_⟩))
          have hEp : p ≠ E := ne_of_none hp4 hE
          have hi26 : (0 : Int) + (i : Int) < 26 := by omega
          refine lc_it walk_str (fun m H' => Same H4 H' ∧ H' E = some (.lst ((((tails.take m).filter fun t => decide (sx [122, 97 + i, t] ∉ names ns k i)).map fun t => sx [122, 97 + i, t]).map V.str))) ⟨Same.mut (Same.refl H4) hE, upd_same⟩ (fun _ _ _ _ => trivial) ?_ ?_
          · rintro m x H5 H6 hm ⟨s5, hE5⟩ ⟨rfl, c, hc, rfl⟩
            have hc' : tails[m]? = some c := by
              have e : (Str.ofString "ijklmnopqrst").cps = tails.toArray := by decide +kernel
              rw [e] at hc
              simpa using hc
            have el : lett (0 + (i : Int)) = 97 + i := by unfold lett; omega
            walk_at "go"
            refine ⟨rfl, ?_⟩
            walk_at "go"
            refine i_ixS alph_len (alph_at (by omega) hi26) ?_
            rw [el, sx_one, show Str.ofString "z" = sx [122] by decide +kernel]
            refine i_addS (sz_small (by simp [sx_len])) ?_
            rw [sx_add]
            walk_at "go"
            rw [sx_one]
            refine i_addS (sz_small (by simp [sx_len])) ?_
            rw [sx_add]
            walk_at "go"
            refine i_notinL (SqL.of (s5 _ _ hp4)) rfl (flat_strs _) ?_
            rw [inV_str]
            walk_at "go"
            have et : tails.take (m + 1) = tails.take m ++ [c] := take_snoc hc'
            show if (!decide (sx [122, 97 + i, c] ∈ names ns k i)) = true then _ else _
            by_cases hf : sx [122, 97 + i, c] ∈ names ns k i
            · rw [if_neg (by simp [hf])]
              refine ⟨s5, ?_⟩
              rw [hE5, et, List.filter_append]
              simp [hf]
            · rw [if_pos (by simp [hf])]
              walk_at "go"
              refine i_ixS alph_len (alph_at (by omega) hi26) ?_
              rw [el, sx_one]
              refine i_addS (sz_small (by simp [sx_len])) ?_
              rw [sx_add]
              walk_at "go"
              refine i_addS (sz_small (by simp [sx_len])) ?_
              rw [sx_add]
              refine ⟨_, hE5, ?_, s5.mut hE, ?_⟩
              · rw [List.length_map, List.length_map]
                refine sz_small' (Nat.lt_of_le_of_lt (List.length_filter_le _ _) ?_)
                rw [List.length_take]
                simp [tails]
                omega
              · rw [upd_same, et, List.filter_append, List.map_append, List.map_append]
                simp [hf]
          · rintro H5 ⟨s5, hE5⟩
            walk_at "go"
            rw [show (Str.ofString "ijklmnopqrst").cps.size = 12 by decide +kernel, show tails.take 12 = tails by decide] at hE5
            obtain ⟨t, r, e, ht, hn⟩ := nmFree_some i (names ns k i) (by omega)
            rw [e] at hE5
            refine i_ixL (SqL.of hE5) (atI_of (v := .str (sx [122, 97 + i, t])) (by decide) rfl) ?_
            walk_at "go"
            refine ⟨Or.inl ⟨rfl, _, SqL.of (s5 _ _ hp4)⟩, ?_⟩
            walk_at "go"
            refine i_append (s5 _ _ hp4) hz ?_
            walk_at "go"
            refine ⟨_, _, _, _, _, _, _, (sH4.trans s5).mut hp, ?_, rfl⟩
            rw [upd_same]
            have ef : nmFree i (names ns k i) = sx [122, 97 + i, t] := by unfold nmFree; rw [e]; rfl
            show _ = some (HO.lst ((names ns k i ++ [nmNext ns k i (names ns k i)]).map V.str))
            rw [enx, ef, List.map_append]
            rfl
        · have hin' : ¬ sx (nmFirst one two size place i) ∈ names ns k i := fun z => hin (decide_eq_true z)
          rw [if_neg hin'] at enx
          walk_at "go"
          refine ⟨Or.inl ⟨rfl, _, SqL.of hp4⟩, ?_⟩
          walk_at "go"
          refine i_append hp4 hz ?_
          walk_at "go"
          refine ⟨_, _, _, _, _, _, _, sH4.mut hp, ?_, rfl⟩
          rw [upd_same]
          show _ = some (HO.lst ((names ns k i ++ [nmNext ns k i (names ns k i)]).map V.str))
          rw [enx, List.map_append]
          rfl
    · rintro σ H1 ⟨v5, v6, v7, v8, v9, v10, v11, s1, hp1, rfl⟩
      walk_at "go"
      exact q p H1 hp s1 (by rw [hp1]; simp)

/-! ### _law_same, of data without dicts -/
def SameOk (d : PyData) : Prop := SeqAt.shaped d = true ∧ d.showable = true ∧ d.shown.length ≤ sizeLine ∧ d.depth ≤ 40
def spSame (K : PySem.W.Frag) : Sp := fun vs H Q _ => ∃ (x y : V) (d : PyData), vs = [x, y] ∧ Dp K H x d ∧ Dp K H y d ∧ SameOk d ∧ Q (.bl true) H
theorem same_bool (b : Bool) : SameOk (.bool b) := by
  cases b <;> exact ⟨by decide, by decide, by decide, by decide⟩
theorem ty_seqL {H : Hp} {a : Addr} {xs : List V} (h : SqL K H a xs) : TyX K H (.ref a) (.type "list") := by
  rcases h with h | ⟨o, its, n, h1, h2, _⟩
  · rcases h with h | ⟨o, h⟩
    · exact .base (.lst h)
    · exact .base (.frz h)
  · exact .kList h1 h2
theorem ty_seqT {H : Hp} {a : Addr} {xs : List V} (h : SqT K H a xs) : TyX K H (.ref a) (.type "tuple") := by
  rcases h with h | ⟨o, its, n, h1, h2, _⟩
  · rcases h with h | ⟨o, h⟩
    · exact .base (.tup h)
    · exact .fTuple h
  · exact .kTuple h1 h2
theorem ty_noDict {H : Hp} {y : V} {d : PyData} (h : Dp K H y d) : ∃ n, TyX K H y (.type n) ∧ kitB n "dict" = some false := by
  cases h with
  | non => exact ⟨"NoneType", .base .non, by decide +kernel⟩
  | bl b => exact ⟨"bool", .base (.bl b), by decide +kernel⟩
  | int i => exact ⟨"int", .base (.int i), by decide +kernel⟩
  | str x => exact ⟨"str", .base (.str x), by decide +kernel⟩
  | lst h1 h2 => exact ⟨"list", ty_seqL h1, by decide +kernel⟩
  | tup h1 h2 => exact ⟨"tuple", ty_seqT h1, by decide +kernel⟩
abbrev s_law_same : Stmt := topS 6
abbrev N_law_same : List Str := ["_law_one", "_law_other"]
abbrev P_law_same : List Str := ["_law_one", "_law_other"]
theorem sc_law_same : FnScope N_law_same P_law_same (defScope s_law_same) := ⟨rfl, rfl, rfl, by decide +kernel, rfl, by decide +kernel, by decide +kernel⟩
theorem cal_law_same (F : Dfn K mg "_law_same" s_law_same P_law_same []) (B : Blt mg) : Cal P w K mg base 1 "_law_same" [] (spSame K) := by
  refine F.cal .nil sc_law_same (fun vs H Q E h => ?_) (fun f cdv A outer s H vs Q E hr hG h => ?_)
  · obtain ⟨x, y, d, rfl, _⟩ := h
    rfl
  · obtain ⟨x, y, d, rfl, hx, hy, ⟨h1, h2, h3, h4⟩, q⟩ := h
    have hu := hu_of hr
    have nd := sc_law_same.nd
    obtain ⟨n, ty, kt⟩ := ty_noDict hy
    refine ⟨_, (pss_cons (ps_if (ut_truth (K := K) (pe_callB (uc_isinstance (K := K)) (by rfl) B.b_isinstance (by decide +kernel) (pa_cons (pv 1) (pa_cons (pe_bltn (v := .ty "dict") (u := .type "dict") (by rfl) B.b_dict (by decide +kernel) rfl) pa_nil)))) pss_never pss_nil)
      (pss_one (ps_ret (pe_and (pe_cmpR (uq_eq (K := K) hr) (pv 0) (pv 1) (nomark _)) (pe_one (pe_cmpR (uq_eq (K := K) hr) (pe_callB (uc_repr (K := K) hr hG) (by rfl) B.b_repr (by decide +kernel) (pa_cons (pv 0) pa_nil)) (pe_callB (uc_repr (K := K) hr hG) (by rfl) B.b_repr (by decide +kernel) (pa_cons (pv 1) pa_nil)) (nomark _))))))), ?_⟩
    walk_at "go"
    refine ⟨y, .ty "dict", .type n, .type "dict", false, rfl, .ty _, ty, kit_ty kt, ?_⟩
    walk_at "go"
    refine i_eqD hx hy h1 h1 ?_
    rw [SeqAt.eqv_refl d (SeqAt.canLay_of_shaped h1)]
    walk_at "go"
    refine i_repr hx h2 h3 h4 ?_
    walk_at "go"
    refine i_repr hy h2 h3 h4 ?_
    walk_at "go"
    rw [decide_eq_true rfl]
    exact q

/-! ### inner -/
/-- a dict of since-days -/
abbrev Days := List (Str × Int)
def dayKV (u : Days) : List (Key × V) := u.map fun p => (Sum.inr p.1, V.int p.2)
def dayAt (u : Days) (x : Str) : Option Int := (u.find? fun p => decide (p.1 = x)).map (·.2)
def innerOf (day : Int) (giver taker : Str) (u : Days) : Bool := match dayAt u giver, dayAt u taker with
  | some a, some b => decide (a ≤ day) && decide (b ≤ day)
  | _, _ => false
theorem valV_days (u : Days) (x : Str) : valV (dayKV u) (Sum.inr x : Key) = (dayAt u x).map V.int := by
  unfold valV dayAt dayKV
  induction u with
  | nil => rfl
  | cons p r ih =>
    rw [List.map_cons, List.find?_cons, List.find?_cons]
    have e : decide ((Sum.inr p.1 : Key) = Sum.inr x) = decide (p.1 = x) := key_rr _ _
    simp only [e]
    cases decide (p.1 = x) with
    | true => rfl
    | false => exact ih
def spInner (K : PySem.W.Frag) : Sp := fun vs H Q _ => ∃ (a d : Addr) (number day price count : Int) (giver taker coin : Str) (u : Days), vs = [.ref a, .ref d] ∧
  SqT K H a [.int number, .int day, .str giver, .str taker, .str coin, .int price, .int count] ∧ H d = some (.dK (dayKV u)) ∧ Q (.bl (innerOf day giver taker u)) H
abbrev s_inner : Stmt := topS 1
abbrev N_inner : List Str := ["link", "since", "number", "day", "giver", "taker", "coin", "price", "count"]
abbrev P_inner : List Str := ["link", "since"]
theorem sc_inner : FnScope N_inner P_inner (defScope s_inner) := ⟨rfl, rfl, rfl, by decide +kernel, rfl, by decide +kernel, by decide +kernel⟩
theorem cal_inner (F : Dfn K mg "inner" s_inner P_inner []) (B : Blt mg) : Cal P w K mg base 1 "inner" [] (spInner K) := by
  refine F.cal .nil sc_inner (fun vs H Q E h => ?_) (fun f cdv A outer s H vs Q E hr hG h => ?_)
  · obtain ⟨a, d, _, _, _, _, _, _, _, _, rfl, _⟩ := h
    rfl
  · obtain ⟨a, d, number, day, price, count, giver, taker, coin, u, rfl, ha, hd, q⟩ := h
    have hu := hu_of hr
    have nd := sc_inner.nd
    have g1 : DGet H d (.str giver) ((dayAt u giver).map V.int) := by rw [← valV_days]; exact DGet.k (k := Sum.inr giver) hd
    have g2 : DGet H d (.str taker) ((dayAt u taker).map V.int) := by rw [← valV_days]; exact DGet.k (k := Sum.inr taker) hd
    refine ⟨_, (pss_cons (ps_asg (pv 0) (ug_seq (K := K) (n := 7) rfl (pgs_cons (pg_name (i := 2) nd rfl (Or.inl rfl)) (pgs_cons (pg_name (i := 3) nd rfl (Or.inl rfl)) (pgs_cons (pg_name (i := 4) nd rfl (Or.inl rfl)) (pgs_cons (pg_name (i := 5) nd rfl (Or.inl rfl)) (pgs_cons (pg_name (i := 6) nd rfl (Or.inl rfl)) (pgs_cons (pg_name (i := 7) nd rfl (Or.inl rfl)) (pgs_cons (pg_name (i := 8) nd rfl (Or.inl rfl)) pgs_nil)))))))))
      (pss_cons (ps_if (PW.pt (pw_or (pt_cmpR (uq_notin (K := K) hu) (pv 4) (pv 1) (by rfl)) (pw_or1 (pt_cmpR (uq_notin (K := K) hu) (pv 5) (pv 1) (by rfl))))) (pss_one (ps_ret pe_bl)) pss_nil)
      (pss_one (ps_ret (pe_and (pe_cmpR uq_le (pe_ix (uq_ix (K := K) hu) (pv 1) (pv 4) (fun _ _ => rfl)) (pv 3) (nomark _)) (pe_one (pe_cmpR uq_le (pe_ix (uq_ix (K := K) hu) (pv 1) (pv 5) (fun _ _ => rfl)) (pv 3) (nomark _)))))))), ?_⟩
    walk_at "go"
    refine g_gseqT ha rfl ?_
    walk_at "go"
    refine i_notinD g1 ?_
    unfold innerOf at q
    cases e1 : dayAt u giver with
    | none =>
      rw [e1] at q
      walk_at "go"
      exact q
    | some x1 =>
      rw [e1] at q g1
      walk_at "go"
      refine i_notinD g2 ?_
      cases e2 : dayAt u taker with
      | none =>
        rw [e2] at q
        walk_at "go"
        exact q
      | some x2 =>
        rw [e2] at q g2
        walk_at "go"
        refine i_ixD g1 ?_
        walk_at "go"
        refine ite2 (fun hb => ?_) (fun hb => ?_)
        · walk_at "go"
          refine i_ixD g2 ?_
          walk_at "go"
          simp only [hb, Bool.true_and] at q
          exact q
        · have hb' : decide (x1 ≤ day) = false := by simpa using hb
          simp only [hb', Bool.false_and] at q
          exact q

/-! ### the law's own promise -/
def spLaw (K : PySem.W.Frag) : Sp := fun vs H Q _ => ∃ (a : Addr) (ns : List Int), vs = [.ref a] ∧ SqL K H a (ns.map V.int) ∧ ∀ H', Q (.bl true) H'
theorem cutV_take {xs : List V} {i : Int} (h : 0 ≤ i) : cutV xs none (some i) = xs.take i.toNat := by
  unfold cutV
  have e : HT.sIx xs.length xs.length (some i) = min i.toNat xs.length := by
    show (if i < 0 then _ else min i.toNat xs.length) = _
    rw [if_neg (by omega)]
  have e0 : HT.sIx xs.length 0 none = 0 := rfl
  rw [e, e0, List.drop_zero, Nat.sub_zero, List.take_eq_take_iff]
  omega
theorem cut_ints (ns : List Int) : cutV (ns.map V.int) none (some 63) = (ns.take 63).map V.int := by
  rw [cutV_take (by decide), List.map_take]
  rfl
theorem atI_strs {xs : List Str} {i : Int} (h0 : 0 ≤ i) (h : i < (xs.length : Int)) : ∃ x, xs[i.toNat]? = some x ∧ atI (xs.map V.str) i = some (.str x) := by
  have hl : i.toNat < xs.length := by omega
  refine ⟨xs[i.toNat], List.getElem?_eq_getElem hl, atI_of h0 ?_⟩
  rw [List.getElem?_map, List.getElem?_eq_getElem hl]
  rfl
theorem mod_ok (i : Int) {n : Int} (h : 0 < n) : 0 ≤ i % n ∧ i % n < n := ⟨Int.emod_nonneg _ (by omega), Int.emod_lt_of_pos _ h⟩

theorem valV_mem {κ : Type} [DecidableEq κ] : ∀ {kvs : List (κ × V)} {p : κ × V}, (kvs.map (·.1)).Nodup → p ∈ kvs → valV kvs p.1 = some p.2
  | [], _, _, h => nomatch h
  | q :: r, p, hn, h => by
    have hn' := List.nodup_cons.mp hn
    unfold valV
    rw [List.find?_cons]
    rcases List.mem_cons.mp h with e | h
    · subst e
      simp
    · have ne : ¬ q.1 = p.1 := fun e => hn'.1 (by show q.1 ∈ _; rw [e]; exact List.mem_map_of_mem h)
      simp only [decide_eq_false ne]
      exact valV_mem hn'.2 h
theorem put_days (u : Days) (x : Str) (v : Int) (hn : (u.map (·.1)).Nodup) : ∃ u' : Days, putK (dayKV u) (Sum.inr x : Key) (.int v) = dayKV u' ∧ u'.length ≤ u.length + 1 ∧ (u'.map (·.1)).Nodup := by
  unfold putK
  split
  · refine ⟨u.map fun p => if p.1 = x then (p.1, v) else p, ?_, by simp, ?_⟩
    · unfold dayKV
      rw [List.map_map, List.map_map]
      refine List.map_congr_left fun p _ => ?_
      simp only [Function.comp]
      by_cases h : p.1 = x
      · simp [h]
      · simp [h]
    · rw [List.map_map]
      have e : ((fun x_1 : Str × Int => x_1.1) ∘ fun p : Str × Int => if p.1 = x then (p.1, v) else p) = (fun p => p.1) := by
        funext p
        simp only [Function.comp]
        split <;> rfl
      rw [e]
      exact hn
  · rename_i h
    refine ⟨u ++ [(x, v)], by simp [dayKV], by simp, ?_⟩
    rw [List.map_append]
    refine nd_snoc hn fun z => h ?_
    obtain ⟨p, hp, e⟩ := List.mem_map.mp z
    refine List.any_eq_true.mpr ⟨(Sum.inr p.1, V.int p.2), List.mem_map.mpr ⟨p, hp, rfl⟩, ?_⟩
    simp [e]
theorem days_self {u : Days} (hn : (u.map (·.1)).Nodup) : ∀ p ∈ dayKV u, valV (dayKV u) p.1 = some p.2 ∧ flatB p.2 = true := by
  intro p hp
  refine ⟨valV_mem ?_ hp, ?_⟩
  · unfold dayKV
    rw [List.map_map]
    have e : (List.map ((fun x : Key × V => x.1) ∘ fun p : Str × Int => ((Sum.inr p.1 : Key), V.int p.2)) u) = (u.map (·.1)).map Sum.inr := by
      rw [List.map_map]
      rfl
    rw [e]
    exact List.Pairwise.map _ (fun a b h z => h (Sum.inr.inj z)) hn
  · obtain ⟨q, _, rfl⟩ := List.mem_map.mp hp
    rfl
theorem digs6 (ns : List Int) (k a b c d e f : Int) (ha : 0 < a) (hb : 0 < b) (hc : 0 < c) (hd : 0 < d) (he : 0 < e) (hf : 0 < f) : ∃ x y z u v w, digs ns k [a, b, c, d, e, f] = [x, y, z, u, v, w] ∧ 0 ≤ x ∧ x < a ∧ 0 ≤ y ∧ y < b ∧ 0 ≤ z ∧ z < c ∧ 0 ≤ u ∧ u < d ∧ 0 ≤ v ∧ v < e ∧ 0 ≤ w ∧ w < f := by
  have h := digs_in ns k [a, b, c, d, e, f] (by intro s hs; simp at hs; omega)
  obtain ⟨x, r, e1, x0, x1, h⟩ := h.next
  obtain ⟨y, r2, e2, y0, y1, h⟩ := h.next
  obtain ⟨z, r3, e3, z0, z1, h⟩ := h.next
  obtain ⟨u, r4, e4, u0, u1, h⟩ := h.next
  obtain ⟨v, r5, e5, v0, v1, h⟩ := h.next
  obtain ⟨w, e6, w0, w1⟩ := h.one
  exact ⟨x, y, z, u, v, w, by rw [e1, e2, e3, e4, e5, e6], x0, x1, y0, y1, z0, z1, u0, u1, v0, v1, w0, w1⟩
theorem at5 (a b c d e : Int) {i : Int} (h0 : 0 ≤ i) (h1 : i < 5) : ∃ x, atI [V.int a, V.int b, V.int c, V.int d, V.int e] i = some (.int x) := by
  have h : i = 0 ∨ i = 1 ∨ i = 2 ∨ i = 3 ∨ i = 4 := by omega
  rcases h with rfl | rfl | rfl | rfl | rfl <;> exact ⟨_, rfl⟩
abbrev s_law : Stmt := topS 7
abbrev N_law : List Str := ["_law_script", "_law_names_here", "_law_k", "_law_one", "_law_two", "_law_day", "_law_lean", "_law_other", "_law_many", "_law_under", "_law_j", "_law_giver", "_law_taker", "_law_link", "_law_due", "_law_handed"]
abbrev P_law : List Str := ["_law_script"]
theorem sc_law : FnScope N_law P_law (defScope s_law) := ⟨rfl, rfl, rfl, by decide +kernel, rfl, by decide +kernel, by decide +kernel⟩
theorem fn_law {fa : Addr} {fd : FuncData} (F : Src K "law" "law" s_law fa fd) (B : Blt mg) (c__law_digits : Cal P w K mg base 2 "_law_digits" [] (spDigits K)) (c__law_names : Cal P w K mg base 3 "_law_names" [] (spNames K))
    (c__law_same : Cal P w K mg base 1 "_law_same" [] (spSame K)) (c_inner : Cal P w K mg base 1 "inner" [] (spInner K)) : Fn P w K mg base 4 fa fd P_law (spLaw K) := by
  refine F.fn sc_law (fun vs H Q E h => ?_) (fun cdv A outer s H vs Q E hr hG h => ?_)
  · obtain ⟨a, ns, rfl, _⟩ := h
    rfl
  · obtain ⟨a, ns0, rfl, ha, q⟩ := h
    have hu := hu_of hr
    have nd := sc_law.nd
    refine ⟨_, (pss_cons (ps_set (i := 0) nd rfl (Or.inl rfl) (pe_slice (uq_sl (K := K)) (pv 0) po_none (po_some pe_int)))
      (pss_cons (ps_set (i := 1) nd rfl (Or.inl rfl) (ue_call c__law_names hr (by decide) hG (by rfl) PB (pa_cons (pv 0) (pa_cons pe_int (pa_cons pe_int pa_nil)))))
      (pss_cons (ps_for PW rfl (pi_range1 (by rfl) B.b_range (pa_cons pe_int pa_nil)) (pg_name (i := 2) nd rfl (Or.inl rfl)) (pss_cons (ps_asg (ue_call c__law_digits hr (by decide) hG (by rfl) PB (pa_cons (pv 0) (pa_cons (pe_op uq_add pe_int (pv 2)) (pa_cons (pe_lst (pa_cons pe_int (pa_cons pe_int (pa_cons pe_int (pa_cons pe_int (pa_cons pe_int (pa_cons pe_int pa_nil))))))) pa_nil)))) (ug_seq (K := K) (n := 6) rfl (pgs_cons (pg_name (i := 3) nd rfl (Or.inl rfl)) (pgs_cons (pg_name (i := 4) nd rfl (Or.inl rfl)) (pgs_cons (pg_name (i := 5) nd rfl (Or.inl rfl)) (pgs_cons (pg_name (i := 6) nd rfl (Or.inl rfl)) (pgs_cons (pg_name (i := 7) nd rfl (Or.inl rfl)) (pgs_cons (pg_name (i := 8) nd rfl (Or.inl rfl)) pgs_nil))))))))
      (pss_cons (ps_set (i := 9) nd rfl (Or.inl rfl) pe_dnewK)
      (pss_cons (ps_for PW rfl (pi_range1 (by rfl) B.b_range (pa_cons (pv 8) pa_nil)) (pg_name (i := 10) nd rfl (Or.inl rfl)) (pss_one (ps_asg (pe_ix (uq_ix (K := K) hu) (pe_lst (pa_cons (pv 5) (pa_cons (pe_callB uc_max2 (by rfl) B.b_max (by decide +kernel) (pa_cons pe_int (pa_cons (pe_op uq_sub (pv 5) pe_int) pa_nil))) (pa_cons (pe_callB uc_min2 (by rfl) B.b_min (by decide +kernel) (pa_cons pe_int (pa_cons (pe_op uq_add (pv 5) pe_int) pa_nil))) (pa_cons pe_int (pa_cons pe_int pa_nil)))))) (pe_op uq_mod (pe_op uq_add (pv 6) (pe_op uq_mul (pv 10) (pv 7))) pe_int) (fun _ _ => rfl)) (pg_sub (pv 9) (pe_ix (uq_ix (K := K) hu) (pv 1) (pe_op uq_mod (pe_op uq_add (pv 10) (pv 4)) pe_int) (fun _ _ => rfl)) (uq_set hu)))))
      (Evl.pss_cut (ps_set (i := 11) nd rfl (Or.inl rfl) (pe_ifExp (pt_cmpR (uq_eq (K := K) hr) (pv 3) pe_int (nomark _)) pe_str (pe_ix (uq_ix (K := K) hu) (pv 1) (pv 3) (fun _ _ => rfl))))
      (Evl.pss_cut (ps_set (i := 12) nd rfl (Or.inl rfl) (pe_ifExp (pt_cmpR (uq_eq (K := K) hr) (pv 3) pe_int (nomark _)) (pe_ix (uq_ix (K := K) hu) (pv 1) (pv 4) (fun _ _ => rfl)) (pe_ix (uq_ix (K := K) hu) (pv 1) (pe_op uq_mod (pe_op uq_add (pe_op uq_add (pv 3) pe_int) (pe_op uq_mod (pv 4) pe_int)) pe_int) (fun _ _ => rfl))))
      (pss_cons (ps_set (i := 13) nd rfl (Or.inl rfl) (pe_tup (pa_cons (pe_op uq_add pe_int (pv 2)) (pa_cons (pv 5) (pa_cons (pv 11) (pa_cons (pv 12) (pa_cons pe_str (pa_cons pe_int (pa_cons pe_int pa_nil)))))))))
      (Evl.pss_cut (ps_set (i := 14) nd rfl (Or.inl rfl) (pe_and (pe_cmpR (uq_in (K := K) hu) (pv 11) (pv 9) (by rfl)) (pe_and (pe_cmpR (uq_in (K := K) hu) (pv 12) (pv 9) (by rfl)) (pe_one (pe_cmpR uq_le (pe_callB uc_max2 (by rfl) B.b_max (by decide +kernel) (pa_cons (pe_ix (uq_ix (K := K) hu) (pv 9) (pv 11) (fun _ _ => rfl)) (pa_cons (pe_ix (uq_ix (K := K) hu) (pv 9) (pv 12) (fun _ _ => rfl)) pa_nil))) (pv 5) (nomark _))))))
      (pss_cons (ps_set (i := 15) nd rfl (Or.inl rfl) (pe_callTy uc_dict (by rfl) B.b_dict (by decide +kernel) (pa_cons (pv 9) pa_nil)))
      (pss_one (ps_if (PW.pt (pw_or (pt_not (ut_truth (K := K) (ue_call c__law_same hr (by decide) hG (by rfl) PB (pa_cons (ue_call c_inner hr (by decide) hG (by rfl) PB (pa_cons (pv 13) (pa_cons (pv 15) pa_nil))) (pa_cons (pv 14) pa_nil))))) (pw_or1 (pt_cmpR (uq_ne (K := K) hr) (pv 15) (pv 9) (nomark _))))) (pss_one (ps_ret pe_bl)) pss_nil)))))))))))
      (pss_one (ps_ret pe_bl))))), ?_⟩
    walk_at "go"
    refine i_slL ha fun l hl => ?_
    rw [cut_ints]
    generalize ns0.take 63 = ns
    generalize e1 : upd H l (.lst (ns.map V.int)) = H1
    obtain ⟨s1, hl1⟩ := newH hl e1
    walk_at "go"
    refine ⟨l, ns, 0, 5, rfl, SqL.of hl1, by decide, by decide, by decide, fun p H2 hp s2 hp2 => ?_⟩
    have hlen := names_len ns 0 5
    generalize names ns 0 5 = nm at hp2 hlen
    walk_at "go"
    refine ⟨8, rfl, by decide, by decide, ?_⟩
    refine for_range (lo := 0) (n := (8 : Int).toNat) (fun i σ H' => ∃ (v2 v3 v4 v5 v6 v7 v8 v9 v10 v11 v12 v13 v14 v15 : Option V), Same H2 H' ∧
        σ = [some (.ref l), some (.ref p), v2, v3, v4, v5, v6, v7, v8, v9, v10, v11, v12, v13, v14, v15]) ⟨none, none, none, none, none, none, none, none, none, none, none, none, none, none, Same.refl _, rfl⟩ ?_ ?_
    · rintro i σ H3 hi ⟨v2, v3, v4, v5, v6, v7, v8, v9, v10, v11, v12, v13, v14, v15, s3, rfl⟩
      have hi' : i < 8 := hi
      walk_at "go"
      refine ⟨sz_small (by simp), fun z hz => ?_⟩
      generalize e4 : upd H3 z (.lst [.int 6, .int 5, .int 30, .int 5, .int 5, .int 6]) = H4
      obtain ⟨s4, hz4⟩ := newH hz e4
      walk_at "go"
      obtain ⟨one, two, day, lean, other, many, ed, b1, b2, b3, b4, b5, b6, b7, b8, b9, b10, b11, b12⟩ := digs6 ns (2 + (0 + (i : Int))) 6 5 30 5 5 6 (by decide) (by decide) (by decide) (by decide) (by decide) (by decide)
      refine ⟨l, z, ns, 2 + (0 + (i : Int)), [6, 5, 30, 5, 5, 6], rfl, SqL.of (s4 _ _ (s3 _ _ (s2 _ _ hl1))), SqL.of hz4, by omega, by omega, by decide, by decide, fun y H5 hy s5 hy5 => ?_⟩
      rw [ed] at hy5
      refine g_gseqL (xs := [.int one, .int two, .int day, .int lean, .int other, .int many]) (SqL.of hy5) rfl ?_
      walk_at "go"
      intro d hd
      generalize e6 : upd H5 d (.dK []) = H6
      obtain ⟨s6, hd6⟩ := newH hd e6
      have sD : Same H2 H5 := s3.trans (s4.trans s5)
      have hpD : H5 p = some (.lst (nm.map V.str)) := sD _ _ hp2
      walk_at "go"
      refine ⟨many, rfl, by omega, by omega, ?_⟩
      refine for_range (lo := 0) (n := many.toNat) (fun j σ H' => ∃ (u : Days) (w10 : Option V), Same H5 H' ∧ H' d = some (.dK (dayKV u)) ∧ u.length ≤ j ∧ (u.map (·.1)).Nodup ∧
        σ = [some (.ref l), some (.ref p), some (.int (0 + (i : Int))), some (.int one), some (.int two), some (.int day), some (.int lean), some (.int other), some (.int many), some (.ref d), w10, v11, v12, v13, v14, v15])
        ⟨[], v10, s6, hd6, Nat.le_refl _, List.nodup_nil, rfl⟩ ?_ ?_
      · rintro j σ H7 hj ⟨u, w10, s7, hd7, hul, hnd, rfl⟩
        walk_at "go"
        refine ⟨sz_small (by simp), fun t ht => ?_⟩
        generalize e8 : upd H7 t (.lst [.int day, .int (max 0 (day - 1)), .int (min 29 (day + 1)), .int 0, .int 29]) = H8
        obtain ⟨s8, ht8⟩ := newH ht e8
        have m1 := mod_ok (lean + (0 + (j : Int)) * other) (n := 5) (by decide)
        have m2 := mod_ok (0 + (j : Int) + two) (n := 5) (by decide)
        obtain ⟨x, hx⟩ := at5 day (max 0 (day - 1)) (min 29 (day + 1)) 0 29 m1.1 m1.2
        obtain ⟨g, _, hg⟩ := atI_strs (xs := nm) m2.1 (by omega)
        walk_at "go"
        refine i_ixL (SqL.of ht8) hx ?_
        walk_at "go"
        refine i_ixL (SqL.of (s8 _ _ (s7 _ _ hpD))) hg ?_
        obtain ⟨u', eu, hul', hnd'⟩ := put_days u g x hnd
        have hd8 := s8 _ _ hd7
        refine i_setD (DPut.k (k := Sum.inr g) hd8 (by unfold dayKV; rw [List.length_map]; exact sz_small' (by omega))) ?_
        walk_at "go"
        refine ⟨u', _, (s7.trans s8).mut hd, by rw [upd_same, eu], by omega, hnd', rfl⟩
      · rintro σ H7 ⟨u, w10, s7, hd7, hul, hnd, rfl⟩
        walk_at "go"
        have hp7 : SqL K H7 p (nm.map V.str) := SqL.of (s7 _ _ hpD)
        have mt := mod_ok (one + 1 + two % 4) (n := 5) (by decide)
        -- the giver
        refine ⟨fun σ' H' => ∃ giver : Str, H7 = H' ∧ σ' = [some (.ref l), some (.ref p), some (.int (0 + (i : Int))), some (.int one), some (.int two), some (.int day), some (.int lean), some (.int other), some (.int many), some (.ref d), w10, some (.str giver), v12, v13, v14, v15], ?_, ?_⟩
        · walk_at "go"
          refine ite2 (fun h5 => ?_) (fun h5 => ?_)
          · walk_at "go"
            exact ⟨_, rfl, rfl⟩
          · have h5' : ¬ one = 5 := fun z => h5 (decide_eq_true z)
            obtain ⟨g, _, hg⟩ := atI_strs (xs := nm) (i := one) b1 (by omega)
            walk_at "go"
            refine i_ixL hp7 hg ?_
            walk_at "go"
            exact ⟨_, rfl, rfl⟩
        rintro σ' H' ⟨giver, rfl, rfl⟩
        -- the taker
        refine ⟨fun σ' H' => ∃ taker : Str, H7 = H' ∧ σ' = [some (.ref l), some (.ref p), some (.int (0 + (i : Int))), some (.int one), some (.int two), some (.int day), some (.int lean), some (.int other), some (.int many), some (.ref d), w10, some (.str giver), some (.str taker), v13, v14, v15], ?_, ?_⟩
        · walk_at "go"
          refine ite2 (fun h5 => ?_) (fun h5 => ?_)
          · obtain ⟨g, _, hg⟩ := atI_strs (xs := nm) (i := two) b3 (by omega)
            walk_at "go"
            refine i_ixL hp7 hg ?_
            walk_at "go"
            exact ⟨_, rfl, rfl⟩
          · obtain ⟨g, _, hg⟩ := atI_strs (xs := nm) (i := (one + 1 + two % 4) % 5) mt.1 (by omega)
            walk_at "go"
            refine i_ixL hp7 hg ?_
            walk_at "go"
            exact ⟨_, rfl, rfl⟩
        rintro σ' H' ⟨taker, rfl, rfl⟩
        walk_at "go"
        refine ⟨sz_small (by simp), fun t ht => ?_⟩
        generalize e8 : upd H7 t (.tup [.int (1 + (0 + (i : Int))), .int day, .str giver, .str taker, .str (Str.ofString "x"), .int 5, .int 3]) = H8
        obtain ⟨s8, ht8⟩ := newH ht e8
        have hd8 := s8 _ _ hd7
        have g1 : DGet H8 d (.str giver) ((dayAt u giver).map V.int) := by rw [← valV_days]; exact DGet.k (k := Sum.inr giver) hd8
        have g2 : DGet H8 d (.str taker) ((dayAt u taker).map V.int) := by rw [← valV_days]; exact DGet.k (k := Sum.inr taker) hd8
        walk_at "go"
        -- what is due
        refine ⟨fun σ' H' => H8 = H' ∧ σ' = [some (.ref l), some (.ref p), some (.int (0 + (i : Int))), some (.int one), some (.int two), some (.int day), some (.int lean), some (.int other), some (.int many), some (.ref d), w10, some (.str giver), some (.str taker), some (.ref t), some (.bl (innerOf day giver taker u)), v15], ?_, ?_⟩
        · walk_at "go"
          refine i_inD g1 ?_
          unfold innerOf
          cases e1 : dayAt u giver with
          | none =>
            walk_at "go"
            exact ⟨rfl, rfl⟩
          | some x1 =>
            rw [e1] at g1
            walk_at "go"
            refine i_inD g2 ?_
            cases e2 : dayAt u taker with
            | none =>
              walk_at "go"
              exact ⟨rfl, rfl⟩
            | some x2 =>
              rw [e2] at g2
              walk_at "go"
              refine i_ixD g1 ?_
              walk_at "go"
              refine i_ixD g2 ?_
              walk_at "go"
              have em : decide (max x1 x2 ≤ day) = (decide (x1 ≤ day) && decide (x2 ≤ day)) := by
                rw [Bool.eq_iff_iff]
                simp
                omega
              rw [em]
              exact ⟨rfl, rfl⟩
        rintro σ' H' ⟨rfl, rfl⟩
        walk_at "go"
        refine i_dictD (Rd.of hd8) fun c hc => ?_
        generalize e9 : upd H8 c (.dK (dayKV u)) = H9
        obtain ⟨s9, hc9⟩ := newH hc e9
        walk_at "go"
        refine ⟨t, c, 1 + (0 + (i : Int)), day, 5, 3, giver, taker, _, u, rfl, SqT.of (s9 _ _ ht8), hc9, ?_⟩
        walk_at "go"
        refine ⟨_, _, .bool (innerOf day giver taker u), rfl, .bl _, .bl _, same_bool _, ?_⟩
        walk_at "go"
        refine Or.inr (Or.inr ⟨c, d, _, _, rfl, rfl, hc9, s9 _ _ hd8, rfl, days_self hnd, ?_⟩)
        walk_at "go"
        exact ⟨_, _, _, _, _, _, _, _, _, _, _, _, _, _, sD.trans (s7.trans (s8.trans s9)), rfl⟩
    · rintro σ H3 ⟨v2, v3, v4, v5, v6, v7, v8, v9, v10, v11, v12, v13, v14, v15, s3, rfl⟩
      walk_at "go"
      exact q H3

end
theorem all_mk {P : Program} {w : World} {K : PySem.W.Frag} {h : Heap} {mg : Str → Option Value} {fa : Addr} (X : K.In h) (G : h.Ns mainGlobals mg) (hfa : mg "law" = some (.ref fa))
    {od1 an1 : Option Addr} {sl1 : Array (Option Value)} {oc1 kV1 dc1 pm1 cd1 ct1 : Value} {f1 : Addr}
    {od2 an2 : Option Addr} {sl2 : Array (Option Value)} {oc2 kV2 dc2 pm2 cd2 ct2 : Value} {f2 : Addr}
    {od3 an3 : Option Addr} {sl3 : Array (Option Value)} {oc3 kV3 dc3 pm3 cd3 ct3 : Value} {f3 : Addr}
    {od4 an4 : Option Addr} {sl4 : Array (Option Value)} {oc4 kV4 dc4 pm4 cd4 ct4 : Value} {f4 : Addr}
    {od5 an5 : Option Addr} {sl5 : Array (Option Value)} {oc5 kV5 dc5 pm5 cd5 ct5 : Value} {f5 : Addr}
    {od6 an6 : Option Addr} {sl6 : Array (Option Value)} {oc6 kV6 dc6 pm6 cd6 ct6 : Value} {f6 : Addr}
    (a1 : PySem.W.nsIn K mainGlobals "_law_cell" = some (some (.ref f1))) (l1 : K.lookup f1 = some ⟨oc1, od1, .func (PySem.W.fnOf "_law_cell" "_law_cell" (defArgs s_law_cell) (defBody s_law_cell) (defScope s_law_cell) .none kV1 dc1 pm1 an1 cd1 ct1), sl1⟩) (c1 : PySem.W.codeIn K cd1 "_law_cell" = true) (k1 : PySem.W.keepIn K (.ref f1) = true)
    (a2 : PySem.W.nsIn K mainGlobals "_law_digits" = some (some (.ref f2))) (l2 : K.lookup f2 = some ⟨oc2, od2, .func (PySem.W.fnOf "_law_digits" "_law_digits" (defArgs s_law_digits) (defBody s_law_digits) (defScope s_law_digits) .none kV2 dc2 pm2 an2 cd2 ct2), sl2⟩) (c2 : PySem.W.codeIn K cd2 "_law_digits" = true) (k2 : PySem.W.keepIn K (.ref f2) = true)
    (a3 : PySem.W.nsIn K mainGlobals "_law_names" = some (some (.ref f3))) (l3 : K.lookup f3 = some ⟨oc3, od3, .func (PySem.W.fnOf "_law_names" "_law_names" (defArgs s_law_names) (defBody s_law_names) (defScope s_law_names) .none kV3 dc3 pm3 an3 cd3 ct3), sl3⟩) (c3 : PySem.W.codeIn K cd3 "_law_names" = true) (k3 : PySem.W.keepIn K (.ref f3) = true)
    (a4 : PySem.W.nsIn K mainGlobals "_law_same" = some (some (.ref f4))) (l4 : K.lookup f4 = some ⟨oc4, od4, .func (PySem.W.fnOf "_law_same" "_law_same" (defArgs s_law_same) (defBody s_law_same) (defScope s_law_same) .none kV4 dc4 pm4 an4 cd4 ct4), sl4⟩) (c4 : PySem.W.codeIn K cd4 "_law_same" = true) (k4 : PySem.W.keepIn K (.ref f4) = true)
    (a5 : PySem.W.nsIn K mainGlobals "inner" = some (some (.ref f5))) (l5 : K.lookup f5 = some ⟨oc5, od5, .func (PySem.W.fnOf "inner" "inner" (defArgs s_inner) (defBody s_inner) (defScope s_inner) .none kV5 dc5 pm5 an5 cd5 ct5), sl5⟩) (c5 : PySem.W.codeIn K cd5 "inner" = true) (k5 : PySem.W.keepIn K (.ref f5) = true)
    (a6 : PySem.W.nsIn K mainGlobals "law" = some (some (.ref f6))) (l6 : K.lookup f6 = some ⟨oc6, od6, .func (PySem.W.fnOf "law" "law" (defArgs s_law) (defBody s_law) (defScope s_law) .none kV6 dc6 pm6 an6 cd6 ct6), sl6⟩) (c6 : PySem.W.codeIn K cd6 "law" = true) (k6 : PySem.W.keepIn K (.ref f6) = true)
    (z_len : PySem.W.nsIn K mainGlobals "len" = some none)
    (z_range : PySem.W.nsIn K mainGlobals "range" = some none)
    (z_abs : PySem.W.nsIn K mainGlobals "abs" = some none)
    (z_max : PySem.W.nsIn K mainGlobals "max" = some none)
    (z_min : PySem.W.nsIn K mainGlobals "min" = some none)
    (z_sorted : PySem.W.nsIn K mainGlobals "sorted" = some none)
    (z_isinstance : PySem.W.nsIn K mainGlobals "isinstance" = some none)
    (z_repr : PySem.W.nsIn K mainGlobals "repr" = some none)
    (z_list : PySem.W.nsIn K mainGlobals "list" = some none)
    (z_dict : PySem.W.nsIn K mainGlobals "dict" = some none)
    (z_str : PySem.W.nsIn K mainGlobals "str" = some none)
    (z_int : PySem.W.nsIn K mainGlobals "int" = some none)
    (z_bool : PySem.W.nsIn K mainGlobals "bool" = some none)
    (z_tuple : PySem.W.nsIn K mainGlobals "tuple" = some none)
    (z_all : PySem.W.nsIn K mainGlobals "all" = some none)
    (z_any : PySem.W.nsIn K mainGlobals "any" = some none)
    (z_sum : PySem.W.nsIn K mainGlobals "sum" = some none)
    (z_enumerate : PySem.W.nsIn K mainGlobals "enumerate" = some none)
    (z_zip : PySem.W.nsIn K mainGlobals "zip" = some none) :
    ∃ fd : FuncData, (∀ (s : Shared) (v : Value), BindsTo s fd ⟨[v], []⟩ [("_law_script", v)]) ∧ ∀ base : Heap, K.In base → base.Ns mainGlobals mg → Fn P w K mg base 4 fa fd P_law (spLaw K) := by
  cases hfa.symm.trans (PySem.W.mg_of X G a6)
  have B : Blt mg := ⟨PySem.W.mg_none_of X G z_len, PySem.W.mg_none_of X G z_range, PySem.W.mg_none_of X G z_abs, PySem.W.mg_none_of X G z_max, PySem.W.mg_none_of X G z_min, PySem.W.mg_none_of X G z_sorted, PySem.W.mg_none_of X G z_isinstance, PySem.W.mg_none_of X G z_repr, PySem.W.mg_none_of X G z_list, PySem.W.mg_none_of X G z_dict, PySem.W.mg_none_of X G z_str, PySem.W.mg_none_of X G z_int, PySem.W.mg_none_of X G z_bool, PySem.W.mg_none_of X G z_tuple, PySem.W.mg_none_of X G z_all, PySem.W.mg_none_of X G z_any, PySem.W.mg_none_of X G z_sum, PySem.W.mg_none_of X G z_enumerate, PySem.W.mg_none_of X G z_zip⟩
  have D_law_cell : Dfn K mg "_law_cell" s_law_cell P_law_cell [] := dfn_mk X G (fun us hl => match us, hl with | [_, _], _ => rfl) a1 l1 c1 k1
  have D_law_digits : Dfn K mg "_law_digits" s_law_digits P_law_digits [] := dfn_mk X G (fun us hl => match us, hl with | [_, _, _], _ => rfl) a2 l2 c2 k2
  have D_law_names : Dfn K mg "_law_names" s_law_names P_law_names [] := dfn_mk X G (fun us hl => match us, hl with | [_, _, _], _ => rfl) a3 l3 c3 k3
  have D_law_same : Dfn K mg "_law_same" s_law_same P_law_same [] := dfn_mk X G (fun us hl => match us, hl with | [_, _], _ => rfl) a4 l4 c4 k4
  have D_inner : Dfn K mg "inner" s_inner P_inner [] := dfn_mk X G (fun us hl => match us, hl with | [_, _], _ => rfl) a5 l5 c5 k5
  refine ⟨PySem.W.fnOf "law" "law" (defArgs s_law) (defBody s_law) (defScope s_law) .none kV6 dc6 pm6 an6 cd6 ct6, fun s v => .of_eq rfl, fun base _ _ => ?_⟩
  have C_law_cell := cal_law_cell (P := P) (w := w) (base := base) D_law_cell B
  have C_law_digits := cal_law_digits D_law_digits B C_law_cell
  have C_law_names := cal_law_names D_law_names B C_law_digits
  have C_law_same := cal_law_same (P := P) (w := w) (base := base) D_law_same B
  have C_inner := cal_inner (P := P) (w := w) (base := base) D_inner B
  exact fn_law (src_mk (st := s_law) l6 c6) B C_law_digits C_law_names C_law_same C_inner
end Rf
open PySem PySem.W PyProof.Rows
set_option maxRecDepth 100000 in
set_option maxHeartbeats 0 in
theorem PySem.Challenge.cw_oneroof_k13_inner_links_holds : PySem.Challenge.rw_oneroof_k13_inner_links.Holds := by
  w_on; o_law; k_head; (case hw => w_witness2)
  k_fill
  refine Rf.walk_fn (l := PySem.Challenge.rw_oneroof_k13_inner_links) (n := 63) (k := 4) (x := "_law_script") (sp := Rf.spLaw) rfl (by decide) rfl ⟨rfl, by decide, by decide⟩ (fun w h Y => PySem.W.kIn_of Y) ?F (fun K H a ns _ _ hS => ⟨a, ns, rfl, hS, fun _ => rfl⟩)
  case F =>
    intro w mg fa h KX G hmg
    refine' Rf.all_mk KX G hmg ?a1 ?l1 ?c1 ?k1 ?a2 ?l2 ?c2 ?k2 ?a3 ?l3 ?c3 ?k3 ?a4 ?l4 ?c4 ?k4 ?a5 ?l5 ?c5 ?k5 ?a6 ?l6 ?c6 ?k6 ?z_len ?z_range ?z_abs ?z_max ?z_min ?z_sorted ?z_isinstance ?z_repr ?z_list ?z_dict ?z_str ?z_int ?z_bool ?z_tuple ?z_all ?z_any ?z_sum ?z_enumerate ?z_zip
    (case a1 => k_is)
    (case l1 => k_is)
    (case c1 => k_is)
    (case k1 => k_is)
    (case a2 => k_is)
    (case l2 => k_is)
    (case c2 => k_is)
    (case k2 => k_is)
    (case a3 => k_is)
    (case l3 => k_is)
    (case c3 => k_is)
    (case k3 => k_is)
    (case a4 => k_is)
    (case l4 => k_is)
    (case c4 => k_is)
    (case k4 => k_is)
    (case a5 => k_is)
    (case l5 => k_is)
    (case c5 => k_is)
    (case k5 => k_is)
    (case a6 => k_is)
    (case l6 => k_is)
    (case c6 => k_is)
    (case k6 => k_is)
    (case z_len => k_is)
    (case z_range => k_is)
    (case z_abs => k_is)
    (case z_max => k_is)
    (case z_min => k_is)
    (case z_sorted => k_is)
    (case z_isinstance => k_is)
    (case z_repr => k_is)
    (case z_list => k_is)
    (case z_dict => k_is)
    (case z_str => k_is)
    (case z_int => k_is)
    (case z_bool => k_is)
    (case z_tuple => k_is)
    (case z_all => k_is)
    (case z_any => k_is)
    (case z_sum => k_is)
    (case z_enumerate => k_is)
    (case z_zip => k_is)
