import PyProof.Rows.All
import Wide.All
import OpenK.AllK
import Wide.FinOn
import HandS.ForMost
import HandS.IsInst
import HandS.Property
import HandS.ClsMeth
import HandS.FStr
import HandS.DictComp
import HandS.Conv
import HandS.Deep
import HandS.TupAny
import HandS.Flow
import HandS.Style
import HandS.Wide
import HandS.ListItems
import HandS.EndBits
import PySem.Challenge.RW_hearpurse_k21_conflicts_of_facts
set_option Elab.async false
set_option linter.all false
set_option maxRecDepth 100000
set_option maxHeartbeats 4000000
/-! G0: one generic rule a construct, over the hand layer; readings hold no position. -/
namespace GP
open PySem PySem.Spec PyProof.Rows L2
section
variable {X : Cx}
theorem pe_or {e : Expr} {t u : TE} (a : PE X e t) (b : PE X e u) : PE X e (fun σ H Q => t σ H Q ∨ u σ H Q) :=
  ⟨fun pins s σ H Q I h => h.elim (a.run pins s σ H Q I) (b.run pins s σ H Q I)⟩
theorem pi_or {tg e : Expr} {t u : TI} (a : PI X tg e t) (b : PI X tg e u) : PI X tg e (fun σ H R => t σ H R ∨ u σ H R) :=
  ⟨fun pins s σ H Q I h => h.elim (a.run pins s σ H Q I) (b.run pins s σ H Q I)⟩
theorem ps_or {e : Stmt} {t u : TS} (a : PS X e t) (b : PS X e u) : PS X e (fun D σ H => t D σ H ∨ u D σ H) :=
  ⟨fun pins s σ H D I h => h.elim (a.run pins s σ H D I) (b.run pins s σ H D I)⟩
end
/-! ### operators -/
abbrev FK := PySem.W.Frag
def gAdd (K : FK) : R2 := fun x y H Q => rI0 (fun i j => .int (i + j)) x y H Q ∨ (∃ i j, x = .str i ∧ y = .str j ∧ i.length + j.length ≤ sizeLine ∧ Q (.str (i ++ j)) H) ∨ rCat x y H Q ∨ rCatA K x y H Q
def gDif : R2 := rI0 fun i j => .int (i - j)
def gMul : R2 := fun x y H Q => rI CMul (fun i j => .int (i * j)) x y H Q ∨ rI CMulW (fun i j => .int (i * j)) x y H Q ∨ rRep x y H Q
def gFdiv : R2 := rI CDivW fun i j => .int (i / j)
def gMod : R2 := rI (fun _ j => 0 < j) fun i j => .int (i % j)
def gPow : R2 := rI CPow fun i j => .int (i ^ j.toNat)
def gNeg : V → Hp → VK → Prop := rU fun i => .int (-i)
def gEq (K : FK) : R2 := fun x y H Q => rEq x y H Q ∨ rEqD K x y H Q
def gNe (K : FK) : R2 := fun x y H Q => rNe x y H Q ∨ rNeD K x y H Q
def gLt : R2 := rI0 fun i j => .bl (decide (i < j))
def gLe : R2 := rI0 fun i j => .bl (decide (i ≤ j))
def gGt : R2 := rI0 fun i j => .bl (decide (j < i))
def gGe : R2 := rI0 fun i j => .bl (decide (j ≤ i))
def gIs : R2 := fun x y H Q => y = .non ∧ Q (.bl (decide (x = .non))) H
def gIsNot : R2 := fun x y H Q => y = .non ∧ Q (.bl (!decide (x = .non))) H
def gIn (K : FK) : R2 := fun x y H Q => rIn K false x y H Q ∨ (∃ (c : Nat) (z : Str), x = .str ⟨#[c]⟩ ∧ y = .str z ∧ Q (.bl (decide (c ∈ z.cps.toList))) H) ∨ (∃ a o, y = .ref a ∧ DGet H a x o ∧ Q (.bl o.isSome) H) ∨ rInD K x y H Q
def gNotIn (K : FK) : R2 := fun x y H Q => rIn K true x y H Q ∨ (∃ (c : Nat) (z : Str), x = .str ⟨#[c]⟩ ∧ y = .str z ∧ Q (.bl (!decide (c ∈ z.cps.toList))) H) ∨ (∃ a o, y = .ref a ∧ DGet H a x o ∧ Q (.bl (!o.isSome)) H) ∨ rNotInD K x y H Q
def rIxD : R2 := fun x y H Q => ∃ a v, x = .ref a ∧ DGet H a y (some v) ∧ Q v H
def gIx (K : FK) : R2 := fun x y H Q => rIx K x y H Q ∨ rIxD x y H Q
def gSl (K : FK) : V → Option Int → Option Int → Hp → VK → Prop := fun x lo hi H Q => rSlL K x lo hi H Q ∨ rSlA K x lo hi H Q ∨ rSlS x lo hi H Q
section
variable {X : Cx}
theorem op_dIn (hu : X.A.units + 1 < cLine) : OpR X (compareOp .In) (fun x y H Q => ∃ a o, y = .ref a ∧ DGet H a x o ∧ Q (.bl o.isSome) H) := by
  intro pins s σ H x y v u Q I rx ry h
  obtain ⟨a, o, ey, g, q⟩ := h
  subst ey
  obtain rfl : u = Value.ref a := ry
  exact d_in hu I g rx fun s3 I3 => ⟨.bl o.isSome, H, I3, rfl, q⟩
theorem op_dNotIn (hu : X.A.units + 1 < cLine) : OpR X (compareOp .NotIn) (fun x y H Q => ∃ a o, y = .ref a ∧ DGet H a x o ∧ Q (.bl (!o.isSome)) H) := by
  intro pins s σ H x y v u Q I rx ry h
  obtain ⟨a, o, ey, g, q⟩ := h
  subst ey
  obtain rfl : u = Value.ref a := ry
  exact d_notIn hu I g rx fun s3 I3 => ⟨.bl (!o.isSome), H, I3, rfl, q⟩
theorem g_add : OpR X (binaryOp .Add) (gAdd X.K) := op_add.or (op_add_str.or (op_cat.or op_catA))
theorem g_sub : OpR X (binaryOp .Sub) gDif := op_sub
theorem g_mul : OpR X (binaryOp .Mult) gMul := op_mul.or (op_mulW.or op_rep)
theorem g_fdiv : OpR X (binaryOp .FloorDiv) gFdiv := op_fdivW
theorem g_mod : OpR X (binaryOp .Mod) gMod := op_mod
theorem g_pow : OpR X (binaryOp .Pow) gPow := op_pow
theorem g_neg : UnR X (unaryOp .USub) gNeg := un_neg
theorem g_eq {k : Nat} (hr : Room k X.A) : OpR X (compareOp .Eq) (gEq X.K) := op_eq.or (op_eqD hr.units)
theorem g_ne {k : Nat} (hr : Room k X.A) : OpR X (compareOp .NotEq) (gNe X.K) := op_ne.or (op_neD hr.units)
theorem g_lt : OpR X (compareOp .Lt) gLt := op_lt
theorem g_le : OpR X (compareOp .LtE) gLe := op_le
theorem g_gt : OpR X (compareOp .Gt) gGt := op_gt
theorem g_ge : OpR X (compareOp .GtE) gGe := op_ge
theorem g_is : OpR X (compareOp .Is) gIs := op_isN
theorem g_isNot : OpR X (compareOp .IsNot) gIsNot := op_notN
theorem g_in {k : Nat} (hr : Room k X.A) : OpR X (compareOp .In) (gIn X.K) := op_in_seq.or (op_in_sign.or ((op_dIn (hu_of hr)).or (op_inD (by have := hr.un; omega))))
theorem g_notIn {k : Nat} (hr : Room k X.A) : OpR X (compareOp .NotIn) (gNotIn X.K) := op_notIn_seq.or (op_notIn_sign.or ((op_dNotIn (hu_of hr)).or (op_notInD (by have := hr.un; omega))))
theorem ix_dict (hu : X.A.units + 1 < cLine) : IxR X rIxD := by
  intro value slice pins s σ H x y v u Q I rx ry h hs
  obtain ⟨a, z, ex, g, q⟩ := h
  subst ex
  obtain rfl : v = Value.ref a := rx
  have hT := dict_typeIs I g
  unfold subscriptTail
  refine wpAny_bind ?_
  rw [getitemInPython_of_ne hT.not_modules]
  refine wpAny_bind (wpAny_specialOf hT PySem.F.slot_dict_getitem.lookup ?_)
  have fin : wpAny (model X.prog X.w) X.A (subscripted slice false (.ref a) u) (fun r s3 => wpAny (model X.prog X.w) X.A (letTemporaryGo value (.ref a) r >>= fun _ => pure r) (EP X pins σ Q) X.xe s3) X.xe s := by
    rw [hs]
    exact wpAny_operating (d_getItem hu I g ry fun w2 s3 I3 r3 => wpAny_bind (wpAny_letTemporaryGo (wpAny_pure ⟨z, H, I3, r3, q⟩)))
  exact wpAny_pure (wpAny_bind fin)
theorem g_ix {k : Nat} (hr : Room k X.A) : IxR X (gIx X.K) := ix_seq.or (ix_dict (hu_of hr))
theorem g_sl : SlR X (gSl X.K) := sl_list.or (sl_tupA.or sl_str)
end
end GP

set_option Elab.async false
set_option linter.all false
set_option maxRecDepth 100000
set_option maxHeartbeats 4000000
/-! G1: calls of defs, over arounds in which no repr runs (for repr's own rule). -/
namespace GP
open PySem PySem.Spec PyProof.Rows L2
/-- room for k calls, no repr around -/
structure RG (k : Nat) (A : Around) : Prop where
  rm : Room k A
  gd : A.guards = some []
theorem RG.mono {j k : Nat} {A : Around} (r : RG k A) (h : j ≤ k) : RG j A := ⟨r.rm.mono h, r.gd⟩
theorem RG.un {k : Nat} {A : Around} (r : RG k A) : A.units + 1 < cLine := hu_of r.rm
structure FnG (P : Program) (w : World) (K : FK) (mg : Str → Option Value) (base : Heap) (CX : CXT) (k : Nat) (f : Addr) (fd : FuncData) (ps : List Str) (sp : Sp) : Prop where
  len : ∀ vs H Q E, sp vs H Q E → vs.length = ps.length
  run : ∀ (A : Around) (outer : List Env) (s : Shared) (H : Hp) (args : Args) (us : List Value) (vs : List V) (Q : VK) (E : XK), RG k A → Env0 P w K mg base A outer s H →
    BindsTo s fd args (ps.zip us) → Vals vs us → sp vs H Q E → codeAny (model P w) A (.call (.ref f) args) (CR CX outer P w H s Q E) s
theorem FnOk.g {P : Program} {w : World} {K : FK} {mg : Str → Option Value} {base : Heap} {CX : CXT} {k : Nat} {f : Addr} {fd : FuncData} {ps : List Str} {sp : Sp} (F : FnOk P w K mg base CX k f fd ps sp) : FnG P w K mg base CX k f fd ps sp :=
  ⟨F.len, fun A o s H a us vs Q E hr => F.run A o s H a us vs Q E hr.rm⟩
/-- a def that can be called by its global name x -/
structure Cal (P : Program) (w : World) (K : FK) (mg : Str → Option Value) (base : Heap) (CX : CXT) (x : Str) (k : Nat) (ps : List Str) (sp : Sp) : Prop where
  ex : ∃ f fd, FnG P w K mg base CX k f fd ps sp ∧ mg x = some (.ref f) ∧ PySem.W.keepIn K (.ref f) = true ∧ Binds K fd ps []
section
variable {X : Cx} {CX : CXT} {k : Nat} {f C : Addr} {fd : FuncData} {ps : List Str} {sp : Sp} {E : XK} {x m : Str} {p pos apos : Pos} {e o : Expr} {es : List Expr} {ta : TE} {t : TA}
theorem FnG.wp {pins : List (Addr × Obj)} {σ : L2.St} {H : Hp} {s : Shared} {Q : VK} {us ws : List Value} {kw : List (Str × Value)} {vs : List V} (F : FnG X.prog X.w X.K X.mg X.base CX k f fd ps sp) (hr : RG k X.A) (hx : Passes CX X E) (I : Inv X pins σ H s)
    (hb : ws.length = ps.length → BindsTo s fd ⟨us, kw⟩ (ps.zip ws)) (r : Vals vs ws) (h : sp vs H Q E) : wpAny (model X.prog X.w) X.A (call (.ref f) us kw) (EP X pins σ Q) X.xe s := by
  have hl : ws.length = ps.length := (r.length).symm.trans (F.len _ _ _ _ h)
  refine wpAny_call (codeAny_mono (F.run X.A X.stack s H ⟨us, kw⟩ ws vs Q E hr I.env0 (hb hl) r h) fun res s1 q => ?_)
  match res, q with
  | .error ev, q => exact hx pins σ H s ev s1 I q
  | .ok (.ret u), q => exact I.after q
  | .ok .next, q => exact q.elim
  | .ok .brk, q => exact q.elim
  | .ok .cont, q => exact q.elim
theorem FnG.wp0 {pins : List (Addr × Obj)} {σ : L2.St} {H : Hp} {s : Shared} {Q : VK} {us : List Value} {vs : List V} (F : FnG X.prog X.w X.K X.mg X.base CX k f fd ps sp) (hr : RG k X.A) (hb : Binds X.K fd ps []) (hx : Passes CX X E) (I : Inv X pins σ H s)
    (r : Vals vs us) (h : sp vs H Q E) : wpAny (model X.prog X.w) X.A (call (.ref f) us) (EP X pins σ Q) X.xe s := by
  refine F.wp hr hx I (fun hl => ?_) r h
  have z := hb s us I.kIn (by rw [List.append_nil]; exact hl)
  rw [List.append_nil] at z
  exact z
def tFn (sp : Sp) (E : XK) (t : TA) : TE := fun σ H Q => t σ H fun vs H1 => sp vs H1 Q E
/-- f(e, ..) -/
theorem pe_fn (c : Cal X.prog X.w X.K X.mg X.base CX x k ps sp) {j : Nat} (hr : RG j X.A) (hj : k ≤ j) (hg : Gl X x) (hx : Passes CX X E) (ha : PA X (e :: es) t) (hdb : (x == ("__debug__" : Str)) = false := by decide)
    (he : starEach (e :: es) X.env = (false, eval e X.env) :: starEach es X.env := by rfl) (hpl : (backTo pos (starEach es X.env)).any (·.1) = false := by rfl) : PE X (.Call (.Name x p) (e :: es) [] pos) (tFn sp E t) := by
  obtain ⟨f, fd, F, hm, hk, hb⟩ := c.ex
  refine ⟨fun pins s σ H Q I h => wpAny_Call_Name_kw (ld_glob I hg hm ?_ hdb)⟩
  refine PySem.W.callWith_K (h₀ := X.base) I.mod.kin hk (thn (ha.run pos pins s σ H _ I h) fun us s1 z => ?_) he hpl
  obtain ⟨vs, H1, I1, r, q⟩ := z
  exact ⟨I1.kIn, F.wp0 (hr.mono hj) hb hx I1 r q⟩
/-- f() -/
theorem pe_fn0 (c : Cal X.prog X.w X.K X.mg X.base CX x k ps sp) {j : Nat} (hr : RG j X.A) (hj : k ≤ j) (hg : Gl X x) (hx : Passes CX X E) (hdb : (x == ("__debug__" : Str)) = false := by decide) : PE X (.Call (.Name x p) [] [] pos) (tFn sp E tNil) := by
  obtain ⟨f, fd, F, hm, hk, hb⟩ := c.ex
  exact ⟨fun pins s σ H Q I h => wpAny_Call_Name_kw (ld_glob I hg hm (PySem.W.callWith_K0 I.kIn hk (F.wp0 (us := []) (hr.mono hj) hb hx I .nil h)) hdb)⟩
/-- o.m(e, ..): the method m of the class at C -/
structure CalM (P : Program) (w : World) (K : FK) (mg : Str → Option Value) (base : Heap) (CX : CXT) (C : Addr) (m : Str) (k : Nat) (ps : List Str) (sp : Sp) : Prop where
  ex : ∃ f fd, FnG P w K mg base CX k f fd ps sp ∧ Cls K C ∧ Meth K C m f ∧ Binds K fd ps []
def tMt (C : Addr) (m : Str) (sp : Sp) (E : XK) (ta : TE) (t : TA) : TE := fun σ H Q => ta σ H fun x H1 => ∃ a dx fs, x = .ref a ∧ H1 a = some (.ins C dx fs) ∧ fs.lookup m = none ∧ t σ H1 fun vs H2 => sp (x :: vs) H2 Q E
theorem pe_mt {pl : Sem Bool} (c : CalM X.prog X.w X.K X.mg X.base CX C m k ps sp) {j : Nat} (hr : RG j X.A) (hj : k ≤ j) (hx : Passes CX X E) (he : PE X o ta) (ha : PA X (e :: es) t)
    (hst : starEach (e :: es) X.env = (false, eval e X.env) :: starEach es X.env := by rfl) (hpl : (backTo pos (starEach es X.env)).any (·.1) = false := by rfl)
    (ht : eval (.Call (.Attribute o m apos) (e :: es) [] pos) X.env = (do
      let ov ← eval o X.env; standAt apos.atName; let (f, first) ← holding [ov] (getMethod ov m pl)
      callWith pos f first (backTo pos (starEach (e :: es) X.env)) (backToKw pos (keywordEach [] X.env))) := by rfl) : PE X (.Call (.Attribute o m apos) (e :: es) [] pos) (tMt C m sp E ta t) := by
  obtain ⟨f, fd, F, cl, hm, hb⟩ := c.ex
  refine ⟨fun pins s σ H Q I h => PySem.W.methodCall_KW (pl := pl) (thn (he.run pins s σ H _ I h) fun u s1 z => ?_) ht⟩
  obtain ⟨xv, H1, I1, rx, a, dx, fs, ex, ea, l, q⟩ := z
  subst ex
  obtain rfl : u = Value.ref a := rx
  refine getmeth_ok I1 ea cl hm l (PySem.W.callWith_K (first := [.ref a]) (h₀ := X.base) I.mod.kin hm.kp (thn (ha.run pos pins s1 σ H1 _ I1 q) fun us s2 z => ?_) hst hpl)
  obtain ⟨vs, H2, I2, r, q2⟩ := z
  exact ⟨I2.kIn, F.wp0 (us := .ref a :: us) (vs := .ref a :: vs) (hr.mono hj) hb hx I2 (.cons rfl r) q2⟩
/-- C(e, ..): the class x at C with __init__ -/
structure CalC (P : Program) (w : World) (K : FK) (mg : Str → Option Value) (base : Heap) (CX : CXT) (x : Str) (C : Addr) (k : Nat) (ps : List Str) (sp : Sp) : Prop where
  ex : ∃ f fd, FnG P w K mg base CX k f fd ps sp ∧ mg x = some (.ref C) ∧ Mk K C f ∧ Binds K fd ps []
def tMk (C : Addr) (sp : Sp) (E : XK) (t : TA) : TE := fun σ H Q => t σ H fun vs H1 => ∀ x dx, H1 x = none → H1 dx = none → dx ≠ x →
  sp (.ref x :: vs) (upd (upd H1 dx (.own x)) x (.ins C dx [])) (fun v H2 => v = .non ∧ Q (.ref x) H2) E
theorem RG.make {A : Around} (r : RG (k + 1) A) (C : Addr) (us : List Value) (kw : List (Str × Value)) : RG k (A.under (.builtin "type.__call__" ⟨.ref C :: us, kw⟩)) :=
  ⟨r.rm.make C us kw, by
    show pushGuards (Code.guards (.builtin "type.__call__" ⟨.ref C :: us, kw⟩)) A.guards = some []
    rw [r.gd]
    rfl⟩
theorem pe_mk (c : CalC X.prog X.w X.K X.mg X.base CX x C k ps sp) {j : Nat} (hr : RG j X.A) (hj : k + 1 ≤ j) (hg : Gl X x) (hx : Passes CX X E) (ha : PA X (e :: es) t) (hdb : (x == ("__debug__" : Str)) = false := by decide)
    (he : starEach (e :: es) X.env = (false, eval e X.env) :: starEach es X.env := by rfl) (hpl : (backTo pos (starEach es X.env)).any (·.1) = false := by rfl) : PE X (.Call (.Name x p) (e :: es) [] pos) (tMk C sp E t) := by
  obtain ⟨f, fd, F, hm, M, hb⟩ := c.ex
  refine ⟨fun pins s σ H Q I h => wpAny_Call_Name_kw (ld_glob I hg hm ?_ hdb)⟩
  refine PySem.W.callWith_K (h₀ := X.base) I.mod.kin M.kp (thn (ha.run pos pins s σ H _ I h) fun us s1 z => ?_) he hpl
  obtain ⟨vs, H1, I1, r, q⟩ := z
  refine ⟨I1.kIn, ?_⟩
  have hq := q (s1.heap.objs.size + 1) s1.heap.objs.size (I1.hok.fresh (Nat.le_succ _)) (I1.hok.fresh (Nat.le_refl _)) (Nat.ne_of_lt (Nat.lt_succ_self _))
  have J := Inv.made (C := C) I1
  have r2 : Vals (V.ref (s1.heap.objs.size + 1) :: vs) (Value.ref (s1.heap.objs.size + 1) :: us) := .cons rfl r
  have hl : (Value.ref (s1.heap.objs.size + 1) :: us).length = ps.length := r2.length.symm.trans (F.len _ _ _ _ hq)
  have hbd := hb _ (Value.ref (s1.heap.objs.size + 1) :: us) J.kIn (by rw [List.append_nil]; exact hl)
  rw [List.append_nil] at hbd
  refine wpAny_call (make_map (f := f) I1.kIn M.makes M.init (beq_iff_eq.mp M.fn) (codeAny_mono (F.run _ X.stack _ _ ⟨_, []⟩ _ _ _ E ((hr.mono hj).make C us []) (J.env0.make C us []) hbd r2 hq) fun res s2 z => ?_))
  match res, z with
  | .error ev, z => exact hx pins σ _ _ ev s2 J z
  | .ok (.ret u), z =>
    obtain ⟨v, H2, I2, rv, ev, qf⟩ := J.after z
    subst ev
    obtain rfl : u = Value.none := rv
    exact ⟨rfl, ⟨.ref (s1.heap.objs.size + 1), H2, I2, rfl, qf⟩⟩
  | .ok .next, z => exact z.elim
  | .ok .brk, z => exact z.elim
  | .ok .cont, z => exact z.elim
end
/-! ### a def by its body -/
section
variable {P : Program} {w : World} {K : FK} {mg : Str → Option Value} {base : Heap}
theorem fnG_of {CX : CXT} {k : Nat} {f : Addr} {name qual : Str} {params : Arguments} {body : List Stmt} {scope : Scope} {dV kV doc pm cdv ct oc : Value} {an od : Option Addr} {osl : Array (Option Value)} {N ps : List Str} {sp : Sp}
    (lk : K.lookup f = some ⟨oc, od, .func (PySem.W.fnOf name qual params body scope dV kV doc pm an cdv ct), osl⟩) (hcd : PySem.W.codeIn K cdv qual = true) (S : FnScope N ps scope) (len : ∀ vs H Q E, sp vs H Q E → vs.length = ps.length)
    (hbody : ∀ (A : Around) (outer : List Env) (s : Shared) (H : Hp) (vs : List V) (Q : VK) (E : XK), RG k (A.deeper (envOfC qual scope s.heap.objs.size f cdv)) → sp vs H Q E →
      ∃ t, PSs (cxOf CX P w K mg base N qual scope f cdv A outer s H E) body t ∧ t { nx := fun _ H2 => Q .non H2, rt := Q } (start N vs) H) :
    FnG P w K mg base CX (k + 1) f (PySem.W.fnOf name qual params body scope dV kV doc pm an cdv ct) ps sp := by
  refine ⟨len, fun A outer s H args us vs Q E hr e0 hb r hsp => ?_⟩
  have hl := len _ _ _ _ hsp
  have kx : K.In s.heap := e0.mod.kin.keeps fun b o z => (e0.bs b o z).1
  have nl : s.heap.NoLimit := e0.mod.nolimit.keeps fun b o z => (e0.bs b o z).1
  have kinds : ∀ y ∈ ps.zip us, scope.names.lookup y.1 = some .local ∨ (scope.names.lookup y.1 = some .cell ∧ ((cellsFrom (s.heap.objs.size + 1) scope.names []).lookup y.1).isSome = true) := by
    rintro ⟨n, v⟩ hy
    exact (S.par n (List.of_mem_zip hy).1).imp id fun q => ⟨q, PySem.W.cellsFrom_some _ _ _ (.inl q)⟩
  refine codeAny_call_function hr.rm.depth (kx _ _ lk) rfl S.co S.gen rfl (PySem.W.codeRec_of kx hcd) (hb _ _ _ _ (wpAny_newFunctionEnv_cells S.kind kinds fun env he s1 x => ?_))
  subst he
  refine ⟨nl.keeps x.toInCall.keep, codeAny_func ?_⟩
  obtain ⟨t, ht, hq⟩ := hbody A outer s H vs Q E ⟨hr.rm.deeper _, hr.gd⟩ hsp
  have J0 : Inv (cxOf CX P w K mg base N qual scope f cdv A outer s H E) [] (start N vs) H s1 := inv_start S hr.rm.hd e0 hl r x
  refine wpAny_mono (ht.run [] s1 _ H _ J0 hq) (fun fl s2 z => ?_) fun _ _ z => z
  match fl, z with
  | .ret u, z =>
    obtain ⟨v, σ2, H2, J, rv, q⟩ := z
    exact ⟨v, H2, J.os, J.bare, J.base, J.hok, rv, q⟩
  | .next, z =>
    obtain ⟨σ2, H2, J, q⟩ := z
    exact ⟨V.non, H2, J.os, J.bare, J.base, J.hok, rfl, q⟩
  | .brk, z =>
    obtain ⟨_, _, _, q⟩ := z
    exact q.elim
  | .cont, z =>
    obtain ⟨_, _, _, q⟩ := z
    exact q.elim
/-- the context of a def's body that lets no exception out -/
abbrev cx0 (P : Program) (w : World) (K : FK) (mg : Str → Option Value) (base : Heap) (N : List Str) (qual : Str) (st : Stmt) (f : Addr) (cdv : Value) (A : Around) (outer : List Env) (s : Shared) (H : Hp) (E : XK) : Cx :=
  (cxOf CX0 P w K mg base N qual (defScope st) f cdv A outer s H E).nox
/-- a def that lets no exception out -/
theorem fnG {x qual : Str} {st : Stmt} {f : Addr} {fd : FuncData} {N ps : List Str} {k : Nat} {sp : Sp} {t : TS} (F : Fun K x qual st f fd) (S : FnScope N ps (defScope st)) (len : ∀ vs H Q E, sp vs H Q E → vs.length = ps.length)
    (pure_ : ∀ vs H Q E, sp vs H Q E → t { nx := fun _ H2 => Q .non H2, rt := Q } (start N vs) H)
    (der : ∀ (cdv : Value) (A : Around) (outer : List Env) (s : Shared) (H : Hp) (E : XK), RG k (cx0 P w K mg base N qual st f cdv A outer s H E).A → PSs (cx0 P w K mg base N qual st f cdv A outer s H E) (defBody st) t) : FnG P w K mg base CX0 (k + 1) f fd ps sp := by
  obtain ⟨oc, od, kV, doc, pm, an, cdv, ct, osl, rfl, lk, hcd⟩ := F.ex
  exact fnG_of lk hcd S len fun A outer s H vs Q E hr hsp => ⟨t, (der cdv A outer s H E hr).nox, pure_ vs H Q E hsp⟩
end
end GP

set_option Elab.async false
set_option linter.all false
set_option maxRecDepth 100000
set_option maxHeartbeats 4000000
/-! G2: data without a heap: D, what represents it (Rep), and judgements that lead a reading back to a predicate transformer over data. -/
namespace GP
open PySem PySem.Spec PyProof.Rows L2
abbrev LIM : Nat := 1000000
abbrev TMAX : Nat := 1000000000000
inductive D where
  | non | bl (b : Bool) | int (i : Int) | str (x : Str) | lst (xs : List D) | tup (xs : List D) | dct (kvs : List (Key × D))
  | ins (c : String) (fs : List (Str × D)) | ty (n : String) | cls (c : String) | st | raw (x : Str)
/-- what a law's proof fixes: the written part, the classes, the constants -/
structure Cn where
  K : FK
  cls : String → Option Addr
  con : String → V
abbrev LS := Option (Addr × Addr)
/-- a text that data may hold -/
def okStr (x : Str) : Bool := decide (x.length ≤ LIM) && x.cps.all (· < 0x110000)
/-- a tuple that is tracked, or written by the top -/
def TpA (K : FK) (G : Hp) (a : Addr) (xs : List V) : Prop :=
  G a = some (.tup xs) ∨ ∃ (o : Obj) (its : Array Value) (n : Nat), K.lookup a = some o ∧ o.cls = .type "tuple" ∧ o.data = .seq its n ∧ its.size ≤ sizeLine ∧ Vals xs its.toList
theorem TpA.sq {K : FK} {G : Hp} {a : Addr} {xs : List V} (h : TpA K G a xs) : SqT K G a xs := h.imp .inl id
mutual
inductive Rep (Γ : Cn) (L : LS) (G : Hp) : V → D → Prop
  | non : Rep Γ L G .non .non
  | bl (b : Bool) : Rep Γ L G (.bl b) (.bl b)
  | int (i : Int) : Rep Γ L G (.int i) (.int i)
  | str {x : Str} (h : okStr x = true) : Rep Γ L G (.str x) (.str x)
  | lst {a : Addr} {xs : List V} {ds : List D} (h : G a = some (.lst xs)) (r : RepL Γ L G xs ds) (z : ds.length ≤ LIM) : Rep Γ L G (.ref a) (.lst ds)
  | tup {a : Addr} {xs : List V} {ds : List D} (h : TpA Γ.K G a xs) (r : RepL Γ L G xs ds) (z : ds.length ≤ LIM) : Rep Γ L G (.ref a) (.tup ds)
  | dct {a : Addr} {xs : List (Key × V)} {ds : List (Key × D)} (h : G a = some (.dK xs)) (r : RepK Γ L G xs ds) (z : ds.length ≤ LIM) : Rep Γ L G (.ref a) (.dct ds)
  | ins {a C dx : Addr} {c : String} {xs : List (Str × V)} {ds : List (Str × D)} (h : G a = some (.ins C dx xs)) (hd : G dx = some (.own a)) (hc : Γ.cls c = some C) (r : RepF Γ L G xs ds) : Rep Γ L G (.ref a) (.ins c ds)
  | ty (n : String) : Rep Γ L G (.ty n) (.ty n)
  | cls {C : Addr} {c : String} (hc : Γ.cls c = some C) : Rep Γ L G (.ref C) (.cls c)
  | st {p g : Addr} (h : L = some (p, g)) : Rep Γ L G (.ref p) .st
  | raw (x : Str) : Rep Γ L G (.str x) (.raw x)
inductive RepL (Γ : Cn) (L : LS) (G : Hp) : List V → List D → Prop
  | nil : RepL Γ L G [] []
  | cons {v : V} {d : D} {vs : List V} {ds : List D} (h : Rep Γ L G v d) (t : RepL Γ L G vs ds) : RepL Γ L G (v :: vs) (d :: ds)
inductive RepK (Γ : Cn) (L : LS) (G : Hp) : List (Key × V) → List (Key × D) → Prop
  | nil : RepK Γ L G [] []
  | cons {k : Key} {v : V} {d : D} {vs : List (Key × V)} {ds : List (Key × D)} (h : Rep Γ L G v d) (t : RepK Γ L G vs ds) : RepK Γ L G ((k, v) :: vs) ((k, d) :: ds)
inductive RepF (Γ : Cn) (L : LS) (G : Hp) : List (Str × V) → List (Str × D) → Prop
  | nil : RepF Γ L G [] []
  | cons {k : Str} {v : V} {d : D} {vs : List (Str × V)} {ds : List (Str × D)} (h : Rep Γ L G v d) (t : RepF Γ L G vs ds) : RepF Γ L G ((k, v) :: vs) ((k, d) :: ds)
end
def Ex (H H' : Hp) : Prop := ∀ a o, H a = some o → H' a = some o
theorem Ex.rfl' {H : Hp} : Ex H H := fun _ _ h => h
theorem Ex.tr {H H1 H2 : Hp} (a : Ex H H1) (b : Ex H1 H2) : Ex H H2 := fun x o h => b x o (a x o h)
theorem Ex.new {H : Hp} {p : Addr} {o : HO} (h : H p = none) : Ex H (upd H p o) := fun a u e => by rw [upd_ne (ne_of_none e h)]; exact e
theorem Ex.back {H H' : Hp} {p : Addr} (e : Ex H H') (h : H' p = none) : H p = none := by
  cases q : H p with
  | none => rfl
  | some o => rw [e p o q] at h; cases h
theorem Ex.rd {H H' : Hp} {a : Addr} {u : HO} (e : Ex H H') (h : Rd H a u) : Rd H' a u := h.imp (e a _) fun ⟨o, q⟩ => ⟨o, e a _ q⟩
theorem Ex.sl {K : FK} {H H' : Hp} {a : Addr} {xs : List V} (e : Ex H H') (h : SqL K H a xs) : SqL K H' a xs := h.imp e.rd id
theorem Ex.stt {K : FK} {H H' : Hp} {a : Addr} {xs : List V} (e : Ex H H') (h : SqT K H a xs) : SqT K H' a xs := h.imp e.rd id
theorem Ex.tp {K : FK} {H H' : Hp} {a : Addr} {xs : List V} (e : Ex H H') (h : TpA K H a xs) : TpA K H' a xs := h.imp (e _ _) id
section
variable {Γ : Cn} {L : LS} {G G' : Hp}
mutual
theorem Rep.up (e : Ex G G') : ∀ {v : V} {d : D}, Rep Γ L G v d → Rep Γ L G' v d
  | _, _, .non => .non
  | _, _, .bl b => .bl b
  | _, _, .int i => .int i
  | _, _, .str h => .str h
  | _, _, .lst h r z => .lst (e _ _ h) (RepL.up e r) z
  | _, _, .tup h r z => .tup (e.tp h) (RepL.up e r) z
  | _, _, .dct h r z => .dct (e _ _ h) (RepK.up e r) z
  | _, _, .ins h hd hc r => .ins (e _ _ h) (e _ _ hd) hc (RepF.up e r)
  | _, _, .ty n => .ty n
  | _, _, .cls h => .cls h
  | _, _, .st h => .st h
  | _, _, .raw x => .raw x
theorem RepL.up (e : Ex G G') : ∀ {v : List V} {d : List D}, RepL Γ L G v d → RepL Γ L G' v d
  | _, _, .nil => .nil
  | _, _, .cons h t => .cons (Rep.up e h) (RepL.up e t)
theorem RepK.up (e : Ex G G') : ∀ {v : List (Key × V)} {d : List (Key × D)}, RepK Γ L G v d → RepK Γ L G' v d
  | _, _, .nil => .nil
  | _, _, .cons h t => .cons (Rep.up e h) (RepK.up e t)
theorem RepF.up (e : Ex G G') : ∀ {v : List (Str × V)} {d : List (Str × D)}, RepF Γ L G v d → RepF Γ L G' v d
  | _, _, .nil => .nil
  | _, _, .cons h t => .cons (Rep.up e h) (RepF.up e t)
end
theorem RepL.len : ∀ {v : List V} {d : List D}, RepL Γ L G v d → v.length = d.length
  | _, _, .nil => rfl
  | _, _, .cons _ t => congrArg (· + 1) (RepL.len t)
theorem RepL.app : ∀ {v w : List V} {d e : List D}, RepL Γ L G v d → RepL Γ L G w e → RepL Γ L G (v ++ w) (d ++ e)
  | _, _, _, _, .nil, s => s
  | _, _, _, _, .cons h t, s => .cons h (RepL.app t s)
theorem RepL.at_ : ∀ {v : List V} {d : List D} {i : Nat} {x : D}, RepL Γ L G v d → d[i]? = some x → ∃ y, v[i]? = some y ∧ Rep Γ L G y x
  | _, _, _, _, .nil, h => by simp at h
  | _, _, 0, _, .cons h _, e => by simp at e; subst e; exact ⟨_, rfl, h⟩
  | _, _, i + 1, _, .cons _ t, e => by simpa using RepL.at_ (i := i) t (by simpa using e)
theorem RepL.at' : ∀ {v : List V} {d : List D} {i : Nat} {y : V}, RepL Γ L G v d → v[i]? = some y → ∃ x, d[i]? = some x ∧ Rep Γ L G y x
  | _, _, _, _, .nil, h => by simp at h
  | _, _, 0, _, .cons h _, e => by simp at e; subst e; exact ⟨_, rfl, h⟩
  | _, _, i + 1, _, .cons _ t, e => by simpa using RepL.at' (i := i) t (by simpa using e)
theorem RepL.take : ∀ {v : List V} {d : List D} (n : Nat), RepL Γ L G v d → RepL Γ L G (v.take n) (d.take n)
  | _, _, 0, _ => .nil
  | _, _, _ + 1, .nil => .nil
  | _, _, n + 1, .cons h t => .cons h (RepL.take n t)
theorem RepL.drop : ∀ {v : List V} {d : List D} (n : Nat), RepL Γ L G v d → RepL Γ L G (v.drop n) (d.drop n)
  | _, _, 0, h => h
  | _, _, _ + 1, .nil => .nil
  | _, _, n + 1, .cons _ t => RepL.drop n t
theorem RepL.set : ∀ {v : List V} {d : List D} {y : V} {x : D} (n : Nat), RepL Γ L G v d → Rep Γ L G y x → RepL Γ L G (v.set n y) (d.set n x)
  | _, _, _, _, _, .nil, _ => .nil
  | _, _, _, _, 0, .cons _ t, r => .cons r t
  | _, _, _, _, n + 1, .cons h t, r => .cons h (RepL.set n t r)
theorem RepL.erase : ∀ {v : List V} {d : List D} (n : Nat), RepL Γ L G v d → RepL Γ L G (v.eraseIdx n) (d.eraseIdx n)
  | _, _, _, .nil => .nil
  | _, _, 0, .cons _ t => t
  | _, _, n + 1, .cons h t => .cons h (RepL.erase n t)
end
/-! ### the law's state: a dict of the list of great numbers, the cells, what is left, the turn -/
def stK (g c : Addr) (left turn : Int) : List (Key × V) := [(.inr "great", .ref g), (.inr "cells", .ref c), (.inr "left", .int left), (.inr "turn", .int turn)]
def notL (L : LS) (a : Addr) : Prop := ∀ p g, L = some (p, g) → a ≠ p ∧ a ≠ g
structure LawSt (p g : Addr) (t : Nat) (G H : Hp) : Prop where
  np : G p = none
  ng : G g = none
  ne : p ≠ g
  ex : ∃ (c : Addr) (great cells : List Int) (left turn : Int), H p = some (.dK (stK g c left turn)) ∧ H g = some (.lst (great.map V.int)) ∧ (∀ z ∈ great, 0 ≤ z) ∧ 0 ≤ left ∧ 0 ≤ turn ∧ turn ≤ (t : Int) ∧ G c = some (.lst (cells.map V.int))
def LawAt (L : LS) (t : Nat) (G H : Hp) : Prop := ∀ p g, L = some (p, g) → LawSt p g t G H
/-- G's things stand in H (a dict may be locked) -/
def Exf (G H : Hp) : Prop := ∀ a o, G a = some o → H a = some o ∨ ∃ kvs od, o = .dK kvs ∧ H a = some (.frz od (.dK kvs))
/-- from the entry (G0 within B) the point (G within H) was reached -/
structure At (L : LS) (t : Nat) (B G0 G H : Hp) : Prop where
  gg : Ex G0 G
  gh : Exf G H
  bh : ∀ a o, B a = some o → notL L a → H a = some o
  nw : ∀ a o, G a = some o → G0 a = some o ∨ B a = none
  lw : LawAt L t G H
theorem LawAt.le {L : LS} {t u : Nat} {G H : Hp} (h : LawAt L t G H) (l : t ≤ u) : LawAt L u G H := fun p g e => by
  obtain ⟨a, b, c, c1, gr, cs, lf, tn, h1, h2, h3, h4, h5, h6, h7⟩ := h p g e
  exact ⟨a, b, c, c1, gr, cs, lf, tn, h1, h2, h3, h4, h5, by omega, h7⟩
theorem At.le {L : LS} {t u : Nat} {B G0 G H : Hp} (h : At L t B G0 G H) (l : t ≤ u) : At L u B G0 G H := ⟨h.gg, h.gh, h.bh, h.nw, h.lw.le l⟩
theorem At.start {L : LS} {t : Nat} {G H : Hp} (e : Exf G H) (l : LawAt L t G H) : At L t H G G H := ⟨Ex.rfl', e, fun _ _ h _ => h, fun _ _ h => .inl h, l⟩
theorem At.tr {L : LS} {t u : Nat} {B G0 G H G' H' : Hp} (a : At L t B G0 G H) (b : At L u H G G' H') : At L u B G0 G' H' where
  gg := a.gg.tr b.gg
  gh := b.gh
  bh := fun x o h n => b.bh x o (a.bh x o h n) n
  nw := fun x o h => (b.nw x o h).elim (fun q => a.nw x o q) fun q => by
    cases hb : B x with
    | none => exact .inr rfl
    | some o' =>
      by_cases hn : notL L x
      · rw [a.bh x o' hb hn] at q; cases q
      · exfalso
        apply hn
        intro p g e
        obtain ⟨_, _, _, c1, gr, cs, lf, tn, h1, h2, _⟩ := a.lw p g e
        exact ⟨fun z => (by rw [z, h1] at q; cases q), fun z => (by rw [z, h2] at q; cases q)⟩
  lw := b.lw
theorem LawAt.out {L : LS} {t : Nat} {G H : Hp} (h : LawAt L t G H) {a : Addr} (n : H a = none) : notL L a := fun p g e => by
  obtain ⟨_, _, _, c1, gr, cs, lf, tn, h1, h2, _⟩ := h p g e
  exact ⟨fun z => (by rw [z, h1] at n; cases n), fun z => (by rw [z, h2] at n; cases n)⟩
theorem Exf.none {G H : Hp} (e : Exf G H) {a : Addr} (n : H a = none) : G a = none := by
  cases q : G a with
  | none => rfl
  | some o =>
    rcases e a o q with h | ⟨_, _, _, h⟩ <;> (rw [n] at h; cases h)
theorem Exf.rdl {G H : Hp} (e : Exf G H) {a : Addr} {xs : List V} (h : Rd G a (.lst xs)) : Rd H a (.lst xs) := by
  rcases h with h | ⟨o, h⟩
  · rcases e a _ h with q | ⟨_, _, q, _⟩
    · exact .inl q
    · cases q
  · rcases e a _ h with q | ⟨_, _, q, _⟩
    · exact .inr ⟨o, q⟩
    · cases q
theorem Exf.rdt {G H : Hp} (e : Exf G H) {a : Addr} {xs : List V} (h : Rd G a (.tup xs)) : Rd H a (.tup xs) := by
  rcases h with h | ⟨o, h⟩
  · rcases e a _ h with q | ⟨_, _, q, _⟩
    · exact .inl q
    · cases q
  · rcases e a _ h with q | ⟨_, _, q, _⟩
    · exact .inr ⟨o, q⟩
    · cases q
theorem Exf.sl {K : FK} {G H : Hp} (e : Exf G H) {a : Addr} {xs : List V} (h : SqL K G a xs) : SqL K H a xs := h.imp e.rdl id
theorem Exf.stt {K : FK} {G H : Hp} (e : Exf G H) {a : Addr} {xs : List V} (h : SqT K G a xs) : SqT K H a xs := h.imp e.rdt id
theorem Exf.tp {K : FK} {G H : Hp} (e : Exf G H) {a : Addr} {xs : List V} (h : TpA K G a xs) : TpA K H a xs := by
  rcases h with h | h
  · rcases e a _ h with q | ⟨_, _, q, _⟩
    · exact .inl q
    · cases q
  · exact .inr h
theorem Exf.dk {G H : Hp} (e : Exf G H) {a : Addr} {kvs : List (Key × V)} (h : G a = some (.dK kvs)) : Rd H a (.dK kvs) := by
  rcases e a _ h with q | ⟨_, od, q, r⟩
  · exact .inl q
  · cases q; exact .inr ⟨od, r⟩
theorem Exf.ins {G H : Hp} (e : Exf G H) {a C dx : Addr} {fs : List (Str × V)} (h : G a = some (.ins C dx fs)) : H a = some (.ins C dx fs) := by
  rcases e a _ h with q | ⟨_, _, q, _⟩
  · exact q
  · cases q
/-- a new thing, at once among the stable ones -/
theorem At.new {L : LS} {t : Nat} {G H : Hp} {p : Addr} {o : HO} (e : Exf G H) (l : LawAt L t G H) (n : H p = none) : At L t H G (upd G p o) (upd H p o) where
  gg := Ex.new (e.none n)
  gh := fun a u h => by
    by_cases z : a = p
    · subst z; rw [upd_same] at h ⊢; exact .inl h
    · rw [upd_ne z] at h ⊢; exact e a u h
  bh := fun a u h _ => by rw [upd_ne (ne_of_none h n)]; exact h
  nw := fun a u h => by
    by_cases z : a = p
    · subst z; exact .inr n
    · rw [upd_ne z] at h; exact .inl h
  lw := fun q g eq => by
    obtain ⟨h1, h2, h3, c1, gr, cs, lf, tn, k1, k2, k3, k4, k5, k6, k7⟩ := l q g eq
    have n1 : q ≠ p := ne_of_none k1 n
    have n2 : g ≠ p := ne_of_none k2 n
    refine ⟨by rw [upd_ne n1]; exact h1, by rw [upd_ne n2]; exact h2, h3, c1, gr, cs, lf, tn, by rw [upd_ne n1]; exact k1, by rw [upd_ne n2]; exact k2, k3, k4, k5, k6, ?_⟩
    rw [upd_ne (ne_of_none k7 (e.none n))]; exact k7
/-- a new thing, not among the stable ones -/
theorem At.newH {L : LS} {t : Nat} {G H : Hp} {p : Addr} {o : HO} (e : Exf G H) (l : LawAt L t G H) (n : H p = none) : At L t H G G (upd H p o) where
  gg := Ex.rfl'
  gh := fun a u h => by
    have z : a ≠ p := fun z => by subst z; rw [e.none n] at h; cases h
    rw [upd_ne z]; exact e a u h
  bh := fun a u h _ => by rw [upd_ne (ne_of_none h n)]; exact h
  nw := fun a u h => .inl h
  lw := fun q g eq => by
    obtain ⟨h1, h2, h3, c1, gr, cs, lf, tn, k1, k2, k3, k4, k5, k6, k7⟩ := l q g eq
    exact ⟨h1, h2, h3, c1, gr, cs, lf, tn, by rw [upd_ne (ne_of_none k1 n)]; exact k1, by rw [upd_ne (ne_of_none k2 n)]; exact k2, k3, k4, k5, k6, k7⟩
/-! ### values whose outer object may be owned: read, not kept -/
inductive OwnAt (Γ : Cn) (L : LS) (G H : Hp) : Addr → D → Prop
  | lst {p : Addr} {xs : List V} {ds : List D} (h : H p = some (.lst xs)) (r : RepL Γ L G xs ds) (z : ds.length ≤ LIM) : OwnAt Γ L G H p (.lst ds)
  | dct {p : Addr} {xs : List (Key × V)} {ds : List (Key × D)} (h : H p = some (.dK xs)) (r : RepK Γ L G xs ds) (z : ds.length ≤ LIM) : OwnAt Γ L G H p (.dct ds)
theorem OwnAt.step {Γ : Cn} {L : LS} {t : Nat} {G H G' H' : Hp} {p : Addr} {d : D} (a : At L t H G G' H') (n : notL L p) (h : OwnAt Γ L G H p d) : OwnAt Γ L G' H' p d := by
  cases h with
  | lst h r z => exact .lst (a.bh _ _ h n) (r.up a.gg) z
  | dct h r z => exact .dct (a.bh _ _ h n) (r.up a.gg) z
theorem OwnAt.there {Γ : Cn} {L : LS} {G H : Hp} {p : Addr} {d : D} (h : OwnAt Γ L G H p d) : ∃ o, H p = some o := by
  cases h with
  | lst h _ _ => exact ⟨_, h⟩
  | dct h _ _ => exact ⟨_, h⟩
def RepT (Γ : Cn) (L : LS) (G H : Hp) (v : V) (d : D) : Prop := Rep Γ L G v d ∨ ∃ p, v = .ref p ∧ OwnAt Γ L G H p d ∧ notL L p
theorem RepT.step {Γ : Cn} {L : LS} {t : Nat} {G H G' H' : Hp} {v : V} {d : D} (a : At L t H G G' H') (h : RepT Γ L G H v d) : RepT Γ L G' H' v d := by
  rcases h with h | ⟨p, rfl, h, n⟩
  · exact .inl (h.up a.gg)
  · exact .inr ⟨p, rfl, h.step a n, n⟩
/-! ### the frame's slots -/
inductive Sl where
  | sh (d : D) | ow (d : D)
abbrev DS := List (Option Sl)
structure Env (Γ : Cn) (L : LS) (B G H : Hp) (σ : L2.St) (δ : DS) : Prop where
  sh : ∀ (i : Nat) (d : D), δ[i]? = some (some (.sh d)) → ∃ v, σ[i]? = some (some v) ∧ Rep Γ L G v d
  ow : ∀ (i : Nat) (d : D), δ[i]? = some (some (.ow d)) → ∃ p, σ[i]? = some (some (.ref p)) ∧ OwnAt Γ L G H p d ∧ B p = none ∧ G p = none ∧ notL L p
  dj : ∀ (i j : Nat) (d e : D) (p : Addr), i ≠ j → δ[i]? = some (some (.ow d)) → δ[j]? = some (some (.ow e)) → σ[i]? = some (some (.ref p)) → σ[j]? = some (some (.ref p)) → False
  len : δ.length = σ.length
theorem Env.step {Γ : Cn} {L : LS} {t : Nat} {B G H G' H' : Hp} {σ : L2.St} {δ : DS} (e : Env Γ L B G H σ δ) (a : At L t H G G' H') : Env Γ L B G' H' σ δ where
  sh := fun i d h => let ⟨v, q, r⟩ := e.sh i d h; ⟨v, q, r.up a.gg⟩
  ow := fun i d h => by
    obtain ⟨p, q, r, b, g, n⟩ := e.ow i d h
    refine ⟨p, q, r.step a n, b, ?_, n⟩
    cases z : G' p with
    | none => rfl
    | some o =>
      obtain ⟨u, hu⟩ := r.there
      rcases a.nw p o z with y | y
      · rw [g] at y; cases y
      · rw [hu] at y; cases y
  dj := e.dj
  len := e.len
/-- a slot gets a stable value -/
theorem Env.set {Γ : Cn} {L : LS} {B G H : Hp} {σ : L2.St} {δ : DS} {v : V} {d : D} (e : Env Γ L B G H σ δ) (i : Nat) (r : Rep Γ L G v d) : Env Γ L B G H (σ.set i (some v)) (δ.set i (some (.sh d))) where
  sh := fun j x h => by
    by_cases z : i = j
    · subst z
      rw [List.getElem?_set] at h
      by_cases l : i < δ.length
      · simp [l] at h; subst h
        exact ⟨v, by rw [List.getElem?_set]; simp [← e.len, l], r⟩
      · simp [l] at h
    · rw [List.getElem?_set_ne z] at h ⊢; exact e.sh j x h
  ow := fun j x h => by
    by_cases z : i = j
    · subst z
      rw [List.getElem?_set] at h
      by_cases l : i < δ.length <;> simp [l] at h
    · rw [List.getElem?_set_ne z] at h ⊢; exact e.ow j x h
  dj := fun j k x y p hjk h1 h2 h3 h4 => by
    by_cases zj : i = j
    · subst zj
      rw [List.getElem?_set] at h1
      by_cases l : i < δ.length <;> simp [l] at h1
    · by_cases zk : i = k
      · subst zk
        rw [List.getElem?_set] at h2
        by_cases l : i < δ.length <;> simp [l] at h2
      · rw [List.getElem?_set_ne zj] at h1 h3
        rw [List.getElem?_set_ne zk] at h2 h4
        exact e.dj j k x y p hjk h1 h2 h3 h4
  len := by rw [List.length_set, List.length_set]; exact e.len
/-- a slot gets a new thing, owned -/
theorem Env.own {Γ : Cn} {L : LS} {B G H : Hp} {σ : L2.St} {δ : DS} {p : Addr} {d : D} (e : Env Γ L B G H σ δ) (i : Nat) (o : OwnAt Γ L G H p d) (hb : B p = none) (hg : G p = none) (hn : notL L p)
    (hf : ∀ (j : Nat) (x : D), j ≠ i → δ[j]? = some (some (.ow x)) → σ[j]? ≠ some (some (.ref p))) : Env Γ L B G H (σ.set i (some (.ref p))) (δ.set i (some (.ow d))) where
  sh := fun j x h => by
    by_cases z : i = j
    · subst z
      rw [List.getElem?_set] at h
      by_cases l : i < δ.length <;> simp [l] at h
    · rw [List.getElem?_set_ne z] at h ⊢; exact e.sh j x h
  ow := fun j x h => by
    by_cases z : i = j
    · subst z
      rw [List.getElem?_set] at h
      by_cases l : i < δ.length
      · simp [l] at h; subst h
        exact ⟨p, by rw [List.getElem?_set]; simp [← e.len, l], o, hb, hg, hn⟩
      · simp [l] at h
    · rw [List.getElem?_set_ne z] at h ⊢; exact e.ow j x h
  dj := fun j k x y q hjk h1 h2 h3 h4 => by
    by_cases zj : i = j
    · subst zj
      have zk : i ≠ k := hjk
      rw [List.getElem?_set_ne zk] at h2 h4
      rw [List.getElem?_set] at h3
      by_cases l : i < σ.length
      · simp [l] at h3; subst h3
        exact hf k y (Ne.symm hjk) h2 h4
      · simp [l] at h3
    · by_cases zk : i = k
      · subst zk
        rw [List.getElem?_set_ne zj] at h1 h3
        rw [List.getElem?_set] at h4
        by_cases l : i < σ.length
        · simp [l] at h4; subst h4
          exact hf j x (Ne.symm zj) h1 h3
        · simp [l] at h4
      · rw [List.getElem?_set_ne zj] at h1 h3
        rw [List.getElem?_set_ne zk] at h2 h4
        exact e.dj j k x y q hjk h1 h2 h3 h4
  len := by rw [List.length_set, List.length_set]; exact e.len
end GP

set_option Elab.async false
set_option linter.all false
set_option maxRecDepth 100000
set_option maxHeartbeats 4000000
/-! G3: the judgements over data, and their rules. -/
namespace GP
open PySem PySem.Spec PyProof.Rows L2
abbrev DE := DS → (D → Prop) → Prop
abbrev DT := DS → (Bool → Prop) → Prop
abbrev DA := DS → (List D → Prop) → Prop
abbrev DG := D → DS → (DS → Prop) → Prop
structure DN where
  nx : DS → Prop
  rt : D → Prop
  bk : DS → Prop := fun _ => False
  ct : DS → Prop := fun _ => False
abbrev DQ := DN → DS → Prop
section
variable (Γ : Cn) (L : LS)
/-- a stable value comes out -/
def SE (c : Nat) (te : TE) (de : DE) : Prop := ∀ (t : Nat) (σ : L2.St) (δ : DS) (B G H : Hp), LawAt L t G H → Exf G H → Env Γ L B G H σ δ → t + c ≤ TMAX → ∀ P : D → Prop, de δ P → ∀ Q : VK,
  (∀ v d G' H', At L (t + c) H G G' H' → Rep Γ L G' v d → P d → Q v H') → te σ H Q
/-- a value that may be owned by a slot -/
def ST (c : Nat) (te : TE) (de : DE) : Prop := ∀ (t : Nat) (σ : L2.St) (δ : DS) (B G H : Hp), LawAt L t G H → Exf G H → Env Γ L B G H σ δ → t + c ≤ TMAX → ∀ P : D → Prop, de δ P → ∀ Q : VK,
  (∀ v d G' H', At L (t + c) H G G' H' → RepT Γ L G' H' v d → P d → Q v H') → te σ H Q
/-- a new list or dict -/
def SF (c : Nat) (te : TE) (de : DE) : Prop := ∀ (t : Nat) (σ : L2.St) (δ : DS) (B G H : Hp), LawAt L t G H → Exf G H → Env Γ L B G H σ δ → t + c ≤ TMAX → ∀ P : D → Prop, de δ P → ∀ Q : VK,
  (∀ p d G' H', At L (t + c) H G G' H' → H p = none → OwnAt Γ L G' H' p d → G' p = none → P d → Q (.ref p) H') → te σ H Q
def SB (c : Nat) (tt : TT) (dt : DT) : Prop := ∀ (t : Nat) (σ : L2.St) (δ : DS) (B G H : Hp), LawAt L t G H → Exf G H → Env Γ L B G H σ δ → t + c ≤ TMAX → ∀ P : Bool → Prop, dt δ P → ∀ Q : Bool → Hp → Prop,
  (∀ b G' H', At L (t + c) H G G' H' → P b → Q b H') → tt σ H Q
/-- n stable arguments -/
def SA (n c : Nat) (ta : TA) (da : DA) : Prop := ∀ (t : Nat) (σ : L2.St) (δ : DS) (B G H : Hp), LawAt L t G H → Exf G H → Env Γ L B G H σ δ → t + c ≤ TMAX → ∀ P : List D → Prop, da δ P → ∀ Q : List V → Hp → Prop,
  (∀ vs ds G' H', At L (t + c) H G G' H' → RepL Γ L G' vs ds → ds.length = n → P ds → Q vs H') → ta σ H Q
inductive RepTL (G H : Hp) : List V → List D → Prop
  | nil : RepTL G H [] []
  | cons {v : V} {d : D} {vs : List V} {ds : List D} (h : RepT Γ L G H v d) (t : RepTL G H vs ds) : RepTL G H (v :: vs) (d :: ds)
def SAT (c : Nat) (ta : TA) (da : DA) : Prop := ∀ (t : Nat) (σ : L2.St) (δ : DS) (B G H : Hp), LawAt L t G H → Exf G H → Env Γ L B G H σ δ → t + c ≤ TMAX → ∀ P : List D → Prop, da δ P → ∀ Q : List V → Hp → Prop,
  (∀ vs ds G' H', At L (t + c) H G G' H' → RepTL Γ L G' H' vs ds → P ds → Q vs H') → ta σ H Q
structure EndsOf (T : Nat) (B G0 : Hp) (N : DN) (D : Ends) : Prop where
  nx : ∀ σ δ G H, At L T B G0 G H → Env Γ L B G H σ δ → N.nx δ → D.nx σ H
  rt : ∀ v d G H, At L T B G0 G H → Rep Γ L G v d → N.rt d → D.rt v H
  bk : ∀ σ δ G H, At L T B G0 G H → Env Γ L B G H σ δ → N.bk δ → D.bk σ H
  ct : ∀ σ δ G H, At L T B G0 G H → Env Γ L B G H σ δ → N.ct δ → D.ct σ H
def SS (c : Nat) (ts : TS) (ds : DQ) : Prop := ∀ (t : Nat) (σ : L2.St) (δ : DS) (B G0 G H : Hp), At L t B G0 G H → Env Γ L B G H σ δ → t + c ≤ TMAX → ∀ N : DN, ds N δ → ∀ D : Ends, EndsOf Γ L (t + c) B G0 N D → ts D σ H
end
section
variable {Γ : Cn} {L : LS} {c c1 c2 c3 n : Nat} {te ta tb : TE} {de da db : DE} {tt tu : TT} {dt du : DT}
theorem RepTL.step {t : Nat} {G H G' H' : Hp} (a : At L t H G G' H') : ∀ {v : List V} {d : List D}, RepTL Γ L G H v d → RepTL Γ L G' H' v d
  | _, _, .nil => .nil
  | _, _, .cons h t => .cons (h.step a) (RepTL.step a t)
theorem Rep.t {G H : Hp} {v : V} {d : D} (h : Rep Γ L G v d) : RepT Γ L G H v d := .inl h
theorem RepL.t {G H : Hp} : ∀ {v : List V} {d : List D}, RepL Γ L G v d → RepTL Γ L G H v d
  | _, _, .nil => .nil
  | _, _, .cons h t => .cons h.t (RepL.t t)
/-- an owned thing becomes a stable one -/
theorem freeze {t : Nat} {B G0 G H : Hp} {p : Addr} {d : D} (a : At L t B G0 G H) (o : OwnAt Γ L G H p d) (hb : B p = none) (hg : G p = none) (hn : notL L p) : ∃ G', At L t B G0 G' H ∧ Ex G G' ∧ Rep Γ L G' (.ref p) d ∧ ∀ q, q ≠ p → G' q = G q := by
  have key : ∀ u, H p = some u → At L t B G0 (upd G p u) H := fun u hu => by
    refine ⟨a.gg.tr (Ex.new hg), fun x o' h => ?_, a.bh, fun x o' h => ?_, fun q g e => ?_⟩
    · by_cases z : x = p
      · subst z; rw [upd_same] at h; cases h; exact .inl hu
      · rw [upd_ne z] at h; exact a.gh x o' h
    · by_cases z : x = p
      · subst z; exact .inr hb
      · rw [upd_ne z] at h; exact a.nw x o' h
    · obtain ⟨h1, h2, h3, c1, gr, cs, lf, tn, k1, k2, k3, k4, k5, k6, k7⟩ := a.lw q g e
      obtain ⟨n1, n2⟩ := hn q g e
      exact ⟨by rw [upd_ne (Ne.symm n1)]; exact h1, by rw [upd_ne (Ne.symm n2)]; exact h2, h3, c1, gr, cs, lf, tn, k1, k2, k3, k4, k5, k6, by rw [upd_ne (ne_of_none k7 hg)]; exact k7⟩
  cases o with
  | lst h r z => exact ⟨_, key _ h, Ex.new hg, .lst upd_same (r.up (Ex.new hg)) z, fun q e => upd_ne e⟩
  | dct h r z => exact ⟨_, key _ h, Ex.new hg, .dct upd_same (r.up (Ex.new hg)) z, fun q e => upd_ne e⟩
theorem SE.t (h : SE Γ L c te de) : ST Γ L c te de := fun t σ δ B G H l x e hc P hp Q k => h t σ δ B G H l x e hc P hp Q fun v d G' H' a r q => k v d G' H' a (.inl r) q
theorem SF.e (h : SF Γ L c te de) : SE Γ L c te de := fun t σ δ B G H l x e hc P hp Q k => h t σ δ B G H l x e hc P hp Q fun p d G' H' a n o g q => by
  obtain ⟨G2, a2, ex, r, _⟩ := freeze a o n g (l.out n)
  exact k (.ref p) d G2 H' a2 r q
theorem SF.t (h : SF Γ L c te de) : ST Γ L c te de := fun t σ δ B G H l x e hc P hp Q k => h t σ δ B G H l x e hc P hp Q fun p d G' H' a n o g q => k (.ref p) d G' H' a (.inr ⟨p, rfl, o, l.out n⟩) q
theorem SA.t (h : SA Γ L n c tA dA) : SAT Γ L c tA dA := fun t σ δ B G H l x e hc P hp Q k => h t σ δ B G H l x e hc P hp Q fun v d G' H' a r _ q => k v d G' H' a r.t q
/-! ### names, constants -/
def rdS (δ : DS) (i : Nat) : Option D := match δ[i]? with
  | some (some (.sh d)) => some d
  | some (some (.ow d)) => some d
  | _ => none
def shS (δ : DS) (i : Nat) : Option D := match δ[i]? with
  | some (some (.sh d)) => some d
  | _ => none
def dVar (i : Nat) : DE := fun δ P => match rdS δ i with
  | some d => P d
  | none => False
def dVarS (i : Nat) : DE := fun δ P => match shS δ i with
  | some d => P d
  | none => False
def dC (d : D) : DE := fun _ P => P d
theorem rdS_some {δ : DS} {i : Nat} {d : D} (h : rdS δ i = some d) : δ[i]? = some (some (.sh d)) ∨ δ[i]? = some (some (.ow d)) := by
  unfold rdS at h
  split at h
  · cases h; exact .inl (by assumption)
  · cases h; exact .inr (by assumption)
  · cases h
theorem shS_some {δ : DS} {i : Nat} {d : D} (h : shS δ i = some d) : δ[i]? = some (some (.sh d)) := by
  unfold shS at h
  split at h
  · cases h; assumption
  · cases h
theorem s_var (i : Nat) : ST Γ L 0 (tVar i) (dVar i) := fun t σ δ B G H l x e hc P hp Q k => by
  unfold dVar at hp
  split at hp
  · rename_i d hd
    rcases rdS_some hd with h | h
    · obtain ⟨v, hv, r⟩ := e.sh i d h
      exact ⟨v, hv, k v d G H (At.start x l) (.inl r) hp⟩
    · obtain ⟨p, hv, o, _, _, hn⟩ := e.ow i d h
      exact ⟨.ref p, hv, k _ d G H (At.start x l) (.inr ⟨p, rfl, o, hn⟩) hp⟩
  · exact hp.elim
theorem s_varS (i : Nat) : SE Γ L 0 (tVar i) (dVarS i) := fun t σ δ B G H l x e hc P hp Q k => by
  unfold dVarS at hp
  split at hp
  · rename_i d hd
    obtain ⟨v, hv, r⟩ := e.sh i d (shS_some hd)
    exact ⟨v, hv, k v d G H (At.start x l) r hp⟩
  · exact hp.elim
theorem s_c {v : V} {d : D} (r : ∀ G, Rep Γ L G v d) : SE Γ L 0 (tC v) (dC d) := fun t σ δ B G H l x e hc P hp Q k => k v d G H (At.start x l) (r G) hp
/-! ### operators -/
def OpS (Γ : Cn) (L : LS) (r : R2) (f : D → D → Option D) : Prop := ∀ (t : Nat) (G H : Hp) (x y : V) (dx dy z : D), LawAt L t G H → Exf G H → RepT Γ L G H x dx → RepT Γ L G H y dy → f dx dy = some z → ∀ Q : VK,
  (∀ v G' H', At L t H G G' H' → Rep Γ L G' v z → Q v H') → r x y H Q
def dOp (f : D → D → Option D) (da db : DE) : DE := fun δ P => da δ fun x => db δ fun y => match f x y with
  | some z => P z
  | none => False
theorem s_op {r : R2} {f : D → D → Option D} (ho : OpS Γ L r f) (ha : ST Γ L c1 ta da) (hb : ST Γ L c2 tb db) : SE Γ L (c1 + c2) (tOp r ta tb) (dOp f da db) := fun t σ δ B G H l x e hc P hp Q k => by
  refine ha t σ δ B G H l x e (by omega) _ hp _ fun v d G1 H1 a1 r1 q1 => ?_
  refine hb (t + c1) σ δ B G1 H1 a1.lw a1.gh (e.step a1) (by omega) _ q1 _ fun w d2 G2 H2 a2 r2 q2 => ?_
  split at q2
  · rename_i z hz
    refine ho (t + c1 + c2) G2 H2 v w d d2 z a2.lw a2.gh (r1.step a2) r2 hz Q fun u G3 H3 a3 r3 => ?_
    have a := (a1.tr a2).tr a3
    exact k u z G3 H3 (by rw [← Nat.add_assoc]; exact a) r3 q2
  · exact q2.elim
def UnS (Γ : Cn) (L : LS) (r : V → Hp → VK → Prop) (f : D → Option D) : Prop := ∀ (t : Nat) (G H : Hp) (x : V) (dx z : D), LawAt L t G H → Exf G H → RepT Γ L G H x dx → f dx = some z → ∀ Q : VK,
  (∀ v G' H', At L t H G G' H' → Rep Γ L G' v z → Q v H') → r x H Q
def dUn (f : D → Option D) (da : DE) : DE := fun δ P => da δ fun x => match f x with
  | some z => P z
  | none => False
theorem s_un {r : V → Hp → VK → Prop} {f : D → Option D} (ho : UnS Γ L r f) (ha : ST Γ L c ta da) : SE Γ L c (tUn r ta) (dUn f da) := fun t σ δ B G H l x e hc P hp Q k => by
  refine ha t σ δ B G H l x e hc _ hp _ fun v d G1 H1 a1 r1 q1 => ?_
  split at q1
  · rename_i z hz
    exact ho (t + c) G1 H1 v d z a1.lw a1.gh r1 hz Q fun u G3 H3 a3 r3 => k u z G3 H3 (a1.tr a3) r3 q1
  · exact q1.elim
/-! ### tests -/
def dTest (de : DE) : DT := fun δ P => de δ fun d => match d with
  | .bl b => P b
  | _ => False
theorem bl_of {G H : Hp} {v : V} {b : Bool} (h : RepT Γ L G H v (.bl b)) : v = .bl b := by
  rcases h with h | ⟨p, rfl, h, _⟩
  · cases h; rfl
  · cases h
theorem s_test (h : ST Γ L c te de) : SB Γ L c (tTest te) (dTest de) := fun t σ δ B G H l x e hc P hp Q k => by
  refine h t σ δ B G H l x e hc _ hp _ fun v d G1 H1 a1 r1 q1 => ?_
  cases d with
  | bl b => exact ⟨b, bl_of r1, k b G1 H1 a1 q1⟩
  | _ => exact q1.elim
def dAnd (t u : DT) : DT := fun δ P => t δ fun b => if b = true then u δ P else P false
def dOr (t u : DT) : DT := fun δ P => t δ fun b => if b = true then P true else u δ P
def dNot (t : DT) : DT := fun δ P => t δ fun b => P (!b)
theorem s_and (h1 : SB Γ L c1 tt dt) (h2 : SB Γ L c2 tu du) : SB Γ L (c1 + c2) (tAnd tt tu) (dAnd dt du) := fun t σ δ B G H l x e hc P hp Q k => by
  refine h1 t σ δ B G H l x e (by omega) _ hp _ fun b G1 H1 a1 q1 => ?_
  cases b with
  | true => exact h2 (t + c1) σ δ B G1 H1 a1.lw a1.gh (e.step a1) (by omega) P q1 Q fun b2 G2 H2 a2 q2 => k b2 G2 H2 (by rw [← Nat.add_assoc]; exact a1.tr a2) q2
  | false => exact k false G1 H1 (a1.le (by omega)) q1
theorem s_or (h1 : SB Γ L c1 tt dt) (h2 : SB Γ L c2 tu du) : SB Γ L (c1 + c2) (tOr tt tu) (dOr dt du) := fun t σ δ B G H l x e hc P hp Q k => by
  refine h1 t σ δ B G H l x e (by omega) _ hp _ fun b G1 H1 a1 q1 => ?_
  cases b with
  | false => exact h2 (t + c1) σ δ B G1 H1 a1.lw a1.gh (e.step a1) (by omega) P q1 Q fun b2 G2 H2 a2 q2 => k b2 G2 H2 (by rw [← Nat.add_assoc]; exact a1.tr a2) q2
  | true => exact k true G1 H1 (a1.le (by omega)) q1
theorem s_not (h1 : SB Γ L c tt dt) : SB Γ L c (tNot tt) (dNot dt) := fun t σ δ B G H l x e hc P hp Q k => h1 t σ δ B G H l x e hc _ hp _ fun b G1 H1 a1 q1 => k (!b) G1 H1 a1 q1
def dAndV (a b : DE) : DE := fun δ P => a δ fun d => match d with
  | .bl x => if x = true then b δ P else P (.bl false)
  | _ => False
def dOrV (a b : DE) : DE := fun δ P => a δ fun d => match d with
  | .bl x => if x = true then P (.bl true) else b δ P
  | _ => False
def dNotV (a : DE) : DE := fun δ P => a δ fun d => match d with
  | .bl x => P (.bl (!x))
  | _ => False
theorem s_andV (ha : ST Γ L c1 ta da) (hb : SE Γ L c2 tb db) : SE Γ L (c1 + c2) (tAndV ta tb) (dAndV da db) := fun t σ δ B G H l x e hc P hp Q k => by
  refine ha t σ δ B G H l x e (by omega) _ hp _ fun v d G1 H1 a1 r1 q1 => ?_
  cases d with
  | bl b =>
    refine ⟨b, bl_of r1, ?_⟩
    cases b with
    | true => exact hb (t + c1) σ δ B G1 H1 a1.lw a1.gh (e.step a1) (by omega) P q1 Q fun v2 d2 G2 H2 a2 r2 q2 => k v2 d2 G2 H2 (by rw [← Nat.add_assoc]; exact a1.tr a2) r2 q2
    | false => exact k _ _ G1 H1 (a1.le (by omega)) (.bl false) q1
  | _ => exact q1.elim
theorem s_orV (ha : ST Γ L c1 ta da) (hb : SE Γ L c2 tb db) : SE Γ L (c1 + c2) (tOrV ta tb) (dOrV da db) := fun t σ δ B G H l x e hc P hp Q k => by
  refine ha t σ δ B G H l x e (by omega) _ hp _ fun v d G1 H1 a1 r1 q1 => ?_
  cases d with
  | bl b =>
    refine ⟨b, bl_of r1, ?_⟩
    cases b with
    | false => exact hb (t + c1) σ δ B G1 H1 a1.lw a1.gh (e.step a1) (by omega) P q1 Q fun v2 d2 G2 H2 a2 r2 q2 => k v2 d2 G2 H2 (by rw [← Nat.add_assoc]; exact a1.tr a2) r2 q2
    | true => exact k _ _ G1 H1 (a1.le (by omega)) (.bl true) q1
  | _ => exact q1.elim
theorem s_notV (ha : ST Γ L c ta da) : SE Γ L c (tNotV ta) (dNotV da) := fun t σ δ B G H l x e hc P hp Q k => by
  refine ha t σ δ B G H l x e (by omega) _ hp _ fun v d G1 H1 a1 r1 q1 => ?_
  cases d with
  | bl b => exact ⟨b, bl_of r1, k _ _ G1 H1 a1 (.bl _) q1⟩
  | _ => exact q1.elim
def dIf (t : DT) (a b : DE) : DE := fun δ P => t δ fun x => if x = true then a δ P else b δ P
theorem s_if' (h : SB Γ L c1 tt dt) (ha : SE Γ L c2 ta da) (hb : SE Γ L c3 tb db) : SE Γ L (c1 + (c2 + c3)) (tIf tt ta tb) (dIf dt da db) := fun t σ δ B G H l x e hc P hp Q k => by
  refine h t σ δ B G H l x e (by omega) _ hp _ fun b G1 H1 a1 q1 => ?_
  cases b with
  | true => exact ha (t + c1) σ δ B G1 H1 a1.lw a1.gh (e.step a1) (by omega) P q1 Q fun v d G2 H2 a2 r2 q2 => k v d G2 H2 ((a1.tr a2).le (by omega)) r2 q2
  | false => exact hb (t + c1) σ δ B G1 H1 a1.lw a1.gh (e.step a1) (by omega) P q1 Q fun v d G2 H2 a2 r2 q2 => k v d G2 H2 ((a1.tr a2).le (by omega)) r2 q2
/-! ### arguments, displays -/
def dNil : DA := fun _ P => P []
def dCons (a : DE) (r : DA) : DA := fun δ P => a δ fun x => r δ fun xs => P (x :: xs)
variable {tA : TA} {dA : DA}
theorem s_nil : SA Γ L 0 0 tNil dNil := fun t σ δ B G H l x e hc P hp Q k => k [] [] G H (At.start x l) .nil rfl hp
theorem s_cons (ha : SE Γ L c1 ta da) (hr : SA Γ L n c2 tA dA) : SA Γ L (n + 1) (c1 + c2) (tCons ta tA) (dCons da dA) := fun t σ δ B G H l x e hc P hp Q k => by
  refine ha t σ δ B G H l x e (by omega) _ hp _ fun v d G1 H1 a1 r1 q1 => ?_
  exact hr (t + c1) σ δ B G1 H1 a1.lw a1.gh (e.step a1) (by omega) _ q1 _ fun vs ds G2 H2 a2 r2 hl q2 => k (v :: vs) (d :: ds) G2 H2 (by rw [← Nat.add_assoc]; exact a1.tr a2) (.cons (r1.up a2.gg) r2) (by rw [List.length_cons, hl]) q2
theorem s_nilT : SAT Γ L 0 tNil dNil := fun t σ δ B G H l x e hc P hp Q k => k [] [] G H (At.start x l) .nil hp
theorem s_consT (ha : ST Γ L c1 ta da) (hr : SAT Γ L c2 tA dA) : SAT Γ L (c1 + c2) (tCons ta tA) (dCons da dA) := fun t σ δ B G H l x e hc P hp Q k => by
  refine ha t σ δ B G H l x e (by omega) _ hp _ fun v d G1 H1 a1 r1 q1 => ?_
  exact hr (t + c1) σ δ B G1 H1 a1.lw a1.gh (e.step a1) (by omega) _ q1 _ fun vs ds G2 H2 a2 r2 q2 => k (v :: vs) (d :: ds) G2 H2 (by rw [← Nat.add_assoc]; exact a1.tr a2) (.cons (r1.step a2) r2) q2
theorem lim_size {n : Nat} (h : n ≤ LIM) : n ≤ sizeLine := Nat.le_trans h (by rw [sizeLine_eq]; decide)
def dTup (a : DA) : DE := fun δ P => a δ fun ds => P (.tup ds)
def dLst (a : DA) : DE := fun δ P => a δ fun ds => P (.lst ds)
theorem s_tup (h : SA Γ L n c tA dA) (hn : n ≤ LIM := by decide) : SE Γ L c (tTup tA) (dTup dA) := fun t σ δ B G H l x e hc P hp Q k => by
  refine h t σ δ B G H l x e hc _ hp _ fun vs ds G1 H1 a1 r1 hl q1 => ⟨lim_size (by rw [r1.len, hl]; exact hn), fun p np => ?_⟩
  have a2 := At.new (o := .tup vs) a1.gh a1.lw np
  exact k _ _ _ _ (a1.tr a2) (.tup (.inl upd_same) (r1.up a2.gg) (by rw [hl]; exact hn)) q1
theorem s_lst (h : SA Γ L n c tA dA) (hn : n ≤ LIM := by decide) : SF Γ L c (tLst tA) (dLst dA) := fun t σ δ B G H l x e hc P hp Q k => by
  refine h t σ δ B G H l x e hc _ hp _ fun vs ds G1 H1 a1 r1 hl q1 => ⟨lim_size (by rw [r1.len, hl]; exact hn), fun p np => ?_⟩
  have a2 := At.newH (o := .lst vs) a1.gh a1.lw np
  have np0 : H p = none := by
    cases z : H p with
    | none => rfl
    | some o => rw [a1.bh p o z (a1.lw.out np)] at np; cases np
  exact k p _ _ _ (a1.tr a2) np0 (.lst upd_same r1 (by rw [hl]; exact hn)) (a1.gh.none np) q1
def dNewD : DE := fun _ P => P (.dct [])
theorem s_newD : SF Γ L 0 tDNewK dNewD := fun t σ δ B G H l x e hc P hp Q k => fun p np =>
  k p _ _ _ (At.newH x l np) np (.dct upd_same .nil (by decide)) (x.none np) hp
/-! ### built-in calls -/
def CallS (Γ : Cn) (L : LS) (r : List V → Hp → VK → Prop) (f : List D → Option D) : Prop := ∀ (t : Nat) (G H : Hp) (xs : List V) (ds : List D) (z : D), LawAt L t G H → Exf G H → RepTL Γ L G H xs ds → f ds = some z → ∀ Q : VK,
  (∀ v G' H', At L t H G G' H' → Rep Γ L G' v z → Q v H') → r xs H Q
def dCB (f : List D → Option D) (a : DA) : DE := fun δ P => a δ fun ds => match f ds with
  | some z => P z
  | none => False
theorem s_cb {r : List V → Hp → VK → Prop} {f : List D → Option D} (ho : CallS Γ L r f) (ha : SAT Γ L c tA dA) : SE Γ L c (tCB r tA) (dCB f dA) := fun t σ δ B G H l x e hc P hp Q k => by
  refine ha t σ δ B G H l x e hc _ hp _ fun vs ds G1 H1 a1 r1 q1 => ?_
  split at q1
  · rename_i z hz
    exact ho (t + c) G1 H1 vs ds z a1.lw a1.gh r1 hz Q fun u G3 H3 a3 r3 => k u z G3 H3 (a1.tr a3) r3 q1
  · exact q1.elim
/-- .. that make a new list or dict -/
def CallF (Γ : Cn) (L : LS) (r : List V → Hp → VK → Prop) (f : List D → Option D) : Prop := ∀ (t : Nat) (G H : Hp) (xs : List V) (ds : List D) (z : D), LawAt L t G H → Exf G H → RepTL Γ L G H xs ds → f ds = some z → ∀ Q : VK,
  (∀ p G' H', At L t H G G' H' → H p = none → OwnAt Γ L G' H' p z → G' p = none → Q (.ref p) H') → r xs H Q
theorem s_cbF {r : List V → Hp → VK → Prop} {f : List D → Option D} (ho : CallF Γ L r f) (ha : SAT Γ L c tA dA) : SF Γ L c (tCB r tA) (dCB f dA) := fun t σ δ B G H l x e hc P hp Q k => by
  refine ha t σ δ B G H l x e hc _ hp _ fun vs ds G1 H1 a1 r1 q1 => ?_
  split at q1
  · rename_i z hz
    refine ho (t + c) G1 H1 vs ds z a1.lw a1.gh r1 hz Q fun p G3 H3 a3 np o g => k p z G3 H3 (a1.tr a3) ?_ o g q1
    cases z : H p with
    | none => rfl
    | some o => rw [a1.bh p o z (a1.lw.out np)] at np; cases np
  · exact q1.elim
/-! ### calls of defs -/
/-- a def's promise over data: with these arguments each result fulfils P -/
abbrev DSp := List D → (D → Prop) → Prop
def lift (Γ : Cn) (n c : Nat) (s : DSp) : Sp := fun vs H Q _ => vs.length = n ∧ ∃ (L : LS) (t : Nat) (ds : List D) (G : Hp) (P : D → Prop), LawAt L t G H ∧ t + c ≤ TMAX ∧ Exf G H ∧ RepL Γ L G vs ds ∧ s ds P ∧
  ∀ r, P r → ∀ v G' H', At L (t + c) H G G' H' → Rep Γ L G' v r → Q v H'
def dFn (s : DSp) (a : DA) : DE := fun δ P => a δ fun ds => s ds P
theorem s_fn {s : DSp} {cf : Nat} {E : XK} (ha : SA Γ L n c tA dA) : SE Γ L (c + cf) (tFn (lift Γ n cf s) E tA) (dFn s dA) := fun t σ δ B G H l x e hc P hp Q k => by
  refine ha t σ δ B G H l x e (by omega) _ hp _ fun vs ds G1 H1 a1 r1 hl q1 => ⟨by rw [r1.len, hl], L, t + c, ds, G1, P, a1.lw, by omega, a1.gh, r1, q1, fun r hr v G2 H2 a2 r2 => ?_⟩
  exact k v r G2 H2 (by rw [← Nat.add_assoc]; exact a1.tr a2) r2 hr
end
end GP

set_option Elab.async false
set_option linter.all false
set_option maxRecDepth 100000
set_option maxHeartbeats 4000000
/-! G4: statements over data: assignments, if, loops, comprehensions. -/
namespace GP
open PySem PySem.Spec PyProof.Rows L2
section
variable {Γ : Cn} {L : LS} {c c1 c2 c3 n : Nat} {te ta tb : TE} {de da db : DE} {tt tu : TT} {dt du : DT} {ts tv : TS} {ds dv : DQ}
theorem At.env {t u : Nat} {B G0 G H G' H' : Hp} {σ : L2.St} {δ : DS} (a : At L t B G0 G H) (e : Env Γ L B G H σ δ) (b : At L u H G G' H') : At L u B G0 G' H' ∧ Env Γ L B G' H' σ δ := ⟨a.tr b, e.step b⟩
theorem EndsOf.le {T T' : Nat} {B G0 : Hp} {N : DN} {D : Ends} (h : EndsOf Γ L T B G0 N D) (l : T' ≤ T) : EndsOf Γ L T' B G0 N D :=
  ⟨fun σ δ G H a => h.nx σ δ G H (a.le l), fun v d G H a => h.rt v d G H (a.le l), fun σ δ G H a => h.bk σ δ G H (a.le l), fun σ δ G H a => h.ct σ δ G H (a.le l)⟩
/-- what was not there at a later point was not there ahead of it -/
theorem At.old {t : Nat} {B G0 G H : Hp} {p : Addr} (a : At L t B G0 G H) (n : H p = none) : B p = none := by
  cases z : B p with
  | none => rfl
  | some o => rw [a.bh p o z (a.lw.out n)] at n; cases n
def dNext : DQ := fun N δ => N.nx δ
def dSeq (a b : DQ) : DQ := fun N δ => a { N with nx := b N } δ
theorem s_next : SS Γ L 0 tNext dNext := fun t σ δ B G0 G H a e hc N h D E => E.nx σ δ G H a e h
theorem s_seq (h1 : SS Γ L c1 ts ds) (h2 : SS Γ L c2 tv dv) : SS Γ L (c1 + c2) (tSeq ts tv) (dSeq ds dv) := fun t σ δ B G0 G H a e hc N h D E => by
  refine h1 t σ δ B G0 G H a e (by omega) _ h _ ⟨fun σ1 δ1 G1 H1 a1 e1 q => ?_, fun v d G1 H1 a1 => E.rt v d G1 H1 (a1.le (by omega)), fun σ1 δ1 G1 H1 a1 => E.bk σ1 δ1 G1 H1 (a1.le (by omega)), fun σ1 δ1 G1 H1 a1 => E.ct σ1 δ1 G1 H1 (a1.le (by omega))⟩
  exact h2 (t + c1) σ1 δ1 B G0 G1 H1 a1 e1 (by omega) N q D (by rw [Nat.add_assoc]; exact E)
def dAsg (d : DE) (i : Nat) : DQ := fun N δ => d δ fun x => N.nx (δ.set i (some (.sh x)))
def dAsgO (d : DE) (i : Nat) : DQ := fun N δ => d δ fun x => N.nx (δ.set i (some (.ow x)))
theorem s_asg (i : Nat) (h : SE Γ L c te de) : SS Γ L c (tAsg te (gName i)) (dAsg de i) := fun t σ δ B G0 G H a e hc N hp D E =>
  h t σ δ B G H a.lw a.gh e hc _ hp _ fun v d G1 H1 a1 r1 q => E.nx _ _ G1 H1 (a.tr a1) ((e.step a1).set i r1) q
theorem Env.fresh {B G H : Hp} {σ : L2.St} {δ : DS} {p : Addr} (e : Env Γ L B G H σ δ) (n : H p = none) (j : Nat) (x : D) (h : δ[j]? = some (some (.ow x))) : σ[j]? ≠ some (some (.ref p)) := fun z => by
  obtain ⟨q, hq, o, _⟩ := e.ow j x h
  rw [z] at hq
  cases hq
  obtain ⟨u, hu⟩ := o.there
  rw [n] at hu; cases hu
theorem s_asgO (i : Nat) (h : SF Γ L c te de) : SS Γ L c (tAsg te (gName i)) (dAsgO de i) := fun t σ δ B G0 G H a e hc N hp D E =>
  h t σ δ B G H a.lw a.gh e hc _ hp _ fun p d G1 H1 a1 np o g q => E.nx _ _ G1 H1 (a.tr a1) ((e.step a1).own i o (a.old np) g (a.lw.out np) fun j x hj hx => e.fresh np j x hx) q
def dDrop (d : DE) : DQ := fun N δ => d δ fun _ => N.nx δ
theorem s_drop (h : ST Γ L c te de) : SS Γ L c (tDrop te) (dDrop de) := fun t σ δ B G0 G H a e hc N hp D E =>
  h t σ δ B G H a.lw a.gh e hc _ hp _ fun v d G1 H1 a1 r1 q => E.nx _ _ G1 H1 (a.tr a1) (e.step a1) q
def dRet (d : DE) : DQ := fun N δ => d δ N.rt
theorem s_ret (h : SE Γ L c te de) : SS Γ L c (tRet te) (dRet de) := fun t σ δ B G0 G H a e hc N hp D E =>
  h t σ δ B G H a.lw a.gh e hc _ hp _ fun v d G1 H1 a1 r1 q => E.rt v d G1 H1 (a.tr a1) r1 q
def dRetN : DQ := fun N _ => N.rt .non
theorem s_retN : SS Γ L 0 tRetN dRetN := fun t σ δ B G0 G H a e hc N hp D E => E.rt .non .non G H a .non hp
/-- return of a name that may be owned -/
theorem s_retV (i : Nat) : SS Γ L 0 (tRet (tVar i)) (dRet (dVar i)) := fun t σ δ B G0 G H a e hc N hp D E => by
  have hp : dVar i δ N.rt := hp
  unfold dVar at hp
  split at hp
  · rename_i d hd
    rcases rdS_some hd with h | h
    · obtain ⟨v, hv, r⟩ := e.sh i d h
      exact ⟨v, hv, E.rt v d G H a r hp⟩
    · obtain ⟨p, hv, o, hb, hg, hn⟩ := e.ow i d h
      obtain ⟨G2, a2, ex, r, _⟩ := freeze a o hb hg hn
      exact ⟨.ref p, hv, E.rt _ d G2 H a2 r hp⟩
  · exact hp.elim
def dIfS (t : DT) (a b : DQ) : DQ := fun N δ => t δ fun x => if x = true then a N δ else b N δ
theorem s_if (h : SB Γ L c1 tt dt) (h1 : SS Γ L c2 ts ds) (h2 : SS Γ L c3 tv dv) : SS Γ L (c1 + (c2 + c3)) (tIfS tt ts tv) (dIfS dt ds dv) := fun t σ δ B G0 G H a e hc N hp D E => by
  refine h t σ δ B G H a.lw a.gh e (by omega) _ hp _ fun b G1 H1 a1 q => ?_
  cases b with
  | true => exact h1 (t + c1) σ δ B G0 G1 H1 (a.tr a1) (e.step a1) (by omega) N q D (E.le (by omega))
  | false => exact h2 (t + c1) σ δ B G0 G1 H1 (a.tr a1) (e.step a1) (by omega) N q D (E.le (by omega))
theorem s_never : SS Γ L 0 tNever (fun _ _ => False) := fun t σ δ B G0 G H a e hc N hp D E => hp.elim
/-- a ghost step: what a slot owns becomes stable -/
def frz (δ : DS) (i : Nat) : DS := match δ[i]? with
  | some (some (.ow d)) => δ.set i (some (.sh d))
  | _ => δ
theorem Env.frz {t : Nat} {B G0 G H : Hp} {σ : L2.St} {δ : DS} (a : At L t B G0 G H) (e : Env Γ L B G H σ δ) (i : Nat) : ∃ G', At L t B G0 G' H ∧ Env Γ L B G' H σ (frz δ i) := by
  unfold GP.frz
  split
  · rename_i d hd
    obtain ⟨p, hv, o, hb, hg, hn⟩ := e.ow i d hd
    obtain ⟨G2, a2, ex, r, ot⟩ := freeze a o hb hg hn
    refine ⟨G2, a2, fun j x h => ?_, fun j x h => ?_, fun j k x y q hjk h1 h2 h3 h4 => ?_, by rw [List.length_set]; exact e.len⟩
    · by_cases z : i = j
      · subst z
        rw [List.getElem?_set] at h
        by_cases l : i < δ.length
        · simp [l] at h; subst h; exact ⟨_, hv, r⟩
        · simp [l] at h
      · rw [List.getElem?_set_ne z] at h
        obtain ⟨v, h1, h2⟩ := e.sh j x h
        exact ⟨v, h1, h2.up ex⟩
    · by_cases z : i = j
      · subst z
        rw [List.getElem?_set] at h
        by_cases l : i < δ.length <;> simp [l] at h
      · rw [List.getElem?_set_ne z] at h
        obtain ⟨q, h1, h2, h3, h4, h5⟩ := e.ow j x h
        have npq : q ≠ p := fun y => by subst y; exact e.dj i j d x q z hd h hv h1
        refine ⟨q, h1, ?_, h3, by rw [ot q npq]; exact h4, h5⟩
        cases h2 with
        | lst u r z => exact .lst u (r.up ex) z
        | dct u r z => exact .dct u (r.up ex) z
    · have zj : i ≠ j := fun z => by
        subst z
        rw [List.getElem?_set] at h1
        by_cases l : i < δ.length <;> simp [l] at h1
      have zk : i ≠ k := fun z => by
        subst z
        rw [List.getElem?_set] at h2
        by_cases l : i < δ.length <;> simp [l] at h2
      rw [List.getElem?_set_ne zj] at h1
      rw [List.getElem?_set_ne zk] at h2
      exact e.dj j k x y q hjk h1 h2 h3 h4
  · exact ⟨G, a, e⟩
def dFrz (i : Nat) (d : DQ) : DQ := fun N δ => d N (frz δ i)
theorem s_frz (i : Nat) (h : SS Γ L c ts ds) : SS Γ L c ts (dFrz i ds) := fun t σ δ B G0 G H a e hc N hp D E => by
  obtain ⟨G2, a2, e2⟩ := Env.frz a e i
  exact h t σ (frz δ i) B G0 G2 H a2 e2 hc N hp D E
/-! ### a list that a slot owns grows -/
theorem Env.write {B G H : Hp} {σ : L2.St} {δ : DS} {p : Addr} {d d' : D} {o : HO} {i : Nat} (e : Env Γ L B G H σ δ) (h : δ[i]? = some (some (.ow d))) (hv : σ[i]? = some (some (.ref p))) (w : OwnAt Γ L G (upd H p o) p d') : Env Γ L B G (upd H p o) σ (δ.set i (some (.ow d'))) := by
  obtain ⟨q, hq, ho, hb, hg, hn⟩ := e.ow i d h
  rw [hv] at hq; cases hq
  refine ⟨fun j x h' => ?_, fun j x h' => ?_, fun j k x y q hjk h1 h2 h3 h4 => ?_, by rw [List.length_set]; exact e.len⟩
  · by_cases z : i = j
    · subst z
      rw [List.getElem?_set] at h'
      by_cases l : i < δ.length <;> simp [l] at h'
    · rw [List.getElem?_set_ne z] at h'; exact e.sh j x h'
  · by_cases z : i = j
    · subst z
      rw [List.getElem?_set] at h'
      by_cases l : i < δ.length
      · simp [l] at h'; subst h'; exact ⟨p, hv, w, hb, hg, hn⟩
      · simp [l] at h'
    · rw [List.getElem?_set_ne z] at h'
      obtain ⟨q, h1, h2, h3, h4, h5⟩ := e.ow j x h'
      have npq : q ≠ p := fun y => by subst y; exact e.dj i j d x q z h h' hv h1
      refine ⟨q, h1, ?_, h3, h4, h5⟩
      cases h2 with
      | lst u r z => exact .lst (by rw [upd_ne npq]; exact u) r z
      | dct u r z => exact .dct (by rw [upd_ne npq]; exact u) r z
  · have f : ∀ (m : Nat) (w : D), (δ.set i (some (.ow d')))[m]? = some (some (.ow w)) → ∃ w', δ[m]? = some (some (.ow w')) := fun m w hm => by
      by_cases z : i = m
      · subst z; exact ⟨d, h⟩
      · rw [List.getElem?_set_ne z] at hm; exact ⟨w, hm⟩
    obtain ⟨x', h1'⟩ := f j x h1
    obtain ⟨y', h2'⟩ := f k y h2
    exact e.dj j k x' y' q hjk h1' h2' h3 h4
theorem At.write {t : Nat} {B G0 G H : Hp} {p : Addr} {o : HO} (a : At L t B G0 G H) (hb : B p = none) (hg : G p = none) (hn : notL L p) : At L t B G0 G (upd H p o) := by
  refine ⟨a.gg, fun x u h => ?_, fun x u h n => ?_, a.nw, fun q g e => ?_⟩
  · rw [upd_ne (fun z => by subst z; rw [hg] at h; cases h)]; exact a.gh x u h
  · rw [upd_ne (ne_of_none h hb)]; exact a.bh x u h n
  · obtain ⟨h1, h2, h3, c1, gr, cs, lf, tn, k1, k2, k3, k4, k5, k6, k7⟩ := a.lw q g e
    obtain ⟨n1, n2⟩ := hn q g e
    exact ⟨h1, h2, h3, c1, gr, cs, lf, tn, by rw [upd_ne (Ne.symm n1)]; exact k1, by rw [upd_ne (Ne.symm n2)]; exact k2, k3, k4, k5, k6, k7⟩
def dApp (i : Nat) (d : DE) : DQ := fun N δ => match δ[i]? with
  | some (some (.ow (.lst xs))) => d δ fun x => xs.length < LIM ∧ N.nx (δ.set i (some (.ow (.lst (xs ++ [x])))))
  | _ => False
theorem s_app (i : Nat) (h : SE Γ L c te de) : SS Γ L c (tDrop (tBM Γ.K "list" rAppend (tVar i) (tCons te tNil))) (dApp i de) := fun t σ δ B G0 G H a e hc N hp D E => by
  unfold dApp at hp
  split at hp
  · rename_i xs hs
    obtain ⟨p, hv, o, hb, hg, hn⟩ := e.ow i _ hs
    refine ⟨.ref p, hv, ?_⟩
    cases o with
    | lst hl r z =>
      rename_i ys
      refine ⟨.inl ⟨rfl, _, SqL.of hl⟩, h t σ δ B G H a.lw a.gh e hc _ hp _ fun v d G1 H1 a1 r1 q => ?_⟩
      obtain ⟨q1, q2⟩ := q
      have e1 := e.step a1
      obtain ⟨p1, hv1, o1, _, hg1, _⟩ := e1.ow i _ hs
      rw [hv] at hv1; cases hv1
      refine ⟨p, ys, v, rfl, rfl, a1.bh p _ hl hn, ?_, ?_⟩
      · have hlen := r.len
        have : ys.length < LIM := by omega
        exact Nat.lt_of_lt_of_le this (lim_size (Nat.le_refl _))
      · refine E.nx _ _ G1 _ ((a.tr a1).write hb hg1 hn) (e1.write hs hv (.lst upd_same ((r.up a1.gg).app (.cons r1 .nil)) ?_)) q2
        rw [List.length_append]; show xs.length + 1 ≤ LIM; omega
  · exact hp.elim
/-! ### what is walked -/
/-- the iterator goes through the items, while what is stable stays (kp: and all else that stood) -/
structure ItsOf (Γ : Cn) (L : LS) (kp : Prop) (J : It) (items : List D) (G1 H1 : Hp) : Prop where
  lim : items.length ≤ LIM
  go : ∀ (i : Nat) (G H : Hp), i < items.length → Ex G1 G → Exf G H → (kp → ∀ a o, H1 a = some o → notL L a → H a = some o) → J.go i H
  st : ∀ (G H : Hp), Ex G1 G → Exf G H → (kp → ∀ a o, H1 a = some o → notL L a → H a = some o) → J.stop items.length H
  yl : ∀ (t i : Nat) (x : V) (d : D) (G H H' : Hp), items[i]? = some d → LawAt L t G H → Ex G1 G → Exf G H → (kp → ∀ a o, H1 a = some o → notL L a → H a = some o) → J.yld i H x H' → ∃ G', At L t H G G' H' ∧ Rep Γ L G' x d
abbrev DI := DS → (List D → Prop) → Prop
def SI (Γ : Cn) (L : LS) (kp : Prop) (c : Nat) (wi : TI) (di : DI) : Prop := ∀ (t : Nat) (σ : L2.St) (δ : DS) (B G H : Hp), LawAt L t G H → Exf G H → Env Γ L B G H σ δ → t + c ≤ TMAX → ∀ P : List D → Prop, di δ P → ∀ R : It → Hp → Prop,
  (∀ J items G' H', At L (t + c) H G G' H' → ItsOf Γ L kp J items G' H' → P items → R J H') → wi σ H R
def SG (Γ : Cn) (L : LS) (g : TG) (dg : DG) (sl : List Nat) : Prop := ∀ (t : Nat) (σ : L2.St) (δ : DS) (B G H : Hp) (x : V) (d : D), LawAt L t G H → Exf G H → Env Γ L B G H σ δ → Rep Γ L G x d → ∀ P : DS → Prop, dg d δ P → ∀ Q : L2.St → Hp → Prop,
  (∀ σ' δ', Env Γ L B G H σ' δ' → (∀ vs, (∀ i ∈ sl, i ∈ vs) → wipe σ' vs = wipe σ vs) → P δ' → Q σ' H) → g x σ H Q
theorem wipe_set {σ : L2.St} {v : Option V} {i : Nat} : ∀ {vs : List Nat}, i ∈ vs → wipe (σ.set i v) vs = wipe σ vs
  | j :: vs, h => by
    unfold wipe
    by_cases z : i = j
    · subst z
      by_cases m : i ∈ vs
      · rw [wipe_set m]
      · have e : wipe (σ.set i v) vs = (wipe σ vs).set i v := by
          clear h
          induction vs with
          | nil => rfl
          | cons k vs ih =>
            have n1 : i ≠ k := fun y => m (by rw [y]; exact List.mem_cons_self)
            have n2 : i ∉ vs := fun y => m (List.mem_cons_of_mem _ y)
            show (wipe (σ.set i v) vs).set k none = ((wipe σ vs).set k none).set i v
            rw [ih n2, List.set_comm _ _ n1]
        rw [e, List.set_set]
    · rw [wipe_set ((List.mem_cons.mp h).resolve_left z)]
def dName (i : Nat) : DG := fun d δ P => P (δ.set i (some (.sh d)))
theorem s_name (i : Nat) : SG Γ L (gName i) (dName i) [i] := fun t σ δ B G H x d l ex e r P hp Q k => k _ _ (e.set i r) (fun vs h => wipe_set (h i (List.mem_singleton.mpr rfl))) hp
/-- a, b = .. of a pair -/
def dTup2 (i j : Nat) : DG := fun d δ P => match d with
  | .tup [x, y] => P ((δ.set i (some (.sh x))).set j (some (.sh y)))
  | _ => False
theorem s_tup2 (i j : Nat) : SG Γ L (gTup Γ.K 2 (gCons (gName i) (gCons (gName j) gNil))) (dTup2 i j) [i, j] := fun t σ δ B G H x d l ex e r P hp Q k => by
  unfold dTup2 at hp
  split at hp
  · rename_i u w
    cases r with
    | tup h rl z =>
      cases rl with
      | cons r1 rl => cases rl with
        | cons r2 rl =>
          cases rl
          refine ⟨_, _, rfl, (ex.tp h).sq, rfl, _, _, rfl, _, _, rfl, rfl, ?_⟩
          refine k _ _ ((e.set i r1).set j r2) (fun vs hv => ?_) hp
          rw [wipe_set (hv j (by simp)), wipe_set (hv i (by simp))]
  · exact hp.elim
def dTup3 (i j m : Nat) : DG := fun d δ P => match d with
  | .tup [x, y, z] => P (((δ.set i (some (.sh x))).set j (some (.sh y))).set m (some (.sh z)))
  | _ => False
theorem s_tup3 (i j m : Nat) : SG Γ L (gTup Γ.K 3 (gCons (gName i) (gCons (gName j) (gCons (gName m) gNil)))) (dTup3 i j m) [i, j, m] := fun t σ δ B G H x d l ex e r P hp Q k => by
  unfold dTup3 at hp
  split at hp
  · rename_i u w q
    cases r with
    | tup h rl z =>
      cases rl with
      | cons r1 rl => cases rl with
        | cons r2 rl => cases rl with
          | cons r3 rl =>
            cases rl
            refine ⟨_, _, rfl, (ex.tp h).sq, rfl, _, _, rfl, _, _, rfl, _, _, rfl, rfl, ?_⟩
            refine k _ _ (((e.set i r1).set j r2).set m r3) (fun vs hv => ?_) hp
            rw [wipe_set (hv m (by simp)), wipe_set (hv j (by simp)), wipe_set (hv i (by simp))]
  · exact hp.elim
/-! ### for -/
def dForL (dg : DG) (db : DQ) (N : DN) : List D → DS → Prop
  | [], δ => N.nx δ
  | x :: xs, δ => dg x δ fun δ' => db { N with nx := dForL dg db N xs, ct := dForL dg db N xs, bk := N.nx } δ'
def dFor (di : DI) (dg : DG) (db : DQ) : DQ := fun N δ => di δ fun items => dForL dg db N items δ
def dForN (n : Nat) (di : DI) (dg : DG) (db : DQ) : DQ := fun N δ => di δ fun items => items.length ≤ n ∧ dForL dg db N items δ
theorem for_core {wi : TI} {di : DI} {g : TG} {dg : DG} {sl : List Nat} {tbd : TS} {dbd : DQ} {kp : Prop} (hk : ¬ kp) {t : Nat} {σ : L2.St} {δ : DS} {B G0 G H : Hp} {N : DN} {D : Ends} {T : Nat} {items : List GP.D} {J : It}
    (hg : SG Γ L g dg sl) (hb : SS Γ L c tbd dbd) (a : At L t B G0 G H) (e : Env Γ L B G H σ δ) (hT : t + items.length * c ≤ T) (hM : T ≤ TMAX) (hI : ItsOf Γ L kp J items G H) (hp : dForL dg dbd N items δ) (E : EndsOf Γ L T B G0 N D) :
    ∃ W : Nat → Nat → L2.St → Hp → Prop, (∃ m, W 0 m σ H) ∧ ∀ i m σ H, W i m σ H →
      (J.stop i H ∧ D.nx σ H) ∨ (J.go i H ∧ ∃ M : L2.St → Hp → Prop, (∀ σ' H', M σ' H' → ∃ m', m' < m ∧ W (i + 1) m' σ' H') ∧ ∀ x H', J.yld i H x H' → g x σ H' fun σ2 H2 => tbd { D with nx := M, ct := M, bk := D.nx } σ2 H2) := by
  let W : Nat → Nat → L2.St → Hp → Prop := fun i m σ' H' => m = items.length - i ∧ i ≤ items.length ∧ ∃ δ' G', At L (t + i * c) B G0 G' H' ∧ Ex G G' ∧ Env Γ L B G' H' σ' δ' ∧ dForL dg dbd N (items.drop i) δ'
  refine ⟨W, ⟨items.length, by simp, Nat.zero_le _, δ, G, by simpa using a, Ex.rfl', e, by simpa using hp⟩, ?_⟩
  rintro i m σ1 H1 ⟨rfl, hi, δ1, G1, a1, x1, e1, q1⟩
  by_cases hlt : i < items.length
  · right
    obtain ⟨d, hd⟩ : ∃ d, items[i]? = some d := ⟨items[i], by simp [hlt]⟩
    have hdrop : items.drop i = d :: items.drop (i + 1) := by
      rw [List.drop_eq_getElem_cons hlt]
      have : items[i] = d := by
        have := List.getElem?_eq_getElem hlt
        rw [this] at hd; exact Option.some.inj hd
      rw [this]
    rw [hdrop] at q1
    refine ⟨hI.go i G1 H1 hlt x1 a1.gh (fun z => (hk z).elim), fun σ2 H2 => W (i + 1) (items.length - (i + 1)) σ2 H2, fun σ2 H2 w => ⟨_, by omega, w⟩, fun x H2 y => ?_⟩
    obtain ⟨G2, a2, r2⟩ := hI.yl (t + i * c) i x d G1 H1 H2 hd a1.lw x1 a1.gh (fun z => (hk z).elim) y
    have e2 := e1.step a2
    refine hg (t + i * c) σ1 δ1 B G2 H2 x d a2.lw a2.gh e2 r2 _ q1 _ fun σ3 δ3 e3 _ q3 => ?_
    have hc : t + i * c + c ≤ TMAX := by
      have h1 : (i + 1) * c ≤ items.length * c := Nat.mul_le_mul_right c hlt
      rw [Nat.succ_mul] at h1
      omega
    have hle : t + i * c + c ≤ T := by
      have h1 : (i + 1) * c ≤ items.length * c := Nat.mul_le_mul_right c hlt
      rw [Nat.succ_mul] at h1
      omega
    have fin : ∀ (σ4 : L2.St) (δ4 : DS) (G4 H4 : Hp), At L (t + i * c + c) B G0 G4 H4 → Ex G2 G4 → Env Γ L B G4 H4 σ4 δ4 → dForL dg dbd N (items.drop (i + 1)) δ4 → W (i + 1) (items.length - (i + 1)) σ4 H4 := fun σ4 δ4 G4 H4 a4 x4 e4 q4 =>
      ⟨rfl, hlt, δ4, G4, by rw [Nat.succ_mul, ← Nat.add_assoc]; exact a4, (x1.tr a2.gg).tr x4, e4, q4⟩
    -- the body, from a base that keeps what is stable now
    refine hb (t + i * c) σ3 δ3 B G2 G2 H2 ⟨Ex.rfl', a2.gh, (a1.tr a2).bh, fun _ _ h => .inl h, a2.lw⟩ e3 hc _ q3 _ ⟨fun σ4 δ4 G4 H4 a4 e4 q4 => ?_, fun v d4 G4 H4 a4 r4 q4 => ?_, fun σ4 δ4 G4 H4 a4 e4 q4 => ?_, fun σ4 δ4 G4 H4 a4 e4 q4 => ?_⟩
    · exact fin σ4 δ4 G4 H4 ⟨((a1.tr a2).gg).tr a4.gg, a4.gh, a4.bh, fun y o h => (a4.nw y o h).elim (fun h => (a1.tr a2).nw y o h) .inr, a4.lw⟩ a4.gg e4 q4
    · exact E.rt v d4 G4 H4 (At.le ⟨((a1.tr a2).gg).tr a4.gg, a4.gh, a4.bh, fun y o h => (a4.nw y o h).elim (fun h => (a1.tr a2).nw y o h) .inr, a4.lw⟩ hle) r4 q4
    · exact E.nx σ4 δ4 G4 H4 (At.le ⟨((a1.tr a2).gg).tr a4.gg, a4.gh, a4.bh, fun y o h => (a4.nw y o h).elim (fun h => (a1.tr a2).nw y o h) .inr, a4.lw⟩ hle) e4 q4
    · exact fin σ4 δ4 G4 H4 ⟨((a1.tr a2).gg).tr a4.gg, a4.gh, a4.bh, fun y o h => (a4.nw y o h).elim (fun h => (a1.tr a2).nw y o h) .inr, a4.lw⟩ a4.gg e4 q4
  · left
    have hi' : i = items.length := by omega
    subst hi'
    rw [List.drop_length] at q1
    exact ⟨hI.st G1 H1 x1 a1.gh (fun z => (hk z).elim), E.nx σ1 δ1 G1 H1 (a1.le hT) e1 q1⟩
theorem s_for {wi : TI} {di : DI} {g : TG} {dg : DG} {sl : List Nat} {tbd : TS} {dbd : DQ} (hi : SI Γ L False c1 wi di) (hg : SG Γ L g dg sl) (hb : SS Γ L 0 tbd dbd) : SS Γ L c1 (tFor wi g tbd) (dFor di dg dbd) := fun t σ δ B G0 G H a e hc N hp D E => by
  refine hi t σ δ B G H a.lw a.gh e hc _ hp _ fun J items G1 H1 a1 hI q => ?_
  exact for_core (wi := wi) (di := di) (T := t + c1) id hg hb (a.tr a1) (e.step a1) (by omega) hc hI q E
theorem s_forN (n : Nat) {wi : TI} {di : DI} {g : TG} {dg : DG} {sl : List Nat} {tbd : TS} {dbd : DQ} (hi : SI Γ L False c1 wi di) (hg : SG Γ L g dg sl) (hb : SS Γ L c tbd dbd) : SS Γ L (c1 + n * c) (tFor wi g tbd) (dForN n di dg dbd) := fun t σ δ B G0 G H a e hc N hp D E => by
  refine hi t σ δ B G H a.lw a.gh e (by omega) _ hp _ fun J items G1 H1 a1 hI q => ?_
  have h1 : items.length * c ≤ n * c := Nat.mul_le_mul_right c q.1
  exact for_core (wi := wi) (di := di) (T := t + (c1 + n * c)) id hg hb (a.tr a1) (e.step a1) (by omega) hc hI q.2 E
/-! ### list comprehensions -/
theorem wipe_at (σ : L2.St) (i : Nat) : ∀ vs : List Nat, (wipe σ vs)[i]? = if i ∈ vs then σ[i]?.map (fun _ => none) else σ[i]?
  | [] => by simp [wipe]
  | v :: vs => by
    show ((wipe σ vs).set v none)[i]? = _
    have ih := wipe_at σ i vs
    rw [List.getElem?_set]
    by_cases z : v = i
    · subst z
      rw [if_pos rfl, wipe_length]
      rw [if_pos (List.mem_cons_self)]
      by_cases l : v < σ.length
      · rw [if_pos l, List.getElem?_eq_getElem l]; rfl
      · rw [if_neg l, List.getElem?_eq_none (by omega)]; rfl
    · rw [if_neg z, ih]
      by_cases m : i ∈ vs
      · rw [if_pos m, if_pos (List.mem_cons_of_mem _ m)]
      · rw [if_neg m, if_neg (fun q => (List.mem_cons.mp q).elim (fun q => z q.symm) m)]
theorem wipe_wipe (σ : L2.St) (vs : List Nat) : wipe (wipe σ vs) vs = wipe σ vs := by
  apply List.ext_getElem?
  intro i
  rw [wipe_at, wipe_at]
  by_cases m : i ∈ vs
  · rw [if_pos m, if_pos m, Option.map_map]; rfl
  · rw [if_neg m, if_neg m]
def wipeD (δ : DS) : List Nat → DS
  | [] => δ
  | v :: vs => (wipeD δ vs).set v none
def dLcL (dg : DG) (dt : DT) (de : DE) (P : D → Prop) (δ : DS) : List D → List D → Prop
  | [], acc => P (.lst acc)
  | x :: xs, acc => dg x δ fun δ' => dt δ' fun b => if b = true then de δ' fun y => dLcL dg dt de P δ xs (acc ++ [y]) else dLcL dg dt de P δ xs acc
def dLc (di : DI) (dg : DG) (dt : DT) (de : DE) (vs : List Nat) : DE := fun δ P => di δ fun items => dLcL dg dt de P (wipeD δ vs) items []
def dLcN (n : Nat) (di : DI) (dg : DG) (dt : DT) (de : DE) (vs : List Nat) : DE := fun δ P => di δ fun items => items.length ≤ n ∧ dLcL dg dt de P (wipeD δ vs) items []
def dYes : DT := fun _ P => P true
theorem s_yes : SB Γ L 0 tYes dYes := fun t σ δ B G H l x e hc P hp Q k => k true G H (At.start x l) hp
theorem Env.wipe1 {B G H : Hp} {σ : L2.St} {δ : DS} (e : Env Γ L B G H σ δ) (i : Nat) : Env Γ L B G H (σ.set i none) (δ.set i none) := by
  have f : ∀ (m : Nat) (w : Sl), (δ.set i none)[m]? = some (some w) → i ≠ m ∧ δ[m]? = some (some w) := fun m w hm => by
    by_cases z : i = m
    · subst z
      rw [List.getElem?_set] at hm
      by_cases l : i < δ.length <;> simp [l] at hm
    · rw [List.getElem?_set_ne z] at hm; exact ⟨z, hm⟩
  refine ⟨fun j d h => ?_, fun j d h => ?_, fun j k x y q hjk h1 h2 h3 h4 => ?_, by rw [List.length_set, List.length_set]; exact e.len⟩
  · obtain ⟨n, h'⟩ := f j _ h
    rw [List.getElem?_set_ne n]; exact e.sh j d h'
  · obtain ⟨n, h'⟩ := f j _ h
    rw [List.getElem?_set_ne n]; exact e.ow j d h'
  · obtain ⟨n1, h1'⟩ := f j _ h1
    obtain ⟨n2, h2'⟩ := f k _ h2
    rw [List.getElem?_set_ne n1] at h3
    rw [List.getElem?_set_ne n2] at h4
    exact e.dj j k x y q hjk h1' h2' h3 h4
theorem Env.wipe {B G H : Hp} {σ : L2.St} {δ : DS} (e : Env Γ L B G H σ δ) : ∀ vs : List Nat, Env Γ L B G H (wipe σ vs) (wipeD δ vs)
  | [] => e
  | v :: vs => (e.wipe vs).wipe1 v
theorem lc_core' {g : TG} {dg : DG} {sl vs : List Nat} {kp : Prop} {t : Nat} {σ : L2.St} {δ : DS} {B G H : Hp} {T : Nat} {items : List GP.D} {J : It} {P : GP.D → Prop} {Q : VK}
    (hsl : ∀ i ∈ sl, i ∈ vs) (hg : SG Γ L g dg sl) (ht : SB Γ L c1 tt dt) (he : SE Γ L c2 te de) (l : LawAt L t G H) (x : Exf G H) (e : Env Γ L B G H σ δ) (hT : t + items.length * (c1 + c2) ≤ T) (hM : T ≤ TMAX) (hI : ItsOf Γ L kp J items G H)
    (hp : dLcL dg dt de P (wipeD δ vs) items []) (k : ∀ p d G' H', At L T H G G' H' → H p = none → OwnAt Γ L G' H' p d → G' p = none → P d → Q (.ref p) H') :
    ∀ D, H D = none → ∃ W : Nat → Nat → Hp → Prop, (∃ m, W 0 m (upd H D (.lst []))) ∧ ∀ i m H, W i m H →
      (J.stop i H ∧ Q (.ref D) H) ∨ (J.go i H ∧ ∃ Nx : Hp → Prop, (∀ H', Nx H' → ∃ m', m' < m ∧ W (i + 1) m' H') ∧ ∀ x H', J.yld i H x H' → g x (wipe σ vs) H' fun σ2 H2 => wipe σ2 vs = wipe σ vs ∧ tt σ2 H2 fun b H3 =>
        if b = true then te σ2 H3 fun y H4 => ∃ acc, H4 D = some (.lst acc) ∧ acc.length < sizeLine ∧ Nx (upd H4 D (.lst (acc ++ [y]))) else Nx H3) := by
  intro D hD
  have hz := hI.lim
  have hGD : G D = none := x.none hD
  have hnD : notL L D := l.out hD
  let W : Nat → Nat → Hp → Prop := fun i m H' => m = items.length - i ∧ i ≤ items.length ∧ ∃ (G' : Hp) (acc : List V) (ds : List GP.D), At L (t + i * (c1 + c2)) H G G' H' ∧ H' D = some (.lst acc) ∧ G' D = none ∧ RepL Γ L G' acc ds ∧ ds.length ≤ i ∧ dLcL dg dt de P (wipeD δ vs) (items.drop i) ds
  refine ⟨W, ⟨items.length, by simp, Nat.zero_le _, G, [], [], by simpa using (At.newH x l hD), upd_same, hGD, .nil, Nat.le_refl _, by simpa using hp⟩, ?_⟩
  rintro i m H1 ⟨rfl, hi, G1, acc, ds, a1, hacc, hg1, racc, hds, q1⟩
  have kept : ∀ a o, H a = some o → notL L a → H1 a = some o := a1.bh
  by_cases hlt : i < items.length
  · right
    obtain ⟨d, hd⟩ : ∃ d, items[i]? = some d := ⟨items[i], by simp [hlt]⟩
    have hdrop : items.drop i = d :: items.drop (i + 1) := by
      rw [List.drop_eq_getElem_cons hlt]
      have : items[i] = d := by
        have := List.getElem?_eq_getElem hlt
        rw [this] at hd; exact Option.some.inj hd
      rw [this]
    rw [hdrop] at q1
    have hle : t + i * (c1 + c2) + (c1 + c2) ≤ TMAX := by
      have h1 : (i + 1) * (c1 + c2) ≤ items.length * (c1 + c2) := Nat.mul_le_mul_right _ hlt
      rw [Nat.succ_mul] at h1
      omega
    refine ⟨hI.go i G1 H1 hlt a1.gg a1.gh (fun _ => kept), fun H2 => W (i + 1) (items.length - (i + 1)) H2, fun H2 w => ⟨_, by omega, w⟩, fun xv H2 y => ?_⟩
    obtain ⟨G2, a2, r2⟩ := hI.yl (t + i * (c1 + c2)) i xv d G1 H1 H2 hd a1.lw a1.gg a1.gh (fun _ => kept) y
    have hD2 : H2 D = some (.lst acc) := a2.bh D _ hacc hnD
    have hg2 : G2 D = none := by
      cases z : G2 D with
      | none => rfl
      | some o =>
        rcases a2.nw D o z with y | y
        · rw [hg1] at y; cases y
        · rw [hacc] at y; cases y
    have e2 : Env Γ L B G2 H2 (wipe σ vs) (wipeD δ vs) := ((e.wipe vs).step a1).step a2
    refine hg (t + i * (c1 + c2)) (wipe σ vs) (wipeD δ vs) B G2 H2 xv d a2.lw a2.gh e2 r2 _ q1 _ fun σ3 δ3 e3 hw q3 => ⟨?_, ?_⟩
    · have ww : wipe (wipe σ vs) vs = wipe σ vs := wipe_wipe σ vs
      rw [hw vs hsl]; exact ww
    · refine ht (t + i * (c1 + c2)) σ3 δ3 B G2 H2 a2.lw a2.gh e3 (by omega) _ q3 _ fun b G3 H3 a3 q4 => ?_
      have hD3 : H3 D = some (.lst acc) := a3.bh D _ hD2 hnD
      have hg3 : G3 D = none := by
        cases z : G3 D with
        | none => rfl
        | some o =>
          rcases a3.nw D o z with y | y
          · rw [hg2] at y; cases y
          · rw [hD2] at y; cases y
      have a123 : At L (t + i * (c1 + c2) + c1) H G G3 H3 := (a1.tr a2).tr a3
      cases b with
      | false => exact ⟨rfl, hlt, G3, acc, ds, a123.le (by rw [Nat.succ_mul]; omega), hD3, hg3, racc.up (a2.gg.tr a3.gg), by omega, q4⟩
      | true =>
        refine he (t + i * (c1 + c2) + c1) σ3 δ3 B G3 H3 a3.lw a3.gh (e3.step a3) (by omega) _ q4 _ fun yv yd G4 H4 a4 r4 q5 => ?_
        have hD4 : H4 D = some (.lst acc) := a4.bh D _ hD3 hnD
        have hg4 : G4 D = none := by
          cases z : G4 D with
          | none => rfl
          | some o =>
            rcases a4.nw D o z with y | y
            · rw [hg3] at y; cases y
            · rw [hD3] at y; cases y
        have hlen := racc.len
        refine ⟨acc, hD4, ?_, rfl, hlt, G4, acc ++ [yv], ds ++ [yd], ((a123.tr a4).write hD hg4 hnD).le (by rw [Nat.succ_mul]; omega), upd_same, hg4, (racc.up ((a2.gg.tr a3.gg).tr a4.gg)).app (.cons r4 .nil), by rw [List.length_append]; show ds.length + 1 ≤ i + 1; omega, q5⟩
        have : acc.length < LIM := by omega
        exact Nat.lt_of_lt_of_le this (lim_size (Nat.le_refl _))
  · left
    have hi' : i = items.length := by omega
    subst hi'
    rw [List.drop_length] at q1
    exact ⟨hI.st G1 H1 a1.gg a1.gh (fun _ => kept), k D _ G1 H1 (a1.le hT) hD (.lst hacc racc (by omega)) hg1 q1⟩
theorem s_lc {wi : TI} {di : DI} {g : TG} {dg : DG} {sl vs : List Nat} (hi : SI Γ L True c1 wi di) (hg : SG Γ L g dg sl) (ht : SB Γ L 0 tt dt) (he : SE Γ L 0 te de) (hsl : ∀ i ∈ sl, i ∈ vs := by decide) : SF Γ L c1 (tLc wi g tt te vs) (dLc di dg dt de vs) := fun t σ δ B G H l x e hc P hp Q k => by
  refine hi t σ δ B G H l x e hc _ hp _ fun J items G1 H1 a1 hI q => ?_
  refine lc_core' (kp := True) (T := t + c1) hsl hg ht he a1.lw a1.gh (e.step a1) (by omega) hc hI q fun p d G2 H2 a2 n o g q2 => k p d G2 H2 (a1.tr a2) (a1.old n) o g q2
theorem s_lcN (n : Nat) {wi : TI} {di : DI} {g : TG} {dg : DG} {sl vs : List Nat} (hi : SI Γ L True c1 wi di) (hg : SG Γ L g dg sl) (ht : SB Γ L c2 tt dt) (he : SE Γ L c3 te de) (hsl : ∀ i ∈ sl, i ∈ vs := by decide) : SF Γ L (c1 + n * (c2 + c3)) (tLc wi g tt te vs) (dLcN n di dg dt de vs) := fun t σ δ B G H l x e hc P hp Q k => by
  refine hi t σ δ B G H l x e (by omega) _ hp _ fun J items G1 H1 a1 hI q => ?_
  have h1 : items.length * (c2 + c3) ≤ n * (c2 + c3) := Nat.mul_le_mul_right _ q.1
  refine lc_core' (kp := True) (T := t + (c1 + n * (c2 + c3))) hsl hg ht he a1.lw a1.gh (e.step a1) (by omega) hc hI q.2 fun p d G2 H2 a2 n o g q2 => k p d G2 H2 (a1.tr a2) (a1.old n) o g q2
/-! ### the sources -/
def seqD : D → Option (List D)
  | .lst xs => some xs
  | .tup xs => some xs
  | .str x => some (x.cps.toList.map fun c => .str ⟨#[c]⟩)
  | _ => none
def gIter (K : FK) (te : TE) : TI := fun σ H R => te σ H fun x H1 => (∃ a, x = .ref a ∧ (∃ xs, SqL K H1 a xs) ∧ R (Itl K a) H1) ∨ (∃ a, x = .ref a ∧ (∃ xs, SqT K H1 a xs) ∧ R (Itt K a) H1) ∨ ∃ s, x = .str s ∧ R (Its s) H1
def dIter (de : DE) : DI := fun δ P => de δ fun d => match seqD d with
  | some xs => P xs
  | none => False
theorem its_list {kp : Prop} {a : Addr} {xs : List V} {ds : List GP.D} {G1 H1 : Hp} (r : RepL Γ L G1 xs ds) (z : ds.length ≤ LIM) (h : ∀ (G H : Hp), Ex G1 G → Exf G H → (kp → ∀ a o, H1 a = some o → notL L a → H a = some o) → SqL Γ.K H a xs) : ItsOf Γ L kp (Itl Γ.K a) ds G1 H1 where
  lim := z
  go := fun i G H hi g x kk => by
    have hl := r.len
    exact ⟨xs, xs[i]'(by omega), h G H g x kk, by simp⟩
  st := fun G H g x kk => ⟨xs, h G H g x kk, by rw [r.len]; exact Nat.le_refl _⟩
  yl := fun t i x d G H H' hd l g xf kk y => by
    obtain ⟨e1, y⟩ := y
    subst e1
    have hx := y xs (h G _ g xf kk)
    obtain ⟨w, hw, rw'⟩ := r.at_ hd
    rw [hw] at hx
    cases hx
    exact ⟨G, At.start xf l, rw'.up g⟩
theorem its_tup {kp : Prop} {a : Addr} {xs : List V} {ds : List GP.D} {G1 H1 : Hp} (r : RepL Γ L G1 xs ds) (z : ds.length ≤ LIM) (h : ∀ (G H : Hp), Ex G1 G → Exf G H → SqT Γ.K H a xs) : ItsOf Γ L kp (Itt Γ.K a) ds G1 H1 where
  lim := z
  go := fun i G H hi g x kk => by
    have hl := r.len
    exact ⟨xs, xs[i]'(by omega), h G H g x, by simp⟩
  st := fun G H g x kk => ⟨xs, h G H g x, by rw [r.len]; exact Nat.le_refl _⟩
  yl := fun t i x d G H H' hd l g xf kk y => by
    obtain ⟨e1, y⟩ := y
    subst e1
    have hx := y xs (h G _ g xf)
    obtain ⟨w, hw, rw'⟩ := r.at_ hd
    rw [hw] at hx
    cases hx
    exact ⟨G, At.start xf l, rw'.up g⟩
theorem okStr_len {x : Str} (h : okStr x = true) : x.length ≤ LIM := by
  unfold okStr at h
  rw [Bool.and_eq_true, decide_eq_true_eq] at h
  exact h.1
theorem okStr_cp {x : Str} (h : okStr x = true) {c : Nat} (m : c ∈ x.cps) : c < 0x110000 := by
  unfold okStr at h
  rw [Bool.and_eq_true, Array.all_eq_true'] at h
  exact of_decide_eq_true (h.2 c m)
theorem okStr_of {x : Str} (h : x.length ≤ LIM) (k : ∀ c ∈ x.cps, c < 0x110000) : okStr x = true := by
  unfold okStr
  rw [Bool.and_eq_true, Array.all_eq_true']
  exact ⟨decide_eq_true h, fun c m => decide_eq_true (k c m)⟩
theorem okStr_one {c : Nat} (h : c < 0x110000) : okStr ⟨#[c]⟩ = true := okStr_of (by show 1 ≤ LIM; decide) fun d m => by
  have : d = c := by simpa using m
  rw [this]; exact h
theorem its_str {kp : Prop} {s : Str} {G1 H1 : Hp} (zz : okStr s = true) : ItsOf Γ L kp (Its s) (s.cps.toList.map fun c => GP.D.str ⟨#[c]⟩) G1 H1 where
  lim := by rw [List.length_map, Array.length_toList]; exact okStr_len zz
  go := fun i G H hi g x kk => by rw [List.length_map, Array.length_toList] at hi; exact hi
  st := fun G H g x kk => by rw [List.length_map, Array.length_toList]; exact Nat.le_refl _
  yl := fun t i x d G H H' hd l g xf kk y => by
    obtain ⟨e1, c, hc, ev⟩ := y
    subst e1
    subst ev
    refine ⟨G, At.start xf l, ?_⟩
    rw [List.getElem?_map, Array.getElem?_toList, hc] at hd
    cases hd
    exact .str (okStr_one (okStr_cp zz (Array.mem_of_getElem? hc)))
theorem s_iter (h : SE Γ L c te de) {kp : Prop} : SI Γ L kp c (gIter Γ.K te) (dIter de) := fun t σ δ B G H l x e hc P hp R k => by
  refine h t σ δ B G H l x e hc _ hp _ fun v d G1 H1 a1 r1 q => ?_
  split at q
  · rename_i xs hx
    cases r1 with
    | lst hh r z => cases hx; exact .inl ⟨_, rfl, ⟨_, a1.gh.sl (SqL.of hh)⟩, k _ _ G1 H1 a1 (its_list r z fun G2 H2 g x2 _ => x2.sl (SqL.of (g _ _ hh))) q⟩
    | tup hh r z => cases hx; exact .inr (.inl ⟨_, rfl, ⟨_, (a1.gh.tp hh).sq⟩, k _ _ G1 H1 a1 (its_tup r z fun G2 H2 g x2 => (x2.tp (g.tp hh)).sq) q⟩)
    | str z => cases hx; exact .inr (.inr ⟨_, rfl, k _ _ G1 H1 a1 (its_str z) q⟩)
    | _ => cases hx
  · exact q.elim
/-- .. in a comprehension, the list may be owned -/
theorem s_iterT (h : ST Γ L c te de) : SI Γ L True c (gIter Γ.K te) (dIter de) := fun t σ δ B G H l x e hc P hp R k => by
  refine h t σ δ B G H l x e hc _ hp _ fun v d G1 H1 a1 r1 q => ?_
  split at q
  · rename_i xs hx
    rcases r1 with r1 | ⟨p, rfl, o, hn⟩
    · cases r1 with
      | lst hh r z => cases hx; exact .inl ⟨_, rfl, ⟨_, a1.gh.sl (SqL.of hh)⟩, k _ _ G1 H1 a1 (its_list r z fun G2 H2 g x2 _ => x2.sl (SqL.of (g _ _ hh))) q⟩
      | tup hh r z => cases hx; exact .inr (.inl ⟨_, rfl, ⟨_, (a1.gh.tp hh).sq⟩, k _ _ G1 H1 a1 (its_tup r z fun G2 H2 g x2 => (x2.tp (g.tp hh)).sq) q⟩)
      | str z => cases hx; exact .inr (.inr ⟨_, rfl, k _ _ G1 H1 a1 (its_str z) q⟩)
      | _ => cases hx
    · cases o with
      | lst hh r z => cases hx; exact .inl ⟨_, rfl, ⟨_, SqL.of hh⟩, k _ _ G1 H1 a1 (its_list r z fun G2 H2 g x2 kk => SqL.of (kk trivial _ _ hh hn)) q⟩
      | dct hh r z => cases hx
  · exact q.elim
/-- range(n) -/
def dRng1 (a : DA) : DI := fun δ P => a δ fun ds => match ds with
  | [.int n] => n ≤ LIM ∧ -LIM ≤ n ∧ P ((List.range n.toNat).map fun (i : Nat) => GP.D.int (i : Int))
  | _ => False
theorem s_rng1 {tA : TA} {dA : DA} (h : SAT Γ L c tA dA) {kp : Prop} : SI Γ L kp c (iRng1 tA) (dRng1 dA) := fun t σ δ B G H l x e hc P hp R k => by
  refine h t σ δ B G H l x e hc _ hp _ fun vs ds G1 H1 a1 r1 q => ?_
  split at q
  · rename_i n
    cases r1 with
    | cons r1 rr =>
      cases rr
      have hv : ∀ v, RepT Γ L G1 H1 v (.int n) → v = .int n := fun v h => by
        rcases h with h | ⟨p, rfl, h, _⟩
        · cases h; rfl
        · cases h
      rw [hv _ r1]
      obtain ⟨q1, q2, q3⟩ := q
      have b1 : -(2 ^ 62 : Int) ≤ n := by
        have : (-(LIM : Int)) ≤ n := q2
        have e : ((LIM : Nat) : Int) = 1000000 := rfl
        omega
      have b2 : n < (2 ^ 62 : Int) := by
        have e : ((LIM : Nat) : Int) = 1000000 := rfl
        omega
      refine ⟨n, rfl, b1, b2, k _ _ G1 H1 a1 ⟨?_, fun i G2 H2 hi g x2 kk => ?_, fun G2 H2 g x2 kk => ?_, fun t i xv d G2 H2 H3 hd l2 g xf kk y => ?_⟩ q3⟩
      · rw [List.length_map, List.length_range]
        have e : ((LIM : Nat) : Int) = 1000000 := rfl
        omega
      · rw [List.length_map, List.length_range] at hi; exact hi
      · rw [List.length_map, List.length_range]; exact Nat.le_refl _
      · obtain ⟨e1, e2⟩ := y
        subst e1
        subst e2
        refine ⟨G2, At.start xf l2, ?_⟩
        rw [List.getElem?_map] at hd
        obtain ⟨j, hj, ej⟩ := Option.map_eq_some_iff.mp hd
        have : j = i := by
          have h1 := List.getElem?_eq_some_iff.mp hj
          obtain ⟨h1, h2⟩ := h1
          rw [List.getElem_range] at h2
          exact h2.symm
        subst this
        rw [← ej]
        have e0 : (0 : Int) + (j : Int) = (j : Int) := Int.zero_add _
        rw [e0]
        exact .int _
  · exact q.elim
end
end GP

set_option Elab.async false
set_option linter.all false
set_option maxRecDepth 100000
set_option maxHeartbeats 4000000
/-! G5: the operators and built-in calls on data, and that the readings keep to them. -/
namespace GP
open PySem PySem.Spec PyProof.Rows L2
/-! ### plain data, its == -/
def plD : Nat → D → Bool
  | _, .non => true
  | _, .bl _ => true
  | _, .int _ => true
  | _, .str _ => true
  | n + 1, .lst xs => xs.all (plD n)
  | n + 1, .tup xs => xs.all (plD n)
  | _, _ => false
def pyD : Nat → D → PyData
  | _, .non => .none
  | _, .bl b => .bool b
  | _, .int i => .int i
  | _, .str x => .str x
  | n + 1, .lst xs => .list (xs.map (pyD n))
  | n + 1, .tup xs => .tuple (xs.map (pyD n))
  | _, _ => .none
def deqL (f : D → D → Bool) : List D → List D → Bool
  | [], [] => true
  | x :: xs, y :: ys => f x y && deqL f xs ys
  | _, _ => false
def deq : Nat → D → D → Bool
  | _, .non, .non => true
  | _, .bl a, .bl b => a == b
  | _, .bl a, .int j => (if a then 1 else 0) == j
  | _, .int i, .bl b => i == (if b then 1 else 0)
  | _, .int i, .int j => i == j
  | _, .str x, .str y => x == y
  | n + 1, .lst xs, .lst ys => deqL (deq n) xs ys
  | n + 1, .tup xs, .tup ys => deqL (deq n) xs ys
  | _, _, _ => false
theorem eqvAll_map {n : Nat} (f : ∀ x y, plD n x = true → plD n y = true → PyData.eqv (pyD n x) (pyD n y) = deq n x y) : ∀ xs ys : List D, xs.all (plD n) = true → ys.all (plD n) = true → PyData.eqvAll (xs.map (pyD n)) (ys.map (pyD n)) = deqL (deq n) xs ys
  | [], [], _, _ => rfl
  | [], _ :: _, _, _ => rfl
  | _ :: _, [], _, _ => rfl
  | x :: xs, y :: ys, h1, h2 => by
    rw [List.all_cons, Bool.and_eq_true] at h1 h2
    show (PyData.eqv (pyD n x) (pyD n y) && PyData.eqvAll (xs.map (pyD n)) (ys.map (pyD n))) = (deq n x y && deqL (deq n) xs ys)
    rw [f x y h1.1 h2.1, eqvAll_map f xs ys h1.2 h2.2]
theorem eqv_deq : ∀ (n : Nat) (x y : D), plD n x = true → plD n y = true → PyData.eqv (pyD n x) (pyD n y) = deq n x y
  | 0, x, y, h1, h2 => by cases x <;> cases y <;> first | rfl | (cases h1; done) | (cases h2; done)
  | n + 1, x, y, h1, h2 => by
    have key := eqvAll_map (n := n) (eqv_deq n)
    cases x <;> cases y <;> first | rfl | (cases h1; done) | (cases h2; done) | exact key _ _ h1 h2
section
variable {Γ : Cn} {L : LS}
theorem dpAll_of {G H : Hp} {n : Nat} (f : ∀ v d, Rep Γ L G v d → plD n d = true → Dp Γ.K H v (pyD n d) ∧ (pyD n d).canLay0 = true ∧ (pyD n d).depth ≤ n) : ∀ {vs : List V} {ds : List D}, RepL Γ L G vs ds → ds.all (plD n) = true →
    DpAll Γ.K H vs (ds.map (pyD n)) ∧ PyData.canLayAll0 (ds.map (pyD n)) = true ∧ PyData.depthAll (ds.map (pyD n)) ≤ n
  | _, _, .nil, _ => ⟨.nil, rfl, Nat.zero_le _⟩
  | _, _, .cons h t, q => by
    rw [List.all_cons, Bool.and_eq_true] at q
    obtain ⟨a1, a2, a3⟩ := f _ _ h q.1
    obtain ⟨b1, b2, b3⟩ := dpAll_of f t q.2
    refine ⟨.cons a1 b1, ?_, ?_⟩
    · show (PyData.canLay0 _ && PyData.canLayAll0 _) = true
      rw [a2, b2]; rfl
    · exact Nat.max_le.mpr ⟨a3, b3⟩
theorem dp_of {G H : Hp} (x : Exf G H) : ∀ (n : Nat) (v : V) (d : D), Rep Γ L G v d → plD n d = true → Dp Γ.K H v (pyD n d) ∧ (pyD n d).canLay0 = true ∧ (pyD n d).depth ≤ n
  | 0, v, d, r, h => by
    cases r with
    | non => exact ⟨.non, rfl, Nat.zero_le _⟩
    | bl b => exact ⟨.bl b, rfl, Nat.zero_le _⟩
    | int i => exact ⟨.int i, rfl, Nat.zero_le _⟩
    | str z =>
      refine ⟨.str _, ?_, Nat.zero_le _⟩
      unfold okStr at z
      rw [Bool.and_eq_true] at z
      exact z.2
    | _ => cases h
  | n + 1, v, d, r, h => by
    cases r with
    | non => exact ⟨.non, rfl, Nat.zero_le _⟩
    | bl b => exact ⟨.bl b, rfl, Nat.zero_le _⟩
    | int i => exact ⟨.int i, rfl, Nat.zero_le _⟩
    | str z =>
      refine ⟨.str _, ?_, Nat.zero_le _⟩
      unfold okStr at z
      rw [Bool.and_eq_true] at z
      exact z.2
    | lst hh r z =>
      obtain ⟨a1, a2, a3⟩ := dpAll_of (dp_of x n) r h
      exact ⟨.lst (x.sl (SqL.of hh)) a1, a2, Nat.succ_le_succ a3⟩
    | tup hh r z =>
      obtain ⟨a1, a2, a3⟩ := dpAll_of (dp_of x n) r h
      exact ⟨.tup (x.tp hh).sq a1, a2, Nat.succ_le_succ a3⟩
    | _ => cases h
theorem dpT_of {G H : Hp} (x : Exf G H) {n : Nat} {v : V} {d : D} (r : RepT Γ L G H v d) (h : plD n d = true) : Dp Γ.K H v (pyD n d) ∧ (pyD n d).canLay0 = true ∧ (pyD n d).depth ≤ n := by
  rcases r with r | ⟨p, rfl, o, _⟩
  · exact dp_of x n v d r h
  · cases o with
    | lst hh r z =>
      cases n with
      | zero => cases h
      | succ n =>
        obtain ⟨a1, a2, a3⟩ := dpAll_of (dp_of x n) r h
        exact ⟨.lst (SqL.of hh) a1, a2, Nat.succ_le_succ a3⟩
    | dct hh r z => cases n <;> cases h
theorem shaped_of {d : PyData} {n : Nat} (h1 : d.canLay0 = true) (h2 : d.depth ≤ n) (h3 : n ≤ 64) : SeqAt.shaped d = true := by
  unfold SeqAt.shaped
  rw [h1, decide_eq_true (Nat.le_trans h2 h3)]
  rfl
/-- how deep data may be nested here -/
abbrev DEP : Nat := 12
def fEq (x y : D) : Option D := match x, y with
  | .raw a, .raw b => some (.bl (decide (a = b)))
  | x, y => if plD DEP x && plD DEP y then some (.bl (deq DEP x y)) else none
def fNe (x y : D) : Option D := match x, y with
  | .raw a, .raw b => some (.bl (!decide (a = b)))
  | x, y => if plD DEP x && plD DEP y then some (.bl (!deq DEP x y)) else none
theorem raw_of {G H : Hp} {v : V} {x : Str} (h : RepT Γ L G H v (.raw x)) : v = .str x := by
  rcases h with h | ⟨p, rfl, h, _⟩
  · cases h; rfl
  · cases h
theorem dec_strV {a b : Str} : decide (V.str a = V.str b) = decide (a = b) := by simp
theorem o_eq : OpS Γ L (gEq Γ.K) fEq := fun t G H x y dx dy z l e rx ry hz Q k => by
  unfold fEq at hz
  split at hz
  · cases hz
    obtain rfl := raw_of rx
    obtain rfl := raw_of ry
    refine .inl ⟨rfl, ?_⟩
    rw [dec_strV]
    exact k _ G H (At.start e l) (.bl _)
  split at hz
  · rename_i hp
    rw [Bool.and_eq_true] at hp
    cases hz
    obtain ⟨a1, a2, a3⟩ := dpT_of e rx hp.1
    obtain ⟨b1, b2, b3⟩ := dpT_of e ry hp.2
    refine .inr ⟨_, _, a1, b1, shaped_of a2 a3 (by decide), shaped_of b2 b3 (by decide), ?_⟩
    rw [eqv_deq _ _ _ hp.1 hp.2]
    exact k _ G H (At.start e l) (.bl _)
  · cases hz
theorem o_ne : OpS Γ L (gNe Γ.K) fNe := fun t G H x y dx dy z l e rx ry hz Q k => by
  unfold fNe at hz
  split at hz
  · cases hz
    obtain rfl := raw_of rx
    obtain rfl := raw_of ry
    refine .inl ⟨rfl, ?_⟩
    rw [dec_strV]
    exact k _ G H (At.start e l) (.bl _)
  split at hz
  · rename_i hp
    rw [Bool.and_eq_true] at hp
    cases hz
    obtain ⟨a1, a2, a3⟩ := dpT_of e rx hp.1
    obtain ⟨b1, b2, b3⟩ := dpT_of e ry hp.2
    refine .inr ⟨_, _, a1, b1, shaped_of a2 a3 (by decide), shaped_of b2 b3 (by decide), ?_⟩
    rw [eqv_deq _ _ _ hp.1 hp.2]
    exact k _ G H (At.start e l) (.bl _)
  · cases hz
/-! ### ints -/
theorem int_of {G H : Hp} {v : V} {i : Int} (h : RepT Γ L G H v (.int i)) : v = .int i := by
  rcases h with h | ⟨p, rfl, h, _⟩
  · cases h; rfl
  · cases h
theorem str_of {G H : Hp} {v : V} {i : Str} (h : RepT Γ L G H v (.str i)) : v = .str i ∧ okStr i = true := by
  rcases h with h | ⟨p, rfl, h, _⟩
  · cases h with
    | str h => exact ⟨rfl, h⟩
  · cases h
theorem non_of {G H : Hp} {v : V} (h : RepT Γ L G H v .non) : v = .non := by
  rcases h with h | ⟨p, rfl, h, _⟩
  · cases h; rfl
  · cases h
theorem lst_of {G H : Hp} (x : Exf G H) {v : V} {ds : List D} (h : RepT Γ L G H v (.lst ds)) : ∃ p xs, v = .ref p ∧ H p = some (.lst xs) ∧ RepL Γ L G xs ds ∧ ds.length ≤ LIM := by
  rcases h with h | ⟨p, rfl, h, _⟩
  · cases h with
    | lst h r z =>
      rcases x _ _ h with q | ⟨_, _, q, _⟩
      · exact ⟨_, _, rfl, q, r, z⟩
      · cases q
  · cases h with
    | lst h r z => exact ⟨_, _, rfl, h, r, z⟩
theorem tup_of {G H : Hp} (x : Exf G H) {v : V} {ds : List D} (h : RepT Γ L G H v (.tup ds)) : ∃ p xs, v = .ref p ∧ SqT Γ.K H p xs ∧ RepL Γ L G xs ds ∧ ds.length ≤ LIM ∧ TpA Γ.K G p xs := by
  rcases h with h | ⟨p, rfl, h, _⟩
  · cases h with
    | tup h r z => exact ⟨_, _, rfl, (x.tp h).sq, r, z, h⟩
  · cases h
theorem dct_of {G H : Hp} (x : Exf G H) {v : V} {ds : List (Key × D)} (h : RepT Γ L G H v (.dct ds)) : ∃ p xs, v = .ref p ∧ Rd H p (.dK xs) ∧ RepK Γ L G xs ds ∧ ds.length ≤ LIM := by
  rcases h with h | ⟨p, rfl, h, _⟩
  · cases h with
    | dct h r z => exact ⟨_, _, rfl, x.dk h, r, z⟩
  · cases h with
    | dct h r z => exact ⟨_, _, rfl, .inl h, r, z⟩
def fInt (f : Int → Int → Option D) : D → D → Option D
  | .int i, .int j => f i j
  | _, _ => none
def fAdd : D → D → Option D
  | .int i, .int j => some (.int (i + j))
  | .str a, .str b => if okStr (a ++ b) then some (.str (a ++ b)) else none
  | .lst a, .lst b => if a.length + b.length ≤ LIM then some (.lst (a ++ b)) else none
  | .tup a, .tup b => if a.length + b.length ≤ LIM then some (.tup (a ++ b)) else none
  | _, _ => none
theorem o_add : OpS Γ L (gAdd Γ.K) fAdd := fun t G H x y dx dy z l e rx ry hz Q k => by
  cases dx <;> cases dy <;> try (cases hz; done)
  · obtain rfl := int_of rx
    obtain rfl := int_of ry
    cases hz
    exact .inl ⟨_, _, rfl, rfl, k _ G H (At.start e l) (.int _)⟩
  · obtain ⟨rfl, z1⟩ := str_of rx
    obtain ⟨rfl, z2⟩ := str_of ry
    unfold fAdd at hz
    dsimp only at hz
    split at hz
    · rename_i a b hok
      cases hz
      have hl := lim_size (okStr_len hok)
      have hs : (a ++ b).length = a.length + b.length := by
        show (a.cps ++ b.cps).size = _
        rw [Array.size_append]; rfl
      exact .inr (.inl ⟨_, _, rfl, rfl, by rw [← hs]; exact hl, k _ G H (At.start e l) (.str hok)⟩)
    · cases hz
  · obtain ⟨p, xs, rfl, hp, r1, z1⟩ := lst_of e rx
    obtain ⟨q, ys, rfl, hq, r2, z2⟩ := lst_of e ry
    unfold fAdd at hz
    dsimp only at hz
    split at hz
    · rename_i hl
      cases hz
      have l1 := r1.len
      have l2 := r2.len
      refine .inr (.inr (.inl ⟨_, _, _, _, rfl, rfl, hp, hq, lim_size (by omega), fun u nu => ?_⟩))
      have a2 := At.new (o := .lst (xs ++ ys)) e l nu
      exact k _ _ _ a2 (.lst upd_same ((r1.app r2).up a2.gg) (by rw [List.length_append]; exact hl))
    · cases hz
  · obtain ⟨p, xs, rfl, hp, r1, z1, g1⟩ := tup_of e rx
    obtain ⟨q, ys, rfl, hq, r2, z2, g2⟩ := tup_of e ry
    unfold fAdd at hz
    dsimp only at hz
    split at hz
    · rename_i hl
      cases hz
      have l1 := r1.len
      have l2 := r2.len
      refine .inr (.inr (.inr ⟨_, _, _, _, rfl, rfl, hp, hq, lim_size (by omega), fun e1 => ?_, fun n1 e2 => ?_, fun n1 n2 u nu => ?_⟩))
      · subst e1
        cases r1
        exact k _ G H (At.start e l) (.tup g2 r2 z2)
      · subst e2
        cases r2
        simp only [List.append_nil] at k
        exact k _ G H (At.start e l) (.tup g1 r1 z1)
      · have a2 := At.new (o := .tup (xs ++ ys)) e l nu
        exact k _ _ _ a2 (.tup (.inl upd_same) ((r1.app r2).up a2.gg) (by rw [List.length_append]; exact hl))
    · cases hz
def fSub : D → D → Option D := fInt fun i j => some (.int (i - j))
theorem o_sub : OpS Γ L gDif fSub := fun t G H x y dx dy z l e rx ry hz Q k => by
  cases dx <;> cases dy <;> try (cases hz; done)
  obtain rfl := int_of rx
  obtain rfl := int_of ry
  cases hz
  exact ⟨_, _, rfl, rfl, k _ G H (At.start e l) (.int _)⟩
def smI (i : Int) : Bool := decide (-18446744073709551616 < i) && decide (i < 18446744073709551616)
def fMul : D → D → Option D
  | .int i, .int j => if smI i || smI j then some (.int (i * j)) else none
  | .lst a, .int k => if decide (-1000000 ≤ k) && decide (k ≤ 1000000) && decide (a.length * k.toNat ≤ LIM) then some (.lst (List.replicate k.toNat a).flatten) else none
  | _, _ => none
theorem smI_ok {i : Int} (h : smI i = true) : -(2 ^ 64) < i ∧ i < 2 ^ 64 := by
  unfold smI at h
  rw [Bool.and_eq_true, decide_eq_true_eq, decide_eq_true_eq] at h
  exact h
theorem RepL.rep {G : Hp} {v : List V} {d : List D} (h : RepL Γ L G v d) : ∀ k : Nat, RepL Γ L G (List.replicate k v).flatten (List.replicate k d).flatten
  | 0 => .nil
  | k + 1 => by
    rw [List.replicate_succ, List.replicate_succ, List.flatten_cons, List.flatten_cons]
    exact h.app (RepL.rep h k)
theorem o_mul : OpS Γ L gMul fMul := fun t G H x y dx dy z l e rx ry hz Q k => by
  cases dx <;> cases dy <;> try (cases hz; done)
  · obtain rfl := int_of rx
    obtain rfl := int_of ry
    unfold fMul at hz
    dsimp only at hz
    split at hz
    · rename_i hs
      cases hz
      rw [Bool.or_eq_true] at hs
      exact .inl ⟨_, _, rfl, rfl, hs.imp smI_ok smI_ok, k _ G H (At.start e l) (.int _)⟩
    · cases hz
  · obtain ⟨p, xs, rfl, hp, r1, z1⟩ := lst_of e rx
    obtain rfl := int_of ry
    unfold fMul at hz
    dsimp only at hz
    split at hz
    · rename_i ds i hs
      cases hz
      rw [Bool.and_eq_true, Bool.and_eq_true, decide_eq_true_eq, decide_eq_true_eq, decide_eq_true_eq] at hs
      obtain ⟨⟨h1, h2⟩, h3⟩ := hs
      refine .inr (.inr ⟨_, _, _, rfl, rfl, hp, by omega, by omega, lim_size (by rw [r1.len]; exact h3), fun u nu => ?_⟩)
      have a2 := At.new (o := .lst (List.replicate i.toNat xs).flatten) e l nu
      refine k _ _ _ a2 (.lst upd_same ((r1.rep _).up a2.gg) ?_)
      rw [List.length_flatten, List.map_replicate, List.sum_replicate_nat, Nat.mul_comm]
      exact h3
    · cases hz
def fFdiv : D → D → Option D := fInt fun i j => if decide (0 < j) && decide (j < 18446744073709551616) then some (.int (i / j)) else none
def fMod : D → D → Option D := fInt fun i j => if 0 < j then some (.int (i % j)) else none
def fPow : D → D → Option D := fInt fun i j => if decide (0 ≤ j) && decide (j ≤ 1000) && smI i then some (.int (i ^ j.toNat)) else none
theorem o_fdiv : OpS Γ L gFdiv fFdiv := fun t G H x y dx dy z l e rx ry hz Q k => by
  cases dx <;> cases dy <;> try (cases hz; done)
  obtain rfl := int_of rx
  obtain rfl := int_of ry
  unfold fFdiv fInt at hz
  dsimp only at hz
  split at hz
  · rename_i i j hs
    cases hz
    rw [Bool.and_eq_true, decide_eq_true_eq, decide_eq_true_eq] at hs
    refine ⟨_, _, rfl, rfl, wide_div hs.1 (b := 64) ?_ (by decide) (by decide), k _ G H (At.start e l) (.int _)⟩
    omega
  · cases hz
theorem o_mod : OpS Γ L gMod fMod := fun t G H x y dx dy z l e rx ry hz Q k => by
  cases dx <;> cases dy <;> try (cases hz; done)
  obtain rfl := int_of rx
  obtain rfl := int_of ry
  unfold fMod fInt at hz
  dsimp only at hz
  split at hz
  · rename_i hs
    cases hz
    exact ⟨_, _, rfl, rfl, hs, k _ G H (At.start e l) (.int _)⟩
  · cases hz
theorem o_pow : OpS Γ L gPow fPow := fun t G H x y dx dy z l e rx ry hz Q k => by
  cases dx <;> cases dy <;> try (cases hz; done)
  obtain rfl := int_of rx
  obtain rfl := int_of ry
  unfold fPow fInt at hz
  dsimp only at hz
  split at hz
  · rename_i i j hs
    cases hz
    rw [Bool.and_eq_true, Bool.and_eq_true, decide_eq_true_eq, decide_eq_true_eq] at hs
    obtain ⟨⟨h1, h2⟩, h3⟩ := hs
    have h4 := smI_ok h3
    exact ⟨_, _, rfl, rfl, ⟨h1, by omega, by omega⟩, k _ G H (At.start e l) (.int _)⟩
  · cases hz
def fCmp (f : Int → Int → Bool) : D → D → Option D := fInt fun i j => some (.bl (f i j))
theorem o_cmp {f : Int → Int → Bool} : OpS Γ L (rI0 fun i j => .bl (f i j)) (fCmp f) := fun t G H x y dx dy z l e rx ry hz Q k => by
  cases dx <;> cases dy <;> try (cases hz; done)
  obtain rfl := int_of rx
  obtain rfl := int_of ry
  cases hz
  exact ⟨_, _, rfl, rfl, k _ G H (At.start e l) (.bl _)⟩
def fLt : D → D → Option D := fCmp fun i j => decide (i < j)
def fLe : D → D → Option D := fCmp fun i j => decide (i ≤ j)
def fGt : D → D → Option D := fCmp fun i j => decide (j < i)
def fGe : D → D → Option D := fCmp fun i j => decide (j ≤ i)
theorem o_lt : OpS Γ L gLt fLt := o_cmp
theorem o_le : OpS Γ L gLe fLe := o_cmp
theorem o_gt : OpS Γ L gGt fGt := o_cmp
theorem o_ge : OpS Γ L gGe fGe := o_cmp
def fNeg : D → Option D
  | .int i => some (.int (-i))
  | _ => none
theorem o_neg : UnS Γ L gNeg fNeg := fun t G H x dx z l e rx hz Q k => by
  cases dx <;> try (cases hz; done)
  obtain rfl := int_of rx
  cases hz
  exact ⟨_, rfl, k _ G H (At.start e l) (.int _)⟩
def isN : D → Bool
  | .non => true
  | _ => false
theorem isN_rep {G H : Hp} {v : V} {d : D} (h : RepT Γ L G H v d) : decide (v = .non) = isN d := by
  rcases h with h | ⟨p, rfl, h, _⟩
  · cases h <;> simp [isN]
  · cases h <;> simp [isN]
def fIs (x y : D) : Option D := if isN y then some (.bl (isN x)) else none
def fIsNot (x y : D) : Option D := if isN y then some (.bl (!isN x)) else none
theorem o_is : OpS Γ L gIs fIs := fun t G H x y dx dy z l e rx ry hz Q k => by
  unfold fIs at hz
  split at hz
  · rename_i h
    cases hz
    cases dy <;> try (cases h; done)
    obtain rfl := non_of ry
    refine ⟨rfl, ?_⟩
    rw [isN_rep rx]
    exact k _ G H (At.start e l) (.bl _)
  · cases hz
theorem o_isNot : OpS Γ L gIsNot fIsNot := fun t G H x y dx dy z l e rx ry hz Q k => by
  unfold fIsNot at hz
  split at hz
  · rename_i h
    cases hz
    cases dy <;> try (cases h; done)
    obtain rfl := non_of ry
    refine ⟨rfl, ?_⟩
    rw [isN_rep rx]
    exact k _ G H (At.start e l) (.bl _)
  · cases hz
/-! ### dicts -/
def keyD : D → Option Key
  | .int i => some (.inl i)
  | .str x => some (.inr x)
  | _ => none
def valD (kvs : List (Key × D)) (k : Key) : Option D := (kvs.find? fun kv => decide (kv.1 = k)).map (·.2)
theorem key_of' {G H : Hp} {v : V} {d : D} {k : Key} (r : RepT Γ L G H v d) (h : keyD d = some k) : v = kV k := by
  cases d <;> try (cases h; done)
  · cases h; exact int_of r
  · cases h; exact (str_of r).1
theorem RepK.val {G : Hp} (k : Key) : ∀ {xs : List (Key × V)} {ds : List (Key × D)}, RepK Γ L G xs ds → (valD ds k = none ∧ valV xs k = none) ∨ ∃ v d, valD ds k = some d ∧ valV xs k = some v ∧ Rep Γ L G v d
  | _, _, .nil => .inl ⟨rfl, rfl⟩
  | _, _, .cons (k := k') (v := v) (d := d) (vs := vs) (ds := ds) h t => by
    by_cases e : k' = k
    · refine .inr ⟨v, d, ?_, ?_, h⟩
      · show ((((k', d) :: ds).find? fun kv => decide (kv.1 = k)).map (·.2)) = _
        rw [List.find?_cons_of_pos (by simp [e])]; rfl
      · exact valV_pos (p := (k', v)) e
    · have h1 : valD ((k', d) :: ds) k = valD ds k := by
        show ((((k', d) :: ds).find? fun kv => decide (kv.1 = k)).map (·.2)) = _
        rw [List.find?_cons_of_neg (by simp [e])]; rfl
      have h2 : valV ((k', v) :: vs) k = valV vs k := valV_neg (p := (k', v)) e
      rw [h1, h2]
      exact RepK.val k t
/-! ### in -/
def flatD : D → Bool
  | .non => true
  | .bl _ => true
  | .int _ => true
  | .str _ => true
  | _ => false
def vOf : D → V
  | .non => .non
  | .bl b => .bl b
  | .int i => .int i
  | .str x => .str x
  | _ => .non
theorem flat_rep {G H : Hp} {v : V} {d : D} (r : RepT Γ L G H v d) (h : flatD d = true) : v = vOf d := by
  rcases r with r | ⟨p, rfl, o, _⟩
  · cases r <;> first | rfl | cases h
  · cases o <;> cases h
theorem flatV_vOf (d : D) (h : flatD d = true) : flatV (vOf d) = true := by cases d <;> first | rfl | cases h
theorem eqV_vOf (x y : D) (h : flatD x = true) (h' : flatD y = true) : eqV (vOf x) (vOf y) = deq 0 x y := by cases x <;> cases y <;> first | rfl | (cases h; done) | (cases h'; done)
theorem flatL {G H : Hp} : ∀ {vs : List V} {ds : List D}, RepL Γ L G vs ds → ds.all flatD = true → vs = ds.map vOf ∧ vs.all flatV = true
  | _, _, .nil, _ => ⟨rfl, rfl⟩
  | _, _, .cons h t, q => by
    rw [List.all_cons, Bool.and_eq_true] at q
    obtain ⟨a, b⟩ := flatL (H := H) t q.2
    have e := flat_rep (H := H) h.t q.1
    refine ⟨by rw [List.map_cons, ← a, ← e], ?_⟩
    rw [List.all_cons, e, flatV_vOf _ q.1, b]
    rfl
theorem inV_vOf (x : D) (h : flatD x = true) : ∀ ds : List D, ds.all flatD = true → inV (vOf x) (ds.map vOf) = ds.any fun y => deq 0 y x
  | [], _ => rfl
  | d :: ds, q => by
    rw [List.all_cons, Bool.and_eq_true] at q
    have ih := inV_vOf x h ds q.2
    unfold inV at ih ⊢
    rw [List.map_cons, List.any_cons, List.any_cons, ih, eqV_vOf _ _ q.1 h]
def inD (x : D) : D → Option Bool
  | .tup ys => if flatD x && ys.all flatD then some (ys.any fun y => deq 0 y x) else none
  | .lst ys => if plD DEP x && plD (DEP + 1) (.lst ys) then some (ys.any fun y => deq DEP y x) else none
  | .str z => match x with
    | .str a => if a.length = 1 then some (decide (a.cps.getD 0 0 ∈ z.cps.toList)) else none
    | _ => none
  | .dct kvs => match keyD x with
    | some k => some (valD kvs k).isSome
    | none => none
  | _ => none
def fIn (x y : D) : Option D := (inD x y).map .bl
def fNotIn (x y : D) : Option D := (inD x y).map fun b => .bl (!b)
theorem in_gen {G H : Hp} {x y : V} {dx dy : D} {b : Bool} (e : Exf G H) (rx : RepT Γ L G H x dx) (ry : RepT Γ L G H y dy) (hz : inD dx dy = some b) (Q : VK) :
    (Q (.bl b) H → gIn Γ.K x y H Q) ∧ (Q (.bl (!b)) H → gNotIn Γ.K x y H Q) := by
  cases dy <;> try (cases hz; done)
  · -- in a text
    rename_i z
    cases dx <;> try (cases hz; done)
    rename_i a
    unfold inD at hz
    dsimp only at hz
    split at hz
    · rename_i hl
      cases hz
      obtain ⟨rfl, _⟩ := str_of rx
      obtain ⟨rfl, _⟩ := str_of ry
      have ea : a = ⟨#[a.cps.getD 0 0]⟩ := by
        obtain ⟨cps⟩ := a
        obtain ⟨l⟩ := cps
        match l, hl with
        | [u], _ => rfl
      exact ⟨fun h => .inr (.inl ⟨_, _, by rw [← ea], rfl, h⟩), fun h => .inr (.inl ⟨_, _, by rw [← ea], rfl, h⟩)⟩
    · cases hz
  · rename_i ys
    unfold inD at hz
    dsimp only at hz
    split at hz
    · rename_i hp
      cases hz
      rw [Bool.and_eq_true] at hp
      obtain ⟨a1, a2, a3⟩ := dpT_of e rx hp.1
      obtain ⟨b1, b2, b3⟩ := dpT_of e ry hp.2
      have ea : ((ys.map (pyD DEP)).any fun z => PyData.eqv z (pyD DEP dx)) = ys.any fun y => deq DEP y dx := by
        have hy : ys.all (plD DEP) = true := hp.2
        have hx := hp.1
        rw [List.any_map]
        clear b1 b2 b3 ry hp
        induction ys with
        | nil => rfl
        | cons w ws ih =>
          rw [List.all_cons, Bool.and_eq_true] at hy
          rw [List.any_cons, List.any_cons, ih hy.2]
          show (PyData.eqv (pyD DEP w) (pyD DEP dx) || _) = _
          rw [eqv_deq _ _ _ hy.1 hx]
      refine ⟨fun h => .inr (.inr (.inr ⟨_, _, a1, b1, shaped_of a2 a3 (by decide), shaped_of b2 b3 (by decide), ?_⟩)), fun h => .inr (.inr (.inr ⟨_, _, a1, b1, shaped_of a2 a3 (by decide), shaped_of b2 b3 (by decide), ?_⟩))⟩
      · rw [ea]; exact h
      · rw [ea]; exact h
    · cases hz
  · rename_i ys
    unfold inD at hz
    dsimp only at hz
    split at hz
    · rename_i hp
      cases hz
      rw [Bool.and_eq_true] at hp
      obtain ⟨p, xs, rfl, hq, r, _, _⟩ := tup_of e ry
      obtain ⟨e1, f1⟩ := flatL (H := H) r hp.2
      have e2 := flat_rep rx hp.1
      subst e1
      subst e2
      have hi := inV_vOf dx hp.1 ys hp.2
      refine ⟨fun h => .inl ⟨p, _, rfl, .inr hq, flatV_vOf _ hp.1, f1, ?_⟩, fun h => .inl ⟨p, _, rfl, .inr hq, flatV_vOf _ hp.1, f1, ?_⟩⟩
      · show Q (.bl (inV (vOf dx) (ys.map vOf))) H
        rw [hi]; exact h
      · show Q (.bl (!inV (vOf dx) (ys.map vOf))) H
        rw [hi]; exact h
    · cases hz
  · rename_i kvs
    unfold inD at hz
    dsimp only at hz
    split at hz
    · rename_i k hk
      cases hz
      obtain ⟨p, xs, rfl, hq, r, _⟩ := dct_of e ry
      have ek := key_of' rx hk
      subst ek
      have hv : (valV xs k).isSome = (valD kvs k).isSome := by
        rcases r.val k with ⟨h1, h2⟩ | ⟨v, d, h1, h2, _⟩
        · rw [h1, h2]; rfl
        · rw [h1, h2]; rfl
      refine ⟨fun h => .inr (.inr (.inl ⟨p, _, rfl, .inl ⟨xs, k, hq, rfl, rfl⟩, ?_⟩)), fun h => .inr (.inr (.inl ⟨p, _, rfl, .inl ⟨xs, k, hq, rfl, rfl⟩, ?_⟩))⟩
      · rw [hv]; exact h
      · rw [hv]; exact h
    · cases hz
theorem o_in : OpS Γ L (gIn Γ.K) fIn := fun t G H x y dx dy z l e rx ry hz Q k => by
  obtain ⟨b, hb, ez⟩ := Option.map_eq_some_iff.mp hz
  subst ez
  exact (in_gen e rx ry hb Q).1 (k _ G H (At.start e l) (.bl _))
theorem o_notIn : OpS Γ L (gNotIn Γ.K) fNotIn := fun t G H x y dx dy z l e rx ry hz Q k => by
  obtain ⟨b, hb, ez⟩ := Option.map_eq_some_iff.mp hz
  subst ez
  exact (in_gen e rx ry hb Q).2 (k _ G H (At.start e l) (.bl _))
/-! ### x[i] -/
def fIx : D → D → Option D
  | .lst xs, .int i => atI xs i
  | .tup xs, .int i => atI xs i
  | .str s, .int i => (atI s.cps.toList i).map fun c => .str ⟨#[c]⟩
  | .dct kvs, k => match keyD k with
    | some k => valD kvs k
    | none => none
  | _, _ => none
theorem atI_rep {G : Hp} {xs : List V} {ds : List D} {i : Int} {d : D} (r : RepL Γ L G xs ds) (h : atI ds i = some d) : ∃ v, atI xs i = some v ∧ Rep Γ L G v d := by
  unfold atI at h ⊢
  rw [r.len]
  cases hx : ixN ds.length i with
  | none => rw [hx] at h; cases h
  | some j =>
    rw [hx] at h
    obtain ⟨v, hv, rv⟩ := r.at_ h
    exact ⟨v, hv, rv⟩
theorem o_ix : OpS Γ L (gIx Γ.K) fIx := fun t G H x y dx dy z l e rx ry hz Q k => by
  have dc : ∀ kvs, dx = .dct kvs → gIx Γ.K x y H Q := fun kvs ed => by
    subst ed
    unfold fIx at hz
    dsimp only at hz
    split at hz
    · rename_i kk hk
      obtain ⟨p, xs, rfl, hq, r, _⟩ := dct_of e rx
      have ek := key_of' ry hk
      subst ek
      rcases r.val kk with ⟨h1, h2⟩ | ⟨v, d, h1, h2, rv⟩
      · rw [h1] at hz; cases hz
      · rw [h1] at hz; cases hz
        exact .inr ⟨p, v, rfl, .inl ⟨xs, kk, hq, rfl, h2.symm⟩, k v G H (At.start e l) rv⟩
    · cases hz
  cases dx with
  | dct kvs => exact dc kvs rfl
  | lst xs =>
    cases dy <;> try (cases hz; done)
    obtain ⟨p, vs, rfl, hp, r1, z1⟩ := lst_of e rx
    obtain rfl := int_of ry
    obtain ⟨v, hv, rv⟩ := atI_rep r1 hz
    exact .inl (.inl ⟨p, vs, _, v, rfl, rfl, SqL.of hp, hv, k v G H (At.start e l) rv⟩)
  | tup xs =>
    cases dy <;> try (cases hz; done)
    obtain ⟨p, vs, rfl, hp, r1, z1, _⟩ := tup_of e rx
    obtain rfl := int_of ry
    obtain ⟨v, hv, rv⟩ := atI_rep r1 hz
    exact .inl (.inr (.inl ⟨p, vs, _, v, rfl, rfl, hp, hv, k v G H (At.start e l) rv⟩))
  | str s =>
    cases dy <;> try (cases hz; done)
    obtain ⟨rfl, zs⟩ := str_of rx
    obtain rfl := int_of ry
    obtain ⟨cc, hc, ec⟩ := Option.map_eq_some_iff.mp hz
    subst ec
    refine .inl (.inr (.inr ⟨s, _, cc, rfl, rfl, lim_size (okStr_len zs), hc, k _ G H (At.start e l) (.str (okStr_one ?_))⟩))
    obtain ⟨j, _, hj, _⟩ := atI_get hc
    exact okStr_cp zs (by
      have := List.mem_of_getElem? hj
      simpa using this)
  | _ => cases hz
end
end GP

set_option Elab.async false
set_option linter.all false
set_option maxRecDepth 100000
set_option maxHeartbeats 4000000
/-! G6: further readings with their rules: truth, calls of built-ins, slices, texts, stores, keywords; and their data. -/
namespace GP
open PySem PySem.Spec PyProof.Rows L2
/-! ### truth -/
def tTru (K : FK) (te : TE) : TT := fun σ H Q => te σ H fun x H' => ∃ k, TruV K x H' k ∧ Q k H'
theorem pt_tru {X : Cx} {a : Expr} {ta : TE} (ha : PE X a ta) (he : ∀ whole, isTrue a X.env whole = (do let v ← whole; standAt a.pos; holding [v] (truthy v))) : PT X a (tTru X.K ta) := pt_truth ha he
def truD : D → Option Bool
  | .non => some false
  | .bl b => some b
  | .int i => some (i != 0)
  | .str x => some (x.length != 0)
  | .lst xs => some (!xs.isEmpty)
  | .tup xs => some (!xs.isEmpty)
  | _ => none
def dTru (de : DE) : DT := fun δ P => de δ fun d => match truD d with
  | some b => P b
  | none => False
section
variable {Γ : Cn} {L : LS} {c c1 c2 c3 n : Nat} {te ta tb : TE} {de da db : DE} {tt tu : TT} {dt du : DT} {ts tv : TS} {ds dv : DQ} {tA : TA} {dA : DA}
theorem isEmpty_rep {G : Hp} {xs : List V} {ys : List GP.D} (r : RepL Γ L G xs ys) : xs.isEmpty = ys.isEmpty := by cases r <;> rfl
theorem s_tru (h : ST Γ L c te de) : SB Γ L c (tTru Γ.K te) (dTru de) := fun t σ δ B G H l x e hc P hp Q k => by
  refine h t σ δ B G H l x e hc _ hp _ fun v d G1 H1 a1 r1 q1 => ?_
  split at q1
  · rename_i b hb
    refine ⟨b, ?_, k b G1 H1 a1 q1⟩
    cases d with
    | non => obtain rfl := non_of r1; cases hb; rfl
    | bl b' => obtain rfl := bl_of r1; cases hb; rfl
    | int i => obtain rfl := int_of r1; cases hb; rfl
    | str s =>
      obtain ⟨rfl, z⟩ := str_of r1
      cases hb
      refine ⟨lim_size (okStr_len z), ?_⟩
      cases hs : s.length with
      | zero => rfl
      | succ m =>
        have h1 : (m + 1 != 0) = true := by simp
        have h2 : (((m + 1 : Nat) : Int) != 0) = true := by simp; omega
        rw [h1, h2]
    | lst xs =>
      obtain ⟨p, ys, rfl, hp', r, _⟩ := lst_of a1.gh r1
      cases hb
      exact .inl ⟨ys, SqL.of hp', by rw [isEmpty_rep r]⟩
    | tup xs =>
      obtain ⟨p, ys, rfl, hp', r, _⟩ := tup_of a1.gh r1
      cases hb
      exact .inr (.inl ⟨ys, hp', by rw [isEmpty_rep r]⟩)
    | _ => cases hb
  · exact q1.elim
end
/-! ### built-in functions: readings and rules -/
def gLen (K : FK) : List V → Hp → VK → Prop := fun xs H Q => (∃ x n, xs = [x] ∧ LenV K x H n ∧ Q (.int n) H) ∨ ∃ a kvs, xs = [.ref a] ∧ Rd H a (.dK kvs) ∧ Q (.int kvs.length) H
def gIsi (K : FK) : List V → Hp → VK → Prop := fun xs H Q => rIsi K xs H Q ∨ rIsiT K xs H Q ∨ rIsiK K xs H Q
def gList (K : FK) : List V → Hp → VK → Prop := fun xs H Q => (∃ p ys, xs = [.ref p] ∧ (SqL K H p ys ∨ SqT K H p ys) ∧ ∀ l, H l = none → Q (.ref l) (upd H l (.lst ys))) ∨ rListD xs H Q
def gTuple (K : FK) : List V → Hp → VK → Prop := fun xs H Q => ∃ p ys, xs = [.ref p] ∧ ((SqL K H p ys ∧ ∀ l, H l = none → Q (.ref l) (upd H l (.tup ys))) ∨ (SqT K H p ys ∧ Q (.ref p) H))
def gMin (K : FK) : List V → Hp → VK → Prop := fun xs H Q => rMin K xs H Q ∨ ∃ i j, xs = [.int i, .int j] ∧ Q (.int (if j < i then j else i)) H
def gMax (K : FK) : List V → Hp → VK → Prop := fun xs H Q => rMax K xs H Q ∨ ∃ i j, xs = [.int i, .int j] ∧ Q (.int (if j > i then j else i)) H
def gStr : List V → Hp → VK → Prop := fun xs H Q => ∃ i, xs = [.int i] ∧ i.natAbs.log2 < 1920 ∧ Q (.str (toString i)) H
def gRepr (K : FK) : List V → Hp → VK → Prop := fun xs H Q => ∃ x d, xs = [x] ∧ Dp K H x d ∧ d.canLay0 = true ∧ d.showable = true ∧ d.depth ≤ 40 ∧ d.shown.length ≤ sizeLine ∧ Q (.str d.shown) H
section
variable {X : Cx}
theorem g_len : CallR X (.builtin "len") (gLen X.K) := call_len.or (by
  intro pins s σ H xs us Q I r h
  obtain ⟨a, kvs, rfl, ha, q⟩ := h
  obtain ⟨u, rfl, ru⟩ := vals1 r
  cases ru
  exact d_len I ha fun t s1 J => ⟨.int kvs.length, H, J, ⟨t, rfl⟩, q⟩)
theorem g_isi : CallR X (.builtin "isinstance") (gIsi X.K) := call_isi.or (call_isiT.or call_isiK)
theorem g_list (hc : X.calm = true) : CallR X (.type "list") (gList X.K) := call_list_of.or (call_list_dK hc)
theorem g_tuple (hc : X.calm = true) : CallR X (.type "tuple") (gTuple X.K) := call_tuple_of
theorem g_min (hc : X.calm = true) : CallR X (.builtin "min") (gMin X.K) := (cr_min hc).or (call_min2 hc)
theorem g_max (hc : X.calm = true) : CallR X (.builtin "max") (gMax X.K) := (cr_max hc).or (call_max2 hc)
theorem g_str : CallR X (.type "str") gStr := call_str_int
theorem g_repr {k : Nat} (hr : RG k X.A) : CallR X (.builtin "repr") (gRepr X.K) := by
  intro pins s σ H xs us Q I r h
  obtain ⟨x, d, rfl, hd, hl, hs, hdp, hz, q⟩ := h
  obtain ⟨u, rfl, ru⟩ := vals1 r
  have hun := hr.rm.units
  cases hd with
  | non =>
    obtain rfl : u = Value.none := ru
    exact P.repr_of_none ⟨.str "None", H, I.tok _, ⟨_, rfl⟩, q⟩
  | bl b =>
    obtain rfl : u = Value.bool b := ru
    exact P.repr_of_bool ⟨.str (PyData.bool b).shown, H, I.tok _, ⟨s.toks, by cases b <;> rfl⟩, q⟩
  | int i =>
    obtain ⟨t, rfl⟩ := ru
    refine P.repr_of_int ?_ ⟨.str (toString i), H, I.tok _, ⟨_, rfl⟩, q⟩
    exact of_decide_eq_true hs
  | str z =>
    obtain ⟨t, rfl⟩ := ru
    exact P.repr_of_str ⟨.str (reprText z), H, I.tok _, ⟨_, rfl⟩, q⟩ hz
  | lst h1 h2 =>
    rename_i a ys ds
    obtain rfl : u = Value.ref a := ru
    obtain ⟨as, rd⟩ := Dp.reads I _ _ (Value.ref a) (Dp.lst h1 h2) rfl
    exact repr_of_reads' rd hs (PyData.noDict_hsm (PyData.hasDict_of_canLay _ hl)) hr.gd (by omega) (fun _ _ e => e) (fun h1 u tk kk => ⟨.str _, H, I.kept kk, ⟨_, rfl⟩, q⟩) hz
  | tup h1 h2 =>
    rename_i a ys ds
    obtain rfl : u = Value.ref a := ru
    obtain ⟨as, rd⟩ := Dp.reads I _ _ (Value.ref a) (Dp.tup h1 h2) rfl
    exact repr_of_reads' rd hs (PyData.noDict_hsm (PyData.hasDict_of_canLay _ hl)) hr.gd (by omega) (fun _ _ e => e) (fun h1 u tk kk => ⟨.str _, H, I.kept kk, ⟨_, rfl⟩, q⟩) hz
theorem pi_gen {tg e : Expr} {te : TE} (h : PE X e te) : PI X tg e (gIter X.K te) := by
  refine ⟨fun pins s σ H R I hw => thn (h.run pins s σ H _ I hw) fun v s1 z => ?_⟩
  obtain ⟨x, H1, I1, r1, q1⟩ := z
  rcases q1 with ⟨a, rfl, ⟨xs, hq⟩, q⟩ | ⟨a, rfl, ⟨xs, hq⟩, q⟩ | ⟨y, rfl, q⟩
  · obtain rfl : v = Value.ref a := r1
    obtain ⟨its, rv, p, hz⟩ := I1.list hq
    exact wpAny_pyIter_list p.isList (pi_one (tk := s1.toks) I1 _ (turn_list a _) ⟨_, Heap.get?_push_size _ rfl, rfl, rfl⟩ q)
  · obtain rfl : v = Value.ref a := r1
    obtain ⟨its, rv, p, hz⟩ := I1.tuple hq
    exact wpAny_pyIter_tuple (show s1.heap.IsTuple a its.toArray from p) (pi_one (tk := s1.toks) I1 _ (turn_tuple a _) ⟨_, Heap.get?_push_size _ rfl, rfl, rfl⟩ q)
  · obtain ⟨t, rfl⟩ := r1
    by_cases ha : y.cps.all (· < 128) = true
    · exact wpAny_pyIter_ascii ha (pi_one (tk := s1.toks) I1 _ (turn_str _ y t "str_ascii_iterator" (.inl rfl)) ⟨_, Heap.get?_push_size _ rfl, rfl, rfl⟩ q)
    · exact wpAny_pyIter_wide (Bool.not_eq_true _ ▸ ha) (pi_one (tk := s1.toks) I1 _ (turn_str _ y t "str_iterator" (.inr rfl)) ⟨_, Heap.get?_push_size _ rfl, rfl, rfl⟩ q)
end
end GP

set_option Elab.async false
set_option linter.all false
set_option maxRecDepth 100000
set_option maxHeartbeats 4000000
/-! G7: built-in calls, slices, texts, parallel assignments and stores on data; a def by its data. -/
namespace GP
open PySem PySem.Spec PyProof.Rows L2
section
variable {Γ : Cn} {L : LS} {c c1 c2 c3 n : Nat} {te ta tb : TE} {de da db : DE} {tt tu : TT} {dt du : DT} {ts tv : TS} {ds dv : DQ} {tA : TA} {dA : DA}
theorem one_of {G H : Hp} {xs : List V} {d : D} (h : RepTL Γ L G H xs [d]) : ∃ v, xs = [v] ∧ RepT Γ L G H v d := by
  cases h with
  | cons h t => cases t; exact ⟨_, rfl, h⟩
theorem two_of {G H : Hp} {xs : List V} {d e : D} (h : RepTL Γ L G H xs [d, e]) : ∃ v w, xs = [v, w] ∧ RepT Γ L G H v d ∧ RepT Γ L G H w e := by
  cases h with
  | cons h t => cases t with
    | cons h2 t => cases t; exact ⟨_, _, rfl, h, h2⟩
/-! ### len -/
def fLen : List D → Option D
  | [.str x] => some (.int x.length)
  | [.lst xs] => some (.int xs.length)
  | [.tup xs] => some (.int xs.length)
  | [.dct xs] => some (.int xs.length)
  | _ => none
theorem RepK.len {G : Hp} : ∀ {v : List (Key × V)} {d : List (Key × D)}, RepK Γ L G v d → v.length = d.length
  | _, _, .nil => rfl
  | _, _, .cons _ t => congrArg (· + 1) (RepK.len t)
theorem k_len : CallS Γ L (gLen Γ.K) fLen := fun t G H xs ds z l e r0 hz Q k => by
  unfold fLen at hz
  split at hz
  · cases hz
    obtain ⟨v, rfl, r⟩ := one_of r0
    obtain ⟨rfl, zs⟩ := str_of r
    exact .inl ⟨_, _, rfl, ⟨lim_size (okStr_len zs), rfl⟩, k _ G H (At.start e l) (.int _)⟩
  · cases hz
    obtain ⟨v, rfl, r⟩ := one_of r0
    obtain ⟨p, ys, rfl, hp, r1, z1⟩ := lst_of e r
    exact .inl ⟨_, _, rfl, .inl ⟨ys, SqL.of hp, rfl⟩, by rw [r1.len]; exact k _ G H (At.start e l) (.int _)⟩
  · cases hz
    obtain ⟨v, rfl, r⟩ := one_of r0
    obtain ⟨p, ys, rfl, hp, r1, z1, _⟩ := tup_of e r
    exact .inl ⟨_, _, rfl, .inr ⟨ys, hp, rfl⟩, by rw [r1.len]; exact k _ G H (At.start e l) (.int _)⟩
  · cases hz
    obtain ⟨v, rfl, r⟩ := one_of r0
    obtain ⟨p, ys, rfl, hp, r1, z1⟩ := dct_of e r
    exact .inr ⟨_, _, rfl, hp, by rw [r1.len]; exact k _ G H (At.start e l) (.int _)⟩
  · cases hz
/-! ### isinstance, of built-in classes -/
def tyNm : D → Option String
  | .non => some "NoneType"
  | .bl _ => some "bool"
  | .int _ => some "int"
  | .str _ => some "str"
  | .lst _ => some "list"
  | .tup _ => some "tuple"
  | .dct _ => some "dict"
  | _ => none
def isTy (a b : String) : Option Bool := if ["str", "int", "bool", "list", "tuple", "dict"].contains b then some (a == b || (a == "bool" && b == "int")) else none
theorem kitB_all : (["NoneType", "bool", "int", "str", "list", "tuple", "dict"].all fun a => ["str", "int", "bool", "list", "tuple", "dict"].all fun b => kitB a b == some (a == b || (a == "bool" && b == "int"))) = true := by decide +kernel
theorem kit_is {K : FK} {a b : String} {r : Bool} (ha : a ∈ ["NoneType", "bool", "int", "str", "list", "tuple", "dict"]) (h : isTy a b = some r) : PySem.W.kitOne K (.type a) (.type b) = some r := by
  unfold isTy at h
  split at h
  · rename_i hb
    have h1 := List.all_eq_true.mp kitB_all a ha
    have h2 := List.all_eq_true.mp h1 b (by simpa using hb)
    have h3 : kitB a b = some (a == b || (a == "bool" && b == "int")) := by simpa using h2
    rw [h] at h3
    exact kit_ty h3
  · cases h
theorem ty_of {G H : Hp} (x : Exf G H) {v : V} {d : D} {a : String} (r : RepT Γ L G H v d) (h : tyNm d = some a) : TyX Γ.K H v (.type a) ∧ a ∈ ["NoneType", "bool", "int", "str", "list", "tuple", "dict"] := by
  cases d with
  | non => obtain rfl := non_of r; cases h; exact ⟨.base .non, by decide⟩
  | bl b => obtain rfl := bl_of r; cases h; exact ⟨.base (.bl b), by decide⟩
  | int i => obtain rfl := int_of r; cases h; exact ⟨.base (.int i), by decide⟩
  | str s => obtain ⟨rfl, _⟩ := str_of r; cases h; exact ⟨.base (.str s), by decide⟩
  | lst xs => obtain ⟨p, ys, rfl, hp, _⟩ := lst_of x r; cases h; exact ⟨.base (.lst hp), by decide⟩
  | tup xs =>
    obtain ⟨p, ys, rfl, hp, _⟩ := tup_of x r
    cases h
    refine ⟨?_, by decide⟩
    rcases hp with (hp | ⟨o, hp⟩) | ⟨o, its, n, hk, hcl, _⟩
    · exact .base (.tup hp)
    · exact .fTuple hp
    · exact .kTuple hk hcl
  | dct xs =>
    obtain ⟨p, ys, rfl, hp, _⟩ := dct_of x r
    cases h
    refine ⟨?_, by decide⟩
    rcases hp with hp | ⟨o, hp⟩
    · exact .base (.dK hp)
    · exact .fDict hp
  | _ => cases h
def tysD : List D → Option (List String)
  | [] => some []
  | .ty a :: r => (tysD r).map (a :: ·)
  | _ => none
def anyTy (a : String) : List String → Option Bool
  | [] => some false
  | b :: r => match isTy a b with
    | some true => some true
    | some false => anyTy a r
    | none => none
def fIsi : List D → Option D
  | [d, .ty b] => match tyNm d with
    | some a => (isTy a b).map .bl
    | none => none
  | [d, .tup cs] => match tyNm d, tysD cs with
    | some a, some bs => (anyTy a bs).map .bl
    | _, _ => none
  | _ => none
theorem tys_rep {G : Hp} : ∀ {vs : List V} {ds : List D} {bs : List String}, RepL Γ L G vs ds → tysD ds = some bs → vs = bs.map V.ty ∧ Paired ClsV vs (bs.map Value.type)
  | _, _, _, .nil, h => by cases h; exact ⟨rfl, .nil⟩
  | _, _, _, .cons (d := d) hr t, h => by
    cases d <;> try (cases h; done)
    obtain ⟨bs', hb, eb⟩ := Option.map_eq_some_iff.mp h
    subst eb
    cases hr
    obtain ⟨e1, p1⟩ := tys_rep t hb
    exact ⟨by rw [e1]; rfl, .cons (.ty _) p1⟩
theorem kit_any {K : FK} {a : String} (ha : a ∈ ["NoneType", "bool", "int", "str", "list", "tuple", "dict"]) : ∀ {bs : List String} {r : Bool}, anyTy a bs = some r → PySem.W.kitAny K (.type a) (bs.map Value.type) = some r
  | [], r, h => by cases h; exact kitAny_nil
  | b :: bs, r, h => by
    unfold anyTy at h
    split at h
    · rename_i hb; cases h; exact kitAny_cons (kit_is ha hb) (fun z => by cases z) (fun _ => rfl)
    · rename_i hb; exact kitAny_cons (kit_is ha hb) (fun _ => kit_any ha h) (fun z => by cases z)
    · cases h
theorem k_isi : CallS Γ L (gIsi Γ.K) fIsi := fun t G H xs ds z l e r0 hz Q k => by
  unfold fIsi at hz
  split at hz
  · split at hz
    · rename_i a ha
      obtain ⟨b, hb, ez⟩ := Option.map_eq_some_iff.mp hz
      subst ez
      obtain ⟨v, w, rfl, r1, r2⟩ := two_of r0
      obtain ⟨ty, hm⟩ := ty_of e r1 ha
      rcases r2 with r2 | ⟨p, _, o, _⟩
      · cases r2
        exact .inl ⟨_, _, _, _, b, rfl, .ty _, ty, kit_is hm hb, k _ G H (At.start e l) (.bl _)⟩
      · cases o
    · cases hz
  · split at hz
    · rename_i a bs ha hbs
      obtain ⟨b, hb, ez⟩ := Option.map_eq_some_iff.mp hz
      subst ez
      obtain ⟨v, w, rfl, r1, r2⟩ := two_of r0
      obtain ⟨ty, hm⟩ := ty_of e r1 ha
      rcases r2 with r2 | ⟨p, _, o, _⟩
      · cases r2 with
        | tup hh rr zz =>
          obtain ⟨e1, p1⟩ := tys_rep rr hbs
          rcases hh with hh | ⟨o, its, n, hk, hcl, hd, _, hv⟩
          · rcases e _ _ hh with q | ⟨_, _, q, _⟩
            · exact .inr (.inl ⟨_, _, _, _, _, b, rfl, q, p1, ty, kit_any hm hb, k _ G H (At.start e l) (.bl _)⟩)
            · cases q
          · obtain ⟨ocl, odd, oda, osl⟩ := o
            dsimp only at hcl hd
            subst hcl
            subst hd
            have eu : its.toList = bs.map Value.type := ClsV.all p1 hv
            have ei : its = (bs.map Value.type).toArray := by rw [← eu]
            rw [ei] at hk
            exact .inr (.inr ⟨_, _, _, bs.map Value.type, _, _, _, b, rfl, hk, ty, kit_any hm hb, k _ G H (At.start e l) (.bl _)⟩)
      · cases o
    · cases hz
  · cases hz
end
end GP

set_option Elab.async false
set_option linter.all false
set_option maxRecDepth 100000
set_option maxHeartbeats 4000000
/-! G8: further built-in calls, slices, texts, stores, a def by its data. -/
namespace GP
open PySem PySem.Spec PyProof.Rows L2
section
variable {Γ : Cn} {L : LS} {c c1 c2 c3 n : Nat} {te ta tb : TE} {de da db : DE} {tt tu : TT} {dt du : DT} {ts tv : TS} {ds dv : DQ} {tA : TA} {dA : DA}
/-! ### list(..), tuple(..) -/
def fList : List D → Option D
  | [.lst xs] => some (.lst xs)
  | [.tup xs] => some (.lst xs)
  | _ => none
theorem k_list : CallF Γ L (gList Γ.K) fList := fun t G H xs ds z l e r0 hz Q k => by
  unfold fList at hz
  split at hz
  · cases hz
    obtain ⟨v, rfl, r⟩ := one_of r0
    obtain ⟨p, ys, rfl, hp, r1, z1⟩ := lst_of e r
    exact .inl ⟨_, _, rfl, .inl (SqL.of hp), fun q nq => k q _ _ (At.newH e l nq) nq (.lst upd_same r1 z1) (e.none nq)⟩
  · cases hz
    obtain ⟨v, rfl, r⟩ := one_of r0
    obtain ⟨p, ys, rfl, hp, r1, z1, _⟩ := tup_of e r
    exact .inl ⟨_, _, rfl, .inr hp, fun q nq => k q _ _ (At.newH e l nq) nq (.lst upd_same r1 z1) (e.none nq)⟩
  · cases hz
def fTuple : List D → Option D
  | [.lst xs] => some (.tup xs)
  | [.tup xs] => some (.tup xs)
  | _ => none
theorem k_tuple : CallS Γ L (gTuple Γ.K) fTuple := fun t G H xs ds z l e r0 hz Q k => by
  unfold fTuple at hz
  split at hz
  · cases hz
    obtain ⟨v, rfl, r⟩ := one_of r0
    obtain ⟨p, ys, rfl, hp, r1, z1⟩ := lst_of e r
    refine ⟨_, _, rfl, .inl ⟨SqL.of hp, fun q nq => ?_⟩⟩
    have a2 := At.new (o := .tup ys) e l nq
    exact k _ _ _ a2 (.tup (.inl upd_same) (r1.up a2.gg) z1)
  · cases hz
    obtain ⟨v, rfl, r⟩ := one_of r0
    obtain ⟨p, ys, rfl, hp, r1, z1, g1⟩ := tup_of e r
    exact ⟨_, _, rfl, .inr ⟨hp, k _ G H (At.start e l) (.tup g1 r1 z1)⟩⟩
  · cases hz
/-! ### all, any, sum, min, max -/
def blsD : List D → Option (List Bool)
  | [] => some []
  | .bl a :: r => (blsD r).map (a :: ·)
  | _ => none
def intsD : List D → Option (List Int)
  | [] => some []
  | .int a :: r => (intsD r).map (a :: ·)
  | _ => none
def strsD : List D → Option (List Str)
  | [] => some []
  | .str a :: r => (strsD r).map (a :: ·)
  | _ => none
theorem bls_rep {G : Hp} : ∀ {vs : List V} {ds : List D} {bs : List Bool}, RepL Γ L G vs ds → blsD ds = some bs → vs = bs.map V.bl
  | _, _, _, .nil, h => by cases h; rfl
  | _, _, _, .cons (d := d) hr t, h => by
    cases d <;> try (cases h; done)
    obtain ⟨bs', hb, eb⟩ := Option.map_eq_some_iff.mp h
    subst eb
    cases hr
    rw [bls_rep t hb]; rfl
theorem ints_rep {G : Hp} : ∀ {vs : List V} {ds : List D} {bs : List Int}, RepL Γ L G vs ds → intsD ds = some bs → vs = bs.map V.int
  | _, _, _, .nil, h => by cases h; rfl
  | _, _, _, .cons (d := d) hr t, h => by
    cases d <;> try (cases h; done)
    obtain ⟨bs', hb, eb⟩ := Option.map_eq_some_iff.mp h
    subst eb
    cases hr
    rw [ints_rep t hb]; rfl
theorem strs_rep {G : Hp} : ∀ {vs : List V} {ds : List D} {bs : List Str}, RepL Γ L G vs ds → strsD ds = some bs → vs = bs.map V.str ∧ ∀ x ∈ bs, okStr x = true
  | _, _, _, .nil, h => by cases h; exact ⟨rfl, fun _ m => by cases m⟩
  | _, _, _, .cons (d := d) hr t, h => by
    cases d <;> try (cases h; done)
    obtain ⟨bs', hb, eb⟩ := Option.map_eq_some_iff.mp h
    subst eb
    cases hr with
    | str z =>
      obtain ⟨e1, e2⟩ := strs_rep t hb
      refine ⟨by rw [e1]; rfl, fun x m => ?_⟩
      rcases List.mem_cons.mp m with h | h
      · rw [h]; exact z
      · exact e2 x h
def fAll : List D → Option D
  | [.lst xs] => (blsD xs).map fun bs => .bl (bs.all id)
  | _ => none
def fAny : List D → Option D
  | [.lst xs] => (blsD xs).map fun bs => .bl (bs.any id)
  | _ => none
def fSum : List D → Option D
  | [.lst xs] => (intsD xs).map fun bs => .int bs.sum
  | _ => none
def minL : List Int → Option Int
  | [] => none
  | [x] => some x
  | x :: r => (minL r).map fun m => if x ≤ m then x else m
def fMin : List D → Option D
  | [.lst xs] => match intsD xs with
    | some bs => (minL bs).map .int
    | none => none
  | [.int i, .int j] => some (.int (if j < i then j else i))
  | _ => none
def fMax2 : List D → Option D
  | [.int i, .int j] => some (.int (if j > i then j else i))
  | _ => none
theorem k_all : CallS Γ L (rAll Γ.K) fAll := fun t G H xs ds z l e r0 hz Q k => by
  unfold fAll at hz
  split at hz
  · obtain ⟨bs, hb, ez⟩ := Option.map_eq_some_iff.mp hz
    subst ez
    obtain ⟨v, rfl, r⟩ := one_of r0
    obtain ⟨p, ys, rfl, hp, r1, z1⟩ := lst_of e r
    have ey := bls_rep r1 hb
    subst ey
    exact ⟨_, bs, rfl, SqL.of hp, k _ G H (At.start e l) (.bl _)⟩
  · cases hz
theorem k_any : CallS Γ L (rAny Γ.K) fAny := fun t G H xs ds z l e r0 hz Q k => by
  unfold fAny at hz
  split at hz
  · obtain ⟨bs, hb, ez⟩ := Option.map_eq_some_iff.mp hz
    subst ez
    obtain ⟨v, rfl, r⟩ := one_of r0
    obtain ⟨p, ys, rfl, hp, r1, z1⟩ := lst_of e r
    have ey := bls_rep r1 hb
    subst ey
    exact ⟨_, bs, rfl, SqL.of hp, k _ G H (At.start e l) (.bl _)⟩
  · cases hz
theorem k_sum : CallS Γ L (rSum Γ.K) fSum := fun t G H xs ds z l e r0 hz Q k => by
  unfold fSum at hz
  split at hz
  · obtain ⟨bs, hb, ez⟩ := Option.map_eq_some_iff.mp hz
    subst ez
    obtain ⟨v, rfl, r⟩ := one_of r0
    obtain ⟨p, ys, rfl, hp, r1, z1⟩ := lst_of e r
    have ey := ints_rep r1 hb
    subst ey
    exact ⟨_, bs, rfl, SqL.of hp, k _ G H (At.start e l) (.int _)⟩
  · cases hz
theorem minL_le : ∀ {l : List Int} {m : Int}, minL l = some m → m ∈ l ∧ ∀ y ∈ l, m ≤ y
  | [], _, h => by cases h
  | [x], m, h => by
    cases h
    exact ⟨List.mem_singleton.mpr rfl, fun y hy => by rw [List.mem_singleton.mp hy]; exact Int.le_refl _⟩
  | x :: y :: r, m, h => by
    obtain ⟨m', hm, em⟩ := Option.map_eq_some_iff.mp h
    obtain ⟨h1, h2⟩ := minL_le hm
    subst em
    split
    · rename_i hx
      refine ⟨List.mem_cons_self, fun w hw => ?_⟩
      rcases List.mem_cons.mp hw with e | e
      · rw [e]; exact Int.le_refl _
      · exact Int.le_trans hx (h2 w e)
    · rename_i hx
      refine ⟨List.mem_cons_of_mem _ h1, fun w hw => ?_⟩
      rcases List.mem_cons.mp hw with e | e
      · rw [e]; omega
      · exact h2 w e
theorem k_min : CallS Γ L (gMin Γ.K) fMin := fun t G H xs ds z l e r0 hz Q k => by
  unfold fMin at hz
  split at hz
  · split at hz
    · rename_i bs hb
      obtain ⟨m, hm, ez⟩ := Option.map_eq_some_iff.mp hz
      subst ez
      obtain ⟨v, rfl, r⟩ := one_of r0
      obtain ⟨p, ys, rfl, hp, r1, z1⟩ := lst_of e r
      have ey := ints_rep r1 hb
      subst ey
      obtain ⟨h1, h2⟩ := minL_le hm
      refine .inl ⟨_, bs, rfl, SqL.of hp, List.length_pos_of_mem h1, fun w hw hle => ?_⟩
      have ew : w = m := Int.le_antisymm (hle m h1) (h2 w hw)
      subst ew
      exact k _ G H (At.start e l) (.int _)
    · cases hz
  · cases hz
    obtain ⟨v, w, rfl, r1, r2⟩ := two_of r0
    obtain rfl := int_of r1
    obtain rfl := int_of r2
    exact .inr ⟨_, _, rfl, k _ G H (At.start e l) (.int _)⟩
  · cases hz
theorem k_max : CallS Γ L (gMax Γ.K) fMax2 := fun t G H xs ds z l e r0 hz Q k => by
  unfold fMax2 at hz
  split at hz
  · cases hz
    obtain ⟨v, w, rfl, r1, r2⟩ := two_of r0
    obtain rfl := int_of r1
    obtain rfl := int_of r2
    exact .inr ⟨_, _, rfl, k _ G H (At.start e l) (.int _)⟩
  · cases hz
/-! ### str, repr -/
def fStr : List D → Option D
  | [.int i] => if smI i && okStr (toString i) then some (.str (toString i)) else none
  | _ => none
theorem smI_log {i : Int} (h : smI i = true) : i.natAbs.log2 < 1920 := by
  have h1 := smI_ok h
  have h2 : i.natAbs < 2 ^ 64 := by omega
  by_cases z : i.natAbs = 0
  · rw [z]; decide
  · have := (Nat.log2_lt z).mpr h2
    omega
theorem k_str : CallS Γ L gStr fStr := fun t G H xs ds z l e r0 hz Q k => by
  unfold fStr at hz
  split at hz
  · split at hz
    · rename_i hs
      cases hz
      rw [Bool.and_eq_true] at hs
      obtain ⟨v, rfl, r⟩ := one_of r0
      obtain rfl := int_of r
      exact ⟨_, rfl, smI_log hs.1, k _ G H (At.start e l) (.str hs.2)⟩
    · cases hz
  · cases hz
def fRepr : List D → Option D
  | [d] => if plD DEP d && (pyD DEP d).showable && decide ((pyD DEP d).shown.length ≤ sizeLine) then some (.raw (pyD DEP d).shown) else none
  | _ => none
theorem k_repr : CallS Γ L (gRepr Γ.K) fRepr := fun t G H xs ds z l e r0 hz Q k => by
  unfold fRepr at hz
  split at hz
  · split at hz
    · rename_i hs
      cases hz
      rw [Bool.and_eq_true, Bool.and_eq_true, decide_eq_true_eq] at hs
      obtain ⟨⟨h1, h2⟩, h3⟩ := hs
      obtain ⟨v, rfl, r⟩ := one_of r0
      obtain ⟨a1, a2, a3⟩ := dpT_of e r h1
      exact ⟨_, _, rfl, a1, a2, h2, Nat.le_trans a3 (by decide), h3, k _ G H (At.start e l) (.raw _)⟩
    · cases hz
  · cases hz
/-! ### slices -/
abbrev DO := DS → (Option Int → Prop) → Prop
def SO (Γ : Cn) (L : LS) (c : Nat) (to : TO) (d : DO) : Prop := ∀ (t : Nat) (σ : L2.St) (δ : DS) (B G H : Hp), LawAt L t G H → Exf G H → Env Γ L B G H σ δ → t + c ≤ TMAX → ∀ P : Option Int → Prop, d δ P → ∀ Q : Option Int → Hp → Prop,
  (∀ o G' H', At L (t + c) H G G' H' → P o → Q o H') → to σ H Q
def dNoPart : DO := fun _ P => P none
def dPart (d : DE) : DO := fun δ P => d δ fun x => match x with
  | .int i => P (some i)
  | _ => False
theorem s_noPart : SO Γ L 0 tNoPart dNoPart := fun t σ δ B G H l x e hc P hp Q k => k none G H (At.start x l) hp
theorem s_part (h : ST Γ L c te de) : SO Γ L c (tPart te) (dPart de) := fun t σ δ B G H l x e hc P hp Q k => by
  refine h t σ δ B G H l x e hc _ hp _ fun v d G1 H1 a1 r1 q1 => ?_
  cases d with
  | int i => obtain rfl := int_of r1; exact ⟨i, rfl, k _ G1 H1 a1 q1⟩
  | _ => exact q1.elim
def cutD {α : Type} (xs : List α) (lo hi : Option Int) : List α := (xs.drop (HT.sIx xs.length 0 lo)).take (HT.sIx xs.length xs.length hi - HT.sIx xs.length 0 lo)
def fSl (lo hi : Option Int) : D → Option D
  | .lst xs => some (.lst (cutD xs lo hi))
  | .tup xs => some (.tup (cutD xs lo hi))
  | .str s => some (.str ⟨(cutD s.cps.toList lo hi).toArray⟩)
  | _ => none
theorem cutD_len {α : Type} (xs : List α) (lo hi : Option Int) : (cutD xs lo hi).length ≤ xs.length := by
  unfold cutD
  rw [List.length_take, List.length_drop]
  omega
theorem cutD_sub {α : Type} (xs : List α) (lo hi : Option Int) {x : α} (h : x ∈ cutD xs lo hi) : x ∈ xs := List.mem_of_mem_drop (List.mem_of_mem_take h)
theorem cutD_whole {α : Type} (xs : List α) (lo hi : Option Int) (h : HT.sIx xs.length 0 lo = 0 ∧ HT.sIx xs.length xs.length hi = xs.length) : cutD xs lo hi = xs := by
  unfold cutD
  rw [h.1, h.2]
  simp
theorem cut_rep {G : Hp} {vs : List V} {ds : List D} (r : RepL Γ L G vs ds) (lo hi : Option Int) : RepL Γ L G (cutV vs lo hi) (cutD ds lo hi) := by
  unfold cutV cutD
  rw [r.len]
  exact (r.drop _).take _
def dSl (d : DE) (lo hi : DO) : DE := fun δ P => d δ fun x => lo δ fun l => hi δ fun h => match fSl l h x with
  | some z => P z
  | none => False
theorem s_sl {tl th : TO} {dl dh : DO} (h : ST Γ L c1 te de) (hl : SO Γ L c2 tl dl) (hh : SO Γ L c3 th dh) : SE Γ L (c1 + (c2 + c3)) (tSl (gSl Γ.K) te tl th) (dSl de dl dh) := fun t σ δ B G H l x e hc P hp Q k => by
  refine h t σ δ B G H l x e (by omega) _ hp _ fun v d G1 H1 a1 r1 q1 => ?_
  refine hl (t + c1) σ δ B G1 H1 a1.lw a1.gh (e.step a1) (by omega) _ q1 _ fun lo G2 H2 a2 q2 => ?_
  refine hh (t + c1 + c2) σ δ B G2 H2 a2.lw a2.gh ((e.step a1).step a2) (by omega) _ q2 _ fun hi G3 H3 a3 q3 => ?_
  have r3 := (r1.step a2).step a3
  have a := (a1.tr a2).tr a3
  have ec : t + c1 + c2 + c3 = t + (c1 + (c2 + c3)) := by omega
  rw [ec] at a
  split at q3
  · rename_i z hz
    cases d with
    | lst xs =>
      cases hz
      obtain ⟨p, ys, rfl, hp', r, zz⟩ := lst_of a.gh r3
      refine .inl ⟨_, _, rfl, SqL.of hp', fun q nq => ?_⟩
      have a4 := At.new (o := .lst (cutV ys lo hi)) a.gh a.lw nq
      exact k _ _ _ _ (a.tr a4) (.lst upd_same ((cut_rep r lo hi).up a4.gg) (Nat.le_trans (cutD_len _ _ _) zz)) q3
    | tup xs =>
      cases hz
      obtain ⟨p, ys, rfl, hp', r, zz, g0⟩ := tup_of a.gh r3
      refine .inr (.inl ⟨_, _, rfl, hp', fun hw => ?_, fun hw q nq => ?_⟩)
      · rw [r.len] at hw
        rw [cutD_whole _ _ _ hw] at q3
        exact k _ _ _ _ a (.tup g0 r zz) q3
      · have a4 := At.new (o := .tup (cutV ys lo hi)) a.gh a.lw nq
        exact k _ _ _ _ (a.tr a4) (.tup (.inl upd_same) ((cut_rep r lo hi).up a4.gg) (Nat.le_trans (cutD_len _ _ _) zz)) q3
    | str s =>
      cases hz
      obtain ⟨rfl, zs⟩ := str_of r3
      refine .inr (.inr ⟨s, rfl, lim_size (okStr_len zs), ?_⟩)
      have ek : cutS s lo hi = ⟨(cutD s.cps.toList lo hi).toArray⟩ := by
        unfold cutS cutD
        rw [Array.length_toList]
        rfl
      rw [ek]
      refine k _ _ _ _ a (.str (okStr_of ?_ ?_)) q3
      · have h1 := cutD_len s.cps.toList lo hi
        rw [Array.length_toList] at h1
        have h2 := okStr_len zs
        show ((cutD s.cps.toList lo hi).toArray).size ≤ LIM
        rw [List.size_toArray]
        exact Nat.le_trans h1 h2
      · intro cc hcc
        have := cutD_sub _ _ _ (List.mem_toArray.mp hcc)
        exact okStr_cp zs (by simpa using this)
    | _ => cases hz
  · exact q3.elim
/-! ### texts -/
def gSplit : V → List V → Hp → VK → Prop := fun x xs H Q => ∃ a b, x = .str a ∧ xs = [.str b] ∧ (b.length == 0) = false ∧ a.length + 2 ≤ sizeLine ∧ rNewStrs (Txt.split a b) H Q
def gJoin (K : FK) : V → List V → Hp → VK → Prop := fun x xs H Q => ∃ a p, ∃ ys : List Str, x = .str a ∧ xs = [.ref p] ∧ (SqL K H p (ys.map V.str) ∨ SqT K H p (ys.map V.str)) ∧ (ys.map (·.length)).sum + ys.length * a.length ≤ 16777216 ∧ Q (.str (Txt.join a ys)) H
theorem pe_splitG {X : Cx} {o e : Expr} {to te : TE} {apos pos : Pos} (ho : PE X o to) (he : PE X e te) (hs : starEach [e] X.env = [(false, eval e X.env)] := by rfl) (hb : attributeBase o "split" X.env (eval o X.env) = eval o X.env := by rfl) (hl : (apos.endLine == pos.line) = true := by rfl) :
    PE X (.Call (.Attribute o "split" apos) [e] [] pos) (tM1 gSplit to te) := pe_split ho he hs hb hl
theorem pe_joinG {X : Cx} {o e : Expr} {to te : TE} {apos pos : Pos} (ho : PE X o to) (he : PE X e te) (hs : starEach [e] X.env = [(false, eval e X.env)] := by rfl) (hb : attributeBase o "join" X.env (eval o X.env) = eval o X.env := by rfl) (hl : (apos.endLine == pos.line) = true := by rfl) :
    PE X (.Call (.Attribute o "join" apos) [e] [] pos) (tM1 (gJoin X.K) to te) := pe_join ho he hs hb hl
def dM1 (f : Str → D → Option D) (a b : DE) : DE := fun δ P => a δ fun x => match x with
  | .str s => b δ fun y => match f s y with
    | some z => P z
    | none => False
  | _ => False
def MtS (Γ : Cn) (L : LS) (r : V → List V → Hp → VK → Prop) (f : Str → D → Option D) : Prop := ∀ (t : Nat) (G H : Hp) (s : Str) (y : V) (dy z : D), LawAt L t G H → Exf G H → okStr s = true → RepT Γ L G H y dy → f s dy = some z → ∀ Q : VK,
  (∀ v G' H', At L t H G G' H' → Rep Γ L G' v z → Q v H') → r (.str s) [y] H Q
theorem s_m1 {r : V → List V → Hp → VK → Prop} {f : Str → D → Option D} (ho : MtS Γ L r f) (ha : ST Γ L c1 ta da) (hb : ST Γ L c2 tb db) : SE Γ L (c1 + c2) (tM1 r ta tb) (dM1 f da db) := fun t σ δ B G H l x e hc P hp Q k => by
  refine ha t σ δ B G H l x e (by omega) _ hp _ fun v d G1 H1 a1 r1 q1 => ?_
  cases d with
  | str s =>
    obtain ⟨rfl, zs⟩ := str_of r1
    refine ⟨⟨s, rfl⟩, hb (t + c1) σ δ B G1 H1 a1.lw a1.gh (e.step a1) (by omega) _ q1 _ fun w d2 G2 H2 a2 r2 q2 => ?_⟩
    split at q2
    · rename_i z hz
      exact ho (t + c1 + c2) G2 H2 s w d2 z a2.lw a2.gh zs r2 hz Q fun u G3 H3 a3 r3 => k u z G3 H3 (by rw [← Nat.add_assoc]; exact (a1.tr a2).tr a3) r3 q2
    · exact q2.elim
  | _ => exact q1.elim
def fSplit (s : Str) : D → Option D
  | .str b => if (b.length != 0) && (Txt.split s b).all okStr && decide ((Txt.split s b).length ≤ LIM) then some (.lst ((Txt.split s b).map .str)) else none
  | _ => none
theorem RepL.strs {G : Hp} : ∀ {xs : List Str}, xs.all okStr = true → RepL Γ L G (xs.map V.str) (xs.map GP.D.str)
  | [], _ => .nil
  | x :: xs, h => by
    rw [List.all_cons, Bool.and_eq_true] at h
    exact .cons (.str h.1) (RepL.strs h.2)
theorem m_split : MtS Γ L gSplit fSplit := fun t G H s y dy z l e zs ry hz Q k => by
  cases dy <;> try (cases hz; done)
  unfold fSplit at hz
  dsimp only at hz
  split at hz
  · rename_i b hs
    cases hz
    obtain ⟨rfl, zb⟩ := str_of ry
    rw [Bool.and_eq_true, Bool.and_eq_true, decide_eq_true_eq] at hs
    obtain ⟨⟨h1, h2⟩, h3⟩ := hs
    refine ⟨s, b, rfl, rfl, by simpa using h1, ?_, fun p np => ?_⟩
    · have := okStr_len zs
      exact Nat.le_trans (show s.length + 2 ≤ LIM + 2 by omega) (by rw [sizeLine_eq]; decide)
    · have a2 := At.new (o := .lst ((Txt.split s b).map V.str)) e l np
      exact k _ _ _ a2 (.lst upd_same (RepL.strs h2) (by rw [List.length_map]; exact h3))
  · cases hz
def fJoin (s : Str) : D → Option D
  | .lst xs => match strsD xs with
    | some ys => if decide ((ys.map (·.length)).sum + ys.length * s.length ≤ LIM) && okStr (Txt.join s ys) then some (.str (Txt.join s ys)) else none
    | none => none
  | _ => none
theorem m_join : MtS Γ L (gJoin Γ.K) fJoin := fun t G H s y dy z l e zs ry hz Q k => by
  cases dy <;> try (cases hz; done)
  unfold fJoin at hz
  dsimp only at hz
  split at hz
  · rename_i ys hys
    split at hz
    · rename_i hs
      cases hz
      rw [Bool.and_eq_true, decide_eq_true_eq] at hs
      obtain ⟨p, vs, rfl, hp, r, _⟩ := lst_of e ry
      obtain ⟨ev, _⟩ := strs_rep r hys
      subst ev
      exact ⟨s, p, ys, rfl, rfl, .inl (SqL.of hp), Nat.le_trans hs.1 (by decide), k _ G H (At.start e l) (.str hs.2)⟩
    · cases hz
  · cases hz
end
end GP

set_option Elab.async false
set_option linter.all false
set_option maxRecDepth 100000
set_option maxHeartbeats 4000000
/-! G9: parallel assignments, stores into owned things, keywords, a def by its data. -/
namespace GP
open PySem PySem.Spec PyProof.Rows L2
section
variable {Γ : Cn} {L : LS} {c c1 c2 c3 n : Nat} {te ta tb : TE} {de da db : DE} {tt tu : TT} {dt du : DT} {ts tv : TS} {ds dv : DQ} {tA : TA} {dA : DA}
/-- stable (false) or new (true) -/
def SK (Γ : Cn) (L : LS) (k : Bool) (c : Nat) (te : TE) (de : DE) : Prop := if k = true then SF Γ L c te de else SE Γ L c te de
def mkS (k : Bool) (d : D) : Sl := if k = true then .ow d else .sh d
/-- what an evaluated right side is, until it is stored -/
def Got (Γ : Cn) (L : LS) (H0 G H : Hp) (k : Bool) (v : V) (d : D) : Prop := if k = true then ∃ p, v = .ref p ∧ H0 p = none ∧ OwnAt Γ L G H p d ∧ G p = none ∧ notL L p else Rep Γ L G v d
theorem SK.run {k : Bool} (h : SK Γ L k c te de) (t : Nat) (σ : L2.St) (δ : DS) (B G H : Hp) (l : LawAt L t G H) (x : Exf G H) (e : Env Γ L B G H σ δ) (hc : t + c ≤ TMAX) (P : GP.D → Prop) (hp : de δ P) (Q : VK)
    (kk : ∀ v d G' H', At L (t + c) H G G' H' → Got Γ L H G' H' k v d → P d → Q v H') : te σ H Q := by
  cases k with
  | true => exact SF.out h t σ δ B G H l x e hc P hp Q kk
  | false => exact (show SE Γ L c te de from h) t σ δ B G H l x e hc P hp Q fun v d G' H' a r q => kk v d G' H' a r q
where
  SF.out (h : SF Γ L c te de) (t : Nat) (σ : L2.St) (δ : DS) (B G H : Hp) (l : LawAt L t G H) (x : Exf G H) (e : Env Γ L B G H σ δ) (hc : t + c ≤ TMAX) (P : GP.D → Prop) (hp : de δ P) (Q : VK)
    (kk : ∀ v d G' H', At L (t + c) H G G' H' → Got Γ L H G' H' true v d → P d → Q v H') : te σ H Q :=
    h t σ δ B G H l x e hc P hp Q fun p d G' H' a np o g q => kk (.ref p) d G' H' a ⟨p, rfl, np, o, g, l.out np⟩ q
theorem Got.step {t : Nat} {H0 G H G' H' : Hp} {k : Bool} {v : V} {d : D} (g : Got Γ L H0 G H k v d) (a : At L t H G G' H') : Got Γ L H0 G' H' k v d := by
  cases k with
  | false => exact (show Rep Γ L G v d from g).up a.gg
  | true =>
    obtain ⟨p, rfl, np, o, g, n⟩ := g
    refine ⟨p, rfl, np, o.step a n, ?_, n⟩
    cases z : G' p with
    | none => rfl
    | some u =>
      obtain ⟨w, hw⟩ := o.there
      rcases a.nw p u z with y | y
      · rw [g] at y; cases y
      · rw [hw] at y; cases y
/-- what was got is stored -/
theorem Got.store {t : Nat} {B G0 G H H1 G1 : Hp} {σ : L2.St} {δ : DS} {k : Bool} {v : V} {d : D} (a : At L t B G0 G H) (e : Env Γ L B G1 H1 σ δ) (i : Nat) (g : Got Γ L H G1 H1 k v d)
    (hf : k = true → ∀ (j : Nat) (x : GP.D), δ[j]? = some (some (.ow x)) → σ[j]? ≠ some (some v)) : Env Γ L B G1 H1 (σ.set i (some v)) (δ.set i (some (mkS k d))) := by
  cases k with
  | false => exact e.set i g
  | true =>
    obtain ⟨p, rfl, np, o, g, n⟩ := g
    exact e.own i o (a.old np) g n fun j x _ hx => hf rfl j x hx
def dPar (k1 k2 : Bool) (i j : Nat) (d1 d2 : DE) : DQ := fun N δ => d1 δ fun x => d2 δ fun y => N.nx ((δ.set i (some (mkS k1 x))).set j (some (mkS k2 y)))
theorem Env.freshG {H0 B G H : Hp} {t : Nat} {σ : L2.St} {δ : DS} {v : V} {d : GP.D} {G1 H1 : Hp} (e : Env Γ L B G H σ δ) (g : Got Γ L H G1 H1 true v d) (j : Nat) (x : GP.D) (h : δ[j]? = some (some (.ow x))) : σ[j]? ≠ some (some v) := by
  obtain ⟨p, rfl, np, _⟩ := g
  exact e.fresh np j x h
theorem par_core {t u : Nat} {B G0 G H G1 H1 G2 H2 : Hp} {σ : L2.St} {δ : DS} {k1 k2 : Bool} {v w : V} {x y : GP.D} (i j : Nat) (a : At L t B G0 G H) (e : Env Γ L B G H σ δ) (a1 : At L u H G G1 H1) (g1 : Got Γ L H G1 H1 k1 v x) (a2 : At L u H1 G1 G2 H2) (g2 : Got Γ L H1 G2 H2 k2 w y) :
    Env Γ L B G2 H2 ((σ.set i (some v)).set j (some w)) ((δ.set i (some (mkS k1 x))).set j (some (mkS k2 y))) := by
  have e2 := (e.step a1).step a2
  have s1 : Env Γ L B G2 H2 (σ.set i (some v)) (δ.set i (some (mkS k1 x))) := (g1.step a2).store a e2 i fun hk m z hm => by
    subst hk
    exact Env.freshG (H0 := H) (t := t) e g1 m z hm
  refine Got.store (a.tr a1) s1 j g2 fun hk m z hm => ?_
  subst hk
  obtain ⟨q, rfl, nq, _⟩ := g2
  by_cases im : i = m
  · subst im
    intro hs
    rw [List.getElem?_set] at hs hm
    by_cases l1 : i < σ.length
    · simp [l1] at hs
      subst hs
      have l2 : i < δ.length := by rw [e.len]; exact l1
      simp [l2] at hm
      cases k1 with
      | false => cases hm
      | true =>
        obtain ⟨p, ep, _, o, _⟩ := g1
        cases ep
        obtain ⟨ob, ho⟩ := o.there
        rw [nq] at ho; cases ho
    · simp [l1] at hs
  · rw [List.getElem?_set_ne im] at hm ⊢
    exact (e.step a1).fresh nq m z hm
theorem s_par {k1 k2 : Bool} (i j : Nat) (h1 : SK Γ L k1 c1 ta da) (h2 : SK Γ L k2 c2 tb db) : SS Γ L (c1 + c2) (tPar i j (tCons ta (tCons tb tNil))) (dPar k1 k2 i j da db) := fun t σ δ B G0 G H a e hc N hp D E => by
  refine h1.run t σ δ B G H a.lw a.gh e (by omega) _ hp _ fun v x G1 H1 a1 g1 q1 => ?_
  refine h2.run (t + c1) σ δ B G1 H1 a1.lw a1.gh (e.step a1) (by omega) _ q1 _ fun w y G2 H2 a2 g2 q2 => ?_
  refine ⟨v, w, rfl, E.nx _ _ G2 H2 ?_ (par_core i j a e (a1.le (show t + c1 ≤ t + c1 + c2 by omega)) g1 a2 g2) q2⟩
  rw [← Nat.add_assoc]
  exact (a.tr a1).tr a2
/-- the same by a tuple that is made and taken apart -/
theorem s_parT {k1 k2 : Bool} (i j : Nat) (h1 : SK Γ L k1 c1 ta da) (h2 : SK Γ L k2 c2 tb db) : SS Γ L (c1 + c2) (tAsg (tTup (tCons ta (tCons tb tNil))) (gTup Γ.K 2 (gCons (gName i) (gCons (gName j) gNil)))) (dPar k1 k2 i j da db) := fun t σ δ B G0 G H a e hc N hp D E => by
  refine h1.run t σ δ B G H a.lw a.gh e (by omega) _ hp _ fun v x G1 H1 a1 g1 q1 => ?_
  refine h2.run (t + c1) σ δ B G1 H1 a1.lw a1.gh (e.step a1) (by omega) _ q1 _ fun w y G2 H2 a2 g2 q2 => ?_
  refine ⟨by show 2 ≤ sizeLine; rw [sizeLine_eq]; decide, fun p np => ⟨_, _, rfl, SqT.of upd_same, rfl, _, _, rfl, _, _, rfl, rfl, ?_⟩⟩
  have a3 := At.newH (o := .tup [v, w]) a2.gh a2.lw np
  have e3 := (par_core i j a e (a1.le (show t + c1 ≤ t + c1 + c2 by omega)) g1 a2 g2).step a3
  refine E.nx _ _ G2 _ ?_ e3 q2
  rw [← Nat.add_assoc]
  exact ((a.tr a1).tr a2).tr a3
def dPar3 (k1 k2 k3 : Bool) (i j m : Nat) (d1 d2 d3 : DE) : DQ := fun N δ => d1 δ fun x => d2 δ fun y => d3 δ fun z => N.nx (((δ.set i (some (mkS k1 x))).set j (some (mkS k2 y))).set m (some (mkS k3 z)))
/-! ### stores into what a slot owns -/
def gSet : TSet := fun o i v H Q => rSetL o i v H Q ∨ ∃ a H2, o = .ref a ∧ DPut H a i v H2 ∧ Q H2
theorem g_set {X : Cx} (hu : X.A.units + 1 < cLine) : PSet X gSet := by
  intro pins s σ H o i v ov iv u Q I ro ri rv h
  rcases h with h | ⟨a, H2, rfl, g, q⟩
  · exact set_list pins s σ H o i v ov iv u Q I ro ri rv h
  · obtain rfl : ov = Value.ref a := ro
    exact d_setItem hu I g ri rv fun s1 J => ⟨H2, J, q⟩
def putD (kvs : List (Key × D)) (k : Key) (v : D) : List (Key × D) := if kvs.any (fun kv => decide (kv.1 = k)) then kvs.map (fun kv => if kv.1 = k then (kv.1, v) else kv) else kvs ++ [(k, v)]
def setD (o k v : D) : Option D := match o with
  | .dct kvs => match keyD k with
    | some k => if kvs.length < LIM then some (.dct (putD kvs k v)) else none
    | none => none
  | .lst xs => match k with
    | .int i => (ixN xs.length i).map fun j => .lst (xs.set j v)
    | _ => none
  | _ => none
theorem RepK.anyk {G : Hp} (k : Key) : ∀ {xs : List (Key × V)} {ds : List (Key × GP.D)}, RepK Γ L G xs ds → (xs.any fun kv => decide (kv.1 = k)) = ds.any fun kv => decide (kv.1 = k)
  | _, _, .nil => rfl
  | _, _, .cons h t => by rw [List.any_cons, List.any_cons, RepK.anyk k t]
theorem RepK.mapk {G : Hp} (k : Key) {v : V} {d : GP.D} (rv : Rep Γ L G v d) : ∀ {xs : List (Key × V)} {ds : List (Key × GP.D)}, RepK Γ L G xs ds → RepK Γ L G (xs.map fun kv => if kv.1 = k then (kv.1, v) else kv) (ds.map fun kv => if kv.1 = k then (kv.1, d) else kv)
  | _, _, .nil => .nil
  | _, _, .cons (k := k') h t => by
    rw [List.map_cons, List.map_cons]
    by_cases z : k' = k
    · rw [if_pos z, if_pos z]; exact .cons rv (RepK.mapk k rv t)
    · rw [if_neg z, if_neg z]; exact .cons h (RepK.mapk k rv t)
theorem RepK.snoc {G : Hp} {k : Key} {v : V} {d : GP.D} (rv : Rep Γ L G v d) : ∀ {xs : List (Key × V)} {ds : List (Key × GP.D)}, RepK Γ L G xs ds → RepK Γ L G (xs ++ [(k, v)]) (ds ++ [(k, d)])
  | _, _, .nil => .cons rv .nil
  | _, _, .cons h t => .cons h (RepK.snoc rv t)
theorem RepK.put {G : Hp} {xs : List (Key × V)} {ds : List (Key × D)} (r : RepK Γ L G xs ds) (k : Key) {v : V} {d : GP.D} (rv : Rep Γ L G v d) : RepK Γ L G (putK xs k v) (putD ds k d) := by
  unfold putK putD
  rw [r.anyk k]
  split
  · exact r.mapk k rv
  · exact r.snoc rv
theorem putD_len (kvs : List (Key × D)) (k : Key) (v : GP.D) : (putD kvs k v).length ≤ kvs.length + 1 := by
  unfold putD
  split
  · rw [List.length_map]; omega
  · rw [List.length_append]; exact Nat.le_refl _
/-- x[k] = v, x an owned name -/
def dSetO (i : Nat) (dk dv : DE) : DQ := fun N δ => dv δ fun v => match δ[i]? with
  | some (some (.ow o)) => dk δ fun k => match setD o k v with
    | some o2 => N.nx (δ.set i (some (.ow o2)))
    | none => False
  | _ => False
theorem set_core {t : Nat} {B G0 G H : Hp} {σ : L2.St} {δ : DS} {i : Nat} {o o2 dk dv : GP.D} {p : Addr} {kv vv : V} {N : DN} {D : Ends} (a : At L t B G0 G H) (e : Env Γ L B G H σ δ) (hs : δ[i]? = some (some (.ow o))) (hv : σ[i]? = some (some (.ref p)))
    (rk : RepT Γ L G H kv dk) (rv : Rep Γ L G vv dv) (hz : setD o dk dv = some o2) (q : N.nx (δ.set i (some (.ow o2)))) (E : ∀ σ δ G H, At L t B G0 G H → Env Γ L B G H σ δ → N.nx δ → D.nx σ H) : gSet (.ref p) kv vv H fun H3 => D.nx σ H3 := by
  obtain ⟨p1, hv1, ow, hb, hg, hn⟩ := e.ow i o hs
  rw [hv] at hv1; cases hv1
  cases ow with
  | lst hl r zz =>
    rename_i ys xs
    cases dk <;> try (cases hz; done)
    rename_i ix
    obtain rfl := int_of rk
    obtain ⟨j, hj, ej⟩ := Option.map_eq_some_iff.mp hz
    subst ej
    refine .inl ⟨p, ys, ix, j, rfl, rfl, hl, by rw [r.len]; exact hj, ?_⟩
    exact E _ _ G _ (a.write hb hg hn) (e.write hs hv (.lst upd_same (r.set j rv) (by rw [List.length_set]; exact zz))) q
  | dct hl r zz =>
    rename_i ys xs
    unfold setD at hz
    dsimp only at hz
    split at hz
    · rename_i kk hk
      split at hz
      · rename_i hlt
        cases hz
        have ek := key_of' rk hk
        subst ek
        have hle : ys.length < sizeLine := Nat.lt_of_lt_of_le (by rw [r.len]; exact hlt) (lim_size (Nat.le_refl _))
        refine .inr ⟨p, _, rfl, DPut.k hl hle, ?_⟩
        refine E _ _ G _ (a.write hb hg hn) (e.write hs hv (.dct upd_same (r.put kk rv) ?_)) q
        have := putD_len xs kk dv
        omega
      · cases hz
    · cases hz
theorem s_setO (i : Nat) {tk tv : TE} {dk dv : DE} (h1 : SE Γ L c1 tv dv) (h2 : ST Γ L c2 tk dk) : SS Γ L (c1 + c2) (tAsg tv (L2.gSub (tVar i) tk gSet)) (dSetO i dk dv) := fun t σ δ B G0 G H a e hc N hp D E => by
  refine h1 t σ δ B G H a.lw a.gh e (by omega) _ hp _ fun v x G1 H1 a1 r1 q1 => ?_
  split at q1
  · rename_i o ho
    have e1 := e.step a1
    obtain ⟨p, hv, ow, _⟩ := e1.ow i o ho
    refine ⟨.ref p, hv, h2 (t + c1) σ δ B G1 H1 a1.lw a1.gh e1 (by omega) _ q1 _ fun kv dk G2 H2 a2 r2 q2 => ?_⟩
    split at q2
    · rename_i o2 ho2
      refine set_core ((a.tr a1).tr a2) (e1.step a2) ho hv r2 (r1.up a2.gg) ho2 q2 ?_
      rw [Nat.add_assoc]
      exact E.nx
    · exact q2.elim
  · exact q1.elim
/-- x[k] += v, x an owned dict -/
def dAugO (f : D → D → Option D) (i : Nat) (dk dv : DE) : DQ := fun N δ => match δ[i]? with
  | some (some (.ow (.dct kvs))) => dk δ fun k => match keyD k with
    | some kk => match valD kvs kk with
      | some old => dv δ fun v => match f old v with
        | some z => if kvs.length < LIM then N.nx (δ.set i (some (.ow (.dct (putD kvs kk z))))) else False
        | none => False
      | none => False
    | none => False
  | _ => False
theorem s_augO (i : Nat) {tk tv : TE} {dk dv : DE} {rd : V → V → Hp → VK → Prop} {f : D → D → Option D} (hf : OpS Γ L rd f) (h1 : ST Γ L c1 tk dk) (h2 : ST Γ L c2 tv dv) : SS Γ L (c1 + c2) (sDAug (tVar i) tk tv rd) (dAugO f i dk dv) := fun t σ δ B G0 G H a e hc N hp D E => by
  unfold dAugO at hp
  split at hp
  · rename_i kvs hs
    obtain ⟨p, hv, ow, hb, hg, hn⟩ := e.ow i _ hs
    cases ow with
    | dct hl r zz =>
      rename_i ys
      refine ⟨.ref p, hv, h1 t σ δ B G H a.lw a.gh e (by omega) _ hp _ fun kv dkk G1 H1 a1 r1 q1 => ?_⟩
      split at q1
      · rename_i kk hk
        have ek := key_of' r1 hk
        subst ek
        have r' := r.up a1.gg
        have hl1 := a1.bh p _ hl hn
        rcases r'.val kk with ⟨h3, h4⟩ | ⟨v0, d0, h3, h4, rv0⟩
        · rw [h3] at q1; exact q1.elim
        · rw [h3] at q1
          refine ⟨p, v0, rfl, .inl ⟨ys, kk, .inl hl1, rfl, h4.symm⟩, ?_⟩
          refine h2 (t + c1) σ δ B G1 H1 a1.lw a1.gh (e.step a1) (by omega) _ q1 _ fun v d G2 H2 a2 r2 q2 => ?_
          split at q2
          · rename_i z hz
            split at q2
            · rename_i hlt
              refine hf (t + c1 + c2) G2 H2 v0 v d0 d z a2.lw a2.gh (.inl (rv0.up a2.gg)) r2 hz _ fun w G3 H3 a3 r3 => ?_
              have aa := (a1.tr a2).tr a3
              have hl3 := aa.bh p _ hl hn
              have e3 := ((e.step a1).step a2).step a3
              have hle : ys.length < sizeLine := Nat.lt_of_lt_of_le (by rw [r.len]; exact hlt) (lim_size (Nat.le_refl _))
              refine ⟨_, DPut.k hl3 hle, ?_⟩
              obtain ⟨p3, hv3, _, _, hg3, _⟩ := e3.ow i _ hs
              rw [hv] at hv3; cases hv3
              refine E.nx _ _ G3 _ ?_ (e3.write hs hv (.dct upd_same ((r.up aa.gg).put kk r3) ?_)) q2
              · rw [← Nat.add_assoc]; exact (a.tr aa).write hb hg3 hn
              · have := putD_len kvs kk z
                omega
            · exact q2.elim
          · exact q2.elim
      · exact q1.elim
  · exact hp.elim
theorem o_rAdd : OpS Γ L rAdd (fInt fun i j => some (.int (i + j))) := fun t G H x y dx dy z l e rx ry hz Q k => by
  cases dx <;> cases dy <;> try (cases hz; done)
  obtain rfl := int_of rx
  obtain rfl := int_of ry
  cases hz
  exact ⟨_, _, rfl, rfl, k _ G H (At.start e l) (.int _)⟩
theorem o_rSub : OpS Γ L rSub (fInt fun i j => some (.int (i - j))) := fun t G H x y dx dy z l e rx ry hz Q k => by
  cases dx <;> cases dy <;> try (cases hz; done)
  obtain rfl := int_of rx
  obtain rfl := int_of ry
  cases hz
  exact ⟨_, _, rfl, rfl, k _ G H (At.start e l) (.int _)⟩
/-! ### while -/
def dWhile (t : DT) (b : DQ) : DQ := fun N δ => ∃ W : Nat → DS → Prop, (∃ m, W m δ) ∧ ∀ m δ, W m δ → t δ fun x => if x = true then b { N with nx := fun δ' => ∃ m', m' < m ∧ W m' δ', ct := fun δ' => ∃ m', m' < m ∧ W m' δ', bk := N.nx } δ else N.nx δ
theorem s_while (h : SB Γ L 0 tt dt) (hb : SS Γ L 0 ts ds) : SS Γ L 0 (tWhile tt ts) (dWhile dt ds) := fun t σ δ B G0 G H a e hc N hp D E => by
  obtain ⟨W, ⟨m0, w0⟩, hw⟩ := hp
  refine ⟨fun m σ' H' => ∃ δ' G', At L t B G0 G' H' ∧ Env Γ L B G' H' σ' δ' ∧ W m δ', ⟨m0, δ, G, a, e, w0⟩, ?_⟩
  rintro m σ1 H1 ⟨δ1, G1, a1, e1, w1⟩
  refine h t σ1 δ1 B G1 H1 a1.lw a1.gh e1 (by omega) _ (hw m δ1 w1) _ fun b G2 H2 a2 q => ?_
  cases b with
  | false => exact E.nx σ1 δ1 G2 H2 (a1.tr a2) (e1.step a2) q
  | true =>
    refine ⟨fun σ' H' => ∃ m', m' < m ∧ ∃ δ' G', At L t B G0 G' H' ∧ Env Γ L B G' H' σ' δ' ∧ W m' δ', fun σ' H' z => z, ?_⟩
    exact hb t σ1 δ1 B G0 G2 H2 (a1.tr a2) (e1.step a2) hc _ q _ ⟨fun σ3 δ3 G3 H3 a3 e3 ⟨m', hm, w3⟩ => ⟨m', hm, δ3, G3, a3, e3, w3⟩, fun v d G3 H3 a3 r3 q3 => E.rt v d G3 H3 a3 r3 q3, fun σ3 δ3 G3 H3 a3 e3 q3 => E.nx σ3 δ3 G3 H3 a3 e3 q3, fun σ3 δ3 G3 H3 a3 e3 ⟨m', hm, w3⟩ => ⟨m', hm, δ3, G3, a3, e3, w3⟩⟩
/-! ### a def by its data -/
def startD (n : Nat) (ds : List D) : DS := ds.map (fun d => some (Sl.sh d)) ++ List.replicate (n - ds.length) none
theorem env_start {B G H : Hp} {N : List Str} {vs : List V} {ds : List GP.D} (r : RepL Γ L G vs ds) : Env Γ L B G H (start N vs) (startD N.length ds) := by
  have hl := r.len
  refine ⟨fun i d h => ?_, fun i d h => ?_, fun i j d e p _ h => ?_, ?_⟩
  · unfold startD at h
    by_cases hi : i < ds.length
    · rw [List.getElem?_append_left (by rw [List.length_map]; exact hi), List.getElem?_map] at h
      obtain ⟨d', h1, h2⟩ := Option.map_eq_some_iff.mp h
      cases h2
      obtain ⟨v, hv, rv⟩ := r.at_ h1
      refine ⟨v, ?_, rv⟩
      unfold L2.start
      rw [List.getElem?_append_left (by rw [List.length_map]; omega), List.getElem?_map, hv]
      rfl
    · rw [List.getElem?_append_right (by rw [List.length_map]; omega), List.getElem?_replicate] at h
      split at h <;> cases h
  · unfold startD at h
    by_cases hi : i < ds.length
    · rw [List.getElem?_append_left (by rw [List.length_map]; exact hi), List.getElem?_map] at h
      obtain ⟨d', h1, h2⟩ := Option.map_eq_some_iff.mp h
      cases h2
    · rw [List.getElem?_append_right (by rw [List.length_map]; omega), List.getElem?_replicate] at h
      split at h <;> cases h
  · exfalso
    unfold startD at h
    by_cases hi : i < ds.length
    · rw [List.getElem?_append_left (by rw [List.length_map]; exact hi), List.getElem?_map] at h
      obtain ⟨d', h1, h2⟩ := Option.map_eq_some_iff.mp h
      cases h2
    · rw [List.getElem?_append_right (by rw [List.length_map]; omega), List.getElem?_replicate] at h
      split at h <;> cases h
  · unfold startD L2.start
    rw [List.length_append, List.length_append, List.length_map, List.length_map, List.length_replicate, List.length_replicate, hl]
theorem pure_of {s : DSp} {cf cb k : Nat} {t : TS} {d : DQ} {N : List Str} (snd : ∀ L, SS Γ L cb t d) (hc : cb ≤ cf) (hd : ∀ xs P, xs.length = k → s xs P → d { nx := fun _ => P .non, rt := P } (startD N.length xs)) (vs : List V) (H : Hp) (Q : VK) (E : XK) (h : lift Γ k cf s vs H Q E) :
    t { nx := fun _ H2 => Q .non H2, rt := Q } (start N vs) H := by
  obtain ⟨hl, L, tm, xs, G, P, lw, ht, ex, r, hp, kk⟩ := h
  have a := At.start ex lw
  refine snd L tm (start N vs) (startD N.length xs) H G G H a (env_start r) (by omega) _ (hd xs P (by rw [← r.len]; exact hl) hp) _ ⟨fun σ δ G1 H1 a1 _ q => kk _ q _ G1 H1 (a1.le (by omega)) .non, fun v x G1 H1 a1 r1 q => kk x q v G1 H1 (a1.le (by omega)) r1, fun _ _ _ _ _ _ q => q.elim, fun _ _ _ _ _ _ q => q.elim⟩
theorem lift_len {k cf : Nat} {s : DSp} (vs : List V) (H : Hp) (Q : VK) (E : XK) (h : lift Γ k cf s vs H Q E) : vs.length = k := h.1
end
end GP

set_option Elab.async false
set_option linter.all false
set_option maxRecDepth 100000
set_option maxHeartbeats 4000000
/-! G10: the law's draws: begun, mixed, take, pick. A draw is any number in range. -/
namespace GP
open PySem PySem.Spec PyProof.Rows L2
/-! ### steps of readings -/
section
variable {K : FK} {H : Hp} {Q : VK} {i j : Int}
theorem ix_dk {p : Addr} {kvs : List (Key × V)} {k : Str} {v : V} (h : H p = some (.dK kvs)) (hv : valV kvs (.inr k) = some v) (q : Q v H) : gIx K (.ref p) (.str k) H Q := .inr ⟨p, v, rfl, .inl ⟨kvs, .inr k, .inl h, rfl, hv.symm⟩, q⟩
theorem add_i (q : Q (.int (i + j)) H) : gAdd K (.int i) (.int j) H Q := .inl ⟨i, j, rfl, rfl, q⟩
theorem dif_i (q : Q (.int (i - j)) H) : gDif (.int i) (.int j) H Q := ⟨i, j, rfl, rfl, q⟩
theorem mul_i (h : (-(2 ^ 64) < i ∧ i < 2 ^ 64) ∨ (-(2 ^ 64) < j ∧ j < 2 ^ 64)) (q : Q (.int (i * j)) H) : gMul (.int i) (.int j) H Q := .inl ⟨i, j, rfl, rfl, h, q⟩
theorem fdiv_i (h : CDivW i j) (q : Q (.int (i / j)) H) : gFdiv (.int i) (.int j) H Q := ⟨i, j, rfl, rfl, h, q⟩
theorem mod_i (h : 0 < j) (q : Q (.int (i % j)) H) : gMod (.int i) (.int j) H Q := ⟨i, j, rfl, rfl, h, q⟩
theorem pow_i (h : CPow i j) (q : Q (.int (i ^ j.toNat)) H) : gPow (.int i) (.int j) H Q := ⟨i, j, rfl, rfl, h, q⟩
end
theorem kne1 : ¬ ((Sum.inr ("great" : Str) : Key) = Sum.inr ("turn" : Str)) := by decide +kernel
theorem kne2 : ¬ ((Sum.inr ("cells" : Str) : Key) = Sum.inr ("turn" : Str)) := by decide +kernel
theorem kne3 : ¬ ((Sum.inr ("left" : Str) : Key) = Sum.inr ("turn" : Str)) := by decide +kernel
theorem kne4 : ¬ ((Sum.inr ("great" : Str) : Key) = Sum.inr ("left" : Str)) := by decide +kernel
theorem kne5 : ¬ ((Sum.inr ("cells" : Str) : Key) = Sum.inr ("left" : Str)) := by decide +kernel
theorem kne6 : ¬ ((Sum.inr ("great" : Str) : Key) = Sum.inr ("cells" : Str)) := by decide +kernel
theorem kne7 : ¬ ((Sum.inr ("turn" : Str) : Key) = Sum.inr ("left" : Str)) := by decide +kernel
section
variable {g c : Addr} {l t l' t' : Int}
theorem st_great : valV (stK g c l t) (.inr ("great" : Str)) = some (.ref g) := valV_pos (p := (Sum.inr ("great" : Str), V.ref g)) rfl
theorem st_cells : valV (stK g c l t) (.inr ("cells" : Str)) = some (.ref c) := (valV_neg (p := (Sum.inr ("great" : Str), V.ref g)) kne6).trans (valV_pos (p := (Sum.inr ("cells" : Str), V.ref c)) rfl)
theorem st_left : valV (stK g c l t) (.inr ("left" : Str)) = some (.int l) := (valV_neg (p := (Sum.inr ("great" : Str), V.ref g)) kne4).trans ((valV_neg (p := (Sum.inr ("cells" : Str), V.ref c)) kne5).trans (valV_pos (p := (Sum.inr ("left" : Str), V.int l)) rfl))
theorem st_turn : valV (stK g c l t) (.inr ("turn" : Str)) = some (.int t) := (valV_neg (p := (Sum.inr ("great" : Str), V.ref g)) kne1).trans ((valV_neg (p := (Sum.inr ("cells" : Str), V.ref c)) kne2).trans ((valV_neg (p := (Sum.inr ("left" : Str), V.int l)) kne3).trans (valV_pos (p := (Sum.inr ("turn" : Str), V.int t)) rfl)))
theorem st_putT : putK (stK g c l t) (.inr ("turn" : Str)) (.int t') = stK g c l t' := by
  unfold putK stK
  rw [if_pos (by simp)]
  simp only [List.map_cons, List.map_nil]
  rw [if_neg kne1, if_neg kne2, if_neg kne3, if_pos trivial]
theorem st_putL : putK (stK g c l t) (.inr ("left" : Str)) (.int l') = stK g c l' t := by
  unfold putK stK
  rw [if_pos (by simp)]
  simp only [List.map_cons, List.map_nil]
  rw [if_neg kne4, if_neg kne5, if_neg kne7, if_pos trivial]
theorem st_len : (stK g c l t).length < sizeLine := by rw [sizeLine_eq]; show 4 < 16777216; decide
end
theorem set_dk {H : Hp} {p : Addr} {kvs : List (Key × V)} {k : Str} {v : V} {Q : Hp → Prop} (h : H p = some (.dK kvs)) (hl : kvs.length < sizeLine) (q : Q (upd H p (.dK (putK kvs (.inr k) v)))) : gSet (.ref p) (.str k) v H Q :=
  .inr ⟨p, _, rfl, DPut.k (k := Sum.inr k) h hl, q⟩
def primes : List Int := [2147483629, 2147483587, 2147483579, 2147483563, 2147483549, 2147483543]
/-- mixed: any number from 0 on; the turn is one more -/
def sp_law_mixed (Γ : Cn) : Sp := fun vs H Q _ => vs.length = 1 ∧ ∃ (p g c : Addr) (left turn : Int) (cells : List Int), vs = [.ref p] ∧ H p = some (.dK (stK g c left turn)) ∧ H c = some (.lst (cells.map V.int)) ∧ 0 ≤ turn ∧ turn < (TMAX : Int) ∧
  ∀ (r : Int) (H' : Hp), 0 ≤ r → H' p = some (.dK (stK g c left (turn + 1))) → (∀ a o, H a = some o → a ≠ p → H' a = some o) → Q (.int r) H'
def t_law_mixed (Γ : Cn) : TS := tSeq (tAsg (tOp (gAdd Γ.K) (tOp (gIx Γ.K) (tVar 0) (tC (.str "turn"))) (tC (.int 1))) (gSub (tVar 0) (tC (.str "turn")) gSet)) (tSeq (tAsg (tC (.int 0)) (gName 1)) (tSeq (tFor
   (gIter Γ.K (tLst (tCons (tC (.int 2147483629)) (tCons (tC (.int 2147483587)) (tCons (tC (.int 2147483579)) (tCons (tC (.int 2147483563)) (tCons (tC (.int 2147483549)) (tCons (tC
   (.int 2147483543)) (tNil))))))))) (gName 2) (tSeq (tAsg (tOp (gAdd Γ.K) (tOp (gMul) (tC (.int 69997)) (tOp (gIx Γ.K) (tVar 0) (tC (.str "turn")))) (tOp (gFdiv) (tVar 2) (tC
   (.int 11)))) (gName 3)) (tSeq (tFor (gIter Γ.K (tOp (gIx Γ.K) (tVar 0) (tC (.str "cells")))) (gName 4) (tAsg (tOp (gMod) (tOp (gAdd Γ.K) (tOp (gMul) (tVar 3) (tC (.int 48271)))
   (tVar 4)) (tVar 2)) (gName 3))) (tAsg (tOp (gAdd Γ.K) (tOp (gMul) (tVar 1) (tC (.int 2147483647))) (tOp (gMod) (tOp (gPow) (tVar 3) (tC (.int 5))) (tVar 2))) (gName 1))))) (tRet
   (tVar 1))))
theorem pure_mixed {Γ : Cn} (vs : List V) (H : Hp) (Q : VK) (E : XK) (h : sp_law_mixed Γ vs H Q E) : t_law_mixed Γ { nx := fun _ H2 => Q .non H2, rt := Q } (L2.start ["_law_state", "_law_found", "_law_prime", "_law_blend", "_law_cell"] vs) H := by
  obtain ⟨_, p, g, c, left, turn, cells, rfl, hp, hc, h0, h1, k⟩ := h
  have npc : p ≠ c := ne_of hp hc (by intro z; cases z)
  refine ⟨_, rfl, ix_dk hp st_turn (add_i ⟨_, rfl, set_dk hp st_len ?_⟩)⟩
  rw [st_putT]
  refine ⟨by show 6 ≤ sizeLine; rw [sizeLine_eq]; decide, fun q nq => .inl ⟨q, rfl, ⟨_, SqL.of upd_same⟩, ?_⟩⟩
  have nqp : p ≠ q := fun z => by subst z; rw [upd_same] at nq; cases nq
  have nqc : c ≠ q := fun z => by subst z; rw [upd_ne (Ne.symm npc), hc] at nq; cases nq
  generalize hH2 : upd (upd H p (.dK (stK g c left (turn + 1)))) q (.lst _) = H2
  have hp2 : H2 p = some (.dK (stK g c left (turn + 1))) := by rw [← hH2, upd_ne nqp, upd_same]
  have hc2 : H2 c = some (.lst (cells.map V.int)) := by rw [← hH2, upd_ne nqc, upd_ne (Ne.symm npc)]; exact hc
  have hq2 : H2 q = some (.lst (primes.map V.int)) := by rw [← hH2, upd_same]; rfl
  have keep : ∀ a o, H a = some o → a ≠ p → H2 a = some o := fun a o ha na => by
    have nqa : a ≠ q := fun z => by subst z; rw [upd_ne na, ha] at nq; cases nq
    rw [← hH2, upd_ne nqa, upd_ne na]; exact ha
  refine for_list (K := Γ.K) (a := q) (xs := primes.map V.int) (fun i σ H' => H2 = H' ∧ ∃ (f : Int) (v2 v3 v4 : Option V), 0 ≤ f ∧ σ = [some (.ref p), some (.int f), v2, v3, v4])
    ⟨rfl, 0, none, none, none, Int.le_refl _, rfl⟩ (fun i σ H' _ ⟨e, _⟩ => by rw [← e]; exact SqL.of hq2) ?_ ?_
  · rintro i y σ H' hi ⟨rfl, f, v2, v3, v4, hf, rfl⟩
    obtain ⟨pr, hpr, rfl⟩ : ∃ pr, pr ∈ primes ∧ y = V.int pr := by
      have hm := List.mem_of_getElem? hi
      obtain ⟨pr, h1, h2⟩ := List.mem_map.mp hm
      exact ⟨pr, h1, h2.symm⟩
    have hb : 0 < pr ∧ pr < 2147483648 := by
      have hall : ∀ z ∈ primes, 0 < z ∧ z < 2147483648 := by decide
      exact hall pr hpr
    have hT : ((TMAX : Nat) : Int) = 1000000000000 := rfl
    -- blend = 69997 * turn + prime // 11
    refine ⟨_, rfl, ix_dk hp2 st_turn (mul_i (.inl ⟨by decide, by decide⟩) ⟨_, rfl, fdiv_i (wide_div (by decide) (b := 4) (by decide) (by decide) (by decide)) (add_i ?_)⟩)⟩
    -- for cell in cells
    refine ⟨_, rfl, ix_dk hp2 st_cells (.inl ⟨c, rfl, ⟨_, SqL.of hc2⟩, ?_⟩)⟩
    refine for_list (K := Γ.K) (a := c) (xs := cells.map V.int) (fun i σ H' => H2 = H' ∧ ∃ (b : Int) (w4 : Option V), 0 ≤ b ∧ b < 9223372036854775808 ∧ σ = [some (.ref p), some (.int f), some (.int pr), some (.int b), w4])
      ⟨rfl, 69997 * (turn + 1) + pr / 11, v4, by omega, by omega, rfl⟩ (fun i σ H' _ ⟨e, _⟩ => by rw [← e]; exact SqL.of hc2) ?_ ?_
    · rintro i y σ H' hi ⟨rfl, b, w4, hb1, hb2, rfl⟩
      obtain ⟨cc, rfl⟩ : ∃ cc, y = V.int cc := by
        have hm := List.mem_of_getElem? hi
        obtain ⟨cc, _, h2⟩ := List.mem_map.mp hm
        exact ⟨cc, h2.symm⟩
      refine ⟨_, rfl, mul_i (.inr ⟨by decide, by decide⟩) ⟨_, rfl, add_i ⟨_, rfl, mod_i hb.1 ⟨rfl, (b * 48271 + cc) % pr, some (.int cc), ?_, ?_, rfl⟩⟩⟩⟩
      · exact Int.emod_nonneg _ (by omega)
      · have := Int.emod_lt_of_pos (b * 48271 + cc) hb.1
        omega
    · rintro σ H' ⟨rfl, b, w4, hb1, hb2, rfl⟩
      refine ⟨_, rfl, mul_i (.inr ⟨by decide, by decide⟩) ⟨_, rfl, pow_i ⟨by decide, by decide, by omega⟩ ⟨_, rfl, mod_i hb.1 (add_i ⟨rfl, f * 2147483647 + b ^ (5 : Int).toNat % pr, _, _, _, ?_, rfl⟩)⟩⟩⟩
      have := Int.emod_nonneg (b ^ (5 : Int).toNat) (show pr ≠ 0 by omega)
      omega
  · rintro σ H' ⟨rfl, f, v2, v3, v4, hf, rfl⟩
    exact ⟨_, rfl, k f _ hf hp2 keep⟩
/-! ### take -/
def dp_law_take : DSp := fun ds P => ∃ n, ds = [.st, .int n] ∧ 0 < n ∧ n < 18446744073709551616 ∧ ∀ k, 0 ≤ k → k < n → P (.int k)
def sp_law_take (Γ : Cn) : Sp := lift Γ 2 1 dp_law_take
def t_law_take (Γ : Cn) : TS := tSeq (tIfS (tTest (tOp (gEq Γ.K) (tOp (gIx Γ.K) (tVar 0) (tC (.str "left"))) (tC (.int 0)))) (tAsg (tIf (tTest (tOp (gNe Γ.K) (tOp (gIx Γ.K) (tVar 0) (tC (.str "great"))) (tLst
   (tNil)))) (tBM Γ.K "list" rPopAt (tOp (gIx Γ.K) (tVar 0) (tC (.str "great"))) (tCons (tC (.int 0)) (tNil))) (tFn (sp_law_mixed Γ) E0 (tCons (tVar 0) (tNil)))) (gSub (tVar 0) (tC
   (.str "left")) gSet)) (tNext)) (tSeq (tAsg (tOp (gMod) (tOp (gIx Γ.K) (tVar 0) (tC (.str "left"))) (tVar 1)) (gName 2)) (tSeq (tAsg (tOp (gFdiv) (tOp (gIx Γ.K) (tVar 0) (tC
   (.str "left"))) (tVar 1)) (gSub (tVar 0) (tC (.str "left")) gSet)) (tRet (tVar 2))))

/-- the state is changed, all else stands -/
theorem At.law {p g : Addr} {t : Nat} {G H H' : Hp} {c : Addr} {great cells : List Int} {left turn : Int} (x : Exf G H) (l : LawSt p g t G H) (hp : H' p = some (.dK (stK g c left turn))) (hg : H' g = some (.lst (great.map V.int))) (h1 : ∀ z ∈ great, 0 ≤ z) (h2 : 0 ≤ left) (h3 : 0 ≤ turn) (h4 : turn ≤ ((t + 1 : Nat) : Int))
    (hc : G c = some (.lst (cells.map V.int))) (k : ∀ a o, H a = some o → a ≠ p → a ≠ g → H' a = some o) : At (some (p, g)) (t + 1) H G G H' where
  gg := Ex.rfl'
  gh := fun a o h => by
    have n1 : a ≠ p := fun z => by subst z; rw [l.np] at h; cases h
    have n2 : a ≠ g := fun z => by subst z; rw [l.ng] at h; cases h
    rcases x a o h with q | ⟨kvs, od, e, q⟩
    · exact .inl (k a o q n1 n2)
    · exact .inr ⟨kvs, od, e, k a _ q n1 n2⟩
  bh := fun a o h n => k a o h (n p g rfl).1 (n p g rfl).2
  nw := fun a o h => .inl h
  lw := fun q r e => by
    cases e
    exact ⟨l.np, l.ng, l.ne, c, great, cells, left, turn, hp, hg, h1, h2, h3, h4, hc⟩
theorem dp_ints {K : FK} {H : Hp} : ∀ l : List Int, DpAll K H (l.map V.int) (l.map PyData.int)
  | [] => .nil
  | x :: l => .cons (.int x) (dp_ints l)
theorem lay_ints : ∀ l : List Int, PyData.canLayAll0 (l.map PyData.int) = true ∧ PyData.depthAll (l.map PyData.int) = 0
  | [] => ⟨rfl, rfl⟩
  | x :: l => by
    obtain ⟨a, b⟩ := lay_ints l
    refine ⟨?_, ?_⟩
    · show (PyData.canLay0 (.int x) && PyData.canLayAll0 (l.map PyData.int)) = true
      rw [a]; rfl
    · show max (PyData.depth (.int x)) (PyData.depthAll (l.map PyData.int)) = 0
      rw [b]; rfl
theorem shaped_ints (l : List Int) : SeqAt.shaped (.list (l.map PyData.int)) = true := by
  obtain ⟨a, b⟩ := lay_ints l
  refine shaped_of (n := 1) a ?_ (by decide)
  show PyData.depthAll (l.map PyData.int) + 1 ≤ 1
  rw [b]; exact Nat.le_refl _
theorem pure_take {Γ : Cn} (vs : List V) (H : Hp) (Q : VK) (E : XK) (h : sp_law_take Γ vs H Q E) : t_law_take Γ { nx := fun _ H2 => Q .non H2, rt := Q } (L2.start ["_law_state", "_law_size", "_law_found"] vs) H := by
  obtain ⟨hlen, L, t, ds, G, P, lw, ht, ex, r, ⟨n, rfl, hn0, hn1, hP⟩, k⟩ := h
  cases r with
  | cons r1 rr => cases rr with
    | cons r2 rr =>
      cases rr
      cases r2
      cases r1 with
      | st hL =>
        rename_i p g
        subst hL
        have l := lw p g rfl
        obtain ⟨c, great, cells, left, turn, hp, hg, g1, g2, g3, g4, g5⟩ := l.ex
        have hT : ((TMAX : Nat) : Int) = 1000000000000 := rfl
        have hcH : H c = some (.lst (cells.map V.int)) := by
          rcases ex c _ g5 with q | ⟨_, _, q, _⟩
          · exact q
          · cases q
        have ncp : c ≠ p := fun z => by subst z; rw [l.np] at g5; cases g5
        have ncg : c ≠ g := fun z => by subst z; rw [l.ng] at g5; cases g5
        -- what follows the first statement: found = left % size; left = left // size; return found
        have tail : ∀ (left' turn' : Int) (great' : List Int) (H' : Hp), H' p = some (.dK (stK g c left' turn')) → H' g = some (.lst (great'.map V.int)) → (∀ z ∈ great', 0 ≤ z) → 0 ≤ left' → 0 ≤ turn' → turn' ≤ ((t + 1 : Nat) : Int) → (∀ a o, H a = some o → a ≠ p → a ≠ g → H' a = some o) →
            tSeq (tAsg (tOp (gMod) (tOp (gIx Γ.K) (tVar 0) (tC (.str "left"))) (tVar 1)) (gName 2)) (tSeq (tAsg (tOp (gFdiv) (tOp (gIx Γ.K) (tVar 0) (tC (.str "left"))) (tVar 1)) (gSub (tVar 0) (tC (.str "left")) gSet)) (tRet (tVar 2))) { nx := fun _ H2 => Q .non H2, rt := Q } [some (.ref p), some (.int n), none] H' := by
          intro left' turn' great' H' hp' hg' q1 q2 q3 q4 q5
          refine ⟨_, rfl, ix_dk hp' st_left ⟨_, rfl, mod_i hn0 ?_⟩⟩
          refine ⟨_, rfl, ix_dk hp' st_left ⟨_, rfl, fdiv_i (wide_div hn0 (b := 64) (by omega) (by decide) (by decide)) ⟨_, rfl, set_dk hp' st_len ?_⟩⟩⟩
          rw [st_putL]
          have npg : g ≠ p := Ne.symm l.ne
          refine ⟨_, rfl, k (.int (left' % n)) (hP _ (Int.emod_nonneg _ (by omega)) (Int.emod_lt_of_pos _ hn0)) _ G _ ?_ (.int _)⟩
          refine At.law (great := great') ex l upd_same (by rw [upd_ne npg]; exact hg') q1 (Int.ediv_nonneg q2 (Int.le_of_lt hn0)) q3 q4 g5 fun a o ha n1 n2 => ?_
          rw [upd_ne n1]; exact q5 a o ha n1 n2
        show tIfS _ _ _ _ _ _
        refine ⟨_, rfl, ix_dk hp st_left (.inl ⟨rfl, _, rfl, ?_⟩)⟩
        refine ite2 (fun hl => ?_) (fun hl => ?_)
        · -- left is 0
          have e0 : left = 0 := by
            have := of_decide_eq_true hl
            injection this
          refine ⟨_, rfl, ix_dk hp st_great ⟨by show 0 ≤ sizeLine; exact Nat.zero_le _, fun q nq => ?_⟩⟩
          have nqp : p ≠ q := ne_of_none hp nq
          have nqg : g ≠ q := ne_of_none hg nq
          have hp2 : (upd H q (.lst [])) p = some (.dK (stK g c left turn)) := by rw [upd_ne nqp]; exact hp
          have hg2 : (upd H q (.lst [])) g = some (.lst (great.map V.int)) := by rw [upd_ne nqg]; exact hg
          refine .inr ⟨_, _, .lst (SqL.of hg2) (dp_ints great), .lst (SqL.of upd_same) .nil, shaped_ints great, shaped_ints [], _, rfl, ?_⟩
          cases great with
          | nil =>
            refine iteF ⟨_, rfl, rfl, p, g, c, left, turn, cells, rfl, hp2, by rw [upd_ne (ne_of_none hcH nq)]; exact hcH, g3, by omega, fun r H' hr hp3 kp => ?_⟩
            refine ⟨_, rfl, set_dk hp3 st_len ?_⟩
            rw [st_putL]
            refine tail r (turn + 1) [] _ upd_same ?_ (fun _ m => by cases m) hr (by omega) (by omega) fun a o ha n1 n2 => ?_
            · rw [upd_ne (Ne.symm l.ne)]; exact kp g _ hg2 (Ne.symm l.ne)
            · rw [upd_ne n1]; exact kp a o (by rw [upd_ne (ne_of_none ha nq)]; exact ha) n1
          | cons z zs =>
            refine iteT ⟨_, rfl, ix_dk hp2 st_great ⟨.inl ⟨rfl, _, SqL.of hg2⟩, g, _, 0, 0, .int z, rfl, rfl, hg2, by decide, by decide, ?_, rfl, ?_⟩⟩
            · show seqIndex? 0 ((V.int z :: zs.map V.int).length) = some 0
              rw [seqIndex_of (by decide) (by rw [List.length_cons]; omega)]
              rfl
            · have hp3 : (upd (upd H q (.lst [])) g (.lst (((z :: zs).map V.int).eraseIdx 0))) p = some (.dK (stK g c left turn)) := by rw [upd_ne l.ne]; exact hp2
              refine ⟨_, rfl, set_dk hp3 st_len ?_⟩
              rw [st_putL]
              refine tail z turn zs _ upd_same ?_ (fun w m => g1 w (List.mem_cons_of_mem _ m)) (g1 z List.mem_cons_self) g3 (by omega) fun a o ha n1 n2 => ?_
              · rw [upd_ne (Ne.symm l.ne), upd_same]; rfl
              · rw [upd_ne n1, upd_ne n2, upd_ne (ne_of_none ha nq)]; exact ha
        · exact tail left turn great H hp hg g1 g2 g3 (by omega) fun a o ha _ _ => ha
/-! ### pick: any item -/
def dp_law_pick : DSp := fun ds P => ∃ xs d, ds = [.st, d] ∧ seqD d = some xs ∧ xs ≠ [] ∧ xs.length ≤ LIM ∧ ∀ r ∈ xs, P r
def sp_law_pick (Γ : Cn) : Sp := lift Γ 2 1 dp_law_pick
def t_law_pick (Γ : Cn) : TS := tRet (tOp (gIx Γ.K) (tVar 1) (tFn (sp_law_take Γ) E0 (tCons (tVar 0) (tCons (tCB (gLen Γ.K) (tCons (tVar 1) (tNil))) (tNil)))))

end GP

set_option Elab.async false
set_option linter.all false
set_option maxRecDepth 100000
set_option maxHeartbeats 4000000
/-! G11: chains, keyword calls, targets of assignments, enumerate, zip on data. -/
namespace GP
open PySem PySem.Spec PyProof.Rows L2
section
variable {Γ : Cn} {L : LS} {c c1 c2 c3 n : Nat} {te ta tb tc : TE} {de da db dc : DE} {tt tu : TT} {dt du : DT} {ts tv : TS} {ds dv : DQ} {tA : TA} {dA : DA}
def dChain (f g : D → D → Option D) (a b c : DE) : DE := fun δ P => a δ fun x => b δ fun y => match f x y with
  | some (.bl k) => if k = true then c δ fun z => match g y z with
    | some r => P r
    | none => False
    else P (.bl false)
  | _ => False
theorem s_chain {r r' : R2} {f g : D → D → Option D} (hf : OpS Γ L r f) (hg : OpS Γ L r' g) (ha : ST Γ L c1 ta da) (hb : ST Γ L c2 tb db) (hc : ST Γ L c3 tc dc) : SE Γ L (c1 + (c2 + c3)) (tChain r r' ta tb tc) (dChain f g da db dc) := fun t σ δ B G H l x e hm P hp Q k => by
  refine ha t σ δ B G H l x e (by omega) _ hp _ fun v d1 G1 H1 a1 r1 q1 => ?_
  refine hb (t + c1) σ δ B G1 H1 a1.lw a1.gh (e.step a1) (by omega) _ q1 _ fun w d2 G2 H2 a2 r2 q2 => ?_
  have e2 := (e.step a1).step a2
  split at q2
  · rename_i kk hz
    refine hf (t + c1 + c2) G2 H2 v w d1 d2 (.bl kk) a2.lw a2.gh (r1.step a2) r2 hz _ fun u G3 H3 a3 r3 => ⟨kk, bl_of r3.t (H := H3), ?_⟩
    cases kk with
    | false => exact k _ _ G3 H3 (((a1.tr a2).tr a3).le (by omega)) (.bl false) q2
    | true =>
      refine hc (t + c1 + c2) σ δ B G3 H3 a3.lw a3.gh (e2.step a3) (by omega) _ q2 _ fun z d3 G4 H4 a4 r4 q4 => ?_
      split at q4
      · rename_i rr hr
        refine hg (t + c1 + c2 + c3) G4 H4 w z d2 d3 rr a4.lw a4.gh ((r2.step a3).step a4) r4 hr Q fun u2 G5 H5 a5 r5 => k u2 rr G5 H5 ?_ r5 q4
        have := (((a1.tr a2).tr a3).tr a4).tr a5
        have ec : t + c1 + c2 + c3 = t + (c1 + (c2 + c3)) := by omega
        rw [ec] at this; exact this
      · exact q4.elim
  · exact q2.elim
def dAsgG (d : DE) (g : DG) : DQ := fun N δ => d δ fun x => g x δ N.nx
theorem s_asgG {g : TG} {dg : DG} {sl : List Nat} (h : SE Γ L c te de) (hg : SG Γ L g dg sl) : SS Γ L c (tAsg te g) (dAsgG de dg) := fun t σ δ B G0 G H a e hc N hp D E =>
  h t σ δ B G H a.lw a.gh e hc _ hp _ fun v d G1 H1 a1 r1 q => hg (t + c) σ δ B G1 H1 v d a1.lw a1.gh (e.step a1) r1 _ q _ fun σ2 δ2 e2 _ q2 => E.nx σ2 δ2 G1 H1 (a.tr a1) e2 q2
/-! ### f(k = v, ..) -/
def pickL {α : Type} (z : α) (perm : List Nat) (xs : List α) : List α := if xs.length = perm.length then perm.map fun i => xs.getD i z else []
def tFnK (sp : Sp) (perm : List Nat) (E : XK) (t : TA) : TE := fun σ H Q => t σ H fun vs H1 => sp (pickL .non perm vs) H1 Q E
/-- a def that can be called by keywords ks -/
structure CalK (P : Program) (w : World) (K : FK) (mg : Str → Option Value) (base : Heap) (CX : CXT) (x : Str) (k : Nat) (ps ks : List Str) (perm : List Nat) (sp : Sp) : Prop where
  ex : ∃ f fd, FnG P w K mg base CX k f fd ps sp ∧ mg x = some (.ref f) ∧ PySem.W.keepIn K (.ref f) = true ∧ 0 < ps.length ∧ ∀ (s : Shared) (ws : List Value), K.In s.heap → ws.length = perm.length → BindsTo s fd ⟨[], ks.zip ws⟩ (ps.zip (pickL .none perm ws))
theorem vals_getD {vs : List V} {us : List Value} (r : Vals vs us) : ∀ perm : List Nat, Vals (perm.map fun i => vs.getD i .non) (perm.map fun i => us.getD i .none)
  | [] => .nil
  | i :: perm => by
    refine .cons ?_ (vals_getD r perm)
    show RelV (vs.getD i .non) (us.getD i .none)
    rw [List.getD_eq_getElem?_getD, List.getD_eq_getElem?_getD]
    cases h : vs[i]? with
    | none => rw [Vals.none_of r h]; rfl
    | some v =>
      obtain ⟨u, hu, ru⟩ := Vals.get r h
      rw [hu]; exact ru
theorem vals_pick {vs : List V} {us : List Value} (r : Vals vs us) (perm : List Nat) : Vals (pickL .non perm vs) (pickL .none perm us) := by
  unfold pickL
  rw [r.length]
  split
  · exact vals_getD r perm
  · exact .nil
def dFnK (s : DSp) (perm : List Nat) (a : DA) : DE := fun δ P => a δ fun ds => s (pickL .non perm ds) P
theorem RepL.getD {G : Hp} {vs : List V} {xs : List D} (r : RepL Γ L G vs xs) : ∀ perm : List Nat, RepL Γ L G (perm.map fun i => vs.getD i .non) (perm.map fun i => xs.getD i .non)
  | [] => .nil
  | i :: perm => by
    refine .cons ?_ (RepL.getD r perm)
    show Rep Γ L G (vs.getD i .non) (xs.getD i .non)
    rw [List.getD_eq_getElem?_getD, List.getD_eq_getElem?_getD]
    cases h : vs[i]? with
    | none =>
      have hl := r.len
      have h2 : xs[i]? = none := List.getElem?_eq_none_iff.mpr (by have := List.getElem?_eq_none_iff.mp h; omega)
      rw [h2]; exact .non
    | some v =>
      obtain ⟨d, hd, rd⟩ := r.at' h
      rw [hd]; exact rd
theorem RepL.pick {G : Hp} {vs : List V} {xs : List D} (r : RepL Γ L G vs xs) (perm : List Nat) : RepL Γ L G (pickL .non perm vs) (pickL .non perm xs) := by
  unfold pickL
  rw [r.len]
  split
  · exact r.getD perm
  · exact .nil
theorem s_fnK {s : DSp} {cf m : Nat} {E : XK} {perm : List Nat} (ha : SA Γ L n c tA dA) (hm : perm.length = m := by rfl) (hn : n = perm.length := by rfl) : SE Γ L (c + cf) (tFnK (lift Γ m cf s) perm E tA) (dFnK s perm dA) := fun t σ δ B G H l x e hc P hp Q k => by
  refine ha t σ δ B G H l x e (by omega) _ hp _ fun vs xs G1 H1 a1 r1 hl q1 => ⟨by unfold pickL; rw [r1.len, hl, if_pos hn, List.length_map]; exact hm, L, t + c, _, G1, P, a1.lw, by omega, a1.gh, r1.pick perm, q1, fun r hr v G2 H2 a2 r2 => ?_⟩
  exact k v r G2 H2 (by rw [← Nat.add_assoc]; exact a1.tr a2) r2 hr
end
section
variable {X : Cx} {CX : CXT} {k : Nat} {ps ks : List Str} {perm : List Nat} {sp : Sp} {E : XK} {x : Str} {p pos : Pos} {kw : Keyword} {kws : List Keyword} {t : TA}
theorem pe_fnK (c : CalK X.prog X.w X.K X.mg X.base CX x k ps ks perm sp) {j : Nat} (hr : RG j X.A) (hj : k ≤ j) (hg : Gl X x) (hx : Passes CX X E) (ha : PK X (kw :: kws) t) (hdb : (x == ("__debug__" : Str)) = false := by decide)
    (hall : (backToKw pos (keywordEach (kw :: kws) X.env)).all (·.1.isSome) = true := by rfl) (hks : (backToKw pos (keywordEach (kw :: kws) X.env)).filterMap (·.1) = ks := by rfl) (hpl : ((backTo pos (starEach [] X.env)).any (·.1) || (backToKw pos (keywordEach (kw :: kws) X.env)).any (·.1.isNone)) = false := by rfl) : PE X (.Call (.Name x p) [] (kw :: kws) pos) (tFnK sp perm E t) := by
  obtain ⟨f, fd, F, hm, hk, h0, hb⟩ := c.ex
  refine ⟨fun pins s σ H Q I h => wpAny_Call_Name_kw (ld_glob I hg hm ?_ hdb)⟩
  refine PySem.W.callWith_KW0 (h₀ := X.base) I.mod.kin hk hall (thn (ha.run pos pins s σ H _ I h) fun ws s2 z => ?_) hpl
  obtain ⟨vs, H1, I1, r, q⟩ := z
  refine ⟨I1.kIn, ?_⟩
  rw [hks]
  have hl := F.len _ _ _ _ q
  have hv : vs.length = perm.length := by
    by_cases e : vs.length = perm.length
    · exact e
    · unfold pickL at hl
      rw [if_neg e] at hl
      simp at hl
      omega
  exact F.wp (us := []) (hr.mono hj) hx I1 (fun _ => hb _ ws I1.kIn (by rw [← r.length]; exact hv)) (vals_pick r perm) q
end
end GP

set_option Elab.async false
set_option linter.all false
set_option maxRecDepth 100000
set_option maxHeartbeats 4000000
/-! G12: the law's state is begun; a law by its data. -/
namespace GP
open PySem PySem.Spec PyProof.Rows L2
def sp_law_begun (Γ : Cn) : Sp := fun vs H Q _ => vs.length = 1 ∧ ∃ (a : Addr) (ns : List Int), vs = [.ref a] ∧ SqL Γ.K H a (ns.map V.int) ∧ ns.length ≤ 63 ∧
  ∀ (p g c : Addr) (great cells : List Int) (H' : Hp), H p = none → H g = none → H c = none → p ≠ g → p ≠ c → g ≠ c → H' p = some (.dK (stK g c 0 0)) → H' g = some (.lst (great.map V.int)) → (∀ z ∈ great, 0 ≤ z) → H' c = some (.lst (cells.map V.int)) → (∀ b o, H b = some o → H' b = some o) → Q (.ref p) H'
def t_law_begun (Γ : Cn) : TS := tSeq (tAsg (tLc (gIter Γ.K (tVar 0)) (gName 2) (tTest (tOp (gGe) (tVar 2) (tOp (gPow) (tC (.int 10)) (tC (.int 18))))) (tOp (gDif) (tVar 2) (tOp (gPow) (tC (.int 10)) (tC
   (.int 18)))) [2]) (gName 1)) (tRet (tDisp [(tC (.str "great"), tVar 1), (tC (.str "cells"), tCB (gList Γ.K) (tCons (tVar 0) (tNil))), (tC (.str "left"), tC (.int 0)),
   (tC (.str "turn"), tC (.int 0))]))
theorem merge_st (g c : Addr) : mergeK [] [(Sum.inr ("great" : Str), V.ref g), (Sum.inr ("cells" : Str), V.ref c), (Sum.inr ("left" : Str), V.int 0), (Sum.inr ("turn" : Str), V.int 0)] = stK g c 0 0 := by
  have n1 := kne1
  have n2 := kne2
  have n3 := kne3
  have n4 := kne4
  have n5 := kne5
  have n6 := kne6
  have h1 : putK ([] : List (Key × V)) (Sum.inr ("great" : Str)) (V.ref g) = [(Sum.inr ("great" : Str), V.ref g)] := putK_new _ valV_nil
  have h2 : putK [(Sum.inr ("great" : Str), V.ref g)] (Sum.inr ("cells" : Str)) (V.ref c) = [(Sum.inr ("great" : Str), V.ref g), (Sum.inr ("cells" : Str), V.ref c)] := putK_new _ ((valV_neg n6).trans valV_nil)
  have h3 : putK [(Sum.inr ("great" : Str), V.ref g), (Sum.inr ("cells" : Str), V.ref c)] (Sum.inr ("left" : Str)) (V.int 0) = [(Sum.inr ("great" : Str), V.ref g), (Sum.inr ("cells" : Str), V.ref c), (Sum.inr ("left" : Str), V.int 0)] := putK_new _ ((valV_neg n4).trans ((valV_neg n5).trans valV_nil))
  have h4 : putK [(Sum.inr ("great" : Str), V.ref g), (Sum.inr ("cells" : Str), V.ref c), (Sum.inr ("left" : Str), V.int 0)] (Sum.inr ("turn" : Str)) (V.int 0) = stK g c 0 0 := putK_new _ ((valV_neg n1).trans ((valV_neg n2).trans ((valV_neg n3).trans valV_nil)))
  unfold mergeK
  simp only [List.foldl_cons, List.foldl_nil]
  rw [h1, h2, h3, h4]
theorem op_cc {r : R2} {v w : V} {σ : L2.St} {H : Hp} {Q : VK} (h : r v w H Q) : tOp r (tC v) (tC w) σ H Q := h
theorem pure_begun {Γ : Cn} (vs : List V) (H : Hp) (Q : VK) (E : XK) (h : sp_law_begun Γ vs H Q E) : t_law_begun Γ { nx := fun _ H2 => Q .non H2, rt := Q } (L2.start ["_law_script", "_law_great", "_law_cell"] vs) H := by
  obtain ⟨hlen, a, ns, rfl, hS, hn, k⟩ := h
  refine ⟨_, rfl, .inl ⟨a, rfl, ⟨_, hS⟩, fun D hD => ?_⟩⟩
  have ex : ∀ o, Ex H (upd H D o) := fun o => Ex.new hD
  have e18 : (10 : Int) ^ (18 : Int).toNat = 1000000000000000000 := by decide
  refine lc_list (K := Γ.K) (a := a) (xs := ns.map V.int) (fun i H' => ∃ great : List Int, H' = upd H D (.lst (great.map V.int)) ∧ (∀ z ∈ great, 0 ≤ z) ∧ great.length ≤ i) ⟨[], rfl, fun _ m => (by cases m), Nat.le_refl _⟩ (fun i H' _ ⟨gr, e, _⟩ => by rw [e]; exact (ex _).sl hS) ?_ ?_
  · rintro i x H' hi ⟨gr, rfl, hz, hl⟩
    obtain ⟨z, rfl⟩ : ∃ z, x = V.int z := by
      have hm := List.mem_of_getElem? hi
      obtain ⟨z, _, h2⟩ := List.mem_map.mp hm
      exact ⟨z, h2.symm⟩
    have hil : i < 63 := by
      have := (List.getElem?_eq_some_iff.mp hi).1
      rw [List.length_map] at this
      omega
    refine ⟨rfl, _, rfl, op_cc (pow_i ⟨by decide, by decide, by decide⟩ ⟨_, _, rfl, rfl, _, rfl, ?_⟩)⟩
    refine ite2 (fun hc => ?_) (fun hc => ?_)
    · refine ⟨_, rfl, op_cc (pow_i ⟨by decide, by decide, by decide⟩ (dif_i ⟨_, upd_same, by rw [List.length_map, sizeLine_eq]; omega, gr ++ [z - 10 ^ (18 : Int).toNat], ?_, fun w m => ?_, by rw [List.length_append]; show gr.length + 1 ≤ i + 1; omega⟩))⟩
      · rw [upd_upd, List.map_append]; rfl
      · rcases List.mem_append.mp m with h | h
        · exact hz w h
        · have e : w = z - 10 ^ (18 : Int).toNat := List.mem_singleton.mp h
          have := of_decide_eq_true hc
          rw [e18] at e this
          omega
    · exact ⟨gr, rfl, hz, by omega⟩
  · rintro H' ⟨great, rfl, hz, hl⟩
    have hS1 := (ex (.lst (great.map V.int))).sl hS
    -- the display
    intro p np
    have npD : p ≠ D := fun z => by subst z; rw [upd_same] at np; cases np
    have np0 : H p = none := by rw [upd_ne npD] at np; exact np
    refine ⟨_, rfl, _, rfl, .inl ⟨a, _, rfl, .inl ((Ex.new np).sl hS1), fun c nc => ?_⟩⟩
    have ncp : c ≠ p := fun z => by subst z; rw [upd_same] at nc; cases nc
    have ncD : c ≠ D := fun z => by subst z; rw [upd_ne (Ne.symm npD), upd_same] at nc; cases nc
    have nc0 : H c = none := by rw [upd_ne ncp, upd_ne ncD] at nc; exact nc
    refine ⟨by rw [upd_ne (Ne.symm ncp), upd_same], [(Sum.inr ("great" : Str), V.ref D), (Sum.inr ("cells" : Str), V.ref c), (Sum.inr ("left" : Str), V.int 0), (Sum.inr ("turn" : Str), V.int 0)], rfl, by show 4 ≤ 15; decide, ?_⟩
    rw [merge_st]
    refine k p D c great ns _ np0 hD nc0 npD (Ne.symm ncp) (Ne.symm ncD) upd_same ?_ hz ?_ fun b o hb => ?_
    · rw [upd_ne (Ne.symm npD), upd_ne (Ne.symm ncD), upd_ne (Ne.symm npD), upd_same]
    · rw [upd_ne ncp, upd_same]
    · rw [upd_ne (ne_of_none hb np0), upd_ne (ne_of_none hb nc0), upd_ne (ne_of_none hb np0), upd_ne (ne_of_none hb hD)]; exact hb
/-! ### a law: its first statement begins the state, the rest goes by data -/
def sp_law (Γ : Cn) : Sp := fun vs H Q _ => vs.length = 1 ∧ ∃ (a : Addr) (ns : List Int), vs = [.ref a] ∧ SqL Γ.K H a (ns.map V.int) ∧ ns.length ≤ 63 ∧ ∀ H', Q (.bl true) H'
theorem pure_law {Γ : Cn} {c : Nat} {rest : TS} {d : DQ} {N : List Str} (hN : 2 ≤ N.length) (snd : ∀ L, SS Γ L c rest d) (hc : c ≤ TMAX) (hd : d { nx := fun _ => False, rt := fun x => x = .bl true } (none :: some (.sh .st) :: List.replicate (N.length - 2) none)) (vs : List V) (H : Hp) (Q : VK) (E : XK) (h : sp_law Γ vs H Q E) :
    tSeq (tAsg (tFn (sp_law_begun Γ) E0 (tCons (tVar 0) tNil)) (gName 1)) rest { nx := fun _ H2 => Q .non H2, rt := Q } (L2.start N vs) H := by
  obtain ⟨hlen, a, ns, rfl, hS, hn, k⟩ := h
  obtain ⟨m, hm⟩ : ∃ m, N.length = m + 2 := ⟨N.length - 2, by omega⟩
  have es : L2.start N [.ref a] = some (.ref a) :: none :: List.replicate m none := by
    unfold L2.start
    rw [hm]
    show [some (V.ref a)] ++ List.replicate (m + 2 - 1) none = _
    rw [show m + 2 - 1 = m + 1 by omega, List.replicate_succ]
    rfl
  rw [es]
  refine ⟨_, rfl, rfl, a, ns, rfl, hS, hn, fun p g cc great cells H1 np ng nc n1 n2 n3 hp hg hz hcc kp => ?_⟩
  show rest _ ((some (V.ref a) :: none :: List.replicate m none).set 1 (some (.ref p))) H1
  let G : Hp := fun b => if b = p ∨ b = g then none else H1 b
  have gG : ∀ b o, G b = some o → H1 b = some o := fun b o e => by
    have e : (if b = p ∨ b = g then none else H1 b) = some o := e
    split at e
    · cases e
    · exact e
  have lw : LawAt (some (p, g)) 0 G H1 := fun q r e => by
    cases e
    refine ⟨if_pos (.inl rfl), if_pos (.inr rfl), n1, cc, great, cells, 0, 0, hp, hg, hz, Int.le_refl _, Int.le_refl _, Int.le_refl _, ?_⟩
    show (if cc = p ∨ cc = g then none else H1 cc) = _
    rw [if_neg (fun z => z.elim (fun z => n2 z.symm) (fun z => n3 z.symm))]
    exact hcc
  have a0 : At (some (p, g)) 0 H1 G G H1 := At.start (fun b o e => .inl (gG b o e)) lw
  refine snd (some (p, g)) 0 _ _ H1 G G H1 a0 ?_ (by omega) _ hd _ ⟨fun _ _ _ _ _ _ q => q.elim, fun v x G2 H2 a2 r2 q => ?_, fun _ _ _ _ _ _ q => q.elim, fun _ _ _ _ _ _ q => q.elim⟩
  · rw [hm, show m + 2 - 2 = m by omega]
    have nn : ∀ (i : Nat) (s : Sl), (none :: some (Sl.sh D.st) :: List.replicate m none : DS)[i]? = some (some s) → i = 1 ∧ s = .sh .st := fun i s h => by
      match i, h with
      | 0, h => cases h
      | 1, h => cases h; exact ⟨rfl, rfl⟩
      | i + 2, h =>
        have h : (List.replicate m (none : Option Sl))[i]? = some (some s) := h
        rw [List.getElem?_replicate] at h
        split at h <;> cases h
    refine ⟨fun i d h => ?_, fun i d h => ?_, fun i j d e q _ h => ?_, ?_⟩
    · obtain ⟨rfl, e⟩ := nn i _ h
      cases e
      exact ⟨.ref p, rfl, .st rfl⟩
    · obtain ⟨_, e⟩ := nn i _ h
      cases e
    · obtain ⟨_, e⟩ := nn i _ h
      cases e
    · rw [List.length_set]; simp
  · subst q
    cases r2
    exact k H2
end GP

set_option Elab.async false
set_option linter.all false
set_option maxRecDepth 100000
set_option maxHeartbeats 4000000
/-! G13: the law's call from outside, no repr around; the end of a row. -/
namespace GP
open PySem PySem.Spec PyProof.Rows L2
theorem callerG {k : Nat} (h : Room k callerA) : RG k callerA := ⟨h, rfl⟩
theorem callG {P : Program} {w : World} {K : FK} {mg mb : Str → Option Value} {k : Nat} {fa a : Addr} {fd : FuncData} {x : Str} {sp : Sp} {s1 : Shared} {us : List Value} {ns : List Int}
    (kin : K.In s1.heap) (gl : s1.heap.Ns mainGlobals mg) (bl : s1.heap.Ns builtinsNs mb) (bb : ∀ y : Str, y ≠ "__name__" → mb y = bootBuiltins y) (nl : s1.heap.NoLimit) (ge : s1.gens = #[])
    (ha : s1.heap.get? a = some { cls := .type "list", data := .seq us.toArray }) (ai : IntsAre us ns) (sz : ns.length ≤ sizeLine) (rm : Room k callerA)
    (F : ∀ base : Heap, K.In base → base.Ns mainGlobals mg → FnG P w K mg base CX0 k fa fd [x] sp) (bnd : ∀ (s : Shared) (u : Value), BindsTo s fd ⟨[u], []⟩ [(x, u)])
    (pr : ∀ H : Hp, SqL K H a (ns.map V.int) → sp [.ref a] H (fun v _ => v = .bl true) E0) :
    codeAny (model P w) callerA (.call (.ref fa) ⟨[.ref a], []⟩) (fun r s2 => r = .ok (.ret (.bool true)) ∧ OldK s1.heap s2.heap ∧ s2.os = s1.os ∧ AllBare s2.gens) s1 := by
  let ob : Obj := { cls := .type "list", data := .seq us.toArray }
  let H : Hp := fun b => if b = a ∧ K.lookup a = none then some (.frz ob (.lst (ns.map V.int))) else none
  have inv : ∀ b u, H b = some u → b = a ∧ K.lookup a = none ∧ u = .frz ob (.lst (ns.map V.int)) := fun b u z => by
    have z : (if b = a ∧ K.lookup a = none then some (HO.frz ob (.lst (ns.map V.int))) else none) = some u := z
    split at z
    · rename_i q
      cases z
      exact ⟨q.1, q.2, rfl⟩
    · cases z
  have ra : Vals (ns.map V.int) us := vals_ints ai
  have tr : SqL K H a (ns.map V.int) := by
    cases q : K.lookup a with
    | none => exact .inl (.inr ⟨ob, if_pos ⟨rfl, q⟩⟩)
    | some o =>
      have z := kin a o q
      rw [ha] at z
      cases z
      exact .inr ⟨_, us.toArray, _, q, rfl, rfl, rfl, by rw [List.size_toArray, ai.length]; exact sz, by simpa using ra⟩
  have ok : HOk P w H s1.heap := fun b u z => by
    obtain ⟨rfl, _, rfl⟩ := inv b u z
    exact ⟨ha, by rw [List.length_map]; exact sz, us, _, ra, ha⟩
  have no : ∀ {b : Addr} {o : Obj}, s1.heap.get? b = some o → o ≠ ob ∨ K.lookup a ≠ none → H b = none := fun {b o} z c => by
    cases q : H b with
    | none => rfl
    | some u =>
      obtain ⟨rfl, n, _⟩ := inv b u q
      rw [ha] at z
      cases z
      exact c.elim (fun c => (c rfl).elim) fun c => (c n).elim
  have nsB : ∀ {b : Addr} {m : Str → Option Value}, s1.heap.Ns b m → (hidT s1.heap H).Ns b m := fun {b m} ⟨o, es, ep, z, d, r⟩ =>
    ⟨o, es, ep, hidT_get z (no z (.inl fun c => by subst c; have d : Data.seq us.toArray _ = Data.dict es ep := d; cases d)), d, r⟩
  have kB : K.In (hidT s1.heap H) := fun b o z => hidT_get (kin b o z) (by
    cases q : H b with
    | none => rfl
    | some u =>
      obtain ⟨rfl, n, _⟩ := inv b u q
      rw [n] at z; cases z)
  obtain ⟨mc, n1, n2⟩ := nl
  have md : Mod K mg (hidT s1.heap H) := ⟨kB, nsB gl, ⟨mb, nsB bl, bb⟩, mc, nsB n1, n2⟩
  have e0 : Env0 P w K mg (hidT s1.heap H) callerA [] s1 H := by
    refine ⟨rfl, md, fun b o z => of_hidT z, Nat.le_of_eq (hidT_size _ _), trivial, ?_, ok, .of_eq ge⟩
    intro b m
    exact absurd (show b ∈ ([] : List Addr) from m) (by simp)
  have run := (F _ kB (nsB gl)).run callerA [] s1 H ⟨[.ref a], []⟩ [.ref a] [.ref a] _ E0 (callerG rm) e0 (bnd s1 (.ref a)) (.cons rfl .nil) (pr H tr)
  refine codeAny_mono run fun r s2 z => ?_
  match r, z with
  | .error _, z => exact z.elim
  | .ok .next, z => exact z.elim
  | .ok .brk, z => exact z.elim
  | .ok .cont, z => exact z.elim
  | .ok (.ret u), z =>
    obtain ⟨v, H2, os, br, un, ok2, rv, q⟩ := z
    obtain rfl : v = .bl true := q
    obtain rfl : u = Value.bool true := rv
    refine ⟨rfl, OldK.of_keep fun b o eb => ?_, os, br⟩
    cases hb : H b with
    | none => exact un.keep b o eb hb (fun m => absurd (show b ∈ ([] : List Addr) from m) (by simp)) (by simp)
    | some u =>
      obtain ⟨rfl, _, rfl⟩ := inv b u hb
      obtain ⟨g1, _⟩ := ok2 b _ (un.frzs b ob _ hb)
      rw [ha] at eb
      cases eb
      exact g1
/-- the end of a row: from the law's promise -/
theorem walkG {l : PySem.W.OpenLaw} {k : Nat} {q : Program} {loose : List Str} {XP : (Str → Option Value) → Heap → Prop} {YP : World → Heap → Prop} {d : DefRec} {K : Params → PySem.W.Frag} {x : Str}
    (hn : l.most = some 63) (df : d.params.defaults = []) (rm : Room k callerA) (hY : ∀ (w : World) (h : Heap), YP w h → (K w.params).In h)
    (F : ∀ (w : World) (mg : Str → Option Value) (fa : Addr) (h : Heap), (K w.params).In h → h.Ns mainGlobals mg → mg d.name = some (.ref fa) →
      ∃ (Γ : Cn) (fd : FuncData), Γ.K = K w.params ∧ (∀ (s : Shared) (u : Value), BindsTo s fd ⟨[u], []⟩ [(x, u)]) ∧ ∀ base : Heap, (K w.params).In base → base.Ns mainGlobals mg → FnG l.prog w (K w.params) mg base CX0 k fa fd [x] (sp_law Γ)) :
    PySem.W.WalkO q loose XP YP l.row.toRowW d [] (fun f vs => PySem.call f vs) := by
  refine Att.attach_call hn df fun w s0 s1 mg mb fa o pm cd doc a us ns Gr Y _ _ _ hmg hobj hi hle hg => ?_
  obtain ⟨Γ, fd, gk, hb, hF⟩ := F w mg fa _ (hY w _ Y) Gr.T.g hmg
  refine callG (hY w _ Y) Gr.T.g Gr.T.b Gr.T.builtins Gr.T.nolimit hg hobj hi (Nat.le_trans hle (by rw [sizeLine_eq]; decide)) rm hF hb fun H hS => ?_
  exact ⟨rfl, a, ns, rfl, by rw [gk]; exact hS, hle, fun _ => rfl⟩
/-- a constant of the module -/
theorem pe_con {X : Cx} {x : Str} {v : V} {pos : Pos} (hg : Gl X x) (h : ∃ u, X.mg x = some u ∧ RelV v u) (hd : (x == ("__debug__" : Str)) = false := by decide) : PE X (.Name x pos) (tC v) := by
  obtain ⟨u, hm, r⟩ := h
  exact pe_glob hg hm r hd
/-- a tuple that the top has made -/
theorem rep_top {Γ : Cn} {L : LS} {G : Hp} {a : Addr} {oq : Option Addr} {its : Array Value} {n : Nat} {sq : Array (Option Value)} {xs : List V} {ds : List D} (y : Γ.K.lookup a = some ⟨.type "tuple", oq, .seq its n, sq⟩) (hz : its.size ≤ 1000) (v : Vals xs its.toList) (r : RepL Γ L G xs ds) (z : ds.length ≤ LIM) : Rep Γ L G (.ref a) (.tup ds) :=
  .tup (.inr ⟨_, its, n, y, rfl, rfl, Nat.le_trans hz (by rw [sizeLine_eq]; decide), v⟩) r z
theorem cal_mk {P : Program} {w : World} {K : FK} {mg : Str → Option Value} {base : Heap} {x qual : Str} {st : Stmt} {f : Addr} {fd : FuncData} {k : Nat} {ps : List Str} {sp : Sp} (F : Fun K x qual st f fd) (m : mg x = some (.ref f)) (b : Binds K fd ps []) (o : FnG P w K mg base CX0 k f fd ps sp) : Cal P w K mg base CX0 x k ps sp := ⟨f, fd, o, m, F.kp, b⟩
end GP

set_option Elab.async false
set_option linter.all false
set_option maxRecDepth 100000
set_option maxHeartbeats 4000000
/-! G14: comprehensions over data in one step; pick; words. -/
namespace GP
open PySem PySem.Spec PyProof.Rows L2
theorem lcL_yes {i : Nat} {de : DE} {P : D → Prop} {δ : DS} (f : D → D) : ∀ (items acc : List D), (∀ x ∈ items, ∀ R : D → Prop, R (f x) → de (δ.set i (some (.sh x))) R) → P (.lst (acc ++ items.map f)) → dLcL (dName i) dYes de P δ items acc
  | [], acc, _, h => by
    rw [List.map_nil, List.append_nil] at h
    exact h
  | x :: items, acc, hf, h => by
    show if true = true then de (δ.set i (some (.sh x))) (fun y => dLcL (dName i) dYes de P δ items (acc ++ [y])) else dLcL (dName i) dYes de P δ items acc
    rw [if_pos rfl]
    refine hf x List.mem_cons_self _ (lcL_yes f items _ (fun y m => hf y (List.mem_cons_of_mem _ m)) ?_)
    rw [List.append_assoc]
    exact h
theorem lcL_if {i : Nat} {dt : DT} {de : DE} {P : D → Prop} {δ : DS} (p : D → Bool) (f : D → D) : ∀ (items acc : List D), (∀ x ∈ items, ∀ R : Bool → Prop, R (p x) → dt (δ.set i (some (.sh x))) R) → (∀ x ∈ items, ∀ R : D → Prop, R (f x) → de (δ.set i (some (.sh x))) R) → P (.lst (acc ++ (items.filter p).map f)) → dLcL (dName i) dt de P δ items acc
  | [], acc, _, _, h => by
    rw [List.filter_nil, List.map_nil, List.append_nil] at h
    exact h
  | x :: items, acc, hp, hf, h => by
    refine hp x List.mem_cons_self _ ?_
    by_cases e : p x = true
    · rw [if_pos e]
      rw [List.filter_cons_of_pos e, List.map_cons] at h
      refine hf x List.mem_cons_self _ (lcL_if p f items _ (fun y m => hp y (List.mem_cons_of_mem _ m)) (fun y m => hf y (List.mem_cons_of_mem _ m)) ?_)
      rw [List.append_assoc]
      exact h
    · rw [if_neg e]
      rw [List.filter_cons_of_neg e] at h
      exact lcL_if p f items _ (fun y m => hp y (List.mem_cons_of_mem _ m)) (fun y m => hf y (List.mem_cons_of_mem _ m)) h
theorem lcL_any {i : Nat} {de : DE} {P : D → Prop} {δ : DS} (S : D → Prop) : ∀ (items acc : List D), (∀ x ∈ items, ∀ R : D → Prop, (∀ y, S y → R y) → de (δ.set i (some (.sh x))) R) → (∀ ys : List D, ys.length = items.length → (∀ y ∈ ys, S y) → P (.lst (acc ++ ys))) → dLcL (dName i) dYes de P δ items acc
  | [], acc, _, h => by
    have := h [] rfl (fun _ m => by cases m)
    rw [List.append_nil] at this
    exact this
  | x :: items, acc, hf, h => by
    show if true = true then de (δ.set i (some (.sh x))) (fun y => dLcL (dName i) dYes de P δ items (acc ++ [y])) else dLcL (dName i) dYes de P δ items acc
    rw [if_pos rfl]
    refine hf x List.mem_cons_self _ fun y sy => lcL_any S items _ (fun y m => hf y (List.mem_cons_of_mem _ m)) fun ys hl hs => ?_
    have := h (y :: ys) (by rw [List.length_cons, List.length_cons, hl]) (fun z m => (List.mem_cons.mp m).elim (fun e => e ▸ sy) (hs z))
    rw [List.append_assoc]
    exact this
/-- a loop by an invariant of the number of turns -/
theorem for_inv {dg : DG} {db : DQ} {N : DN} (I : Nat → DS → Prop) : ∀ (items : List D) (k : Nat) (δ : DS), I k δ → (∀ j x δ, items[j]? = some x → I (k + j) δ → dg x δ fun δ' => ∀ M : DN, M.rt = N.rt → (∀ δ2, I (k + j + 1) δ2 → M.nx δ2) → (∀ δ2, I (k + j + 1) δ2 → M.ct δ2) → M.bk = N.nx → db M δ') → (∀ (x : D) (δ : DS) (P Q : DS → Prop), (∀ δ2, P δ2 → Q δ2) → dg x δ P → dg x δ Q) → (∀ δ, I (k + items.length) δ → N.nx δ) → dForL dg db N items δ
  | [], k, δ, h0, _, _, h => h δ h0
  | x :: items, k, δ, h0, hs, mono, h => by
    have rest : ∀ δ2, I (k + 1) δ2 → dForL dg db N items δ2 := fun δ2 h2 => for_inv I items (k + 1) δ2 h2 (fun j y δ3 hj h3 => by
      have := hs (j + 1) y δ3 (by simpa using hj) (by rw [show k + (j + 1) = k + 1 + j by omega]; exact h3)
      rw [show k + (j + 1) = k + 1 + j by omega] at this
      exact this) mono (fun δ3 h3 => h δ3 (by rw [List.length_cons, show k + (items.length + 1) = k + 1 + items.length by omega]; exact h3))
    exact mono x δ _ _ (fun δ2 h2 => h2 _ rfl (fun δ3 h3 => rest δ3 h3) (fun δ3 h3 => rest δ3 h3) rfl) (hs 0 x δ rfl h0)
theorem name_mono (i : Nat) (x : D) (δ : DS) (P Q : DS → Prop) (h : ∀ δ2, P δ2 → Q δ2) (q : dName i x δ P) : dName i x δ Q := h _ q
/-! ### pick -/
def d_law_pick : DQ := dRet (dOp fIx (dVar 1) (dFn dp_law_take (dCons (dVarS 0) (dCons (dCB fLen (dCons (dVar 1) (dNil))) (dNil)))))
theorem snd_law_pick {Γ : Cn} {L : LS} : SS Γ L 1 (t_law_pick Γ) d_law_pick := by
  unfold t_law_pick d_law_pick
  exact s_ret (s_op o_ix (s_var 1) (SE.t (s_fn (s := dp_law_take) (cf := 1) (s_cons (s_varS 0) (s_cons (s_cb k_len (s_consT (s_var 1) (s_nilT))) (s_nil))))))
theorem fLen_seq {d : D} {xs : List D} (h : seqD d = some xs) : fLen [d] = some (.int xs.length) := by
  cases d <;> first | (cases h; done) | skip
  · cases h
    rename_i x
    show some (D.int (x.length : Int)) = _
    rw [List.length_map]
    rfl
  · cases h; rfl
  · cases h; rfl
theorem atI_map {α β : Type} (f : α → β) (xs : List α) (i : Int) : atI (xs.map f) i = (atI xs i).map f := by
  unfold atI
  rw [List.length_map]
  cases ixN xs.length i with
  | none => rfl
  | some j => show (xs.map f)[j]? = (xs[j]?).map f; rw [List.getElem?_map]
theorem fIx_seq {d : D} {xs : List D} (h : seqD d = some xs) (i : Int) : fIx d (.int i) = atI xs i := by
  cases d <;> first | (cases h; done) | skip
  · cases h
    rw [atI_map]
    rfl
  · cases h; rfl
  · cases h; rfl
theorem atI_nat {α : Type} {xs : List α} {i : Int} (h0 : 0 ≤ i) (h1 : i < xs.length) : ∃ x, atI xs i = some x ∧ x ∈ xs ∧ xs[i.toNat]? = some x := by
  have hi : i.toNat < xs.length := by omega
  refine ⟨xs[i.toNat], ?_, List.getElem_mem _, List.getElem?_eq_getElem hi⟩
  unfold atI ixN
  rw [if_pos h0, if_pos h1]
  exact List.getElem?_eq_getElem hi
theorem dd_law_pick : ∀ xs P, xs.length = 2 → dp_law_pick xs P → d_law_pick { nx := fun _ => P .non, rt := P } (startD 2 xs) := by
  intro xs P _ h
  rcases h with ⟨ys, d, h0, hs, hne, hl, h⟩
  subst h0
  show match fLen [d] with
    | some z => dp_law_take [.st, z] fun y => match fIx d y with
      | some z => P z
      | none => False
    | none => False
  rw [fLen_seq hs]
  have hL : ((LIM : Nat) : Int) = 1000000 := rfl
  have h1 : 0 < ys.length := List.length_pos_iff.mpr hne
  refine ⟨_, rfl, by omega, by omega, fun k k0 k1 => ?_⟩
  show match fIx d (.int k) with
    | some z => P z
    | none => False
  obtain ⟨x, hx, hm, _⟩ := atI_nat k0 k1
  rw [fIx_seq hs, hx]
  exact h x hm
theorem pure_pick {Γ : Cn} (vs : List V) (H : Hp) (Q : VK) (E : XK) (h : sp_law_pick Γ vs H Q E) : t_law_pick Γ { nx := fun _ H2 => Q .non H2, rt := Q } (L2.start ["_law_state", "_law_some"] vs) H := pure_of (N := ["_law_state", "_law_some"]) (fun _ => snd_law_pick) (Nat.le_refl _) dd_law_pick vs H Q E h
end GP

set_option Elab.async false
set_option linter.all false
set_option maxRecDepth 100000
set_option maxHeartbeats 4000000
/-! G15: names, and the words that a law draws: so many names, all different. -/
namespace GP
open PySem PySem.Spec PyProof.Rows L2
def isLow (c : Nat) : Bool := decide (97 ≤ c) && decide (c ≤ 122)
def isNm (w : Str) : Bool := decide (1 ≤ w.length) && decide (w.length ≤ 8) && w.cps.toList.all isLow
theorem isNm_iff {w : Str} : isNm w = true ↔ 1 ≤ w.cps.toList.length ∧ w.cps.toList.length ≤ 8 ∧ ∀ c ∈ w.cps.toList, 97 ≤ c ∧ c ≤ 122 := by
  unfold isNm isLow Str.length
  rw [Bool.and_eq_true, Bool.and_eq_true, decide_eq_true_eq, decide_eq_true_eq, List.all_eq_true, Array.length_toList, and_assoc]
  simp only [Bool.and_eq_true, decide_eq_true_eq]
theorem isNm_ok {w : Str} (h : isNm w = true) : okStr w = true := by
  obtain ⟨_, h2, h3⟩ := isNm_iff.mp h
  refine okStr_of ?_ fun c m => ?_
  · show w.cps.size ≤ LIM
    have : w.cps.toList.length = w.cps.size := by simp
    have e : LIM = 1000000 := rfl
    omega
  · have := h3 c (by simpa using m)
    omega
def letters : Str := "abcdefghijklmnopqrstuvwxyz"
theorem letters_list : letters.cps.toList = (List.range 26).map (97 + ·) := by decide +kernel
def spare (w : Str) (c : Nat) : Str := (⟨(cutD w.cps.toList none (some 6)).toArray⟩ : Str) ++ ("z" : Str) ++ ⟨#[c]⟩
theorem z_cps : ("z" : Str).cps.toList = [122] := by decide +kernel
theorem app_cps (a b : Str) : (a ++ b).cps.toList = a.cps.toList ++ b.cps.toList := by
  show (a.cps ++ b.cps).toList = _
  simp
theorem spare_list (w : Str) (c : Nat) : (spare w c).cps.toList = cutD w.cps.toList none (some 6) ++ [122] ++ [c] := by
  unfold spare
  rw [app_cps, app_cps, z_cps]
theorem cut6_len {α : Type} (l : List α) : (cutD l none (some 6)).length ≤ 6 := by
  unfold cutD
  rw [List.length_take]
  have e : HT.sIx l.length l.length (some 6) = min 6 l.length := HT.sIx_nat l.length l.length 6
  have e0 : HT.sIx l.length 0 none = 0 := rfl
  rw [e, e0]
  omega
theorem spare_nm {w : Str} {c : Nat} (h : isNm w = true) (hc : 97 ≤ c ∧ c ≤ 122) : isNm (spare w c) = true := by
  obtain ⟨_, _, h3⟩ := isNm_iff.mp h
  rw [isNm_iff, spare_list]
  have := cut6_len w.cps.toList
  refine ⟨by simp, by rw [List.length_append, List.length_append]; simp; omega, fun d m => ?_⟩
  rcases List.mem_append.mp m with m | m
  · rcases List.mem_append.mp m with m | m
    · exact h3 d (cutD_sub _ _ _ m)
    · have : d = 122 := List.mem_singleton.mp m
      omega
  · have : d = c := List.mem_singleton.mp m
    omega
theorem spare_inj {w : Str} {c d : Nat} (h : spare w c = spare w d) : c = d := by
  have := congrArg (fun s : Str => s.cps.toList) h
  simp only [spare_list] at this
  have := List.append_cancel_left this
  simpa using this
theorem nodup_map {α β : Type} {f : α → β} (hf : ∀ a b, f a = f b → a = b) : ∀ {l : List α}, l.Nodup → (l.map f).Nodup
  | [], _ => List.nodup_nil
  | x :: l, h => by
    rw [List.nodup_cons] at h
    rw [List.map_cons, List.nodup_cons]
    refine ⟨fun m => ?_, nodup_map hf h.2⟩
    obtain ⟨y, hy, e⟩ := List.mem_map.mp m
    exact h.1 (hf _ _ e ▸ hy)
theorem spares_free (w : Str) (ws : List Str) (h : ws.length ≤ 8) : ∃ s r, (letters.cps.toList.map (spare w)).filter (fun s => !ws.contains s) = s :: r := by
  cases e : (letters.cps.toList.map (spare w)).filter (fun s => !ws.contains s) with
  | cons s r => exact ⟨s, r, rfl⟩
  | nil =>
    exfalso
    have sub : letters.cps.toList.map (spare w) ⊆ ws := fun s m => by
      have := List.filter_eq_nil_iff.mp e s m
      simpa using this
    have nd : (letters.cps.toList.map (spare w)).Nodup := by
      refine nodup_map (fun _ _ => spare_inj) ?_
      rw [letters_list]
      decide +kernel
    have := nd.length_le_of_subset sub
    rw [List.length_map, letters_list] at this
    simp at this
    omega
theorem in_strs (w : Str) (ws : List Str) : inD (.str w) (.lst (ws.map .str)) = some (ws.contains w) := by
  have hp : plD (DEP + 1) (.lst (ws.map .str)) = true := by
    show (ws.map D.str).all (plD DEP) = true
    rw [List.all_eq_true]
    intro x m
    obtain ⟨y, _, rfl⟩ := List.mem_map.mp m
    rfl
  show (if (plD DEP (.str w) && plD (DEP + 1) (.lst (ws.map .str))) = true then some ((ws.map D.str).any fun y => deq DEP y (.str w)) else none) = _
  rw [hp, if_pos (by rfl), List.any_map]
  congr 1
  rw [Bool.eq_iff_iff, List.any_eq_true, List.contains_iff_mem]
  constructor
  · rintro ⟨x, m, e⟩
    have e : (x == w) = true := e
    rw [beq_iff_eq] at e
    exact e ▸ m
  · intro m
    exact ⟨w, m, by show (w == w) = true; exact beq_self_eq_true w⟩
theorem join0_mem : ∀ (ys : List Str) (c : Nat), c ∈ (Str.join ("" : Str) ys).cps.toList → ∃ y ∈ ys, c ∈ y.cps.toList
  | [], c, h => by
    have h : c ∈ ([] : List Nat) := h
    cases h
  | [y], c, h => ⟨y, List.mem_cons_self, h⟩
  | x :: y :: r, c, h => by
    have e : Str.join ("" : Str) (x :: y :: r) = x ++ ("" : Str) ++ Str.join ("" : Str) (y :: r) := rfl
    have z : ("" : Str).cps.toList = [] := by decide +kernel
    rw [e, app_cps, app_cps, z, List.append_nil] at h
    rcases List.mem_append.mp h with h | h
    · exact ⟨x, List.mem_cons_self, h⟩
    · obtain ⟨u, hu, hc⟩ := join0_mem (y :: r) c h
      exact ⟨u, List.mem_cons_of_mem _ hu, hc⟩
theorem sum_ones : ∀ (cs : List Nat), ((cs.map fun c => (⟨#[c]⟩ : Str)).map (·.length)).sum = cs.length
  | [] => rfl
  | c :: cs => by
    rw [List.map_cons, List.map_cons, List.sum_cons, sum_ones cs, List.length_cons]
    show 1 + cs.length = _
    omega
theorem join_nm {cs : List Nat} (h1 : 1 ≤ cs.length) (h2 : cs.length ≤ 8) (h : ∀ c ∈ cs, 97 ≤ c ∧ c ≤ 122) : isNm (Txt.join ("" : Str) (cs.map fun c => (⟨#[c]⟩ : Str))) = true := by
  rw [isNm_iff]
  have hl : (Txt.join ("" : Str) (cs.map fun c => (⟨#[c]⟩ : Str))).cps.toList.length = cs.length := by
    have := size_glued ("" : Str) (cs.map fun c => (⟨#[c]⟩ : Str))
    rw [sum_ones] at this
    have z : ("" : Str).length = 0 := by decide +kernel
    rw [z, Nat.mul_zero, Nat.add_zero] at this
    exact (Array.length_toList).trans this
  refine ⟨by omega, by omega, fun c m => ?_⟩
  have e : Txt.join ("" : Str) (cs.map fun c => (⟨#[c]⟩ : Str)) = Str.join ("" : Str) (cs.map fun c => (⟨#[c]⟩ : Str)) := StrLaws.glued_eq_join _ _
  rw [e] at m
  obtain ⟨y, hy, hc⟩ := join0_mem _ c m
  obtain ⟨d, hd, rfl⟩ := List.mem_map.mp hy
  have : c = d := List.mem_singleton.mp hc
  subst this
  exact h c hd
theorem strsD_map : ∀ ws : List Str, strsD (ws.map .str) = some ws
  | [] => rfl
  | w :: ws => by
    show (strsD (ws.map .str)).map (w :: ·) = _
    rw [strsD_map ws]
    rfl
end GP

set_option Elab.async false
set_option linter.all false
set_option maxRecDepth 100000
set_option maxHeartbeats 4000000
/-! G14b: steps over data, one a construct. -/
namespace GP
open PySem PySem.Spec PyProof.Rows L2
def oP (o : Option D) (P : D → Prop) : Prop := match o with
  | some z => P z
  | none => False
def oL (o : Option (List D)) (P : List D → Prop) : Prop := match o with
  | some z => P z
  | none => False
def oB (o : Option Bool) (P : Bool → Prop) : Prop := match o with
  | some z => P z
  | none => False
def bP (d : D) (R : Bool → Prop) : Prop := match d with
  | .bl b => R b
  | _ => False
def sP (d : D) (R : Str → Prop) : Prop := match d with
  | .str b => R b
  | _ => False
def nP (d : D) (R : Int → Prop) : Prop := match d with
  | .int b => R b
  | _ => False
def rP (ds : List D) (R : Int → Prop) : Prop := match ds with
  | [.int n] => R n
  | _ => False
theorem i_some {o : Option D} {z : D} {P : D → Prop} (h : o = some z) (p : P z) : oP o P := by
  subst h
  exact p
theorem i_sm {o : Option (List D)} {z : List D} {P : List D → Prop} (h : o = some z) (p : P z) : oL o P := by
  subst h
  exact p
theorem i_sb {o : Option Bool} {z : Bool} {P : Bool → Prop} (h : o = some z) (p : P z) : oB o P := by
  subst h
  exact p
theorem i_bl {b : Bool} {R : Bool → Prop} (h : R b) : bP (.bl b) R := h
theorem i_str {b : Str} {R : Str → Prop} (h : R b) : sP (.str b) R := h
theorem i_int {b : Int} {R : Int → Prop} (h : R b) : nP (.int b) R := h
theorem i_r1 {b : Int} {R : Int → Prop} (h : R b) : rP [.int b] R := h
section
variable {δ : DS} {P : D → Prop} {N : DN} {a b c : DE} {t u : DT} {f g : D → D → Option D} {x y z d : D} {i j : Nat} {A B : DQ}
theorem i_var (h : rdS δ i = some d) (p : P d) : dVar i δ P := by
  unfold dVar
  rw [h]
  exact p
theorem i_varS (h : shS δ i = some d) (p : P d) : dVarS i δ P := by
  unfold dVarS
  rw [h]
  exact p
theorem i_c (p : P d) : dC d δ P := p
theorem i_op (h : a δ fun x => b δ fun y => oP (f x y) P) : dOp f a b δ P := h
theorem i_un {f : D → Option D} (h : a δ fun x => oP (f x) P) : dUn f a δ P := h
theorem i_cb {f : List D → Option D} {r : DA} (h : r δ fun ds => oP (f ds) P) : dCB f r δ P := h
theorem i_test {R : Bool → Prop} (h : a δ fun d => bP d R) : dTest a δ R := h
theorem i_tru {R : Bool → Prop} (h : a δ fun d => oB (truD d) R) : dTru a δ R := h
theorem i_not {R : Bool → Prop} (h : t δ fun b => R (!b)) : dNot t δ R := h
theorem i_and {R : Bool → Prop} (h : t δ fun b => if b = true then u δ R else R false) : dAnd t u δ R := h
theorem i_or {R : Bool → Prop} (h : t δ fun b => if b = true then R true else u δ R) : dOr t u δ R := h
theorem i_if (h : t δ fun x => if x = true then a δ P else b δ P) : dIf t a b δ P := h
theorem i_ifS (h : t δ fun x => if x = true then A N δ else B N δ) : dIfS t A B N δ := h
theorem i_seq (h : A { N with nx := B N } δ) : dSeq A B N δ := h
theorem i_asg (h : a δ fun x => N.nx (δ.set i (some (.sh x)))) : dAsg a i N δ := h
theorem i_asgO (h : a δ fun x => N.nx (δ.set i (some (.ow x)))) : dAsgO a i N δ := h
theorem i_ret (h : a δ N.rt) : dRet a N δ := h
theorem i_drop (h : a δ fun _ => N.nx δ) : dDrop a N δ := h
theorem i_next (h : N.nx δ) : dNext N δ := h
theorem i_nil {R : List D → Prop} (h : R []) : dNil δ R := h
theorem i_cons {r : DA} {R : List D → Prop} (h : a δ fun x => r δ fun xs => R (x :: xs)) : dCons a r δ R := h
theorem i_tup {r : DA} (h : r δ fun ds => P (.tup ds)) : dTup r δ P := h
theorem i_lst {r : DA} (h : r δ fun ds => P (.lst ds)) : dLst r δ P := h
theorem i_fn {s : DSp} {r : DA} (h : r δ fun ds => s ds P) : dFn s r δ P := h
theorem i_fnK {s : DSp} {r : DA} {perm : List Nat} (h : r δ fun ds => s (pickL .non perm ds) P) : dFnK s perm r δ P := h
theorem i_app {xs : List D} (h0 : δ[i]? = some (some (.ow (.lst xs)))) (h : a δ fun x => xs.length < LIM ∧ N.nx (δ.set i (some (.ow (.lst (xs ++ [x])))))) : dApp i a N δ := by
  unfold dApp
  rw [h0]
  exact h
theorem i_frz (h : A N (frz δ i)) : dFrz i A N δ := h
theorem i_for {di : DI} {dg : DG} (h : di δ fun items => dForL dg A N items δ) : dFor di dg A N δ := h
theorem i_forN {n : Nat} {di : DI} {dg : DG} (h : di δ fun items => items.length ≤ n ∧ dForL dg A N items δ) : dForN n di dg A N δ := h
theorem i_lc {di : DI} {dg : DG} {vs : List Nat} (h : di δ fun items => dLcL dg t a P (wipeD δ vs) items []) : dLc di dg t a vs δ P := h
theorem i_lcN {n : Nat} {di : DI} {dg : DG} {vs : List Nat} (h : di δ fun items => items.length ≤ n ∧ dLcL dg t a P (wipeD δ vs) items []) : dLcN n di dg t a vs δ P := h
theorem i_iter {R : List D → Prop} (h : a δ fun d => oL (seqD d) R) : dIter a δ R := h
theorem i_rng {r : DA} {R : List D → Prop} (h : r δ fun ds => rP ds fun n => n ≤ LIM ∧ -LIM ≤ n ∧ R ((List.range n.toNat).map fun (i : Nat) => D.int (i : Int))) : dRng1 r δ R := h
theorem i_sl {lo hi : DO} (h : a δ fun x => lo δ fun l => hi δ fun h => oP (fSl l h x) P) : dSl a lo hi δ P := h
theorem i_m1 {f : Str → D → Option D} (h : a δ fun x => sP x fun s => b δ fun y => oP (f s y) P) : dM1 f a b δ P := h
theorem i_noPart {R : Option Int → Prop} (h : R none) : dNoPart δ R := h
theorem i_part {R : Option Int → Prop} (h : a δ fun x => nP x fun i => R (some i)) : dPart a δ R := h
theorem i_orV (h : a δ fun d => bP d fun x => if x = true then P (.bl true) else b δ P) : dOrV a b δ P := h
theorem i_andV (h : a δ fun d => bP d fun x => if x = true then b δ P else P (.bl false)) : dAndV a b δ P := h
theorem i_notV (h : a δ fun d => bP d fun x => P (.bl (!x))) : dNotV a δ P := h
theorem i_par {k1 k2 : Bool} (h : a δ fun x => b δ fun y => N.nx ((δ.set i (some (mkS k1 x))).set j (some (mkS k2 y)))) : dPar k1 k2 i j a b N δ := h
theorem i_par3 {k1 k2 k3 : Bool} {m : Nat} (h : a δ fun x => b δ fun y => c δ fun z => N.nx (((δ.set i (some (mkS k1 x))).set j (some (mkS k2 y))).set m (some (mkS k3 z)))) : dPar3 k1 k2 k3 i j m a b c N δ := h
/-- both sides of a test -/
theorem i_b {b : Bool} {X Y : Prop} (h1 : b = true → X) (h2 : b = false → Y) : if b = true then X else Y := by
  cases b with
  | true => exact h1 rfl
  | false => exact h2 rfl
/-- the law's take and pick -/
theorem i_take {n : Int} (h0 : 0 < n) (h1 : n < 18446744073709551616) (h : ∀ k, 0 ≤ k → k < n → P (.int k)) : dp_law_take [.st, .int n] P := ⟨n, rfl, h0, h1, h⟩
theorem i_pick {xs : List D} (hs : seqD d = some xs) (hn : xs ≠ []) (hl : xs.length ≤ LIM) (h : ∀ r ∈ xs, P r) : dp_law_pick [.st, d] P := ⟨xs, d, rfl, hs, hn, hl, h⟩
end
end GP

set_option Elab.async false
set_option linter.all false
set_option maxRecDepth 100000
set_option maxHeartbeats 4000000
/-! G16: the words that a law draws. -/
namespace GP
open PySem PySem.Spec PyProof.Rows L2
/-- so many names, all different -/
def dp_law_words : DSp := fun ds P => ∃ n : Nat, ds = [.st, .int n] ∧ n ≤ 9 ∧ ∀ ws : List Str, ws.length = n → ws.Nodup → (∀ w ∈ ws, isNm w = true) → P (.lst (ws.map .str))
def sp_law_words (Γ : Cn) : Sp := lift Γ 2 99 dp_law_words
/-! _law_words: slots 0 _law_state 1 _law_size 2 _law_own 3 _law_letters 4 _law_found 5 _law_k 6 _law_word 7 _law_j 8 _law_letter 9 _law_spare; calls _law_pick _law_take; cost 99 -/
def t_law_words (Γ : Cn) : TS := tSeq (tAsg (tM1 (gSplit) (tC (.str "account in join ask deposit release send lose copy withdraw arrive spent ideal total over")) (tC (.str " "))) (gName 2)) (tSeq (tAsg
   (tTup (tCons (tC (.str "abcdefghijklmnopqrstuvwxyz")) (tCons (tLst (tNil)) (tNil)))) (gTup Γ.K 2 (gCons (gName 3) (gCons (gName 4) (gNil))))) (tSeq (tFor (iRng1 (tCons
   (tVar 1) (tNil))) (gName 5) (tSeq (tAsg (tFn (sp_law_pick Γ) E0 (tCons (tVar 0) (tCons (tVar 2) (tNil)))) (gName 6)) (tSeq (tIfS (tTest (tOp (gGt) (tFn (sp_law_take Γ)
   E0 (tCons (tVar 0) (tCons (tC (.int 3)) (tNil)))) (tC (.int 0)))) (tAsg (tM1 (gJoin Γ.K) (tC (.str "")) (tLc (iRng1 (tCons (tFn (sp_law_pick Γ) E0 (tCons (tVar 0)
   (tCons (tLst (tCons (tC (.int 1)) (tCons (tC (.int 1)) (tCons (tC (.int 2)) (tCons (tC (.int 8)) (tNil)))))) (tNil)))) (tNil))) (gName 7) (tYes) (tFn (sp_law_pick Γ)
   E0 (tCons (tVar 0) (tCons (tVar 3) (tNil)))) [7])) (gName 6)) (tNext)) (tSeq (tIfS (tTest (tOp (gIn Γ.K) (tVar 6) (tVar 4))) (tAsg (tOp (gIx Γ.K) (tLc (gIter Γ.K (tLc
   (gIter Γ.K (tVar 3)) (gName 8) (tYes) (tOp (gAdd Γ.K) (tOp (gAdd Γ.K) (tSl (gSl Γ.K) (tVar 6) (tNoPart) (tPart (tC (.int 6)))) (tC (.str "z"))) (tVar 8)) [8])) (gName
   9) (tTest (tOp (gNotIn Γ.K) (tVar 9) (tVar 4))) (tVar 9) [9]) (tC (.int 0))) (gName 6)) (tNext)) (tDrop (tBM Γ.K "list" rAppend (tVar 4) (tCons (tVar 6) tNil)))))))
   (tRet (tVar 4))))
def d_law_words_b1 : DQ := dSeq (dAsg (dFn dp_law_pick (dCons (dVarS 0) (dCons (dVarS 2) (dNil)))) 6) (dSeq (dIfS (dTest (dOp fGt (dFn dp_law_take (dCons (dVarS 0) (dCons (dC (.int 3)) (dNil))))
   (dC (.int 0)))) (dAsg (dM1 fJoin (dC (.str "")) (dLcN 8 (dRng1 (dCons (dFn dp_law_pick (dCons (dVarS 0) (dCons (dLst (dCons (dC (.int 1)) (dCons (dC (.int 1)) (dCons
   (dC (.int 2)) (dCons (dC (.int 8)) (dNil)))))) (dNil)))) (dNil))) (dName 7) (dYes) (dFn dp_law_pick (dCons (dVarS 0) (dCons (dVarS 3) (dNil)))) [7])) 6) (dNext)) (dSeq
   (dIfS (dTest (dOp fIn (dVar 6) (dVar 4))) (dAsg (dOp fIx (dLc (dIter (dLc (dIter (dVar 3)) (dName 8) (dYes) (dOp fAdd (dOp fAdd (dSl (dVar 6) (dNoPart) (dPart (dC
   (.int 6)))) (dC (.str "z"))) (dVar 8)) [8])) (dName 9) (dTest (dOp fNotIn (dVar 9) (dVar 4))) (dVarS 9) [9]) (dC (.int 0))) 6) (dNext)) (dApp 4 (dVarS 6))))
def d_law_words : DQ := dSeq (dAsg (dM1 fSplit (dC (.str "account in join ask deposit release send lose copy withdraw arrive spent ideal total over")) (dC (.str " "))) 2) (dSeq (dPar false true
   3 4 (dC (.str "abcdefghijklmnopqrstuvwxyz")) (dLst (dNil))) (dSeq (dForN 9 (dRng1 (dCons (dVar 1) (dNil))) (dName 5) (d_law_words_b1)) (dRet (dVar 4))))
theorem snd_law_words {Γ : Cn} {L : LS} : SS Γ L 99 (t_law_words Γ) d_law_words := by
  unfold t_law_words d_law_words d_law_words_b1
  exact s_seq (s_asg 2 (s_m1 m_split (SE.t (s_c fun _ => .str (by decide +kernel))) (SE.t (s_c fun _ => .str (by decide +kernel))))) (s_seq (s_parT (k1 := false) (k2 := true) 3 4
   (s_c fun _ => .str (by decide +kernel)) (s_lst (s_nil))) (s_seq (s_forN 9 (s_rng1 (s_consT (s_var 1) (s_nilT))) (s_name 5) (s_seq (s_asg 6 (s_fn (s := dp_law_pick) (cf
   := 1) (s_cons (s_varS 0) (s_cons (s_varS 2) (s_nil))))) (s_seq (s_if (s_test (SE.t (s_op o_gt (SE.t (s_fn (s := dp_law_take) (cf := 1) (s_cons (s_varS 0) (s_cons (s_c
   fun _ => .int _) (s_nil))))) (SE.t (s_c fun _ => .int _))))) (s_asg 6 (s_m1 m_join (SE.t (s_c fun _ => .str (by decide +kernel))) (SF.t (s_lcN 8 (s_rng1 (s_consT (SE.t
   (s_fn (s := dp_law_pick) (cf := 1) (s_cons (s_varS 0) (s_cons (SF.e (s_lst (s_cons (s_c fun _ => .int _) (s_cons (s_c fun _ => .int _) (s_cons (s_c fun _ => .int _)
   (s_cons (s_c fun _ => .int _) (s_nil))))))) (s_nil))))) (s_nilT))) (s_name 7) (s_yes) (s_fn (s := dp_law_pick) (cf := 1) (s_cons (s_varS 0) (s_cons (s_varS 3)
   (s_nil)))))))) (s_next)) (s_seq (s_if (s_test (SE.t (s_op o_in (s_var 6) (s_var 4)))) (s_asg 6 (s_op o_ix (SF.t (s_lc (s_iterT (SF.t (s_lc (s_iterT (s_var 3)) (s_name
   8) (s_yes) (s_op o_add (SE.t (s_op o_add (SE.t (s_sl (s_var 6) (s_noPart) (s_part (SE.t (s_c fun _ => .int _))))) (SE.t (s_c fun _ => .str (by decide +kernel)))))
   (s_var 8))))) (s_name 9) (s_test (SE.t (s_op o_notIn (s_var 9) (s_var 4)))) (s_varS 9))) (SE.t (s_c fun _ => .int _)))) (s_next)) (s_app 4 (s_varS 6)))))) (s_retV 4)))
theorem ix_head (x : D) (xs : List D) : fIx (.lst (x :: xs)) (.int 0) = some x := by
  obtain ⟨y, hy, _, h2⟩ := atI_nat (xs := x :: xs) (i := 0) (by omega) (by rw [List.length_cons]; omega)
  rw [fIx_seq (xs := x :: xs) rfl, hy]
  exact h2.symm
def ownW : List Str := [("account" : Str), ("in" : Str), ("join" : Str), ("ask" : Str), ("deposit" : Str), ("release" : Str), ("send" : Str), ("lose" : Str), ("copy" : Str), ("withdraw" : Str), ("arrive" : Str), ("spent" : Str), ("ideal" : Str), ("total" : Str), ("over" : Str)]
theorem split_own : fSplit "account in join ask deposit release send lose copy withdraw arrive spent ideal total over" (.str " ") = some (.lst (ownW.map .str)) := by
  have e : Txt.split ("account in join ask deposit release send lose copy withdraw arrive spent ideal total over" : Str) (" " : Str) = ownW := by decide +kernel
  unfold fSplit
  dsimp only
  rw [e, if_pos (by decide +kernel)]
theorem own_nm : ∀ w ∈ ownW, isNm w = true := by
  have : ownW.all isNm = true := by decide +kernel
  exact List.all_eq_true.mp this
def wS (n : Int) (ws : List Str) (x5 x6 x7 x8 x9 : Option Sl) : DS := [some (.sh .st), some (.sh (.int n)), some (.sh (.lst (ownW.map .str))), some (.sh (.str letters)), some (.ow (.lst (ws.map .str))), x5, x6, x7, x8, x9]
/-- the part behind the draw: another word, if it is there, then appended -/
theorem words_tail (N : DN) (n : Int) (ws : List Str) (x5 x7 x8 x9 : Option Sl) (w : Str) (hw : isNm w = true) (hl : ws.length ≤ 8) (h : ∀ u x6, isNm u = true → u ∉ ws → N.nx (wS n (ws ++ [u]) x5 x6 x7 x8 x9)) :
    dSeq (dIfS (dTest (dOp fIn (dVar 6) (dVar 4))) (dAsg (dOp fIx (dLc (dIter (dLc (dIter (dVar 3)) (dName 8) (dYes) (dOp fAdd (dOp fAdd (dSl (dVar 6) (dNoPart) (dPart (dC (.int 6)))) (dC (.str "z"))) (dVar 8)) [8])) (dName 9) (dTest (dOp fNotIn (dVar 9) (dVar 4))) (dVarS 9) [9]) (dC (.int 0))) 6) (dNext)) (dApp 4 (dVarS 6)) N (wS n ws x5 (some (.sh (.str w))) x7 x8 x9) := by
  have app : ∀ u, isNm u = true → u ∉ ws → dApp 4 (dVarS 6) N (wS n ws x5 (some (.sh (.str u))) x7 x8 x9) := fun u hu hn => by
    refine (show (ws.map D.str).length < LIM ∧ N.nx [some (.sh .st), some (.sh (.int n)), some (.sh (.lst (ownW.map .str))), some (.sh (.str letters)), some (.ow (.lst (ws.map .str ++ [.str u]))), x5, some (.sh (.str u)), x7, x8, x9] from ⟨?_, ?_⟩)
    · rw [List.length_map]
      have : LIM = 1000000 := rfl
      omega
    · have := h u (some (.sh (.str u))) hu hn
      unfold wS at this
      rw [List.map_append] at this
      exact this
  refine i_seq (i_ifS (i_test (i_op (i_var rfl (i_var rfl (i_some (congrArg (Option.map D.bl) (in_strs w ws)) (i_bl (i_b (fun hc => ?_) fun hc => ?_))))))))
  · -- the spare words
    refine i_asg (i_op (i_lc (i_iter (i_lc (i_iter (i_var rfl (i_sm rfl ?_)))))))
    refine lcL_yes (fun d => match d with
      | .str u => .str (spare w (u.cps.getD 0 0))
      | d => d) _ _ (fun x m R hR => ?_) ?_
    · obtain ⟨c, hc, rfl⟩ := List.mem_map.mp m
      have hc2 : 97 ≤ c ∧ c ≤ 122 := by
        rw [letters_list] at hc
        obtain ⟨k, hk, rfl⟩ := List.mem_map.mp hc
        have := List.mem_range.mp hk
        omega
      have k1 := isNm_ok (spare_nm hw hc2)
      have k0 : okStr ((⟨(cutD w.cps.toList none (some 6)).toArray⟩ : Str) ++ ("z" : Str)) = true := by
        refine okStr_of ?_ fun d md => okStr_cp k1 ?_
        · have l1 := okStr_len k1
          have l2 : (spare w c).length = ((⟨(cutD w.cps.toList none (some 6)).toArray⟩ : Str) ++ ("z" : Str)).length + 1 := by
            show (((⟨(cutD w.cps.toList none (some 6)).toArray⟩ : Str) ++ ("z" : Str)).cps ++ #[c]).size = _
            rw [Array.size_append]
            rfl
          omega
        · show d ∈ ((⟨(cutD w.cps.toList none (some 6)).toArray⟩ : Str) ++ ("z" : Str)).cps ++ #[c]
          exact Array.mem_append.mpr (.inl md)
      refine i_op (i_op (i_sl (i_var rfl (i_noPart (i_part (i_c (i_int (i_some rfl (i_c (i_some (if_pos k0) (i_var rfl (i_some (if_pos k1) hR))))))))))))
    · obtain ⟨s, r, hs⟩ := spares_free w ws hl
      rw [List.nil_append, List.map_map]
      have em : (letters.cps.toList.map ((fun d => match d with
        | .str u => .str (spare w (u.cps.getD 0 0))
        | d => d) ∘ fun c => D.str ⟨#[c]⟩)) = (letters.cps.toList.map (spare w)).map D.str := by
        rw [List.map_map]
        rfl
      rw [em]
      refine i_sm rfl ?_
      refine lcL_if (fun d => match d with
        | .str u => !ws.contains u
        | _ => false) (fun d => d) _ _ (fun x m R hR => ?_) (fun x m R hR => i_varS rfl hR) ?_
      · obtain ⟨u, _, rfl⟩ := List.mem_map.mp m
        exact i_test (i_op (i_var rfl (i_var rfl (i_some (congrArg (Option.map fun b => D.bl (!b)) (in_strs u ws)) (i_bl hR)))))
      · rw [List.nil_append, List.map_id', List.filter_map]
        have ef : (letters.cps.toList.map (spare w)).filter ((fun d => match d with
          | .str u => !ws.contains u
          | _ => false) ∘ D.str) = s :: r := hs
        rw [ef]
        have ms : s ∈ s :: r := List.mem_cons_self
        rw [← hs] at ms
        obtain ⟨m1, m2⟩ := List.mem_filter.mp ms
        obtain ⟨c, hc, rfl⟩ := List.mem_map.mp m1
        refine i_c (i_some (ix_head _ _) (app _ (spare_nm hw ?_) (by simpa using m2)))
        rw [letters_list] at hc
        obtain ⟨k, hk, rfl⟩ := List.mem_map.mp hc
        have := List.mem_range.mp hk
        omega
  · exact app w hw (by simpa using hc)
theorem words_body (N : DN) (n : Int) (ws : List Str) (x5 x6 x7 x8 x9 : Option Sl) (hl : ws.length ≤ 8) (h : ∀ u x6, isNm u = true → u ∉ ws → N.nx (wS n (ws ++ [u]) x5 x6 x7 x8 x9)) : d_law_words_b1 N (wS n ws x5 x6 x7 x8 x9) := by
  unfold d_law_words_b1
  refine i_seq (i_asg (i_fn (i_cons (i_varS rfl (i_cons (i_varS rfl (i_nil (i_pick rfl ?_ ?_ fun r hr => ?_))))))))
  · exact fun z => by cases z
  · rw [List.length_map]; decide
  obtain ⟨w, hw, rfl⟩ := List.mem_map.mp hr
  have hw := own_nm w hw
  dsimp only
  refine i_seq (i_ifS (i_test (i_op (i_fn (i_cons (i_varS rfl (i_cons (i_c (i_nil (i_take (by decide) (by decide) fun k k0 k3 => i_c (i_some rfl (i_bl (i_b (fun hk => ?_) fun hk => ?_)))))))))))))
  · refine i_asg (i_m1 (i_c (i_str (i_lcN (i_rng (i_cons (i_fn (i_cons (i_varS rfl (i_cons (i_lst (i_cons (i_c (i_cons (i_c (i_cons (i_c (i_cons (i_c (i_nil (i_nil (i_pick rfl ?_ ?_ fun r hr => i_nil ?_))))))))))))))))))))))
    · exact fun z => by cases z
    · decide
    obtain ⟨m, em, m1, m8⟩ : ∃ m : Nat, r = .int m ∧ 1 ≤ m ∧ m ≤ 8 := by
      rcases List.mem_cons.mp hr with rfl | hr
      · exact ⟨1, rfl, by omega, by omega⟩
      rcases List.mem_cons.mp hr with rfl | hr
      · exact ⟨1, rfl, by omega, by omega⟩
      rcases List.mem_cons.mp hr with rfl | hr
      · exact ⟨2, rfl, by omega, by omega⟩
      rcases List.mem_cons.mp hr with rfl | hr
      · exact ⟨8, rfl, by omega, by omega⟩
      cases hr
    subst em
    have hL : ((LIM : Nat) : Int) = 1000000 := rfl
    refine i_r1 ⟨by omega, by omega, by rw [List.length_map, List.length_range]; omega, ?_⟩
    refine lcL_any (fun d => ∃ c : Nat, d = .str ⟨#[c]⟩ ∧ 97 ≤ c ∧ c ≤ 122) _ _ (fun x hx R hR => ?_) fun ys hys hs => ?_
    · refine i_fn (i_cons (i_varS rfl (i_cons (i_varS rfl (i_nil (i_pick rfl ?_ ?_ fun r hr => ?_))))))
      · rw [letters_list]; exact fun z => by cases z
      · rw [List.length_map, letters_list]; decide
      · obtain ⟨c, hc, rfl⟩ := List.mem_map.mp hr
        rw [letters_list] at hc
        obtain ⟨k, hk, rfl⟩ := List.mem_map.mp hc
        have := List.mem_range.mp hk
        exact hR _ ⟨_, rfl, by omega, by omega⟩
    · rw [List.length_map, List.length_range, Int.toNat_natCast] at hys
      obtain ⟨cs, ec, hcs⟩ : ∃ cs : List Nat, ys = (cs.map fun c => (⟨#[c]⟩ : Str)).map D.str ∧ ∀ c ∈ cs, 97 ≤ c ∧ c ≤ 122 := by
        clear hys
        induction ys with
        | nil => exact ⟨[], rfl, fun _ m => by cases m⟩
        | cons y ys ih =>
          obtain ⟨cs, e, h⟩ := ih fun z m => hs z (List.mem_cons_of_mem _ m)
          obtain ⟨c, rfl, c1, c2⟩ := hs y List.mem_cons_self
          refine ⟨c :: cs, by rw [e]; rfl, fun d m => ?_⟩
          rcases List.mem_cons.mp m with rfl | m
          · exact ⟨c1, c2⟩
          · exact h d m
      have hlen : cs.length = m := by rw [ec, List.length_map, List.length_map] at hys; exact hys
      have nm : isNm (Txt.join ("" : Str) (cs.map fun c => (⟨#[c]⟩ : Str))) = true := join_nm (by omega) (by omega) hcs
      have ej : fJoin "" (.lst ys) = some (.str (Txt.join ("" : Str) (cs.map fun c => (⟨#[c]⟩ : Str)))) := by
        unfold fJoin
        dsimp only
        rw [ec, strsD_map]
        dsimp only
        rw [sum_ones, isNm_ok nm, List.length_map]
        have z : ("" : Str).length = 0 := by decide +kernel
        rw [z, Nat.mul_zero, if_pos]
        rw [Bool.and_true, decide_eq_true_eq, Nat.add_zero]
        have e : LIM = 1000000 := rfl
        omega
      rw [List.nil_append]
      refine i_some ej ?_
      exact words_tail N n ws x5 x7 x8 x9 _ nm hl h
  · exact words_tail N n ws x5 x7 x8 x9 w hw hl h
theorem dd_law_words : ∀ xs P, xs.length = 2 → dp_law_words xs P → d_law_words { nx := fun _ => P .non, rt := P } (startD 10 xs) := by
  intro xs P _ h
  rcases h with ⟨n, h0, hn, h⟩
  subst h0
  have hL : ((LIM : Nat) : Int) = 1000000 := rfl
  unfold d_law_words
  refine i_seq (i_asg (i_m1 (i_c (i_str (i_c (i_some split_own ?_))))))
  dsimp only
  refine i_seq (i_par (i_c (i_lst (i_nil ?_))))
  show dSeq (dForN 9 (dRng1 (dCons (dVar 1) dNil)) (dName 5) d_law_words_b1) (dRet (dVar 4)) _ (wS n [] none none none none none)
  refine i_seq (i_forN (i_rng (i_cons (i_var rfl (i_nil (i_r1 ⟨by omega, by omega, by rw [List.length_map, List.length_range]; omega, ?_⟩))))))
  refine for_inv (fun k δ => ∃ ws x5 x6 x7 x8 x9, ws.length = k ∧ ws.Nodup ∧ (∀ w ∈ ws, isNm w = true) ∧ δ = wS n ws x5 x6 x7 x8 x9) _ 0 _ ⟨[], none, none, none, none, none, rfl, List.nodup_nil, (fun _ m => by cases m), rfl⟩ ?_ (name_mono 5) ?_
  · rintro j x δ hj ⟨ws, x5, x6, x7, x8, x9, e1, e2, e3, rfl⟩ M hr hnx hct hbk
    have hjn : j < n := by
      have := (List.getElem?_eq_some_iff.mp hj).1
      rw [List.length_map, List.length_range] at this
      omega
    refine words_body M n ws (some (.sh x)) x6 x7 x8 x9 (by omega) fun u x6' hu hn => hnx _ ?_
    refine ⟨ws ++ [u], some (.sh x), x6', x7, x8, x9, by rw [List.length_append, e1]; simp, ?_, ?_, rfl⟩
    · rw [List.nodup_append]
      refine ⟨e2, by simp, fun a ha b hb => ?_⟩
      have : b = u := List.mem_singleton.mp hb
      subst this
      exact fun z => hn (z ▸ ha)
    · intro w m
      rcases List.mem_append.mp m with m | m
      · exact e3 w m
      · exact (List.mem_singleton.mp m) ▸ hu
  · rintro δ ⟨ws, x5, x6, x7, x8, x9, e1, e2, e3, rfl⟩
    show P (.lst (ws.map .str))
    refine h ws ?_ e2 e3
    rw [e1, List.length_map, List.length_range]
    omega
theorem pure_words {Γ : Cn} (N : List Str) (hN : N.length = 10) (vs : List V) (H : Hp) (Q : VK) (E : XK) (h : sp_law_words Γ vs H Q E) : t_law_words Γ { nx := fun _ H2 => Q .non H2, rt := Q } (L2.start N vs) H := pure_of (N := N) (fun _ => snd_law_words) (Nat.le_refl _) (by rw [hN]; exact dd_law_words) vs H Q E h
end GP

set_option Elab.async false
set_option linter.all false
set_option maxRecDepth 100000
set_option maxHeartbeats 4000000
namespace GP
open PySem PySem.Spec PyProof.Rows L2
def dc_ROWS : D := .tup [.str "spender", .str "request"]
def dc_ANSWERS : D := .tup [.str "consent", .str "refuse"]
structure Kc (Γ : Cn) : Prop where
  k_ROWS : ∀ L G, Rep Γ L G (Γ.con "ROWS") dc_ROWS
  k_ANSWERS : ∀ L G, Rep Γ L G (Γ.con "ANSWERS") dc_ANSWERS
inductive Fa where
  | spd (p : Int) (n : Str) (k : Int) | req (p : Int) (n : Str) (k : Int) | dep (p : Int) (n : Str) (k : Int) | rel (p k : Int) | wdr (p : Int) | con (a b : Int) | ref (a b : Int)
def Fa.d : Fa → D
  | .spd p n k => .tup [.str "spender", .int p, .str n, .int k]
  | .req p n k => .tup [.str "request", .int p, .str n, .int k]
  | .dep p n k => .tup [.str "deposit", .int p, .str n, .int k]
  | .rel p k => .tup [.str "release", .int p, .int k]
  | .wdr p => .tup [.str "withdrawn", .int p]
  | .con a b => .tup [.str "consent", .int a, .int b]
  | .ref a b => .tup [.str "refuse", .int a, .int b]
def Fa.pr : Fa → List D
  | .rel p _ => [.tup [.int p, .str "spender"]]
  | .wdr p => [.tup [.int p, .str "request"]]
  | .con a b => [.tup [.int a, .str "request"], .tup [.int b, .str "spender"]]
  | .ref a b => [.tup [.int a, .str "request"], .tup [.int b, .str "spender"]]
  | _ => []
/-- does the row a deny b -/
def Fa.dn : Fa → Fa → Bool
  | .spd p _ _, .wdr q => q == p
  | .spd p _ _, .con q _ => q == p
  | .spd p _ _, .ref q _ => q == p
  | .req p _ _, .rel q _ => q == p
  | .req p _ _, .con _ q => q == p
  | .req p _ _, .ref _ q => q == p
  | _, _ => false
def Fa.cf : Fa → Fa → Bool
  | .spd p n k, .spd q m l => p == q && !(n == m && k == l)
  | .req p n k, .req q m l => p == q && !(n == m && k == l)
  | .spd p _ _, .req q _ _ => p == q
  | .req p _ _, .spd q _ _ => p == q
  | .dep p n k, .dep q m l => p == q && !(n == m && k == l)
  | .con a b, .ref c d => a == c && b == d
  | .ref a b, .con c d => a == c && b == d
  | x, y => x.dn y || y.dn x
def dp_rows_presupposed : DSp := fun ds P => ∃ a : Fa, ds = [a.d] ∧ P (.lst a.pr)
def sp_rows_presupposed (Γ : Cn) : Sp := lift Γ 1 0 dp_rows_presupposed
def dp_does_deny : DSp := fun ds P => ∃ a b : Fa, ds = [a.d, b.d] ∧ P (.bl (a.dn b))
def sp_does_deny (Γ : Cn) : Sp := lift Γ 2 0 dp_does_deny
def dp_do_conflict : DSp := fun ds P => ∃ a b : Fa, ds = [a.d, b.d] ∧ P (.bl (a.cf b))
def sp_do_conflict (Γ : Cn) : Sp := lift Γ 2 0 dp_do_conflict
def dp_law_conflicts : DSp := fun ds P => ∃ a b : Fa, ds = [a.d, b.d] ∧ P (.bl (a.cf b))
def sp_law_conflicts (Γ : Cn) : Sp := lift Γ 2 0 dp_law_conflicts
theorem wn1 : (("spender" : Str) == "request") = false := by decide +kernel
theorem wn2 : (("spender" : Str) == "deposit") = false := by decide +kernel
theorem wn3 : (("spender" : Str) == "release") = false := by decide +kernel
theorem wn4 : (("spender" : Str) == "withdrawn") = false := by decide +kernel
theorem wn5 : (("spender" : Str) == "consent") = false := by decide +kernel
theorem wn6 : (("spender" : Str) == "refuse") = false := by decide +kernel
theorem wn7 : (("request" : Str) == "spender") = false := by decide +kernel
theorem wn8 : (("request" : Str) == "deposit") = false := by decide +kernel
theorem wn9 : (("request" : Str) == "release") = false := by decide +kernel
theorem wn10 : (("request" : Str) == "withdrawn") = false := by decide +kernel
theorem wn11 : (("request" : Str) == "consent") = false := by decide +kernel
theorem wn12 : (("request" : Str) == "refuse") = false := by decide +kernel
theorem wn13 : (("deposit" : Str) == "spender") = false := by decide +kernel
theorem wn14 : (("deposit" : Str) == "request") = false := by decide +kernel
theorem wn15 : (("deposit" : Str) == "release") = false := by decide +kernel
theorem wn16 : (("deposit" : Str) == "withdrawn") = false := by decide +kernel
theorem wn17 : (("deposit" : Str) == "consent") = false := by decide +kernel
theorem wn18 : (("deposit" : Str) == "refuse") = false := by decide +kernel
theorem wn19 : (("release" : Str) == "spender") = false := by decide +kernel
theorem wn20 : (("release" : Str) == "request") = false := by decide +kernel
theorem wn21 : (("release" : Str) == "deposit") = false := by decide +kernel
theorem wn22 : (("release" : Str) == "withdrawn") = false := by decide +kernel
theorem wn23 : (("release" : Str) == "consent") = false := by decide +kernel
theorem wn24 : (("release" : Str) == "refuse") = false := by decide +kernel
theorem wn25 : (("withdrawn" : Str) == "spender") = false := by decide +kernel
theorem wn26 : (("withdrawn" : Str) == "request") = false := by decide +kernel
theorem wn27 : (("withdrawn" : Str) == "deposit") = false := by decide +kernel
theorem wn28 : (("withdrawn" : Str) == "release") = false := by decide +kernel
theorem wn29 : (("withdrawn" : Str) == "consent") = false := by decide +kernel
theorem wn30 : (("withdrawn" : Str) == "refuse") = false := by decide +kernel
theorem wn31 : (("consent" : Str) == "spender") = false := by decide +kernel
theorem wn32 : (("consent" : Str) == "request") = false := by decide +kernel
theorem wn33 : (("consent" : Str) == "deposit") = false := by decide +kernel
theorem wn34 : (("consent" : Str) == "release") = false := by decide +kernel
theorem wn35 : (("consent" : Str) == "withdrawn") = false := by decide +kernel
theorem wn36 : (("consent" : Str) == "refuse") = false := by decide +kernel
theorem wn37 : (("refuse" : Str) == "spender") = false := by decide +kernel
theorem wn38 : (("refuse" : Str) == "request") = false := by decide +kernel
theorem wn39 : (("refuse" : Str) == "deposit") = false := by decide +kernel
theorem wn40 : (("refuse" : Str) == "release") = false := by decide +kernel
theorem wn41 : (("refuse" : Str) == "withdrawn") = false := by decide +kernel
theorem wn42 : (("refuse" : Str) == "consent") = false := by decide +kernel
-- wn1, wn2, wn3, wn4, wn5, wn6, wn7, wn8, wn9, wn10, wn11, wn12, wn13, wn14, wn15, wn16, wn17, wn18, wn19, wn20, wn21, wn22, wn23, wn24, wn25, wn26, wn27, wn28, wn29, wn30, wn31, wn32, wn33, wn34, wn35, wn36, wn37, wn38, wn39, wn40, wn41, wn42
/-! rows_presupposed: slots 0 fact 1 word; calls ; cost 0 -/
def t_rows_presupposed (Γ : Cn) : TS := tSeq (tAsg (tOp (gIx Γ.K) (tVar 0) (tC (.int 0))) (gName 1)) (tSeq (tIfS (tTest (tOp (gEq Γ.K) (tVar 1) (tC (.str "release")))) (tRet (tLst (tCons (tTup (tCons (tOp (gIx
   Γ.K) (tVar 0) (tC (.int 1))) (tCons (tC (.str "spender")) (tNil)))) (tNil)))) (tNext)) (tSeq (tIfS (tTest (tOp (gEq Γ.K) (tVar 1) (tC (.str "withdrawn")))) (tRet (tLst
   (tCons (tTup (tCons (tOp (gIx Γ.K) (tVar 0) (tC (.int 1))) (tCons (tC (.str "request")) (tNil)))) (tNil)))) (tNext)) (tRet (tIf (tTest (tOp (gIn Γ.K) (tVar 1) (tC
   (Γ.con "ANSWERS")))) (tLst (tCons (tTup (tCons (tOp (gIx Γ.K) (tVar 0) (tC (.int 1))) (tCons (tC (.str "request")) (tNil)))) (tCons (tTup (tCons (tOp (gIx Γ.K) (tVar
   0) (tC (.int 2))) (tCons (tC (.str "spender")) (tNil)))) (tNil)))) (tLst (tNil))))))
def d_rows_presupposed : DQ := dSeq (dAsg (dOp fIx (dVar 0) (dC (.int 0))) 1) (dSeq (dIfS (dTest (dOp fEq (dVar 1) (dC (.str "release")))) (dRet (dLst (dCons (dTup (dCons (dOp fIx (dVar 0) (dC (.int
   1))) (dCons (dC (.str "spender")) (dNil)))) (dNil)))) (dNext)) (dSeq (dIfS (dTest (dOp fEq (dVar 1) (dC (.str "withdrawn")))) (dRet (dLst (dCons (dTup (dCons (dOp fIx
   (dVar 0) (dC (.int 1))) (dCons (dC (.str "request")) (dNil)))) (dNil)))) (dNext)) (dRet (dIf (dTest (dOp fIn (dVar 1) (dC dc_ANSWERS))) (dLst (dCons (dTup (dCons (dOp
   fIx (dVar 0) (dC (.int 1))) (dCons (dC (.str "request")) (dNil)))) (dCons (dTup (dCons (dOp fIx (dVar 0) (dC (.int 2))) (dCons (dC (.str "spender")) (dNil))))
   (dNil)))) (dLst (dNil))))))
theorem snd_rows_presupposed {Γ : Cn} (C : Kc Γ) {L : LS} : SS Γ L 0 (t_rows_presupposed Γ) d_rows_presupposed := by
  unfold t_rows_presupposed d_rows_presupposed
  exact s_seq (s_asg 1 (s_op o_ix (s_var 0) (SE.t (s_c fun _ => .int _)))) (s_seq (s_if (s_test (SE.t (s_op o_eq (s_var 1) (SE.t (s_c fun _ => .str (by decide +kernel))))))
   (s_ret (SF.e (s_lst (s_cons (s_tup (s_cons (s_op o_ix (s_var 0) (SE.t (s_c fun _ => .int _))) (s_cons (s_c fun _ => .str (by decide +kernel)) (s_nil)))) (s_nil)))))
   (s_next)) (s_seq (s_if (s_test (SE.t (s_op o_eq (s_var 1) (SE.t (s_c fun _ => .str (by decide +kernel)))))) (s_ret (SF.e (s_lst (s_cons (s_tup (s_cons (s_op o_ix
   (s_var 0) (SE.t (s_c fun _ => .int _))) (s_cons (s_c fun _ => .str (by decide +kernel)) (s_nil)))) (s_nil))))) (s_next)) (s_ret (s_if' (s_test (SE.t (s_op o_in (s_var
   1) (SE.t (s_c fun _ => C.k_ANSWERS _ _))))) (SF.e (s_lst (s_cons (s_tup (s_cons (s_op o_ix (s_var 0) (SE.t (s_c fun _ => .int _))) (s_cons (s_c fun _ => .str
   (by decide +kernel)) (s_nil)))) (s_cons (s_tup (s_cons (s_op o_ix (s_var 0) (SE.t (s_c fun _ => .int _))) (s_cons (s_c fun _ => .str (by decide +kernel)) (s_nil))))
   (s_nil))))) (SF.e (s_lst (s_nil)))))))
/-! does_deny: slots 0 row 1 fact 2 other; calls rows_presupposed; cost 0 -/
def t_does_deny (Γ : Cn) : TS := tSeq (tIfS (tTest (tOp (gNotIn Γ.K) (tOp (gIx Γ.K) (tVar 0) (tC (.int 0))) (tC (Γ.con "ROWS")))) (tRet (tC (.bl false))) (tNext)) (tSeq (tAsg (tIf (tTest (tOp (gEq Γ.K)
   (tOp (gIx Γ.K) (tVar 0) (tC (.int 0))) (tC (.str "spender")))) (tC (.str "request")) (tC (.str "spender"))) (gName 2)) (tRet (tOp (gIn Γ.K) (tTup (tCons (tOp (gIx Γ.K)
   (tVar 0) (tC (.int 1))) (tCons (tVar 2) (tNil)))) (tFn (sp_rows_presupposed Γ) E0 (tCons (tVar 1) (tNil))))))
def d_does_deny : DQ := dSeq (dIfS (dTest (dOp fNotIn (dOp fIx (dVar 0) (dC (.int 0))) (dC dc_ROWS))) (dRet (dC (.bl false))) (dNext)) (dSeq (dAsg (dIf (dTest (dOp fEq (dOp fIx (dVar 0) (dC
   (.int 0))) (dC (.str "spender")))) (dC (.str "request")) (dC (.str "spender"))) 2) (dRet (dOp fIn (dTup (dCons (dOp fIx (dVar 0) (dC (.int 1))) (dCons (dVarS 2)
   (dNil)))) (dFn dp_rows_presupposed (dCons (dVarS 1) (dNil))))))
theorem snd_does_deny {Γ : Cn} (C : Kc Γ) {L : LS} : SS Γ L 0 (t_does_deny Γ) d_does_deny := by
  unfold t_does_deny d_does_deny
  exact s_seq (s_if (s_test (SE.t (s_op o_notIn (SE.t (s_op o_ix (s_var 0) (SE.t (s_c fun _ => .int _)))) (SE.t (s_c fun _ => C.k_ROWS _ _))))) (s_ret (s_c fun _ => .bl _))
   (s_next)) (s_seq (s_asg 2 (s_if' (s_test (SE.t (s_op o_eq (SE.t (s_op o_ix (s_var 0) (SE.t (s_c fun _ => .int _)))) (SE.t (s_c fun _ => .str (by decide +kernel))))))
   (s_c fun _ => .str (by decide +kernel)) (s_c fun _ => .str (by decide +kernel)))) (s_ret (s_op o_in (SE.t (s_tup (s_cons (s_op o_ix (s_var 0) (SE.t (s_c fun _ => .int
   _))) (s_cons (s_varS 2) (s_nil))))) (SE.t (s_fn (s := dp_rows_presupposed) (cf := 0) (s_cons (s_varS 1) (s_nil)))))))
/-! do_conflict: slots 0 one 1 other; calls does_deny; cost 0 -/
def t_do_conflict (Γ : Cn) : TS := tSeq (tIfS (tTest (tOp (gEq Γ.K) (tVar 0) (tVar 1))) (tRet (tC (.bl false))) (tNext)) (tSeq (tIfS (tOr (tAnd (tTest (tOp (gIn Γ.K) (tOp (gIx Γ.K) (tVar 0) (tC (.int 0)))
   (tC (Γ.con "ROWS")))) (tTest (tOp (gIn Γ.K) (tOp (gIx Γ.K) (tVar 1) (tC (.int 0))) (tC (Γ.con "ROWS"))))) (tAnd (tTest (tOp (gEq Γ.K) (tOp (gIx Γ.K) (tVar 0) (tC (.int
   0))) (tC (.str "deposit")))) (tTest (tOp (gEq Γ.K) (tOp (gIx Γ.K) (tVar 1) (tC (.int 0))) (tC (.str "deposit")))))) (tRet (tOp (gEq Γ.K) (tOp (gIx Γ.K) (tVar 0) (tC
   (.int 1))) (tOp (gIx Γ.K) (tVar 1) (tC (.int 1))))) (tNext)) (tSeq (tIfS (tAnd (tTest (tOp (gIn Γ.K) (tOp (gIx Γ.K) (tVar 0) (tC (.int 0))) (tC (Γ.con "ANSWERS"))))
   (tTest (tOp (gIn Γ.K) (tOp (gIx Γ.K) (tVar 1) (tC (.int 0))) (tC (Γ.con "ANSWERS"))))) (tRet (tOp (gEq Γ.K) (tSl (gSl Γ.K) (tVar 0) (tPart (tC (.int 1))) (tNoPart))
   (tSl (gSl Γ.K) (tVar 1) (tPart (tC (.int 1))) (tNoPart)))) (tNext)) (tRet (tOrV (tFn (sp_does_deny Γ) E0 (tCons (tVar 0) (tCons (tVar 1) (tNil)))) (tFn (sp_does_deny
   Γ) E0 (tCons (tVar 1) (tCons (tVar 0) (tNil))))))))
def d_do_conflict : DQ := dSeq (dIfS (dTest (dOp fEq (dVar 0) (dVar 1))) (dRet (dC (.bl false))) (dNext)) (dSeq (dIfS (dOr (dAnd (dTest (dOp fIn (dOp fIx (dVar 0) (dC (.int 0))) (dC dc_ROWS)))
   (dTest (dOp fIn (dOp fIx (dVar 1) (dC (.int 0))) (dC dc_ROWS)))) (dAnd (dTest (dOp fEq (dOp fIx (dVar 0) (dC (.int 0))) (dC (.str "deposit")))) (dTest (dOp fEq (dOp
   fIx (dVar 1) (dC (.int 0))) (dC (.str "deposit")))))) (dRet (dOp fEq (dOp fIx (dVar 0) (dC (.int 1))) (dOp fIx (dVar 1) (dC (.int 1))))) (dNext)) (dSeq (dIfS (dAnd
   (dTest (dOp fIn (dOp fIx (dVar 0) (dC (.int 0))) (dC dc_ANSWERS))) (dTest (dOp fIn (dOp fIx (dVar 1) (dC (.int 0))) (dC dc_ANSWERS)))) (dRet (dOp fEq (dSl (dVar 0)
   (dPart (dC (.int 1))) (dNoPart)) (dSl (dVar 1) (dPart (dC (.int 1))) (dNoPart)))) (dNext)) (dRet (dOrV (dFn dp_does_deny (dCons (dVarS 0) (dCons (dVarS 1) (dNil))))
   (dFn dp_does_deny (dCons (dVarS 1) (dCons (dVarS 0) (dNil))))))))
theorem snd_do_conflict {Γ : Cn} (C : Kc Γ) {L : LS} : SS Γ L 0 (t_do_conflict Γ) d_do_conflict := by
  unfold t_do_conflict d_do_conflict
  exact s_seq (s_if (s_test (SE.t (s_op o_eq (s_var 0) (s_var 1)))) (s_ret (s_c fun _ => .bl _)) (s_next)) (s_seq (s_if (s_or (s_and (s_test (SE.t (s_op o_in (SE.t (s_op o_ix
   (s_var 0) (SE.t (s_c fun _ => .int _)))) (SE.t (s_c fun _ => C.k_ROWS _ _))))) (s_test (SE.t (s_op o_in (SE.t (s_op o_ix (s_var 1) (SE.t (s_c fun _ => .int _)))) (SE.t
   (s_c fun _ => C.k_ROWS _ _)))))) (s_and (s_test (SE.t (s_op o_eq (SE.t (s_op o_ix (s_var 0) (SE.t (s_c fun _ => .int _)))) (SE.t (s_c fun _ => .str
   (by decide +kernel)))))) (s_test (SE.t (s_op o_eq (SE.t (s_op o_ix (s_var 1) (SE.t (s_c fun _ => .int _)))) (SE.t (s_c fun _ => .str (by decide +kernel)))))))) (s_ret
   (s_op o_eq (SE.t (s_op o_ix (s_var 0) (SE.t (s_c fun _ => .int _)))) (SE.t (s_op o_ix (s_var 1) (SE.t (s_c fun _ => .int _)))))) (s_next)) (s_seq (s_if (s_and (s_test
   (SE.t (s_op o_in (SE.t (s_op o_ix (s_var 0) (SE.t (s_c fun _ => .int _)))) (SE.t (s_c fun _ => C.k_ANSWERS _ _))))) (s_test (SE.t (s_op o_in (SE.t (s_op o_ix (s_var 1)
   (SE.t (s_c fun _ => .int _)))) (SE.t (s_c fun _ => C.k_ANSWERS _ _)))))) (s_ret (s_op o_eq (SE.t (s_sl (s_var 0) (s_part (SE.t (s_c fun _ => .int _))) (s_noPart)))
   (SE.t (s_sl (s_var 1) (s_part (SE.t (s_c fun _ => .int _))) (s_noPart))))) (s_next)) (s_ret (s_orV (SE.t (s_fn (s := dp_does_deny) (cf := 0) (s_cons (s_varS 0) (s_cons
   (s_varS 1) (s_nil))))) (s_fn (s := dp_does_deny) (cf := 0) (s_cons (s_varS 1) (s_cons (s_varS 0) (s_nil))))))))
/-! _law_conflicts: slots 0 _law_left 1 _law_right 2 _law_first 3 _law_second; calls ; cost 0 -/
def t_law_conflicts (Γ : Cn) : TS := tSeq (tFor (gIter Γ.K (tLst (tCons (tTup (tCons (tVar 0) (tCons (tVar 1) (tNil)))) (tCons (tTup (tCons (tVar 1) (tCons (tVar 0) (tNil)))) (tNil))))) (gTup Γ.K 2 (gCons
   (gName 2) (gCons (gName 3) (gNil)))) (tSeq (tIfS (tAnd (tTest (tOp (gIn Γ.K) (tOp (gIx Γ.K) (tVar 2) (tC (.int 0))) (tTup (tCons (tC (.str "spender")) (tCons (tC (.str
   "request")) (tNil)))))) (tTest (tOp (gIn Γ.K) (tOp (gIx Γ.K) (tVar 3) (tC (.int 0))) (tTup (tCons (tC (.str "spender")) (tCons (tC (.str "request")) (tNil))))))) (tRet
   (tAndV (tOp (gEq Γ.K) (tOp (gIx Γ.K) (tVar 2) (tC (.int 1))) (tOp (gIx Γ.K) (tVar 3) (tC (.int 1)))) (tOp (gNe Γ.K) (tVar 2) (tVar 3)))) (tNext)) (tSeq (tIfS (tAnd
   (tTest (tOp (gEq Γ.K) (tOp (gIx Γ.K) (tVar 2) (tC (.int 0))) (tC (.str "deposit")))) (tTest (tOp (gEq Γ.K) (tOp (gIx Γ.K) (tVar 3) (tC (.int 0))) (tC (.str
   "deposit"))))) (tRet (tAndV (tOp (gEq Γ.K) (tOp (gIx Γ.K) (tVar 2) (tC (.int 1))) (tOp (gIx Γ.K) (tVar 3) (tC (.int 1)))) (tOp (gNe Γ.K) (tVar 2) (tVar 3)))) (tNext))
   (tSeq (tIfS (tAnd (tTest (tOp (gEq Γ.K) (tOp (gIx Γ.K) (tVar 2) (tC (.int 0))) (tC (.str "consent")))) (tAnd (tTest (tOp (gEq Γ.K) (tOp (gIx Γ.K) (tVar 3) (tC (.int
   0))) (tC (.str "refuse")))) (tTest (tOp (gEq Γ.K) (tSl (gSl Γ.K) (tVar 2) (tPart (tC (.int 1))) (tNoPart)) (tSl (gSl Γ.K) (tVar 3) (tPart (tC (.int 1))) (tNoPart))))))
   (tRet (tC (.bl true))) (tNext)) (tSeq (tIfS (tAnd (tTest (tOp (gEq Γ.K) (tOp (gIx Γ.K) (tVar 2) (tC (.int 0))) (tC (.str "request")))) (tAnd (tTest (tOp (gEq Γ.K) (tOp
   (gIx Γ.K) (tVar 3) (tC (.int 0))) (tC (.str "release")))) (tTest (tOp (gEq Γ.K) (tOp (gIx Γ.K) (tVar 2) (tC (.int 1))) (tOp (gIx Γ.K) (tVar 3) (tC (.int 1))))))) (tRet
   (tC (.bl true))) (tNext)) (tSeq (tIfS (tAnd (tTest (tOp (gEq Γ.K) (tOp (gIx Γ.K) (tVar 2) (tC (.int 0))) (tC (.str "spender")))) (tAnd (tTest (tOp (gIn Γ.K) (tOp (gIx
   Γ.K) (tVar 3) (tC (.int 0))) (tTup (tCons (tC (.str "consent")) (tCons (tC (.str "refuse")) (tCons (tC (.str "withdrawn")) (tNil))))))) (tTest (tOp (gEq Γ.K) (tOp (gIx
   Γ.K) (tVar 2) (tC (.int 1))) (tOp (gIx Γ.K) (tVar 3) (tC (.int 1))))))) (tRet (tC (.bl true))) (tNext)) (tIfS (tAnd (tTest (tOp (gEq Γ.K) (tOp (gIx Γ.K) (tVar 2) (tC
   (.int 0))) (tC (.str "request")))) (tAnd (tTest (tOp (gIn Γ.K) (tOp (gIx Γ.K) (tVar 3) (tC (.int 0))) (tTup (tCons (tC (.str "consent")) (tCons (tC (.str "refuse"))
   (tNil)))))) (tTest (tOp (gEq Γ.K) (tOp (gIx Γ.K) (tVar 2) (tC (.int 1))) (tOp (gIx Γ.K) (tVar 3) (tC (.int 2))))))) (tRet (tC (.bl true))) (tNext)))))))) (tRet (tC
   (.bl false)))
def d_law_conflicts_b1 : DQ := dSeq (dIfS (dAnd (dTest (dOp fIn (dOp fIx (dVar 2) (dC (.int 0))) (dTup (dCons (dC (.str "spender")) (dCons (dC (.str "request")) (dNil)))))) (dTest (dOp fIn (dOp fIx
   (dVar 3) (dC (.int 0))) (dTup (dCons (dC (.str "spender")) (dCons (dC (.str "request")) (dNil))))))) (dRet (dAndV (dOp fEq (dOp fIx (dVar 2) (dC (.int 1))) (dOp fIx
   (dVar 3) (dC (.int 1)))) (dOp fNe (dVar 2) (dVar 3)))) (dNext)) (dSeq (dIfS (dAnd (dTest (dOp fEq (dOp fIx (dVar 2) (dC (.int 0))) (dC (.str "deposit")))) (dTest (dOp
   fEq (dOp fIx (dVar 3) (dC (.int 0))) (dC (.str "deposit"))))) (dRet (dAndV (dOp fEq (dOp fIx (dVar 2) (dC (.int 1))) (dOp fIx (dVar 3) (dC (.int 1)))) (dOp fNe (dVar
   2) (dVar 3)))) (dNext)) (dSeq (dIfS (dAnd (dTest (dOp fEq (dOp fIx (dVar 2) (dC (.int 0))) (dC (.str "consent")))) (dAnd (dTest (dOp fEq (dOp fIx (dVar 3) (dC (.int
   0))) (dC (.str "refuse")))) (dTest (dOp fEq (dSl (dVar 2) (dPart (dC (.int 1))) (dNoPart)) (dSl (dVar 3) (dPart (dC (.int 1))) (dNoPart)))))) (dRet (dC (.bl true)))
   (dNext)) (dSeq (dIfS (dAnd (dTest (dOp fEq (dOp fIx (dVar 2) (dC (.int 0))) (dC (.str "request")))) (dAnd (dTest (dOp fEq (dOp fIx (dVar 3) (dC (.int 0))) (dC (.str
   "release")))) (dTest (dOp fEq (dOp fIx (dVar 2) (dC (.int 1))) (dOp fIx (dVar 3) (dC (.int 1))))))) (dRet (dC (.bl true))) (dNext)) (dSeq (dIfS (dAnd (dTest (dOp fEq
   (dOp fIx (dVar 2) (dC (.int 0))) (dC (.str "spender")))) (dAnd (dTest (dOp fIn (dOp fIx (dVar 3) (dC (.int 0))) (dTup (dCons (dC (.str "consent")) (dCons (dC (.str
   "refuse")) (dCons (dC (.str "withdrawn")) (dNil))))))) (dTest (dOp fEq (dOp fIx (dVar 2) (dC (.int 1))) (dOp fIx (dVar 3) (dC (.int 1))))))) (dRet (dC (.bl true)))
   (dNext)) (dIfS (dAnd (dTest (dOp fEq (dOp fIx (dVar 2) (dC (.int 0))) (dC (.str "request")))) (dAnd (dTest (dOp fIn (dOp fIx (dVar 3) (dC (.int 0))) (dTup (dCons (dC
   (.str "consent")) (dCons (dC (.str "refuse")) (dNil)))))) (dTest (dOp fEq (dOp fIx (dVar 2) (dC (.int 1))) (dOp fIx (dVar 3) (dC (.int 2))))))) (dRet (dC (.bl true)))
   (dNext))))))
def d_law_conflicts : DQ := dSeq (dFor (dIter (dLst (dCons (dTup (dCons (dVarS 0) (dCons (dVarS 1) (dNil)))) (dCons (dTup (dCons (dVarS 1) (dCons (dVarS 0) (dNil)))) (dNil))))) (dTup2 2 3)
   (d_law_conflicts_b1)) (dRet (dC (.bl false)))
theorem snd_law_conflicts {Γ : Cn} {L : LS} : SS Γ L 0 (t_law_conflicts Γ) d_law_conflicts := by
  unfold t_law_conflicts d_law_conflicts d_law_conflicts_b1
  exact s_seq (s_for (s_iter (SF.e (s_lst (s_cons (s_tup (s_cons (s_varS 0) (s_cons (s_varS 1) (s_nil)))) (s_cons (s_tup (s_cons (s_varS 1) (s_cons (s_varS 0) (s_nil))))
   (s_nil)))))) (s_tup2 2 3) (s_seq (s_if (s_and (s_test (SE.t (s_op o_in (SE.t (s_op o_ix (s_var 2) (SE.t (s_c fun _ => .int _)))) (SE.t (s_tup (s_cons (s_c fun _ =>
   .str (by decide +kernel)) (s_cons (s_c fun _ => .str (by decide +kernel)) (s_nil)))))))) (s_test (SE.t (s_op o_in (SE.t (s_op o_ix (s_var 3) (SE.t (s_c fun _ => .int
   _)))) (SE.t (s_tup (s_cons (s_c fun _ => .str (by decide +kernel)) (s_cons (s_c fun _ => .str (by decide +kernel)) (s_nil))))))))) (s_ret (s_andV (SE.t (s_op o_eq
   (SE.t (s_op o_ix (s_var 2) (SE.t (s_c fun _ => .int _)))) (SE.t (s_op o_ix (s_var 3) (SE.t (s_c fun _ => .int _)))))) (s_op o_ne (s_var 2) (s_var 3)))) (s_next))
   (s_seq (s_if (s_and (s_test (SE.t (s_op o_eq (SE.t (s_op o_ix (s_var 2) (SE.t (s_c fun _ => .int _)))) (SE.t (s_c fun _ => .str (by decide +kernel)))))) (s_test (SE.t
   (s_op o_eq (SE.t (s_op o_ix (s_var 3) (SE.t (s_c fun _ => .int _)))) (SE.t (s_c fun _ => .str (by decide +kernel))))))) (s_ret (s_andV (SE.t (s_op o_eq (SE.t (s_op
   o_ix (s_var 2) (SE.t (s_c fun _ => .int _)))) (SE.t (s_op o_ix (s_var 3) (SE.t (s_c fun _ => .int _)))))) (s_op o_ne (s_var 2) (s_var 3)))) (s_next)) (s_seq (s_if
   (s_and (s_test (SE.t (s_op o_eq (SE.t (s_op o_ix (s_var 2) (SE.t (s_c fun _ => .int _)))) (SE.t (s_c fun _ => .str (by decide +kernel)))))) (s_and (s_test (SE.t (s_op
   o_eq (SE.t (s_op o_ix (s_var 3) (SE.t (s_c fun _ => .int _)))) (SE.t (s_c fun _ => .str (by decide +kernel)))))) (s_test (SE.t (s_op o_eq (SE.t (s_sl (s_var 2) (s_part
   (SE.t (s_c fun _ => .int _))) (s_noPart))) (SE.t (s_sl (s_var 3) (s_part (SE.t (s_c fun _ => .int _))) (s_noPart)))))))) (s_ret (s_c fun _ => .bl _)) (s_next)) (s_seq
   (s_if (s_and (s_test (SE.t (s_op o_eq (SE.t (s_op o_ix (s_var 2) (SE.t (s_c fun _ => .int _)))) (SE.t (s_c fun _ => .str (by decide +kernel)))))) (s_and (s_test (SE.t
   (s_op o_eq (SE.t (s_op o_ix (s_var 3) (SE.t (s_c fun _ => .int _)))) (SE.t (s_c fun _ => .str (by decide +kernel)))))) (s_test (SE.t (s_op o_eq (SE.t (s_op o_ix (s_var
   2) (SE.t (s_c fun _ => .int _)))) (SE.t (s_op o_ix (s_var 3) (SE.t (s_c fun _ => .int _))))))))) (s_ret (s_c fun _ => .bl _)) (s_next)) (s_seq (s_if (s_and (s_test
   (SE.t (s_op o_eq (SE.t (s_op o_ix (s_var 2) (SE.t (s_c fun _ => .int _)))) (SE.t (s_c fun _ => .str (by decide +kernel)))))) (s_and (s_test (SE.t (s_op o_in (SE.t
   (s_op o_ix (s_var 3) (SE.t (s_c fun _ => .int _)))) (SE.t (s_tup (s_cons (s_c fun _ => .str (by decide +kernel)) (s_cons (s_c fun _ => .str (by decide +kernel))
   (s_cons (s_c fun _ => .str (by decide +kernel)) (s_nil))))))))) (s_test (SE.t (s_op o_eq (SE.t (s_op o_ix (s_var 2) (SE.t (s_c fun _ => .int _)))) (SE.t (s_op o_ix
   (s_var 3) (SE.t (s_c fun _ => .int _))))))))) (s_ret (s_c fun _ => .bl _)) (s_next)) (s_if (s_and (s_test (SE.t (s_op o_eq (SE.t (s_op o_ix (s_var 2) (SE.t (s_c fun _
   => .int _)))) (SE.t (s_c fun _ => .str (by decide +kernel)))))) (s_and (s_test (SE.t (s_op o_in (SE.t (s_op o_ix (s_var 3) (SE.t (s_c fun _ => .int _)))) (SE.t (s_tup
   (s_cons (s_c fun _ => .str (by decide +kernel)) (s_cons (s_c fun _ => .str (by decide +kernel)) (s_nil)))))))) (s_test (SE.t (s_op o_eq (SE.t (s_op o_ix (s_var 2)
   (SE.t (s_c fun _ => .int _)))) (SE.t (s_op o_ix (s_var 3) (SE.t (s_c fun _ => .int _))))))))) (s_ret (s_c fun _ => .bl _)) (s_next)))))))) (s_ret (s_c fun _ => .bl _))
theorem dd_rows_presupposed : ∀ xs P, xs.length = 1 → dp_rows_presupposed xs P → d_rows_presupposed { nx := fun _ => P .non, rt := P } (startD 2 xs) := by
  rintro xs P _ ⟨a, rfl, h⟩
  cases a <;> simp [d_rows_presupposed, startD, dSeq, dAsg, dOp, dVar, rdS, dC, dIfS, dTest, dRet, dLst, dTup, dCons, dNil, dNext, dIf, Fa.d, fIx, atI, ixN, fEq, plD, deq, fIn, inD, flatD, dc_ANSWERS, wn1, wn2, wn3, wn4, wn5, wn6, wn7, wn8, wn9, wn10, wn11, wn12, wn13, wn14, wn15, wn16, wn17, wn18, wn19, wn20, wn21, wn22, wn23, wn24, wn25, wn26, wn27, wn28, wn29, wn30, wn31, wn32, wn33, wn34, wn35, wn36, wn37, wn38, wn39, wn40, wn41, wn42] <;> exact h
theorem dd_does_deny : ∀ xs P, xs.length = 2 → dp_does_deny xs P → d_does_deny { nx := fun _ => P .non, rt := P } (startD 3 xs) := by
  rintro xs P _ ⟨a, b, rfl, h⟩
  have q : ∀ R : D → Prop, R (.lst b.pr) → dp_rows_presupposed [b.d] R := fun R h => ⟨b, rfl, h⟩
  cases a <;> first
    | (simp [d_does_deny, startD, dSeq, dAsg, dOp, dVar, dVarS, shS, rdS, dC, dIfS, dTest, dRet, dLst, dTup, dCons, dNil, dNext, dIf, fIx, atI, ixN, fEq, plD, deq, fIn, fNotIn, inD, flatD, dc_ROWS, dFn, Fa.d, dSl, dPart, dNoPart, fSl, cutD, HT.sIx, wn1, wn2, wn3, wn4, wn5, wn6, wn7, wn8, wn9, wn10, wn11, wn12, wn13, wn14, wn15, wn16, wn17, wn18, wn19, wn20, wn21, wn22, wn23, wn24, wn25, wn26, wn27, wn28, wn29, wn30, wn31, wn32, wn33, wn34, wn35, wn36, wn37, wn38, wn39, wn40, wn41, wn42]; exact h)
    | (simp only [d_does_deny, startD, dSeq, dAsg, dOp, dVar, dVarS, shS, rdS, dC, dIfS, dTest, dRet, dNext, dIf, dTup, dCons, dNil, dFn]
       simp [fIx, atI, ixN, fEq, plD, deq, fIn, fNotIn, inD, flatD, dc_ROWS, Fa.d, wn1, wn2, wn3, wn4, wn5, wn6, wn7, wn8, wn9, wn10, wn11, wn12, wn13, wn14, wn15, wn16, wn17, wn18, wn19, wn20, wn21, wn22, wn23, wn24, wn25, wn26, wn27, wn28, wn29, wn30, wn31, wn32, wn33, wn34, wn35, wn36, wn37, wn38, wn39, wn40, wn41, wn42]
       refine q _ ?_
       cases b <;> simp [Fa.pr, fIn, inD, plD, deq, deqL, wn1, wn2, wn3, wn4, wn5, wn6, wn7, wn8, wn9, wn10, wn11, wn12, wn13, wn14, wn15, wn16, wn17, wn18, wn19, wn20, wn21, wn22, wn23, wn24, wn25, wn26, wn27, wn28, wn29, wn30, wn31, wn32, wn33, wn34, wn35, wn36, wn37, wn38, wn39, wn40, wn41, wn42] <;> exact h)
theorem cf_same {P : D → Prop} {p q k l : Int} {n m : Str} (h : P (.bl (p == q && !(n == m && k == l)))) : if p = q ∧ n = m ∧ k = l then P (.bl false) else P (.bl (p == q)) := by
  split
  · rename_i c
    obtain ⟨rfl, rfl, rfl⟩ := c
    simpa using h
  · rename_i c
    have e : (p == q && !(n == m && k == l)) = (p == q) := by
      by_cases e : p = q
      · subst e
        by_cases e1 : n = m
        · subst e1
          by_cases e2 : k = l
          · exact absurd ⟨rfl, rfl, e2⟩ c
          · simp [e2]
        · simp [e1]
      · simp [e]
    rw [e] at h
    exact h
theorem deny2 (a b : Fa) (P : D → Prop) (h : P (.bl (a.dn b || b.dn a))) : dp_does_deny [a.d, b.d] (fun d => match d with
    | .bl x => if x = true then P (.bl true) else dp_does_deny [b.d, a.d] P
    | _ => False) := by
  refine ⟨a, b, rfl, ?_⟩
  show if a.dn b = true then _ else _
  split
  · rename_i c
    rw [c] at h
    exact h
  · rename_i c
    refine ⟨b, a, rfl, ?_⟩
    rw [Bool.not_eq_true] at c
    rw [c] at h
    exact h
theorem no_same {P : D → Prop} {p q k l : Int} (c : ¬(p = q ∧ k = l)) (h : P (.bl false)) : P (.bl (p == q && k == l)) := by
  have e : (p == q && k == l) = false := by
    by_cases e1 : p = q
    · subst e1
      by_cases e2 : k = l
      · exact absurd ⟨rfl, e2⟩ c
      · simp [e2]
    · simp [e1]
  rw [e]
  exact h
theorem dd_do_conflict : ∀ xs P, xs.length = 2 → dp_do_conflict xs P → d_do_conflict { nx := fun _ => P .non, rt := P } (startD 2 xs) := by
  rintro xs P _ ⟨a, b, rfl, h⟩
  have q := deny2 a b P
  cases a <;> cases b <;> simp [d_do_conflict, startD, dSeq, dAsg, dOp, dVar, dVarS, shS, rdS, dC, dIfS, dTest, dRet, dLst, dTup, dCons, dNil, dNext, dIf, dAnd, dOr, dOrV, fIx, atI, ixN, fEq, plD, deq, deqL, fIn, fNotIn, inD, flatD, dc_ROWS, dc_ANSWERS, dFn, Fa.d, dSl, dPart, dNoPart, fSl, cutD, HT.sIx, wn1, wn2, wn3, wn4, wn5, wn6, wn7, wn8, wn9, wn10, wn11, wn12, wn13, wn14, wn15, wn16, wn17, wn18, wn19, wn20, wn21, wn22, wn23, wn24, wn25, wn26, wn27, wn28, wn29, wn30, wn31, wn32, wn33, wn34, wn35, wn36, wn37, wn38, wn39, wn40, wn41, wn42] <;> first | exact h | exact q h | exact cf_same h | (split <;> first | exact h | exact q h | exact no_same (by assumption) h)
end GP

set_option Elab.async false
set_option linter.all false
set_option maxRecDepth 100000
set_option maxHeartbeats 4000000
namespace GP
open PySem PySem.Spec PyProof.Rows L2
def Fa.hd : Fa → Fa → Option Bool
  | .spd p n k, .spd q m l => some (p == q && !(n == m && k == l))
  | .req p n k, .req q m l => some (p == q && !(n == m && k == l))
  | .spd p _ _, .req q _ _ => some (p == q)
  | .req p _ _, .spd q _ _ => some (p == q)
  | .dep p n k, .dep q m l => some (p == q && !(n == m && k == l))
  | .con a b, .ref c d => if a = c ∧ b = d then some true else none
  | .spd p _ _, .wdr q => if p = q then some true else none
  | .spd p _ _, .con q _ => if p = q then some true else none
  | .spd p _ _, .ref q _ => if p = q then some true else none
  | .req p _ _, .rel q _ => if p = q then some true else none
  | .req p _ _, .con _ q => if p = q then some true else none
  | .req p _ _, .ref _ q => if p = q then some true else none
  | _, _ => none
theorem eq_ret {P : D → Prop} {p q : Int} (h : P (.bl (p == q))) : if p = q then P (.bl true) else P (.bl false) := by
  by_cases e : p = q
  · subst e; simpa using h
  · rw [if_neg e]
    have z : (p == q) = false := by simp [e]
    rw [z] at h
    exact h
theorem eq_ret2 {P : D → Prop} {p q k l : Int} {n m : Str} (h : P (.bl (p == q && !(n == m && k == l)))) : if p = q then P (.bl (!p == q || (!n == m || !k == l))) else P (.bl false) := by
  by_cases e : p = q
  · subst e; simpa [Bool.not_and] using h
  · rw [if_neg e]
    have z : (p == q) = false := by simp [e]
    rw [z] at h
    exact h
theorem some_ret {c : Prop} [Decidable c] {P : Bool → Prop} {Q : Prop} (h : match (if c then some true else none) with
    | some r => P r
    | none => Q) : if c then P true else Q := by
  by_cases e : c
  · rw [if_pos e] at h ⊢; exact h
  · rw [if_neg e] at h ⊢; exact h
theorem db_conflicts (a b : Fa) (N : DN) (x y : Option Sl) (h : match a.hd b with
    | some r => N.rt (.bl r)
    | none => N.nx [x, y, some (.sh a.d), some (.sh b.d)]) : d_law_conflicts_b1 N [x, y, some (.sh a.d), some (.sh b.d)] := by
  cases a <;> cases b <;> simp [d_law_conflicts_b1, dSeq, dAsg, dOp, dVar, dVarS, shS, rdS, dC, dIfS, dTest, dRet, dLst, dTup, dCons, dNil, dNext, dIf, dAnd, dOr, dOrV, dAndV, fIx, atI, ixN, fEq, fNe, plD, deq, deqL, fIn, fNotIn, inD, flatD, dFn, Fa.d, dSl, dPart, dNoPart, fSl, cutD, HT.sIx, wn1, wn2, wn3, wn4, wn5, wn6, wn7, wn8, wn9, wn10, wn11, wn12, wn13, wn14, wn15, wn16, wn17, wn18, wn19, wn20, wn21, wn22, wn23, wn24, wn25, wn26, wn27, wn28, wn29, wn30, wn31, wn32, wn33, wn34, wn35, wn36, wn37, wn38, wn39, wn40, wn41, wn42] 
  all_goals simp only [Fa.hd, Fa.d] at h
  all_goals first
    | with_reducible exact h
    | with_reducible exact eq_ret h
    | with_reducible exact eq_ret2 h
    | with_reducible exact some_ret (P := fun b => N.rt (.bl b)) h
theorem m_one {p q : Int} : (match (if p = q then some true else none : Option Bool) with
    | some r => r
    | none => false) = (q == p || false) := by
  by_cases e : p = q
  · simp [e]
  · have e2 : ¬ q = p := fun z => e z.symm
    simp [e, e2]
theorem m_two {p q : Int} : (match (if p = q then some true else none : Option Bool) with
    | some r => r
    | none => false) = (q == p) := by rw [m_one, Bool.or_false]
theorem m_and {a b c d : Int} : (match (if a = c ∧ b = d then some true else none : Option Bool) with
    | some r => r
    | none => false) = (a == c && b == d) := by
  by_cases e : a = c ∧ b = d
  · simp [e]
  · rw [if_neg e]
    by_cases e1 : a = c
    · subst e1
      by_cases e2 : b = d
      · exact absurd ⟨rfl, e2⟩ e
      · simp [e2]
    · simp [e1]
theorem m_and2 {a b c d : Int} : (match (if c = a ∧ d = b then some true else none : Option Bool) with
    | some r => r
    | none => false) = (a == c && b == d) := by
  rw [m_and, Bool.eq_iff_iff, Bool.and_eq_true, Bool.and_eq_true, beq_iff_eq, beq_iff_eq, beq_iff_eq, beq_iff_eq]
  exact ⟨fun h => ⟨h.1.symm, h.2.symm⟩, fun h => ⟨h.1.symm, h.2.symm⟩⟩
theorem hd_cf (a b : Fa) : (match a.hd b with
    | some r => r
    | none => match b.hd a with
      | some r => r
      | none => false) = a.cf b := by
  cases a <;> cases b <;> first | rfl | exact m_one | exact m_two | exact m_and | exact m_and2
end GP

set_option Elab.async false
set_option linter.all false
set_option maxRecDepth 100000
set_option maxHeartbeats 4000000
namespace GP
open PySem PySem.Spec PyProof.Rows L2
theorem dd_law_conflicts : ∀ xs P, xs.length = 2 → dp_law_conflicts xs P → d_law_conflicts { nx := fun _ => P .non, rt := P } (startD 4 xs) := by
  intro xs P _ h
  rcases h with ⟨a, b, h0, h⟩
  subst h0
  have s : startD 4 [a.d, b.d] = [some (.sh a.d), some (.sh b.d), none, none] := by simp [startD, List.replicate]
  rw [s, ← hd_cf] at *
  show dForL (dTup2 2 3) d_law_conflicts_b1 _ [.tup [a.d, b.d], .tup [b.d, a.d]] [some (.sh a.d), some (.sh b.d), none, none]
  show d_law_conflicts_b1 _ [some (.sh a.d), some (.sh b.d), some (.sh a.d), some (.sh b.d)]
  refine db_conflicts a b _ _ _ ?_
  cases e : a.hd b with
  | some r =>
    rw [e] at h
    exact h
  | none =>
    rw [e] at h
    show d_law_conflicts_b1 _ [some (.sh a.d), some (.sh b.d), some (.sh b.d), some (.sh a.d)]
    refine db_conflicts b a _ _ _ ?_
    cases e2 : b.hd a with
    | some r =>
      rw [e2] at h
      exact h
    | none =>
      rw [e2] at h
      exact h
end GP

set_option Elab.async false
set_option linter.all false
set_option maxRecDepth 100000
set_option maxHeartbeats 4000000
namespace GP
open PySem PySem.Spec PyProof.Rows L2
def dp_law_fact : DSp := fun ds P => ∃ (ws : List Str) (pl mk : Int), ds = [.st, .lst (ws.map .str), .int pl, .int mk] ∧ ws ≠ [] ∧ ws.length ≤ 9 ∧ 2 ≤ pl ∧ pl ≤ 1000 ∧ 1 ≤ mk ∧ mk ≤ 1000 ∧ ∀ a : Fa, P a.d
def sp_law_fact (Γ : Cn) : Sp := lift Γ 4 10 dp_law_fact
def dp_law_beside : DSp := fun ds P => ∃ (ws : List Str) (a : Fa), ds = [.st, .lst (ws.map .str), a.d] ∧ ws ≠ [] ∧ ∀ b : Fa, P b.d
def sp_law_beside (Γ : Cn) : Sp := lift Γ 3 2 dp_law_beside
/-! _law_fact: slots 0 _law_state 1 _law_names 2 _law_places 3 _law_marks 4 _law_way 5 _law_spot 6 _law_number 7 _law_later; calls _law_take _law_pick; cost 10 -/
def t_law_fact (Γ : Cn) : TS := tSeq (tPar 4 5 (tCons (tFn (sp_law_take Γ) E0 (tCons (tVar 0) (tCons (tC (.int 8)) (tNil)))) (tCons (tOp (gAdd Γ.K) (tC (.int 1)) (tFn (sp_law_take Γ) E0 (tCons (tVar 0)
   (tCons (tVar 2) (tNil))))) (tNil)))) (tSeq (tAsg (tFn (sp_law_pick Γ) E0 (tCons (tVar 0) (tCons (tLst (tCons (tC (.int 1)) (tCons (tC (.int 2)) (tCons (tC (.int 5))
   (tCons (tOp (gAdd Γ.K) (tC (.int 1)) (tFn (sp_law_take Γ) E0 (tCons (tVar 0) (tCons (tC (.int 12)) (tNil))))) (tCons (tOp (gAdd Γ.K) (tC (.int 1)) (tFn (sp_law_take Γ)
   E0 (tCons (tVar 0) (tCons (tOp (gPow) (tC (.int 10)) (tC (.int 9))) (tNil))))) (tCons (tOp (gPow) (tC (.int 10)) (tC (.int 9))) (tNil)))))))) (tNil)))) (gName 6))
   (tSeq (tIfS (tTest (tOp (gLt) (tVar 4) (tC (.int 2)))) (tRet (tTup (tCons (tOp (gIx Γ.K) (tLst (tCons (tC (.str "spender")) (tCons (tC (.str "request")) (tNil))))
   (tVar 4)) (tCons (tVar 5) (tCons (tFn (sp_law_pick Γ) E0 (tCons (tVar 0) (tCons (tVar 1) (tNil)))) (tCons (tVar 6) (tNil))))))) (tNext)) (tSeq (tIfS (tTest (tOp (gLt)
   (tVar 4) (tC (.int 4)))) (tRet (tTup (tCons (tC (.str "deposit")) (tCons (tOp (gAdd Γ.K) (tC (.int 1)) (tFn (sp_law_take Γ) E0 (tCons (tVar 0) (tCons (tVar 3)
   (tNil))))) (tCons (tFn (sp_law_pick Γ) E0 (tCons (tVar 0) (tCons (tVar 1) (tNil)))) (tCons (tVar 6) (tNil))))))) (tNext)) (tSeq (tIfS (tTest (tOp (gEq Γ.K) (tVar 4)
   (tC (.int 4)))) (tRet (tTup (tCons (tC (.str "release")) (tCons (tVar 5) (tCons (tVar 6) (tNil)))))) (tNext)) (tSeq (tIfS (tTest (tOp (gEq Γ.K) (tVar 4) (tC (.int
   5)))) (tRet (tTup (tCons (tC (.str "withdrawn")) (tCons (tVar 5) (tNil))))) (tNext)) (tSeq (tAsg (tOp (gAdd Γ.K) (tC (.int 2)) (tFn (sp_law_take Γ) E0 (tCons (tVar 0)
   (tCons (tOp (gDif) (tVar 2) (tC (.int 1))) (tNil))))) (gName 7)) (tRet (tTup (tCons (tOp (gIx Γ.K) (tLst (tCons (tC (.str "consent")) (tCons (tC (.str "refuse"))
   (tNil)))) (tOp (gDif) (tVar 4) (tC (.int 6)))) (tCons (tVar 7) (tCons (tOp (gAdd Γ.K) (tC (.int 1)) (tFn (sp_law_take Γ) E0 (tCons (tVar 0) (tCons (tOp (gDif) (tVar 7)
   (tC (.int 1))) (tNil))))) (tNil))))))))))))
def d_law_fact : DQ := dSeq (dPar false false 4 5 (dFn dp_law_take (dCons (dVarS 0) (dCons (dC (.int 8)) (dNil)))) (dOp fAdd (dC (.int 1)) (dFn dp_law_take (dCons (dVarS 0) (dCons (dVarS 2)
   (dNil)))))) (dSeq (dAsg (dFn dp_law_pick (dCons (dVarS 0) (dCons (dLst (dCons (dC (.int 1)) (dCons (dC (.int 2)) (dCons (dC (.int 5)) (dCons (dOp fAdd (dC (.int 1))
   (dFn dp_law_take (dCons (dVarS 0) (dCons (dC (.int 12)) (dNil))))) (dCons (dOp fAdd (dC (.int 1)) (dFn dp_law_take (dCons (dVarS 0) (dCons (dOp fPow (dC (.int 10)) (dC
   (.int 9))) (dNil))))) (dCons (dOp fPow (dC (.int 10)) (dC (.int 9))) (dNil)))))))) (dNil)))) 6) (dSeq (dIfS (dTest (dOp fLt (dVar 4) (dC (.int 2)))) (dRet (dTup (dCons
   (dOp fIx (dLst (dCons (dC (.str "spender")) (dCons (dC (.str "request")) (dNil)))) (dVar 4)) (dCons (dVarS 5) (dCons (dFn dp_law_pick (dCons (dVarS 0) (dCons (dVarS 1)
   (dNil)))) (dCons (dVarS 6) (dNil))))))) (dNext)) (dSeq (dIfS (dTest (dOp fLt (dVar 4) (dC (.int 4)))) (dRet (dTup (dCons (dC (.str "deposit")) (dCons (dOp fAdd (dC
   (.int 1)) (dFn dp_law_take (dCons (dVarS 0) (dCons (dVarS 3) (dNil))))) (dCons (dFn dp_law_pick (dCons (dVarS 0) (dCons (dVarS 1) (dNil)))) (dCons (dVarS 6)
   (dNil))))))) (dNext)) (dSeq (dIfS (dTest (dOp fEq (dVar 4) (dC (.int 4)))) (dRet (dTup (dCons (dC (.str "release")) (dCons (dVarS 5) (dCons (dVarS 6) (dNil))))))
   (dNext)) (dSeq (dIfS (dTest (dOp fEq (dVar 4) (dC (.int 5)))) (dRet (dTup (dCons (dC (.str "withdrawn")) (dCons (dVarS 5) (dNil))))) (dNext)) (dSeq (dAsg (dOp fAdd (dC
   (.int 2)) (dFn dp_law_take (dCons (dVarS 0) (dCons (dOp fSub (dVar 2) (dC (.int 1))) (dNil))))) 7) (dRet (dTup (dCons (dOp fIx (dLst (dCons (dC (.str "consent"))
   (dCons (dC (.str "refuse")) (dNil)))) (dOp fSub (dVar 4) (dC (.int 6)))) (dCons (dVarS 7) (dCons (dOp fAdd (dC (.int 1)) (dFn dp_law_take (dCons (dVarS 0) (dCons (dOp
   fSub (dVar 7) (dC (.int 1))) (dNil))))) (dNil))))))))))))
theorem snd_law_fact {Γ : Cn} {L : LS} : SS Γ L 10 (t_law_fact Γ) d_law_fact := by
  unfold t_law_fact d_law_fact
  exact s_seq (s_par (k1 := false) (k2 := false) 4 5 (s_fn (s := dp_law_take) (cf := 1) (s_cons (s_varS 0) (s_cons (s_c fun _ => .int _) (s_nil)))) (s_op o_add (SE.t (s_c fun _
   => .int _)) (SE.t (s_fn (s := dp_law_take) (cf := 1) (s_cons (s_varS 0) (s_cons (s_varS 2) (s_nil))))))) (s_seq (s_asg 6 (s_fn (s := dp_law_pick) (cf := 1) (s_cons
   (s_varS 0) (s_cons (SF.e (s_lst (s_cons (s_c fun _ => .int _) (s_cons (s_c fun _ => .int _) (s_cons (s_c fun _ => .int _) (s_cons (s_op o_add (SE.t (s_c fun _ => .int
   _)) (SE.t (s_fn (s := dp_law_take) (cf := 1) (s_cons (s_varS 0) (s_cons (s_c fun _ => .int _) (s_nil)))))) (s_cons (s_op o_add (SE.t (s_c fun _ => .int _)) (SE.t (s_fn
   (s := dp_law_take) (cf := 1) (s_cons (s_varS 0) (s_cons (s_op o_pow (SE.t (s_c fun _ => .int _)) (SE.t (s_c fun _ => .int _))) (s_nil)))))) (s_cons (s_op o_pow (SE.t
   (s_c fun _ => .int _)) (SE.t (s_c fun _ => .int _))) (s_nil))))))))) (s_nil))))) (s_seq (s_if (s_test (SE.t (s_op o_lt (s_var 4) (SE.t (s_c fun _ => .int _))))) (s_ret
   (s_tup (s_cons (s_op o_ix (SF.t (s_lst (s_cons (s_c fun _ => .str (by decide +kernel)) (s_cons (s_c fun _ => .str (by decide +kernel)) (s_nil))))) (s_var 4)) (s_cons
   (s_varS 5) (s_cons (s_fn (s := dp_law_pick) (cf := 1) (s_cons (s_varS 0) (s_cons (s_varS 1) (s_nil)))) (s_cons (s_varS 6) (s_nil))))))) (s_next)) (s_seq (s_if (s_test
   (SE.t (s_op o_lt (s_var 4) (SE.t (s_c fun _ => .int _))))) (s_ret (s_tup (s_cons (s_c fun _ => .str (by decide +kernel)) (s_cons (s_op o_add (SE.t (s_c fun _ => .int
   _)) (SE.t (s_fn (s := dp_law_take) (cf := 1) (s_cons (s_varS 0) (s_cons (s_varS 3) (s_nil)))))) (s_cons (s_fn (s := dp_law_pick) (cf := 1) (s_cons (s_varS 0) (s_cons
   (s_varS 1) (s_nil)))) (s_cons (s_varS 6) (s_nil))))))) (s_next)) (s_seq (s_if (s_test (SE.t (s_op o_eq (s_var 4) (SE.t (s_c fun _ => .int _))))) (s_ret (s_tup (s_cons
   (s_c fun _ => .str (by decide +kernel)) (s_cons (s_varS 5) (s_cons (s_varS 6) (s_nil)))))) (s_next)) (s_seq (s_if (s_test (SE.t (s_op o_eq (s_var 4) (SE.t (s_c fun _
   => .int _))))) (s_ret (s_tup (s_cons (s_c fun _ => .str (by decide +kernel)) (s_cons (s_varS 5) (s_nil))))) (s_next)) (s_seq (s_asg 7 (s_op o_add (SE.t (s_c fun _ =>
   .int _)) (SE.t (s_fn (s := dp_law_take) (cf := 1) (s_cons (s_varS 0) (s_cons (s_op o_sub (s_var 2) (SE.t (s_c fun _ => .int _))) (s_nil))))))) (s_ret (s_tup (s_cons
   (s_op o_ix (SF.t (s_lst (s_cons (s_c fun _ => .str (by decide +kernel)) (s_cons (s_c fun _ => .str (by decide +kernel)) (s_nil))))) (SE.t (s_op o_sub (s_var 4) (SE.t
   (s_c fun _ => .int _))))) (s_cons (s_varS 7) (s_cons (s_op o_add (SE.t (s_c fun _ => .int _)) (SE.t (s_fn (s := dp_law_take) (cf := 1) (s_cons (s_varS 0) (s_cons (s_op
   o_sub (s_var 7) (SE.t (s_c fun _ => .int _))) (s_nil)))))) (s_nil))))))))))))
/-! _law_beside: slots 0 _law_state 1 _law_names 2 _law_thing 3 _law_number 4 _law_near; calls _law_take _law_pick; cost 2 -/
def t_law_beside (Γ : Cn) : TS := tSeq (tAsg (tOp (gAdd Γ.K) (tC (.int 1)) (tFn (sp_law_take Γ) E0 (tCons (tVar 0) (tCons (tC (.int 9)) (tNil))))) (gName 3)) (tSeq (tAsg (tLst (tCons (tTup (tCons (tC
   (.str "spender")) (tCons (tOp (gIx Γ.K) (tVar 2) (tC (.int 1))) (tCons (tOp (gIx Γ.K) (tVar 1) (tC (.int 0))) (tCons (tVar 3) (tNil)))))) (tCons (tTup (tCons (tC (.str
   "request")) (tCons (tOp (gIx Γ.K) (tVar 2) (tC (.int 1))) (tCons (tOp (gIx Γ.K) (tVar 1) (tUn gNeg (tC (.int 1)))) (tCons (tVar 3) (tNil)))))) (tNil)))) (gName 4))
   (tSeq (tIfS (tTest (tOp (gEq Γ.K) (tOp (gIx Γ.K) (tVar 2) (tC (.int 0))) (tC (.str "deposit")))) (tRet (tTup (tCons (tC (.str "deposit")) (tCons (tOp (gIx Γ.K) (tVar
   2) (tC (.int 1))) (tCons (tOp (gIx Γ.K) (tVar 1) (tC (.int 0))) (tCons (tVar 3) (tNil))))))) (tNext)) (tSeq (tIfS (tTest (tOp (gIn Γ.K) (tOp (gIx Γ.K) (tVar 2) (tC
   (.int 0))) (tTup (tCons (tC (.str "consent")) (tCons (tC (.str "refuse")) (tNil)))))) (tSeq (tAsg (tOp (gAdd Γ.K) (tVar 4) (tLst (tCons (tTup (tCons (tC (.str
   "spender")) (tCons (tOp (gIx Γ.K) (tVar 2) (tC (.int 2))) (tCons (tOp (gIx Γ.K) (tVar 1) (tC (.int 0))) (tCons (tVar 3) (tNil)))))) (tCons (tTup (tCons (tC (.str
   "request")) (tCons (tOp (gIx Γ.K) (tVar 2) (tC (.int 2))) (tCons (tOp (gIx Γ.K) (tVar 1) (tC (.int 0))) (tCons (tVar 3) (tNil)))))) (tNil))))) (gName 4)) (tAsg (tOp
   (gAdd Γ.K) (tVar 4) (tLst (tCons (tOp (gAdd Γ.K) (tTup (tCons (tC (.str "consent")) (tNil))) (tSl (gSl Γ.K) (tVar 2) (tPart (tC (.int 1))) (tNoPart))) (tCons (tOp
   (gAdd Γ.K) (tTup (tCons (tC (.str "refuse")) (tNil))) (tSl (gSl Γ.K) (tVar 2) (tPart (tC (.int 1))) (tNoPart))) (tCons (tTup (tCons (tC (.str "release")) (tCons (tOp
   (gIx Γ.K) (tVar 2) (tC (.int 2))) (tCons (tVar 3) (tNil))))) (tNil)))))) (gName 4))) (tNext)) (tSeq (tIfS (tTest (tOp (gGt) (tOp (gIx Γ.K) (tVar 2) (tC (.int 1))) (tC
   (.int 1)))) (tAsg (tOp (gAdd Γ.K) (tVar 4) (tLst (tCons (tTup (tCons (tC (.str "consent")) (tCons (tOp (gIx Γ.K) (tVar 2) (tC (.int 1))) (tCons (tC (.int 1))
   (tNil))))) (tCons (tTup (tCons (tC (.str "refuse")) (tCons (tOp (gIx Γ.K) (tVar 2) (tC (.int 1))) (tCons (tOp (gDif) (tOp (gIx Γ.K) (tVar 2) (tC (.int 1))) (tC (.int
   1))) (tNil))))) (tNil))))) (gName 4)) (tNext)) (tSeq (tIfS (tTest (tOp (gLt) (tOp (gIx Γ.K) (tVar 2) (tC (.int 1))) (tC (.int 20)))) (tAsg (tOp (gAdd Γ.K) (tVar 4)
   (tLst (tCons (tTup (tCons (tC (.str "consent")) (tCons (tOp (gAdd Γ.K) (tOp (gIx Γ.K) (tVar 2) (tC (.int 1))) (tC (.int 1))) (tCons (tOp (gIx Γ.K) (tVar 2) (tC (.int
   1))) (tNil))))) (tCons (tTup (tCons (tC (.str "refuse")) (tCons (tC (.int 20)) (tCons (tOp (gIx Γ.K) (tVar 2) (tC (.int 1))) (tNil))))) (tNil))))) (gName 4)) (tNext))
   (tRet (tFn (sp_law_pick Γ) E0 (tCons (tVar 0) (tCons (tOp (gAdd Γ.K) (tVar 4) (tLst (tCons (tTup (tCons (tC (.str "release")) (tCons (tOp (gIx Γ.K) (tVar 2) (tC (.int
   1))) (tCons (tVar 3) (tNil))))) (tCons (tTup (tCons (tC (.str "withdrawn")) (tCons (tOp (gIx Γ.K) (tVar 2) (tC (.int 1))) (tNil)))) (tNil))))) (tNil))))))))))
def d_law_beside : DQ := dSeq (dAsg (dOp fAdd (dC (.int 1)) (dFn dp_law_take (dCons (dVarS 0) (dCons (dC (.int 9)) (dNil))))) 3) (dSeq (dAsg (dLst (dCons (dTup (dCons (dC (.str "spender")) (dCons
   (dOp fIx (dVar 2) (dC (.int 1))) (dCons (dOp fIx (dVar 1) (dC (.int 0))) (dCons (dVarS 3) (dNil)))))) (dCons (dTup (dCons (dC (.str "request")) (dCons (dOp fIx (dVar
   2) (dC (.int 1))) (dCons (dOp fIx (dVar 1) (dUn fNeg (dC (.int 1)))) (dCons (dVarS 3) (dNil)))))) (dNil)))) 4) (dSeq (dIfS (dTest (dOp fEq (dOp fIx (dVar 2) (dC (.int
   0))) (dC (.str "deposit")))) (dRet (dTup (dCons (dC (.str "deposit")) (dCons (dOp fIx (dVar 2) (dC (.int 1))) (dCons (dOp fIx (dVar 1) (dC (.int 0))) (dCons (dVarS 3)
   (dNil))))))) (dNext)) (dSeq (dIfS (dTest (dOp fIn (dOp fIx (dVar 2) (dC (.int 0))) (dTup (dCons (dC (.str "consent")) (dCons (dC (.str "refuse")) (dNil)))))) (dSeq
   (dAsg (dOp fAdd (dVar 4) (dLst (dCons (dTup (dCons (dC (.str "spender")) (dCons (dOp fIx (dVar 2) (dC (.int 2))) (dCons (dOp fIx (dVar 1) (dC (.int 0))) (dCons (dVarS
   3) (dNil)))))) (dCons (dTup (dCons (dC (.str "request")) (dCons (dOp fIx (dVar 2) (dC (.int 2))) (dCons (dOp fIx (dVar 1) (dC (.int 0))) (dCons (dVarS 3) (dNil))))))
   (dNil))))) 4) (dAsg (dOp fAdd (dVar 4) (dLst (dCons (dOp fAdd (dTup (dCons (dC (.str "consent")) (dNil))) (dSl (dVar 2) (dPart (dC (.int 1))) (dNoPart))) (dCons (dOp
   fAdd (dTup (dCons (dC (.str "refuse")) (dNil))) (dSl (dVar 2) (dPart (dC (.int 1))) (dNoPart))) (dCons (dTup (dCons (dC (.str "release")) (dCons (dOp fIx (dVar 2) (dC
   (.int 2))) (dCons (dVarS 3) (dNil))))) (dNil)))))) 4)) (dNext)) (dSeq (dIfS (dTest (dOp fGt (dOp fIx (dVar 2) (dC (.int 1))) (dC (.int 1)))) (dAsg (dOp fAdd (dVar 4)
   (dLst (dCons (dTup (dCons (dC (.str "consent")) (dCons (dOp fIx (dVar 2) (dC (.int 1))) (dCons (dC (.int 1)) (dNil))))) (dCons (dTup (dCons (dC (.str "refuse")) (dCons
   (dOp fIx (dVar 2) (dC (.int 1))) (dCons (dOp fSub (dOp fIx (dVar 2) (dC (.int 1))) (dC (.int 1))) (dNil))))) (dNil))))) 4) (dNext)) (dSeq (dIfS (dTest (dOp fLt (dOp
   fIx (dVar 2) (dC (.int 1))) (dC (.int 20)))) (dAsg (dOp fAdd (dVar 4) (dLst (dCons (dTup (dCons (dC (.str "consent")) (dCons (dOp fAdd (dOp fIx (dVar 2) (dC (.int 1)))
   (dC (.int 1))) (dCons (dOp fIx (dVar 2) (dC (.int 1))) (dNil))))) (dCons (dTup (dCons (dC (.str "refuse")) (dCons (dC (.int 20)) (dCons (dOp fIx (dVar 2) (dC (.int
   1))) (dNil))))) (dNil))))) 4) (dNext)) (dRet (dFn dp_law_pick (dCons (dVarS 0) (dCons (dOp fAdd (dVar 4) (dLst (dCons (dTup (dCons (dC (.str "release")) (dCons (dOp
   fIx (dVar 2) (dC (.int 1))) (dCons (dVarS 3) (dNil))))) (dCons (dTup (dCons (dC (.str "withdrawn")) (dCons (dOp fIx (dVar 2) (dC (.int 1))) (dNil)))) (dNil)))))
   (dNil))))))))))
theorem snd_law_beside {Γ : Cn} {L : LS} : SS Γ L 2 (t_law_beside Γ) d_law_beside := by
  unfold t_law_beside d_law_beside
  exact s_seq (s_asg 3 (s_op o_add (SE.t (s_c fun _ => .int _)) (SE.t (s_fn (s := dp_law_take) (cf := 1) (s_cons (s_varS 0) (s_cons (s_c fun _ => .int _) (s_nil))))))) (s_seq
   (s_asg 4 (SF.e (s_lst (s_cons (s_tup (s_cons (s_c fun _ => .str (by decide +kernel)) (s_cons (s_op o_ix (s_var 2) (SE.t (s_c fun _ => .int _))) (s_cons (s_op o_ix
   (s_var 1) (SE.t (s_c fun _ => .int _))) (s_cons (s_varS 3) (s_nil)))))) (s_cons (s_tup (s_cons (s_c fun _ => .str (by decide +kernel)) (s_cons (s_op o_ix (s_var 2)
   (SE.t (s_c fun _ => .int _))) (s_cons (s_op o_ix (s_var 1) (SE.t (s_un o_neg (SE.t (s_c fun _ => .int _))))) (s_cons (s_varS 3) (s_nil)))))) (s_nil)))))) (s_seq (s_if
   (s_test (SE.t (s_op o_eq (SE.t (s_op o_ix (s_var 2) (SE.t (s_c fun _ => .int _)))) (SE.t (s_c fun _ => .str (by decide +kernel)))))) (s_ret (s_tup (s_cons (s_c fun _
   => .str (by decide +kernel)) (s_cons (s_op o_ix (s_var 2) (SE.t (s_c fun _ => .int _))) (s_cons (s_op o_ix (s_var 1) (SE.t (s_c fun _ => .int _))) (s_cons (s_varS 3)
   (s_nil))))))) (s_next)) (s_seq (s_if (s_test (SE.t (s_op o_in (SE.t (s_op o_ix (s_var 2) (SE.t (s_c fun _ => .int _)))) (SE.t (s_tup (s_cons (s_c fun _ => .str
   (by decide +kernel)) (s_cons (s_c fun _ => .str (by decide +kernel)) (s_nil)))))))) (s_seq (s_asg 4 (s_op o_add (s_var 4) (SF.t (s_lst (s_cons (s_tup (s_cons (s_c fun
   _ => .str (by decide +kernel)) (s_cons (s_op o_ix (s_var 2) (SE.t (s_c fun _ => .int _))) (s_cons (s_op o_ix (s_var 1) (SE.t (s_c fun _ => .int _))) (s_cons (s_varS 3)
   (s_nil)))))) (s_cons (s_tup (s_cons (s_c fun _ => .str (by decide +kernel)) (s_cons (s_op o_ix (s_var 2) (SE.t (s_c fun _ => .int _))) (s_cons (s_op o_ix (s_var 1)
   (SE.t (s_c fun _ => .int _))) (s_cons (s_varS 3) (s_nil)))))) (s_nil))))))) (s_asg 4 (s_op o_add (s_var 4) (SF.t (s_lst (s_cons (s_op o_add (SE.t (s_tup (s_cons (s_c
   fun _ => .str (by decide +kernel)) (s_nil)))) (SE.t (s_sl (s_var 2) (s_part (SE.t (s_c fun _ => .int _))) (s_noPart)))) (s_cons (s_op o_add (SE.t (s_tup (s_cons (s_c
   fun _ => .str (by decide +kernel)) (s_nil)))) (SE.t (s_sl (s_var 2) (s_part (SE.t (s_c fun _ => .int _))) (s_noPart)))) (s_cons (s_tup (s_cons (s_c fun _ => .str
   (by decide +kernel)) (s_cons (s_op o_ix (s_var 2) (SE.t (s_c fun _ => .int _))) (s_cons (s_varS 3) (s_nil))))) (s_nil))))))))) (s_next)) (s_seq (s_if (s_test (SE.t
   (s_op o_gt (SE.t (s_op o_ix (s_var 2) (SE.t (s_c fun _ => .int _)))) (SE.t (s_c fun _ => .int _))))) (s_asg 4 (s_op o_add (s_var 4) (SF.t (s_lst (s_cons (s_tup (s_cons
   (s_c fun _ => .str (by decide +kernel)) (s_cons (s_op o_ix (s_var 2) (SE.t (s_c fun _ => .int _))) (s_cons (s_c fun _ => .int _) (s_nil))))) (s_cons (s_tup (s_cons
   (s_c fun _ => .str (by decide +kernel)) (s_cons (s_op o_ix (s_var 2) (SE.t (s_c fun _ => .int _))) (s_cons (s_op o_sub (SE.t (s_op o_ix (s_var 2) (SE.t (s_c fun _ =>
   .int _)))) (SE.t (s_c fun _ => .int _))) (s_nil))))) (s_nil))))))) (s_next)) (s_seq (s_if (s_test (SE.t (s_op o_lt (SE.t (s_op o_ix (s_var 2) (SE.t (s_c fun _ => .int
   _)))) (SE.t (s_c fun _ => .int _))))) (s_asg 4 (s_op o_add (s_var 4) (SF.t (s_lst (s_cons (s_tup (s_cons (s_c fun _ => .str (by decide +kernel)) (s_cons (s_op o_add
   (SE.t (s_op o_ix (s_var 2) (SE.t (s_c fun _ => .int _)))) (SE.t (s_c fun _ => .int _))) (s_cons (s_op o_ix (s_var 2) (SE.t (s_c fun _ => .int _))) (s_nil))))) (s_cons
   (s_tup (s_cons (s_c fun _ => .str (by decide +kernel)) (s_cons (s_c fun _ => .int _) (s_cons (s_op o_ix (s_var 2) (SE.t (s_c fun _ => .int _))) (s_nil)))))
   (s_nil))))))) (s_next)) (s_ret (s_fn (s := dp_law_pick) (cf := 1) (s_cons (s_varS 0) (s_cons (s_op o_add (s_var 4) (SF.t (s_lst (s_cons (s_tup (s_cons (s_c fun _ =>
   .str (by decide +kernel)) (s_cons (s_op o_ix (s_var 2) (SE.t (s_c fun _ => .int _))) (s_cons (s_varS 3) (s_nil))))) (s_cons (s_tup (s_cons (s_c fun _ => .str
   (by decide +kernel)) (s_cons (s_op o_ix (s_var 2) (SE.t (s_c fun _ => .int _))) (s_nil)))) (s_nil)))))) (s_nil))))))))))
theorem atI_last {α : Type} {xs : List α} (h : xs ≠ []) : ∃ x, atI xs (-1) = some x ∧ x ∈ xs := by
  have hl : 0 < xs.length := List.length_pos_iff.mpr h
  have e : ixN xs.length (-1) = some (xs.length - 1) := by
    unfold ixN
    rw [if_neg (by omega), if_pos (by omega)]
    congr 1
    omega
  refine ⟨xs[xs.length - 1], ?_, List.getElem_mem _⟩
  unfold atI
  rw [e]
  exact List.getElem?_eq_getElem (by omega)
theorem pow9 : fPow (.int 10) (.int 9) = some (.int 1000000000) := by rfl
theorem dd_law_fact : ∀ xs P, xs.length = 4 → dp_law_fact xs P → d_law_fact { nx := fun _ => P .non, rt := P } (startD 8 xs) := by
  intro xs P _ h
  rcases h with ⟨ws, pl, mk, h0, hne, hl, p1, p2, m1, m2, h⟩
  subst h0
  have pk : ∀ R : D → Prop, (∀ w, R (.str w)) → dp_law_pick [.st, .lst (ws.map .str)] R := fun R hR => by
    refine i_pick rfl (fun z => hne (List.map_eq_nil_iff.mp z)) (by rw [List.length_map]; have : LIM = 1000000 := rfl; omega) fun r hr => ?_
    obtain ⟨w, _, rfl⟩ := List.mem_map.mp hr
    exact hR w
  unfold d_law_fact
  refine i_seq (i_par (i_fn (i_cons (i_varS rfl (i_cons (i_c (i_nil (i_take (by decide) (by decide) fun way w0 w8 => i_op (i_c (i_fn (i_cons (i_varS rfl (i_cons (i_varS rfl (i_nil (i_take (by omega) (by omega) fun s s0 s1 => i_some rfl ?_))))))))))))))))
  dsimp only
  refine i_seq (i_asg (i_fn (i_cons (i_varS rfl (i_cons (i_lst (i_cons (i_c (i_cons (i_c (i_cons (i_c (i_cons (i_op (i_c (i_fn (i_cons (i_varS rfl (i_cons (i_c (i_nil (i_take (by decide) (by decide) fun k1 _ _ => i_some rfl (i_cons (i_op (i_c (i_fn (i_cons (i_varS rfl (i_cons (i_op (i_c (i_c (i_some pow9 (i_nil (i_take (by decide) (by decide) fun k2 _ _ => i_some rfl (i_cons (i_op (i_c (i_c (i_some pow9 (i_nil (i_nil (i_pick rfl (fun z => by cases z) (show (6 : Nat) ≤ LIM by decide) fun r hr => ?_)))))))))))))))))))))))))))))))))))))))))))
  obtain ⟨num, rfl⟩ : ∃ n : Int, r = .int n := by
    simp only [List.mem_cons, List.not_mem_nil, or_false] at hr
    rcases hr with rfl | rfl | rfl | rfl | rfl | rfl <;> exact ⟨_, rfl⟩
  dsimp only
  refine i_seq (i_ifS (i_test (i_op (i_var rfl (i_c (i_some rfl (i_bl (i_b (fun c2 => ?_) fun c2 => ?_))))))))
  · have c2 : way < 2 := of_decide_eq_true c2
    have e : way = 0 ∨ way = 1 := by omega
    rcases e with rfl | rfl
    · exact i_ret (i_tup (i_cons (i_op (i_lst (i_cons (i_c (i_cons (i_c (i_nil (i_var rfl (i_some rfl (i_cons (i_varS rfl (i_cons (i_fn (i_cons (i_varS rfl (i_cons (i_varS rfl (i_nil (pk _ fun w => i_cons (i_varS rfl (i_nil (h (.spd (1 + s) w num)))))))))))))))))))))))))
    · exact i_ret (i_tup (i_cons (i_op (i_lst (i_cons (i_c (i_cons (i_c (i_nil (i_var rfl (i_some rfl (i_cons (i_varS rfl (i_cons (i_fn (i_cons (i_varS rfl (i_cons (i_varS rfl (i_nil (pk _ fun w => i_cons (i_varS rfl (i_nil (h (.req (1 + s) w num)))))))))))))))))))))))))
  refine i_next ?_
  dsimp only
  refine i_seq (i_ifS (i_test (i_op (i_var rfl (i_c (i_some rfl (i_bl (i_b (fun c4 => ?_) fun c4 => ?_))))))))
  · exact i_ret (i_tup (i_cons (i_c (i_cons (i_op (i_c (i_fn (i_cons (i_varS rfl (i_cons (i_varS rfl (i_nil (i_take (by omega) (by omega) fun k _ _ => i_some rfl (i_cons (i_fn (i_cons (i_varS rfl (i_cons (i_varS rfl (i_nil (pk _ fun w => i_cons (i_varS rfl (i_nil (h (.dep (1 + k) w num)))))))))))))))))))))))))
  refine i_next ?_
  dsimp only
  refine i_seq (i_ifS (i_test (i_op (i_var rfl (i_c (i_some rfl (i_bl (i_b (fun c5 => ?_) fun c5 => ?_))))))))
  · exact i_ret (i_tup (i_cons (i_c (i_cons (i_varS rfl (i_cons (i_varS rfl (i_nil (h (.rel (1 + s) num))))))))))
  refine i_next ?_
  dsimp only
  refine i_seq (i_ifS (i_test (i_op (i_var rfl (i_c (i_some rfl (i_bl (i_b (fun c6 => ?_) fun c6 => ?_))))))))
  · exact i_ret (i_tup (i_cons (i_c (i_cons (i_varS rfl (i_nil (h (.wdr (1 + s)))))))))
  refine i_next ?_
  dsimp only
  have c2 : ¬ way < 2 := of_decide_eq_false c2
  have c4 : ¬ way < 4 := of_decide_eq_false c4
  have c5 : ¬ way = 4 := fun z => by subst z; exact absurd c5 (by decide)
  have c6 : ¬ way = 5 := fun z => by subst z; exact absurd c6 (by decide)
  refine i_seq (i_asg (i_op (i_c (i_fn (i_cons (i_varS rfl (i_cons (i_op (i_var rfl (i_c (i_some rfl (i_nil (i_take (by omega) (by omega) fun l l0 l1 => i_some rfl ?_)))))))))))))
  dsimp only
  have e : way = 6 ∨ way = 7 := by omega
  rcases e with rfl | rfl
  · exact i_ret (i_tup (i_cons (i_op (i_lst (i_cons (i_c (i_cons (i_c (i_nil (i_op (i_var rfl (i_c (i_some rfl (i_some rfl (i_cons (i_varS rfl (i_cons (i_op (i_c (i_fn (i_cons (i_varS rfl (i_cons (i_op (i_var rfl (i_c (i_some rfl (i_nil (i_take (by omega) (by omega) fun k _ _ => i_some rfl (i_nil (h (.con (2 + l) (1 + k)))))))))))))))))))))))))))))))))
  · exact i_ret (i_tup (i_cons (i_op (i_lst (i_cons (i_c (i_cons (i_c (i_nil (i_op (i_var rfl (i_c (i_some rfl (i_some rfl (i_cons (i_varS rfl (i_cons (i_op (i_c (i_fn (i_cons (i_varS rfl (i_cons (i_op (i_var rfl (i_c (i_some rfl (i_nil (i_take (by omega) (by omega) fun k _ _ => i_some rfl (i_nil (h (.ref (2 + l) (1 + k)))))))))))))))))))))))))))))))))
end GP

set_option Elab.async false
set_option linter.all false
set_option maxRecDepth 100000
set_option maxHeartbeats 4000000
namespace GP
open PySem PySem.Spec PyProof.Rows L2
def Fa.p : Fa → Int
  | .spd p _ _ => p
  | .req p _ _ => p
  | .dep p _ _ => p
  | .rel p _ => p
  | .wdr p => p
  | .con p _ => p
  | .ref p _ => p
theorem Fa.ix1 (a : Fa) : fIx a.d (.int 1) = some (.int a.p) := by cases a <;> rfl
theorem add_near (fs gs : List Fa) (h : fs.length + gs.length ≤ 100) : fAdd (.lst (fs.map Fa.d)) (.lst (gs.map Fa.d)) = some (.lst ((fs ++ gs).map Fa.d)) := by
  unfold fAdd
  dsimp only
  rw [List.length_map, List.length_map, if_pos (by have : LIM = 1000000 := rfl; omega), List.map_append]
def bS (ws : List Str) (a : Fa) (k : Int) (fs : List Fa) : DS := [some (.sh .st), some (.sh (.lst (ws.map .str))), some (.sh a.d), some (.sh (.int k)), some (.sh (.lst (fs.map Fa.d)))]
theorem beside2 (N : DN) (ws : List Str) (a : Fa) (k : Int) (fs : List Fa) (hf : fs.length ≤ 50) (h : ∀ b : Fa, N.rt b.d) : (dSeq (dIfS (dTest (dOp fLt (dOp fIx (dVar 2) (dC (.int 1))) (dC (.int 20)))) (dAsg (dOp fAdd (dVar 4) (dLst (dCons (dTup (dCons (dC (.str "consent")) (dCons (dOp fAdd (dOp fIx (dVar 2) (dC (.int 1))) (dC (.int 1))) (dCons (dOp fIx (dVar 2) (dC (.int 1))) (dNil))))) (dCons (dTup (dCons (dC (.str "refuse")) (dCons (dC (.int 20)) (dCons (dOp fIx (dVar 2) (dC (.int 1))) (dNil))))) (dNil))))) 4) (dNext)) (dRet (dFn dp_law_pick (dCons (dVarS 0) (dCons (dOp fAdd (dVar 4) (dLst (dCons (dTup (dCons (dC (.str "release")) (dCons (dOp fIx (dVar 2) (dC (.int 1))) (dCons (dVarS 3) (dNil))))) (dCons (dTup (dCons (dC (.str "withdrawn")) (dCons (dOp fIx (dVar 2) (dC (.int 1))) (dNil)))) (dNil))))) (dNil)))))) N (bS ws a k fs) := by
  have fin : ∀ fs : List Fa, fs.length ≤ 60 → (dRet (dFn dp_law_pick (dCons (dVarS 0) (dCons (dOp fAdd (dVar 4) (dLst (dCons (dTup (dCons (dC (.str "release")) (dCons (dOp fIx (dVar 2) (dC (.int 1))) (dCons (dVarS 3) (dNil))))) (dCons (dTup (dCons (dC (.str "withdrawn")) (dCons (dOp fIx (dVar 2) (dC (.int 1))) (dNil)))) (dNil))))) (dNil))))) N (bS ws a k fs) := fun fs hf => by
    refine i_ret (i_fn (i_cons (i_varS rfl (i_cons (i_op (i_var rfl (i_lst (i_cons (i_tup (i_cons (i_c (i_cons (i_op (i_var rfl (i_c (i_some a.ix1 (i_cons (i_varS rfl (i_nil (i_cons (i_tup (i_cons (i_c (i_cons (i_op (i_var rfl (i_c (i_some a.ix1 (i_nil (i_nil (i_some (add_near fs [.rel a.p k, .wdr a.p] (by show fs.length + 2 ≤ 100; omega)) (i_nil (i_pick rfl (fun z => ?_) ?_ fun r hr => ?_)))))))))))))))))))))))))))))))))
    · have := congrArg List.length z
      rw [List.length_map, List.length_append] at this
      simp at this
    · rw [List.length_map, List.length_append]
      have : LIM = 1000000 := rfl
      show fs.length + 2 ≤ LIM
      omega
    · obtain ⟨b, _, rfl⟩ := List.mem_map.mp hr
      exact h b
  refine i_seq (i_ifS (i_test (i_op (i_op (i_var rfl (i_c (i_some a.ix1 (i_c (i_some rfl (i_bl (i_b (fun _ => ?_) fun _ => ?_)))))))))))
  · refine i_asg (i_op (i_var rfl (i_lst (i_cons (i_tup (i_cons (i_c (i_cons (i_op (i_op (i_var rfl (i_c (i_some a.ix1 (i_c (i_some rfl (i_cons (i_op (i_var rfl (i_c (i_some a.ix1 (i_nil (i_cons (i_tup (i_cons (i_c (i_cons (i_c (i_cons (i_op (i_var rfl (i_c (i_some a.ix1 (i_nil (i_nil (i_some (add_near fs [.con (a.p + 1) a.p, .ref 20 a.p] (by show fs.length + 2 ≤ 100; omega)) ?_)))))))))))))))))))))))))))))))))))
    exact fin _ (by rw [List.length_append]; show fs.length + 2 ≤ 60; omega)
  · exact fin fs (by omega)
theorem beside1 (N : DN) (ws : List Str) (a : Fa) (k : Int) (fs : List Fa) (hf : fs.length ≤ 40) (h : ∀ b : Fa, N.rt b.d) : (dSeq (dIfS (dTest (dOp fGt (dOp fIx (dVar 2) (dC (.int 1))) (dC (.int 1)))) (dAsg (dOp fAdd (dVar 4) (dLst (dCons (dTup (dCons (dC (.str "consent")) (dCons (dOp fIx (dVar 2) (dC (.int 1))) (dCons (dC (.int 1)) (dNil))))) (dCons (dTup (dCons (dC (.str "refuse")) (dCons (dOp fIx (dVar 2) (dC (.int 1))) (dCons (dOp fSub (dOp fIx (dVar 2) (dC (.int 1))) (dC (.int 1))) (dNil))))) (dNil))))) 4) (dNext)) (dSeq (dIfS (dTest (dOp fLt (dOp fIx (dVar 2) (dC (.int 1))) (dC (.int 20)))) (dAsg (dOp fAdd (dVar 4) (dLst (dCons (dTup (dCons (dC (.str "consent")) (dCons (dOp fAdd (dOp fIx (dVar 2) (dC (.int 1))) (dC (.int 1))) (dCons (dOp fIx (dVar 2) (dC (.int 1))) (dNil))))) (dCons (dTup (dCons (dC (.str "refuse")) (dCons (dC (.int 20)) (dCons (dOp fIx (dVar 2) (dC (.int 1))) (dNil))))) (dNil))))) 4) (dNext)) (dRet (dFn dp_law_pick (dCons (dVarS 0) (dCons (dOp fAdd (dVar 4) (dLst (dCons (dTup (dCons (dC (.str "release")) (dCons (dOp fIx (dVar 2) (dC (.int 1))) (dCons (dVarS 3) (dNil))))) (dCons (dTup (dCons (dC (.str "withdrawn")) (dCons (dOp fIx (dVar 2) (dC (.int 1))) (dNil)))) (dNil))))) (dNil))))))) N (bS ws a k fs) := by
  refine i_seq (i_ifS (i_test (i_op (i_op (i_var rfl (i_c (i_some a.ix1 (i_c (i_some rfl (i_bl (i_b (fun _ => ?_) fun _ => ?_)))))))))))
  · refine i_asg (i_op (i_var rfl (i_lst (i_cons (i_tup (i_cons (i_c (i_cons (i_op (i_var rfl (i_c (i_some a.ix1 (i_cons (i_c (i_nil (i_cons (i_tup (i_cons (i_c (i_cons (i_op (i_var rfl (i_c (i_some a.ix1 (i_cons (i_op (i_op (i_var rfl (i_c (i_some a.ix1 (i_c (i_some rfl (i_nil (i_nil (i_some (add_near fs [.con a.p 1, .ref a.p (a.p - 1)] (by show fs.length + 2 ≤ 100; omega)) ?_)))))))))))))))))))))))))))))))))))
    exact beside2 N ws a k _ (by rw [List.length_append]; show fs.length + 2 ≤ 50; omega) h
  · exact beside2 N ws a k fs (by omega) h
theorem dd_law_beside : ∀ xs P, xs.length = 3 → dp_law_beside xs P → d_law_beside { nx := fun _ => P .non, rt := P } (startD 5 xs) := by
  intro xs P _ h
  rcases h with ⟨ws, a, h0, hne, h⟩
  subst h0
  have hne2 : (ws.map D.str) ≠ [] := fun z => hne (List.map_eq_nil_iff.mp z)
  obtain ⟨w0, e0⟩ : ∃ w0, fIx (.lst (ws.map .str)) (.int 0) = some (.str w0) := by
    obtain ⟨x, hx, hm, _⟩ := atI_nat (xs := ws.map D.str) (i := 0) (by omega) (by have := List.length_pos_iff.mpr hne2; omega)
    obtain ⟨w, _, rfl⟩ := List.mem_map.mp hm
    exact ⟨w, hx⟩
  obtain ⟨w1, e1⟩ : ∃ w0, fIx (.lst (ws.map .str)) (.int (-1)) = some (.str w0) := by
    obtain ⟨x, hx, hm⟩ := atI_last hne2
    obtain ⟨w, _, rfl⟩ := List.mem_map.mp hm
    exact ⟨w, hx⟩
  unfold d_law_beside
  refine i_seq (i_asg (i_op (i_c (i_fn (i_cons (i_varS rfl (i_cons (i_c (i_nil (i_take (by decide) (by decide) fun k _ _ => i_some rfl ?_))))))))))
  dsimp only
  refine i_seq (i_asg (i_lst (i_cons (i_tup (i_cons (i_c (i_cons (i_op (i_var rfl (i_c (i_some a.ix1 (i_cons (i_op (i_var rfl (i_c (i_some e0 (i_cons (i_varS rfl (i_nil (i_cons (i_tup (i_cons (i_c (i_cons (i_op (i_var rfl (i_c (i_some a.ix1 (i_cons (i_op (i_var rfl (i_un (i_c (i_some rfl (i_some e1 (i_cons (i_varS rfl (i_nil (i_nil ?_)))))))))))))))))))))))))))))))))))))))
  dsimp only
  have go : ∀ fs : List Fa, fs.length ≤ 40 → (dSeq (dIfS (dTest (dOp fGt (dOp fIx (dVar 2) (dC (.int 1))) (dC (.int 1)))) (dAsg (dOp fAdd (dVar 4) (dLst (dCons (dTup (dCons (dC (.str "consent")) (dCons (dOp fIx (dVar 2) (dC (.int 1))) (dCons (dC (.int 1)) (dNil))))) (dCons (dTup (dCons (dC (.str "refuse")) (dCons (dOp fIx (dVar 2) (dC (.int 1))) (dCons (dOp fSub (dOp fIx (dVar 2) (dC (.int 1))) (dC (.int 1))) (dNil))))) (dNil))))) 4) (dNext)) (dSeq (dIfS (dTest (dOp fLt (dOp fIx (dVar 2) (dC (.int 1))) (dC (.int 20)))) (dAsg (dOp fAdd (dVar 4) (dLst (dCons (dTup (dCons (dC (.str "consent")) (dCons (dOp fAdd (dOp fIx (dVar 2) (dC (.int 1))) (dC (.int 1))) (dCons (dOp fIx (dVar 2) (dC (.int 1))) (dNil))))) (dCons (dTup (dCons (dC (.str "refuse")) (dCons (dC (.int 20)) (dCons (dOp fIx (dVar 2) (dC (.int 1))) (dNil))))) (dNil))))) 4) (dNext)) (dRet (dFn dp_law_pick (dCons (dVarS 0) (dCons (dOp fAdd (dVar 4) (dLst (dCons (dTup (dCons (dC (.str "release")) (dCons (dOp fIx (dVar 2) (dC (.int 1))) (dCons (dVarS 3) (dNil))))) (dCons (dTup (dCons (dC (.str "withdrawn")) (dCons (dOp fIx (dVar 2) (dC (.int 1))) (dNil)))) (dNil))))) (dNil))))))) { nx := fun _ => P .non, rt := P } (bS ws a (1 + k) fs) := fun fs hf => beside1 _ ws a (1 + k) fs hf h
  have near : bS ws a (1 + k) [.spd a.p w0 (1 + k), .req a.p w1 (1 + k)] = [some (.sh .st), some (.sh (.lst (ws.map .str))), some (.sh a.d), some (.sh (.int (1 + k))), some (.sh (.lst [.tup [.str "spender", .int a.p, .str w0, .int (1 + k)], .tup [.str "request", .int a.p, .str w1, .int (1 + k)]]))] := rfl
  show dSeq _ _ _ (bS ws a (1 + k) [.spd a.p w0 (1 + k), .req a.p w1 (1 + k)])
  clear near
  have plain : ∀ c, (deq DEP (.str c) (.str "deposit")) = false → fIx a.d (.int 0) = some (.str c) → ([D.str "consent", D.str "refuse"].any fun y => deq 0 y (.str c)) = false → (dSeq (dIfS (dTest (dOp fEq (dOp fIx (dVar 2) (dC (.int 0))) (dC (.str "deposit")))) (dRet (dTup (dCons (dC (.str "deposit")) (dCons (dOp fIx (dVar 2) (dC (.int 1))) (dCons (dOp fIx (dVar 1) (dC (.int 0))) (dCons (dVarS 3) (dNil))))))) (dNext)) (dSeq (dIfS (dTest (dOp fIn (dOp fIx (dVar 2) (dC (.int 0))) (dTup (dCons (dC (.str "consent")) (dCons (dC (.str "refuse")) (dNil)))))) (dSeq (dAsg (dOp fAdd (dVar 4) (dLst (dCons (dTup (dCons (dC (.str "spender")) (dCons (dOp fIx (dVar 2) (dC (.int 2))) (dCons (dOp fIx (dVar 1) (dC (.int 0))) (dCons (dVarS 3) (dNil)))))) (dCons (dTup (dCons (dC (.str "request")) (dCons (dOp fIx (dVar 2) (dC (.int 2))) (dCons (dOp fIx (dVar 1) (dC (.int 0))) (dCons (dVarS 3) (dNil)))))) (dNil))))) 4) (dAsg (dOp fAdd (dVar 4) (dLst (dCons (dOp fAdd (dTup (dCons (dC (.str "consent")) (dNil))) (dSl (dVar 2) (dPart (dC (.int 1))) (dNoPart))) (dCons (dOp fAdd (dTup (dCons (dC (.str "refuse")) (dNil))) (dSl (dVar 2) (dPart (dC (.int 1))) (dNoPart))) (dCons (dTup (dCons (dC (.str "release")) (dCons (dOp fIx (dVar 2) (dC (.int 2))) (dCons (dVarS 3) (dNil))))) (dNil)))))) 4)) (dNext)) (dSeq (dIfS (dTest (dOp fGt (dOp fIx (dVar 2) (dC (.int 1))) (dC (.int 1)))) (dAsg (dOp fAdd (dVar 4) (dLst (dCons (dTup (dCons (dC (.str "consent")) (dCons (dOp fIx (dVar 2) (dC (.int 1))) (dCons (dC (.int 1)) (dNil))))) (dCons (dTup (dCons (dC (.str "refuse")) (dCons (dOp fIx (dVar 2) (dC (.int 1))) (dCons (dOp fSub (dOp fIx (dVar 2) (dC (.int 1))) (dC (.int 1))) (dNil))))) (dNil))))) 4) (dNext)) (dSeq (dIfS (dTest (dOp fLt (dOp fIx (dVar 2) (dC (.int 1))) (dC (.int 20)))) (dAsg (dOp fAdd (dVar 4) (dLst (dCons (dTup (dCons (dC (.str "consent")) (dCons (dOp fAdd (dOp fIx (dVar 2) (dC (.int 1))) (dC (.int 1))) (dCons (dOp fIx (dVar 2) (dC (.int 1))) (dNil))))) (dCons (dTup (dCons (dC (.str "refuse")) (dCons (dC (.int 20)) (dCons (dOp fIx (dVar 2) (dC (.int 1))) (dNil))))) (dNil))))) 4) (dNext)) (dRet (dFn dp_law_pick (dCons (dVarS 0) (dCons (dOp fAdd (dVar 4) (dLst (dCons (dTup (dCons (dC (.str "release")) (dCons (dOp fIx (dVar 2) (dC (.int 1))) (dCons (dVarS 3) (dNil))))) (dCons (dTup (dCons (dC (.str "withdrawn")) (dCons (dOp fIx (dVar 2) (dC (.int 1))) (dNil)))) (dNil))))) (dNil))))))))) { nx := fun _ => P .non, rt := P } (bS ws a (1 + k) [.spd a.p w0 (1 + k), .req a.p w1 (1 + k)]) := fun c k1 k2 k3 => by
    refine i_seq (i_ifS (i_test (i_op (i_op (i_var rfl (i_c (i_some k2 (i_c (i_some rfl (i_bl (i_b (fun c => ?_) fun _ => ?_)))))))))))
    · rw [k1] at c; cases c
    refine i_next ?_
    dsimp only
    refine i_seq (i_ifS (i_test (i_op (i_op (i_var rfl (i_c (i_some k2 (i_tup (i_cons (i_c (i_cons (i_c (i_nil (i_some rfl (i_bl (i_b (fun c => ?_) fun _ => ?_))))))))))))))))
    · rw [k3] at c; cases c
    exact i_next (go _ (by simp))
  have answ : ∀ (c : Str) (x y : Int), a.p = x → (deq DEP (.str c) (.str "deposit")) = false → a.d = .tup [.str c, .int x, .int y] → ([D.str "consent", D.str "refuse"].any fun y => deq 0 y (.str c)) = true → (dSeq (dIfS (dTest (dOp fEq (dOp fIx (dVar 2) (dC (.int 0))) (dC (.str "deposit")))) (dRet (dTup (dCons (dC (.str "deposit")) (dCons (dOp fIx (dVar 2) (dC (.int 1))) (dCons (dOp fIx (dVar 1) (dC (.int 0))) (dCons (dVarS 3) (dNil))))))) (dNext)) (dSeq (dIfS (dTest (dOp fIn (dOp fIx (dVar 2) (dC (.int 0))) (dTup (dCons (dC (.str "consent")) (dCons (dC (.str "refuse")) (dNil)))))) (dSeq (dAsg (dOp fAdd (dVar 4) (dLst (dCons (dTup (dCons (dC (.str "spender")) (dCons (dOp fIx (dVar 2) (dC (.int 2))) (dCons (dOp fIx (dVar 1) (dC (.int 0))) (dCons (dVarS 3) (dNil)))))) (dCons (dTup (dCons (dC (.str "request")) (dCons (dOp fIx (dVar 2) (dC (.int 2))) (dCons (dOp fIx (dVar 1) (dC (.int 0))) (dCons (dVarS 3) (dNil)))))) (dNil))))) 4) (dAsg (dOp fAdd (dVar 4) (dLst (dCons (dOp fAdd (dTup (dCons (dC (.str "consent")) (dNil))) (dSl (dVar 2) (dPart (dC (.int 1))) (dNoPart))) (dCons (dOp fAdd (dTup (dCons (dC (.str "refuse")) (dNil))) (dSl (dVar 2) (dPart (dC (.int 1))) (dNoPart))) (dCons (dTup (dCons (dC (.str "release")) (dCons (dOp fIx (dVar 2) (dC (.int 2))) (dCons (dVarS 3) (dNil))))) (dNil)))))) 4)) (dNext)) (dSeq (dIfS (dTest (dOp fGt (dOp fIx (dVar 2) (dC (.int 1))) (dC (.int 1)))) (dAsg (dOp fAdd (dVar 4) (dLst (dCons (dTup (dCons (dC (.str "consent")) (dCons (dOp fIx (dVar 2) (dC (.int 1))) (dCons (dC (.int 1)) (dNil))))) (dCons (dTup (dCons (dC (.str "refuse")) (dCons (dOp fIx (dVar 2) (dC (.int 1))) (dCons (dOp fSub (dOp fIx (dVar 2) (dC (.int 1))) (dC (.int 1))) (dNil))))) (dNil))))) 4) (dNext)) (dSeq (dIfS (dTest (dOp fLt (dOp fIx (dVar 2) (dC (.int 1))) (dC (.int 20)))) (dAsg (dOp fAdd (dVar 4) (dLst (dCons (dTup (dCons (dC (.str "consent")) (dCons (dOp fAdd (dOp fIx (dVar 2) (dC (.int 1))) (dC (.int 1))) (dCons (dOp fIx (dVar 2) (dC (.int 1))) (dNil))))) (dCons (dTup (dCons (dC (.str "refuse")) (dCons (dC (.int 20)) (dCons (dOp fIx (dVar 2) (dC (.int 1))) (dNil))))) (dNil))))) 4) (dNext)) (dRet (dFn dp_law_pick (dCons (dVarS 0) (dCons (dOp fAdd (dVar 4) (dLst (dCons (dTup (dCons (dC (.str "release")) (dCons (dOp fIx (dVar 2) (dC (.int 1))) (dCons (dVarS 3) (dNil))))) (dCons (dTup (dCons (dC (.str "withdrawn")) (dCons (dOp fIx (dVar 2) (dC (.int 1))) (dNil)))) (dNil))))) (dNil))))))))) { nx := fun _ => P .non, rt := P } (bS ws a (1 + k) [.spd a.p w0 (1 + k), .req a.p w1 (1 + k)]) := fun c x y hx k1 k2 k3 => by
    subst hx
    have i0 : fIx a.d (.int 0) = some (.str c) := by rw [k2]; rfl
    have i2 : fIx a.d (.int 2) = some (.int y) := by rw [k2]; rfl
    have sl : fSl (some 1) none a.d = some (.tup [.int a.p, .int y]) := by rw [k2]; rfl
    refine i_seq (i_ifS (i_test (i_op (i_op (i_var rfl (i_c (i_some i0 (i_c (i_some rfl (i_bl (i_b (fun c => ?_) fun _ => ?_)))))))))))
    · rw [k1] at c; cases c
    refine i_next ?_
    dsimp only
    refine i_seq (i_ifS (i_test (i_op (i_op (i_var rfl (i_c (i_some i0 (i_tup (i_cons (i_c (i_cons (i_c (i_nil (i_some rfl (i_bl (i_b (fun _ => ?_) fun c => ?_))))))))))))))))
    · refine i_seq (i_asg (i_op (i_var rfl (i_lst (i_cons (i_tup (i_cons (i_c (i_cons (i_op (i_var rfl (i_c (i_some i2 (i_cons (i_op (i_var rfl (i_c (i_some e0 (i_cons (i_varS rfl (i_nil (i_cons (i_tup (i_cons (i_c (i_cons (i_op (i_var rfl (i_c (i_some i2 (i_cons (i_op (i_var rfl (i_c (i_some e0 (i_cons (i_varS rfl (i_nil (i_nil (i_some (add_near [.spd a.p w0 (1 + k), .req a.p w1 (1 + k)] [.spd y w0 (1 + k), .req y w0 (1 + k)] (by simp)) ?_))))))))))))))))))))))))))))))))))))))))
      dsimp only
      refine i_asg (i_op (i_var rfl (i_lst (i_cons (i_op (i_tup (i_cons (i_c (i_nil (i_sl (i_var rfl (i_part (i_c (i_int (i_noPart (i_some sl (i_some rfl (i_cons (i_op (i_tup (i_cons (i_c (i_nil (i_sl (i_var rfl (i_part (i_c (i_int (i_noPart (i_some sl (i_some rfl (i_cons (i_tup (i_cons (i_c (i_cons (i_op (i_var rfl (i_c (i_some i2 (i_cons (i_varS rfl (i_nil (i_nil (i_some (add_near ([.spd a.p w0 (1 + k), .req a.p w1 (1 + k)] ++ [.spd y w0 (1 + k), .req y w0 (1 + k)]) [.con a.p y, .ref a.p y, .rel y (1 + k)] (by simp)) ?_)))))))))))))))))))))))))))))))))))))))))))))
      exact go _ (by simp)
    · rw [k3] at c; cases c
  cases a with
  | spd p n z => exact plain "spender" (by decide +kernel) rfl (by decide +kernel)
  | req p n z => exact plain "request" (by decide +kernel) rfl (by decide +kernel)
  | rel p z => exact plain "release" (by decide +kernel) rfl (by decide +kernel)
  | wdr p => exact plain "withdrawn" (by decide +kernel) rfl (by decide +kernel)
  | con x y => exact answ "consent" x y rfl (by decide +kernel) rfl (by decide +kernel)
  | ref x y => exact answ "refuse" x y rfl (by decide +kernel) rfl (by decide +kernel)
  | dep p n z =>
    refine i_seq (i_ifS (i_test (i_op (i_op (i_var rfl (i_c (i_some rfl (i_c (i_some rfl (i_bl (i_b (fun _ => ?_) fun c => ?_)))))))))))
    · exact i_ret (i_tup (i_cons (i_c (i_cons (i_op (i_var rfl (i_c (i_some rfl (i_cons (i_op (i_var rfl (i_c (i_some e0 (i_cons (i_varS rfl (i_nil (h (.dep p w0 (1 + k)))))))))))))))))))
    · have : (deq DEP (.str "deposit") (.str "deposit")) = true := by decide +kernel
      rw [this] at c
      cases c
end GP

set_option Elab.async false
set_option linter.all false
set_option maxRecDepth 100000
set_option maxHeartbeats 4000000
namespace GP
open PySem PySem.Spec PyProof.Rows L2
/-! law: slots 0 _law_script 1 _law_state 2 _law_turn 3 _law_names 4 _law_some 5 _law_places 6 _law_k 7 _law_left 8 _law_right 9 _law_due; calls _law_words _law_take _law_pick _law_fact _law_beside _law_conflicts do_conflict; cost 519 -/
def t_law_rest (Γ : Cn) : TS := tSeq (tFor (iRng1 (tCons (tC (.int 3)) (tNil))) (gName 2) (tSeq (tPar 3 4 (tCons (tFn (sp_law_words Γ) E0 (tCons (tVar 1) (tCons (tOp (gAdd Γ.K) (tC (.int 1)) (tFn
   (sp_law_take Γ) E0 (tCons (tVar 1) (tCons (tC (.int 8)) (tNil))))) (tNil)))) (tCons (tLst (tNil)) (tNil)))) (tSeq (tAsg (tFn (sp_law_pick Γ) E0 (tCons (tVar 1) (tCons
   (tLst (tCons (tC (.int 4)) (tCons (tC (.int 4)) (tCons (tC (.int 20)) (tNil))))) (tNil)))) (gName 5)) (tSeq (tFor (iRng1 (tCons (tC (.int 6)) (tNil))) (gName 6) (tSeq
   (tDrop (tBM Γ.K "list" rAppend (tVar 4) (tCons (tFn (sp_law_fact Γ) E0 (tCons (tVar 1) (tCons (tVar 3) (tCons (tVar 5) (tCons (tC (.int 3)) (tNil)))))) tNil))) (tDrop
   (tBM Γ.K "list" rAppend (tVar 4) (tCons (tFn (sp_law_beside Γ) E0 (tCons (tVar 1) (tCons (tVar 3) (tCons (tOp (gIx Γ.K) (tVar 4) (tUn gNeg (tC (.int 1)))) (tNil)))))
   tNil))))) (tFor (gIter Γ.K (tVar 4)) (gName 7) (tFor (gIter Γ.K (tVar 4)) (gName 8) (tSeq (tAsg (tFn (sp_law_conflicts Γ) E0 (tCons (tVar 7) (tCons (tVar 8) (tNil))))
   (gName 9)) (tIfS (tTest (tOp (gNe Γ.K) (tCB (gRepr Γ.K) (tCons (tLst (tCons (tFn (sp_do_conflict Γ) E0 (tCons (tVar 7) (tCons (tVar 8) (tNil)))) (tCons (tFnK
   (sp_do_conflict Γ) [1, 0] E0 (tCons (tVar 8) (tCons (tVar 7) (tNil)))) (tNil)))) (tNil))) (tCB (gRepr Γ.K) (tCons (tLst (tCons (tVar 9) (tCons (tVar 9) (tNil))))
   (tNil))))) (tRet (tC (.bl false))) (tNext))))))))) (tRet (tC (.bl true)))
def d_law_rest_b1 : DQ := dSeq (dApp 4 (dFn dp_law_fact (dCons (dVarS 1) (dCons (dVarS 3) (dCons (dVarS 5) (dCons (dC (.int 3)) (dNil))))))) (dApp 4 (dFn dp_law_beside (dCons (dVarS 1) (dCons
   (dVarS 3) (dCons (dOp fIx (dVar 4) (dUn fNeg (dC (.int 1)))) (dNil))))))
def d_law_rest_b2 : DQ := dSeq (dAsg (dFn dp_law_conflicts (dCons (dVarS 7) (dCons (dVarS 8) (dNil)))) 9) (dIfS (dTest (dOp fNe (dCB fRepr (dCons (dLst (dCons (dFn dp_do_conflict (dCons (dVarS 7)
   (dCons (dVarS 8) (dNil)))) (dCons (dFnK dp_do_conflict [1, 0] (dCons (dVarS 8) (dCons (dVarS 7) (dNil)))) (dNil)))) (dNil))) (dCB fRepr (dCons (dLst (dCons (dVarS 9)
   (dCons (dVarS 9) (dNil)))) (dNil))))) (dRet (dC (.bl false))) (dNext))
def d_law_rest_b3 : DQ := dFrz 4 (dFor (dIter (dVarS 4)) (dName 8) (d_law_rest_b2))
def d_law_rest_b4 : DQ := dSeq (dPar false true 3 4 (dFn dp_law_words (dCons (dVarS 1) (dCons (dOp fAdd (dC (.int 1)) (dFn dp_law_take (dCons (dVarS 1) (dCons (dC (.int 8)) (dNil))))) (dNil))))
   (dLst (dNil))) (dSeq (dAsg (dFn dp_law_pick (dCons (dVarS 1) (dCons (dLst (dCons (dC (.int 4)) (dCons (dC (.int 4)) (dCons (dC (.int 20)) (dNil))))) (dNil)))) 5) (dSeq
   (dForN 6 (dRng1 (dCons (dC (.int 6)) (dNil))) (dName 6) (d_law_rest_b1)) (dFrz 4 (dFor (dIter (dVarS 4)) (dName 7) (d_law_rest_b3)))))
def d_law_rest : DQ := dSeq (dForN 3 (dRng1 (dCons (dC (.int 3)) (dNil))) (dName 2) (d_law_rest_b4)) (dRet (dC (.bl true)))
theorem snd_law_rest {Γ : Cn} {L : LS} : SS Γ L 519 (t_law_rest Γ) d_law_rest := by
  unfold t_law_rest d_law_rest d_law_rest_b4 d_law_rest_b3 d_law_rest_b2 d_law_rest_b1
  exact s_seq (s_forN 3 (s_rng1 (s_consT (SE.t (s_c fun _ => .int _)) (s_nilT))) (s_name 2) (s_seq (s_par (k1 := false) (k2 := true) 3 4 (s_fn (s := dp_law_words) (cf := 99)
   (s_cons (s_varS 1) (s_cons (s_op o_add (SE.t (s_c fun _ => .int _)) (SE.t (s_fn (s := dp_law_take) (cf := 1) (s_cons (s_varS 1) (s_cons (s_c fun _ => .int _)
   (s_nil)))))) (s_nil)))) (s_lst (s_nil))) (s_seq (s_asg 5 (s_fn (s := dp_law_pick) (cf := 1) (s_cons (s_varS 1) (s_cons (SF.e (s_lst (s_cons (s_c fun _ => .int _)
   (s_cons (s_c fun _ => .int _) (s_cons (s_c fun _ => .int _) (s_nil)))))) (s_nil))))) (s_seq (s_forN 6 (s_rng1 (s_consT (SE.t (s_c fun _ => .int _)) (s_nilT))) (s_name
   6) (s_seq (s_app 4 (s_fn (s := dp_law_fact) (cf := 10) (s_cons (s_varS 1) (s_cons (s_varS 3) (s_cons (s_varS 5) (s_cons (s_c fun _ => .int _) (s_nil))))))) (s_app 4
   (s_fn (s := dp_law_beside) (cf := 2) (s_cons (s_varS 1) (s_cons (s_varS 3) (s_cons (s_op o_ix (s_var 4) (SE.t (s_un o_neg (SE.t (s_c fun _ => .int _)))))
   (s_nil)))))))) (s_frz 4 (s_for (s_iter (s_varS 4)) (s_name 7) (s_frz 4 (s_for (s_iter (s_varS 4)) (s_name 8) (s_seq (s_asg 9 (s_fn (s := dp_law_conflicts) (cf := 0)
   (s_cons (s_varS 7) (s_cons (s_varS 8) (s_nil))))) (s_if (s_test (SE.t (s_op o_ne (SE.t (s_cb k_repr (s_consT (SF.t (s_lst (s_cons (s_fn (s := dp_do_conflict) (cf := 0)
   (s_cons (s_varS 7) (s_cons (s_varS 8) (s_nil)))) (s_cons (s_fnK (s := dp_do_conflict) (cf := 0) (s_cons (s_varS 8) (s_cons (s_varS 7) (s_nil)))) (s_nil)))))
   (s_nilT)))) (SE.t (s_cb k_repr (s_consT (SF.t (s_lst (s_cons (s_varS 9) (s_cons (s_varS 9) (s_nil))))) (s_nilT))))))) (s_ret (s_c fun _ => .bl _)) (s_next)))))))))))
   (s_ret (s_c fun _ => .bl _))
theorem i_conf {P : D → Prop} (a b : Fa) (h : P (.bl (a.cf b))) : dp_law_conflicts [a.d, b.d] P := ⟨a, b, rfl, h⟩
theorem i_doc {P : D → Prop} (a b : Fa) (h : P (.bl (a.cf b))) : dp_do_conflict [a.d, b.d] P := ⟨a, b, rfl, h⟩
theorem i_fact {P : D → Prop} {ws : List Str} {pl mk : Int} (h1 : ws ≠ []) (h2 : ws.length ≤ 9) (h3 : 2 ≤ pl) (h4 : pl ≤ 1000) (h5 : 1 ≤ mk) (h6 : mk ≤ 1000) (h : ∀ a : Fa, P a.d) : dp_law_fact [.st, .lst (ws.map .str), .int pl, .int mk] P := ⟨ws, pl, mk, rfl, h1, h2, h3, h4, h5, h6, h⟩
theorem i_beside {P : D → Prop} {ws : List Str} (a : Fa) (h1 : ws ≠ []) (h : ∀ a : Fa, P a.d) : dp_law_beside [.st, .lst (ws.map .str), a.d] P := ⟨ws, a, rfl, h1, h⟩
theorem i_words {P : D → Prop} {n : Int} (h0 : 0 ≤ n) (h9 : n ≤ 9) (h : ∀ ws : List Str, (ws.length : Int) = n → ws.Nodup → (∀ w ∈ ws, isNm w = true) → P (.lst (ws.map .str))) : dp_law_words [.st, .int n] P := ⟨n.toNat, by rw [Int.toNat_of_nonneg h0], by omega, fun ws e => h ws (by omega)⟩
def lS (x2 : Option Sl) (x3 x4 x5 x6 x7 x8 x9 : Option Sl) : DS := [none, some (.sh .st), x2, x3, x4, x5, x6, x7, x8, x9]
def lF (ws : List Str) : Option Sl := some (.sh (.lst (ws.map .str)))
theorem ix_snoc (xs : List D) (x : D) : fIx (.lst (xs ++ [x])) (.int (-1)) = some x := by
  rw [fIx_seq (xs := xs ++ [x]) rfl]
  have e : ixN (xs ++ [x]).length (-1) = some xs.length := by
    unfold ixN
    rw [List.length_append]
    simp
    omega
  unfold atI
  rw [e]
  show (xs ++ [x])[xs.length]? = _
  simp
theorem repr_bl (c : Bool) : ∃ s, fRepr [.lst [.bl c, .bl c]] = some (.raw s) := by
  cases c <;> exact ⟨_, rfl⟩
theorem rest_b2 (N : DN) (x2 x3 x4 x5 x6 x9 : Option Sl) (a b : Fa) (h : ∀ x9, N.nx (lS x2 x3 x4 x5 x6 (some (.sh a.d)) (some (.sh b.d)) x9)) : d_law_rest_b2 N (lS x2 x3 x4 x5 x6 (some (.sh a.d)) (some (.sh b.d)) x9) := by
  unfold d_law_rest_b2
  obtain ⟨s, es⟩ := repr_bl (a.cf b)
  refine i_seq (i_asg (i_fn (i_cons (i_varS rfl (i_cons (i_varS rfl (i_nil (i_conf a b ?_))))))))
  dsimp only
  refine i_ifS (i_test (i_op (i_cb (i_cons (i_lst (i_cons (i_fn (i_cons (i_varS rfl (i_cons (i_varS rfl (i_nil (i_doc a b (i_cons (i_fnK (i_cons (i_varS rfl (i_cons (i_varS rfl (i_nil (i_doc a b (i_nil (i_nil (i_some es (i_cb (i_cons (i_lst (i_cons (i_varS rfl (i_cons (i_varS rfl (i_nil (i_nil (i_some es (i_some rfl (i_bl (i_b (fun c => ?_) fun c => ?_)))))))))))))))))))))))))))))))))))))
  · simp at c
  · exact i_next (h _)
theorem rest_b3 (N : DN) (fs : List Fa) (x2 x3 x5 x6 x8 x9 : Option Sl) (a : Fa) (h : ∀ x8 x9, N.nx (lS x2 x3 (some (.sh (.lst (fs.map Fa.d)))) x5 x6 (some (.sh a.d)) x8 x9)) : d_law_rest_b3 N (lS x2 x3 (some (.sh (.lst (fs.map Fa.d)))) x5 x6 (some (.sh a.d)) x8 x9) := by
  unfold d_law_rest_b3
  refine i_frz (i_for (i_iter (i_varS rfl (i_sm rfl ?_))))
  refine for_inv (fun _ δ => ∃ x8 x9, δ = lS x2 x3 (some (.sh (.lst (fs.map Fa.d)))) x5 x6 (some (.sh a.d)) x8 x9) _ 0 _ ⟨_, _, rfl⟩ ?_ (name_mono 8) ?_
  · rintro j x δ hj ⟨x8, x9, rfl⟩ M hr hnx hct hbk
    obtain ⟨b, _, rfl⟩ := List.mem_map.mp (List.mem_of_getElem? hj)
    exact rest_b2 M _ _ _ _ _ _ a b fun x9 => hnx _ ⟨_, _, rfl⟩
  · rintro δ ⟨x8, x9, rfl⟩
    exact h x8 x9
theorem rest_b1 (N : DN) (ws : List Str) (pl : Int) (fs : List Fa) (x2 x6 x7 x8 x9 : Option Sl) (hw : ws ≠ []) (hl : ws.length ≤ 9) (p1 : 2 ≤ pl) (p2 : pl ≤ 1000) (hf : fs.length ≤ 100)
    (h : ∀ a b, N.nx (lS x2 (lF ws) (some (.ow (.lst ((fs ++ [a, b]).map Fa.d)))) (some (.sh (.int pl))) x6 x7 x8 x9)) : d_law_rest_b1 N (lS x2 (lF ws) (some (.ow (.lst (fs.map Fa.d)))) (some (.sh (.int pl))) x6 x7 x8 x9) := by
  unfold d_law_rest_b1
  have hL : LIM = 1000000 := rfl
  refine i_seq (i_app (xs := fs.map Fa.d) rfl (i_fn (i_cons (i_varS rfl (i_cons (i_varS rfl (i_cons (i_varS rfl (i_cons (i_c (i_nil (i_fact hw hl p1 p2 (by decide) (by decide) fun a => ⟨by rw [List.length_map]; omega, ?_⟩))))))))))))
  dsimp only
  refine i_app (xs := fs.map Fa.d ++ [a.d]) rfl (i_fn (i_cons (i_varS rfl (i_cons (i_varS rfl (i_cons (i_op (i_var rfl (i_un (i_c (i_some rfl (i_some (ix_snoc (fs.map Fa.d) a.d) (i_nil (i_beside a hw fun b => ⟨by rw [List.length_append, List.length_map]; show fs.length + 1 < LIM; omega, ?_⟩))))))))))))))
  have := h a b
  rw [List.map_append] at this
  show N.nx (lS x2 (lF ws) (some (.ow (.lst (fs.map Fa.d ++ [a.d] ++ [b.d])))) (some (.sh (.int pl))) x6 x7 x8 x9)
  rw [List.append_assoc]
  exact this
theorem rest_b4 (N : DN) (x2 x3 x4 x5 x6 x7 x8 x9 : Option Sl) (h : ∀ x3 x4 x5 x6 x7 x8 x9, N.nx (lS x2 x3 x4 x5 x6 x7 x8 x9)) : d_law_rest_b4 N (lS x2 x3 x4 x5 x6 x7 x8 x9) := by
  unfold d_law_rest_b4
  have hL : LIM = 1000000 := rfl
  refine i_seq (i_par (i_fn (i_cons (i_varS rfl (i_cons (i_op (i_c (i_fn (i_cons (i_varS rfl (i_cons (i_c (i_nil (i_take (by decide) (by decide) fun k k0 k8 => i_some rfl (i_nil (i_words (by omega) (by omega) fun ws wl wn wv => i_lst (i_nil ?_)))))))))))))))))
  have hw : ws ≠ [] := fun z => by subst z; have : ((0 : Nat) : Int) = 1 + k := wl; omega
  have hl : ws.length ≤ 9 := by omega
  dsimp only
  refine i_seq (i_asg (i_fn (i_cons (i_varS rfl (i_cons (i_lst (i_cons (i_c (i_cons (i_c (i_cons (i_c (i_nil (i_nil (i_pick rfl (fun z => by cases z) (show (3 : Nat) ≤ LIM by decide) fun r hr => ?_)))))))))))))))
  obtain ⟨pl, rfl, p1, p2⟩ : ∃ n : Int, r = .int n ∧ 2 ≤ n ∧ n ≤ 1000 := by
    simp only [List.mem_cons, List.not_mem_nil, or_false] at hr
    rcases hr with rfl | rfl | rfl <;> exact ⟨_, rfl, by decide, by decide⟩
  show dSeq (dForN 6 (dRng1 (dCons (dC (.int 6)) (dNil))) (dName 6) (d_law_rest_b1)) (dFrz 4 (dFor (dIter (dVarS 4)) (dName 7) (d_law_rest_b3))) N (lS x2 (lF ws) (some (.ow (.lst (([] : List Fa).map Fa.d)))) (some (.sh (.int pl))) x6 x7 x8 x9)
  refine i_seq (i_forN (i_rng (i_cons (i_c (i_nil (i_r1 ⟨by decide, by decide, by decide, ?_⟩))))))
  refine for_inv (fun k δ => ∃ (fs : List Fa) (x6 : Option Sl), fs.length = 2 * k ∧ δ = lS x2 (lF ws) (some (.ow (.lst (fs.map Fa.d)))) (some (.sh (.int pl))) x6 x7 x8 x9) _ 0 _ ⟨[], _, rfl, rfl⟩ ?_ (name_mono 6) ?_
  · rintro j x δ hj ⟨fs, x6, e, rfl⟩ M hr hnx hct hbk
    have hj6 : j < 6 := (List.getElem?_eq_some_iff.mp hj).1
    refine rest_b1 M ws pl fs x2 (some (.sh x)) x7 x8 x9 hw hl p1 p2 (by omega) fun a b => hnx _ ⟨fs ++ [a, b], _, ?_, rfl⟩
    rw [List.length_append]
    show fs.length + 2 = _
    omega
  · rintro δ ⟨fs, x6, e, rfl⟩
    show dFrz 4 (dFor (dIter (dVarS 4)) (dName 7) (d_law_rest_b3)) N (lS x2 (lF ws) (some (.ow (.lst (fs.map Fa.d)))) (some (.sh (.int pl))) x6 x7 x8 x9)
    refine i_frz ?_
    show dFor (dIter (dVarS 4)) (dName 7) (d_law_rest_b3) N (lS x2 (lF ws) (some (.sh (.lst (fs.map Fa.d)))) (some (.sh (.int pl))) x6 x7 x8 x9)
    refine i_for (i_iter (i_varS rfl (i_sm rfl ?_)))
    refine for_inv (fun _ δ => ∃ x7 x8 x9, δ = lS x2 (lF ws) (some (.sh (.lst (fs.map Fa.d)))) (some (.sh (.int pl))) x6 x7 x8 x9) _ 0 _ ⟨_, _, _, rfl⟩ ?_ (name_mono 7) ?_
    · rintro j x δ hj ⟨x7, x8, x9, rfl⟩ M hr hnx hct hbk
      obtain ⟨a, _, rfl⟩ := List.mem_map.mp (List.mem_of_getElem? hj)
      exact rest_b3 M fs _ _ _ _ _ _ a fun x8 x9 => hnx _ ⟨_, _, _, rfl⟩
    · rintro δ ⟨x7, x8, x9, rfl⟩
      exact h _ _ _ _ _ _ _
theorem dd_law_rest : d_law_rest { nx := fun _ => False, rt := fun x => x = .bl true } (none :: some (.sh .st) :: List.replicate 8 none) := by
  unfold d_law_rest
  show dSeq (dForN 3 (dRng1 (dCons (dC (.int 3)) (dNil))) (dName 2) (d_law_rest_b4)) (dRet (dC (.bl true))) _ (lS none none none none none none none none)
  refine i_seq (i_forN (i_rng (i_cons (i_c (i_nil (i_r1 ⟨by decide, by decide, by decide, ?_⟩))))))
  refine for_inv (fun _ δ => ∃ x2 x3 x4 x5 x6 x7 x8 x9, δ = lS x2 x3 x4 x5 x6 x7 x8 x9) _ 0 _ ⟨_, _, _, _, _, _, _, _, rfl⟩ ?_ (name_mono 2) ?_
  · rintro j x δ hj ⟨x2, x3, x4, x5, x6, x7, x8, x9, rfl⟩ M hr hnx hct hbk
    exact rest_b4 M (some (.sh x)) x3 x4 x5 x6 x7 x8 x9 fun x3 x4 x5 x6 x7 x8 x9 => hnx _ ⟨_, _, _, _, _, _, _, _, rfl⟩
  · rintro δ ⟨x2, x3, x4, x5, x6, x7, x8, x9, rfl⟩
    show D.bl true = D.bl true
    rfl
end GP

set_option Elab.async false
set_option linter.all false
set_option maxRecDepth 100000
set_option maxHeartbeats 4000000
namespace GP
open PySem PySem.Spec PyProof.Rows L2
def topS (i : Nat) : Stmt := PySem.Challenge.pw_hearpurse_k21_conflicts_of_facts.main.body.getD i (.Pass ⟨0, 0, 0, 0⟩)
abbrev st_law_begun : Stmt := topS 7
abbrev N_law_begun : List Str := ["_law_script", "_law_great", "_law_cell"]
abbrev ps_law_begun : List Str := ["_law_script"]
theorem fs_law_begun : FnScope N_law_begun ps_law_begun (defScope st_law_begun) := ⟨rfl, rfl, rfl, by decide +kernel, rfl, by decide +kernel, by decide +kernel⟩
abbrev st_law_mixed : Stmt := topS 8
abbrev N_law_mixed : List Str := ["_law_state", "_law_found", "_law_prime", "_law_blend", "_law_cell"]
abbrev ps_law_mixed : List Str := ["_law_state"]
theorem fs_law_mixed : FnScope N_law_mixed ps_law_mixed (defScope st_law_mixed) := ⟨rfl, rfl, rfl, by decide +kernel, rfl, by decide +kernel, by decide +kernel⟩
abbrev st_law_take : Stmt := topS 9
abbrev N_law_take : List Str := ["_law_state", "_law_size", "_law_found"]
abbrev ps_law_take : List Str := ["_law_state", "_law_size"]
theorem fs_law_take : FnScope N_law_take ps_law_take (defScope st_law_take) := ⟨rfl, rfl, rfl, by decide +kernel, rfl, by decide +kernel, by decide +kernel⟩
abbrev st_law_pick : Stmt := topS 10
abbrev N_law_pick : List Str := ["_law_state", "_law_some"]
abbrev ps_law_pick : List Str := ["_law_state", "_law_some"]
theorem fs_law_pick : FnScope N_law_pick ps_law_pick (defScope st_law_pick) := ⟨rfl, rfl, rfl, by decide +kernel, rfl, by decide +kernel, by decide +kernel⟩
abbrev st_law_words : Stmt := topS 11
abbrev N_law_words : List Str := ["_law_state", "_law_size", "_law_own", "_law_letters", "_law_found", "_law_k", "_law_word", "_law_j", "_law_letter", "_law_spare"]
abbrev ps_law_words : List Str := ["_law_state", "_law_size"]
theorem fs_law_words : FnScope N_law_words ps_law_words (defScope st_law_words) := ⟨rfl, rfl, rfl, by decide +kernel, rfl, by decide +kernel, by decide +kernel⟩
abbrev st_law_fact : Stmt := topS 12
abbrev N_law_fact : List Str := ["_law_state", "_law_names", "_law_places", "_law_marks", "_law_way", "_law_spot", "_law_number", "_law_later"]
abbrev ps_law_fact : List Str := ["_law_state", "_law_names", "_law_places", "_law_marks"]
theorem fs_law_fact : FnScope N_law_fact ps_law_fact (defScope st_law_fact) := ⟨rfl, rfl, rfl, by decide +kernel, rfl, by decide +kernel, by decide +kernel⟩
abbrev st_law_beside : Stmt := topS 14
abbrev N_law_beside : List Str := ["_law_state", "_law_names", "_law_thing", "_law_number", "_law_near"]
abbrev ps_law_beside : List Str := ["_law_state", "_law_names", "_law_thing"]
theorem fs_law_beside : FnScope N_law_beside ps_law_beside (defScope st_law_beside) := ⟨rfl, rfl, rfl, by decide +kernel, rfl, by decide +kernel, by decide +kernel⟩
abbrev st_law_conflicts : Stmt := topS 13
abbrev N_law_conflicts : List Str := ["_law_left", "_law_right", "_law_first", "_law_second"]
abbrev ps_law_conflicts : List Str := ["_law_left", "_law_right"]
theorem fs_law_conflicts : FnScope N_law_conflicts ps_law_conflicts (defScope st_law_conflicts) := ⟨rfl, rfl, rfl, by decide +kernel, rfl, by decide +kernel, by decide +kernel⟩
abbrev st_rows_presupposed : Stmt := topS 3
abbrev N_rows_presupposed : List Str := ["fact", "word"]
abbrev ps_rows_presupposed : List Str := ["fact"]
theorem fs_rows_presupposed : FnScope N_rows_presupposed ps_rows_presupposed (defScope st_rows_presupposed) := ⟨rfl, rfl, rfl, by decide +kernel, rfl, by decide +kernel, by decide +kernel⟩
abbrev st_does_deny : Stmt := topS 4
abbrev N_does_deny : List Str := ["row", "fact", "other"]
abbrev ps_does_deny : List Str := ["row", "fact"]
theorem fs_does_deny : FnScope N_does_deny ps_does_deny (defScope st_does_deny) := ⟨rfl, rfl, rfl, by decide +kernel, rfl, by decide +kernel, by decide +kernel⟩
abbrev st_do_conflict : Stmt := topS 5
abbrev N_do_conflict : List Str := ["one", "other"]
abbrev ps_do_conflict : List Str := ["one", "other"]
theorem fs_do_conflict : FnScope N_do_conflict ps_do_conflict (defScope st_do_conflict) := ⟨rfl, rfl, rfl, by decide +kernel, rfl, by decide +kernel, by decide +kernel⟩
abbrev st_law : Stmt := topS 15
abbrev N_law : List Str := ["_law_script", "_law_state", "_law_turn", "_law_names", "_law_some", "_law_places", "_law_k", "_law_left", "_law_right", "_law_due"]
abbrev ps_law : List Str := ["_law_script"]
theorem fs_law : FnScope N_law ps_law (defScope st_law) := ⟨rfl, rfl, rfl, by decide +kernel, rfl, by decide +kernel, by decide +kernel⟩
def t_law (Γ : Cn) : TS := tSeq (tAsg (tFn (sp_law_begun Γ) E0 (tCons (tVar 0) (tNil))) (gName 1)) (t_law_rest Γ)
structure Blt (mg : Str → Option Value) : Prop where
  n_len : mg "len" = none
  n_list : mg "list" = none
  n_range : mg "range" = none
  n_repr : mg "repr" = none
structure TxC (Γ : Cn) (mg : Str → Option Value) : Prop where
  m_ROWS : ∃ u, mg "ROWS" = some u ∧ RelV (Γ.con "ROWS") u
  m_ANSWERS : ∃ u, mg "ANSWERS" = some u ∧ RelV (Γ.con "ANSWERS") u
section
variable {P : Program} {w : World} {Γ : Cn} {mg : Str → Option Value} {base : Heap}
theorem ok_law_begun (B : Blt mg) (T : TxC Γ mg) (C : Kc Γ)  {a : Addr} {fd : FuncData} (F : Fun Γ.K "_law_begun" "_law_begun" st_law_begun a fd) : FnG P w Γ.K mg base CX0 1 a fd ps_law_begun (sp_law_begun Γ) := by
  refine fnG (k := 0) (t := t_law_begun Γ) F fs_law_begun (fun _ _ _ _ h => h.1) (pure_begun) fun cdv A outer s H E hr => ?_
  have nd := fs_law_begun.nd
  exact pss_cons (ps_setLc (i := 1) (own := [("_law_cell", 2)]) rfl nd rfl rfl (sw_true rfl rfl rfl (by decide +kernel)) (pi_gen (pv 0)) (blkOk_by (sc := defScope st_law_begun)
   (own := [("_law_cell", 2)]) (N := N_law_begun) (by decide +kernel)) (fun _ _ _ _ _ => pg_name (i := 2) nd rfl (Or.inl rfl)) (fun _ _ _ _ _ => pts_one (pt_cmpR g_ge (pv
   2) (pe_op g_pow (pe_int) (pe_int)) (nomark _))) (fun _ _ _ _ _ => pe_op g_sub (pv 2) (pe_op g_pow (pe_int) (pe_int)))) (pss_one (ps_ret (pe_disp (pps_cons (pe_str) (pv
   1) (pps_cons (pe_str) (pe_callTy (g_list rfl) rfl B.n_list (by decide +kernel) (pa_cons (pv 0) (pa_nil))) (pps_cons (pe_str) (pe_int) (pps_cons (pe_str) (pe_int)
   (pps_nil))))) (by rfl) (by rfl) (fun z => by cases z) (by decide))))
theorem ok_law_mixed (B : Blt mg) (T : TxC Γ mg) (C : Kc Γ)  {a : Addr} {fd : FuncData} (F : Fun Γ.K "_law_mixed" "_law_mixed" st_law_mixed a fd) : FnG P w Γ.K mg base CX0 1 a fd ps_law_mixed (sp_law_mixed Γ) := by
  refine fnG (k := 0) (t := t_law_mixed Γ) F fs_law_mixed (fun _ _ _ _ h => h.1) (pure_mixed) fun cdv A outer s H E hr => ?_
  have nd := fs_law_mixed.nd
  exact pss_cons (ps_asg (pe_op g_add (pe_ix (g_ix hr.rm) (pv 0) (pe_str) (fun _ _ => rfl)) (pe_int)) (pg_sub (pv 0) (pe_str) (g_set hr.un))) (pss_cons (ps_set (i := 1) nd rfl
   (Or.inl rfl) (pe_int)) (pss_cons (ps_for PassesOwn.never rfl (pi_gen (pe_lst (pa_cons (pe_int) (pa_cons (pe_int) (pa_cons (pe_int) (pa_cons (pe_int) (pa_cons (pe_int)
   (pa_cons (pe_int) (pa_nil))))))))) (pg_name (i := 2) nd rfl (Or.inl rfl)) (pss_cons (ps_set (i := 3) nd rfl (Or.inl rfl) (pe_op g_add (pe_op g_mul (pe_int) (pe_ix
   (g_ix hr.rm) (pv 0) (pe_str) (fun _ _ => rfl))) (pe_op g_fdiv (pv 2) (pe_int)))) (pss_cons (ps_for PassesOwn.never rfl (pi_gen (pe_ix (g_ix hr.rm) (pv 0) (pe_str) (fun
   _ _ => rfl))) (pg_name (i := 4) nd rfl (Or.inl rfl)) (pss_one (ps_set (i := 3) nd rfl (Or.inl rfl) (pe_op g_mod (pe_op g_add (pe_op g_mul (pv 3) (pe_int)) (pv 4)) (pv
   2))))) (pss_one (ps_set (i := 1) nd rfl (Or.inl rfl) (pe_op g_add (pe_op g_mul (pv 1) (pe_int)) (pe_op g_mod (pe_op g_pow (pv 3) (pe_int)) (pv 2)))))))) (pss_one
   (ps_ret (pv 1)))))
theorem ok_law_take (B : Blt mg) (T : TxC Γ mg) (C : Kc Γ) (c_law_mixed : Cal P w Γ.K mg base CX0 "_law_mixed" 1 ps_law_mixed (sp_law_mixed Γ)) {a : Addr} {fd : FuncData} (F : Fun Γ.K "_law_take" "_law_take" st_law_take a fd) : FnG P w Γ.K mg base CX0 2 a fd ps_law_take (sp_law_take Γ) := by
  refine fnG (k := 1) (t := t_law_take Γ) F fs_law_take (fun _ _ _ _ h => h.1) (pure_take) fun cdv A outer s H E hr => ?_
  have nd := fs_law_take.nd
  exact pss_cons (ps_if (pt_cmpR (g_eq hr.rm) (pe_ix (g_ix hr.rm) (pv 0) (pe_str) (fun _ _ => rfl)) (pe_int) (nomark _)) (pss_one (ps_asg (pe_ifExp (pt_cmpR (g_ne hr.rm) (pe_ix
   (g_ix hr.rm) (pv 0) (pe_str) (fun _ _ => rfl)) (pe_lst (pa_nil)) (nomark _)) (pe_bm PySem.F.plainAttrs_list PySem.F.slot_list_pop PySem.F.type_list_pop mt_popAt (pe_ix
   (g_ix hr.rm) (pv 0) (pe_str) (fun _ _ => rfl)) (pa_cons (pe_int) (pa_nil))) (pe_fn c_law_mixed hr (by decide) rfl pass0 (pa_cons (pv 0) (pa_nil)))) (pg_sub (pv 0)
   (pe_str) (g_set hr.un)))) (pss_nil)) (pss_cons (ps_set (i := 2) nd rfl (Or.inl rfl) (pe_op g_mod (pe_ix (g_ix hr.rm) (pv 0) (pe_str) (fun _ _ => rfl)) (pv 1)))
   (pss_cons (ps_asg (pe_op g_fdiv (pe_ix (g_ix hr.rm) (pv 0) (pe_str) (fun _ _ => rfl)) (pv 1)) (pg_sub (pv 0) (pe_str) (g_set hr.un))) (pss_one (ps_ret (pv 2)))))
theorem ok_law_pick (B : Blt mg) (T : TxC Γ mg) (C : Kc Γ) (c_law_take : Cal P w Γ.K mg base CX0 "_law_take" 2 ps_law_take (sp_law_take Γ)) {a : Addr} {fd : FuncData} (F : Fun Γ.K "_law_pick" "_law_pick" st_law_pick a fd) : FnG P w Γ.K mg base CX0 3 a fd ps_law_pick (sp_law_pick Γ) := by
  refine fnG (k := 2) (t := t_law_pick Γ) F fs_law_pick (fun _ _ _ _ h => h.1) (pure_pick) fun cdv A outer s H E hr => ?_
  have nd := fs_law_pick.nd
  exact pss_one (ps_ret (pe_ix (g_ix hr.rm) (pv 1) (pe_fn c_law_take hr (by decide) rfl pass0 (pa_cons (pv 0) (pa_cons (pe_callB g_len rfl B.n_len (by decide +kernel) (pa_cons
   (pv 1) (pa_nil))) (pa_nil)))) (fun _ _ => rfl)))
theorem ok_law_words (B : Blt mg) (T : TxC Γ mg) (C : Kc Γ) (c_law_pick : Cal P w Γ.K mg base CX0 "_law_pick" 3 ps_law_pick (sp_law_pick Γ)) (c_law_take : Cal P w Γ.K mg base CX0 "_law_take" 2 ps_law_take (sp_law_take Γ)) {a : Addr} {fd : FuncData} (F : Fun Γ.K "_law_words" "_law_words" st_law_words a fd) : FnG P w Γ.K mg base CX0 4 a fd ps_law_words (sp_law_words Γ) := by
  refine fnG (k := 3) (t := t_law_words Γ) F fs_law_words (fun _ _ _ _ h => h.1) (pure_words N_law_words rfl) fun cdv A outer s H E hr => ?_
  have nd := fs_law_words.nd
  exact pss_cons (ps_set (i := 2) nd rfl (Or.inl rfl) (pe_splitG (pe_str) (pe_str))) (pss_cons (ps_asg (pe_tup (pa_cons (pe_str) (pa_cons (pe_lst (pa_nil)) (pa_nil)))) (pg_tup
   rfl (pgs_cons (pg_name (i := 3) nd rfl (Or.inr rfl)) (pgs_cons (pg_name (i := 4) nd rfl (Or.inr rfl)) (pgs_nil))))) (pss_cons (ps_for PassesOwn.never rfl (pi_range1
   rfl B.n_range (pa_cons (pv 1) (pa_nil))) (pg_name (i := 5) nd rfl (Or.inl rfl)) (pss_cons (ps_set (i := 6) nd rfl (Or.inr rfl) (pe_fn c_law_pick hr (by decide) rfl
   pass0 (pa_cons (pv 0) (pa_cons (pv 2) (pa_nil))))) (pss_cons (ps_if (pt_cmpR g_gt (pe_fn c_law_take hr (by decide) rfl pass0 (pa_cons (pv 0) (pa_cons (pe_int)
   (pa_nil)))) (pe_int) (nomark _)) (pss_one (ps_set (i := 6) nd rfl (Or.inr rfl) (pe_joinG (pe_str) (pe_lc (own := [("_law_j", 7)]) rfl nd (pi_range1 rfl B.n_range
   (pa_cons (pe_fn c_law_pick hr (by decide) rfl pass0 (pa_cons (pv 0) (pa_cons (pe_lst (pa_cons (pe_int) (pa_cons (pe_int) (pa_cons (pe_int) (pa_cons (pe_int)
   (pa_nil)))))) (pa_nil)))) (pa_nil))) (blkOk_by (sc := defScope st_law_words) (own := [("_law_j", 7)]) (N := N_law_words) (by decide +kernel)) (fun _ _ _ _ _ => pg_name
   (i := 7) nd rfl (Or.inl rfl)) (fun _ _ _ _ _ => pts_nil) (fun _ _ _ _ _ => pe_fn c_law_pick hr (by decide) rfl pass0 (pa_cons (pv 0) (pa_cons (pv 3) (pa_nil))))))))
   (pss_nil)) (pss_cons (ps_if (pt_cmpR (g_in hr.rm) (pv 6) (pv 4) rfl) (pss_one (ps_set (i := 6) nd rfl (Or.inr rfl) (pe_ix (g_ix hr.rm) (pe_lc (own := [("_law_spare",
   9)]) rfl nd (pi_gen (pe_lc (own := [("_law_letter", 8)]) rfl nd (pi_gen (pv 3)) (blkOk_by (sc := defScope st_law_words) (own := [("_law_letter", 8)]) (N :=
   N_law_words) (by decide +kernel)) (fun _ _ _ _ _ => pg_name (i := 8) nd rfl (Or.inl rfl)) (fun _ _ _ _ _ => pts_nil) (fun _ _ _ _ _ => pe_op g_add (pe_op g_add
   (pe_slice g_sl (pv 6) (po_none) (po_some (pe_int))) (pe_str)) (pv 8)))) (blkOk_by (sc := defScope st_law_words) (own := [("_law_spare", 9)]) (N := N_law_words)
   (by decide +kernel)) (fun _ _ _ _ _ => pg_name (i := 9) nd rfl (Or.inl rfl)) (fun _ _ _ _ _ => pts_one (pt_cmpR (g_notIn hr.rm) (pv 9) (pv 4) rfl)) (fun _ _ _ _ _ =>
   pv 9)) (pe_int) (fun _ _ => rfl)))) (pss_nil)) (pss_one (ps_expr (pe_bm PySem.F.plainAttrs_list PySem.F.slot_list_append PySem.F.type_list_append mt_append (pv 4)
   (pa_cons (pv 6) pa_nil)))))))) (pss_one (ps_ret (pv 4)))))
theorem ok_law_fact (B : Blt mg) (T : TxC Γ mg) (C : Kc Γ) (c_law_take : Cal P w Γ.K mg base CX0 "_law_take" 2 ps_law_take (sp_law_take Γ)) (c_law_pick : Cal P w Γ.K mg base CX0 "_law_pick" 3 ps_law_pick (sp_law_pick Γ)) {a : Addr} {fd : FuncData} (F : Fun Γ.K "_law_fact" "_law_fact" st_law_fact a fd) : FnG P w Γ.K mg base CX0 4 a fd ps_law_fact (sp_law_fact Γ) := by
  refine fnG (k := 3) (t := t_law_fact Γ) F fs_law_fact (fun _ _ _ _ h => h.1) (pure_of (N := N_law_fact) (fun L => snd_law_fact) (by decide) dd_law_fact) fun cdv A outer s H E hr => ?_
  have nd := fs_law_fact.nd
  exact pss_cons (ps_par (i := 4) (j := 5) rfl nd rfl rfl (by decide) rfl rfl (pa_cons (pe_fn c_law_take hr (by decide) rfl pass0 (pa_cons (pv 0) (pa_cons (pe_int) (pa_nil))))
   (pa_cons (pe_op g_add (pe_int) (pe_fn c_law_take hr (by decide) rfl pass0 (pa_cons (pv 0) (pa_cons (pv 2) (pa_nil))))) (pa_nil))) (by rfl)) (pss_cons (ps_set (i := 6)
   nd rfl (Or.inl rfl) (pe_fn c_law_pick hr (by decide) rfl pass0 (pa_cons (pv 0) (pa_cons (pe_lst (pa_cons (pe_int) (pa_cons (pe_int) (pa_cons (pe_int) (pa_cons (pe_op
   g_add (pe_int) (pe_fn c_law_take hr (by decide) rfl pass0 (pa_cons (pv 0) (pa_cons (pe_int) (pa_nil))))) (pa_cons (pe_op g_add (pe_int) (pe_fn c_law_take hr
   (by decide) rfl pass0 (pa_cons (pv 0) (pa_cons (pe_op g_pow (pe_int) (pe_int)) (pa_nil))))) (pa_cons (pe_op g_pow (pe_int) (pe_int)) (pa_nil)))))))) (pa_nil)))))
   (pss_cons (ps_if (pt_cmpR g_lt (pv 4) (pe_int) (nomark _)) (pss_one (ps_ret (pe_tup (pa_cons (pe_ix (g_ix hr.rm) (pe_lst (pa_cons (pe_str) (pa_cons (pe_str)
   (pa_nil)))) (pv 4) (fun _ _ => rfl)) (pa_cons (pv 5) (pa_cons (pe_fn c_law_pick hr (by decide) rfl pass0 (pa_cons (pv 0) (pa_cons (pv 1) (pa_nil)))) (pa_cons (pv 6)
   (pa_nil)))))))) (pss_nil)) (pss_cons (ps_if (pt_cmpR g_lt (pv 4) (pe_int) (nomark _)) (pss_one (ps_ret (pe_tup (pa_cons (pe_str) (pa_cons (pe_op g_add (pe_int) (pe_fn
   c_law_take hr (by decide) rfl pass0 (pa_cons (pv 0) (pa_cons (pv 3) (pa_nil))))) (pa_cons (pe_fn c_law_pick hr (by decide) rfl pass0 (pa_cons (pv 0) (pa_cons (pv 1)
   (pa_nil)))) (pa_cons (pv 6) (pa_nil)))))))) (pss_nil)) (pss_cons (ps_if (pt_cmpR (g_eq hr.rm) (pv 4) (pe_int) (nomark _)) (pss_one (ps_ret (pe_tup (pa_cons (pe_str)
   (pa_cons (pv 5) (pa_cons (pv 6) (pa_nil))))))) (pss_nil)) (pss_cons (ps_if (pt_cmpR (g_eq hr.rm) (pv 4) (pe_int) (nomark _)) (pss_one (ps_ret (pe_tup (pa_cons (pe_str)
   (pa_cons (pv 5) (pa_nil)))))) (pss_nil)) (pss_cons (ps_set (i := 7) nd rfl (Or.inl rfl) (pe_op g_add (pe_int) (pe_fn c_law_take hr (by decide) rfl pass0 (pa_cons (pv
   0) (pa_cons (pe_op g_sub (pv 2) (pe_int)) (pa_nil)))))) (pss_one (ps_ret (pe_tup (pa_cons (pe_ix (g_ix hr.rm) (pe_lst (pa_cons (pe_str) (pa_cons (pe_str) (pa_nil))))
   (pe_op g_sub (pv 4) (pe_int)) (fun _ _ => rfl)) (pa_cons (pv 7) (pa_cons (pe_op g_add (pe_int) (pe_fn c_law_take hr (by decide) rfl pass0 (pa_cons (pv 0) (pa_cons
   (pe_op g_sub (pv 7) (pe_int)) (pa_nil))))) (pa_nil)))))))))))))
theorem ok_law_beside (B : Blt mg) (T : TxC Γ mg) (C : Kc Γ) (c_law_take : Cal P w Γ.K mg base CX0 "_law_take" 2 ps_law_take (sp_law_take Γ)) (c_law_pick : Cal P w Γ.K mg base CX0 "_law_pick" 3 ps_law_pick (sp_law_pick Γ)) {a : Addr} {fd : FuncData} (F : Fun Γ.K "_law_beside" "_law_beside" st_law_beside a fd) : FnG P w Γ.K mg base CX0 4 a fd ps_law_beside (sp_law_beside Γ) := by
  refine fnG (k := 3) (t := t_law_beside Γ) F fs_law_beside (fun _ _ _ _ h => h.1) (pure_of (N := N_law_beside) (fun L => snd_law_beside) (by decide) dd_law_beside) fun cdv A outer s H E hr => ?_
  have nd := fs_law_beside.nd
  exact pss_cons (ps_set (i := 3) nd rfl (Or.inl rfl) (pe_op g_add (pe_int) (pe_fn c_law_take hr (by decide) rfl pass0 (pa_cons (pv 0) (pa_cons (pe_int) (pa_nil)))))) (pss_cons
   (ps_set (i := 4) nd rfl (Or.inl rfl) (pe_lst (pa_cons (pe_tup (pa_cons (pe_str) (pa_cons (pe_ix (g_ix hr.rm) (pv 2) (pe_int) (fun _ _ => rfl)) (pa_cons (pe_ix (g_ix
   hr.rm) (pv 1) (pe_int) (fun _ _ => rfl)) (pa_cons (pv 3) (pa_nil)))))) (pa_cons (pe_tup (pa_cons (pe_str) (pa_cons (pe_ix (g_ix hr.rm) (pv 2) (pe_int) (fun _ _ =>
   rfl)) (pa_cons (pe_ix (g_ix hr.rm) (pv 1) (pe_un g_neg (pe_int)) (fun _ _ => rfl)) (pa_cons (pv 3) (pa_nil)))))) (pa_nil))))) (pss_cons (ps_if (pt_cmpR (g_eq hr.rm)
   (pe_ix (g_ix hr.rm) (pv 2) (pe_int) (fun _ _ => rfl)) (pe_str) (nomark _)) (pss_one (ps_ret (pe_tup (pa_cons (pe_str) (pa_cons (pe_ix (g_ix hr.rm) (pv 2) (pe_int) (fun
   _ _ => rfl)) (pa_cons (pe_ix (g_ix hr.rm) (pv 1) (pe_int) (fun _ _ => rfl)) (pa_cons (pv 3) (pa_nil)))))))) (pss_nil)) (pss_cons (ps_if (pt_cmpR (g_in hr.rm) (pe_ix
   (g_ix hr.rm) (pv 2) (pe_int) (fun _ _ => rfl)) (pe_tup (pa_cons (pe_str) (pa_cons (pe_str) (pa_nil)))) rfl) (pss_cons (ps_set (i := 4) nd rfl (Or.inl rfl) (pe_op g_add
   (pv 4) (pe_lst (pa_cons (pe_tup (pa_cons (pe_str) (pa_cons (pe_ix (g_ix hr.rm) (pv 2) (pe_int) (fun _ _ => rfl)) (pa_cons (pe_ix (g_ix hr.rm) (pv 1) (pe_int) (fun _ _
   => rfl)) (pa_cons (pv 3) (pa_nil)))))) (pa_cons (pe_tup (pa_cons (pe_str) (pa_cons (pe_ix (g_ix hr.rm) (pv 2) (pe_int) (fun _ _ => rfl)) (pa_cons (pe_ix (g_ix hr.rm)
   (pv 1) (pe_int) (fun _ _ => rfl)) (pa_cons (pv 3) (pa_nil)))))) (pa_nil)))))) (pss_one (ps_set (i := 4) nd rfl (Or.inl rfl) (pe_op g_add (pv 4) (pe_lst (pa_cons (pe_op
   g_add (pe_tup (pa_cons (pe_str) (pa_nil))) (pe_slice g_sl (pv 2) (po_some (pe_int)) (po_none))) (pa_cons (pe_op g_add (pe_tup (pa_cons (pe_str) (pa_nil))) (pe_slice
   g_sl (pv 2) (po_some (pe_int)) (po_none))) (pa_cons (pe_tup (pa_cons (pe_str) (pa_cons (pe_ix (g_ix hr.rm) (pv 2) (pe_int) (fun _ _ => rfl)) (pa_cons (pv 3)
   (pa_nil))))) (pa_nil))))))))) (pss_nil)) (pss_cons (ps_if (pt_cmpR g_gt (pe_ix (g_ix hr.rm) (pv 2) (pe_int) (fun _ _ => rfl)) (pe_int) (nomark _)) (pss_one (ps_set (i
   := 4) nd rfl (Or.inl rfl) (pe_op g_add (pv 4) (pe_lst (pa_cons (pe_tup (pa_cons (pe_str) (pa_cons (pe_ix (g_ix hr.rm) (pv 2) (pe_int) (fun _ _ => rfl)) (pa_cons
   (pe_int) (pa_nil))))) (pa_cons (pe_tup (pa_cons (pe_str) (pa_cons (pe_ix (g_ix hr.rm) (pv 2) (pe_int) (fun _ _ => rfl)) (pa_cons (pe_op g_sub (pe_ix (g_ix hr.rm) (pv
   2) (pe_int) (fun _ _ => rfl)) (pe_int)) (pa_nil))))) (pa_nil))))))) (pss_nil)) (pss_cons (ps_if (pt_cmpR g_lt (pe_ix (g_ix hr.rm) (pv 2) (pe_int) (fun _ _ => rfl))
   (pe_int) (nomark _)) (pss_one (ps_set (i := 4) nd rfl (Or.inl rfl) (pe_op g_add (pv 4) (pe_lst (pa_cons (pe_tup (pa_cons (pe_str) (pa_cons (pe_op g_add (pe_ix (g_ix
   hr.rm) (pv 2) (pe_int) (fun _ _ => rfl)) (pe_int)) (pa_cons (pe_ix (g_ix hr.rm) (pv 2) (pe_int) (fun _ _ => rfl)) (pa_nil))))) (pa_cons (pe_tup (pa_cons (pe_str)
   (pa_cons (pe_int) (pa_cons (pe_ix (g_ix hr.rm) (pv 2) (pe_int) (fun _ _ => rfl)) (pa_nil))))) (pa_nil))))))) (pss_nil)) (pss_one (ps_ret (pe_fn c_law_pick hr
   (by decide) rfl pass0 (pa_cons (pv 0) (pa_cons (pe_op g_add (pv 4) (pe_lst (pa_cons (pe_tup (pa_cons (pe_str) (pa_cons (pe_ix (g_ix hr.rm) (pv 2) (pe_int) (fun _ _ =>
   rfl)) (pa_cons (pv 3) (pa_nil))))) (pa_cons (pe_tup (pa_cons (pe_str) (pa_cons (pe_ix (g_ix hr.rm) (pv 2) (pe_int) (fun _ _ => rfl)) (pa_nil)))) (pa_nil)))))
   (pa_nil)))))))))))
theorem ok_law_conflicts (B : Blt mg) (T : TxC Γ mg) (C : Kc Γ)  {a : Addr} {fd : FuncData} (F : Fun Γ.K "_law_conflicts" "_law_conflicts" st_law_conflicts a fd) : FnG P w Γ.K mg base CX0 1 a fd ps_law_conflicts (sp_law_conflicts Γ) := by
  refine fnG (k := 0) (t := t_law_conflicts Γ) F fs_law_conflicts (fun _ _ _ _ h => h.1) (pure_of (N := N_law_conflicts) (fun L => snd_law_conflicts) (by decide) dd_law_conflicts) fun cdv A outer s H E hr => ?_
  have nd := fs_law_conflicts.nd
  exact pss_cons (ps_for PassesOwn.never rfl (pi_gen (pe_lst (pa_cons (pe_tup (pa_cons (pv 0) (pa_cons (pv 1) (pa_nil)))) (pa_cons (pe_tup (pa_cons (pv 1) (pa_cons (pv 0)
   (pa_nil)))) (pa_nil))))) (pg_tup rfl (pgs_cons (pg_name (i := 2) nd rfl (Or.inl rfl)) (pgs_cons (pg_name (i := 3) nd rfl (Or.inl rfl)) (pgs_nil)))) (pss_cons (ps_if
   (PW.pt (pw_and (pt_cmpR (g_in hr.rm) (pe_ix (g_ix hr.rm) (pv 2) (pe_int) (fun _ _ => rfl)) (pe_tup (pa_cons (pe_str) (pa_cons (pe_str) (pa_nil)))) rfl) (pw_and1
   (pt_cmpR (g_in hr.rm) (pe_ix (g_ix hr.rm) (pv 3) (pe_int) (fun _ _ => rfl)) (pe_tup (pa_cons (pe_str) (pa_cons (pe_str) (pa_nil)))) rfl)))) (pss_one (ps_ret (L2.pe_and
   (pe_cmpR (g_eq hr.rm) (pe_ix (g_ix hr.rm) (pv 2) (pe_int) (fun _ _ => rfl)) (pe_ix (g_ix hr.rm) (pv 3) (pe_int) (fun _ _ => rfl)) (nomark _)) (pe_one (pe_cmpR (g_ne
   hr.rm) (pv 2) (pv 3) (nomark _)))))) (pss_nil)) (pss_cons (ps_if (PW.pt (pw_and (pt_cmpR (g_eq hr.rm) (pe_ix (g_ix hr.rm) (pv 2) (pe_int) (fun _ _ => rfl)) (pe_str)
   (nomark _)) (pw_and1 (pt_cmpR (g_eq hr.rm) (pe_ix (g_ix hr.rm) (pv 3) (pe_int) (fun _ _ => rfl)) (pe_str) (nomark _))))) (pss_one (ps_ret (L2.pe_and (pe_cmpR (g_eq
   hr.rm) (pe_ix (g_ix hr.rm) (pv 2) (pe_int) (fun _ _ => rfl)) (pe_ix (g_ix hr.rm) (pv 3) (pe_int) (fun _ _ => rfl)) (nomark _)) (pe_one (pe_cmpR (g_ne hr.rm) (pv 2) (pv
   3) (nomark _)))))) (pss_nil)) (pss_cons (ps_if (PW.pt (pw_and (pt_cmpR (g_eq hr.rm) (pe_ix (g_ix hr.rm) (pv 2) (pe_int) (fun _ _ => rfl)) (pe_str) (nomark _)) (pw_and
   (pt_cmpR (g_eq hr.rm) (pe_ix (g_ix hr.rm) (pv 3) (pe_int) (fun _ _ => rfl)) (pe_str) (nomark _)) (pw_and1 (pt_cmpR (g_eq hr.rm) (pe_slice g_sl (pv 2) (po_some
   (pe_int)) (po_none)) (pe_slice g_sl (pv 3) (po_some (pe_int)) (po_none)) (nomark _)))))) (pss_one (ps_ret (pe_bl))) (pss_nil)) (pss_cons (ps_if (PW.pt (pw_and (pt_cmpR
   (g_eq hr.rm) (pe_ix (g_ix hr.rm) (pv 2) (pe_int) (fun _ _ => rfl)) (pe_str) (nomark _)) (pw_and (pt_cmpR (g_eq hr.rm) (pe_ix (g_ix hr.rm) (pv 3) (pe_int) (fun _ _ =>
   rfl)) (pe_str) (nomark _)) (pw_and1 (pt_cmpR (g_eq hr.rm) (pe_ix (g_ix hr.rm) (pv 2) (pe_int) (fun _ _ => rfl)) (pe_ix (g_ix hr.rm) (pv 3) (pe_int) (fun _ _ => rfl))
   (nomark _)))))) (pss_one (ps_ret (pe_bl))) (pss_nil)) (pss_cons (ps_if (PW.pt (pw_and (pt_cmpR (g_eq hr.rm) (pe_ix (g_ix hr.rm) (pv 2) (pe_int) (fun _ _ => rfl))
   (pe_str) (nomark _)) (pw_and (pt_cmpR (g_in hr.rm) (pe_ix (g_ix hr.rm) (pv 3) (pe_int) (fun _ _ => rfl)) (pe_tup (pa_cons (pe_str) (pa_cons (pe_str) (pa_cons (pe_str)
   (pa_nil))))) rfl) (pw_and1 (pt_cmpR (g_eq hr.rm) (pe_ix (g_ix hr.rm) (pv 2) (pe_int) (fun _ _ => rfl)) (pe_ix (g_ix hr.rm) (pv 3) (pe_int) (fun _ _ => rfl)) (nomark
   _)))))) (pss_one (ps_ret (pe_bl))) (pss_nil)) (pss_one (ps_if (PW.pt (pw_and (pt_cmpR (g_eq hr.rm) (pe_ix (g_ix hr.rm) (pv 2) (pe_int) (fun _ _ => rfl)) (pe_str)
   (nomark _)) (pw_and (pt_cmpR (g_in hr.rm) (pe_ix (g_ix hr.rm) (pv 3) (pe_int) (fun _ _ => rfl)) (pe_tup (pa_cons (pe_str) (pa_cons (pe_str) (pa_nil)))) rfl) (pw_and1
   (pt_cmpR (g_eq hr.rm) (pe_ix (g_ix hr.rm) (pv 2) (pe_int) (fun _ _ => rfl)) (pe_ix (g_ix hr.rm) (pv 3) (pe_int) (fun _ _ => rfl)) (nomark _)))))) (pss_one (ps_ret
   (pe_bl))) (pss_nil))))))))) (pss_one (ps_ret (pe_bl)))
theorem ok_rows_presupposed (B : Blt mg) (T : TxC Γ mg) (C : Kc Γ)  {a : Addr} {fd : FuncData} (F : Fun Γ.K "rows_presupposed" "rows_presupposed" st_rows_presupposed a fd) : FnG P w Γ.K mg base CX0 1 a fd ps_rows_presupposed (sp_rows_presupposed Γ) := by
  refine fnG (k := 0) (t := t_rows_presupposed Γ) F fs_rows_presupposed (fun _ _ _ _ h => h.1) (pure_of (N := N_rows_presupposed) (fun L => snd_rows_presupposed C) (by decide) dd_rows_presupposed) fun cdv A outer s H E hr => ?_
  have nd := fs_rows_presupposed.nd
  exact pss_cons (ps_set (i := 1) nd rfl (Or.inl rfl) (pe_ix (g_ix hr.rm) (pv 0) (pe_int) (fun _ _ => rfl))) (pss_cons (ps_if (pt_cmpR (g_eq hr.rm) (pv 1) (pe_str) (nomark _))
   (pss_one (ps_ret (pe_lst (pa_cons (pe_tup (pa_cons (pe_ix (g_ix hr.rm) (pv 0) (pe_int) (fun _ _ => rfl)) (pa_cons (pe_str) (pa_nil)))) (pa_nil))))) (pss_nil))
   (pss_cons (ps_if (pt_cmpR (g_eq hr.rm) (pv 1) (pe_str) (nomark _)) (pss_one (ps_ret (pe_lst (pa_cons (pe_tup (pa_cons (pe_ix (g_ix hr.rm) (pv 0) (pe_int) (fun _ _ =>
   rfl)) (pa_cons (pe_str) (pa_nil)))) (pa_nil))))) (pss_nil)) (pss_one (ps_ret (pe_ifExp (pt_cmpR (g_in hr.rm) (pv 1) (pe_con rfl T.m_ANSWERS) rfl) (pe_lst (pa_cons
   (pe_tup (pa_cons (pe_ix (g_ix hr.rm) (pv 0) (pe_int) (fun _ _ => rfl)) (pa_cons (pe_str) (pa_nil)))) (pa_cons (pe_tup (pa_cons (pe_ix (g_ix hr.rm) (pv 0) (pe_int) (fun
   _ _ => rfl)) (pa_cons (pe_str) (pa_nil)))) (pa_nil)))) (pe_lst (pa_nil)))))))
theorem ok_does_deny (B : Blt mg) (T : TxC Γ mg) (C : Kc Γ) (c_rows_presupposed : Cal P w Γ.K mg base CX0 "rows_presupposed" 1 ps_rows_presupposed (sp_rows_presupposed Γ)) {a : Addr} {fd : FuncData} (F : Fun Γ.K "does_deny" "does_deny" st_does_deny a fd) : FnG P w Γ.K mg base CX0 2 a fd ps_does_deny (sp_does_deny Γ) := by
  refine fnG (k := 1) (t := t_does_deny Γ) F fs_does_deny (fun _ _ _ _ h => h.1) (pure_of (N := N_does_deny) (fun L => snd_does_deny C) (by decide) dd_does_deny) fun cdv A outer s H E hr => ?_
  have nd := fs_does_deny.nd
  exact pss_cons (ps_if (pt_cmpR (g_notIn hr.rm) (pe_ix (g_ix hr.rm) (pv 0) (pe_int) (fun _ _ => rfl)) (pe_con rfl T.m_ROWS) rfl) (pss_one (ps_ret (pe_bl))) (pss_nil)) (pss_cons
   (ps_set (i := 2) nd rfl (Or.inl rfl) (pe_ifExp (pt_cmpR (g_eq hr.rm) (pe_ix (g_ix hr.rm) (pv 0) (pe_int) (fun _ _ => rfl)) (pe_str) (nomark _)) (pe_str) (pe_str)))
   (pss_one (ps_ret (pe_cmpR (g_in hr.rm) (pe_tup (pa_cons (pe_ix (g_ix hr.rm) (pv 0) (pe_int) (fun _ _ => rfl)) (pa_cons (pv 2) (pa_nil)))) (pe_fn c_rows_presupposed hr
   (by decide) rfl pass0 (pa_cons (pv 1) (pa_nil))) rfl))))
theorem ok_do_conflict (B : Blt mg) (T : TxC Γ mg) (C : Kc Γ) (c_does_deny : Cal P w Γ.K mg base CX0 "does_deny" 2 ps_does_deny (sp_does_deny Γ)) {a : Addr} {fd : FuncData} (F : Fun Γ.K "do_conflict" "do_conflict" st_do_conflict a fd) : FnG P w Γ.K mg base CX0 3 a fd ps_do_conflict (sp_do_conflict Γ) := by
  refine fnG (k := 2) (t := t_do_conflict Γ) F fs_do_conflict (fun _ _ _ _ h => h.1) (pure_of (N := N_do_conflict) (fun L => snd_do_conflict C) (by decide) dd_do_conflict) fun cdv A outer s H E hr => ?_
  have nd := fs_do_conflict.nd
  exact pss_cons (ps_if (pt_cmpR (g_eq hr.rm) (pv 0) (pv 1) (nomark _)) (pss_one (ps_ret (pe_bl))) (pss_nil)) (pss_cons (ps_if (PW.pt (pw_or (PW.pt (pw_and (pt_cmpR (g_in hr.rm)
   (pe_ix (g_ix hr.rm) (pv 0) (pe_int) (fun _ _ => rfl)) (pe_con rfl T.m_ROWS) rfl) (pw_and1 (pt_cmpR (g_in hr.rm) (pe_ix (g_ix hr.rm) (pv 1) (pe_int) (fun _ _ => rfl))
   (pe_con rfl T.m_ROWS) rfl)))) (pw_or1 (PW.pt (pw_and (pt_cmpR (g_eq hr.rm) (pe_ix (g_ix hr.rm) (pv 0) (pe_int) (fun _ _ => rfl)) (pe_str) (nomark _)) (pw_and1 (pt_cmpR
   (g_eq hr.rm) (pe_ix (g_ix hr.rm) (pv 1) (pe_int) (fun _ _ => rfl)) (pe_str) (nomark _)))))))) (pss_one (ps_ret (pe_cmpR (g_eq hr.rm) (pe_ix (g_ix hr.rm) (pv 0)
   (pe_int) (fun _ _ => rfl)) (pe_ix (g_ix hr.rm) (pv 1) (pe_int) (fun _ _ => rfl)) (nomark _)))) (pss_nil)) (pss_cons (ps_if (PW.pt (pw_and (pt_cmpR (g_in hr.rm) (pe_ix
   (g_ix hr.rm) (pv 0) (pe_int) (fun _ _ => rfl)) (pe_con rfl T.m_ANSWERS) rfl) (pw_and1 (pt_cmpR (g_in hr.rm) (pe_ix (g_ix hr.rm) (pv 1) (pe_int) (fun _ _ => rfl))
   (pe_con rfl T.m_ANSWERS) rfl)))) (pss_one (ps_ret (pe_cmpR (g_eq hr.rm) (pe_slice g_sl (pv 0) (po_some (pe_int)) (po_none)) (pe_slice g_sl (pv 1) (po_some (pe_int))
   (po_none)) (nomark _)))) (pss_nil)) (pss_one (ps_ret (L2.pe_or (pe_fn c_does_deny hr (by decide) rfl pass0 (pa_cons (pv 0) (pa_cons (pv 1) (pa_nil)))) (pe_one (pe_fn
   c_does_deny hr (by decide) rfl pass0 (pa_cons (pv 1) (pa_cons (pv 0) (pa_nil))))))))))
theorem ok_law (B : Blt mg) (T : TxC Γ mg) (C : Kc Γ) (c_law_begun : Cal P w Γ.K mg base CX0 "_law_begun" 1 ps_law_begun (sp_law_begun Γ)) (c_law_words : Cal P w Γ.K mg base CX0 "_law_words" 4 ps_law_words (sp_law_words Γ)) (c_law_take : Cal P w Γ.K mg base CX0 "_law_take" 2 ps_law_take (sp_law_take Γ)) (c_law_pick : Cal P w Γ.K mg base CX0 "_law_pick" 3 ps_law_pick (sp_law_pick Γ)) (c_law_fact : Cal P w Γ.K mg base CX0 "_law_fact" 4 ps_law_fact (sp_law_fact Γ)) (c_law_beside : Cal P w Γ.K mg base CX0 "_law_beside" 4 ps_law_beside (sp_law_beside Γ)) (c_law_conflicts : Cal P w Γ.K mg base CX0 "_law_conflicts" 1 ps_law_conflicts (sp_law_conflicts Γ)) (c_do_conflict : Cal P w Γ.K mg base CX0 "do_conflict" 3 ps_do_conflict (sp_do_conflict Γ)) (ck_do_conflict_other_one : CalK P w Γ.K mg base CX0 "do_conflict" 3 ps_do_conflict ["other", "one"] [1, 0] (sp_do_conflict Γ)) {a : Addr} {fd : FuncData} (F : Fun Γ.K "law" "law" st_law a fd) : FnG P w Γ.K mg base CX0 5 a fd ps_law (sp_law Γ) := by
  refine fnG (k := 4) (t := t_law Γ) F fs_law (fun _ _ _ _ h => h.1) (pure_law (N := N_law) (by decide) (fun L => snd_law_rest) (by decide) dd_law_rest) fun cdv A outer s H E hr => ?_
  have nd := fs_law.nd
  exact pss_cons (ps_set (i := 1) nd rfl (Or.inl rfl) (pe_fn c_law_begun hr (by decide) rfl pass0 (pa_cons (pv 0) (pa_nil)))) (pss_cons (ps_for PassesOwn.never rfl (pi_range1 rfl
   B.n_range (pa_cons (pe_int) (pa_nil))) (pg_name (i := 2) nd rfl (Or.inl rfl)) (pss_cons (ps_par (i := 3) (j := 4) rfl nd rfl rfl (by decide) rfl rfl (pa_cons (pe_fn
   c_law_words hr (by decide) rfl pass0 (pa_cons (pv 1) (pa_cons (pe_op g_add (pe_int) (pe_fn c_law_take hr (by decide) rfl pass0 (pa_cons (pv 1) (pa_cons (pe_int)
   (pa_nil))))) (pa_nil)))) (pa_cons (pe_lst (pa_nil)) (pa_nil))) (by rfl)) (pss_cons (ps_set (i := 5) nd rfl (Or.inl rfl) (pe_fn c_law_pick hr (by decide) rfl pass0
   (pa_cons (pv 1) (pa_cons (pe_lst (pa_cons (pe_int) (pa_cons (pe_int) (pa_cons (pe_int) (pa_nil))))) (pa_nil))))) (pss_cons (ps_for PassesOwn.never rfl (pi_range1 rfl
   B.n_range (pa_cons (pe_int) (pa_nil))) (pg_name (i := 6) nd rfl (Or.inl rfl)) (pss_cons (ps_expr (pe_bm PySem.F.plainAttrs_list PySem.F.slot_list_append
   PySem.F.type_list_append mt_append (pv 4) (pa_cons (pe_fn c_law_fact hr (by decide) rfl pass0 (pa_cons (pv 1) (pa_cons (pv 3) (pa_cons (pv 5) (pa_cons (pe_int)
   (pa_nil)))))) pa_nil))) (pss_one (ps_expr (pe_bm PySem.F.plainAttrs_list PySem.F.slot_list_append PySem.F.type_list_append mt_append (pv 4) (pa_cons (pe_fn
   c_law_beside hr (by decide) rfl pass0 (pa_cons (pv 1) (pa_cons (pv 3) (pa_cons (pe_ix (g_ix hr.rm) (pv 4) (pe_un g_neg (pe_int)) (fun _ _ => rfl)) (pa_nil)))))
   pa_nil)))))) (pss_one (ps_for PassesOwn.never rfl (pi_gen (pv 4)) (pg_name (i := 7) nd rfl (Or.inl rfl)) (pss_one (ps_for PassesOwn.never rfl (pi_gen (pv 4)) (pg_name
   (i := 8) nd rfl (Or.inl rfl)) (pss_cons (ps_set (i := 9) nd rfl (Or.inl rfl) (pe_fn c_law_conflicts hr (by decide) rfl pass0 (pa_cons (pv 7) (pa_cons (pv 8)
   (pa_nil))))) (pss_one (ps_if (pt_cmpR (g_ne hr.rm) (pe_callB (g_repr hr) rfl B.n_repr (by decide +kernel) (pa_cons (pe_lst (pa_cons (pe_fn c_do_conflict hr (by decide)
   rfl pass0 (pa_cons (pv 7) (pa_cons (pv 8) (pa_nil)))) (pa_cons (pe_fnK ck_do_conflict_other_one hr (by decide) rfl pass0 (pk_cons (pv 8) (pk_cons (pv 7) (pk_nil))))
   (pa_nil)))) (pa_nil))) (pe_callB (g_repr hr) rfl B.n_repr (by decide +kernel) (pa_cons (pe_lst (pa_cons (pv 9) (pa_cons (pv 9) (pa_nil)))) (pa_nil))) (nomark _))
   (pss_one (ps_ret (pe_bl))) (pss_nil)))))))))))) (pss_one (ps_ret (pe_bl))))
end
end GP

set_option Elab.async false
set_option linter.all false
set_option maxRecDepth 100000
set_option maxHeartbeats 4000000
namespace GP
open PySem PySem.Spec PyProof.Rows L2
def conT (v0 v1 : V) : String → V := fun n => if n = "ROWS" then v0 else if n = "ANSWERS" then v1 else .non
theorem conT_ROWS (v0 v1 : V) : conT v0 v1 "ROWS" = v0 := if_pos rfl
theorem conT_ANSWERS (v0 v1 : V) : conT v0 v1 "ANSWERS" = v1 := (if_neg (by decide)).trans (if_pos rfl)
theorem all_mk {P : Program} {w : World} {K : PySem.W.Frag} {h : Heap} {mg : Str → Option Value} {fa : Addr} (X : K.In h) (G : h.Ns mainGlobals mg) (hfa : mg "law" = some (.ref fa))
   {f0 : Addr} {od0 an0 : Option Addr} {sl0 : Array (Option Value)} {oc0 kV0 dc0 pm0 cd0 ct0 : Value} {f1 : Addr} {od1 an1 : Option Addr} {sl1 : Array (Option Value)} {oc1
   kV1 dc1 pm1 cd1 ct1 : Value} {f2 : Addr} {od2 an2 : Option Addr} {sl2 : Array (Option Value)} {oc2 kV2 dc2 pm2 cd2 ct2 : Value} {f3 : Addr} {od3 an3 : Option Addr}
   {sl3 : Array (Option Value)} {oc3 kV3 dc3 pm3 cd3 ct3 : Value} {f4 : Addr} {od4 an4 : Option Addr} {sl4 : Array (Option Value)} {oc4 kV4 dc4 pm4 cd4 ct4 : Value} {f5 :
   Addr} {od5 an5 : Option Addr} {sl5 : Array (Option Value)} {oc5 kV5 dc5 pm5 cd5 ct5 : Value} {f6 : Addr} {od6 an6 : Option Addr} {sl6 : Array (Option Value)} {oc6 kV6
   dc6 pm6 cd6 ct6 : Value} {f7 : Addr} {od7 an7 : Option Addr} {sl7 : Array (Option Value)} {oc7 kV7 dc7 pm7 cd7 ct7 : Value} {f8 : Addr} {od8 an8 : Option Addr} {sl8 :
   Array (Option Value)} {oc8 kV8 dc8 pm8 cd8 ct8 : Value} {f9 : Addr} {od9 an9 : Option Addr} {sl9 : Array (Option Value)} {oc9 kV9 dc9 pm9 cd9 ct9 : Value} {f10 : Addr}
   {od10 an10 : Option Addr} {sl10 : Array (Option Value)} {oc10 kV10 dc10 pm10 cd10 ct10 : Value} {f11 : Addr} {od11 an11 : Option Addr} {sl11 : Array (Option Value)}
   {oc11 kV11 dc11 pm11 cd11 ct11 : Value} {u0_0 : Tok} {u0_1 : Tok} {q0 : Addr} {oq0 : Option Addr} {nq0 : Nat} {sq0 : Array (Option Value)} {u1_0 : Tok} {u1_1 : Tok}
   {q1 : Addr} {oq1 : Option Addr} {nq1 : Nat} {sq1 : Array (Option Value)}
   (a0 : PySem.W.nsIn K mainGlobals "_law_begun" = some (some (.ref f0))) (l0 : K.lookup f0 = some ⟨oc0, od0, .func (PySem.W.fnOf "_law_begun" "_law_begun" (defArgs st_law_begun) (defBody st_law_begun) (defScope st_law_begun) .none kV0 dc0 pm0 an0 cd0 ct0), sl0⟩) (c0 : PySem.W.codeIn K cd0 "_law_begun" = true) (k0 : PySem.W.keepIn K (.ref f0) = true)
    (a1 : PySem.W.nsIn K mainGlobals "_law_mixed" = some (some (.ref f1))) (l1 : K.lookup f1 = some ⟨oc1, od1, .func (PySem.W.fnOf "_law_mixed" "_law_mixed" (defArgs st_law_mixed) (defBody st_law_mixed) (defScope st_law_mixed) .none kV1 dc1 pm1 an1 cd1 ct1), sl1⟩) (c1 : PySem.W.codeIn K cd1 "_law_mixed" = true) (k1 : PySem.W.keepIn K (.ref f1) = true)
    (a2 : PySem.W.nsIn K mainGlobals "_law_take" = some (some (.ref f2))) (l2 : K.lookup f2 = some ⟨oc2, od2, .func (PySem.W.fnOf "_law_take" "_law_take" (defArgs st_law_take) (defBody st_law_take) (defScope st_law_take) .none kV2 dc2 pm2 an2 cd2 ct2), sl2⟩) (c2 : PySem.W.codeIn K cd2 "_law_take" = true) (k2 : PySem.W.keepIn K (.ref f2) = true)
    (a3 : PySem.W.nsIn K mainGlobals "_law_pick" = some (some (.ref f3))) (l3 : K.lookup f3 = some ⟨oc3, od3, .func (PySem.W.fnOf "_law_pick" "_law_pick" (defArgs st_law_pick) (defBody st_law_pick) (defScope st_law_pick) .none kV3 dc3 pm3 an3 cd3 ct3), sl3⟩) (c3 : PySem.W.codeIn K cd3 "_law_pick" = true) (k3 : PySem.W.keepIn K (.ref f3) = true)
    (a4 : PySem.W.nsIn K mainGlobals "_law_words" = some (some (.ref f4))) (l4 : K.lookup f4 = some ⟨oc4, od4, .func (PySem.W.fnOf "_law_words" "_law_words" (defArgs st_law_words) (defBody st_law_words) (defScope st_law_words) .none kV4 dc4 pm4 an4 cd4 ct4), sl4⟩) (c4 : PySem.W.codeIn K cd4 "_law_words" = true) (k4 : PySem.W.keepIn K (.ref f4) = true)
    (a5 : PySem.W.nsIn K mainGlobals "_law_fact" = some (some (.ref f5))) (l5 : K.lookup f5 = some ⟨oc5, od5, .func (PySem.W.fnOf "_law_fact" "_law_fact" (defArgs st_law_fact) (defBody st_law_fact) (defScope st_law_fact) .none kV5 dc5 pm5 an5 cd5 ct5), sl5⟩) (c5 : PySem.W.codeIn K cd5 "_law_fact" = true) (k5 : PySem.W.keepIn K (.ref f5) = true)
    (a6 : PySem.W.nsIn K mainGlobals "_law_beside" = some (some (.ref f6))) (l6 : K.lookup f6 = some ⟨oc6, od6, .func (PySem.W.fnOf "_law_beside" "_law_beside" (defArgs st_law_beside) (defBody st_law_beside) (defScope st_law_beside) .none kV6 dc6 pm6 an6 cd6 ct6), sl6⟩) (c6 : PySem.W.codeIn K cd6 "_law_beside" = true) (k6 : PySem.W.keepIn K (.ref f6) = true)
    (a7 : PySem.W.nsIn K mainGlobals "_law_conflicts" = some (some (.ref f7))) (l7 : K.lookup f7 = some ⟨oc7, od7, .func (PySem.W.fnOf "_law_conflicts" "_law_conflicts" (defArgs st_law_conflicts) (defBody st_law_conflicts) (defScope st_law_conflicts) .none kV7 dc7 pm7 an7 cd7 ct7), sl7⟩) (c7 : PySem.W.codeIn K cd7 "_law_conflicts" = true) (k7 : PySem.W.keepIn K (.ref f7) = true)
    (a8 : PySem.W.nsIn K mainGlobals "rows_presupposed" = some (some (.ref f8))) (l8 : K.lookup f8 = some ⟨oc8, od8, .func (PySem.W.fnOf "rows_presupposed" "rows_presupposed" (defArgs st_rows_presupposed) (defBody st_rows_presupposed) (defScope st_rows_presupposed) .none kV8 dc8 pm8 an8 cd8 ct8), sl8⟩) (c8 : PySem.W.codeIn K cd8 "rows_presupposed" = true) (k8 : PySem.W.keepIn K (.ref f8) = true)
    (a9 : PySem.W.nsIn K mainGlobals "does_deny" = some (some (.ref f9))) (l9 : K.lookup f9 = some ⟨oc9, od9, .func (PySem.W.fnOf "does_deny" "does_deny" (defArgs st_does_deny) (defBody st_does_deny) (defScope st_does_deny) .none kV9 dc9 pm9 an9 cd9 ct9), sl9⟩) (c9 : PySem.W.codeIn K cd9 "does_deny" = true) (k9 : PySem.W.keepIn K (.ref f9) = true)
    (a10 : PySem.W.nsIn K mainGlobals "do_conflict" = some (some (.ref f10))) (l10 : K.lookup f10 = some ⟨oc10, od10, .func (PySem.W.fnOf "do_conflict" "do_conflict" (defArgs st_do_conflict) (defBody st_do_conflict) (defScope st_do_conflict) .none kV10 dc10 pm10 an10 cd10 ct10), sl10⟩) (c10 : PySem.W.codeIn K cd10 "do_conflict" = true) (k10 : PySem.W.keepIn K (.ref f10) = true)
    (a11 : PySem.W.nsIn K mainGlobals "law" = some (some (.ref f11))) (l11 : K.lookup f11 = some ⟨oc11, od11, .func (PySem.W.fnOf "law" "law" (defArgs st_law) (defBody st_law) (defScope st_law) .none kV11 dc11 pm11 an11 cd11 ct11), sl11⟩) (c11 : PySem.W.codeIn K cd11 "law" = true) (k11 : PySem.W.keepIn K (.ref f11) = true)
    (z_len : PySem.W.nsIn K mainGlobals "len" = some none)
    (z_list : PySem.W.nsIn K mainGlobals "list" = some none)
    (z_range : PySem.W.nsIn K mainGlobals "range" = some none)
    (z_repr : PySem.W.nsIn K mainGlobals "repr" = some none)
    (x0 : PySem.W.nsIn K mainGlobals "ROWS" = some (some (.ref q0))) (y0 : K.lookup q0 = some ⟨.type "tuple", oq0, .seq #[.str "spender" u0_0, .str "request" u0_1] nq0, sq0⟩)
    (x1 : PySem.W.nsIn K mainGlobals "ANSWERS" = some (some (.ref q1))) (y1 : K.lookup q1 = some ⟨.type "tuple", oq1, .seq #[.str "consent" u1_0, .str "refuse" u1_1] nq1, sq1⟩) :
    ∃ (Γ : Cn) (fd : FuncData), Γ.K = K ∧ (∀ (s : Shared) (u : Value), BindsTo s fd ⟨[u], []⟩ [("_law_script", u)]) ∧ ∀ base : Heap, K.In base → base.Ns mainGlobals mg → FnG P w K mg base CX0 5 fa fd ["_law_script"] (sp_law Γ) := by
  have e := hfa.symm.trans (PySem.W.mg_of X G a11)
  cases e
  let Γ : Cn := ⟨K, fun _ => none, conT (.ref q0) (.ref q1)⟩
  have e0 : Γ.con "ROWS" = .ref q0 := conT_ROWS (.ref q0) (.ref q1)
  have e1 : Γ.con "ANSWERS" = .ref q1 := conT_ANSWERS (.ref q0) (.ref q1)
  have T : TxC Γ mg := ⟨by rw [e0]; exact ⟨_, PySem.W.mg_of X G x0, rfl⟩, by rw [e1]; exact ⟨_, PySem.W.mg_of X G x1, rfl⟩⟩
  have C : Kc Γ := ⟨fun L G => by rw [e0]; exact rep_top (xs := [.str "spender", .str "request"]) y0 (show 2 ≤ 1000 by decide) (.cons (⟨_, rfl⟩) (.cons (⟨_, rfl⟩) (.nil))) (.cons (.str (by decide +kernel)) (.cons (.str (by decide +kernel)) (.nil))) (by decide), fun L G => by rw [e1]; exact rep_top (xs := [.str "consent", .str "refuse"]) y1 (show 2 ≤ 1000 by decide) (.cons (⟨_, rfl⟩) (.cons (⟨_, rfl⟩) (.nil))) (.cons (.str (by decide +kernel)) (.cons (.str (by decide +kernel)) (.nil))) (by decide)⟩
  have B : Blt mg := ⟨PySem.W.mg_none_of X G z_len, PySem.W.mg_none_of X G z_list, PySem.W.mg_none_of X G z_range, PySem.W.mg_none_of X G z_repr⟩
  have F0 : Fun Γ.K "_law_begun" "_law_begun" st_law_begun _ _ := fun_mk (st := st_law_begun) l0 c0 k0
  have F1 : Fun Γ.K "_law_mixed" "_law_mixed" st_law_mixed _ _ := fun_mk (st := st_law_mixed) l1 c1 k1
  have F2 : Fun Γ.K "_law_take" "_law_take" st_law_take _ _ := fun_mk (st := st_law_take) l2 c2 k2
  have F3 : Fun Γ.K "_law_pick" "_law_pick" st_law_pick _ _ := fun_mk (st := st_law_pick) l3 c3 k3
  have F4 : Fun Γ.K "_law_words" "_law_words" st_law_words _ _ := fun_mk (st := st_law_words) l4 c4 k4
  have F5 : Fun Γ.K "_law_fact" "_law_fact" st_law_fact _ _ := fun_mk (st := st_law_fact) l5 c5 k5
  have F6 : Fun Γ.K "_law_beside" "_law_beside" st_law_beside _ _ := fun_mk (st := st_law_beside) l6 c6 k6
  have F7 : Fun Γ.K "_law_conflicts" "_law_conflicts" st_law_conflicts _ _ := fun_mk (st := st_law_conflicts) l7 c7 k7
  have F8 : Fun Γ.K "rows_presupposed" "rows_presupposed" st_rows_presupposed _ _ := fun_mk (st := st_rows_presupposed) l8 c8 k8
  have F9 : Fun Γ.K "does_deny" "does_deny" st_does_deny _ _ := fun_mk (st := st_does_deny) l9 c9 k9
  have F10 : Fun Γ.K "do_conflict" "do_conflict" st_do_conflict _ _ := fun_mk (st := st_do_conflict) l10 c10 k10
  have F11 : Fun Γ.K "law" "law" st_law _ _ := fun_mk (st := st_law) l11 c11 k11
  refine ⟨Γ, PySem.W.fnOf "law" "law" (defArgs st_law) (defBody st_law) (defScope st_law) .none kV11 dc11 pm11 an11 cd11 ct11, rfl, fun s u => .of_eq rfl, fun base kb nb => ?_⟩
  have o_law_begun := ok_law_begun (P := P) (w := w) (base := base) B T C   F0
  have c_law_begun := cal_mk F0 (PySem.W.mg_of X G a0) (F0.binds fun _ _ _ _ _ _ us hl => match us, hl with | [_], _ => rfl) o_law_begun
  have o_law_mixed := ok_law_mixed (P := P) (w := w) (base := base) B T C   F1
  have c_law_mixed := cal_mk F1 (PySem.W.mg_of X G a1) (F1.binds fun _ _ _ _ _ _ us hl => match us, hl with | [_], _ => rfl) o_law_mixed
  have o_law_take := ok_law_take (P := P) (w := w) (base := base) B T C c_law_mixed  F2
  have c_law_take := cal_mk F2 (PySem.W.mg_of X G a2) (F2.binds fun _ _ _ _ _ _ us hl => match us, hl with | [_, _], _ => rfl) o_law_take
  have o_law_pick := ok_law_pick (P := P) (w := w) (base := base) B T C c_law_take  F3
  have c_law_pick := cal_mk F3 (PySem.W.mg_of X G a3) (F3.binds fun _ _ _ _ _ _ us hl => match us, hl with | [_, _], _ => rfl) o_law_pick
  have o_law_words := ok_law_words (P := P) (w := w) (base := base) B T C c_law_pick c_law_take  F4
  have c_law_words := cal_mk F4 (PySem.W.mg_of X G a4) (F4.binds fun _ _ _ _ _ _ us hl => match us, hl with | [_, _], _ => rfl) o_law_words
  have o_law_fact := ok_law_fact (P := P) (w := w) (base := base) B T C c_law_take c_law_pick  F5
  have c_law_fact := cal_mk F5 (PySem.W.mg_of X G a5) (F5.binds fun _ _ _ _ _ _ us hl => match us, hl with | [_, _, _, _], _ => rfl) o_law_fact
  have o_law_beside := ok_law_beside (P := P) (w := w) (base := base) B T C c_law_take c_law_pick  F6
  have c_law_beside := cal_mk F6 (PySem.W.mg_of X G a6) (F6.binds fun _ _ _ _ _ _ us hl => match us, hl with | [_, _, _], _ => rfl) o_law_beside
  have o_law_conflicts := ok_law_conflicts (P := P) (w := w) (base := base) B T C   F7
  have c_law_conflicts := cal_mk F7 (PySem.W.mg_of X G a7) (F7.binds fun _ _ _ _ _ _ us hl => match us, hl with | [_, _], _ => rfl) o_law_conflicts
  have o_rows_presupposed := ok_rows_presupposed (P := P) (w := w) (base := base) B T C   F8
  have c_rows_presupposed := cal_mk F8 (PySem.W.mg_of X G a8) (F8.binds fun _ _ _ _ _ _ us hl => match us, hl with | [_], _ => rfl) o_rows_presupposed
  have o_does_deny := ok_does_deny (P := P) (w := w) (base := base) B T C c_rows_presupposed  F9
  have c_does_deny := cal_mk F9 (PySem.W.mg_of X G a9) (F9.binds fun _ _ _ _ _ _ us hl => match us, hl with | [_, _], _ => rfl) o_does_deny
  have o_do_conflict := ok_do_conflict (P := P) (w := w) (base := base) B T C c_does_deny  F10
  have c_do_conflict := cal_mk F10 (PySem.W.mg_of X G a10) (F10.binds fun _ _ _ _ _ _ us hl => match us, hl with | [_, _], _ => rfl) o_do_conflict
  have ck_do_conflict_other_one : CalK P w Γ.K mg base CX0 "do_conflict" 3 ps_do_conflict ["other", "one"] [1, 0] (sp_do_conflict Γ) := ⟨f10, _, o_do_conflict, PySem.W.mg_of X G a10, F10.kp, by decide, fun s ws hin hl => match ws, hl with | [_, _], _ => .of_eq rfl⟩
  exact ok_law (P := P) (w := w) (base := base) B T C c_law_begun c_law_words c_law_take c_law_pick c_law_fact c_law_beside c_law_conflicts c_do_conflict ck_do_conflict_other_one F11
end GP
open PySem PySem.W PyProof.Rows
set_option maxRecDepth 100000 in
set_option maxHeartbeats 0 in
theorem PySem.Challenge.cw_hearpurse_k21_conflicts_of_facts_holds : PySem.Challenge.rw_hearpurse_k21_conflicts_of_facts.Holds := by
  w_on; o_law; k_head; (case hw => w_witness2)
  k_fill
  refine GP.walkG (l := PySem.Challenge.rw_hearpurse_k21_conflicts_of_facts) (k := 5) (x := "_law_script") rfl rfl ⟨rfl, by decide, by decide⟩ (fun w h Y => PySem.W.kIn_of Y) ?F
  case F =>
    intro w mg fa h KX G hmg
    refine' GP.all_mk KX G hmg ?a0 ?l0 ?c0 ?k0 ?a1 ?l1 ?c1 ?k1 ?a2 ?l2 ?c2 ?k2 ?a3 ?l3 ?c3 ?k3 ?a4 ?l4 ?c4 ?k4 ?a5 ?l5 ?c5 ?k5 ?a6 ?l6 ?c6 ?k6 ?a7 ?l7 ?c7 ?k7 ?a8 ?l8 ?c8 ?k8 ?a9 ?l9 ?c9 ?k9 ?a10 ?l10 ?c10 ?k10 ?a11 ?l11 ?c11 ?k11 ?z_len ?z_list ?z_range ?z_repr ?x0 ?y0 ?x1 ?y1
    (case a0 => k_is); (case l0 => k_is); (case c0 => k_is); (case k0 => k_is); (case a1 => k_is); (case l1 => k_is)
    (case c1 => k_is); (case k1 => k_is); (case a2 => k_is); (case l2 => k_is); (case c2 => k_is); (case k2 => k_is)
    (case a3 => k_is); (case l3 => k_is); (case c3 => k_is); (case k3 => k_is); (case a4 => k_is); (case l4 => k_is)
    (case c4 => k_is); (case k4 => k_is); (case a5 => k_is); (case l5 => k_is); (case c5 => k_is); (case k5 => k_is)
    (case a6 => k_is); (case l6 => k_is); (case c6 => k_is); (case k6 => k_is); (case a7 => k_is); (case l7 => k_is)
    (case c7 => k_is); (case k7 => k_is); (case a8 => k_is); (case l8 => k_is); (case c8 => k_is); (case k8 => k_is)
    (case a9 => k_is); (case l9 => k_is); (case c9 => k_is); (case k9 => k_is); (case a10 => k_is); (case l10 => k_is)
    (case c10 => k_is); (case k10 => k_is); (case a11 => k_is); (case l11 => k_is); (case c11 => k_is); (case k11 => k_is)
    (case z_len => k_is); (case z_list => k_is); (case z_range => k_is); (case z_repr => k_is); (case x0 => k_is); (case y0 => k_is)
    (case x1 => k_is); (case y1 => k_is)
#print axioms PySem.Challenge.cw_hearpurse_k21_conflicts_of_facts_holds


